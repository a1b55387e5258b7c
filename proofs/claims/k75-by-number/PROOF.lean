import PyProof.Rows.All
import Wide.All
import OpenK.AllK
import Wide.FinOn
import KE.KStateDown
import Lean
import HandS.ForMost
import HandS.ForExc
import HandS.Deep
import HandS.More
import HandS.Strs
import HandS.TupSets
import HandS.SortInts
import HandS.SortRule
import HandS.Wide
import HandS.WideBits
import HandS.IsInst
import HandS.Defaults
import HandS.Head0
import HandS.Head1
import HandS.Head2
import HandS.HeadEnd
import HandS.HeadHook1
import HandS.HeadHook2
import HandS.HeadHook3
import HandS.HeadHook4
import HandS.ExcIs
import HandS.ExcValue
import HandS.Codes
import HandS.Walk
import HandS.Keys
import KE.SortData
import PySem.Challenge.RW_ontheline_k75_whole_trees_by_number
set_option Elab.async false
set_option linter.all false
set_option maxRecDepth 100000
set_option maxHeartbeats 0
namespace G46
open PySem PySem.Spec PyProof.Rows L2
/-! ### the text by places -/
def top (i : Nat) : Stmt := PySem.Challenge.pw_ontheline_k75_whole_trees_by_number.main.body.getD i (.Pass ⟨0, 0, 0, 0⟩)
abbrev s_is_number : Stmt := top 24
abbrev s_are_unlike_names : Stmt := top 25
abbrev s_is_ranking : Stmt := top 26
abbrev s_is_folk : Stmt := top 27
abbrev s_must_be_folk : Stmt := top 28
abbrev s_is_tie : Stmt := top 30
abbrev s_reached : Stmt := top 31
abbrev s_hang_together : Stmt := top 32
abbrev s_is_right_tree : Stmt := top 33
abbrev s_must_be_tree : Stmt := top 34
abbrev s_names_by : Stmt := top 35
abbrev s_apart_at : Stmt := top 36
abbrev s_allowed : Stmt := top 37
abbrev s_hangs_at : Stmt := top 38
abbrev s_lasts : Stmt := top 39
abbrev s_taken_out : Stmt := top 40
abbrev s_tie_of : Stmt := top 41
abbrev s_tree_wrong : Stmt := top 42
abbrev s_trees_many : Stmt := top 43
abbrev s_tree_by : Stmt := top 44
abbrev s_tree_number : Stmt := top 45
abbrev s_law_mix : Stmt := top 47
abbrev s_law_left : Stmt := top 48
abbrev s_law_draw : Stmt := top 49
abbrev s_law_names : Stmt := top 50
abbrev s_law_shuffled : Stmt := top 51
abbrev s_law_tree : Stmt := top 52
abbrev s_law_falling : Stmt := top 53
abbrev s_law_folk : Stmt := top 54
abbrev s_law_together : Stmt := top 55
abbrev s_law_apart : Stmt := top 56
abbrev s_law_whole : Stmt := top 57
abbrev s_law_is_tree : Stmt := top 58
abbrev s_law_hangs : Stmt := top 59
abbrev s_law_lasts : Stmt := top 60
abbrev s_law_all_trees : Stmt := top 61
abbrev s_law_no_ring : Stmt := top 62
abbrev s_law_marks : Stmt := top 63
abbrev s_law_copied : Stmt := top 64
abbrev s_law_many : Stmt := top 65
abbrev s_law_refused : Stmt := top 66
abbrev s_law_right : Stmt := top 67
abbrev s_law_numbered : Stmt := top 68
abbrev s_law : Stmt := top 69
def d_is_number : He.DefD := ⟨("is_number", none), "is_number", "is_number", defArgs s_is_number, defBody s_is_number, defScope s_is_number, [], []⟩
def d_are_unlike_names : He.DefD := ⟨("are_unlike_names", none), "are_unlike_names", "are_unlike_names", defArgs s_are_unlike_names, defBody s_are_unlike_names, defScope s_are_unlike_names, [], []⟩
def d_is_ranking : He.DefD := ⟨("is_ranking", none), "is_ranking", "is_ranking", defArgs s_is_ranking, defBody s_is_ranking, defScope s_is_ranking, [], []⟩
def d_is_folk : He.DefD := ⟨("is_folk", none), "is_folk", "is_folk", defArgs s_is_folk, defBody s_is_folk, defScope s_is_folk, [], []⟩
def d_must_be_folk : He.DefD := ⟨("must_be_folk", none), "must_be_folk", "must_be_folk", defArgs s_must_be_folk, defBody s_must_be_folk, defScope s_must_be_folk, [], []⟩
def d_is_tie : He.DefD := ⟨("is_tie", none), "is_tie", "is_tie", defArgs s_is_tie, defBody s_is_tie, defScope s_is_tie, [], []⟩
def d_reached : He.DefD := ⟨("reached", none), "reached", "reached", defArgs s_reached, defBody s_reached, defScope s_reached, [], []⟩
def d_hang_together : He.DefD := ⟨("hang_together", none), "hang_together", "hang_together", defArgs s_hang_together, defBody s_hang_together, defScope s_hang_together, [], []⟩
def d_is_right_tree : He.DefD := ⟨("is_right_tree", none), "is_right_tree", "is_right_tree", defArgs s_is_right_tree, defBody s_is_right_tree, defScope s_is_right_tree, [], []⟩
def d_must_be_tree : He.DefD := ⟨("must_be_tree", none), "must_be_tree", "must_be_tree", defArgs s_must_be_tree, defBody s_must_be_tree, defScope s_must_be_tree, [], []⟩
def d_names_by : He.DefD := ⟨("names_by", none), "names_by", "names_by", defArgs s_names_by, defBody s_names_by, defScope s_names_by, [], []⟩
def d_apart_at : He.DefD := ⟨("apart_at", none), "apart_at", "apart_at", defArgs s_apart_at, defBody s_apart_at, defScope s_apart_at, [], []⟩
def d_allowed : He.DefD := ⟨("allowed", none), "allowed", "allowed", defArgs s_allowed, defBody s_allowed, defScope s_allowed, [], []⟩
def d_hangs_at : He.DefD := ⟨("hangs_at", none), "hangs_at", "hangs_at", defArgs s_hangs_at, defBody s_hangs_at, defScope s_hangs_at, [], []⟩
def d_lasts : He.DefD := ⟨("lasts", none), "lasts", "lasts", defArgs s_lasts, defBody s_lasts, defScope s_lasts, [], []⟩
def d_taken_out : He.DefD := ⟨("taken_out", none), "taken_out", "taken_out", defArgs s_taken_out, defBody s_taken_out, defScope s_taken_out, [], []⟩
def d_tie_of : He.DefD := ⟨("tie_of", none), "tie_of", "tie_of", defArgs s_tie_of, defBody s_tie_of, defScope s_tie_of, [], []⟩
def d_tree_wrong : He.DefD := ⟨("tree_wrong", none), "tree_wrong", "tree_wrong", defArgs s_tree_wrong, defBody s_tree_wrong, defScope s_tree_wrong, [], []⟩
def d_trees_many : He.DefD := ⟨("trees_many", none), "trees_many", "trees_many", defArgs s_trees_many, defBody s_trees_many, defScope s_trees_many, [], []⟩
def d_tree_by : He.DefD := ⟨("tree_by", none), "tree_by", "tree_by", defArgs s_tree_by, defBody s_tree_by, defScope s_tree_by, [], []⟩
def d_tree_number : He.DefD := ⟨("tree_number", none), "tree_number", "tree_number", defArgs s_tree_number, defBody s_tree_number, defScope s_tree_number, [], []⟩
def d_law_mix : He.DefD := ⟨("_law_mix", none), "_law_mix", "_law_mix", defArgs s_law_mix, defBody s_law_mix, defScope s_law_mix, [], []⟩
def d_law_left : He.DefD := ⟨("_law_left", none), "_law_left", "_law_left", defArgs s_law_left, defBody s_law_left, defScope s_law_left, [], []⟩
def d_law_draw : He.DefD := ⟨("_law_draw", none), "_law_draw", "_law_draw", defArgs s_law_draw, defBody s_law_draw, defScope s_law_draw, [], []⟩
def d_law_names : He.DefD := ⟨("_law_names", none), "_law_names", "_law_names", defArgs s_law_names, defBody s_law_names, defScope s_law_names, [], []⟩
def d_law_shuffled : He.DefD := ⟨("_law_shuffled", none), "_law_shuffled", "_law_shuffled", defArgs s_law_shuffled, defBody s_law_shuffled, defScope s_law_shuffled, [], []⟩
def d_law_tree : He.DefD := ⟨("_law_tree", none), "_law_tree", "_law_tree", defArgs s_law_tree, defBody s_law_tree, defScope s_law_tree, [], []⟩
def d_law_falling : He.DefD := ⟨("_law_falling", none), "_law_falling", "_law_falling", defArgs s_law_falling, defBody s_law_falling, defScope s_law_falling, [], []⟩
def d_law_folk : He.DefD := ⟨("_law_folk", none), "_law_folk", "_law_folk", defArgs s_law_folk, defBody s_law_folk, defScope s_law_folk, [], []⟩
def d_law_together : He.DefD := ⟨("_law_together", none), "_law_together", "_law_together", defArgs s_law_together, defBody s_law_together, defScope s_law_together, [], []⟩
def d_law_apart : He.DefD := ⟨("_law_apart", none), "_law_apart", "_law_apart", defArgs s_law_apart, defBody s_law_apart, defScope s_law_apart, [], []⟩
def d_law_whole : He.DefD := ⟨("_law_whole", none), "_law_whole", "_law_whole", defArgs s_law_whole, defBody s_law_whole, defScope s_law_whole, [], []⟩
def d_law_is_tree : He.DefD := ⟨("_law_is_tree", none), "_law_is_tree", "_law_is_tree", defArgs s_law_is_tree, defBody s_law_is_tree, defScope s_law_is_tree, [], []⟩
def d_law_hangs : He.DefD := ⟨("_law_hangs", none), "_law_hangs", "_law_hangs", defArgs s_law_hangs, defBody s_law_hangs, defScope s_law_hangs, [], []⟩
def d_law_lasts : He.DefD := ⟨("_law_lasts", none), "_law_lasts", "_law_lasts", defArgs s_law_lasts, defBody s_law_lasts, defScope s_law_lasts, [], []⟩
def d_law_all_trees : He.DefD := ⟨("_law_all_trees", none), "_law_all_trees", "_law_all_trees", defArgs s_law_all_trees, defBody s_law_all_trees, defScope s_law_all_trees, [], []⟩
def d_law_no_ring : He.DefD := ⟨("_law_no_ring", none), "_law_no_ring", "_law_no_ring", defArgs s_law_no_ring, defBody s_law_no_ring, defScope s_law_no_ring, [], []⟩
def d_law_marks : He.DefD := ⟨("_law_marks", none), "_law_marks", "_law_marks", defArgs s_law_marks, defBody s_law_marks, defScope s_law_marks, [], []⟩
def d_law_copied : He.DefD := ⟨("_law_copied", none), "_law_copied", "_law_copied", defArgs s_law_copied, defBody s_law_copied, defScope s_law_copied, [], []⟩
def d_law_many : He.DefD := ⟨("_law_many", none), "_law_many", "_law_many", defArgs s_law_many, defBody s_law_many, defScope s_law_many, [], []⟩
def d_law_refused : He.DefD := ⟨("_law_refused", none), "_law_refused", "_law_refused", defArgs s_law_refused, defBody s_law_refused, defScope s_law_refused, [], []⟩
def d_law_right : He.DefD := ⟨("_law_right", none), "_law_right", "_law_right", defArgs s_law_right, defBody s_law_right, defScope s_law_right, [], []⟩
def d_law_numbered : He.DefD := ⟨("_law_numbered", none), "_law_numbered", "_law_numbered", defArgs s_law_numbered, defBody s_law_numbered, defScope s_law_numbered, [], []⟩
def d_law : He.DefD := ⟨("law", none), "law", "law", defArgs s_law, defBody s_law, defScope s_law, [], []⟩
def fn : List He.DefD := [d_is_number, d_are_unlike_names, d_is_ranking, d_is_folk, d_must_be_folk, d_is_tie, d_reached, d_hang_together, d_is_right_tree, d_must_be_tree, d_names_by, d_apart_at, d_allowed, d_hangs_at, d_lasts, d_taken_out, d_tie_of, d_tree_wrong, d_trees_many, d_tree_by, d_tree_number, d_law_mix, d_law_left, d_law_draw, d_law_names, d_law_shuffled, d_law_tree, d_law_falling, d_law_folk, d_law_together, d_law_apart, d_law_whole, d_law_is_tree, d_law_hangs, d_law_lasts, d_law_all_trees, d_law_no_ring, d_law_marks, d_law_copied, d_law_many, d_law_refused, d_law_right, d_law_numbered, d_law]
def fa : List He.Fa := [.glo "is_number", .glo "are_unlike_names", .glo "is_ranking", .glo "is_folk", .glo "must_be_folk", .glo "is_tie", .glo "reached", .glo "hang_together", .glo "is_right_tree", .glo "must_be_tree", .glo "names_by", .glo "apart_at", .glo "allowed", .glo "hangs_at", .glo "lasts", .glo "taken_out", .glo "tie_of", .glo "tree_wrong", .glo "trees_many", .glo "tree_by", .glo "tree_number", .glo "_law_mix", .glo "_law_left", .glo "_law_draw", .glo "_law_names", .glo "_law_shuffled", .glo "_law_tree", .glo "_law_falling", .glo "_law_folk", .glo "_law_together", .glo "_law_apart", .glo "_law_whole", .glo "_law_is_tree", .glo "_law_hangs", .glo "_law_lasts", .glo "_law_all_trees", .glo "_law_no_ring", .glo "_law_marks", .glo "_law_copied", .glo "_law_many", .glo "_law_refused", .glo "_law_right", .glo "_law_numbered", .glo "law", .glo "FolkError", .glo "NoRanking", .glo "NoFolk", .glo "NoNames", .glo "NoFit", .glo "NoLine", .glo "NoNumber", .glo "NoTree", .glo "NoPaper", .glo "NoText", .glo "NoTitle", .glo "NoRow", .glo "NoBack", .glo "TooGreat", .glo "NoWeights", .glo "NoFall", .glo "NoTops", .glo "NoFixed", .glo "NoHand", .glo "NoRule", .free "isinstance", .free "int", .free "bool", .free "list", .free "tuple", .free "len", .free "set", .free "all", .free "sorted", .free "range", .free "enumerate", .free "min", .free "max", .free "dict", .free "zip", .free "ValueError", .int "MOST_NAMES" 10, .int "MOST_HANDS" 20, .exc "NoNumber", .exc "NoFit", .exm "NoNumber" "FolkError" true, .exm "NoFit" "FolkError" true]
/-- what isinstance asks of an exception's class -/
def excCB (K : PySem.W.Frag) (D : Addr) : Bool :=
  decide (PySem.W.findIn K (.ref D) "__getattribute__" = some (some (.builtin "BaseException.__getattribute__"))) &&
  (decide (PySem.W.findIn K (.ref D) "__getattr__" = some none) &&
  (decide (PySem.W.subIn K (.ref D) (.type "BaseException") = some true) &&
  (PySem.W.hasDictIn K D &&
  (decide (PySem.W.findIn K (.ref D) "__class__" = some (some (.builtin "object.__class__"))) &&
  (decide (PySem.W.specialIn K (.builtin "object.__class__") "__get__" = some (some (.builtin "getset_descriptor.__get__"))) &&
  (decide (PySem.W.takesIn K (.builtin "object.__class__") = some true) &&
  decide (PySem.W.mroIn K D (.type "object") = some true)))))))
theorem excCB_ok {K : PySem.W.Frag} {D : Addr} (h : excCB K D = true) : ExcC K D := by
  unfold excCB at h
  simp only [Bool.and_eq_true, decide_eq_true_eq] at h
  obtain ⟨h1, h2, h3, h4, h5, h6, h7, h8⟩ := h
  exact ⟨h1, h2, h3, h4, h5, h6, h7, h8⟩
/-- the answers of isinstance for each class that the law asks -/
def asked : List Str := ["NoRanking", "NoFolk", "NoNames", "NoFit", "NoLine", "NoNumber", "NoTree", "NoPaper", "NoText", "NoTitle", "NoRow", "NoBack", "TooGreat", "NoWeights", "NoFall", "NoTops", "NoFixed", "NoHand", "NoRule"]
def kitB (K : PySem.W.Frag) (x : Str) : Bool := excCB K (He.ga K x) && ((asked.all fun y => decide (PySem.W.kitOne K (.ref (He.ga K x)) (.ref (He.ga K y)) = some (decide (y = x)))) &&
  decide (PySem.W.kitOne K (.ref (He.ga K x)) (.type "ValueError") = some true))
def more (K : PySem.W.Frag) : Bool := kitB K "NoNumber" && kitB K "NoFit"

end G46
set_option maxHeartbeats 1000000
namespace G46
/-! Trees of ties over names, in plain Lean. -/
abbrev Ties := List (Int × Int)
/-- no tie within ns leads out of F -/
def Closed (ts : Ties) (ns : List Int) (F : Int → Prop) : Prop := ∀ t ∈ ts, t.1 ∈ ns → t.2 ∈ ns → (F t.1 ↔ F t.2)
/-- ns hangs together by the ties within it -/
def Conn (ts : Ties) (ns : List Int) : Prop := ∀ F : Int → Prop, Closed ts ns F → (∃ a, a ∈ ns ∧ F a) → ∀ b ∈ ns, F b
theorem Conn.congr {ts ts' : Ties} {ns ns' : List Int} (h : Conn ts ns) (ht : ∀ t, t ∈ ts → t ∈ ts') (hn : ∀ x, x ∈ ns ↔ x ∈ ns') : Conn ts' ns' := by
  intro F hF hc b hb
  obtain ⟨c, h1, h2⟩ := hc
  exact h F (fun t h3 h4 h5 => hF t (ht t h3) ((hn _).mp h4) ((hn _).mp h5)) ⟨c, (hn c).mpr h1, h2⟩ b ((hn b).mpr hb)
theorem conn_one (ts : Ties) (a : Int) : Conn ts [a] := by
  intro F hF hc b hb
  obtain ⟨c, h1, h2⟩ := hc
  rw [List.mem_singleton] at h1 hb
  subst h1; subst hb; exact h2
/-! ### lists without repeats -/
theorem nodup_sub_len {α : Type} [DecidableEq α] : ∀ {l m : List α}, l.Nodup → (∀ x ∈ l, x ∈ m) → l.length ≤ m.length
  | [], _, _, _ => Nat.zero_le _
  | a :: l, m, hn, hs => by
    have ha : a ∈ m := hs a List.mem_cons_self
    have hn' := List.nodup_cons.mp hn
    have ih := nodup_sub_len (l := l) (m := m.erase a) hn'.2 (fun x hx => by
      have hxa : x ≠ a := fun e => hn'.1 (e ▸ hx)
      exact (List.mem_erase_of_ne hxa).mpr (hs x (List.mem_cons_of_mem _ hx)))
    rw [List.length_erase_of_mem ha] at ih
    have hp : 0 < m.length := List.length_pos_of_mem ha
    rw [List.length_cons]; omega
theorem nodup_full {α : Type} [DecidableEq α] {l m : List α} (hn : l.Nodup) (hs : ∀ x ∈ l, x ∈ m) (hl : m.length ≤ l.length) : ∀ x ∈ m, x ∈ l := by
  intro x hx
  refine Classical.byContradiction fun hc => ?_
  have h := nodup_sub_len (l := x :: l) (m := m) (List.nodup_cons.mpr ⟨hc, hn⟩) (fun y hy => by
    rcases List.mem_cons.mp hy with e | e
    · subst e; exact hx
    · exact hs y e)
  rw [List.length_cons] at h; omega
/-! ### one look at the ties -/
def rstep (ns fs : List Int) (t : Int × Int) : List Int :=
  if t.1 ∈ ns ∧ t.2 ∈ ns ∧ (decide (t.1 ∈ fs) != decide (t.2 ∈ fs)) = true then fs ++ [t.1, t.2].filter (fun x => !decide (x ∈ fs)) else fs
def scan (ns : List Int) (ts : Ties) (fs : List Int) : List Int := ts.foldl (rstep ns) fs
/-- what holds of the names found from a on -/
structure RI (ts : Ties) (ns : List Int) (a : Int) (fs : List Int) : Prop where
  nd : fs.Nodup
  at_ : a ∈ fs
  sub : ∀ x ∈ fs, x ∈ ns
  le : ∀ F : Int → Prop, Closed ts ns F → F a → ∀ x ∈ fs, F x
theorem RI.start {ts : Ties} {ns : List Int} {a : Int} (h : a ∈ ns) : RI ts ns a [a] :=
  ⟨List.nodup_cons.mpr ⟨by simp, List.nodup_nil⟩, List.mem_singleton.mpr rfl, fun x hx => by rw [List.mem_singleton.mp hx]; exact h, fun F _ hF x hx => by rw [List.mem_singleton.mp hx]; exact hF⟩
theorem rstep_cases (ns fs : List Int) (t : Int × Int) :
    (rstep ns fs t = fs ∧ (t.1 ∈ ns → t.2 ∈ ns → (t.1 ∈ fs ↔ t.2 ∈ fs))) ∨
    (t.1 ∈ ns ∧ t.2 ∈ ns ∧ ((t.1 ∈ fs ∧ t.2 ∉ fs ∧ rstep ns fs t = fs ++ [t.2]) ∨ (t.1 ∉ fs ∧ t.2 ∈ fs ∧ rstep ns fs t = fs ++ [t.1]))) := by
  unfold rstep
  by_cases h1 : t.1 ∈ ns
  · by_cases h2 : t.2 ∈ ns
    · by_cases h3 : t.1 ∈ fs
      · by_cases h4 : t.2 ∈ fs
        · left; simp [h1, h2, h3, h4]
        · right; simp [h1, h2, h3, h4]
      · by_cases h4 : t.2 ∈ fs
        · right; simp [h1, h2, h3, h4]
        · left; simp [h1, h2, h3, h4]
    · left; simp [h2]
  · left; simp [h1]
theorem RI.step {ts : Ties} {ns : List Int} {a : Int} {fs : List Int} (h : RI ts ns a fs) {t : Int × Int} (ht : t ∈ ts) : RI ts ns a (rstep ns fs t) := by
  rcases rstep_cases ns fs t with ⟨e, _⟩ | ⟨h1, h2, ⟨h3, h4, e⟩ | ⟨h3, h4, e⟩⟩
  · rw [e]; exact h
  · rw [e]
    refine ⟨List.nodup_append.mpr ⟨h.nd, by simp, ?_⟩, List.mem_append_left _ h.at_, ?_, ?_⟩
    · intro x hx y hy; rw [List.mem_singleton] at hy; subst hy; intro e2; subst e2; exact h4 hx
    · intro x hx
      rcases List.mem_append.mp hx with q | q
      · exact h.sub x q
      · rw [List.mem_singleton.mp q]; exact h2
    · intro F hF hFa x hx
      rcases List.mem_append.mp hx with q | q
      · exact h.le F hF hFa x q
      · rw [List.mem_singleton.mp q]; exact (hF t ht h1 h2).mp (h.le F hF hFa _ h3)
  · rw [e]
    refine ⟨List.nodup_append.mpr ⟨h.nd, by simp, ?_⟩, List.mem_append_left _ h.at_, ?_, ?_⟩
    · intro x hx y hy; rw [List.mem_singleton] at hy; subst hy; intro e2; subst e2; exact h3 hx
    · intro x hx
      rcases List.mem_append.mp hx with q | q
      · exact h.sub x q
      · rw [List.mem_singleton.mp q]; exact h1
    · intro F hF hFa x hx
      rcases List.mem_append.mp hx with q | q
      · exact h.le F hF hFa x q
      · rw [List.mem_singleton.mp q]; exact (hF t ht h1 h2).mpr (h.le F hF hFa _ h4)
theorem RI.scan {ts : Ties} {ns : List Int} {a : Int} : ∀ {us : Ties} {fs : List Int}, (∀ t ∈ us, t ∈ ts) → RI ts ns a fs → RI ts ns a (scan ns us fs)
  | [], _, _, h => h
  | t :: us, fs, hs, h => RI.scan (us := us) (fun u hu => hs u (List.mem_cons_of_mem _ hu)) (h.step (hs t List.mem_cons_self))
theorem rstep_len (ns fs : List Int) (t : Int × Int) : fs.length ≤ (rstep ns fs t).length := by
  rcases rstep_cases ns fs t with ⟨e, _⟩ | ⟨_, _, ⟨_, _, e⟩ | ⟨_, _, e⟩⟩ <;> rw [e] <;> simp
theorem scan_len (ns : List Int) : ∀ (us : Ties) (fs : List Int), fs.length ≤ (scan ns us fs).length
  | [], _ => Nat.le_refl _
  | t :: us, fs => Nat.le_trans (rstep_len ns fs t) (scan_len ns us (rstep ns fs t))
/-- the look that finds nothing new: the found ones are closed -/
theorem scan_fix (ns : List Int) : ∀ {us : Ties} {fs : List Int}, (scan ns us fs).length = fs.length → scan ns us fs = fs ∧ ∀ t ∈ us, t.1 ∈ ns → t.2 ∈ ns → (t.1 ∈ fs ↔ t.2 ∈ fs)
  | [], fs, _ => ⟨rfl, fun t ht => by cases ht⟩
  | t :: us, fs, h => by
    have h' : (scan ns us (rstep ns fs t)).length = fs.length := h
    have h1 := rstep_len ns fs t
    have h2 := scan_len ns us (rstep ns fs t)
    rcases rstep_cases ns fs t with ⟨e, hc⟩ | ⟨_, _, ⟨_, _, e⟩ | ⟨_, _, e⟩⟩
    · rw [e] at h'
      obtain ⟨i1, i2⟩ := scan_fix ns (us := us) (fs := fs) h'
      refine ⟨?_, ?_⟩
      · show scan ns us (rstep ns fs t) = fs
        rw [e]; exact i1
      · intro u hu
        rcases List.mem_cons.mp hu with q | q
        · subst q; exact hc
        · exact i2 u q
    · rw [e, List.length_append, List.length_singleton] at h2; rw [e] at h'; omega
    · rw [e, List.length_append, List.length_singleton] at h2; rw [e] at h'; omega
theorem RI.len {ts : Ties} {ns : List Int} {a : Int} {fs : List Int} (h : RI ts ns a fs) : fs.length ≤ ns.length := nodup_sub_len h.nd h.sub
/-- all are found just where they hang together -/
theorem RI.conn {ts : Ties} {ns : List Int} {a : Int} {fs : List Int} (h : RI ts ns a fs) (hc : ∀ t ∈ ts, t.1 ∈ ns → t.2 ∈ ns → (t.1 ∈ fs ↔ t.2 ∈ fs)) (hn : ns.Nodup) : fs.length = ns.length ↔ Conn ts ns := by
  constructor
  · intro e F hF hcx b hb
    have full := nodup_full h.nd h.sub (Nat.le_of_eq e.symm)
    obtain ⟨c, hcn, hFc⟩ := hcx
    by_cases hFa : F a
    · exact h.le F hF hFa b (full b hb)
    · have hn' : Closed ts ns (fun x => ¬ F x) := fun t ht h1 h2 => by
        have q := hF t ht h1 h2
        constructor
        · intro x y; exact x (q.mpr y)
        · intro x y; exact x (q.mp y)
      exact absurd hFc (h.le _ hn' hFa c (full c hcn))
  · intro hC
    have all := hC (fun x => x ∈ fs) hc ⟨a, h.sub a h.at_, h.at_⟩
    exact Nat.le_antisymm h.len (nodup_sub_len hn all)
/-! ### parts -/
def relab (p : Int → Int) (t : Int × Int) : Int → Int := fun x => if p x = p t.2 then p t.1 else p x
def parts (p : Int → Int) (ts : Ties) : Int → Int := ts.foldl relab p
def noRing (p : Int → Int) : Ties → Bool
  | [] => true
  | t :: ts => if p t.1 = p t.2 then false else noRing (relab p t) ts
def nr (p : Int → Int) : Ties → Nat
  | [] => 0
  | t :: ts => (if p t.1 = p t.2 then 0 else 1) + nr (relab p t) ts
theorem nr_le : ∀ (p : Int → Int) (ts : Ties), nr p ts ≤ ts.length
  | _, [] => Nat.le_refl _
  | p, t :: ts => by
    have ih := nr_le (relab p t) ts
    show (if p t.1 = p t.2 then 0 else 1) + nr (relab p t) ts ≤ ts.length + 1
    split <;> omega
theorem noRing_of : ∀ (p : Int → Int) (ts : Ties), nr p ts = ts.length → noRing p ts = true
  | _, [], _ => rfl
  | p, t :: ts, h => by
    have ih := nr_le (relab p t) ts
    have h' : (if p t.1 = p t.2 then 0 else 1) + nr (relab p t) ts = ts.length + 1 := h
    unfold noRing
    split at h'
    · omega
    · rename_i hc; rw [if_neg hc]; exact noRing_of _ _ (by omega)
theorem noRing_pre : ∀ (p : Int → Int) (ts us : Ties), noRing p (ts ++ us) = true → noRing p ts = true
  | _, [], _, _ => rfl
  | p, t :: ts, us, h => by
    have h' : (if p t.1 = p t.2 then false else noRing (relab p t) (ts ++ us)) = true := h
    show (if p t.1 = p t.2 then false else noRing (relab p t) ts) = true
    split at h'
    · cases h'
    · rename_i hc; rw [if_neg hc]; exact noRing_pre _ _ _ h'
theorem relab_same {p : Int → Int} {t : Int × Int} (h : p t.1 = p t.2) : relab p t = p := by
  funext x; unfold relab; split
  · rename_i e; rw [e, h]
  · rfl
/-- each tie joins two parts at most -/
theorem parts_many {ns : List Int} : ∀ (ts : Ties) (p : Int → Int) (R : List Int), R.Nodup → (∀ r ∈ R, ∃ x ∈ ns, p x = r) → ∃ R' : List Int, R'.Nodup ∧ (∀ r ∈ R', ∃ x ∈ ns, parts p ts x = r) ∧ R.length ≤ R'.length + nr p ts
  | [], p, R, hn, hR => ⟨R, hn, hR, Nat.le_refl _⟩
  | t :: ts, p, R, hn, hR => by
    by_cases h : p t.1 = p t.2
    · obtain ⟨R', h1, h2, h3⟩ := parts_many ts p R hn hR
      refine ⟨R', h1, ?_, ?_⟩
      · show ∀ r ∈ R', ∃ x ∈ ns, parts (relab p t) ts x = r
        rw [relab_same h]; exact h2
      · show R.length ≤ R'.length + ((if p t.1 = p t.2 then 0 else 1) + nr (relab p t) ts)
        rw [relab_same h, if_pos h]; omega
    · have hR1 : ∀ r ∈ R.erase (p t.2), ∃ x ∈ ns, relab p t x = r := by
        intro r hr
        have hr2 : r ≠ p t.2 := fun e => by
          subst e
          exact (List.Nodup.not_mem_erase hn) hr
        obtain ⟨x, hx, e⟩ := hR r (List.mem_of_mem_erase hr)
        refine ⟨x, hx, ?_⟩
        unfold relab
        rw [if_neg (by rw [e]; exact hr2)]; exact e
      obtain ⟨R', h1, h2, h3⟩ := parts_many ts (relab p t) (R.erase (p t.2)) (hn.erase _) hR1
      refine ⟨R', h1, h2, ?_⟩
      have hl : R.length ≤ (R.erase (p t.2)).length + 1 := by
        by_cases hm : p t.2 ∈ R
        · rw [List.length_erase_of_mem hm]; omega
        · rw [List.erase_of_not_mem hm]; omega
      show R.length ≤ R'.length + ((if p t.1 = p t.2 then 0 else 1) + nr (relab p t) ts)
      rw [if_neg h]; omega
/-- behind all ties their ends are of one part -/
theorem relab_eq {p : Int → Int} {t : Int × Int} {x y : Int} (h : p x = p y) : relab p t x = relab p t y := by
  unfold relab; rw [h]
theorem parts_eq : ∀ (ts : Ties) (p : Int → Int) (x y : Int), p x = p y → parts p ts x = parts p ts y
  | [], _, _, _, h => h
  | t :: ts, p, x, y, h => parts_eq ts (relab p t) x y (relab_eq h)
theorem parts_tie : ∀ (ts : Ties) (p : Int → Int) (t : Int × Int), t ∈ ts → parts p ts t.1 = parts p ts t.2
  | u :: ts, p, t, h => by
    rcases List.mem_cons.mp h with e | e
    · subst e
      refine parts_eq ts (relab p t) _ _ ?_
      unfold relab
      rw [if_pos rfl]
      split <;> rfl
    · exact parts_tie ts (relab p u) t e
theorem conn_nr {ts : Ties} {ns : List Int} (hn : ns.Nodup) (h : Conn ts ns) : ns.length ≤ 1 + nr (fun x => x) ts := by
  obtain ⟨R', h1, h2, h3⟩ := parts_many (ns := ns) ts (fun x => x) ns hn (fun r hr => ⟨r, hr, rfl⟩)
  have h4 : R'.length ≤ 1 := by
    match R', h1, h2 with
    | [], _, _ => exact Nat.zero_le _
    | [_], _, _ => exact Nat.le_refl _
    | r :: s :: R, h1, h2 =>
      obtain ⟨x, hx, ex⟩ := h2 r List.mem_cons_self
      obtain ⟨y, hy, ey⟩ := h2 s (List.mem_cons_of_mem _ List.mem_cons_self)
      have q := h (fun z => parts (fun x => x) ts z = r) (fun t ht _ _ => by
        have e := parts_tie ts (fun x => x) t ht
        constructor
        · intro a; exact e.symm.trans a
        · intro a; exact e.trans a) ⟨x, hx, ex⟩ y hy
      have e2 : s = r := ey.symm.trans q
      exact absurd (by rw [e2]; exact List.mem_cons_self) (List.nodup_cons.mp h1).1
  omega
theorem conn_len {ts : Ties} {ns : List Int} (hn : ns.Nodup) (h : Conn ts ns) : ns.length ≤ 1 + ts.length := by
  have h1 := conn_nr hn h
  have h2 := nr_le (fun x => x) ts
  omega
/-- a part of a tree has no ring -/
theorem tree_noRing {ts us : Ties} {ns : List Int} (hn : ns.Nodup) (h : Conn ts ns) (hl : ts.length + 1 = ns.length) (ht : ts.Nodup) (hu : us.Nodup) (hs : ∀ t ∈ us, t ∈ ts) : noRing (fun x => x) us = true := by
  have hm : ∀ t, t ∈ us ++ ts.filter (fun t => !decide (t ∈ us)) ↔ t ∈ ts := by
    intro t
    rw [List.mem_append, List.mem_filter]
    constructor
    · rintro (q | q)
      · exact hs t q
      · exact q.1
    · intro q
      by_cases e : t ∈ us
      · exact .inl e
      · exact .inr ⟨q, by simp [e]⟩
  have hnd : (us ++ ts.filter (fun t => !decide (t ∈ us))).Nodup := by
    refine List.nodup_append.mpr ⟨hu, ht.filter _, ?_⟩
    intro x hx y hy e
    subst e
    have := (List.mem_filter.mp hy).2
    simp [hx] at this
  have hC : Conn (us ++ ts.filter (fun t => !decide (t ∈ us))) ns := h.congr (fun t q => (hm t).mpr q) (fun _ => Iff.rfl)
  have l1 := conn_nr hn hC
  have l2 := nr_le (fun x => x) (us ++ ts.filter (fun t => !decide (t ∈ us)))
  have l3 : (us ++ ts.filter (fun t => !decide (t ∈ us))).length ≤ ts.length := nodup_sub_len hnd (fun t q => (hm t).mp q)
  have l4 : nr (fun x => x) (us ++ ts.filter (fun t => !decide (t ∈ us))) = (us ++ ts.filter (fun t => !decide (t ∈ us))).length := by omega
  exact noRing_pre _ us _ (noRing_of _ _ l4)
end G46
set_option maxHeartbeats 1000000
namespace G46
/-- the tie of two names -/
def tie (x y : Int) : Int × Int := (if y < x then y else x, if y > x then y else x)
theorem tie_cases {x y : Int} (h : y ≠ x) : (tie x y = (x, y) ∧ x < y) ∨ (tie x y = (y, x) ∧ y < x) := by
  unfold tie
  by_cases c : y < x
  · right; rw [if_pos c, if_neg (by omega)]; exact ⟨rfl, c⟩
  · left; rw [if_neg c, if_pos (by omega)]; exact ⟨rfl, by omega⟩
theorem tie_lt {x y : Int} (h : y ≠ x) : (tie x y).1 < (tie x y).2 := by
  rcases tie_cases h with ⟨e, l⟩ | ⟨e, l⟩ <;> rw [e] <;> exact l
theorem tie_inj {x y z : Int} (h : y ≠ x) (h' : z ≠ x) (e : tie x y = tie x z) : y = z := by
  rcases tie_cases h with ⟨e1, l⟩ | ⟨e1, l⟩ <;> rcases tie_cases h' with ⟨e2, l2⟩ | ⟨e2, l2⟩ <;> rw [e1, e2] at e <;> simp only [Prod.mk.injEq] at e <;> omega
/-- a tie has the name x -/
def tch (x : Int) (t : Int × Int) : Bool := decide (t.1 = x) || decide (t.2 = x)
theorem tch_tie (x y : Int) (h : y ≠ x) : tch x (tie x y) = true := by
  rcases tie_cases h with ⟨e, _⟩ | ⟨e, _⟩ <;> rw [e] <;> simp [tch]
theorem tch_form {x : Int} {t : Int × Int} (h : tch x t = true) (hl : t.1 < t.2) : ∃ y, y ≠ x ∧ t = tie x y ∧ ((t.1 = x ∧ t.2 = y) ∨ (t.2 = x ∧ t.1 = y)) := by
  obtain ⟨a, b⟩ := t
  simp only [tch, Bool.or_eq_true, decide_eq_true_eq] at h
  have hl' : a < b := hl
  rcases h with e | e
  · subst e
    refine ⟨b, by omega, ?_, .inl ⟨rfl, rfl⟩⟩
    unfold tie; rw [if_neg (by omega), if_pos (by omega)]
  · subst e
    refine ⟨a, by omega, ?_, .inr ⟨rfl, rfl⟩⟩
    unfold tie; rw [if_pos (by omega), if_neg (by omega)]
abbrev cut (r ls : List Int) : List Int := r.filter (fun x => decide (x ∈ ls))
abbrev del (ls : List Int) (x : Int) : List Int := ls.filter (fun y => !decide (y = x))
theorem mem_cut {r ls : List Int} {x : Int} : x ∈ cut r ls ↔ x ∈ r ∧ x ∈ ls := by simp [cut]
theorem mem_del {ls : List Int} {x y : Int} : y ∈ del ls x ↔ y ∈ ls ∧ y ≠ x := by simp [del]
theorem del_len {ls : List Int} {x : Int} (hn : ls.Nodup) (hx : x ∈ ls) : (del ls x).length + 1 = ls.length := by
  have h1 : (x :: del ls x).length ≤ ls.length := nodup_sub_len (List.nodup_cons.mpr ⟨fun h => (mem_del.mp h).2 rfl, hn.filter _⟩) (fun y hy => by
    rcases List.mem_cons.mp hy with e | e
    · subst e; exact hx
    · exact (mem_del.mp e).1)
  have h2 : ls.length ≤ (x :: del ls x).length := nodup_sub_len hn (fun y hy => by
    by_cases e : y = x
    · subst e; exact List.mem_cons_self
    · exact List.mem_cons_of_mem _ (mem_del.mpr ⟨hy, e⟩))
  rw [List.length_cons] at h1 h2; omega
theorem cut_del (r ls : List Int) (x : Int) : cut r (del ls x) = del (cut r ls) x := by
  unfold cut del
  rw [List.filter_filter]
  refine List.filter_congr fun y _ => ?_
  by_cases h1 : y ∈ ls <;> by_cases h2 : y = x <;> simp [h1, h2, List.mem_filter]
/-- the names at which x can hang by one ranking (of the names left) -/
def allowedQ (q : List Int) (x : Int) : List Int := if q.idxOf x = 0 then (q.drop 1).take 1 else q.take (q.idxOf x)
def hangs (rs : List (List Int)) (ls : List Int) (x : Int) : List Int := rs.foldl (fun found r => found.filter (fun o => decide (o ∈ allowedQ (cut r ls) x))) (del ls x)
theorem mem_fold {ls : List Int} {x : Int} {y : Int} : ∀ (rs : List (List Int)) (f : List Int), y ∈ rs.foldl (fun found r => found.filter (fun o => decide (o ∈ allowedQ (cut r ls) x))) f ↔ y ∈ f ∧ ∀ r ∈ rs, y ∈ allowedQ (cut r ls) x
  | [], f => by simp
  | r :: rs, f => by
    rw [List.foldl_cons, mem_fold rs, List.mem_filter]
    constructor
    · rintro ⟨⟨h1, h2⟩, h3⟩
      refine ⟨h1, fun s hs => ?_⟩
      rcases List.mem_cons.mp hs with e | e
      · subst e; exact of_decide_eq_true h2
      · exact h3 s e
    · rintro ⟨h1, h2⟩
      exact ⟨⟨h1, decide_eq_true (h2 r List.mem_cons_self)⟩, fun s hs => h2 s (List.mem_cons_of_mem _ hs)⟩
theorem mem_hangs {rs : List (List Int)} {ls : List Int} {x y : Int} : y ∈ hangs rs ls x ↔ (y ∈ ls ∧ y ≠ x) ∧ ∀ r ∈ rs, y ∈ allowedQ (cut r ls) x := by
  unfold hangs; rw [mem_fold, mem_del]
theorem fold_nodup {ls : List Int} {x : Int} : ∀ (rs : List (List Int)) (f : List Int), f.Nodup → (rs.foldl (fun found r => found.filter (fun o => decide (o ∈ allowedQ (cut r ls) x))) f).Nodup
  | [], _, h => h
  | r :: rs, f, h => fold_nodup rs _ (h.filter _)
theorem hangs_nodup {rs : List (List Int)} {ls : List Int} {x : Int} (h : ls.Nodup) : (hangs rs ls x).Nodup := fold_nodup rs _ (h.filter _)
/-! ### prefixes -/
theorem take_filter {p : Int → Bool} : ∀ (q : List Int) (k : Nat), k ≤ (q.filter p).length → ∃ j, j ≤ q.length ∧ (q.take j).filter p = (q.filter p).take k
  | [], k, _ => ⟨0, Nat.le_refl _, by simp⟩
  | a :: q, 0, _ => ⟨0, Nat.zero_le _, by simp⟩
  | a :: q, k + 1, h => by
    by_cases hp : p a = true
    · rw [List.filter_cons_of_pos hp] at h ⊢
      obtain ⟨j, h1, h2⟩ := take_filter q k (by simpa using h)
      exact ⟨j + 1, by simpa using h1, by rw [List.take_succ_cons, List.filter_cons_of_pos hp, h2, List.take_succ_cons]⟩
    · rw [List.filter_cons_of_neg hp] at h ⊢
      obtain ⟨j, h1, h2⟩ := take_filter q (k + 1) h
      exact ⟨j + 1, by simpa using h1, by rw [List.take_succ_cons, List.filter_cons_of_neg hp, h2]⟩
theorem filter_take {p : Int → Bool} (q : List Int) (j : Nat) : (q.take j).filter p = (q.filter p).take ((q.take j).filter p).length := by
  have e : q.filter p = (q.take j).filter p ++ (q.drop j).filter p := by rw [← List.filter_append, List.take_append_drop]
  rw [e, List.take_left']
  rfl
/-! ### a leaf -/
theorem leaf_del {ts : Ties} {P P' : List Int} {x y : Int} (hy : y ≠ x) (h : Conn ts P) (hP : ∀ z, z ∈ P' ↔ z ∈ P ∧ z ≠ x) (ht : ∀ t ∈ ts, tch x t = true → t = tie x y) : Conn (ts.filter fun t => !tch x t) P' := by
  intro F hF hc b hb
  obtain ⟨c, hc1, hc2⟩ := hc
  have hb' := (hP b).mp hb
  have hc' := (hP c).mp hc1
  have all := h (fun z => if z = x then F y else F z) (fun t h1 h2 h3 => by
    by_cases e : tch x t = true
    · have et := ht t h1 e
      rcases tie_cases hy with ⟨e1, _⟩ | ⟨e1, _⟩
      · rw [et, e1]; simp [hy]
      · rw [et, e1]; simp [hy]
    · have e' : tch x t = false := by simpa using e
      have n1 : t.1 ≠ x := fun q => by simp [tch, q] at e'
      have n2 : t.2 ≠ x := fun q => by simp [tch, q] at e'
      have q := hF t (List.mem_filter.mpr ⟨h1, by simp [e']⟩) ((hP _).mpr ⟨h2, n1⟩) ((hP _).mpr ⟨h3, n2⟩)
      simp only [if_neg n1, if_neg n2]
      exact q) ⟨c, hc'.1, by simp only [if_neg hc'.2]; exact hc2⟩ b hb'.1
  simp only [if_neg hb'.2] at all
  exact all
theorem leaf_add {ts ts' : Ties} {P P' : List Int} {x y : Int} (hy : y ≠ x) (h : Conn ts' P') (hyP : y ∈ P') (hP : ∀ z, z ∈ P ↔ z = x ∨ z ∈ P') (hs : ∀ t ∈ ts', t ∈ ts) (ht : tie x y ∈ ts) : Conn ts P := by
  intro F hF hc b hb
  obtain ⟨c, hc1, hc2⟩ := hc
  have xP : x ∈ P := (hP x).mpr (.inl rfl)
  have yP : y ∈ P := (hP y).mpr (.inr hyP)
  have sw : F x ↔ F y := by
    have q := hF _ ht
    rcases tie_cases hy with ⟨e1, _⟩ | ⟨e1, _⟩
    · rw [e1] at q; exact q xP yP
    · rw [e1] at q; exact (q yP xP).symm
  have hF' : Closed ts' P' F := fun t h1 h2 h3 => hF t (hs t h1) ((hP _).mpr (.inr h2)) ((hP _).mpr (.inr h3))
  have all : ∀ z ∈ P', F z := by
    rcases (hP c).mp hc1 with e | e
    · subst e; exact h F hF' ⟨y, hyP, sw.mp hc2⟩
    · exact h F hF' ⟨c, e, hc2⟩
  rcases (hP b).mp hb with e | e
  · subst e; exact sw.mpr (all y hyP)
  · exact all b e
theorem Conn.ties {ts ts' : Ties} {P : List Int} (h : Conn ts' P) (hs : ∀ t ∈ ts', t ∈ ts) : Conn ts P := h.congr hs fun _ => Iff.rfl
/-! ### trees on which all fall -/
structure Good (rs : List (List Int)) (ls : List Int) (ts : Ties) : Prop where
  len : ts.length + 1 = ls.length
  nd : ts.Nodup
  ok : ∀ t ∈ ts, t.1 < t.2 ∧ t.1 ∈ ls ∧ t.2 ∈ ls
  conn : Conn ts ls
  falls : ∀ r ∈ rs, ∀ k, 1 ≤ k → k ≤ (cut r ls).length → Conn ts ((cut r ls).take k)
/-- rankings of names, the ones left among them -/
structure Wf (rs : List (List Int)) (ls : List Int) : Prop where
  nd : ls.Nodup
  rnd : ∀ r ∈ rs, r.Nodup
  has : ∀ r ∈ rs, ∀ x ∈ ls, x ∈ r
theorem Wf.del {rs : List (List Int)} {ls : List Int} (h : Wf rs ls) (x : Int) : Wf rs (del ls x) := ⟨h.nd.filter _, h.rnd, fun r hr y hy => h.has r hr y (mem_del.mp hy).1⟩
theorem Wf.mem {rs : List (List Int)} {ls : List Int} (h : Wf rs ls) {r : List Int} (hr : r ∈ rs) {x : Int} : x ∈ cut r ls ↔ x ∈ ls := by
  rw [mem_cut]; exact ⟨fun q => q.2, fun q => ⟨h.has r hr x q, q⟩⟩
theorem Wf.cnd {rs : List (List Int)} {ls : List Int} (h : Wf rs ls) {r : List Int} (hr : r ∈ rs) : (cut r ls).Nodup := (h.rnd r hr).filter _
theorem Wf.len {rs : List (List Int)} {ls : List Int} (h : Wf rs ls) {r : List Int} (hr : r ∈ rs) : (cut r ls).length = ls.length :=
  Nat.le_antisymm (nodup_sub_len (h.cnd hr) fun x hx => (h.mem hr).mp hx) (nodup_sub_len h.nd fun x hx => (h.mem hr).mpr hx)
/-- last in some ranking of the names left -/
def IsLast (rs : List (List Int)) (ls : List Int) (x : Int) : Prop := ∃ r ∈ rs, (cut r ls).getLast? = some x
theorem last_split {q : List Int} {x : Int} (h : q.getLast? = some x) : q = q.dropLast ++ [x] := by
  have hne : q ≠ [] := fun e => by subst e; simp at h
  have e2 : q.getLast hne = x := by
    rw [List.getLast?_eq_some_getLast hne] at h
    exact Option.some.inj h
  rw [← e2]; exact (List.dropLast_concat_getLast hne).symm
theorem IsLast.mem {rs : List (List Int)} {ls : List Int} {x : Int} (h : IsLast rs ls x) : x ∈ ls := by
  obtain ⟨r, _, e⟩ := h
  exact (mem_cut.mp (List.mem_of_getLast? e)).2
theorem conn_del {rs : List (List Int)} {ls : List Int} {ts : Ties} {x : Int} (W : Wf rs ls) (g : Good rs ls ts) (h : IsLast rs ls x) (h2 : 2 ≤ ls.length) : Conn ts (del ls x) := by
  obtain ⟨r, hr, e⟩ := h
  have es := last_split e
  have hl := W.len hr
  have hnd := W.cnd hr
  have h1 := g.falls r hr ((cut r ls).length - 1) (by omega) (by omega)
  refine h1.congr (fun _ q => q) (fun z => ?_)
  rw [← List.dropLast_eq_take, mem_del, ← W.mem hr]
  constructor
  · intro hz
    refine ⟨List.dropLast_subset _ hz, ?_⟩
    intro ez
    rw [es] at hnd
    have q := (List.nodup_append.mp hnd).2.2 z hz x (List.mem_singleton.mpr rfl)
    exact q ez
  · rintro ⟨hz, hne⟩
    rw [es] at hz
    rcases List.mem_append.mp hz with q | q
    · exact q
    · exact absurd (List.mem_singleton.mp q) hne
theorem conn_touch {ls : List Int} {ts : Ties} {x : Int} (hc : Conn ts ls) (hn : ls.Nodup) (h2 : 2 ≤ ls.length) (hx : x ∈ ls) : ∃ t ∈ ts, tch x t = true := by
  refine Classical.byContradiction fun no => ?_
  have all := hc (fun z => z = x) (fun t ht _ _ => by
    have e' : tch x t = false := by
      cases e : tch x t with
      | false => rfl
      | true => exact absurd ⟨t, ht, e⟩ no
    simp only [tch, Bool.or_eq_false_iff, decide_eq_false_iff_not] at e'
    exact ⟨fun q => absurd q e'.1, fun q => absurd q e'.2⟩) ⟨x, hx, rfl⟩
  match ls, hn, h2, all with
  | a :: b :: _, hn, _, all =>
    have ea := all a List.mem_cons_self
    have eb := all b (List.mem_cons_of_mem _ List.mem_cons_self)
    exact (List.nodup_cons.mp hn).1 (by rw [ea, ← eb]; exact List.mem_cons_self)
/-- a name that is last has just one tie -/
theorem one_tie {rs : List (List Int)} {ls : List Int} {ts : Ties} {x : Int} (W : Wf rs ls) (g : Good rs ls ts) (h : IsLast rs ls x) (h2 : 2 ≤ ls.length) :
    ∃ y, y ∈ ls ∧ y ≠ x ∧ tie x y ∈ ts ∧ (∀ t ∈ ts, tch x t = true → t = tie x y) ∧ (ts.filter fun t => !tch x t).length + 1 = ts.length := by
  have hx := h.mem
  obtain ⟨t, ht, htc⟩ := conn_touch g.conn W.nd h2 hx
  obtain ⟨y, hy, et, hm⟩ := tch_form htc (g.ok t ht).1
  have hyl : y ∈ ls := by
    rcases hm with ⟨_, e⟩ | ⟨_, e⟩
    · rw [← e]; exact (g.ok t ht).2.2
    · rw [← e]; exact (g.ok t ht).2.1
  have hcd : Conn (ts.filter fun t => !tch x t) (del ls x) := by
    intro F hF hc b hb
    refine conn_del W g h h2 F (fun u h1 h3 h4 => hF u (List.mem_filter.mpr ⟨h1, ?_⟩) h3 h4) hc b hb
    have n1 := (mem_del.mp h3).2
    have n2 := (mem_del.mp h4).2
    simp [tch, n1, n2]
  have l1 : (del ls x).length ≤ 1 + (ts.filter fun t => !tch x t).length := conn_len (W.nd.filter _) hcd
  have l2 : (del ls x).length + 1 = ls.length := del_len W.nd hx
  have l3 : ts.length + 1 = ls.length := g.len
  generalize hdl : (del ls x).length = dl at l1 l2
  have nd' : (t :: ts.filter fun t => !tch x t).Nodup := List.nodup_cons.mpr ⟨fun q => by have := (List.mem_filter.mp q).2; simp [htc] at this, g.nd.filter _⟩
  have l4 : (t :: ts.filter fun t => !tch x t).length ≤ ts.length := nodup_sub_len nd' (fun u hu => by
    rcases List.mem_cons.mp hu with e | e
    · subst e; exact ht
    · exact (List.mem_filter.mp e).1)
  rw [List.length_cons] at l4
  refine ⟨y, hyl, hy, et ▸ ht, fun u hu huc => ?_, by omega⟩
  refine Classical.byContradiction fun hne => ?_
  have hut : u ≠ t := fun e => hne (e.trans et)
  have nd3 : (u :: t :: ts.filter fun t => !tch x t).Nodup := List.nodup_cons.mpr ⟨fun q => by
    rcases List.mem_cons.mp q with e | e
    · exact hut e
    · have := (List.mem_filter.mp e).2
      simp [huc] at this, nd'⟩
  have l5 : (u :: t :: ts.filter fun t => !tch x t).length ≤ ts.length := nodup_sub_len nd3 (fun v hv => by
    rcases List.mem_cons.mp hv with e | e
    · subst e; exact hu
    · rcases List.mem_cons.mp e with e | e
      · subst e; exact ht
      · exact (List.mem_filter.mp e).1)
  rw [List.length_cons, List.length_cons] at l5
  omega
theorem idx_take {q : List Int} {x : Int} (hx : x ∈ q) : q.idxOf x < q.length ∧ q[q.idxOf x]? = some x := by
  have h := List.idxOf_lt_length_of_mem hx
  exact ⟨h, by rw [List.getElem?_eq_getElem h]; simp⟩
theorem not_in_take_idx : ∀ (q : List Int) (x : Int), x ∉ q.take (q.idxOf x)
  | [], x => by simp
  | a :: q, x => by
    by_cases e : a = x
    · subst e; simp
    · have ei : (a :: q).idxOf x = q.idxOf x + 1 := by
        have eb : (a == x) = false := by simpa using e
        rw [List.idxOf_cons, eb]; rfl
      rw [ei, List.take_succ_cons]
      intro h
      rcases List.mem_cons.mp h with h | h
      · exact e h.symm
      · exact not_in_take_idx q x h
theorem take_idx {q : List Int} {x : Int} (hx : x ∈ q) (z : Int) : z ∈ q.take (q.idxOf x + 1) ↔ z = x ∨ z ∈ q.take (q.idxOf x) := by
  obtain ⟨h1, h2⟩ := idx_take hx
  have e : q.take (q.idxOf x + 1) = q.take (q.idxOf x) ++ [x] := by
    rw [List.take_add_one, h2]; rfl
  rw [e, List.mem_append, List.mem_singleton]
  exact Or.comm
/-- where x hangs in a tree it may hang by each ranking -/
theorem hang_ok {q : List Int} {ts : Ties} {x y : Int} (hnd : q.Nodup) (hx : x ∈ q) (h2 : 2 ≤ q.length) (hy : y ≠ x) (hf : ∀ k, 1 ≤ k → k ≤ q.length → Conn ts (q.take k)) (ht : ∀ t ∈ ts, tch x t = true → t = tie x y) : y ∈ allowedQ q x := by
  -- in a prefix with x and another name y stands too
  have key : ∀ P : List Int, Conn ts P → x ∈ P → (∃ z, z ∈ P ∧ z ≠ x) → y ∈ P := by
    intro P hC hxP ⟨z, hz, hzx⟩
    refine Classical.byContradiction fun hyP => ?_
    have all := hC (fun v => v = x) (fun t h1 h3 h4 => by
      by_cases e : tch x t = true
      · have et := ht t h1 e
        rcases tie_cases hy with ⟨e1, _⟩ | ⟨e1, _⟩
        · rw [et, e1] at h4; exact absurd h4 hyP
        · rw [et, e1] at h3; exact absurd h3 hyP
      · have e' : tch x t = false := by simpa using e
        simp only [tch, Bool.or_eq_false_iff, decide_eq_false_iff_not] at e'
        exact ⟨fun q => absurd q e'.1, fun q => absurd q e'.2⟩) ⟨x, hxP, rfl⟩ z hz
    exact hzx all
  obtain ⟨h3, h4⟩ := idx_take hx
  unfold allowedQ
  by_cases h0 : q.idxOf x = 0
  · rw [if_pos h0]
    match q, hnd, h2, h4, hf, h0 with
    | a :: b :: q, hnd, _, h4, hf, h0 =>
      rw [h0] at h4
      have ea : a = x := by simpa using h4
      have q1 := key _ (hf 2 (by omega) (by simp)) (by simp [ea]) ⟨b, by simp, fun e => (List.nodup_cons.mp hnd).1 (by rw [ea, ← e]; exact List.mem_cons_self)⟩
      have q2 : y = a ∨ y = b := by simpa using q1
      rcases q2 with e | e
      · exact absurd (e.trans ea) hy
      · subst e; simp
  · rw [if_neg h0]
    have hxP : x ∈ q.take (q.idxOf x + 1) := (take_idx hx x).mpr (.inl rfl)
    have h0' : 0 < q.idxOf x := by omega
    obtain ⟨z, hz⟩ : ∃ z, z ∈ q.take (q.idxOf x) := by
      have hl : 0 < (q.take (q.idxOf x)).length := by rw [List.length_take]; omega
      exact ⟨_, List.getElem_mem hl⟩
    have hzx : z ≠ x := fun e => not_in_take_idx q x (e ▸ hz)
    have q1 := key _ (hf (q.idxOf x + 1) (by omega) (by omega)) hxP ⟨z, (take_idx hx z).mpr (.inr hz), hzx⟩
    rcases (take_idx hx y).mp q1 with e | e
    · exact absurd e hy
    · exact e
/-- FORWARD: a last name taken out of a tree -/
theorem good_del {rs : List (List Int)} {ls : List Int} {ts : Ties} {x : Int} (W : Wf rs ls) (g : Good rs ls ts) (h : IsLast rs ls x) (h2 : 2 ≤ ls.length) :
    ∃ y, y ∈ hangs rs ls x ∧ tie x y ∈ ts ∧ (∀ t ∈ ts, tch x t = true → t = tie x y) ∧ Good rs (del ls x) (ts.filter fun t => !tch x t) := by
  obtain ⟨y, hyl, hy, htie, huniq, hlen⟩ := one_tie W g h h2
  have hx := h.mem
  refine ⟨y, mem_hangs.mpr ⟨⟨hyl, hy⟩, fun r hr => ?_⟩, htie, huniq, ?_⟩
  · exact hang_ok (W.cnd hr) ((W.mem hr).mpr hx) (by rw [W.len hr]; exact h2) hy (g.falls r hr) huniq
  · refine ⟨?_, g.nd.filter _, fun t ht => ?_, leaf_del hy g.conn (fun z => mem_del) huniq, fun r hr k hk1 hk2 => ?_⟩
    · have l2 := del_len W.nd hx
      have l3 := g.len
      omega
    · obtain ⟨t1, t2⟩ := List.mem_filter.mp ht
      have e' : tch x t = false := by simpa using t2
      simp only [tch, Bool.or_eq_false_iff, decide_eq_false_iff_not] at e'
      obtain ⟨a, b, c⟩ := g.ok t t1
      exact ⟨a, mem_del.mpr ⟨b, e'.1⟩, mem_del.mpr ⟨c, e'.2⟩⟩
    · rw [cut_del] at hk2 ⊢
      obtain ⟨j, hj1, hj2⟩ := take_filter (p := fun y => !decide (y = x)) (cut r ls) k hk2
      have hj0 : 1 ≤ j := by
        cases j with
        | zero =>
          have e : (List.take k (del (cut r ls) x)).length = 0 := by rw [← hj2]; simp
          rw [List.length_take] at e
          omega
        | succ j => omega
      refine leaf_del hy (g.falls r hr j hj0 hj1) (fun z => ?_) huniq
      rw [← hj2, List.mem_filter]
      simp
/-- BACKWARD: a name hung at one at which it can -/
theorem good_add {rs : List (List Int)} {ls : List Int} {ts : Ties} {x y : Int} (W : Wf rs ls) (g : Good rs (del ls x) ts) (hx : x ∈ ls) (hy : y ∈ hangs rs ls x) : Good rs ls (tie x y :: ts) := by
  obtain ⟨⟨hyl, hyx⟩, hal⟩ := mem_hangs.mp hy
  have l2 := del_len W.nd hx
  have nt : ∀ t ∈ ts, t ≠ tie x y := fun t ht e => by
    have h1 := g.ok t ht
    have n1 := (mem_del.mp h1.2.1).2
    have n2 := (mem_del.mp h1.2.2).2
    rcases tie_cases hyx with ⟨e1, _⟩ | ⟨e1, _⟩
    · rw [e, e1] at n1; exact n1 rfl
    · rw [e, e1] at n2; exact n2 rfl
  refine ⟨?_, List.nodup_cons.mpr ⟨fun q => nt _ q rfl, g.nd⟩, fun t ht => ?_, ?_, fun r hr k hk1 hk2 => ?_⟩
  · rw [List.length_cons]; have := g.len; omega
  · rcases List.mem_cons.mp ht with e | e
    · subst e
      refine ⟨tie_lt hyx, ?_⟩
      rcases tie_cases hyx with ⟨e1, _⟩ | ⟨e1, _⟩ <;> rw [e1]
      · exact ⟨hx, hyl⟩
      · exact ⟨hyl, hx⟩
    · obtain ⟨a, b, c⟩ := g.ok t e
      exact ⟨a, (mem_del.mp b).1, (mem_del.mp c).1⟩
  · refine leaf_add hyx g.conn (mem_del.mpr ⟨hyl, hyx⟩) (fun z => ?_) (fun t ht => List.mem_cons_of_mem _ ht) List.mem_cons_self
    constructor
    · intro hz
      by_cases e : z = x
      · exact .inl e
      · exact .inr (mem_del.mpr ⟨hz, e⟩)
    · rintro (e | e)
      · subst e; exact hx
      · exact (mem_del.mp e).1
  · have hxq := (W.mem hr).mpr hx
    have hcnd := W.cnd hr
    have fl := g.falls r hr
    rw [cut_del] at fl
    have eP : del ((cut r ls).take k) x = (del (cut r ls) x).take (del ((cut r ls).take k) x).length := filter_take (p := fun y => !decide (y = x)) (cut r ls) k
    have hP' : 1 ≤ (del ((cut r ls).take k) x).length → Conn ts (del ((cut r ls).take k) x) := fun h1 => by
      rw [eP]
      refine fl _ h1 ?_
      have := congrArg List.length eP
      rw [List.length_take] at this
      omega
    have hkl : ((cut r ls).take k).length = k := by rw [List.length_take]; omega
    by_cases hxP : x ∈ (cut r ls).take k
    · by_cases he : (del ((cut r ls).take k) x).length = 0
      · -- x alone
        have hd := del_len (hcnd.sublist (List.take_sublist k _)) hxP
        have h1 : ((cut r ls).take k).length = 1 := by omega
        obtain ⟨a, ea⟩ := List.length_eq_one_iff.mp h1
        rw [ea]; exact conn_one _ a
      · have hyP : y ∈ (cut r ls).take k := by
          have ha := hal r hr
          unfold allowedQ at ha
          have hd := del_len (hcnd.sublist (List.take_sublist k _)) hxP
          have k2 : 2 ≤ k := by omega
          by_cases h0 : (cut r ls).idxOf x = 0
          · rw [if_pos h0] at ha
            have e2 : (cut r ls).take 2 = (cut r ls).take 1 ++ ((cut r ls).drop 1).take 1 := by
              rw [← List.take_add]
            have : y ∈ (cut r ls).take 2 := by rw [e2]; exact List.mem_append_right _ ha
            exact (List.take_subset_take_left _ k2) this
          · rw [if_neg h0] at ha
            -- x stands within the first k: its place is below k
            have hlt : (cut r ls).idxOf x < k := by
              refine Classical.byContradiction fun hge => ?_
              have : x ∈ (cut r ls).take ((cut r ls).idxOf x) := (List.take_subset_take_left _ (by omega)) hxP
              exact not_in_take_idx _ _ this
            exact (List.take_subset_take_left _ (by omega)) ha
        refine leaf_add hyx (hP' (by omega)) (mem_del.mpr ⟨hyP, hyx⟩) (fun z => ?_) (fun t ht => List.mem_cons_of_mem _ ht) List.mem_cons_self
        constructor
        · intro hz
          by_cases e : z = x
          · exact .inl e
          · exact .inr (mem_del.mpr ⟨hz, e⟩)
        · rintro (e | e)
          · subst e; exact hxP
          · exact (mem_del.mp e).1
    · have e1 : del ((cut r ls).take k) x = (cut r ls).take k := List.filter_eq_self.mpr fun z hz => by
        have : z ≠ x := fun e => hxP (e ▸ hz)
        simp [this]
      have c := hP' (by rw [e1]; omega)
      rw [e1] at c
      exact c.ties fun t ht => List.mem_cons_of_mem _ ht
end G46
set_option maxHeartbeats 1000000
namespace G46
/-! ### names taken out one by one -/
inductive RowsR (rs : List (List Int)) : List Int → List (Int × List Int) → Prop
  | done {ls : List Int} (h : ls.length ≤ 1) : RowsR rs ls []
  | stop {ls : List Int} {x : Int} (h2 : 2 ≤ ls.length) (hl : IsLast rs ls x) (he : hangs rs ls x = []) : RowsR rs ls [(x, [])]
  | step {ls : List Int} {x : Int} {rows : List (Int × List Int)} (h2 : 2 ≤ ls.length) (hl : IsLast rs ls x) (hr : RowsR rs (del ls x) rows) : RowsR rs ls ((x, hangs rs ls x) :: rows)
def prodR : List (Int × List Int) → Nat
  | [] => 1
  | r :: rows => r.2.length * prodR rows
def treeOf : List (Int × List Int) → Nat → Ties
  | [], _ => []
  | r :: rows, n => tie r.1 (r.2.getD (n % r.2.length) 0) :: treeOf rows (n / r.2.length)
def atOf (ls : List Int) (x : Int) (T : Ties) : Int := ((del ls x).filter (fun o => decide (tie x o ∈ T))).headD 0
def numOf : List Int → List (Int × List Int) → Ties → Nat
  | _, [], _ => 0
  | ls, r :: rows, T => r.2.idxOf (atOf ls r.1 T) + r.2.length * numOf (del ls r.1) rows T
/-- the ties of T within ls are those of TL -/
def Rest (ls : List Int) (T TL : Ties) : Prop := ∀ t, (t ∈ T ∧ t.1 ∈ ls ∧ t.2 ∈ ls) ↔ t ∈ TL
theorem tie_mem {ls : List Int} {x y : Int} (hx : x ∈ ls) (hy : y ∈ ls) (h : y ≠ x) : (tie x y).1 ∈ ls ∧ (tie x y).2 ∈ ls := by
  rcases tie_cases h with ⟨e, _⟩ | ⟨e, _⟩ <;> rw [e]
  · exact ⟨hx, hy⟩
  · exact ⟨hy, hx⟩
theorem filter_head {l : List Int} {p : Int → Bool} {y : Int} (hy : y ∈ l) (hp : p y = true) (hu : ∀ z ∈ l, p z = true → z = y) : (l.filter p).head? = some y := by
  cases e : l.filter p with
  | nil => have : y ∈ l.filter p := List.mem_filter.mpr ⟨hy, hp⟩; rw [e] at this; cases this
  | cons a r =>
    have ha : a ∈ l.filter p := by rw [e]; exact List.mem_cons_self
    obtain ⟨h1, h2⟩ := List.mem_filter.mp ha
    rw [hu a h1 h2]; rfl
/-- the name at which x hangs in T -/
theorem at_head {ls : List Int} {x y : Int} {T TL : Ties} (hR : Rest ls T TL) (hx : x ∈ ls) (hyl : y ∈ ls) (hy : y ≠ x) (ht : tie x y ∈ TL) (hu : ∀ t ∈ TL, tch x t = true → t = tie x y) :
    ((del ls x).filter (fun o => decide (tie x o ∈ T))).head? = some y := by
  refine filter_head (mem_del.mpr ⟨hyl, hy⟩) (decide_eq_true ((hR _).mpr ht).1) (fun z hz hp => ?_)
  obtain ⟨hz1, hz2⟩ := mem_del.mp hz
  have h1 := of_decide_eq_true hp
  have h2 := (hR _).mp ⟨h1, tie_mem hx hz1 hz2⟩
  exact tie_inj hz2 hy (hu _ h2 (tch_tie x z hz2))
theorem at_eq {ls : List Int} {x y : Int} {T TL : Ties} (hR : Rest ls T TL) (hx : x ∈ ls) (hyl : y ∈ ls) (hy : y ≠ x) (ht : tie x y ∈ TL) (hu : ∀ t ∈ TL, tch x t = true → t = tie x y) : atOf ls x T = y := by
  unfold atOf
  rw [List.headD_eq_head?_getD, at_head hR hx hyl hy ht hu]; rfl
theorem Good.untouched {rs : List (List Int)} {ls : List Int} {x : Int} {ts : Ties} (g : Good rs (del ls x) ts) : ∀ t ∈ ts, tch x t = false := fun t ht => by
  obtain ⟨_, b, c⟩ := g.ok t ht
  have n1 := (mem_del.mp b).2
  have n2 := (mem_del.mp c).2
  simp [tch, n1, n2]
theorem Good.congr {rs : List (List Int)} {ls : List Int} {ts ts' : Ties} (g : Good rs ls ts) (hn : ts'.Nodup) (h : ∀ t, t ∈ ts' ↔ t ∈ ts) : Good rs ls ts' :=
  ⟨by
    have l1 := nodup_sub_len hn fun t ht => (h t).mp ht
    have l2 := nodup_sub_len g.nd fun t ht => (h t).mpr ht
    have := g.len
    omega, hn, fun t ht => g.ok t ((h t).mp ht), g.conn.ties fun t ht => (h t).mpr ht, fun r hr k h1 h2 => (g.falls r hr k h1 h2).ties fun t ht => (h t).mpr ht⟩
theorem good_one {rs : List (List Int)} {ls : List Int} (W : Wf rs ls) (h : ls.length = 1) : Good rs ls [] := by
  obtain ⟨a, rfl⟩ := List.length_eq_one_iff.mp h
  refine ⟨rfl, List.nodup_nil, fun t ht => (by cases ht), conn_one _ a, fun r hr k h1 h2 => ?_⟩
  have hl := W.len hr
  obtain ⟨b, hb⟩ := List.length_eq_one_iff.mp hl
  rw [hb]
  have hk : k = 1 := by rw [hb] at h2; simp at h2; omega
  subst hk
  exact conn_one _ b
theorem idx_getD {s : List Int} (hn : s.Nodup) {i : Nat} (h : i < s.length) : s.idxOf (s.getD i 0) = i := by
  have e : s.getD i 0 = s[i] := by rw [List.getD_eq_getElem?_getD, List.getElem?_eq_getElem h]; rfl
  rw [e]
  exact hn.idxOf_getElem i h
theorem getD_mem {s : List Int} {i : Nat} (h : i < s.length) : s.getD i 0 ∈ s := by
  rw [List.getD_eq_getElem?_getD, List.getElem?_eq_getElem h]; exact List.getElem_mem h
theorem getD_idx {s : List Int} {y : Int} (h : y ∈ s) : s.getD (s.idxOf y) 0 = y := by
  have hl := List.idxOf_lt_length_of_mem h
  rw [List.getD_eq_getElem?_getD, List.getElem?_eq_getElem hl]; simp
/-- a number's tree: all fall on it, and it has that number -/
theorem tree_of_num {rs : List (List Int)} : ∀ {ls : List Int} {rows : List (Int × List Int)}, RowsR rs ls rows → Wf rs ls → 1 ≤ ls.length → ∀ n, n < prodR rows →
    Good rs ls (treeOf rows n) ∧ ∀ T, Rest ls T (treeOf rows n) → numOf ls rows T = n := by
  intro ls rows h
  induction h with
  | done h =>
    intro W h1 n hn
    have hn0 : n = 0 := by simp only [prodR] at hn; omega
    exact ⟨good_one W (by omega), fun T _ => hn0.symm⟩
  | stop h2 hl he =>
    intro W h1 n hn
    simp only [prodR, List.length_nil, Nat.zero_mul] at hn
    omega
  | @step ls x rows h2 hl hr ih =>
    intro W h1 n hn
    have hx := hl.mem
    have hd := del_len W.nd hx
    have hn' : n < (hangs rs ls x).length * prodR rows := hn
    have hs0 : 0 < (hangs rs ls x).length := by
      refine Nat.pos_of_ne_zero fun e => ?_
      rw [e, Nat.zero_mul] at hn'; omega
    obtain ⟨g, hnum⟩ := ih (W.del x) (by omega) (n / (hangs rs ls x).length) (Nat.div_lt_of_lt_mul hn')
    have hi := Nat.mod_lt n hs0
    have hy := getD_mem hi
    have hya := mem_hangs.mp hy
    have gg := good_add W g hx hy
    refine ⟨gg, fun T hR => ?_⟩
    have hu : ∀ t ∈ treeOf ((x, hangs rs ls x) :: rows) n, tch x t = true → t = tie x ((hangs rs ls x).getD (n % (hangs rs ls x).length) 0) := fun t ht hc => by
      rcases List.mem_cons.mp ht with e | e
      · exact e
      · rw [g.untouched t e] at hc; cases hc
    have ea := at_eq hR hx hya.1.1 hya.1.2 List.mem_cons_self hu
    have hR' : Rest (del ls x) T (treeOf rows (n / (hangs rs ls x).length)) := fun t => by
      constructor
      · rintro ⟨t1, t2, t3⟩
        have a2 := mem_del.mp t2
        have a3 := mem_del.mp t3
        have hm := (hR t).mp ⟨t1, a2.1, a3.1⟩
        rcases List.mem_cons.mp hm with e | e
        · have := tch_tie x _ hya.1.2
          rw [← e] at this
          simp [tch, a2.2, a3.2] at this
        · exact e
      · intro ht
        have h4 := g.ok t ht
        exact ⟨((hR t).mpr (List.mem_cons_of_mem _ ht)).1, h4.2.1, h4.2.2⟩
    show (hangs rs ls x).idxOf (atOf ls x T) + (hangs rs ls x).length * numOf (del ls x) rows T = n
    rw [ea, hnum T hR', idx_getD (hangs_nodup W.nd) hi]
    exact Nat.mod_add_div n _
/-- a tree's number: it is one, and the tree is that of its number -/
theorem num_of_tree {rs : List (List Int)} : ∀ {ls : List Int} {rows : List (Int × List Int)}, RowsR rs ls rows → Wf rs ls → ∀ T TL, Good rs ls TL → Rest ls T TL →
    numOf ls rows T < prodR rows ∧ ∀ t, t ∈ treeOf rows (numOf ls rows T) ↔ t ∈ TL := by
  intro ls rows h
  induction h with
  | done h =>
    intro W T TL g hR
    refine ⟨by simp [numOf, prodR], fun t => ?_⟩
    have hl := g.len
    have : TL = [] := List.length_eq_zero_iff.mp (by omega)
    subst this
    simp [treeOf]
  | stop h2 hl he =>
    intro W T TL g hR
    obtain ⟨y, hy, _⟩ := good_del W g hl h2
    rw [he] at hy; cases hy
  | @step ls x rows h2 hl hr ih =>
    intro W T TL g hR
    obtain ⟨y, hy, ht, hu, g'⟩ := good_del W g hl h2
    have hx := hl.mem
    have hya := mem_hangs.mp hy
    have ea := at_eq hR hx hya.1.1 hya.1.2 ht hu
    have hR' : Rest (del ls x) T (TL.filter fun t => !tch x t) := fun t => by
      constructor
      · rintro ⟨t1, t2, t3⟩
        have a2 := mem_del.mp t2
        have a3 := mem_del.mp t3
        exact List.mem_filter.mpr ⟨(hR t).mp ⟨t1, a2.1, a3.1⟩, by simp [tch, a2.2, a3.2]⟩
      · intro tf
        obtain ⟨t1, t2⟩ := List.mem_filter.mp tf
        obtain ⟨a, b, c⟩ := (hR t).mpr t1
        have e' : tch x t = false := by simpa using t2
        simp only [tch, Bool.or_eq_false_iff, decide_eq_false_iff_not] at e'
        exact ⟨a, mem_del.mpr ⟨b, e'.1⟩, mem_del.mpr ⟨c, e'.2⟩⟩
    obtain ⟨i1, i2⟩ := ih (W.del x) T _ g' hR'
    have hi := List.idxOf_lt_length_of_mem hy
    have en : numOf ls ((x, hangs rs ls x) :: rows) T = (hangs rs ls x).idxOf y + (hangs rs ls x).length * numOf (del ls x) rows T := by
      show (hangs rs ls x).idxOf (atOf ls x T) + _ = _
      rw [ea]
    rw [en]
    have e1 : ((hangs rs ls x).idxOf y + (hangs rs ls x).length * numOf (del ls x) rows T) % (hangs rs ls x).length = (hangs rs ls x).idxOf y := by
      rw [Nat.add_mul_mod_self_left, Nat.mod_eq_of_lt hi]
    have e2 : ((hangs rs ls x).idxOf y + (hangs rs ls x).length * numOf (del ls x) rows T) / (hangs rs ls x).length = numOf (del ls x) rows T := by
      rw [Nat.add_mul_div_left _ _ (by omega), Nat.div_eq_of_lt hi, Nat.zero_add]
    refine ⟨?_, fun t => ?_⟩
    · show _ < (hangs rs ls x).length * prodR rows
      have h5 : (hangs rs ls x).length * (numOf (del ls x) rows T + 1) ≤ (hangs rs ls x).length * prodR rows := Nat.mul_le_mul_left _ i1
      rw [Nat.mul_add, Nat.mul_one] at h5
      omega
    · show t ∈ tie x _ :: treeOf rows _ ↔ _
      rw [e1, e2, getD_idx hy, List.mem_cons, i2 t, List.mem_filter]
      constructor
      · rintro (e | e)
        · subst e; exact ht
        · exact e.1
      · intro q
        by_cases e : tch x t = true
        · exact .inl (hu t q e)
        · exact .inr ⟨q, by simpa using e⟩
theorem rest_self {rs : List (List Int)} {ls : List Int} {T : Ties} (g : Good rs ls T) : Rest ls T T := fun t => ⟨fun h => h.1, fun h => ⟨h, (g.ok t h).2⟩⟩
theorem rest_congr {rs : List (List Int)} {ls : List Int} {T T' : Ties} (g : Good rs ls T) (h : ∀ t, t ∈ T' ↔ t ∈ T) : Rest ls T' T := fun t => ⟨fun q => (h t).mp q.1, fun q => ⟨(h t).mpr q, (g.ok t q).2⟩⟩
/-- unlike numbers have unlike trees -/
theorem tree_inj {rs : List (List Int)} {ls : List Int} {rows : List (Int × List Int)} (R : RowsR rs ls rows) (W : Wf rs ls) (h1 : 1 ≤ ls.length) {n m : Nat} (hn : n < prodR rows) (hm : m < prodR rows) (h : ∀ t, t ∈ treeOf rows n ↔ t ∈ treeOf rows m) : n = m := by
  obtain ⟨g1, e1⟩ := tree_of_num R W h1 n hn
  obtain ⟨g2, e2⟩ := tree_of_num R W h1 m hm
  rw [← e1 _ (rest_self g1), ← e2 (treeOf rows n) (rest_congr g2 h)]
/-- whichever are taken out first: as many -/
theorem prod_le {rs : List (List Int)} {ls : List Int} {rows rows' : List (Int × List Int)} (R : RowsR rs ls rows) (R' : RowsR rs ls rows') (W : Wf rs ls) (h1 : 1 ≤ ls.length) : prodR rows ≤ prodR rows' := by
  have key : ((List.range (prodR rows)).map fun n => numOf ls rows' (treeOf rows n)).Nodup := by
    rw [List.nodup_iff_pairwise_ne, List.pairwise_map]
    have hnd : (List.range (prodR rows)).Nodup := List.nodup_range
    rw [List.nodup_iff_pairwise_ne] at hnd
    refine hnd.imp_of_mem (fun {a b} ha hb hab e => ?_)
    have ha' := List.mem_range.mp ha
    have hb' := List.mem_range.mp hb
    obtain ⟨g1, _⟩ := tree_of_num R W h1 a ha'
    obtain ⟨g2, _⟩ := tree_of_num R W h1 b hb'
    obtain ⟨_, m1⟩ := num_of_tree R' W _ _ g1 (rest_self g1)
    obtain ⟨_, m2⟩ := num_of_tree R' W _ _ g2 (rest_self g2)
    rw [← e] at m2
    exact hab (tree_inj R W h1 ha' hb' fun t => (m1 t).symm.trans (m2 t))
  have h2 := nodup_sub_len key (m := List.range (prodR rows')) (fun k hk => by
    obtain ⟨n, hn, e⟩ := List.mem_map.mp hk
    obtain ⟨g1, _⟩ := tree_of_num R W h1 n (List.mem_range.mp hn)
    rw [← e]
    exact List.mem_range.mpr (num_of_tree R' W _ _ g1 (rest_self g1)).1)
  rw [List.length_map, List.length_range, List.length_range] at h2
  exact h2
theorem prod_eq {rs : List (List Int)} {ls : List Int} {rows rows' : List (Int × List Int)} (R : RowsR rs ls rows) (R' : RowsR rs ls rows') (W : Wf rs ls) (h1 : 1 ≤ ls.length) : prodR rows = prodR rows' :=
  Nat.le_antisymm (prod_le R R' W h1) (prod_le R' R W h1)
end G46
set_option maxHeartbeats 1000000
namespace G46
/-! ### sorted lists without repeats -/
theorem sorted_uniq {α : Type} {lt : α → α → Prop} (asym : ∀ a b, lt a b → ¬ lt b a) : ∀ {l m : List α}, l.Pairwise lt → m.Pairwise lt → (∀ t, t ∈ l ↔ t ∈ m) → l = m
  | [], [], _, _, _ => rfl
  | [], b :: m, _, _, h => absurd ((h b).mpr List.mem_cons_self) (by simp)
  | a :: l, [], _, _, h => absurd ((h a).mp List.mem_cons_self) (by simp)
  | a :: l, b :: m, hl, hm, h => by
    obtain ⟨hl1, hl2⟩ := List.pairwise_cons.mp hl
    obtain ⟨hm1, hm2⟩ := List.pairwise_cons.mp hm
    have e : a = b := by
      refine Classical.byContradiction fun hne => ?_
      have h1 : a ∈ m := by
        rcases List.mem_cons.mp ((h a).mp List.mem_cons_self) with q | q
        · exact absurd q hne
        · exact q
      have h2 : b ∈ l := by
        rcases List.mem_cons.mp ((h b).mpr List.mem_cons_self) with q | q
        · exact absurd q.symm hne
        · exact q
      exact asym _ _ (hl1 b h2) (hm1 a h1)
    subst e
    have irr : ¬ lt a a := fun q => asym a a q q
    rw [sorted_uniq asym hl2 hm2 fun t => ?_]
    constructor
    · intro ht
      rcases List.mem_cons.mp ((h t).mp (List.mem_cons_of_mem _ ht)) with q | q
      · subst q; exact absurd (hl1 t ht) irr
      · exact q
    · intro ht
      rcases List.mem_cons.mp ((h t).mpr (List.mem_cons_of_mem _ ht)) with q | q
      · subst q; exact absurd (hm1 t ht) irr
      · exact q
/-- two sorted rearrangements are one, where the order tells all unlike things apart -/
theorem sorted_perm {α : Type} {lt : α → α → Bool} (tri : ∀ a b, lt a b = false → lt b a = false → a = b) : ∀ {l m : List α}, l.Pairwise (fun a b => lt b a = false) → m.Pairwise (fun a b => lt b a = false) → l.Perm m → l = m
  | [], m, _, _, h => (List.nil_perm.mp h).symm
  | a :: l, [], _, _, h => absurd (List.perm_nil.mp h) (by simp)
  | a :: l, b :: m, hl, hm, h => by
    obtain ⟨hl1, hl2⟩ := List.pairwise_cons.mp hl
    obtain ⟨hm1, hm2⟩ := List.pairwise_cons.mp hm
    have e : a = b := by
      refine Classical.byContradiction fun hne => ?_
      have h1 : a ∈ m := by
        rcases List.mem_cons.mp (h.mem_iff.mp (List.mem_cons_self (a := a) (l := l))) with q | q
        · exact absurd q hne
        · exact q
      have h2 : b ∈ l := by
        rcases List.mem_cons.mp (h.mem_iff.mpr (List.mem_cons_self (a := b) (l := m))) with q | q
        · exact absurd q.symm hne
        · exact q
      exact hne (tri a b (hm1 a h1) (hl1 b h2))
    subst e
    rw [sorted_perm tri hl2 hm2 h.cons_inv]
/-! ### the order of ties -/
def lexT (a b : Int × Int) : Prop := a.1 < b.1 ∨ (a.1 = b.1 ∧ a.2 < b.2)
instance (a b : Int × Int) : Decidable (lexT a b) := by unfold lexT; exact inferInstance
theorem lexT_asym (a b : Int × Int) (h : lexT a b) : ¬ lexT b a := by unfold lexT at *; omega
theorem lexT_tot {a b : Int × Int} (h : a ≠ b) (h2 : ¬ lexT a b) : lexT b a := by
  obtain ⟨a1, a2⟩ := a
  obtain ⟨b1, b2⟩ := b
  unfold lexT at *
  have h' : ¬ (a1 = b1 ∧ a2 = b2) := fun q => h (by rw [q.1, q.2])
  simp only at *
  omega
abbrev SrtT (ts : Ties) : Prop := ts.Pairwise lexT
theorem SrtT.nd {ts : Ties} (h : SrtT ts) : ts.Nodup := by
  rw [List.nodup_iff_pairwise_ne]
  exact h.imp fun {a b} q e => by subst e; exact lexT_asym a a q q
def insT (t : Int × Int) : Ties → Ties
  | [] => [t]
  | u :: us => if lexT t u then t :: u :: us else u :: insT t us
theorem mem_insT {t u : Int × Int} : ∀ {us : Ties}, u ∈ insT t us ↔ u = t ∨ u ∈ us
  | [] => by simp [insT]
  | v :: us => by
    unfold insT
    split
    · simp
    · rw [List.mem_cons, mem_insT, List.mem_cons]
      constructor
      · rintro (h | h | h)
        · exact .inr (.inl h)
        · exact .inl h
        · exact .inr (.inr h)
      · rintro (h | h | h)
        · exact .inr (.inl h)
        · exact .inl h
        · exact .inr (.inr h)
theorem insT_srt {t : Int × Int} : ∀ {us : Ties}, SrtT us → t ∉ us → SrtT (insT t us)
  | [], _, _ => by simp [insT]
  | v :: us, h, hn => by
    obtain ⟨h1, h2⟩ := List.pairwise_cons.mp h
    unfold insT
    split
    · rename_i c
      refine List.pairwise_cons.mpr ⟨fun u hu => ?_, h⟩
      rcases List.mem_cons.mp hu with e | e
      · subst e; exact c
      · have := h1 u e
        unfold lexT at *; omega
    · rename_i c
      have hne : t ≠ v := fun e => hn (by rw [e]; exact List.mem_cons_self)
      refine List.pairwise_cons.mpr ⟨fun u hu => ?_, insT_srt h2 fun q => hn (List.mem_cons_of_mem _ q)⟩
      rcases mem_insT.mp hu with e | e
      · subst e; exact lexT_tot hne c
      · exact h1 u e
/-- the sorted list of the ties, each once -/
def sset : Ties → Ties
  | [] => []
  | t :: ts => if t ∈ sset ts then sset ts else insT t (sset ts)
theorem mem_sset {u : Int × Int} : ∀ {ts : Ties}, u ∈ sset ts ↔ u ∈ ts
  | [] => by simp [sset]
  | t :: ts => by
    unfold sset
    split
    · rename_i c
      rw [mem_sset, List.mem_cons]
      constructor
      · exact .inr
      · rintro (e | e)
        · subst e; exact mem_sset.mp c
        · exact e
    · rw [mem_insT, mem_sset, List.mem_cons]
theorem sset_srt : ∀ ts : Ties, SrtT (sset ts)
  | [] => by simp [sset]
  | t :: ts => by
    unfold sset
    split
    · exact sset_srt ts
    · rename_i c; exact insT_srt (sset_srt ts) c
theorem sset_eq {ts us : Ties} (h : SrtT us) (hm : ∀ t, t ∈ us ↔ t ∈ ts) : us = sset ts := sorted_uniq lexT_asym h (sset_srt ts) fun t => (hm t).trans mem_sset.symm
theorem sset_self {ts : Ties} (h : SrtT ts) : sset ts = ts := (sset_eq h fun _ => Iff.rfl).symm
theorem sset_congr {ts us : Ties} (h : ∀ t, t ∈ ts ↔ t ∈ us) : sset ts = sset us := sset_eq (sset_srt ts) fun t => mem_sset.trans (h t)
theorem sset_len {ts : Ties} (h : ts.Nodup) : (sset ts).length = ts.length :=
  Nat.le_antisymm (nodup_sub_len (sset_srt ts).nd fun t ht => mem_sset.mp ht) (nodup_sub_len h fun t ht => mem_sset.mpr ht)
/-! ### rising lists of names -/
abbrev Ris (l : List Int) : Prop := l.Pairwise (· < ·)
theorem ris_uniq {l m : List Int} (hl : Ris l) (hm : Ris m) (h : ∀ x, x ∈ l ↔ x ∈ m) : l = m := sorted_uniq (fun a b (q : a < b) (q' : b < a) => by omega) hl hm h
theorem Ris.nd {l : List Int} (h : Ris l) : l.Nodup := by
  rw [List.nodup_iff_pairwise_ne]
  exact h.imp fun {a b} q e => by omega
def insI (t : Int) : List Int → List Int
  | [] => [t]
  | u :: us => if t < u then t :: u :: us else if t = u then u :: us else u :: insI t us
theorem mem_insI {t u : Int} : ∀ {us : List Int}, u ∈ insI t us ↔ u = t ∨ u ∈ us
  | [] => by simp [insI]
  | v :: us => by
    unfold insI
    split
    · simp
    · split
      · rename_i e; subst e; simp
      · rw [List.mem_cons, mem_insI, List.mem_cons]
        constructor
        · rintro (h | h | h)
          · exact .inr (.inl h)
          · exact .inl h
          · exact .inr (.inr h)
        · rintro (h | h | h)
          · exact .inr (.inl h)
          · exact .inl h
          · exact .inr (.inr h)
theorem insI_ris {t : Int} : ∀ {us : List Int}, Ris us → Ris (insI t us)
  | [], _ => by simp [insI]
  | v :: us, h => by
    obtain ⟨h1, h2⟩ := List.pairwise_cons.mp h
    unfold insI
    split
    · rename_i c
      refine List.pairwise_cons.mpr ⟨fun u hu => ?_, h⟩
      rcases List.mem_cons.mp hu with e | e
      · subst e; exact c
      · have := h1 u e; omega
    · split
      · exact h
      · refine List.pairwise_cons.mpr ⟨fun u hu => ?_, insI_ris h2⟩
        rcases mem_insI.mp hu with e | e
        · omega
        · exact h1 u e
def sortI (l : List Int) : List Int := l.foldr insI []
theorem sortI_ris : ∀ l : List Int, Ris (sortI l)
  | [] => List.Pairwise.nil
  | a :: l => insI_ris (sortI_ris l)
theorem mem_sortI {x : Int} : ∀ {l : List Int}, x ∈ sortI l ↔ x ∈ l
  | [] => Iff.rfl
  | a :: l => by
    show x ∈ insI a (sortI l) ↔ _
    rw [mem_insI, mem_sortI, List.mem_cons]
/-- the names that are last in some ranking, rising -/
def lastsM (rs : List (List Int)) (ls : List Int) : List Int := sortI (rs.filterMap fun r => (cut r ls).getLast?)
theorem mem_lastsM {rs : List (List Int)} {ls : List Int} {x : Int} : x ∈ lastsM rs ls ↔ IsLast rs ls x := by
  unfold lastsM IsLast
  rw [mem_sortI, List.mem_filterMap]
/-- taken out one by one, the least last first, up to one that can hang nowhere -/
def takenF (rs : List (List Int)) : Nat → List Int → List (Int × List Int)
  | 0, _ => []
  | n + 1, ls => if ls.length ≤ 1 then [] else
    if hangs rs ls ((lastsM rs ls).headD 0) = [] then [((lastsM rs ls).headD 0, [])] else ((lastsM rs ls).headD 0, hangs rs ls ((lastsM rs ls).headD 0)) :: takenF rs n (del ls ((lastsM rs ls).headD 0))
def taken (rs : List (List Int)) (ls : List Int) : List (Int × List Int) := takenF rs ls.length ls
theorem lastsM_ne {rs : List (List Int)} {ls : List Int} (W : Wf rs ls) (hr : rs ≠ []) (h : 1 ≤ ls.length) : lastsM rs ls ≠ [] := by
  match rs, hr, W with
  | r :: rs', _, W =>
    have hl := W.len (List.mem_cons_self (a := r))
    cases e : (cut r ls).getLast? with
    | none =>
      rw [List.getLast?_eq_none_iff] at e
      rw [e] at hl; simp at hl; omega
    | some x =>
      intro q
      have : x ∈ lastsM (r :: rs') ls := mem_lastsM.mpr ⟨r, List.mem_cons_self, e⟩
      rw [q] at this; cases this
theorem headD_mem {l : List Int} (h : l ≠ []) : l.headD 0 ∈ l := by
  match l, h with
  | a :: l, _ => exact List.mem_cons_self
theorem first_last {rs : List (List Int)} {ls : List Int} (W : Wf rs ls) (hr : rs ≠ []) (h : 1 ≤ ls.length) : IsLast rs ls ((lastsM rs ls).headD 0) := mem_lastsM.mp (headD_mem (lastsM_ne W hr h))
theorem takenF_rows {rs : List (List Int)} (hr : rs ≠ []) : ∀ (n : Nat) (ls : List Int), Wf rs ls → ls.length ≤ n → RowsR rs ls (takenF rs n ls)
  | 0, ls, _, h => .done (by omega)
  | n + 1, ls, W, h => by
    unfold takenF
    by_cases h1 : ls.length ≤ 1
    · rw [if_pos h1]; exact .done h1
    · rw [if_neg h1]
      have hl := first_last W hr (by omega)
      by_cases h2 : hangs rs ls ((lastsM rs ls).headD 0) = []
      · rw [if_pos h2]; exact .stop (by omega) hl h2
      · rw [if_neg h2]
        have hd := del_len W.nd hl.mem
        exact .step (by omega) hl (takenF_rows hr n _ (W.del _) (by omega))
theorem taken_rows {rs : List (List Int)} {ls : List Int} (hr : rs ≠ []) (W : Wf rs ls) : RowsR rs ls (taken rs ls) := takenF_rows hr _ _ W (Nat.le_refl _)
theorem taken_done {rs : List (List Int)} {ls : List Int} (h : ls.length ≤ 1) : taken rs ls = [] := by
  unfold taken
  cases e : ls.length with
  | zero => rfl
  | succ n => unfold takenF; rw [if_pos h]
theorem taken_stop {rs : List (List Int)} {ls : List Int} (h : ¬ ls.length ≤ 1) (h2 : hangs rs ls ((lastsM rs ls).headD 0) = []) : taken rs ls = [((lastsM rs ls).headD 0, [])] := by
  unfold taken
  cases e : ls.length with
  | zero => omega
  | succ n => unfold takenF; rw [if_neg h, if_pos h2]
theorem taken_step {rs : List (List Int)} {ls : List Int} (hr : rs ≠ []) (W : Wf rs ls) (h : ¬ ls.length ≤ 1) (h2 : hangs rs ls ((lastsM rs ls).headD 0) ≠ []) :
    taken rs ls = ((lastsM rs ls).headD 0, hangs rs ls ((lastsM rs ls).headD 0)) :: taken rs (del ls ((lastsM rs ls).headD 0)) := by
  have hl := first_last W hr (by omega)
  have hd : (del ls ((lastsM rs ls).headD 0)).length + 1 = ls.length := del_len W.nd hl.mem
  unfold taken
  cases e : ls.length with
  | zero => omega
  | succ n =>
    have e2 : (del ls ((lastsM rs ls).headD 0)).length = n := by omega
    rw [e2]
    show (if ls.length ≤ 1 then [] else _) = _
    rw [if_neg h, if_neg h2]
/-! ### a tree's list -/
/-- a folk of the names ns -/
structure Folk (ns : List Int) (rs : List (List Int)) : Prop where
  ris : Ris ns
  nn : ∀ x ∈ ns, 0 ≤ x
  len : 1 ≤ ns.length ∧ ns.length ≤ 10
  hands : 1 ≤ rs.length ∧ rs.length ≤ 20
  perm : ∀ r ∈ rs, r.Perm ns
theorem Folk.wf {ns : List Int} {rs : List (List Int)} (F : Folk ns rs) : Wf rs ns :=
  ⟨F.ris.nd, fun r hr => (F.perm r hr).nodup_iff.mpr F.ris.nd, fun r hr x hx => (F.perm r hr).mem_iff.mpr hx⟩
theorem Folk.ne {ns : List Int} {rs : List (List Int)} (F : Folk ns rs) : rs ≠ [] := fun e => by have := F.hands.1; rw [e] at this; simp at this
theorem cut_all {r ls : List Int} (h : ∀ x ∈ r, x ∈ ls) : cut r ls = r := List.filter_eq_self.mpr fun x hx => decide_eq_true (h x hx)
theorem Folk.cut {ns : List Int} {rs : List (List Int)} (F : Folk ns rs) {r : List Int} (hr : r ∈ rs) : cut r ns = r := cut_all fun x hx => (F.perm r hr).mem_iff.mp hx
/-- a tree of the names, its list sorted -/
structure RTree (ns : List Int) (ts : Ties) : Prop where
  len : ts.length + 1 = ns.length
  ok : ∀ t ∈ ts, t.1 < t.2 ∧ t.1 ∈ ns ∧ t.2 ∈ ns
  srt : SrtT ts
  conn : Conn ts ns
def Falls (ts : Ties) (r : List Int) : Prop := ∀ k, 1 ≤ k → k ≤ r.length → Conn ts (r.take k)
theorem good_iff {ns : List Int} {rs : List (List Int)} (F : Folk ns rs) {ts : Ties} : (Good rs ns ts ∧ SrtT ts) ↔ (RTree ns ts ∧ ∀ r ∈ rs, Falls ts r) := by
  constructor
  · rintro ⟨g, s⟩
    exact ⟨⟨g.len, g.ok, s, g.conn⟩, fun r hr k h1 h2 => by
      have := g.falls r hr k h1 (by rw [F.cut hr]; exact h2)
      rw [F.cut hr] at this
      exact this⟩
  · rintro ⟨t, f⟩
    exact ⟨⟨t.len, t.srt.nd, t.ok, t.conn, fun r hr k h1 h2 => by
      rw [F.cut hr] at h2 ⊢
      exact f r hr k h1 h2⟩, t.srt⟩
/-- the tree of a number, its list -/
def treeBy (ns : List Int) (rs : List (List Int)) (n : Nat) : Ties := sset (treeOf (taken rs ns) n)
def many (ns : List Int) (rs : List (List Int)) : Nat := prodR (taken rs ns)
def numBy (ns : List Int) (rs : List (List Int)) (T : Ties) : Nat := numOf ns (taken rs ns) T
section
variable {ns : List Int} {rs : List (List Int)} (F : Folk ns rs)
include F
theorem treeBy_good {n : Nat} (h : n < many ns rs) : Good rs ns (treeBy ns rs n) ∧ SrtT (treeBy ns rs n) := by
  obtain ⟨g, _⟩ := tree_of_num (taken_rows F.ne F.wf) F.wf F.len.1 n h
  exact ⟨g.congr (sset_srt _).nd fun t => mem_sset, sset_srt _⟩
theorem numBy_treeBy {n : Nat} (h : n < many ns rs) : numBy ns rs (treeBy ns rs n) = n := by
  obtain ⟨g, e⟩ := tree_of_num (taken_rows F.ne F.wf) F.wf F.len.1 n h
  exact e _ (rest_congr g fun t => mem_sset)
theorem treeBy_numBy {T : Ties} (g : Good rs ns T) (s : SrtT T) : numBy ns rs T < many ns rs ∧ treeBy ns rs (numBy ns rs T) = T := by
  obtain ⟨h1, h2⟩ := num_of_tree (taken_rows F.ne F.wf) F.wf T T g (rest_self g)
  refine ⟨h1, ?_⟩
  exact (sset_eq s fun t => (h2 t).symm).symm
theorem treeBy_inj {n m : Nat} (hn : n < many ns rs) (hm : m < many ns rs) : treeBy ns rs n = treeBy ns rs m ↔ n = m := by
  constructor
  · intro e
    rw [← numBy_treeBy F hn, ← numBy_treeBy F hm, e]
  · intro e; rw [e]
theorem many_eq {rows : List (Int × List Int)} (R : RowsR rs ns rows) : prodR rows = many ns rs := prod_eq R (taken_rows F.ne F.wf) F.wf F.len.1
end
end G46
set_option maxHeartbeats 1000000
namespace G46
theorem nodup_perm {α : Type} [DecidableEq α] : ∀ {l m : List α}, l.Nodup → m.Nodup → (∀ x, x ∈ l ↔ x ∈ m) → l.Perm m
  | [], m, _, _, h => by
    have : m = [] := List.eq_nil_iff_forall_not_mem.mpr fun x hx => by have := (h x).mpr hx; cases this
    rw [this]
  | a :: l, m, hl, hm, h => by
    obtain ⟨h1, h2⟩ := List.nodup_cons.mp hl
    have ha : a ∈ m := (h a).mp List.mem_cons_self
    refine (List.Perm.cons a (nodup_perm h2 (hm.erase a) fun x => ?_)).trans (List.perm_cons_erase ha).symm
    constructor
    · intro hx
      have hne : x ≠ a := fun e => h1 (e ▸ hx)
      exact (List.mem_erase_of_ne hne).mpr ((h x).mp (List.mem_cons_of_mem _ hx))
    · intro hx
      have hne : x ≠ a := fun e => by subst e; exact (List.Nodup.not_mem_erase hm) hx
      rcases List.mem_cons.mp ((h x).mpr (List.mem_of_mem_erase hx)) with e | e
      · exact absurd e hne
      · exact e
/-! ### all trees, grown tie by tie -/
def atry (k : Nat) (lg : List Ties) (t : Ties) (one other : Int) : List Ties :=
  if one < other ∧ (sset (t ++ [(one, other)])).length = k + 1 ∧ sset (t ++ [(one, other)]) ∉ lg ∧ noRing (fun x => x) (sset (t ++ [(one, other)])) = true then lg ++ [sset (t ++ [(one, other)])] else lg
def arow (ns : List Int) (k : Nat) (t : Ties) (one : Int) (lg : List Ties) : List Ties := ns.foldl (fun lg other => atry k lg t one other) lg
def asq (ns : List Int) (k : Nat) (lg : List Ties) (t : Ties) : List Ties := ns.foldl (fun lg one => arow ns k t one lg) lg
def alevel (ns : List Int) (k : Nat) (found : List Ties) : List Ties := found.foldl (asq ns k) []
def allT (ns : List Int) : Nat → List Ties
  | 0 => [[]]
  | k + 1 => alevel ns k (allT ns k)
/-- what a look keeps -/
structure AInv (ns : List Int) (lg : List Ties) : Prop where
  nd : lg.Nodup
  form : ∀ T ∈ lg, SrtT T ∧ ∀ t ∈ T, t.1 ∈ ns ∧ t.2 ∈ ns
theorem atry_inv {ns : List Int} {k : Nat} {lg : List Ties} {t : Ties} {one other : Int} (h : AInv ns lg) (ht : ∀ u ∈ t, u.1 ∈ ns ∧ u.2 ∈ ns) (h1 : one ∈ ns) (h2 : other ∈ ns) : AInv ns (atry k lg t one other) := by
  unfold atry
  split
  · rename_i c
    refine ⟨List.nodup_append.mpr ⟨h.nd, by simp, fun x hx y hy e => ?_⟩, fun T hT => ?_⟩
    · rw [List.mem_singleton] at hy
      subst hy; subst e
      exact c.2.2.1 hx
    · rcases List.mem_append.mp hT with q | q
      · exact h.form T q
      · rw [List.mem_singleton] at q
        subst q
        refine ⟨sset_srt _, fun u hu => ?_⟩
        rcases List.mem_append.mp (mem_sset.mp hu) with q | q
        · exact ht u q
        · rw [List.mem_singleton] at q; subst q; exact ⟨h1, h2⟩
  · exact h
theorem fold_keep {α β : Type} {f : β → α → β} {I : β → Prop} : ∀ (l : List α) (b : β), I b → (∀ b a, a ∈ l → I b → I (f b a)) → I (l.foldl f b)
  | [], _, h, _ => h
  | a :: l, b, h, hs => fold_keep l (f b a) (hs b a List.mem_cons_self h) fun b a' ha => hs b a' (List.mem_cons_of_mem _ ha)
/-- what one turn brings in stays to the end -/
theorem fold_hit {α β : Type} {f : β → α → β} {I : β → Prop} : ∀ (l : List α) (b : β) (x : α), x ∈ l → (∀ b a, a ∈ l → I b → I (f b a)) → (∀ b, I (f b x)) → I (l.foldl f b)
  | a :: l, b, x, hx, hs, hh => by
    rcases List.mem_cons.mp hx with e | e
    · subst e
      exact fold_keep l (f b x) (hh b) fun b a' ha => hs b a' (List.mem_cons_of_mem _ ha)
    · exact fold_hit l (f b a) x e (fun b a' ha => hs b a' (List.mem_cons_of_mem _ ha)) hh
theorem arow_inv {ns : List Int} {k : Nat} {lg : List Ties} {t : Ties} {one : Int} (h : AInv ns lg) (ht : ∀ u ∈ t, u.1 ∈ ns ∧ u.2 ∈ ns) (h1 : one ∈ ns) : AInv ns (arow ns k t one lg) :=
  fold_keep ns lg h fun b a ha hb => atry_inv hb ht h1 ha
theorem asq_inv {ns : List Int} {k : Nat} {lg : List Ties} {t : Ties} (h : AInv ns lg) (ht : ∀ u ∈ t, u.1 ∈ ns ∧ u.2 ∈ ns) : AInv ns (asq ns k lg t) :=
  fold_keep ns lg h fun b a ha hb => arow_inv hb ht ha
theorem alevel_inv {ns : List Int} {k : Nat} {found : List Ties} (h : ∀ T ∈ found, ∀ t ∈ T, t.1 ∈ ns ∧ t.2 ∈ ns) : AInv ns (alevel ns k found) :=
  fold_keep found [] ⟨List.nodup_nil, fun T hT => (by cases hT)⟩ fun b a ha hb => asq_inv hb (h a ha)
theorem allT_inv (ns : List Int) : ∀ k, AInv ns (allT ns k)
  | 0 => ⟨by simp [allT], fun T hT => by
    have : T = [] := by simpa [allT] using hT
    subst this
    exact ⟨List.Pairwise.nil, fun t ht => (by cases ht)⟩⟩
  | k + 1 => alevel_inv fun T hT => ((allT_inv ns k).form T hT).2
theorem atry_mono {k : Nat} {lg : List Ties} {t : Ties} {one other : Int} {S : Ties} (h : S ∈ lg) : S ∈ atry k lg t one other := by
  unfold atry
  split
  · exact List.mem_append_left _ h
  · exact h
theorem arow_mono {ns : List Int} {k : Nat} {lg : List Ties} {t : Ties} {one : Int} {S : Ties} (h : S ∈ lg) : S ∈ arow ns k t one lg :=
  fold_keep (I := fun b => S ∈ b) ns lg h fun b a _ hb => atry_mono hb
theorem asq_mono {ns : List Int} {k : Nat} {lg : List Ties} {t : Ties} {S : Ties} (h : S ∈ lg) : S ∈ asq ns k lg t :=
  fold_keep (I := fun b => S ∈ b) ns lg h fun b a _ hb => arow_mono hb
theorem atry_hit {k : Nat} (lg : List Ties) {t : Ties} {one other : Int} (h1 : one < other) (h2 : (sset (t ++ [(one, other)])).length = k + 1) (h3 : noRing (fun x => x) (sset (t ++ [(one, other)])) = true) : sset (t ++ [(one, other)]) ∈ atry k lg t one other := by
  by_cases c : sset (t ++ [(one, other)]) ∈ lg
  · exact atry_mono c
  · unfold atry
    rw [if_pos ⟨h1, h2, c, h3⟩]
    exact List.mem_append_right _ (List.mem_singleton.mpr rfl)
/-- each tree is among them -/
theorem allT_has {ns : List Int} {T : Ties} (g : RTree ns T) (hn : ns.Nodup) : ∀ (k : Nat) (S : Ties), SrtT S → S.length = k → (∀ t ∈ S, t ∈ T) → S ∈ allT ns k
  | 0, S, _, hl, _ => by
    have : S = [] := List.length_eq_zero_iff.mp hl
    subst this
    simp [allT]
  | k + 1, S, hs, hl, hsub => by
    have hne : S ≠ [] := fun e => by rw [e] at hl; simp at hl
    have es := List.dropLast_concat_getLast hne
    have hD : SrtT S.dropLast := hs.sublist (List.dropLast_sublist S)
    have ih := allT_has g hn k S.dropLast hD (by rw [List.length_dropLast]; omega) fun t ht => hsub t (List.dropLast_subset _ ht)
    have hL := List.getLast_mem hne
    obtain ⟨h1, h2, h3⟩ := g.ok _ (hsub _ hL)
    have em : sset (S.dropLast ++ [((S.getLast hne).1, (S.getLast hne).2)]) = S := by
      show sset (S.dropLast ++ [S.getLast hne]) = S
      rw [es]; exact sset_self hs
    have hit := fun lg => atry_hit (k := k) lg (t := S.dropLast) (one := (S.getLast hne).1) (other := (S.getLast hne).2) h1 (by rw [em]; exact hl) (by rw [em]; exact tree_noRing hn g.conn g.len g.srt.nd hs.nd hsub)
    rw [em] at hit
    show S ∈ (allT ns k).foldl (asq ns k) []
    refine fold_hit (I := fun b => S ∈ b) _ _ S.dropLast ih (fun b a _ hb => asq_mono hb) fun b => ?_
    refine fold_hit (I := fun b => S ∈ b) ns b (S.getLast hne).1 h2 (fun b a _ hb => arow_mono hb) fun b => ?_
    exact fold_hit (I := fun b => S ∈ b) ns b (S.getLast hne).2 h3 (fun b a _ hb => atry_mono hb) hit
/-! ### how many -/
theorem atry_len (k : Nat) (lg : List Ties) (t : Ties) (one other : Int) : (atry k lg t one other).length ≤ lg.length + 1 := by
  unfold atry
  split
  · simp
  · omega
theorem fold_len {α : Type} {f : List Ties → α → List Ties} {c : Nat} : ∀ (l : List α) (b : List Ties), (∀ b a, (f b a).length ≤ b.length + c) → (l.foldl f b).length ≤ b.length + c * l.length
  | [], b, _ => by simp
  | a :: l, b, h => by
    have h1 := fold_len l (f b a) h
    have h2 := h b a
    rw [List.foldl_cons, List.length_cons, Nat.mul_add, Nat.mul_one]
    omega
theorem arow_len (ns : List Int) (k : Nat) (t : Ties) (one : Int) (lg : List Ties) : (arow ns k t one lg).length ≤ lg.length + ns.length := by
  have := fold_len (f := fun lg other => atry k lg t one other) (c := 1) ns lg fun b a => atry_len k b t one a
  rw [Nat.one_mul] at this
  exact this
theorem asq_len (ns : List Int) (k : Nat) (lg : List Ties) (t : Ties) : (asq ns k lg t).length ≤ lg.length + ns.length * ns.length :=
  fold_len (f := fun lg one => arow ns k t one lg) ns lg fun b a => arow_len ns k t a b
theorem alevel_len (ns : List Int) (k : Nat) (found : List Ties) : (alevel ns k found).length ≤ ns.length * ns.length * found.length := by
  have h := fold_len (f := asq ns k) found [] fun b a => asq_len ns k b a
  rw [List.length_nil, Nat.zero_add] at h
  exact h
theorem allT_len {ns : List Int} (h : ns.length ≤ 4) : ∀ k, (allT ns k).length ≤ 16 ^ k
  | 0 => by simp [allT]
  | k + 1 => by
    have h1 := alevel_len ns k (allT ns k)
    have h2 := allT_len h k
    have h3 : ns.length * ns.length ≤ 16 := Nat.mul_le_mul h h
    have h4 := Nat.mul_le_mul h3 h2
    rw [Nat.pow_succ, Nat.mul_comm (16 ^ k)]
    exact Nat.le_trans h1 h4
/-- the trees told by number are just those among all -/
theorem trees_perm {ns : List Int} {rs : List (List Int)} (F : Folk ns rs) (p : Ties → Bool) (hp : ∀ T, p T = true ↔ RTree ns T ∧ ∀ r ∈ rs, Falls T r) :
    ((List.range (many ns rs)).map (treeBy ns rs)).Perm ((allT ns (ns.length - 1)).filter p) := by
  refine nodup_perm ?_ ((allT_inv ns _).nd.filter _) fun T => ?_
  · rw [List.nodup_iff_pairwise_ne, List.pairwise_map]
    have hnd : (List.range (many ns rs)).Nodup := List.nodup_range
    rw [List.nodup_iff_pairwise_ne] at hnd
    refine hnd.imp_of_mem (fun {a b} ha hb hab e => ?_)
    exact hab ((treeBy_inj F (List.mem_range.mp ha) (List.mem_range.mp hb)).mp e)
  · rw [List.mem_map, List.mem_filter, hp]
    constructor
    · rintro ⟨n, hn, e⟩
      have h1 := (good_iff F).mp (treeBy_good F (List.mem_range.mp hn))
      rw [e] at h1
      exact ⟨allT_has h1.1 F.ris.nd _ T h1.1.srt (by have := h1.1.len; omega) fun _ h => h, h1⟩
    · rintro ⟨_, h⟩
      obtain ⟨g, s⟩ := (good_iff F).mpr h
      obtain ⟨h1, h2⟩ := treeBy_numBy F g s
      exact ⟨_, List.mem_range.mpr h1, h2⟩
/-! ### the order of trees -/
def ltL : Ties → Ties → Bool
  | [], [] => false
  | [], _ :: _ => true
  | _ :: _, [] => false
  | a :: as, b :: bs => if a = b then ltL as bs else decide (lexT a b)
theorem ltL_tri : ∀ a b : Ties, ltL a b = false → ltL b a = false → a = b
  | [], [], _, _ => rfl
  | [], _ :: _, h, _ => by simp [ltL] at h
  | _ :: _, [], _, h => by simp [ltL] at h
  | a :: as, b :: bs, h, h' => by
    by_cases e : a = b
    · subst e
      simp only [ltL, if_true] at h h'
      rw [ltL_tri as bs h h']
    · have e' : ¬ b = a := fun q => e q.symm
      simp only [ltL, if_neg e, if_neg e', decide_eq_false_iff_not] at h h'
      exact absurd (lexT_tot e h) h'
theorem ltL_asym : ∀ a b : Ties, ltL a b = true → ltL b a = false
  | [], [], h => rfl
  | [], _ :: _, _ => rfl
  | _ :: _, [], h => by simp [ltL] at h
  | a :: as, b :: bs, h => by
    by_cases e : a = b
    · subst e
      simp only [ltL, if_true] at h ⊢
      exact ltL_asym as bs h
    · have e' : ¬ b = a := fun q => e q.symm
      simp only [ltL, if_neg e, if_neg e', decide_eq_true_eq, decide_eq_false_iff_not] at h ⊢
      exact lexT_asym _ _ h
theorem lexT_tr {a b c : Int × Int} (h1 : lexT a b) (h2 : lexT b c) : lexT a c := by unfold lexT at *; omega
theorem ltL_tr : ∀ a b c : Ties, ltL a b = true → ltL b c = true → ltL a c = true
  | [], [], _, h, _ => by simp [ltL] at h
  | [], _ :: _, [], _, h => by simp [ltL] at h
  | [], _ :: _, _ :: _, _, _ => rfl
  | _ :: _, [], _, h, _ => by simp [ltL] at h
  | _ :: _, _ :: _, [], _, h => by simp [ltL] at h
  | a :: as, b :: bs, c :: cs, h1, h2 => by
    by_cases e : a = b
    · subst e
      by_cases e2 : a = c
      · subst e2
        simp only [ltL, if_true] at h1 h2 ⊢
        exact ltL_tr as bs cs h1 h2
      · simp only [ltL, if_neg e2, decide_eq_true_eq] at h2 ⊢
        exact h2
    · by_cases e2 : b = c
      · subst e2
        simp only [ltL, if_neg e, decide_eq_true_eq] at h1 ⊢
        exact h1
      · simp only [ltL, if_neg e, if_neg e2, decide_eq_true_eq] at h1 h2
        have h3 := lexT_tr h1 h2
        have e3 : ¬ a = c := fun q => by subst q; exact lexT_asym _ _ h3 h3
        simp only [ltL, if_neg e3, decide_eq_true_eq]
        exact h3
theorem ltL_neg {x y z : Ties} (h1 : ltL y x = false) (h2 : ltL z y = false) : ltL z x = false := by
  cases e : ltL z x with
  | false => rfl
  | true =>
    by_cases c : x = y
    · subst c; rw [e] at h2; cases h2
    · have h3 : ltL x y = true := by
        cases q : ltL x y with
        | true => rfl
        | false => exact absurd (ltL_tri x y q h1) c
      rw [ltL_tr z x y e h3] at h2
      cases h2
end G46
set_option maxHeartbeats 4000000
namespace G46
open PySem PySem.Spec PyProof.Rows L2
/-! ### what stands of the text -/
structure Tx (w : World) (K : PySem.W.Frag) (mg : Str → Option Value) : Prop where
  ex : ∃ h : Heap, K.In h ∧ h.Ns mainGlobals mg ∧ He.SaysX fa fn [] [] more w h K
section
variable {P : Program} {w : World} {K : PySem.W.Frag} {mg : Str → Option Value} {base : Heap}
theorem Tx.fact (T : Tx w K mg) (i : Nat) {f : He.Fa} (h : fa[i]? = some f) : f.ok K = true := by
  obtain ⟨_, _, _, c⟩ := T.ex
  exact c.t.d.fact i h
theorem Tx.glo (T : Tx w K mg) (i : Nat) {x : Str} (h : fa[i]? = some (.glo x) := by rfl) : mg x = some (.ref (He.ga K x)) := by
  obtain ⟨_, hK, hG, c⟩ := T.ex
  exact He.glo_ok hK hG (c.t.d.fact i h)
theorem Tx.free (T : Tx w K mg) (i : Nat) {x : Str} (h : fa[i]? = some (.free x) := by rfl) : mg x = none := by
  obtain ⟨_, hK, hG, c⟩ := T.ex
  exact He.free_ok hK hG (c.t.d.fact i h)
theorem Tx.int (T : Tx w K mg) (i : Nat) {x : Str} {n : Int} (h : fa[i]? = some (.int x n) := by rfl) : ∃ t, mg x = some (.int n t) := by
  obtain ⟨_, hK, hG, c⟩ := T.ex
  exact He.int_ok hK hG (c.t.d.fact i h)
theorem Tx.fun_ (T : Tx w K mg) (i : Nat) {d : He.DefD} (h : fn[i]? = some d) : ∃ fd, FunD K d.name d.qual d.params d.body d.scope (d.dvs K) (d.kws K) (He.fAd K d.at_) fd := by
  obtain ⟨_, hK, hG, c⟩ := T.ex
  exact c.t.d.def_ i h
theorem Tx.more (T : Tx w K mg) : more K = true := by
  obtain ⟨_, hK, hG, c⟩ := T.ex
  exact c.more
/-- a def that keeps its promise, ready to be called -/
def Has (P : Program) (w : World) (K : PySem.W.Frag) (mg : Str → Option Value) (base : Heap) (CX : CXT) (k : Nat) (x : Str) (ps : List Str) (sp : Sp) : Prop :=
  ∃ (f : Addr) (fd : FuncData), FnOk P w K mg base CX k f fd ps sp ∧ mg x = some (.ref f) ∧ PySem.W.keepIn K (.ref f) = true ∧ Binds K fd ps []
theorem Tx.mkX (T : Tx w K mg) (i : Nat) (d : He.DefD) {CX : CXT} {N ps : List Str} {k : Nat} {sp : Sp} (hd : fn[i]? = some d) (hg : fa[i]? = some (.glo d.name)) (ha : d.at_ = (d.name, none)) (h1 : d.dfl = []) (h2 : d.kwd = [])
    (S : FnScope N ps d.scope) (len : ∀ vs H Q E, sp vs H Q E → vs.length = ps.length)
    (hb : ∀ (kV doc pm : Value) (an : Option Addr) (cdv ct : Value) (us : List Value), us.length = ps.length → bindArgs (PySem.W.fnOf d.name d.qual d.params d.body d.scope .none kV doc pm an cdv ct) ⟨us, []⟩ = pure (ps.zip us))
    (hbody : ∀ (f : Addr) (cdv : Value) (A : Around) (outer : List Env) (s : Shared) (H : Hp) (vs : List V) (Q : VK) (E : XK), Room k (A.deeper (envOfC d.qual d.scope s.heap.objs.size f cdv)) → sp vs H Q E →
      ∃ t, PSs (cxOf CX P w K mg base N d.qual d.scope f cdv A outer s H E) d.body t ∧ t { nx := fun _ H' => Q .non H', rt := Q } (start N vs) H) : Has P w K mg base CX (k + 1) d.name ps sp := by
  obtain ⟨fd, F⟩ := T.fun_ i hd
  have e1 : d.dvs K = [] := by unfold He.DefD.dvs; rw [h1]; rfl
  have e2 : He.fAd K d.at_ = He.ga K d.name := by rw [ha]; rfl
  rw [e1, e2] at F
  exact ⟨_, fd, F.ok S len (hbody _), T.glo i hg, F.kp, F.bindsN hb⟩
theorem Tx.mk0 (T : Tx w K mg) (i : Nat) (d : He.DefD) {N ps : List Str} {k : Nat} {sp : Sp} (hd : fn[i]? = some d) (hg : fa[i]? = some (.glo d.name)) (ha : d.at_ = (d.name, none)) (h1 : d.dfl = []) (h2 : d.kwd = [])
    (S : FnScope N ps d.scope) (len : ∀ vs H Q E, sp vs H Q E → vs.length = ps.length)
    (hb : ∀ (kV doc pm : Value) (an : Option Addr) (cdv ct : Value) (us : List Value), us.length = ps.length → bindArgs (PySem.W.fnOf d.name d.qual d.params d.body d.scope .none kV doc pm an cdv ct) ⟨us, []⟩ = pure (ps.zip us))
    (hbody : ∀ (f : Addr) (cdv : Value) (A : Around) (outer : List Env) (s : Shared) (H : Hp) (vs : List V) (Q : VK) (E : XK), Room k (A.deeper (envOfC d.qual d.scope s.heap.objs.size f cdv)) → sp vs H Q E →
      ∃ t, PSs (cxOf CX0 P w K mg base N d.qual d.scope f cdv A outer s H E).nox d.body t ∧ t { nx := fun _ H' => Q .non H', rt := Q } (start N vs) H) : Has P w K mg base CX0 (k + 1) d.name ps sp :=
  T.mkX i d hd hg ha h1 h2 S len hb fun f cdv A outer s H vs Q E hr h => by
    obtain ⟨t, p, q⟩ := hbody f cdv A outer s H vs Q E hr h
    exact ⟨t, p.nox, q⟩
end
/-! ### heaps -/
/-- all but what stands at these addresses is kept -/
def Kp (S : List Addr) (H H' : Hp) : Prop := ∀ b o, b ∉ S → H b = some o → H' b = some o
theorem Kp.refl (S : List Addr) (H : Hp) : Kp S H H := fun _ _ _ h => h
theorem Kp.of {H H' : Hp} (S : List Addr) (h : Same H H') : Kp S H H' := fun b o _ q => h b o q
theorem Kp.same {H H' : Hp} (h : Kp [] H H') : Same H H' := fun b o q => h b o (by simp) q
theorem Kp.trans {S : List Addr} {H H1 H2 : Hp} (a : Kp S H H1) (b : Kp S H1 H2) : Kp S H H2 := fun c o hc h => b c o hc (a c o hc h)
theorem Kp.mono {S S' : List Addr} {H H' : Hp} (a : Kp S H H') (h : ∀ b ∈ S, b ∈ S') : Kp S' H H' := fun c o hc q => a c o (fun z => hc (h c z)) q
theorem Kp.put {S : List Addr} {H : Hp} {p : Addr} {o : HO} (h : p ∈ S) : Kp S H (upd H p o) := fun b u hb q => by
  rw [upd_ne (fun e => hb (by rw [e]; exact h))]
  exact q
theorem Kp.new {S : List Addr} {H : Hp} {p : Addr} {o : HO} (h : H p = none) : Kp S H (upd H p o) := fun b u _ q => by
  rw [upd_ne (ne_of_none q h)]
  exact q
/-- what was new at the start need not be told -/
theorem Kp.drop {S : List Addr} {H H' : Hp} {p : Addr} (a : Kp (p :: S) H H') (h : H p = none) : Kp S H H' := fun b o hb q => a b o (by
  intro z
  rcases List.mem_cons.mp z with e | z
  · subst e
    rw [h] at q
    cases q
  · exact hb z) q
theorem Kp.at {S : List Addr} {H H' : Hp} {b : Addr} {o : HO} (a : Kp S H H') (q : H b = some o) (h : b ∉ S) : H' b = some o := a b o h q
theorem Kp.free {H H' : Hp} {S : List Addr} {b : Addr} (a : Kp S H H') (q : H' b = none) (h : b ∉ S) : H b = none := by
  cases e : H b with
  | none => rfl
  | some o => rw [a b o h e] at q; cases q
theorem same_new {H : Hp} {p : Addr} (h : H p = none) (o : HO) : Same H (upd H p o) := fun b u q => by rw [upd_ne (ne_of_none q h)]; exact q
/-! ### data -/
abbrev IL (H : Hp) (a : Addr) (ns : List Int) : Prop := H a = some (.lst (ns.map V.int))
def Zp {α : Type} (R : Addr → α → Prop) : List Addr → List α → Prop
  | [], [] => True
  | p :: ps, x :: xs => R p x ∧ Zp R ps xs
  | _, _ => False
section
variable {α : Type} {R R' : Addr → α → Prop}
theorem Zp.len : ∀ {ps : List Addr} {xs : List α}, Zp R ps xs → ps.length = xs.length
  | [], [], _ => rfl
  | _ :: _, _ :: _, h => by rw [List.length_cons, List.length_cons, Zp.len h.2]
  | [], _ :: _, h => h.elim
  | _ :: _, [], h => h.elim
theorem Zp.imp : ∀ {ps : List Addr} {xs : List α}, Zp R ps xs → (∀ p x, p ∈ ps → x ∈ xs → R p x → R' p x) → Zp R' ps xs
  | [], [], _, _ => trivial
  | p :: ps, x :: xs, h, f => ⟨f p x List.mem_cons_self List.mem_cons_self h.1, Zp.imp h.2 fun q y hq hy => f q y (List.mem_cons_of_mem _ hq) (List.mem_cons_of_mem _ hy)⟩
  | [], _ :: _, h, _ => h.elim
  | _ :: _, [], h, _ => h.elim
theorem Zp.get : ∀ {ps : List Addr} {xs : List α} {i : Nat} {p : Addr}, Zp R ps xs → ps[i]? = some p → ∃ x, xs[i]? = some x ∧ R p x
  | p :: ps, x :: xs, 0, q, h, e => by
    have e' : p = q := Option.some.inj e
    subst e'
    exact ⟨x, rfl, h.1⟩
  | p :: ps, x :: xs, i + 1, q, h, e => by
    obtain ⟨y, e1, r⟩ := Zp.get (i := i) (p := q) h.2 (by simpa using e)
    exact ⟨y, by simpa using e1, r⟩
  | [], _, i, q, _, e => by simp at e
  | _ :: _, [], _, _, h, _ => h.elim
theorem Zp.getR : ∀ {ps : List Addr} {xs : List α} {i : Nat} {x : α}, Zp R ps xs → xs[i]? = some x → ∃ p, ps[i]? = some p ∧ R p x
  | p :: ps, x :: xs, 0, q, h, e => by
    have e' : x = q := Option.some.inj e
    subst e'
    exact ⟨p, rfl, h.1⟩
  | p :: ps, x :: xs, i + 1, q, h, e => by
    obtain ⟨y, e1, r⟩ := Zp.getR (i := i) (x := q) h.2 (by simpa using e)
    exact ⟨y, by simpa using e1, r⟩
  | _, [], i, q, _, e => by simp at e
  | [], _ :: _, _, _, h, _ => h.elim
theorem Zp.app : ∀ {ps qs : List Addr} {xs ys : List α}, Zp R ps xs → Zp R qs ys → Zp R (ps ++ qs) (xs ++ ys)
  | [], _, [], _, _, k => k
  | _ :: _, _, _ :: _, _, h, k => ⟨h.1, Zp.app h.2 k⟩
  | [], _, _ :: _, _, h, _ => h.elim
  | _ :: _, _, [], _, h, _ => h.elim
theorem Zp.mem : ∀ {ps : List Addr} {xs : List α} {x : α}, Zp R ps xs → x ∈ xs → ∃ p ∈ ps, R p x
  | p :: ps, y :: xs, x, h, hx => by
    rcases List.mem_cons.mp hx with e | hx
    · subst e; exact ⟨p, List.mem_cons_self, h.1⟩
    · obtain ⟨q, hq, r⟩ := Zp.mem h.2 hx
      exact ⟨q, List.mem_cons_of_mem _ hq, r⟩
  | _, [], _, _, hx => by cases hx
  | [], _ :: _, _, h, _ => h.elim
end
/-- a list of things of one form -/
def LOf {α : Type} (R : Hp → Addr → α → Prop) (H : Hp) (a : Addr) (xs : List α) : Prop := ∃ ps : List Addr, H a = some (.lst (ps.map V.ref)) ∧ Zp (R H) ps xs
/-- a tie -/
def TP (H : Hp) (p : Addr) (t : Int × Int) : Prop := H p = some (.tup [.int t.1, .int t.2])
abbrev TL : Hp → Addr → List (Int × Int) → Prop := LOf TP
abbrev FL : Hp → Addr → List (List Int) → Prop := LOf IL
abbrev XL : Hp → Addr → List (List (Int × Int)) → Prop := LOf TL
def RowP (H : Hp) (p : Addr) (r : Int × List Int) : Prop := ∃ q, H p = some (.tup [.int r.1, .ref q]) ∧ IL H q r.2
abbrev RL : Hp → Addr → List (Int × List Int) → Prop := LOf RowP
def Mono {α : Type} (R : Hp → Addr → α → Prop) : Prop := ∀ H H' p x, Same H H' → R H p x → R H' p x
theorem mono_IL : Mono IL := fun _ _ _ _ s h => s _ _ h
theorem mono_TP : Mono TP := fun _ _ _ _ s h => s _ _ h
theorem mono_LOf {α : Type} {R : Hp → Addr → α → Prop} (m : Mono R) : Mono (LOf R) := fun _ _ _ _ s ⟨ps, h, z⟩ => ⟨ps, s _ _ h, z.imp fun p x _ _ r => m _ _ p x s r⟩
theorem mono_TL : Mono TL := mono_LOf mono_TP
theorem mono_FL : Mono FL := mono_LOf mono_IL
theorem mono_XL : Mono XL := mono_LOf mono_TL
theorem mono_RowP : Mono RowP := fun _ _ _ _ s ⟨q, h1, h2⟩ => ⟨q, s _ _ h1, s _ _ h2⟩
theorem mono_RL : Mono RL := mono_LOf mono_RowP
theorem SqI {K : PySem.W.Frag} {H : Hp} {a : Addr} {ns : List Int} (h : IL H a ns) : SqL K H a (ns.map V.int) := SqL.of h
theorem map_get {α β : Type} {f : α → β} {l : List α} {i : Nat} {y : β} (h : (l.map f)[i]? = some y) : ∃ x, l[i]? = some x ∧ y = f x := by
  rw [List.getElem?_map] at h
  cases e : l[i]? with
  | none => rw [e] at h; cases h
  | some x => rw [e] at h; exact ⟨x, rfl, (Option.some.inj h).symm⟩
theorem mem_at {α : Type} {l : List α} {i : Nat} {x : α} (h : l[i]? = some x) : x ∈ l := List.mem_of_getElem? h
theorem lt_at {α : Type} {l : List α} {i : Nat} {x : α} (h : l[i]? = some x) : i < l.length := (List.getElem?_eq_some_iff.mp h).1
theorem take_succ {α : Type} : ∀ {l : List α} {i : Nat} {x : α}, l[i]? = some x → l.take (i + 1) = l.take i ++ [x]
  | [], i, x, h => by simp at h
  | a :: l, 0, x, h => by
    have e : a = x := Option.some.inj h
    subst e
    rfl
  | a :: l, i + 1, x, h => by
    have ih := take_succ (l := l) (i := i) (x := x) (by simpa using h)
    show a :: l.take (i + 1) = a :: l.take i ++ [x]
    rw [ih]
    rfl
theorem small {n : Nat} (h : n ≤ 1000) : n ≤ sizeLine := Nat.le_of_lt (small1000 h)
/-! ### comprehensions over what is not changed -/
theorem fm_len {α β : Type} (f : α → Option β) : ∀ l : List α, (l.filterMap f).length ≤ l.length := fun l => List.length_filterMap_le f l
theorem fm_next {α β : Type} {f : α → Option β} {l : List α} {i : Nat} {x : α} (h : l[i]? = some x) : (l.take (i + 1)).filterMap f = (l.take i).filterMap f ++ (match f x with | some y => [y] | none => []) := by
  rw [take_succ h, List.filterMap_append]
  congr 1
  cases e : f x with
  | none => simp [e]
  | some y => simp [e]
theorem lc_fm {K : PySem.W.Frag} {a : Addr} {xs : List V} {g : TG} {tt : TT} {te : TE} {vs : List Nat} {σ : L2.St} {H1 : Hp} {D : Addr} (hD : H1 D = none) {Q : Hp → Prop} (f : V → Option V) (hl : SqL K H1 a xs) (hz : xs.length ≤ 1000)
    (hs : ∀ (x : V) (H : Hp) (Y : V → Hp → Prop) (N : Hp → Prop), x ∈ xs → Same H1 H → (∀ y H', f x = some y → Same H H' → Y y H') → (∀ H', f x = none → Same H H' → N H') →
      g x (wipe σ vs) H fun σ2 H2 => wipe σ2 vs = wipe σ vs ∧ tt σ2 H2 fun b H3 => if b = true then te σ2 H3 Y else N H3)
    (hq : ∀ H', Same H1 H' → H' D = some (.lst (xs.filterMap f)) → Q H') :
    ∃ W : Nat → Nat → Hp → Prop, (∃ m, W 0 m (upd H1 D (.lst []))) ∧ ∀ i m H, W i m H →
      ((Itl K a).stop i H ∧ Q H) ∨ ((Itl K a).go i H ∧ ∃ Nx : Hp → Prop, (∀ H', Nx H' → ∃ m', m' < m ∧ W (i + 1) m' H') ∧ ∀ x H', (Itl K a).yld i H x H' → g x (wipe σ vs) H' fun σ2 H2 => wipe σ2 vs = wipe σ vs ∧ tt σ2 H2 fun b H3 =>
        if b = true then te σ2 H3 fun y H4 => ∃ acc, H4 D = some (.lst acc) ∧ acc.length < sizeLine ∧ Nx (upd H4 D (.lst (acc ++ [y]))) else Nx H3) := by
  refine lc_list (K := K) (a := a) (xs := xs) (fun i H => Same H1 H ∧ H D = some (.lst ((xs.take i).filterMap f))) ⟨same_new hD _, by rw [upd_same]; rfl⟩ (fun i H _ h => h.1.seq hl) (fun i x H hx h => ?_) (fun H h => ?_)
  · refine hs x H _ _ (mem_at hx) h.1 (fun y H' e s => ?_) (fun H' e s => ?_)
    · refine ⟨_, s _ _ h.2, ?_, fun b o q => ?_, ?_⟩
      · have h2 := fm_len f (xs.take i)
        rw [List.length_take] at h2
        exact small1000 (by omega)
      · rw [upd_ne (ne_of_none q hD)]
        exact s _ _ (h.1 _ _ q)
      · rw [upd_same, fm_next hx, e]
    · refine ⟨h.1.trans s, ?_⟩
      rw [fm_next hx, e, List.append_nil]
      exact s _ _ h.2
  · refine hq H h.1 ?_
    rw [h.2, List.take_length]
theorem lct_fm {K : PySem.W.Frag} {a : Addr} {xs : List V} {g : TG} {tt : TT} {te : TE} {vs : List Nat} {σ : L2.St} {H1 : Hp} {D : Addr} (hD : H1 D = none) {Q : Hp → Prop} (f : V → Option V) (hl : H1 a = some (.tup xs)) (hz : xs.length ≤ 1000)
    (hs : ∀ (x : V) (H : Hp) (Y : V → Hp → Prop) (N : Hp → Prop), x ∈ xs → Same H1 H → (∀ y H', f x = some y → Same H H' → Y y H') → (∀ H', f x = none → Same H H' → N H') →
      g x (wipe σ vs) H fun σ2 H2 => wipe σ2 vs = wipe σ vs ∧ tt σ2 H2 fun b H3 => if b = true then te σ2 H3 Y else N H3)
    (hq : ∀ H', Same H1 H' → H' D = some (.lst (xs.filterMap f)) → Q H') :
    ∃ W : Nat → Nat → Hp → Prop, (∃ m, W 0 m (upd H1 D (.lst []))) ∧ ∀ i m H, W i m H →
      ((Itt K a).stop i H ∧ Q H) ∨ ((Itt K a).go i H ∧ ∃ Nx : Hp → Prop, (∀ H', Nx H' → ∃ m', m' < m ∧ W (i + 1) m' H') ∧ ∀ x H', (Itt K a).yld i H x H' → g x (wipe σ vs) H' fun σ2 H2 => wipe σ2 vs = wipe σ vs ∧ tt σ2 H2 fun b H3 =>
        if b = true then te σ2 H3 fun y H4 => ∃ acc, H4 D = some (.lst acc) ∧ acc.length < sizeLine ∧ Nx (upd H4 D (.lst (acc ++ [y]))) else Nx H3) := by
  refine lc_tup (K := K) (a := a) (xs := xs) (fun i H => Same H1 H ∧ H D = some (.lst ((xs.take i).filterMap f))) ⟨same_new hD _, by rw [upd_same]; rfl⟩ (fun i H _ h => SqT.of (h.1 _ _ hl)) (fun i x H hx h => ?_) (fun H h => ?_)
  · refine hs x H _ _ (mem_at hx) h.1 (fun y H' e s => ?_) (fun H' e s => ?_)
    · refine ⟨_, s _ _ h.2, ?_, fun b o q => ?_, ?_⟩
      · have h2 := fm_len f (xs.take i)
        rw [List.length_take] at h2
        exact small1000 (by omega)
      · rw [upd_ne (ne_of_none q hD)]
        exact s _ _ (h.1 _ _ q)
      · rw [upd_same, fm_next hx, e]
    · refine ⟨h.1.trans s, ?_⟩
      rw [fm_next hx, e, List.append_nil]
      exact s _ _ h.2
  · refine hq H h.1 ?_
    rw [h.2, List.take_length]
end G46
set_option maxHeartbeats 4000000
namespace G46
open PySem PySem.Spec PyProof.Rows L2
theorem un65 {k : Nat} {A : Around} (hr : Room k A) : A.units + 65 < cLine := by have := hr.un; omega
section
variable {X : Cx}
/-- ** of a base of any size -/
def CPowW (i j : Int) : Prop := 0 ≤ j ∧ (Builtin.Int.intBits i : Int) * j ≤ 2 ^ 27
theorem op_powW : OpR X (binaryOp .Pow) (rI CPowW fun i j => .int (i ^ j.toNat)) := opI fun _ _ _ _ _ _ _ hc q => pow_int hc.1 hc.2 q
end
end G46
set_option maxHeartbeats 4000000
namespace G46
open PySem PySem.Spec PyProof.Rows L2
section
variable {P : Program} {w : World} {K : PySem.W.Frag} {mg : Str → Option Value} {base : Heap}
/-! ### is_number, _law_whole -/
def spInt : Sp := fun vs H Q _ => ∃ n : Int, vs = [.int n] ∧ Q (.bl true) H
theorem sc_is_number : FnScope ["thing"] ["thing"] (defScope s_is_number) := ⟨rfl, rfl, rfl, by decide +kernel, rfl, by decide +kernel, by decide +kernel⟩
theorem has_is_number (T : Tx w K mg) : Has P w K mg base CX0 1 "is_number" ["thing"] spInt := by
  refine T.mk0 0 d_is_number rfl rfl rfl rfl rfl sc_is_number (fun vs H Q E h => ?_) (fun _ _ _ _ _ _ us hl => match us, hl with | [_], _ => rfl) (fun f cdv A outer s H vs Q E hr h => ?_)
  · obtain ⟨n, rfl, _⟩ := h; rfl
  refine ⟨_, (pss_one (ps_ret (pe_and (pe_callB call_isi (by rfl) (T.free 64) (by decide +kernel) (pa_cons (pv 0) (pa_cons (pe_bltn (v := .ty "int") (by rfl) (T.free 65) (by decide +kernel) rfl) pa_nil))) (pe_one (pe_not (pe_callB call_isi (by rfl) (T.free 64) (by decide +kernel) (pa_cons (pv 0) (pa_cons (pe_bltn (v := .ty "bool") (by rfl) (T.free 66) (by decide +kernel) rfl) pa_nil)))))))), ?_⟩
  obtain ⟨n, rfl, q⟩ := h
  refine ⟨_, rfl, _, _, _, _, true, rfl, .ty "int", .base (.int n), kit_ty (by decide +kernel), true, rfl, ?_⟩
  refine iteT ⟨_, rfl, _, _, _, _, false, rfl, .ty "bool", .base (.int n), kit_ty (by decide +kernel), false, rfl, q⟩
theorem sc_law_whole : FnScope ["_law_thing"] ["_law_thing"] (defScope s_law_whole) := ⟨rfl, rfl, rfl, by decide +kernel, rfl, by decide +kernel, by decide +kernel⟩
theorem has_law_whole (T : Tx w K mg) : Has P w K mg base CX0 1 "_law_whole" ["_law_thing"] spInt := by
  refine T.mk0 31 d_law_whole rfl rfl rfl rfl rfl sc_law_whole (fun vs H Q E h => ?_) (fun _ _ _ _ _ _ us hl => match us, hl with | [_], _ => rfl) (fun f cdv A outer s H vs Q E hr h => ?_)
  · obtain ⟨n, rfl, _⟩ := h; rfl
  refine ⟨_, (pss_one (ps_ret (pe_and (pe_callB call_isi (by rfl) (T.free 64) (by decide +kernel) (pa_cons (pv 0) (pa_cons (pe_bltn (v := .ty "int") (by rfl) (T.free 65) (by decide +kernel) rfl) pa_nil))) (pe_one (pe_not (pe_callB call_isi (by rfl) (T.free 64) (by decide +kernel) (pa_cons (pv 0) (pa_cons (pe_bltn (v := .ty "bool") (by rfl) (T.free 66) (by decide +kernel) rfl) pa_nil)))))))), ?_⟩
  obtain ⟨n, rfl, q⟩ := h
  refine ⟨_, rfl, _, _, _, _, true, rfl, .ty "int", .base (.int n), kit_ty (by decide +kernel), true, rfl, ?_⟩
  refine iteT ⟨_, rfl, _, _, _, _, false, rfl, .ty "bool", .base (.int n), kit_ty (by decide +kernel), false, rfl, q⟩
/-! ### tie_of -/
def spTie : Sp := fun vs H Q _ => ∃ x y : Int, vs = [.int x, .int y] ∧ ∀ p H', H p = none → Same H H' → TP H' p (tie x y) → Q (.ref p) H'
theorem sc_tie_of : FnScope ["one", "other"] ["one", "other"] (defScope s_tie_of) := ⟨rfl, rfl, rfl, by decide +kernel, rfl, by decide +kernel, by decide +kernel⟩
theorem has_tie_of (T : Tx w K mg) : Has P w K mg base CX0 1 "tie_of" ["one", "other"] spTie := by
  refine T.mk0 16 d_tie_of rfl rfl rfl rfl rfl sc_tie_of (fun vs H Q E h => ?_) (fun _ _ _ _ _ _ us hl => match us, hl with | [_, _], _ => rfl) (fun f cdv A outer s H vs Q E hr h => ?_)
  · obtain ⟨x, y, rfl, _⟩ := h; rfl
  refine ⟨_, (pss_one (ps_ret (pe_tup (pa_cons (pe_callB (call_min2 rfl) (by rfl) (T.free 75) (by decide +kernel) (pa_cons (pv 0) (pa_cons (pv 1) pa_nil))) (pa_cons (pe_callB (call_max2 rfl) (by rfl) (T.free 76) (by decide +kernel) (pa_cons (pv 0) (pa_cons (pv 1) pa_nil))) pa_nil))))), ?_⟩
  obtain ⟨x, y, rfl, q⟩ := h
  exact ⟨_, rfl, _, rfl, _, _, rfl, _, rfl, _, rfl, _, _, rfl, (by show 2 ≤ sizeLine; decide), fun p hp => q p _ hp (same_new hp _) upd_same⟩
/-! ### the draws -/
def spMix : Sp := fun vs H Q _ => ∃ n k : Int, vs = [.int n, .int k] ∧ 0 ≤ n ∧ n < 2147483629 ∧ 0 ≤ k ∧ k < 2 ^ 62 ∧ ∀ r : Int, 0 ≤ r → r < 2147483587 → Q (.int r) H
theorem sc_law_mix : FnScope ["_law_number", "_law_k", "_law_mixed"] ["_law_number", "_law_k"] (defScope s_law_mix) := ⟨rfl, rfl, rfl, by decide +kernel, rfl, by decide +kernel, by decide +kernel⟩
theorem has_law_mix (T : Tx w K mg) : Has P w K mg base CX0 1 "_law_mix" ["_law_number", "_law_k"] spMix := by
  refine T.mk0 21 d_law_mix rfl rfl rfl rfl rfl sc_law_mix (fun vs H Q E h => ?_) (fun _ _ _ _ _ _ us hl => match us, hl with | [_, _], _ => rfl) (fun f cdv A outer s H vs Q E hr h => ?_)
  · obtain ⟨n, k, rfl, _⟩ := h; rfl
  refine ⟨_, (pss_cons (ps_set (i := 2) sc_law_mix.nd rfl (Or.inl rfl) (pe_op op_mod (pe_op op_mul (pe_op op_add (pe_op op_add (pe_op op_mul (pv 0) (pv 0)) (pe_op op_mul (pv 1) (pv 0))) (pe_op op_mul (pe_op op_mul pe_int (pv 1)) (pv 1))) pe_int) pe_int))
    (pss_one (ps_ret (pe_op op_mod (pe_op op_mul (pv 2) (pv 2)) pe_int)))), ?_⟩
  obtain ⟨n, k, rfl, h0, h1, h2, h3, q⟩ := h
  have z := Int.emod_nonneg ((n * n + k * n + 7 * k * k) * 1103515245) (show (2147483629 : Int) ≠ 0 by decide)
  have z' := Int.emod_lt_of_pos ((n * n + k * n + 7 * k * k) * 1103515245) (show (0 : Int) < 2147483629 by decide)
  refine ⟨_, rfl, _, rfl, _, _, rfl, rfl, .inl ⟨by omega, by omega⟩, _, rfl, _, rfl, _, _, rfl, rfl, .inl ⟨by omega, by omega⟩, _, _, rfl, rfl, _, rfl, _, _, rfl, rfl, .inl ⟨by decide, by decide⟩, _, rfl, _, _, rfl, rfl, .inr ⟨by omega, by omega⟩, _, _, rfl, rfl, _, _, rfl, rfl, .inr ⟨by decide, by decide⟩, _, _, rfl, rfl, (by show (0 : Int) < 2147483629; decide), ?_⟩
  refine ⟨_, rfl, _, rfl, _, _, rfl, rfl, .inl ⟨by omega, by omega⟩, _, _, rfl, rfl, (by show (0 : Int) < 2147483587; decide), ?_⟩
  exact q _ (Int.emod_nonneg _ (by decide)) (Int.emod_lt_of_pos _ (by decide))
/-- the draw's state at L: its third part at most n -/
def DSt (n : Int) (o : HO) : Prop := ∃ a m k : Int, o = .lst [.int a, .int m, .int k] ∧ 0 ≤ a ∧ (m = 0 ∧ a < 2147483629 ∨ m = 1) ∧ 0 ≤ k ∧ k ≤ n
def DS (n : Int) (H : Hp) (L : Addr) : Prop := ∃ o, H L = some o ∧ DSt n o
theorem DS.mono {n m : Int} {H : Hp} {L : Addr} (h : DS n H L) (e : n ≤ m) : DS m H L := by
  obtain ⟨o, h1, a, b, k, h2, h3, h4, h5, h6⟩ := h
  exact ⟨o, h1, a, b, k, h2, h3, h4, h5, Int.le_trans h6 e⟩
def spLeft : Sp := fun vs H Q _ => ∃ c : Int, vs = [.int c] ∧ ∀ p H', H p = none → Same H H' → DS 0 H' p → Q (.ref p) H'
theorem pow18 : (10 : Int) ^ (18 : Int).toNat = 1000000000000000000 := by decide
theorem sc_law_left : FnScope ["_law_cell"] ["_law_cell"] (defScope s_law_left) := ⟨rfl, rfl, rfl, by decide +kernel, rfl, by decide +kernel, by decide +kernel⟩
theorem cp1 : CPowW 10 18 := by constructor <;> decide +kernel
theorem cp2 : CPowW 10 60 := by constructor <;> decide +kernel
theorem cp3 : CPowW (10 ^ (60 : Int).toNat) 20 := by constructor <;> decide +kernel
theorem cp4 : CPowW ((10 ^ (60 : Int).toNat) ^ (20 : Int).toNat) 5 := by constructor <;> decide +kernel
theorem big0 : (0 : Int) < ((10 ^ (60 : Int).toNat) ^ (20 : Int).toNat) ^ (5 : Int).toNat := by decide +kernel
theorem has_law_left (T : Tx w K mg) : Has P w K mg base CX0 1 "_law_left" ["_law_cell"] spLeft := by
  refine T.mk0 22 d_law_left rfl rfl rfl rfl rfl sc_law_left (fun vs H Q E h => ?_) (fun _ _ _ _ _ _ us hl => match us, hl with | [_], _ => rfl) (fun f cdv A outer s H vs Q E hr h => ?_)
  · obtain ⟨c, rfl, _⟩ := h; rfl
  refine ⟨_, (pss_cons (ps_if (pt_cmpR op_lt (pv 0) (pe_op op_powW pe_int pe_int) (nomark _))
    (pss_one (ps_ret (pe_lst (pa_cons (pe_op op_mod (pv 0) pe_int) (pa_cons pe_int (pa_cons pe_int pa_nil))))))
    pss_nil)
    (pss_one (ps_ret (pe_lst (pa_cons (pe_op op_mod (pe_op op_sub (pv 0) (pe_op op_powW pe_int pe_int)) (pe_op op_powW (pe_op op_powW (pe_op op_powW pe_int pe_int) pe_int) pe_int)) (pa_cons pe_int (pa_cons pe_int pa_nil))))))), ?_⟩
  obtain ⟨c, rfl, q⟩ := h
  refine ⟨_, rfl, _, _, rfl, rfl, cp1, _, _, rfl, rfl, _, rfl, ?_⟩
  refine ite2 (fun _ => ?_) (fun _ => ?_)
  · refine ⟨_, rfl, _, _, rfl, rfl, (by show (0 : Int) < 2147483629; decide), (by show 3 ≤ sizeLine; decide), fun p hp => ?_⟩
    exact q p _ hp (same_new hp _) ⟨_, upd_same, _, _, _, rfl, Int.emod_nonneg _ (by decide), .inl ⟨rfl, Int.emod_lt_of_pos _ (by decide)⟩, Int.le_refl _, Int.le_refl _⟩
  · refine ⟨_, rfl, _, _, rfl, rfl, cp1, _, _, rfl, rfl, _, _, rfl, rfl, cp2, _, _, rfl, rfl, cp3, _, _, rfl, rfl, cp4, _, _, rfl, rfl, big0, (by show 3 ≤ sizeLine; decide), fun p hp => ?_⟩
    exact q p _ hp (same_new hp _) ⟨_, upd_same, _, _, _, rfl, Int.emod_nonneg _ (Int.ne_of_gt big0), .inr rfl, Int.le_refl _, Int.le_refl _⟩
end
end G46
set_option maxHeartbeats 4000000
namespace G46
open PySem PySem.Spec PyProof.Rows L2
section
variable {P : Program} {w : World} {K : PySem.W.Frag} {mg : Str → Option Value} {base : Heap}
def spDraw : Sp := fun vs H Q _ => ∃ (L : Addr) (b n : Int), vs = [.ref L, .int b] ∧ DS n H L ∧ n < 2 ^ 40 ∧ 0 < b ∧ b ≤ 10 ^ 28 ∧ ∀ r o, 0 ≤ r → r < b → DSt (n + 1) o → Q (.int r) (upd H L o)
theorem b28 {a b : Int} (h0 : 0 < b) (h : b ≤ 10 ^ 28) : CDivW a b := wide_div (b := 100) h0 (by
  have e : (10 : Int) ^ 28 = 10000000000000000000000000000 := by decide
  have e2 : (2 : Nat) ^ 100 = 1267650600228229401496703205376 := by decide
  omega) (by decide) (by decide)
theorem cp5 : CPowW 10 9 := by constructor <;> decide +kernel
theorem cp6 {r : Int} (h0 : 0 ≤ r) (h1 : r < 2147483587) : CPowW r 3 := by
  refine ⟨by decide, ?_⟩
  have h2 : Builtin.Int.intBits r ≤ 31 := PyProof.Rows.intBits_le (by
    have e2 : (2 : Nat) ^ 31 = 2147483648 := by decide
    omega)
  have e : (2 : Int) ^ 27 = 134217728 := by decide
  omega
theorem sc_law_draw : FnScope ["_law_left_here", "_law_base", "_law_mixed", "_law_digit"] ["_law_left_here", "_law_base"] (defScope s_law_draw) := ⟨rfl, rfl, rfl, by decide +kernel, rfl, by decide +kernel, by decide +kernel⟩
theorem has_law_draw (T : Tx w K mg) (h_law_mix : Has P w K mg base CX0 1 "_law_mix" ["_law_number", "_law_k"] spMix) : Has P w K mg base CX0 2 "_law_draw" ["_law_left_here", "_law_base"] spDraw := by
  obtain ⟨f_law_mix, fd_law_mix, G_law_mix, M_law_mix, K_law_mix, B_law_mix⟩ := h_law_mix
  refine T.mk0 23 d_law_draw rfl rfl rfl rfl rfl sc_law_draw (fun vs H Q E h => ?_) (fun _ _ _ _ _ _ us hl => match us, hl with | [_, _], _ => rfl) (fun f cdv A outer s H vs Q E hr h => ?_)
  · obtain ⟨L, b, n, rfl, _⟩ := h; rfl
  refine ⟨_, (pss_cons (ps_asg (pe_op op_add (pe_ix ix_list (pv 0) pe_int (fun _ _ => rfl)) pe_int) (pg_sub (pv 0) pe_int set_list))
    (pss_cons (ps_if (pt_cmpR op_eq (pe_ix ix_list (pv 0) pe_int (fun _ _ => rfl)) pe_int (nomark _))
    (pss_cons (ps_set (i := 2) sc_law_draw.nd rfl (Or.inl rfl) (pe_call G_law_mix (hr.mono (by decide)) rfl M_law_mix K_law_mix B_law_mix .nil pass0 (pa_cons (pe_ix ix_list (pv 0) pe_int (fun _ _ => rfl)) (pa_cons (pe_ix ix_list (pv 0) pe_int (fun _ _ => rfl)) pa_nil))))
    (pss_cons (ps_if (pt_cmpR op_gt (pv 1) (pe_op op_powW pe_int pe_int) (nomark _))
    (pss_one (ps_ret (pe_op op_mod (pe_op op_mul (pv 2) (pe_op op_add (pe_op op_powW (pe_call G_law_mix (hr.mono (by decide)) rfl M_law_mix K_law_mix B_law_mix .nil pass0 (pa_cons (pe_ix ix_list (pv 0) pe_int (fun _ _ => rfl)) (pa_cons (pe_op op_add (pe_ix ix_list (pv 0) pe_int (fun _ _ => rfl)) pe_int) pa_nil))) pe_int) pe_int)) (pv 1))))
    pss_nil)
    (pss_one (ps_ret (pe_op op_mod (pe_op op_mod (pe_op op_mul (pv 2) (pe_op op_add (pv 2) pe_int)) pe_int) (pv 1))))))
    pss_nil)
    (pss_cons (ps_set (i := 3) sc_law_draw.nd rfl (Or.inl rfl) (pe_op op_mod (pe_ix ix_list (pv 0) pe_int (fun _ _ => rfl)) (pv 1)))
    (pss_cons (ps_asg (pe_op op_fdivW (pe_ix ix_list (pv 0) pe_int (fun _ _ => rfl)) (pv 1)) (pg_sub (pv 0) pe_int set_list))
    (pss_one (ps_ret (pv 3))))))), ?_⟩
  obtain ⟨L, b, n, rfl, ⟨o, hL, a, m, k, rfl, ha, hm, hk0, hk1⟩, hn, hb0, hb1, q⟩ := h
  have e40 : (2 : Int) ^ 40 = 1099511627776 := by decide
  have hk1' : k + 1 ≤ n + 1 := by omega
  have z0 : (0 : Int) ≤ k + 1 := by omega
  have dst : ∀ a' : Int, 0 ≤ a' → (m = 0 ∧ a' < 2147483629 ∨ m = 1) → DSt (n + 1) (.lst [.int a', .int m, .int (k + 1)]) := fun a' h1 h2 => ⟨a', m, k + 1, rfl, h1, h2, z0, hk1'⟩
  refine ⟨_, rfl, _, _, _, _, rfl, rfl, SqL.of hL, rfl, _, _, rfl, rfl, ?_⟩
  refine ⟨_, rfl, L, _, _, 2, rfl, rfl, hL, rfl, ?_⟩
  refine ⟨_, rfl, _, _, _, _, rfl, rfl, SqL.of upd_same, rfl, rfl, _, rfl, ?_⟩
  refine ite2 (fun c => ?_) (fun c => ?_)
  · have hm0 : m = 0 := V.int.inj (of_decide_eq_true c)
    have ha1 : a < 2147483629 := by
      rcases hm with h | h
      · exact h.2
      · omega
    refine ⟨_, rfl, _, _, _, _, rfl, rfl, SqL.of upd_same, rfl, _, rfl, _, _, _, _, rfl, rfl, SqL.of upd_same, rfl, ?_⟩
    refine ⟨a, k + 1, rfl, ha, ha1, by omega, by omega, fun r h0 h1 => ?_⟩
    refine ⟨_, rfl, _, _, rfl, rfl, cp5, _, _, rfl, rfl, _, rfl, ?_⟩
    refine ite2 (fun _ => ?_) (fun _ => ?_)
    · refine ⟨_, rfl, _, rfl, _, _, _, _, rfl, rfl, SqL.of upd_same, rfl, _, rfl, _, _, _, _, rfl, rfl, SqL.of upd_same, rfl, _, _, rfl, rfl, ?_⟩
      refine ⟨a, k + 1 + 500, rfl, ha, ha1, by omega, by omega, fun r2 h2 h3 => ?_⟩
      refine ⟨_, _, rfl, rfl, cp6 h2 h3, _, _, rfl, rfl, _, _, rfl, rfl, .inl ⟨by omega, by omega⟩, _, rfl, _, _, rfl, rfl, hb0, ?_⟩
      exact q _ _ (Int.emod_nonneg _ (Int.ne_of_gt hb0)) (Int.emod_lt_of_pos _ hb0) (dst a ha hm)
    · refine ⟨_, rfl, _, rfl, _, _, rfl, rfl, _, _, rfl, rfl, .inl ⟨by omega, by omega⟩, _, _, rfl, rfl, (by show (0 : Int) < 2147483579; decide), _, rfl, _, _, rfl, rfl, hb0, ?_⟩
      exact q _ _ (Int.emod_nonneg _ (Int.ne_of_gt hb0)) (Int.emod_lt_of_pos _ hb0) (dst a ha hm)
  · refine ⟨_, rfl, _, _, _, _, rfl, rfl, SqL.of upd_same, rfl, _, rfl, _, _, rfl, rfl, hb0, ?_⟩
    refine ⟨_, rfl, _, _, _, _, rfl, rfl, SqL.of upd_same, rfl, _, rfl, _, _, rfl, rfl, b28 hb0 hb1, ?_⟩
    refine ⟨_, rfl, L, _, _, 0, rfl, rfl, upd_same, rfl, ?_⟩
    refine ⟨_, rfl, ?_⟩
    rw [upd_upd]
    refine q _ _ (Int.emod_nonneg _ (Int.ne_of_gt hb0)) (Int.emod_lt_of_pos _ hb0) (dst (a / b) (Int.ediv_nonneg ha (Int.le_of_lt hb0)) ?_)
    rcases hm with h | h
    · exact absurd (decide_eq_true (congrArg V.int h.1)) c
    · exact .inr h
end
end G46
set_option maxHeartbeats 4000000
namespace G46
open PySem PySem.Spec PyProof.Rows L2
theorem ix_ints {xs : List Int} {r : Int} (h0 : 0 ≤ r) (h1 : r < xs.length) : ∃ v, xs[r.toNat]? = some v ∧ v ∈ xs ∧ atI (xs.map V.int) r = some (.int v) := by
  have hk : r.toNat < xs.length := by omega
  have e : xs[r.toNat]? = some xs[r.toNat] := List.getElem?_eq_getElem hk
  refine ⟨xs[r.toNat], e, List.getElem_mem hk, ?_⟩
  exact at_of (j := r.toNat) (by omega) (by rw [List.getElem?_map, e]; rfl)
theorem DS.at {n : Int} {H : Hp} {L : Addr} {o : HO} (h : DSt n o) : DS n (upd H L o) L := ⟨o, upd_same, h⟩
theorem DS.ne {n : Int} {H : Hp} {L p : Addr} (h : DS n H L) (hp : H p = none) : p ≠ L := by
  obtain ⟨o, e, _⟩ := h
  exact Ne.symm (ne_of_none e hp)
theorem DS.keep {n : Int} {S : List Addr} {H H' : Hp} {L : Addr} (h : DS n H L) (k : Kp S H H') (hL : L ∉ S) : DS n H' L := by
  obtain ⟨o, e, d⟩ := h
  exact ⟨o, k _ _ hL e, d⟩
theorem no1 {a b : Addr} (h : a ≠ b) : a ∉ [b] := by simpa using h
theorem no2 {a b c : Addr} (h : a ≠ b) (h2 : a ≠ c) : a ∉ [b, c] := by simp [h, h2]
section
variable {P : Program} {w : World} {K : PySem.W.Frag} {mg : Str → Option Value} {base : Heap}
def spNames : Sp := fun vs H Q _ => ∃ (L : Addr) (m n : Int), vs = [.ref L, .int m] ∧ DS n H L ∧ n < 2 ^ 30 ∧ 1 ≤ m ∧ m ≤ 10 ∧
  ∀ p ns H', H p = none → Kp [L] H H' → DS (n + 11) H' L → IL H' p ns → (ns.length : Int) = m → Ris ns → (∀ x ∈ ns, 0 ≤ x ∧ x < 2 ^ 40) → Q (.ref p) H'
theorem sc_law_names : FnScope ["_law_left_here", "_law_many_here", "_law_far", "_law_found", "_law_last", "_law_k"] ["_law_left_here", "_law_many_here"] (defScope s_law_names) := ⟨rfl, rfl, rfl, by decide +kernel, rfl, by decide +kernel, by decide +kernel⟩
theorem has_law_names (T : Tx w K mg) (h_law_draw : Has P w K mg base CX0 2 "_law_draw" ["_law_left_here", "_law_base"] spDraw) : Has P w K mg base CX0 3 "_law_names" ["_law_left_here", "_law_many_here"] spNames := by
  obtain ⟨f_law_draw, fd_law_draw, G_law_draw, M_law_draw, K_law_draw, B_law_draw⟩ := h_law_draw
  refine T.mk0 24 d_law_names rfl rfl rfl rfl rfl sc_law_names (fun vs H Q E h => ?_) (fun _ _ _ _ _ _ us hl => match us, hl with | [_, _], _ => rfl) (fun f cdv A outer s H vs Q E hr h => ?_)
  · obtain ⟨L, m, n, rfl, _⟩ := h; rfl
  refine ⟨_, (pss_cons (ps_set (i := 2) sc_law_names.nd rfl (Or.inl rfl) (pe_ix ix_list (pe_lst (pa_cons pe_int (pa_cons pe_int (pa_cons pe_int (pa_cons (pe_op op_powW pe_int pe_int) pa_nil))))) (pe_call G_law_draw (hr.mono (by decide)) rfl M_law_draw K_law_draw B_law_draw .nil pass0 (pa_cons (pv 0) (pa_cons pe_int pa_nil))) (fun _ _ => rfl)))
    (pss_cons (ps_set (i := 3) sc_law_names.nd rfl (Or.inl rfl) (pe_lst pa_nil))
    (pss_cons (ps_set (i := 4) sc_law_names.nd rfl (Or.inl rfl) (pe_un un_neg pe_int))
    (pss_cons (ps_for PassesOwn.never rfl (pi_range1 (by rfl) (T.free 73) (pa_cons (pv 1) pa_nil)) (pg_name (i := 5) sc_law_names.nd rfl (Or.inl rfl))
    (pss_cons (ps_set (i := 4) sc_law_names.nd rfl (Or.inl rfl) (pe_op op_add (pe_op op_add (pv 4) pe_int) (pe_call G_law_draw (hr.mono (by decide)) rfl M_law_draw K_law_draw B_law_draw .nil pass0 (pa_cons (pv 0) (pa_cons (pv 2) pa_nil)))))
    (pss_one (ps_expr (pe_bm PySem.F.plainAttrs_list PySem.F.slot_list_append PySem.F.type_list_append mt_append (pv 3) (pa_cons (pv 4) pa_nil))))))
    (pss_one (ps_ret (pv 3))))))), ?_⟩
  obtain ⟨L, m, n, rfl, ds, hn, hm0, hm1, q⟩ := h
  have e30 : (2 : Int) ^ 30 = 1073741824 := by decide
  have e40 : (2 : Int) ^ 40 = 1099511627776 := by decide
  refine ⟨_, _, rfl, rfl, cp5, (by show 4 ≤ sizeLine; decide), fun a ha => ?_⟩
  have nL := ds.ne ha
  refine ⟨_, rfl, L, 4, n, rfl, ds.keep (Kp.new (S := []) ha) (by simp), by omega, by decide, by decide, fun r o h0 h1 hd => ?_⟩
  obtain ⟨far, _, hfar, eat⟩ := ix_ints (xs := [1, 1, 3, 10 ^ 9]) h0 (by simpa using h1)
  have hf : 0 < far ∧ far ≤ 1000000000 := by
    have e9 : (10 : Int) ^ 9 = 1000000000 := by decide
    rw [e9] at hfar
    simp only [List.mem_cons, List.not_mem_nil, or_false] at hfar
    omega
  refine ⟨_, _, _, _, rfl, rfl, SqL.of (by rw [upd_ne nL]; exact upd_same), eat, ?_⟩
  refine ⟨(by show 0 ≤ sizeLine; decide), fun p hp => ?_⟩
  have pL : p ≠ L := fun e => by rw [e, upd_same] at hp; cases hp
  have pa : p ≠ a := fun e => by rw [e, upd_ne nL, upd_same] at hp; cases hp
  have hpH : H p = none := by rw [upd_ne pL, upd_ne pa] at hp; exact hp
  refine ⟨_, rfl, ?_⟩
  refine ⟨_, rfl, m, rfl, by omega, by omega, ?_⟩
  refine for_range (n := m.toNat) (fun i σ H' => ∃ (last : Int) (ns : List Int) (kk : Option V), σ = [some (.ref L), some (.int m), some (.int far), some (.ref p), some (.int last), kk] ∧
    Kp [L, p] H H' ∧ DS (n + 1 + i) H' L ∧ IL H' p ns ∧ ns.length = i ∧ Ris ns ∧ -1 ≤ last ∧ last ≤ (i : Int) * 1000000001 ∧ ∀ x ∈ ns, 0 ≤ x ∧ x ≤ last)
    ⟨-1, [], none, rfl, ?_, ?_, upd_same, rfl, List.Pairwise.nil, by omega, by omega, fun x hx => (by cases hx)⟩ ?_ ?_
  · exact ((Kp.new ha).trans (Kp.put (by simp))).trans (Kp.put (by simp))
  · exact (DS.at hd).keep (Kp.new (S := []) hp) (by simp) |>.mono (by omega)
  · rintro i σ H1 hi ⟨last, ns, kk, rfl, k1, d1, l1, len1, r1, b1, b2, b3⟩
    have him : (i : Int) < 10 := by omega
    refine ⟨_, rfl, _, _, rfl, rfl, ?_⟩
    refine ⟨_, rfl, _, rfl, L, far, n + 1 + i, rfl, d1, by omega, hf.1, by omega, fun r2 o2 h2 h3 hd2 => ?_⟩
    refine ⟨_, _, rfl, rfl, ?_⟩
    have l2 : (upd H1 L o2) p = some (.lst (ns.map V.int)) := by rw [upd_ne pL]; exact l1
    refine ⟨_, rfl, .inl ⟨rfl, _, SqL.of l2⟩, _, rfl, p, _, _, rfl, rfl, l2, ?_, ?_⟩
    · rw [List.length_map, len1]; exact small1000 (by omega)
    · refine ⟨last + 1 + r2, ns ++ [last + 1 + r2], some (.int (0 + i)), rfl, ?_, ?_, ?_, ?_, ?_, by omega, by omega, ?_⟩
      · exact (k1.trans (Kp.put (by simp))).trans (Kp.put (by simp))
      · exact ((DS.at hd2).keep (Kp.put (S := [p]) (by simp)) (no1 (Ne.symm pL))).mono (by omega)
      · show upd (upd H1 L o2) p _ p = _
        rw [upd_same, List.map_append]; rfl
      · rw [List.length_append, List.length_singleton, len1]
      · refine List.pairwise_append.mpr ⟨r1, List.pairwise_singleton _ _, fun x hx y hy => ?_⟩
        rw [List.mem_singleton] at hy
        have := b3 x hx
        omega
      · intro x hx
        rcases List.mem_append.mp hx with e | e
        · have := b3 x e; omega
        · rw [List.mem_singleton] at e; omega
  · rintro σ H1 ⟨last, ns, kk, rfl, k1, d1, l1, len1, r1, b1, b2, b3⟩
    refine ⟨_, rfl, ?_⟩
    refine q p ns H1 hpH ((k1.mono (by simp [or_comm] : ∀ b ∈ [L, p], b ∈ [p, L])).drop hpH) (d1.mono (by omega)) l1 (by omega) r1 fun x hx => ?_
    have := b3 x hx
    omega
def spShuf : Sp := fun vs H Q _ => ∃ (L a : Addr) (ns : List Int) (n : Int), vs = [.ref L, .ref a] ∧ DS n H L ∧ n < 2 ^ 30 ∧ IL H a ns ∧ a ≠ L ∧ ns.length ≤ 10 ∧
  ∀ p ms H', H p = none → Kp [L] H H' → DS (n + 10) H' L → IL H' p ms → ms.Perm ns → Q (.ref p) H'
theorem sc_law_shuffled : FnScope ["_law_left_here", "_law_things", "_law_found", "_law_thing"] ["_law_left_here", "_law_things"] (defScope s_law_shuffled) := ⟨rfl, rfl, rfl, by decide +kernel, rfl, by decide +kernel, by decide +kernel⟩
theorem has_law_shuffled (T : Tx w K mg) (h_law_draw : Has P w K mg base CX0 2 "_law_draw" ["_law_left_here", "_law_base"] spDraw) : Has P w K mg base CX0 3 "_law_shuffled" ["_law_left_here", "_law_things"] spShuf := by
  obtain ⟨f_law_draw, fd_law_draw, G_law_draw, M_law_draw, K_law_draw, B_law_draw⟩ := h_law_draw
  refine T.mk0 25 d_law_shuffled rfl rfl rfl rfl rfl sc_law_shuffled (fun vs H Q E h => ?_) (fun _ _ _ _ _ _ us hl => match us, hl with | [_, _], _ => rfl) (fun f cdv A outer s H vs Q E hr h => ?_)
  · obtain ⟨L, a, ns, n, rfl, _⟩ := h; rfl
  refine ⟨_, (pss_cons (ps_set (i := 2) sc_law_shuffled.nd rfl (Or.inl rfl) (pe_lst pa_nil))
    (pss_cons (ps_for PassesOwn.never rfl (pi_list (pv 1)) (pg_name (i := 3) sc_law_shuffled.nd rfl (Or.inl rfl))
    (pss_one (ps_expr (pe_bm PySem.F.plainAttrs_list PySem.F.slot_list_insert PySem.F.type_list_insert mt_insert (pv 2) (pa_cons (pe_call G_law_draw (hr.mono (by decide)) rfl M_law_draw K_law_draw B_law_draw .nil pass0 (pa_cons (pv 0) (pa_cons (pe_op op_add (pe_callB call_len_seq (by rfl) (T.free 69) (by decide +kernel) (pa_cons (pv 2) pa_nil)) pe_int) pa_nil))) (pa_cons (pv 3) pa_nil))))))
    (pss_one (ps_ret (pv 2))))), ?_⟩
  obtain ⟨L, a, ns, n, rfl, ds, hn, ha, haL, hl, q⟩ := h
  have e30 : (2 : Int) ^ 30 = 1073741824 := by decide
  have e40 : (2 : Int) ^ 40 = 1099511627776 := by decide
  refine ⟨(by show 0 ≤ sizeLine; decide), fun p hp => ?_⟩
  have pL := ds.ne hp
  have pa : a ≠ p := ne_of_none ha hp
  refine ⟨_, rfl, a, rfl, ⟨_, SqI ((Kp.new (S := []) hp).same _ _ ha)⟩, ?_⟩
  refine for_list (K := K) (a := a) (xs := ns.map V.int) (fun i σ H' => ∃ (ms : List Int) (kk : Option V), σ = [some (.ref L), some (.ref a), some (.ref p), kk] ∧
    Kp [L, p] H H' ∧ DS (n + i) H' L ∧ IL H' p ms ∧ ms.Perm (ns.take i)) ⟨[], none, rfl, Kp.new hp, ds.keep (Kp.new (S := []) hp) (by simp) |>.mono (by omega), upd_same, by simp⟩
    (fun i σ H' _ ⟨ms, kk, _, k1, _⟩ => SqI (k1 _ _ (no2 haL pa) ha)) ?_ ?_
  · rintro i x σ H1 hx ⟨ms, kk, rfl, k1, d1, l1, p1⟩
    obtain ⟨y, hy, rfl⟩ := map_get hx
    have hi := lt_at hy
    have len1 : ms.length = i := by rw [p1.length_eq, List.length_take]; omega
    refine ⟨_, rfl, .inl ⟨rfl, _, SqL.of l1⟩, ?_⟩
    refine ⟨_, rfl, _, rfl, p, _, rfl, .inl (SqL.of l1), _, _, rfl, rfl, L, _, n + i, rfl, d1, by omega, ?_, ?_, fun r o h0 h1 hd => ?_⟩
    · rw [List.length_map, len1]; omega
    · rw [List.length_map, len1]
      have : (10 : Int) ^ 28 = 10000000000000000000000000000 := by decide
      omega
    rw [List.length_map, len1] at h1
    have l2 : (upd H1 L o) p = some (.lst (ms.map V.int)) := by rw [upd_ne pL]; exact l1
    refine ⟨_, rfl, p, _, r, _, rfl, rfl, l2, ?_, h0, by omega, ?_⟩
    · rw [List.length_map, len1]; exact small1000 (by omega)
    · refine ⟨ms.take r.toNat ++ [y] ++ ms.drop r.toNat, some (.int y), rfl, (k1.trans (Kp.put (by simp))).trans (Kp.put (by simp)), ?_, ?_, ?_⟩
      · exact ((DS.at hd).keep (Kp.put (S := [p]) (by simp)) (no1 (Ne.symm pL))).mono (by omega)
      · show upd (upd H1 L o) p _ p = _
        rw [upd_same, List.map_append, List.map_append, List.map_take, List.map_drop]; rfl
      · rw [take_succ hy]
        have e1 : (ms.take r.toNat ++ [y] ++ ms.drop r.toNat).Perm (y :: ms) := by
          refine (List.perm_append_comm (l₁ := ms.take r.toNat ++ [y]) (l₂ := ms.drop r.toNat)).trans ?_
          have e2 : (ms.drop r.toNat ++ (ms.take r.toNat ++ [y])).Perm (y :: (ms.drop r.toNat ++ ms.take r.toNat)) := by
            rw [← List.append_assoc]
            exact List.perm_append_singleton y _
          refine e2.trans (List.Perm.cons y ?_)
          have e3 := List.perm_append_comm (l₁ := ms.drop r.toNat) (l₂ := ms.take r.toNat)
          rw [List.take_append_drop] at e3
          exact e3
        exact e1.trans ((List.Perm.cons y p1).trans (List.perm_append_singleton y _).symm)
  · rintro σ H1 ⟨ms, kk, rfl, k1, d1, l1, p1⟩
    rw [List.length_map] at d1 p1
    rw [List.take_length] at p1
    refine ⟨_, rfl, ?_⟩
    exact q p ms H1 hp ((k1.mono (by simp [or_comm] : ∀ b ∈ [L, p], b ∈ [p, L])).drop hp) (d1.mono (by omega)) l1 p1
end
end G46
set_option maxHeartbeats 4000000
namespace G46
open PySem PySem.Spec PyProof.Rows L2
/-! ### sorted ties -/
def pairAt (H : Hp) (x : V) : Int × Int := match x with
  | .ref t => (match H t with
    | some (.tup [.int i, .int j]) => (i, j)
    | _ => (0, 0))
  | _ => (0, 0)
theorem pairAt_eq {H : Hp} {p : Addr} {t : Int × Int} (h : TP H p t) : pairAt H (.ref p) = t := by
  show (match H p with | some (.tup [.int i, .int j]) => (i, j) | _ => (0, 0)) = t
  rw [show H p = some (.tup [.int t.1, .int t.2]) from h]
theorem lexB_of {a b : Int × Int} : SrtO.lexB b a = false ↔ ¬ lexT b a := by
  rw [SrtO.lexB_no]; exact Iff.rfl
theorem zp_perm {α : Type} {R : Addr → α → Prop} : ∀ {ps : List Addr} {xs : List α} {qs : List Addr}, Zp R ps xs → qs.Perm ps → ∃ ys, ys.Perm xs ∧ Zp R qs ys := by
  intro ps xs qs z h
  induction h generalizing xs with
  | nil =>
    cases xs with
    | nil => exact ⟨[], .refl _, trivial⟩
    | cons _ _ => exact z.elim
  | cons p h ih =>
    cases xs with
    | nil => exact z.elim
    | cons x xs =>
      obtain ⟨ys, h1, h2⟩ := ih z.2
      exact ⟨x :: ys, .cons x h1, ⟨z.1, h2⟩⟩
  | swap p q l =>
    match xs, z with
    | x :: y :: xs, z => exact ⟨y :: x :: xs, .swap x y xs, ⟨z.2.1, z.1, z.2.2⟩⟩
    | [_], z => exact z.2.elim
    | [], z => exact z.elim
  | trans h1 h2 ih1 ih2 =>
    obtain ⟨ys, a1, a2⟩ := ih2 z
    obtain ⟨zs, b1, b2⟩ := ih1 a2
    exact ⟨zs, b1.trans a1, b2⟩
theorem perm_refs {ys : List V} {ps : List Addr} (h : ys.Perm (ps.map V.ref)) : ∃ qs : List Addr, ys = qs.map V.ref ∧ qs.Perm ps := by
  refine ⟨ys.map fun v => match v with | .ref a => a | _ => 0, ?_, ?_⟩
  · rw [List.map_map]
    have : ∀ v ∈ ys, (V.ref ∘ fun v => match v with | .ref a => a | _ => 0) v = v := fun v hv => by
      obtain ⟨a, _, e⟩ := List.mem_map.mp (h.mem_iff.mp hv)
      subst e; rfl
    rw [List.map_congr_left this]; simp
  · have h2 := h.map fun v => match v with | .ref a => a | _ => 0
    rw [List.map_map] at h2
    have e : (ps.map ((fun v => match v with | .ref a => a | _ => (0 : Addr)) ∘ V.ref)) = ps := by
      have : ((fun v => match v with | .ref a => a | _ => (0 : Addr)) ∘ V.ref) = id := by funext a; rfl
      rw [this, List.map_id]
    rw [e] at h2
    exact h2
theorem zp_at {H : Hp} : ∀ {ps : List Addr} {ts : Ties}, Zp (TP H) ps ts → ps.map (fun p => pairAt H (.ref p)) = ts
  | [], [], _ => rfl
  | p :: ps, t :: ts, z => by rw [List.map_cons, pairAt_eq z.1, zp_at z.2]
  | [], _ :: _, z => z.elim
  | _ :: _, [], z => z.elim
theorem sorted_TL {H : Hp} {ps : List Addr} {ts : Ties} (z : Zp (TP H) ps ts) {ys : List V} (hs : SrtO.Srtd (ltP (pairAt H)) ys) (hp : ys.Perm (ps.map V.ref)) (hn : ts.Nodup) : ∃ qs : List Addr, ys = qs.map V.ref ∧ Zp (TP H) qs (sset ts) := by
  obtain ⟨qs, rfl, hq⟩ := perm_refs hp
  obtain ⟨us, hu, zu⟩ := zp_perm z hq
  refine ⟨qs, rfl, ?_⟩
  have e := zp_at zu
  have hsu : SrtT us := by
    have h1 : us.Pairwise fun a b => ¬ lexT b a := by
      rw [← e, List.pairwise_map]
      have h2 : (qs.map V.ref).Pairwise fun x y => ltP (pairAt H) y x = false := hs
      rw [List.pairwise_map] at h2
      exact h2.imp fun {a b} q => lexB_of.mp q
    have hnu : us.Nodup := hu.nodup_iff.mpr hn
    rw [List.nodup_iff_pairwise_ne] at hnu
    exact (h1.and hnu).imp fun {a b} q => lexT_tot (Ne.symm q.2) q.1
  rw [← sset_eq hsu fun t => hu.mem_iff]
  exact zu
/-- the reading of sorted(ties) -/
theorem rd_sortT {K : PySem.W.Frag} {H : Hp} {a : Addr} {ts : Ties} {Q : VK} (h : TL H a ts) (hn : ts.Nodup) (q : ∀ p H', H p = none → Same H H' → TL H' p (sset ts) → Q (.ref p) H') : rSortedPO K [.ref a] H Q := by
  obtain ⟨ps, h1, z⟩ := h
  refine ⟨a, _, pairAt H, rfl, SqL.of h1, fun x hx => ?_, fun ys p hs hst hp => ?_⟩
  · obtain ⟨t, ht, rfl⟩ := List.mem_map.mp hx
    obtain ⟨i, hi⟩ := List.getElem?_of_mem ht
    obtain ⟨u, _, hu⟩ := z.get hi
    refine ⟨t, rfl, ?_⟩
    rw [pairAt_eq hu]; exact hu
  · obtain ⟨qs, rfl, zq⟩ := sorted_TL z hs hst.perm hn
    exact q p _ hp (same_new hp _) ⟨qs, upd_same, zq.imp fun p' x _ _ r => mono_TP _ _ _ _ (same_new hp _) r⟩
/-! ### ties and lists that change -/
/-- no tuple stands there -/
def NoTup (H : Hp) (b : Addr) : Prop := ∀ xs, H b ≠ some (.tup xs)
theorem nt_none {H : Hp} {b : Addr} (h : H b = none) : NoTup H b := fun xs e => by rw [h] at e; cases e
theorem nt_lst {H : Hp} {b : Addr} {xs : List V} (h : H b = some (.lst xs)) : NoTup H b := fun ys e => by rw [h] at e; cases e
theorem nt1 {H : Hp} {b : Addr} (h : NoTup H b) : ∀ c ∈ [b], NoTup H c := fun c hc => by rw [List.mem_singleton.mp hc]; exact h
theorem nt2 {H : Hp} {a b : Addr} (h : NoTup H a) (h' : NoTup H b) : ∀ c ∈ [a, b], NoTup H c := fun c hc => by
  rcases List.mem_cons.mp hc with e | e
  · rw [e]; exact h
  · rw [List.mem_singleton.mp e]; exact h'
theorem TP.keep {S : List Addr} {H H' : Hp} (k : Kp S H H') (hS : ∀ b ∈ S, NoTup H b) {p : Addr} {t : Int × Int} (h : TP H p t) : TP H' p t := k _ _ (fun hb => hS p hb _ h) h
theorem zp_keep {S : List Addr} {H H' : Hp} (k : Kp S H H') (hS : ∀ b ∈ S, NoTup H b) {ps : List Addr} {ts : Ties} (h : Zp (TP H) ps ts) : Zp (TP H') ps ts := h.imp fun p x _ _ r => TP.keep k hS r
theorem DS.nt {n : Int} {H : Hp} {L : Addr} (h : DS n H L) : NoTup H L := by
  obtain ⟨o, e, a, m, k, rfl, _⟩ := h
  exact nt_lst e
section
variable {P : Program} {w : World} {K : PySem.W.Frag} {mg : Str → Option Value} {base : Heap}
def spLTree : Sp := fun vs H Q _ => ∃ (L a : Addr) (ns : List Int) (n : Int), vs = [.ref L, .ref a] ∧ DS n H L ∧ n < 2 ^ 29 ∧ IL H a ns ∧ a ≠ L ∧ Ris ns ∧ 1 ≤ ns.length ∧ ns.length ≤ 10 ∧
  ∀ p ts H', H p = none → Kp [L] H H' → DS (n + 30) H' L → TL H' p ts → RTree ns ts → Q (.ref p) H'
theorem sc_law_tree : FnScope ["_law_left_here", "_law_names_here", "_law_order", "_law_way", "_law_found", "_law_k", "_law_other"] ["_law_left_here", "_law_names_here"] (defScope s_law_tree) := ⟨rfl, rfl, rfl, by decide +kernel, rfl, by decide +kernel, by decide +kernel⟩
theorem has_law_tree (T : Tx w K mg) (h_law_draw : Has P w K mg base CX0 2 "_law_draw" ["_law_left_here", "_law_base"] spDraw) (h_law_shuffled : Has P w K mg base CX0 3 "_law_shuffled" ["_law_left_here", "_law_things"] spShuf) : Has P w K mg base CX0 4 "_law_tree" ["_law_left_here", "_law_names_here"] spLTree := by
  obtain ⟨f_law_shuffled, fd_law_shuffled, G_law_shuffled, M_law_shuffled, K_law_shuffled, B_law_shuffled⟩ := h_law_shuffled
  obtain ⟨f_law_draw, fd_law_draw, G_law_draw, M_law_draw, K_law_draw, B_law_draw⟩ := h_law_draw
  refine T.mk0 26 d_law_tree rfl rfl rfl rfl rfl sc_law_tree (fun vs H Q E h => ?_) (fun _ _ _ _ _ _ us hl => match us, hl with | [_, _], _ => rfl) (fun f cdv A outer s H vs Q E hr h => ?_)
  · obtain ⟨L, a, ns, n, rfl, _⟩ := h; rfl
  refine ⟨_, (pss_cons (ps_set (i := 2) sc_law_tree.nd rfl (Or.inl rfl) (pe_call G_law_shuffled (hr.mono (by decide)) rfl M_law_shuffled K_law_shuffled B_law_shuffled .nil pass0 (pa_cons (pv 0) (pa_cons (pv 1) pa_nil))))
    (pss_cons (ps_set (i := 3) sc_law_tree.nd rfl (Or.inl rfl) (pe_call G_law_draw (hr.mono (by decide)) rfl M_law_draw K_law_draw B_law_draw .nil pass0 (pa_cons (pv 0) (pa_cons pe_int pa_nil))))
    (pss_cons (ps_set (i := 4) sc_law_tree.nd rfl (Or.inl rfl) (pe_lst pa_nil))
    (pss_cons (ps_for PassesOwn.never rfl (pi_range2 (by rfl) (T.free 73) (pa_cons pe_int (pa_cons (pe_callB call_len_seq (by rfl) (T.free 69) (by decide +kernel) (pa_cons (pv 2) pa_nil)) pa_nil))) (pg_name (i := 5) sc_law_tree.nd rfl (Or.inl rfl))
    (pss_cons (ps_set (i := 6) sc_law_tree.nd rfl (Or.inl rfl) (pe_ix ix_list (pv 2) (pe_ix ix_list (pe_lst (pa_cons (pe_call G_law_draw (hr.mono (by decide)) rfl M_law_draw K_law_draw B_law_draw .nil pass0 (pa_cons (pv 0) (pa_cons (pv 5) pa_nil))) (pa_cons (pe_op op_sub (pv 5) pe_int) (pa_cons pe_int pa_nil)))) (pv 3) (fun _ _ => rfl)) (fun _ _ => rfl)))
    (pss_one (ps_expr (pe_bm PySem.F.plainAttrs_list PySem.F.slot_list_append PySem.F.type_list_append mt_append (pv 4) (pa_cons (pe_tup (pa_cons (pe_callB (call_min2 rfl) (by rfl) (T.free 75) (by decide +kernel) (pa_cons (pe_ix ix_list (pv 2) (pv 5) (fun _ _ => rfl)) (pa_cons (pv 6) pa_nil))) (pa_cons (pe_callB (call_max2 rfl) (by rfl) (T.free 76) (by decide +kernel) (pa_cons (pe_ix ix_list (pv 2) (pv 5) (fun _ _ => rfl)) (pa_cons (pv 6) pa_nil))) pa_nil))) pa_nil))))))
    (pss_one (ps_ret (pe_callB cr_sortedPO (by rfl) (T.free 72) (by decide +kernel) (pa_cons (pv 4) pa_nil)))))))), ?_⟩
  obtain ⟨L, a, ns, n, rfl, ds, hn, ha, haL, hris, hl1, hl2, q⟩ := h
  have e30 : (2 : Int) ^ 30 = 1073741824 := by decide
  have e29 : (2 : Int) ^ 29 = 536870912 := by decide
  have e40 : (2 : Int) ^ 40 = 1099511627776 := by decide
  have e28 : (10 : Int) ^ 28 = 10000000000000000000000000000 := by decide
  refine ⟨_, rfl, _, rfl, L, a, ns, n, rfl, ds, by omega, ha, haL, hl2, fun p1 ms H1 hp1 k1 d1 l1 pm => ?_⟩
  have p1L : p1 ≠ L := ds.ne hp1
  refine ⟨_, rfl, L, 3, n + 10, rfl, d1, by omega, by decide, by decide, fun way o1 w0 w1 hd1 => ?_⟩
  refine ⟨(by show 0 ≤ sizeLine; decide), fun F hF => ?_⟩
  have FL : F ≠ L := fun e => by rw [e, upd_same] at hF; cases hF
  have Fp1 : p1 ≠ F := ne_of_none (by rw [upd_ne p1L]; exact l1) hF
  have lm : ms.length = ns.length := pm.length_eq
  have ndm : ms.Nodup := pm.nodup_iff.mpr hris.nd
  have hF1 : H1 F = none := by rw [upd_ne FL] at hF; exact hF
  have hF0 : H F = none := k1.free hF1 (no1 FL)
  have l1' : IL (upd (upd H1 L o1) F (.lst [])) p1 ms := by
    show upd _ F _ p1 = _
    rw [upd_ne Fp1, upd_ne p1L]; exact l1
  refine ⟨_, rfl, p1, _, rfl, .inl (SqI l1'), 1, _, rfl, ⟨by decide, by decide, ?_, ?_⟩, ?_⟩
  · rw [List.length_map, lm]; omega
  · rw [List.length_map, lm]; omega
  refine for_range (lo := 1) (n := (((ms.map V.int).length : Int) - 1).toNat) (fun i σ H' => ∃ (ts : Ties) (kk oo : Option V), σ = [some (.ref L), some (.ref a), some (.ref p1), some (.int way), some (.ref F), kk, oo] ∧
    Kp [L, F] H1 H' ∧ DS (n + 11 + i) H' L ∧ TL H' F ts ∧ ts.length = i ∧ (∀ t ∈ ts, t.1 < t.2 ∧ t.1 ∈ ms.take (i + 1) ∧ t.2 ∈ ms.take (i + 1)) ∧ ts.Nodup ∧ Conn ts (ms.take (i + 1)))
    ⟨[], none, none, rfl, ?_, ?_, ⟨[], upd_same, trivial⟩, rfl, fun t ht => (by cases ht), List.nodup_nil, ?_⟩ ?_ ?_
  · exact (Kp.put (S := [L, F]) (by simp)).trans (Kp.put (by simp))
  · exact ((DS.at hd1).keep (Kp.new (S := []) hF) (by simp)).mono (by omega)
  · match ms, lm with
    | m :: ms, _ => exact conn_one _ m
    | [], lm => rw [← lm] at hl1; simp at hl1
  · rintro i σ H2 hi ⟨ts, kk, oo, rfl, k2, d2, ⟨ps, f2, z2⟩, len2, ok2, nd2, cn2⟩
    rw [List.length_map] at hi
    have hi' : i + 1 < ms.length := by omega
    -- the drawn place
    refine ⟨_, rfl, _, rfl, _, rfl, L, _, n + 11 + i, rfl, d2, by omega, by omega, by omega, fun r o r0 r1 hd => ?_⟩
    refine ⟨_, rfl, _, _, rfl, rfl, (by show 3 ≤ sizeLine; decide), fun d hdn => ?_⟩
    obtain ⟨v, _, hv, eat⟩ := ix_ints (xs := [r, 1 + (i : Int) - 1, 0]) w0 (by simpa using w1)
    have hv0 : 0 ≤ v ∧ v < (i : Int) + 1 := by
      simp only [List.mem_cons, List.not_mem_nil, or_false] at hv
      omega
    have dL : d ≠ L := fun e => by rw [e, upd_same] at hdn; cases hdn
    have dF : F ≠ d := ne_of_none (by rw [upd_ne FL]; exact f2) hdn
    have l2 : H2 p1 = some (.lst (ms.map V.int)) := k2 _ _ (no2 p1L Fp1) l1
    have dp1 : p1 ≠ d := ne_of_none (by rw [upd_ne p1L]; exact l2) hdn
    refine ⟨_, rfl, _, _, _, _, rfl, rfl, SqL.of upd_same, eat, ?_⟩
    have l3 : (upd (upd H2 L o) d (.lst [.int r, .int (1 + (i : Int) - 1), .int 0])) p1 = some (.lst (ms.map V.int)) := by rw [upd_ne dp1, upd_ne p1L]; exact l2
    obtain ⟨y, ey, hy, eaty⟩ := ix_ints (xs := ms) hv0.1 (by omega)
    refine ⟨_, _, _, _, rfl, rfl, SqI l3, eaty, ?_⟩
    -- the tie
    have f3 : (upd (upd H2 L o) d (.lst [.int r, .int (1 + (i : Int) - 1), .int 0])) F = some (.lst (ps.map V.ref)) := by rw [upd_ne dF, upd_ne FL]; exact f2
    refine ⟨_, rfl, .inl ⟨rfl, _, SqL.of f3⟩, ?_⟩
    obtain ⟨x, ex, hx, eatx⟩ := ix_ints (xs := ms) (r := 1 + (i : Int)) (by omega) (by omega)
    have ex' : ms[i + 1]? = some x := by
      have : (1 + (i : Int)).toNat = i + 1 := by omega
      rw [this] at ex; exact ex
    refine ⟨_, rfl, _, rfl, _, _, _, _, rfl, rfl, SqI l3, eatx, _, rfl, _, _, rfl, _, rfl, _, rfl, _, _, _, _, rfl, rfl, SqI l3, eatx, _, rfl, _, _, rfl, (by show 2 ≤ sizeLine; decide), fun t ht => ?_⟩
    have tF : F ≠ t := ne_of_none f3 ht
    have f4 := (same_new ht (.tup [.int (if y < x then y else x), .int (if y > x then y else x)])) _ _ f3
    have lps : ps.length = i := by rw [z2.len, len2]
    refine ⟨F, _, _, rfl, rfl, f4, ?_, ?_⟩
    · rw [List.length_map, lps]; exact small1000 (by omega)
    have kk2 : Kp [L, F] H2 (upd (upd (upd (upd H2 L o) d (.lst [.int r, .int (1 + (i : Int) - 1), .int 0])) t (.tup [.int (if y < x then y else x), .int (if y > x then y else x)])) F (.lst (ps.map V.ref ++ [.ref t]))) :=
      (((Kp.put (S := [L, F]) (by simp)).trans (Kp.new hdn)).trans (Kp.new ht)).trans (Kp.put (by simp))
    have hyT : y ∈ ms.take (i + 1) := by
      have hvn : v.toNat < i + 1 := by omega
      exact mem_at (i := v.toNat) (by rw [List.getElem?_take_of_lt hvn]; exact ey)
    have hxT : x ∉ ms.take (i + 1) := fun hm => by
      obtain ⟨j, hj⟩ := List.getElem?_of_mem hm
      have hjl := lt_at hj
      rw [List.length_take] at hjl
      rw [List.getElem?_take_of_lt (by omega)] at hj
      have := nd_ix ndm hj ex'
      omega
    have hyx : y ≠ x := fun e => hxT (e ▸ hyT)
    have tk := take_succ ex'
    refine ⟨ts ++ [tie x y], some (.int (1 + (i : Int))), some (.int y), rfl, k2.trans kk2, ?_, ⟨ps ++ [t], ?_, ?_⟩, ?_, ?_, ?_, ?_⟩
    · have kf : Kp [F] (upd H2 L o) (upd (upd (upd (upd H2 L o) d (.lst [.int r, .int (1 + (i : Int) - 1), .int 0])) t (.tup [.int (if y < x then y else x), .int (if y > x then y else x)])) F (.lst (ps.map V.ref ++ [.ref t]))) :=
        ((Kp.new hdn).trans (Kp.new ht)).trans (Kp.put (by simp))
      exact ((DS.at hd).keep kf (no1 (Ne.symm FL))).mono (by omega)
    · show upd _ F _ F = _
      rw [upd_same, List.map_append]; rfl
    · refine Zp.app (zp_keep kk2 (nt2 d2.nt (nt_lst f2)) z2) ⟨?_, trivial⟩
      · show upd _ F _ t = _
        rw [upd_ne (Ne.symm tF), upd_same]; rfl
    · rw [List.length_append, List.length_singleton, len2]
    · intro u hu
      rw [tk]
      rcases List.mem_append.mp hu with e | e
      · obtain ⟨a1, a2, a3⟩ := ok2 u e
        exact ⟨a1, List.mem_append_left _ a2, List.mem_append_left _ a3⟩
      · rw [List.mem_singleton] at e
        subst e
        refine ⟨tie_lt hyx, ?_⟩
        exact tie_mem (List.mem_append_right _ (List.mem_singleton.mpr rfl)) (List.mem_append_left _ hyT) hyx
    · refine List.nodup_append.mpr ⟨nd2, by simp, fun u hu v' hv' e => ?_⟩
      rw [List.mem_singleton] at hv'
      subst hv'; subst e
      obtain ⟨_, a2, a3⟩ := ok2 _ hu
      have := tch_tie x y hyx
      simp only [tch, Bool.or_eq_true, decide_eq_true_eq] at this
      rcases this with e | e
      · rw [e] at a2; exact hxT a2
      · rw [e] at a3; exact hxT a3
    · rw [tk]
      refine leaf_add hyx cn2 hyT (fun z => ?_) (fun u hu => List.mem_append_left _ hu) (List.mem_append_right _ (List.mem_singleton.mpr rfl))
      rw [List.mem_append, List.mem_singleton]
      exact Or.comm
  · rintro σ H2 ⟨ts, kk, oo, rfl, k2, d2, t2, len2, ok2, nd2, cn2⟩
    rw [List.length_map] at len2 d2 ok2 cn2
    have hfull : ms.take (((ms.length : Int) - 1).toNat + 1) = ms := List.take_of_length_le (by omega)
    rw [hfull] at ok2 cn2
    refine ⟨_, rfl, rd_sortT t2 nd2 fun p H3 hp s3 t3 => ?_⟩
    have kf : Kp [L] H H3 := by
      have k3 : Kp [F, L] H H3 := ((k1.mono (by simp : ∀ b ∈ [L], b ∈ [F, L])).trans (k2.mono (by simp [or_comm] : ∀ b ∈ [L, F], b ∈ [F, L]))).trans (Kp.of _ s3)
      exact k3.drop hF0
    have hpL : p ≠ L := d2.ne hp
    have hpF : F ≠ p := by
      obtain ⟨ps, f2, _⟩ := t2
      exact ne_of_none f2 hp
    refine q p _ H3 ?_ kf ((d2.keep (Kp.of [] s3) (by simp)).mono (by omega)) t3 ⟨?_, fun t ht => ?_, sset_srt _, ?_⟩
    · exact k1.free (k2.free hp (no2 hpL (Ne.symm hpF))) (no1 hpL)
    · rw [sset_len nd2, len2]; omega
    · obtain ⟨a1, a2, a3⟩ := ok2 t (mem_sset.mp ht)
      exact ⟨a1, pm.mem_iff.mp a2, pm.mem_iff.mp a3⟩
    · exact cn2.congr (fun t ht => mem_sset.mpr ht) fun x => pm.mem_iff
end
end G46
set_option maxHeartbeats 4000000
namespace G46
open PySem PySem.Spec PyProof.Rows L2
theorem eqV_int (a b : Int) : eqV (.int a) (.int b) = decide (a = b) := by
  show (a == b) = _
  by_cases h : a = b <;> simp [h]
theorem inV_int (x : Int) : ∀ ns : List Int, inV (.int x) (ns.map V.int) = decide (x ∈ ns)
  | [] => rfl
  | n :: ns => by
    have ih := inV_int x ns
    show (eqV (.int n) (.int x) || inV (.int x) (ns.map V.int)) = _
    rw [ih, eqV_int]
    by_cases h : n = x
    · subst h; simp
    · have h' : ¬ x = n := fun e => h e.symm
      simp [h, h']
theorem ne_in {fs : List Int} {a b : Int} : (!decide (V.bl (inV (.int a) (fs.map V.int)) = V.bl (inV (.int b) (fs.map V.int)))) = true ↔ ¬ (a ∈ fs ↔ b ∈ fs) := by
  rw [inV_int, inV_int]
  by_cases h : a ∈ fs <;> by_cases h' : b ∈ fs <;> simp [h, h']
theorem flat_ints (ns : List Int) : (ns.map V.int).all flatV = true := by simp [List.all_map, flatV]
section
variable {P : Program} {w : World} {K : PySem.W.Frag} {mg : Str → Option Value} {base : Heap}
def spFall : Sp := fun vs H Q _ => ∃ (L a b : Addr) (ns : List Int) (ts : Ties) (n : Int), vs = [.ref L, .ref a, .ref b] ∧ DS n H L ∧ n < 2 ^ 30 ∧ IL H a ns ∧ a ≠ L ∧ TL H b ts ∧ b ≠ L ∧ Ris ns ∧ 1 ≤ ns.length ∧ ns.length ≤ 10 ∧ RTree ns ts ∧
  ∀ p r H', H p = none → Kp [L] H H' → DS (n + 10) H' L → IL H' p r → r.Perm ns → Q (.ref p) H'
theorem sc_law_falling : FnScope ["_law_left_here", "_law_names_here", "_law_tree_here", "_law_found", "_law_near", "_law_one", "_law_other"] ["_law_left_here", "_law_names_here", "_law_tree_here"] (defScope s_law_falling) := ⟨rfl, rfl, rfl, by decide +kernel, rfl, by decide +kernel, by decide +kernel⟩
theorem has_law_falling (T : Tx w K mg) (h_law_draw : Has P w K mg base CX0 2 "_law_draw" ["_law_left_here", "_law_base"] spDraw) : Has P w K mg base CX0 3 "_law_falling" ["_law_left_here", "_law_names_here", "_law_tree_here"] spFall := by
  obtain ⟨f_law_draw, fd_law_draw, G_law_draw, M_law_draw, K_law_draw, B_law_draw⟩ := h_law_draw
  refine T.mk0 27 d_law_falling rfl rfl rfl rfl rfl sc_law_falling (fun vs H Q E h => ?_) (fun _ _ _ _ _ _ us hl => match us, hl with | [_, _, _], _ => rfl) (fun f cdv A outer s H vs Q E hr h => ?_)
  · obtain ⟨L, a, b, ns, ts, n, rfl, _⟩ := h; rfl
  refine ⟨_, (pss_cons (ps_set (i := 3) sc_law_falling.nd rfl (Or.inl rfl) (pe_lst (pa_cons (pe_ix ix_list (pv 1) (pe_call G_law_draw (hr.mono (by decide)) rfl M_law_draw K_law_draw B_law_draw .nil pass0 (pa_cons (pv 0) (pa_cons (pe_callB call_len_seq (by rfl) (T.free 69) (by decide +kernel) (pa_cons (pv 1) pa_nil)) pa_nil))) (fun _ _ => rfl)) pa_nil)))
    (pss_cons (ps_while PassesOwn.never (pt_cmpR op_lt (pe_callB call_len_seq (by rfl) (T.free 69) (by decide +kernel) (pa_cons (pv 3) pa_nil)) (pe_callB call_len_seq (by rfl) (T.free 69) (by decide +kernel) (pa_cons (pv 1) pa_nil)) (nomark _))
    (pss_cons (ps_set (i := 4) sc_law_falling.nd rfl (Or.inl rfl) (pe_lst pa_nil))
    (pss_cons (ps_for PassesOwn.never rfl (pi_list (pv 2)) (pg_tup rfl (pgs_cons (pg_name (i := 5) sc_law_falling.nd rfl (Or.inl rfl)) (pgs_cons (pg_name (i := 6) sc_law_falling.nd rfl (Or.inl rfl)) pgs_nil)))
    (pss_one (ps_if (pt_cmpR op_ne (pe_cmpR op_in_seq (pv 5) (pv 3) rfl) (pe_cmpR op_in_seq (pv 6) (pv 3) rfl) (nomark _))
    (pss_one (ps_expr (pe_bm PySem.F.plainAttrs_list PySem.F.slot_list_append PySem.F.type_list_append mt_append (pv 4) (pa_cons (pe_ix ix_list (pe_lst (pa_cons (pv 5) (pa_cons (pv 6) pa_nil))) (pe_callTy call_int1 (by rfl) (T.free 65) (by decide +kernel) (pa_cons (pe_cmpR op_in_seq (pv 5) (pv 3) rfl) pa_nil)) (fun _ _ => rfl)) pa_nil))))
    pss_nil)))
    (pss_one (ps_expr (pe_bm PySem.F.plainAttrs_list PySem.F.slot_list_append PySem.F.type_list_append mt_append (pv 3) (pa_cons (pe_ix ix_list (pv 4) (pe_call G_law_draw (hr.mono (by decide)) rfl M_law_draw K_law_draw B_law_draw .nil pass0 (pa_cons (pv 0) (pa_cons (pe_callB call_len_seq (by rfl) (T.free 69) (by decide +kernel) (pa_cons (pv 4) pa_nil)) pa_nil))) (fun _ _ => rfl)) pa_nil)))))))
    (pss_one (ps_ret (pv 3))))), ?_⟩
  obtain ⟨L, a, b, ns, ts, n, rfl, ds, hn, ha, haL, ⟨ps, hb, zb⟩, hbL, hris, hl1, hl2, rt, q⟩ := h
  have e30 : (2 : Int) ^ 30 = 1073741824 := by decide
  have e40 : (2 : Int) ^ 40 = 1099511627776 := by decide
  have e28 : (10 : Int) ^ 28 = 10000000000000000000000000000 := by decide
  have lps : ps.length = ts.length := zb.len
  have lts : ts.length + 1 = ns.length := rt.len
  -- found = [names[draw]]
  refine ⟨_, rfl, _, rfl, _, rfl, a, _, rfl, .inl (SqI ha), L, _, n, rfl, ds, by omega, ?_, ?_, fun r o r0 r1 hd => ?_⟩
  · rw [List.length_map]; omega
  · rw [List.length_map]; omega
  rw [List.length_map] at r1
  obtain ⟨y, ey, hy, eat⟩ := ix_ints (xs := ns) r0 r1
  refine ⟨_, _, _, _, rfl, rfl, SqI (by show upd H L o a = _; rw [upd_ne haL]; exact ha), eat, (by show 1 ≤ sizeLine; decide), fun F hF => ?_⟩
  have FL : F ≠ L := fun e => by rw [e, upd_same] at hF; cases hF
  have hFH : H F = none := by rw [upd_ne FL] at hF; exact hF
  have aF : a ≠ F := ne_of_none ha hFH
  have bF : b ≠ F := ne_of_none hb hFH
  refine ⟨fun m σ H' => ∃ (fs : List Int) (v4 v5 v6 : Option V), σ = [some (.ref L), some (.ref a), some (.ref b), some (.ref F), v4, v5, v6] ∧
    Kp [L, F] H H' ∧ DS (n + fs.length) H' L ∧ IL H' F fs ∧ fs.Nodup ∧ (∀ x ∈ fs, x ∈ ns) ∧ 1 ≤ fs.length ∧ m + fs.length = 11, ⟨10, [y], none, none, none, rfl, ?_, ?_, upd_same, by simp, ?_, Nat.le_refl _, rfl⟩, ?_⟩
  · exact (Kp.put (S := [L, F]) (by simp)).trans (Kp.put (by simp))
  · exact (DS.at hd).keep (Kp.new (S := []) hF) (by simp)
  · intro x hx; rw [List.mem_singleton.mp hx]; exact hy
  rintro m σ H1 ⟨fs, v4, v5, v6, rfl, k1, d1, f1, nd1, sub1, ge1, hm⟩
  have a1 : IL H1 a ns := k1 _ _ (no2 haL aF) ha
  have b1 : H1 b = some (.lst (ps.map V.ref)) := k1 _ _ (no2 hbL bF) hb
  have hle := nodup_sub_len nd1 sub1
  have z1 : Zp (TP H1) ps ts := zp_keep k1 (nt2 ds.nt (nt_none hFH)) zb
  refine ⟨_, rfl, F, _, rfl, .inl (SqI f1), _, rfl, a, _, rfl, .inl (SqI a1), _, _, rfl, rfl, _, rfl, ?_⟩
  refine ite2 (fun c => ?_) (fun c => ?_)
  · have c' : ((fs.map V.int).length : Int) < ((ns.map V.int).length : Int) := of_decide_eq_true c
    rw [List.length_map, List.length_map] at c'
    refine ⟨fun σ' H' => ∃ m', m' < m ∧ ∃ (fs : List Int) (v4 v5 v6 : Option V), σ' = [some (.ref L), some (.ref a), some (.ref b), some (.ref F), v4, v5, v6] ∧
      Kp [L, F] H H' ∧ DS (n + fs.length) H' L ∧ IL H' F fs ∧ fs.Nodup ∧ (∀ x ∈ fs, x ∈ ns) ∧ 1 ≤ fs.length ∧ m' + fs.length = 11, fun _ _ h => h, ?_⟩
    -- near = []
    refine ⟨(by show 0 ≤ sizeLine; decide), fun N hN => ?_⟩
    have NF : F ≠ N := ne_of_none f1 hN
    have Na : a ≠ N := ne_of_none a1 hN
    have Nb : b ≠ N := ne_of_none b1 hN
    have NL : N ≠ L := d1.ne hN
    have s3 := same_new hN (.lst [])
    refine ⟨_, rfl, b, rfl, ⟨_, SqL.of (s3 _ _ b1)⟩, ?_⟩
    refine for_list (K := K) (a := b) (xs := ps.map V.ref) (fun i σ' H' => ∃ (ms : List Int) (v5 v6 : Option V), σ' = [some (.ref L), some (.ref a), some (.ref b), some (.ref F), some (.ref N), v5, v6] ∧
      Kp [N] H1 H' ∧ IL H' N ms ∧ ms.length ≤ i ∧ (∀ x ∈ ms, x ∈ ns ∧ x ∉ fs) ∧ (ms = [] → ∀ t ∈ ts.take i, (t.1 ∈ fs ↔ t.2 ∈ fs)))
      ⟨[], v5, v6, rfl, Kp.new hN, upd_same, Nat.le_refl _, fun x hx => (by cases hx), fun _ t ht => (by simp at ht)⟩
      (fun i σ' H' _ ⟨ms, _, _, _, k, _⟩ => SqL.of (k _ _ (no1 Nb) b1)) ?_ ?_
    · rintro i x σ' H2 hx ⟨ms, u5, u6, rfl, k2, m2, l2, p2, e2⟩
      obtain ⟨p, hp, rfl⟩ := map_get hx
      obtain ⟨t, ht, tp⟩ := z1.get hp
      have hi := lt_at ht
      have tp2 : TP H2 p t := TP.keep k2 (nt1 (nt_none hN)) tp
      have f2 : IL H2 F fs := k2 _ _ (no1 NF) f1
      obtain ⟨tl, t1n, t2n⟩ := rt.ok t (mem_at ht)
      refine ⟨p, _, rfl, SqT.of tp2, rfl, _, _, rfl, _, _, rfl, rfl, ?_⟩
      refine ⟨_, rfl, _, rfl, F, _, rfl, .inl (SqI f2), rfl, flat_ints _, _, rfl, _, rfl, F, _, rfl, .inl (SqI f2), rfl, flat_ints _, rfl, _, rfl, ?_⟩
      refine ite2 (fun c2 => ?_) (fun c2 => ?_)
      · have hne : ¬ (t.1 ∈ fs ↔ t.2 ∈ fs) := ne_in.mp c2
        refine ⟨_, rfl, .inl ⟨rfl, _, SqL.of m2⟩, ?_⟩
        refine ⟨_, rfl, _, rfl, (by show 2 ≤ sizeLine; decide), fun d hdn => ?_⟩
        have dF : F ≠ d := ne_of_none f2 hdn
        have dN : N ≠ d := ne_of_none m2 hdn
        refine ⟨_, rfl, _, rfl, F, _, rfl, .inl (SqI (by show upd H2 d _ F = _; rw [upd_ne dF]; exact f2)), rfl, flat_ints _, .inr ⟨_, rfl, ?_⟩⟩
        have key : ∃ z, atI ([.int t.1, .int t.2] : List V) (if inV (.int t.1) (fs.map V.int) = true then 1 else 0) = some (.int z) ∧ z ∈ ns ∧ z ∉ fs := by
          rw [inV_int]
          by_cases h1 : t.1 ∈ fs
          · refine ⟨t.2, by rw [decide_eq_true h1]; rfl, t2n, fun h2 => hne ⟨fun _ => h2, fun _ => h1⟩⟩
          · refine ⟨t.1, by rw [decide_eq_false h1]; rfl, t1n, h1⟩
        obtain ⟨z, ez, hz1, hz2⟩ := key
        refine ⟨d, _, _, _, rfl, rfl, SqL.of upd_same, ez, ?_⟩
        refine ⟨N, _, _, rfl, rfl, (same_new hdn _) _ _ m2, ?_, ?_⟩
        · rw [List.length_map]; exact small1000 (by omega)
        · refine ⟨ms ++ [z], some (.int t.1), some (.int t.2), rfl, (k2.trans (Kp.new hdn)).trans (Kp.put (by simp)), ?_, ?_, ?_, fun e => by simp at e⟩
          · show upd _ N _ N = _
            rw [upd_same, List.map_append]; rfl
          · rw [List.length_append, List.length_singleton]; omega
          · intro x hx
            rcases List.mem_append.mp hx with e | e
            · exact p2 x e
            · rw [List.mem_singleton.mp e]; exact ⟨hz1, hz2⟩
      · have heq : (t.1 ∈ fs ↔ t.2 ∈ fs) := Classical.byContradiction fun h => c2 (ne_in.mpr h)
        refine ⟨ms, some (.int t.1), some (.int t.2), rfl, k2, m2, by omega, p2, fun e u hu => ?_⟩
        rw [take_succ ht] at hu
        rcases List.mem_append.mp hu with q1 | q1
        · exact e2 e u q1
        · rw [List.mem_singleton.mp q1]; exact heq
    · rintro σ' H2 ⟨ms, u5, u6, rfl, k2, m2, l2, p2, e2⟩
      rw [List.length_map, lps] at e2 l2
      rw [List.take_length] at e2
      have f2 : IL H2 F fs := k2 _ _ (no1 NF) f1
      have d2 : DS (n + fs.length) H2 L := d1.keep k2 (no1 (Ne.symm NL))
      have hms : ms ≠ [] := fun e => by
        match fs, ge1, sub1, e2 e, c', nd1 with
        | g :: fs', _, sub1, cl, c', nd1 =>
          have all := rt.conn (fun x => x ∈ g :: fs') (fun t ht _ _ => cl t ht) ⟨g, sub1 g List.mem_cons_self, List.mem_cons_self⟩
          have := nodup_sub_len hris.nd all
          omega
      have hml : 0 < ms.length := List.length_pos_iff.mpr hms
      refine ⟨_, rfl, .inl ⟨rfl, _, SqL.of f2⟩, ?_⟩
      refine ⟨_, rfl, _, rfl, _, rfl, N, _, rfl, .inl (SqI m2), L, _, n + fs.length, rfl, d2, by omega, ?_, ?_, fun r2 o2 h0 h1 hd2 => ?_⟩
      · rw [List.length_map]; omega
      · rw [List.length_map]; omega
      rw [List.length_map] at h1
      obtain ⟨z, ez, hz, eatz⟩ := ix_ints (xs := ms) h0 h1
      refine ⟨_, _, _, _, rfl, rfl, SqI (by show upd H2 L o2 N = _; rw [upd_ne NL]; exact m2), eatz, ?_⟩
      have f3 : (upd H2 L o2) F = some (.lst (fs.map V.int)) := by rw [upd_ne FL]; exact f2
      refine ⟨F, _, _, rfl, rfl, f3, ?_, ?_⟩
      · rw [List.length_map]; exact small1000 (by omega)
      obtain ⟨hz1, hz2⟩ := p2 z hz
      refine ⟨m - 1, by omega, fs ++ [z], some (.ref N), u5, u6, rfl, ?_, ?_, ?_, ?_, ?_, ?_, ?_⟩
      · have k3 : Kp [N, L, F] H1 (upd (upd H2 L o2) F (.lst (fs.map V.int ++ [.int z]))) := ((k2.mono (by simp)).trans (Kp.put (by simp))).trans (Kp.put (by simp))
        exact k1.trans (k3.drop hN)
      · rw [List.length_append, List.length_singleton]
        exact ((DS.at hd2).keep (Kp.put (S := [F]) (by simp)) (no1 (Ne.symm FL))).mono (by omega)
      · show upd _ F _ F = _
        rw [upd_same, List.map_append]; rfl
      · refine List.nodup_append.mpr ⟨nd1, by simp, fun x hx y' hy' e => ?_⟩
        rw [List.mem_singleton] at hy'
        subst hy'; subst e; exact hz2 hx
      · intro x hx
        rcases List.mem_append.mp hx with e | e
        · exact sub1 x e
        · rw [List.mem_singleton.mp e]; exact hz1
      · rw [List.length_append]; omega
      · rw [List.length_append, List.length_singleton]; omega
  · have c' : ¬ ((fs.map V.int).length : Int) < ((ns.map V.int).length : Int) := fun e => c (decide_eq_true e)
    rw [List.length_map, List.length_map] at c'
    refine ⟨_, rfl, q F fs H1 hFH ((k1.mono (by simp [or_comm] : ∀ b ∈ [L, F], b ∈ [F, L])).drop hFH) (d1.mono (by omega)) f1 ?_⟩
    exact nodup_perm nd1 hris.nd fun x => ⟨sub1 x, fun hx => nodup_full nd1 sub1 (by omega) x hx⟩
end
end G46
set_option maxHeartbeats 4000000
namespace G46
open PySem PySem.Spec PyProof.Rows L2
/-! ### data of one form: how it is compared -/
/-- an encoding by which == is equality -/
structure Enc {α : Type} (f : α → PyData) (k : Nat) : Prop where
  lay : ∀ x, (f x).canLay0 = true
  dep : ∀ x, (f x).depth ≤ k
  eqv : ∀ x y, (PyData.eqv (f x) (f y) = true ↔ x = y)
theorem Enc.shaped {α : Type} {f : α → PyData} {k : Nat} (h : Enc f k) (hk : k ≤ 64) (x : α) : SeqAt.shaped (f x) = true := by
  have h1 := h.lay x
  have h2 := h.dep x
  show ((f x).canLay0 && decide ((f x).depth ≤ 64)) = true
  rw [Bool.and_eq_true]
  exact ⟨h1, decide_eq_true (by omega)⟩
theorem Enc.dec {α : Type} [DecidableEq α] {f : α → PyData} {k : Nat} (h : Enc f k) (x y : α) : PyData.eqv (f x) (f y) = decide (x = y) := by
  by_cases e : x = y
  · rw [decide_eq_true e, (h.eqv x y).mpr e]
  · rw [decide_eq_false e]
    cases q : PyData.eqv (f x) (f y) with
    | false => rfl
    | true => exact absurd ((h.eqv x y).mp q) e
theorem lay_all {α : Type} {f : α → PyData} {k : Nat} (h : Enc f k) : ∀ xs : List α, PyData.canLayAll0 (xs.map f) = true
  | [] => by simp [PyData.canLayAll0]
  | x :: xs => by simp [PyData.canLayAll0, h.lay x, lay_all h xs]
theorem dep_all {α : Type} {f : α → PyData} {k : Nat} (h : Enc f k) : ∀ xs : List α, PyData.depthAll (xs.map f) ≤ k
  | [] => by simp [PyData.depthAll]
  | x :: xs => by
    have h1 := dep_all h xs
    have h2 := h.dep x
    simp only [List.map_cons, PyData.depthAll]
    omega
theorem eqv_all {α : Type} {f : α → PyData} {k : Nat} (h : Enc f k) : ∀ xs ys : List α, (PyData.eqvAll (xs.map f) (ys.map f) = true ↔ xs = ys)
  | [], [] => by simp [PyData.eqvAll]
  | [], _ :: _ => by simp [PyData.eqvAll]
  | _ :: _, [] => by simp [PyData.eqvAll]
  | x :: xs, y :: ys => by
    simp only [List.map_cons, PyData.eqvAll, Bool.and_eq_true, h.eqv x y, eqv_all h xs ys, List.cons.injEq]
def dL {α : Type} (f : α → PyData) (xs : List α) : PyData := .list (xs.map f)
theorem enc_list {α : Type} {f : α → PyData} {k : Nat} (h : Enc f k) : Enc (dL f) (k + 1) :=
  ⟨fun xs => by simp only [dL, PyData.canLay0]; exact lay_all h xs, fun xs => by
    have := dep_all h xs
    simp only [dL, PyData.depth]; omega, fun xs ys => by simp only [dL, PyData.eqv]; exact eqv_all h xs ys⟩
theorem enc_int : Enc PyData.int 0 := ⟨fun x => by simp only [PyData.canLay0], fun x => by simp [PyData.depth], fun x y => by simp [PyData.eqv]⟩
def dTie (t : Int × Int) : PyData := .tuple [.int t.1, .int t.2]
theorem enc_tie : Enc dTie 1 := ⟨fun x => by simp [dTie, PyData.canLay0, PyData.canLayAll0], fun x => by simp [dTie, PyData.depth, PyData.depthAll], fun x y => by
  obtain ⟨a, b⟩ := x
  obtain ⟨c, d⟩ := y
  simp [dTie, PyData.eqv, PyData.eqvAll]⟩
abbrev dI : List Int → PyData := dL PyData.int
abbrev dT : Ties → PyData := dL dTie
abbrev dF : List (List Int) → PyData := dL dI
abbrev dX : List Ties → PyData := dL dT
theorem enc_I : Enc dI 1 := enc_list enc_int
theorem enc_T : Enc dT 2 := enc_list enc_tie
theorem enc_F : Enc dF 2 := enc_list enc_I
theorem enc_X : Enc dX 3 := enc_list enc_T
section
variable {K : PySem.W.Frag} {H : Hp}
theorem dp_ints : ∀ ns : List Int, DpAll K H (ns.map V.int) (ns.map PyData.int)
  | [] => .nil
  | n :: ns => .cons (.int n) (dp_ints ns)
theorem dp_I {a : Addr} {ns : List Int} (h : IL H a ns) : Dp K H (.ref a) (dI ns) := .lst (SqI h) (dp_ints ns)
theorem dp_tie {p : Addr} {t : Int × Int} (h : TP H p t) : Dp K H (.ref p) (dTie t) := .tup (SqT.of h) (.cons (.int _) (.cons (.int _) .nil))
theorem dp_zp {α : Type} {R : Addr → α → Prop} {f : α → PyData} (hR : ∀ p x, R p x → Dp K H (.ref p) (f x)) : ∀ {ps : List Addr} {xs : List α}, Zp R ps xs → DpAll K H (ps.map V.ref) (xs.map f)
  | [], [], _ => .nil
  | _ :: _, _ :: _, z => .cons (hR _ _ z.1) (dp_zp hR z.2)
  | [], _ :: _, z => z.elim
  | _ :: _, [], z => z.elim
theorem dp_LOf {α : Type} {R : Hp → Addr → α → Prop} {f : α → PyData} (hR : ∀ p x, R H p x → Dp K H (.ref p) (f x)) {a : Addr} {xs : List α} (h : LOf R H a xs) : Dp K H (.ref a) (dL f xs) := by
  obtain ⟨ps, h1, z⟩ := h
  exact .lst (SqL.of h1) (dp_zp hR z)
theorem dp_T {a : Addr} {ts : Ties} (h : TL H a ts) : Dp K H (.ref a) (dT ts) := dp_LOf (fun _ _ r => dp_tie r) h
theorem dp_F {a : Addr} {rs : List (List Int)} (h : FL H a rs) : Dp K H (.ref a) (dF rs) := dp_LOf (fun _ _ r => dp_I r) h
theorem dp_X {a : Addr} {xs : List Ties} (h : XL H a xs) : Dp K H (.ref a) (dX xs) := dp_LOf (fun _ _ r => dp_T r) h
/-- == and != of two data of one form -/
theorem rd_eqD {α : Type} [DecidableEq α] {f : α → PyData} {k : Nat} (h : Enc f k) (hk : k ≤ 64) {v u : V} {x y : α} (hv : Dp K H v (f x)) (hu : Dp K H u (f y)) {Q : VK} (q : Q (.bl (decide (x = y))) H) : rEqD K v u H Q :=
  ⟨_, _, hv, hu, h.shaped hk x, h.shaped hk y, by rw [h.dec]; exact q⟩
theorem rd_neD {α : Type} [DecidableEq α] {f : α → PyData} {k : Nat} (h : Enc f k) (hk : k ≤ 64) {v u : V} {x y : α} (hv : Dp K H v (f x)) (hu : Dp K H u (f y)) {Q : VK} (q : Q (.bl (!decide (x = y))) H) : rNeD K v u H Q :=
  ⟨_, _, hv, hu, h.shaped hk x, h.shaped hk y, by rw [h.dec]; exact q⟩
end
/-- a list of lists none of which stands at L -/
def FLx (L : Addr) (H : Hp) (a : Addr) (rs : List (List Int)) : Prop := ∃ ps : List Addr, H a = some (.lst (ps.map V.ref)) ∧ Zp (IL H) ps rs ∧ ∀ p ∈ ps, p ≠ L
theorem FLx.fl {L : Addr} {H : Hp} {a : Addr} {rs : List (List Int)} (h : FLx L H a rs) : FL H a rs := let ⟨ps, h1, z, _⟩ := h; ⟨ps, h1, z⟩
theorem FLx.keep {L : Addr} {H H' : Hp} {a : Addr} {rs : List (List Int)} (h : FLx L H a rs) (k : Kp [L] H H') (ha : a ≠ L) : FLx L H' a rs := by
  obtain ⟨ps, h1, z, hn⟩ := h
  exact ⟨ps, k _ _ (no1 ha) h1, z.imp fun p x hp _ r => k _ _ (no1 (hn p hp)) r, hn⟩
end G46
set_option maxHeartbeats 4000000
namespace G46
open PySem PySem.Spec PyProof.Rows L2
theorem swap_perm {α : Type} : ∀ {l : List α} {i : Nat} {x y : α}, l[i]? = some x → l[i + 1]? = some y → ((l.set i y).set (i + 1) x).Perm l
  | [], i, x, y, h, _ => by simp at h
  | [a], 0, x, y, _, h => by simp at h
  | a :: b :: l, 0, x, y, h1, h2 => by
    have e1 : a = x := Option.some.inj h1
    have e2 : b = y := Option.some.inj h2
    subst e1; subst e2
    exact List.Perm.swap a b l
  | a :: l, i + 1, x, y, h1, h2 => by
    have ih := swap_perm (l := l) (i := i) (x := x) (y := y) (by simpa using h1) (by simpa using h2)
    exact List.Perm.cons a ih
/-- in the midst of a turn: R the ranking -/
structure FS (H : Hp) (L F : Addr) (ns : List Int) (ps : List Addr) (rs : List (List Int)) (m : Int) (R : Addr) (r : List Int) (H3 : Hp) : Prop where
  k : Kp [L, F] H H3
  d : DS m H3 L
  f : H3 F = some (.lst (ps.map V.ref))
  z : Zp (IL H3) ps rs
  l : IL H3 R r
  pm : r.Perm ns
  rl : R ≠ L
  rf : R ≠ F
  rp : R ∉ ps
  pl : ∀ p ∈ ps, p ≠ L ∧ p ≠ F
  fl : F ≠ L
section
variable {H : Hp} {L F : Addr} {ns : List Int} {ps : List Addr} {rs : List (List Int)} {m m' : Int} {R R' : Addr} {r r' : List Int} {H3 H4 : Hp}
theorem FS.keep (x : FS H L F ns ps rs m R r H3) (k : Kp [L] H3 H4) (d : DS m' H4 L) : FS H L F ns ps rs m' R r H4 :=
  ⟨x.k.trans (k.mono (by simp)), d, k _ _ (no1 x.fl) x.f, x.z.imp fun p y hp _ q => k _ _ (no1 (x.pl p hp).1) q, k _ _ (no1 x.rl) x.l, x.pm, x.rl, x.rf, x.rp, x.pl, x.fl⟩
theorem FS.le (x : FS H L F ns ps rs m R r H3) (h : m ≤ m') : FS H L F ns ps rs m' R r H3 := { x with d := x.d.mono h }
/-- another ranking, new -/
theorem FS.other (x : FS H L F ns ps rs m R r H3) (k : Kp [L] H3 H4) (d : DS m' H4 L) (hn : H3 R' = none) (l : IL H4 R' r') (pm : r'.Perm ns) : FS H L F ns ps rs m' R' r' H4 :=
  { x.keep k d with
    l := l
    pm := pm
    rl := x.d.ne hn
    rf := fun e => (by rw [e, x.f] at hn; cases hn)
    rp := fun h => by
      obtain ⟨i, hi⟩ := List.getElem?_of_mem h
      obtain ⟨y, _, hy⟩ := x.z.get hi
      rw [show H3 R' = _ from hy] at hn; cases hn }
/-- the ranking changed at its place -/
theorem FS.put (x : FS H L F ns ps rs m R r H3) (hR : H R = none) (pm : r'.Perm ns) : FS H L F ns ps rs m R r' (upd H3 R (.lst (r'.map V.int))) where
  k := fun b o hb q => by
    rw [upd_ne (ne_of_none q hR)]
    exact x.k b o hb q
  d := x.d.keep (Kp.put (S := [R]) (by simp)) (no1 (Ne.symm x.rl))
  f := by rw [upd_ne (Ne.symm x.rf)]; exact x.f
  z := x.z.imp fun p y hp _ q => by
    show upd _ R _ p = _
    rw [upd_ne (fun e => x.rp (by rw [← e]; exact hp))]; exact q
  l := upd_same
  pm := pm
  rl := x.rl
  rf := x.rf
  rp := x.rp
  pl := x.pl
  fl := x.fl
end
section
variable {P : Program} {w : World} {K : PySem.W.Frag} {mg : Str → Option Value} {base : Heap}
def spLFolk : Sp := fun vs H Q _ => ∃ (L a b : Addr) (ns : List Int) (ts : Ties) (n : Int), vs = [.ref L, .ref a, .ref b] ∧ DS n H L ∧ n < 2 ^ 28 ∧ IL H a ns ∧ a ≠ L ∧ TL H b ts ∧ b ≠ L ∧ Ris ns ∧ 1 ≤ ns.length ∧ ns.length ≤ 10 ∧ RTree ns ts ∧
  ∀ p rs H', H p = none → Kp [L] H H' → DS (n + 1000) H' L → FLx L H' p rs → 1 ≤ rs.length → rs.length ≤ 20 → (∀ r ∈ rs, r.Perm ns) → Q (.ref p) H'
theorem sc_law_folk : FnScope ["_law_left_here", "_law_names_here", "_law_tree_here", "_law_way", "_law_folk_here", "_law_hand", "_law_ranking", "_law_at"] ["_law_left_here", "_law_names_here", "_law_tree_here"] (defScope s_law_folk) := ⟨rfl, rfl, rfl, by decide +kernel, rfl, by decide +kernel, by decide +kernel⟩
theorem has_law_folk (T : Tx w K mg) (h_law_draw : Has P w K mg base CX0 2 "_law_draw" ["_law_left_here", "_law_base"] spDraw) (h_law_shuffled : Has P w K mg base CX0 3 "_law_shuffled" ["_law_left_here", "_law_things"] spShuf) (h_law_falling : Has P w K mg base CX0 3 "_law_falling" ["_law_left_here", "_law_names_here", "_law_tree_here"] spFall) : Has P w K mg base CX0 4 "_law_folk" ["_law_left_here", "_law_names_here", "_law_tree_here"] spLFolk := by
  obtain ⟨f_law_draw, fd_law_draw, G_law_draw, M_law_draw, K_law_draw, B_law_draw⟩ := h_law_draw
  obtain ⟨f_law_falling, fd_law_falling, G_law_falling, M_law_falling, K_law_falling, B_law_falling⟩ := h_law_falling
  obtain ⟨f_law_shuffled, fd_law_shuffled, G_law_shuffled, M_law_shuffled, K_law_shuffled, B_law_shuffled⟩ := h_law_shuffled
  refine T.mk0 28 d_law_folk rfl rfl rfl rfl rfl sc_law_folk (fun vs H Q E h => ?_) (fun _ _ _ _ _ _ us hl => match us, hl with | [_, _, _], _ => rfl) (fun f cdv A outer s H vs Q E hr h => ?_)
  · obtain ⟨L, a, b, ns, ts, n, rfl, _⟩ := h; rfl
  refine ⟨_, (pss_cons (ps_set (i := 3) sc_law_folk.nd rfl (Or.inl rfl) (pe_call G_law_draw (hr.mono (by decide)) rfl M_law_draw K_law_draw B_law_draw .nil pass0 (pa_cons (pv 0) (pa_cons pe_int pa_nil))))
    (pss_cons (ps_set (i := 4) sc_law_folk.nd rfl (Or.inl rfl) (pe_lst pa_nil))
    (pss_cons (ps_for PassesOwn.never rfl (pi_range1 (by rfl) (T.free 73) (pa_cons (pe_op op_add pe_int (pe_call G_law_draw (hr.mono (by decide)) rfl M_law_draw K_law_draw B_law_draw .nil pass0 (pa_cons (pv 0) (pa_cons (pe_ix ix_list (pe_lst (pa_cons pe_int (pa_cons pe_int (pa_cons pe_int pa_nil)))) (pe_call G_law_draw (hr.mono (by decide)) rfl M_law_draw K_law_draw B_law_draw .nil pass0 (pa_cons (pv 0) (pa_cons pe_int pa_nil))) (fun _ _ => rfl)) pa_nil)))) pa_nil)) (pg_name (i := 5) sc_law_folk.nd rfl (Or.inl rfl))
    (pss_cons (ps_set (i := 6) sc_law_folk.nd rfl (Or.inl rfl) (pe_call G_law_falling (hr.mono (by decide)) rfl M_law_falling K_law_falling B_law_falling .nil pass0 (pa_cons (pv 0) (pa_cons (pv 1) (pa_cons (pv 2) pa_nil)))))
    (C8.pss_cut (ps_if (PW.pt (pw_and (pt_cmpR op_eq (pv 3) pe_int (nomark _)) (pw_and (pt_cmpR op_gt (pe_callB call_len_seq (by rfl) (T.free 69) (by decide +kernel) (pa_cons (pv 1) pa_nil)) pe_int (nomark _)) (pw_and1 (pt_cmpR op_eq (pe_call G_law_draw (hr.mono (by decide)) rfl M_law_draw K_law_draw B_law_draw .nil pass0 (pa_cons (pv 0) (pa_cons pe_int pa_nil))) pe_int (nomark _))))))
    (pss_cons (ps_set (i := 7) sc_law_folk.nd rfl (Or.inl rfl) (pe_call G_law_draw (hr.mono (by decide)) rfl M_law_draw K_law_draw B_law_draw .nil pass0 (pa_cons (pv 0) (pa_cons (pe_op op_sub (pe_callB call_len_seq (by rfl) (T.free 69) (by decide +kernel) (pa_cons (pv 1) pa_nil)) pe_int) pa_nil))))
    (pss_one (ps_asg (pe_tup (pa_cons (pe_ix ix_list (pv 6) (pe_op op_add (pv 7) pe_int) (fun _ _ => rfl)) (pa_cons (pe_ix ix_list (pv 6) (pv 7) (fun _ _ => rfl)) pa_nil))) (pg_tup rfl (pgs_cons (pg_sub (pv 6) (pv 7) set_list) (pgs_cons (pg_sub (pv 6) (pe_op op_add (pv 7) pe_int) set_list) pgs_nil))))))
    pss_nil)
    (C8.pss_cut (ps_if (pt_cmpR op_eq (pv 3) pe_int (nomark _))
    (pss_one (ps_set (i := 6) sc_law_folk.nd rfl (Or.inl rfl) (pe_call G_law_shuffled (hr.mono (by decide)) rfl M_law_shuffled K_law_shuffled B_law_shuffled .nil pass0 (pa_cons (pv 0) (pa_cons (pv 1) pa_nil)))))
    pss_nil)
    (C8.pss_cut (ps_if (PW.pt (pw_and (pt_cmpR (op_neD hr.units) (pv 4) (pe_lst pa_nil) (nomark _)) (pw_and1 (pt_cmpR op_eq (pe_call G_law_draw (hr.mono (by decide)) rfl M_law_draw K_law_draw B_law_draw .nil pass0 (pa_cons (pv 0) (pa_cons pe_int pa_nil))) pe_int (nomark _)))))
    (pss_one (ps_set (i := 6) sc_law_folk.nd rfl (Or.inl rfl) (pe_callTy call_list_of (by rfl) (T.free 67) (by decide +kernel) (pa_cons (pe_ix ix_list (pv 4) (pe_call G_law_draw (hr.mono (by decide)) rfl M_law_draw K_law_draw B_law_draw .nil pass0 (pa_cons (pv 0) (pa_cons (pe_callB call_len_seq (by rfl) (T.free 69) (by decide +kernel) (pa_cons (pv 4) pa_nil)) pa_nil))) (fun _ _ => rfl)) pa_nil))))
    pss_nil)
    (pss_one (ps_expr (pe_bm PySem.F.plainAttrs_list PySem.F.slot_list_append PySem.F.type_list_append mt_append (pv 4) (pa_cons (pv 6) pa_nil)))))))))
    (pss_one (ps_ret (pv 4)))))), ?_⟩
  obtain ⟨L, a, b, ns, ts, n, rfl, ds, hn, ha, haL, hb, hbL, hris, hl1, hl2, rt, q⟩ := h
  have e30 : (2 : Int) ^ 30 = 1073741824 := by decide
  have e28' : (2 : Int) ^ 28 = 268435456 := by decide
  have e40 : (2 : Int) ^ 40 = 1099511627776 := by decide
  have e28 : (10 : Int) ^ 28 = 10000000000000000000000000000 := by decide
  obtain ⟨pb, hb1, zb⟩ := id hb
  refine ⟨_, rfl, L, 4, n, rfl, ds, by omega, by decide, by decide, fun way o w0 w1 hd => ?_⟩
  refine ⟨(by show 0 ≤ sizeLine; decide), fun F hF => ?_⟩
  have FL : F ≠ L := fun e => by rw [e, upd_same] at hF; cases hF
  have hFH : H F = none := by rw [upd_ne FL] at hF; exact hF
  have aF : a ≠ F := ne_of_none ha hFH
  have bF : b ≠ F := ne_of_none hb1 hFH
  refine ⟨_, rfl, (by show 3 ≤ sizeLine; decide), fun d hdn => ?_⟩
  have dF : d ≠ F := fun e => by rw [e, upd_same] at hdn; cases hdn
  have dL : d ≠ L := fun e => by rw [e, upd_ne (Ne.symm FL), upd_same] at hdn; cases hdn
  have d1 : DS (n + 1) (upd (upd (upd H L o) F (.lst [])) d (.lst [.int 3, .int 6, .int 20])) L := (DS.at hd).keep ((Kp.new (S := []) hF).trans (Kp.new hdn)) (by simp)
  refine ⟨_, rfl, L, 3, n + 1, rfl, d1, by omega, by decide, by decide, fun r3 o3 h0 h1 hd3 => ?_⟩
  obtain ⟨v, _, hv, eatv⟩ := ix_ints (xs := [3, 6, 20]) h0 (by simpa using h1)
  have hv' : 1 ≤ v ∧ v ≤ 20 := by
    simp only [List.mem_cons, List.not_mem_nil, or_false] at hv
    omega
  refine ⟨_, _, _, _, rfl, rfl, SqL.of (by rw [upd_ne dL]; exact upd_same), eatv, ?_⟩
  refine ⟨L, v, n + 1 + 1, rfl, DS.at hd3, by omega, by omega, by omega, fun r4 o4 h2 h3 hd4 => ?_⟩
  refine ⟨_, _, rfl, rfl, ?_⟩
  refine ⟨1 + r4, rfl, by omega, by omega, ?_⟩
  refine for_range (n := (1 + r4).toNat) (fun i σ H' => ∃ (ps : List Addr) (rs : List (List Int)) (v5 v6 v7 : Option V), σ = [some (.ref L), some (.ref a), some (.ref b), some (.int way), some (.ref F), v5, v6, v7] ∧
    Kp [L, F] H H' ∧ DS (n + 3 + 30 * i) H' L ∧ H' F = some (.lst (ps.map V.ref)) ∧ Zp (IL H') ps rs ∧ (∀ p ∈ ps, p ≠ L ∧ p ≠ F) ∧ rs.length = i ∧ ∀ r ∈ rs, r.Perm ns)
    ⟨[], [], none, none, none, rfl, ?_, (DS.at hd4).mono (by omega), ?_, trivial, fun p hp => (by cases hp), rfl, fun r hr => (by cases hr)⟩ ?_ ?_
  · exact ((((Kp.put (S := [L, F]) (by simp)).trans (Kp.put (by simp))).trans (Kp.new hdn)).trans (Kp.put (by simp))).trans (Kp.put (by simp))
  · rw [upd_ne FL, upd_ne FL, upd_ne (Ne.symm dF), upd_same]; rfl
  · rintro i σ H1 hi ⟨ps, rs, v5, v6, v7, rfl, k1, d1, f1, z1, pl, len1, pm1⟩
    have hi20 : (i : Int) < 20 := by omega
    have tb : TL H1 b ts := ⟨pb, k1 _ _ (no2 hbL bF) hb1, zp_keep k1 (nt2 ds.nt (nt_none hFH)) zb⟩
    have lps : ps.length = i := by rw [z1.len, len1]
    -- the ranking
    refine ⟨_, rfl, _, rfl, _, rfl, L, a, b, ns, ts, n + 3 + 30 * i, rfl, d1, by omega, k1 _ _ (no2 haL aF) ha, haL, tb, hbL, hris, hl1, hl2, rt, fun R0 r0 H2 hR0 k2 d2 l2 pm2 => ?_⟩
    have S2 : FS H L F ns ps rs (n + 3 + 30 * i + 10) R0 r0 H2 := by
      refine ⟨k1.trans (k2.mono (by simp)), d2, k2 _ _ (no1 FL) f1, z1.imp fun p y hp _ q => k2 _ _ (no1 (pl p hp).1) q, l2, pm2, d1.ne hR0, fun e => (by rw [e, f1] at hR0; cases hR0), fun h => ?_, pl, FL⟩
      obtain ⟨j, hj⟩ := List.getElem?_of_mem h
      obtain ⟨y, _, hy⟩ := z1.get hj
      rw [show H1 R0 = _ from hy] at hR0; cases hR0
    have hR0H : H R0 = none := k1.free hR0 (no2 S2.rl S2.rf)
    -- two neighbours exchanged
    refine ⟨fun σ' H' => ∃ (R : Addr) (r : List Int) (u5 u7 : Option V), σ' = [some (.ref L), some (.ref a), some (.ref b), some (.int way), some (.ref F), u5, some (.ref R), u7] ∧ FS H L F ns ps rs (n + 3 + 30 * i + 12) R r H', ?_, ?_⟩
    · refine ⟨_, rfl, rfl, _, rfl, ?_⟩
      refine ite2 (fun c1 => ?_) (fun c1 => iteF ⟨R0, r0, _, _, rfl, S2.le (by omega)⟩)
      refine ⟨_, rfl, a, _, rfl, .inl (SqI (S2.k _ _ (no2 haL aF) ha)), _, _, rfl, rfl, _, rfl, ?_⟩
      refine ite2 (fun c2 => ?_) (fun c2 => iteF ⟨R0, r0, _, _, rfl, S2.le (by omega)⟩)
      have c2' : (1 : Int) < ((ns.map V.int).length : Int) := of_decide_eq_true c2
      rw [List.length_map] at c2'
      refine ⟨_, rfl, L, 4, n + 3 + 30 * i + 10, rfl, d2, by omega, by decide, by decide, fun r5 o5 h4 h5 hd5 => ?_⟩
      have S3 := S2.keep (Kp.put (S := [L]) (o := o5) (by simp)) (DS.at hd5)
      refine ⟨rfl, _, rfl, ?_⟩
      refine ite2 (fun c3 => ?_) (fun c3 => ⟨R0, r0, _, _, rfl, S3.le (by omega)⟩)
      refine ⟨_, rfl, _, rfl, a, _, rfl, .inl (SqI (S3.k _ _ (no2 haL aF) ha)), _, _, rfl, rfl, L, _, n + 3 + 30 * i + 10 + 1, rfl, S3.d, by omega, ?_, ?_, fun at_ o6 h6 h7 hd6 => ?_⟩
      · rw [List.length_map]; omega
      · rw [List.length_map]; omega
      rw [List.length_map] at h7
      have S4 := S3.keep (Kp.put (S := [L]) (o := o6) (by simp)) (DS.at hd6)
      have lr : r0.length = ns.length := pm2.length_eq
      obtain ⟨x1, ex1, _, eat1⟩ := ix_ints (xs := r0) (r := at_ + 1) (by omega) (by omega)
      obtain ⟨x0, ex0, _, eat0⟩ := ix_ints (xs := r0) (r := at_) h6 (by omega)
      refine ⟨_, rfl, _, rfl, _, _, rfl, rfl, R0, _, _, _, rfl, rfl, SqI S4.l, eat1, _, rfl, _, rfl, R0, _, _, _, rfl, rfl, SqI S4.l, eat0, (by show 2 ≤ sizeLine; decide), fun tp htp => ?_⟩
      have S5 := S4.keep (Kp.new (S := [L]) (o := .tup [.int x1, .int x0]) htp) (S4.d.keep (Kp.new (S := []) htp) (by simp))
      have ix0 : ixN (r0.map V.int).length at_ = some at_.toNat := by
        unfold ixN; rw [if_pos h6, if_pos (by rw [List.length_map]; omega)]
      refine ⟨tp, _, rfl, SqT.of upd_same, rfl, _, _, rfl, _, rfl, _, rfl, R0, _, _, at_.toNat, rfl, rfl, S5.l, ix0, ?_⟩
      have e1 : ((r0.map V.int).set at_.toNat (.int x1)) = (r0.set at_.toNat x1).map V.int := by rw [List.map_set]
      have ix1 : ixN ((r0.map V.int).set at_.toNat (.int x1)).length (at_ + 1) = some (at_.toNat + 1) := by
        unfold ixN
        rw [if_pos (by omega), if_pos (by rw [List.length_set, List.length_map]; omega)]
        congr 1; omega
      refine ⟨_, _, rfl, _, rfl, _, rfl, _, _, rfl, rfl, R0, _, _, at_.toNat + 1, rfl, rfl, upd_same, ix1, rfl, ?_⟩
      refine ⟨R0, (r0.set at_.toNat x1).set (at_.toNat + 1) x0, _, _, rfl, ?_⟩
      rw [upd_upd, e1, ← List.map_set]
      have ex1' : r0[at_.toNat + 1]? = some x1 := by
        have : (at_ + 1).toNat = at_.toNat + 1 := by omega
        rw [this] at ex1; exact ex1
      exact (S5.put hR0H ((swap_perm ex0 ex1').trans pm2)).le (by omega)
    · rintro σ1 H3 ⟨R, r, u5, u7, rfl, S3⟩
      -- any ranking
      refine ⟨fun σ' H' => ∃ (R : Addr) (r : List Int) (u5 u7 : Option V), σ' = [some (.ref L), some (.ref a), some (.ref b), some (.int way), some (.ref F), u5, some (.ref R), u7] ∧ FS H L F ns ps rs (n + 3 + 30 * i + 22) R r H', ?_, ?_⟩
      · refine ⟨_, rfl, rfl, _, rfl, ?_⟩
        refine ite2 (fun c1 => ?_) (fun c1 => ⟨R, r, _, _, rfl, S3.le (by omega)⟩)
        refine ⟨_, rfl, _, rfl, L, a, ns, n + 3 + 30 * i + 12, rfl, S3.d, by omega, S3.k _ _ (no2 haL aF) ha, haL, hl2, fun R1 r1 H4 hR1 k4 d4 l4 pm4 => ?_⟩
        exact ⟨R1, r1, _, _, rfl, (S3.other k4 d4 hR1 l4 pm4).le (by omega)⟩
      · rintro σ2 H4 ⟨R, r, u5, u7, rfl, S4⟩
        -- one that is there
        refine ⟨fun σ' H' => ∃ (R : Addr) (r : List Int) (u5 u7 : Option V), σ' = [some (.ref L), some (.ref a), some (.ref b), some (.int way), some (.ref F), u5, some (.ref R), u7] ∧ FS H L F ns ps rs (n + 3 + 30 * i + 24) R r H', ?_, ?_⟩
        · refine ⟨_, rfl, (by show 0 ≤ sizeLine; decide), fun e he => ?_⟩
          have S5 := S4.keep (Kp.new (S := [L]) (o := .lst []) he) (S4.d.keep (Kp.new (S := []) he) (by simp))
          refine rd_neD enc_F (by decide) (x := rs) (y := []) (dp_F ⟨ps, S5.f, S5.z⟩) (dp_F ⟨[], upd_same, trivial⟩) ⟨_, rfl, ?_⟩
          refine ite2 (fun c1 => ?_) (fun c1 => iteF ⟨R, r, _, _, rfl, S5.le (by omega)⟩)
          have hne : rs ≠ [] := fun e => by rw [e] at c1; simp at c1
          have hpos : 0 < rs.length := List.length_pos_iff.mpr hne
          refine ⟨_, rfl, L, 6, n + 3 + 30 * i + 22, rfl, S5.d, by omega, by decide, by decide, fun r5 o5 h4 h5 hd5 => ?_⟩
          have S6 := S5.keep (Kp.put (S := [L]) (o := o5) (by simp)) (DS.at hd5)
          refine ⟨rfl, _, rfl, ?_⟩
          refine ite2 (fun c3 => ?_) (fun c3 => ⟨R, r, _, _, rfl, S6.le (by omega)⟩)
          refine ⟨_, rfl, _, rfl, _, rfl, F, _, rfl, .inl (SqL.of S6.f), L, _, n + 3 + 30 * i + 22 + 1, rfl, S6.d, by omega, ?_, ?_, fun k o6 h6 h7 hd6 => ?_⟩
          · rw [List.length_map]; omega
          · rw [List.length_map]; omega
          rw [List.length_map] at h7
          have S7 := S6.keep (Kp.put (S := [L]) (o := o6) (by simp)) (DS.at hd6)
          have hk : k.toNat < ps.length := by omega
          have ep : ps[k.toNat]? = some ps[k.toNat] := List.getElem?_eq_getElem hk
          obtain ⟨y, hy, hyl⟩ := S7.z.get ep
          refine ⟨F, _, _, _, rfl, rfl, SqL.of S7.f, at_of (j := k.toNat) (by omega) (by rw [List.getElem?_map, ep]; rfl), ?_⟩
          refine ⟨_, _, rfl, .inl (SqI hyl), fun R1 hR1 => ?_⟩
          exact ⟨R1, y, _, _, rfl, (S7.other (Kp.new hR1) (S7.d.keep (Kp.new (S := []) hR1) (by simp)) hR1 upd_same (pm1 y (mem_at hy))).le (by omega)⟩
        · rintro σ3 H5 ⟨R, r, u5, u7, rfl, S5⟩
          refine ⟨_, rfl, .inl ⟨rfl, _, SqL.of S5.f⟩, _, rfl, F, _, _, rfl, rfl, S5.f, ?_, ?_⟩
          · rw [List.length_map, lps]; exact small1000 (by omega)
          refine ⟨ps ++ [R], rs ++ [r], _, _, _, rfl, S5.k.trans (Kp.put (by simp)), ?_, ?_, ?_, ?_, ?_, ?_⟩
          · exact (S5.d.keep (Kp.put (S := [F]) (by simp)) (no1 (Ne.symm FL))).mono (by omega)
          · show upd _ F _ F = _
            rw [upd_same, List.map_append]; rfl
          · refine Zp.app (S5.z.imp fun p y hp _ q => ?_) ⟨?_, trivial⟩
            · show upd _ F _ p = _
              rw [upd_ne (pl p hp).2]; exact q
            · show upd _ F _ R = _
              rw [upd_ne S5.rf]; exact S5.l
          · intro p hp
            rcases List.mem_append.mp hp with e | e
            · exact pl p e
            · rw [List.mem_singleton.mp e]; exact ⟨S5.rl, S5.rf⟩
          · rw [List.length_append, List.length_singleton, len1]
          · intro y hy
            rcases List.mem_append.mp hy with e | e
            · exact pm1 y e
            · rw [List.mem_singleton.mp e]; exact S5.pm
  · rintro σ H1 ⟨ps, rs, v5, v6, v7, rfl, k1, d1, f1, z1, pl, len1, pm1⟩
    refine ⟨_, rfl, q F rs H1 hFH ((k1.mono (by simp [or_comm] : ∀ b ∈ [L, F], b ∈ [F, L])).drop hFH) (d1.mono (by omega)) ⟨ps, f1, z1, fun p hp => (pl p hp).1⟩ (by omega) (by omega) pm1⟩
end
end G46
set_option maxHeartbeats 4000000
namespace G46
open PySem PySem.Spec PyProof.Rows L2
/-! ### filters of ints -/
def fI (p : Int → Bool) (v : V) : Option V := match v with
  | .int z => if p z = true then some (.int z) else none
  | _ => none
theorem fm_ints (p : Int → Bool) : ∀ ns : List Int, (ns.map V.int).filterMap (fI p) = (ns.filter p).map V.int
  | [] => rfl
  | n :: ns => by
    have ih := fm_ints p ns
    by_cases h : p n = true
    · rw [List.map_cons, List.filterMap_cons, List.filter_cons_of_pos h, List.map_cons, ← ih]
      simp [fI, h]
    · rw [List.map_cons, List.filterMap_cons, List.filter_cons_of_neg h, ← ih]
      simp [fI, h]
theorem lc_int {K : PySem.W.Frag} {a : Addr} {ns : List Int} {g : TG} {tt : TT} {te : TE} {vs : List Nat} {σ : L2.St} {H1 : Hp} {D : Addr} (hD : H1 D = none) {Q : Hp → Prop} (p : Int → Bool) (hl : SqL K H1 a (ns.map V.int)) (hz : ns.length ≤ 1000)
    (hs : ∀ (z : Int) (H : Hp) (Y : V → Hp → Prop) (N : Hp → Prop), z ∈ ns → Same H1 H → (p z = true → Y (.int z) H) → (p z = false → N H) →
      g (.int z) (wipe σ vs) H fun σ2 H2 => wipe σ2 vs = wipe σ vs ∧ tt σ2 H2 fun b H3 => if b = true then te σ2 H3 Y else N H3)
    (hq : ∀ H', Same H1 H' → IL H' D (ns.filter p) → Q H') :
    ∃ W : Nat → Nat → Hp → Prop, (∃ m, W 0 m (upd H1 D (.lst []))) ∧ ∀ i m H, W i m H →
      ((Itl K a).stop i H ∧ Q H) ∨ ((Itl K a).go i H ∧ ∃ Nx : Hp → Prop, (∀ H', Nx H' → ∃ m', m' < m ∧ W (i + 1) m' H') ∧ ∀ x H', (Itl K a).yld i H x H' → g x (wipe σ vs) H' fun σ2 H2 => wipe σ2 vs = wipe σ vs ∧ tt σ2 H2 fun b H3 =>
        if b = true then te σ2 H3 fun y H4 => ∃ acc, H4 D = some (.lst acc) ∧ acc.length < sizeLine ∧ Nx (upd H4 D (.lst (acc ++ [y]))) else Nx H3) := by
  refine lc_fm hD (fI p) hl (by rw [List.length_map]; exact hz) (fun x H Y N hx s hY hN => ?_) (fun H' h2 h3 => hq H' h2 (by rw [fm_ints] at h3; exact h3))
  obtain ⟨z, hz', rfl⟩ := List.mem_map.mp hx
  refine hs z H Y N hz' s (fun h => hY _ H ?_ (Same.refl H)) (fun h => hN H ?_ (Same.refl H))
  · show (if p z = true then some (V.int z) else none) = _
    rw [if_pos h]
  · show (if p z = true then some (V.int z) else none) = _
    rw [if_neg (by rw [h]; decide)]
theorem lct_int {K : PySem.W.Frag} {a : Addr} {ns : List Int} {g : TG} {tt : TT} {te : TE} {vs : List Nat} {σ : L2.St} {H1 : Hp} {D : Addr} (hD : H1 D = none) {Q : Hp → Prop} (p : Int → Bool) (hl : H1 a = some (.tup (ns.map V.int))) (hz : ns.length ≤ 1000)
    (hs : ∀ (z : Int) (H : Hp) (Y : V → Hp → Prop) (N : Hp → Prop), z ∈ ns → Same H1 H → (p z = true → Y (.int z) H) → (p z = false → N H) →
      g (.int z) (wipe σ vs) H fun σ2 H2 => wipe σ2 vs = wipe σ vs ∧ tt σ2 H2 fun b H3 => if b = true then te σ2 H3 Y else N H3)
    (hq : ∀ H', Same H1 H' → IL H' D (ns.filter p) → Q H') :
    ∃ W : Nat → Nat → Hp → Prop, (∃ m, W 0 m (upd H1 D (.lst []))) ∧ ∀ i m H, W i m H →
      ((Itt K a).stop i H ∧ Q H) ∨ ((Itt K a).go i H ∧ ∃ Nx : Hp → Prop, (∀ H', Nx H' → ∃ m', m' < m ∧ W (i + 1) m' H') ∧ ∀ x H', (Itt K a).yld i H x H' → g x (wipe σ vs) H' fun σ2 H2 => wipe σ2 vs = wipe σ vs ∧ tt σ2 H2 fun b H3 =>
        if b = true then te σ2 H3 fun y H4 => ∃ acc, H4 D = some (.lst acc) ∧ acc.length < sizeLine ∧ Nx (upd H4 D (.lst (acc ++ [y]))) else Nx H3) := by
  refine lct_fm hD (fI p) hl (by rw [List.length_map]; exact hz) (fun x H Y N hx s hY hN => ?_) (fun H' h2 h3 => hq H' h2 (by rw [fm_ints] at h3; exact h3))
  obtain ⟨z, hz', rfl⟩ := List.mem_map.mp hx
  refine hs z H Y N hz' s (fun h => hY _ H ?_ (Same.refl H)) (fun h => hN H ?_ (Same.refl H))
  · show (if p z = true then some (V.int z) else none) = _
    rw [if_pos h]
  · show (if p z = true then some (V.int z) else none) = _
    rw [if_neg (by rw [h]; decide)]
/-- a test by ~in~ -/
theorem if_in {x : Int} {ns : List Int} {A B : Prop} (h1 : x ∈ ns → A) (h2 : x ∉ ns → B) : if inV (.int x) (ns.map V.int) = true then A else B := by
  rw [inV_int]
  by_cases h : x ∈ ns
  · rw [if_pos (decide_eq_true h)]; exact h1 h
  · rw [if_neg (by rw [decide_eq_false h]; decide)]; exact h2 h
theorem if_nin {x : Int} {ns : List Int} {A B : Prop} (h1 : x ∉ ns → A) (h2 : x ∈ ns → B) : if (!inV (.int x) (ns.map V.int)) = true then A else B := by
  rw [inV_int]
  by_cases h : x ∈ ns
  · rw [if_neg (by rw [decide_eq_true h]; decide)]; exact h2 h
  · rw [if_pos (by rw [decide_eq_false h]; decide)]; exact h1 h
theorem scan_next {ns fs : List Int} {ts : Ties} {i : Nat} {t : Int × Int} (h : ts[i]? = some t) : scan ns (ts.take (i + 1)) fs = rstep ns (scan ns (ts.take i) fs) t := by
  unfold scan
  rw [take_succ h, List.foldl_append]; rfl
theorem rstep_no {ns fs : List Int} {t : Int × Int} (h : ¬ (t.1 ∈ ns ∧ t.2 ∈ ns ∧ ¬ (t.1 ∈ fs ↔ t.2 ∈ fs))) : rstep ns fs t = fs := by
  unfold rstep
  rw [if_neg]
  rintro ⟨h1, h2, h3⟩
  refine h ⟨h1, h2, fun q => ?_⟩
  by_cases c : t.1 ∈ fs
  · simp [c, q.mp c] at h3
  · have c2 : t.2 ∉ fs := fun x => c (q.mpr x)
    simp [c, c2] at h3
theorem rstep_yes {ns fs : List Int} {t : Int × Int} (h1 : t.1 ∈ ns) (h2 : t.2 ∈ ns) (h3 : ¬ (t.1 ∈ fs ↔ t.2 ∈ fs)) : rstep ns fs t = fs ++ [t.1, t.2].filter (fun x => !decide (x ∈ fs)) := by
  unfold rstep
  rw [if_pos]
  refine ⟨h1, h2, ?_⟩
  by_cases c : t.1 ∈ fs <;> by_cases c2 : t.2 ∈ fs <;> simp [c, c2] at h3 ⊢
section
variable {P : Program} {w : World} {K : PySem.W.Frag} {mg : Str → Option Value} {base : Heap}
def spReached : Sp := fun vs H Q _ => ∃ (b a : Addr) (x : Int) (ts : Ties) (ns : List Int), vs = [.ref b, .ref a, .int x] ∧ TL H b ts ∧ IL H a ns ∧ x ∈ ns ∧ ns.Nodup ∧ ns.length ≤ 20 ∧ ts.length ≤ 1000 ∧
  ∀ p fs H', Same H H' → IL H' p fs → RI ts ns x fs → (∀ t ∈ ts, t.1 ∈ ns → t.2 ∈ ns → (t.1 ∈ fs ↔ t.2 ∈ fs)) → Q (.ref p) H'
theorem sc_reached : FnScope ["ties", "some", "first", "found", "many", "one", "other", "name"] ["ties", "some", "first"] (defScope s_reached) := ⟨rfl, rfl, rfl, by decide +kernel, rfl, by decide +kernel, by decide +kernel⟩
theorem has_reached (T : Tx w K mg) : Has P w K mg base CX0 1 "reached" ["ties", "some", "first"] spReached := by
  refine T.mk0 6 d_reached rfl rfl rfl rfl rfl sc_reached (fun vs H Q E h => ?_) (fun _ _ _ _ _ _ us hl => match us, hl with | [_, _, _], _ => rfl) (fun f cdv A outer s H vs Q E hr h => ?_)
  · obtain ⟨b, a, x, ts, ns, rfl, _⟩ := h; rfl
  refine ⟨_, (pss_cons (ps_set (i := 3) sc_reached.nd rfl (Or.inr rfl) (pe_lst (pa_cons (pv 2) pa_nil)))
    (pss_cons (ps_set (i := 4) sc_reached.nd rfl (Or.inl rfl) pe_int)
    (pss_cons (ps_while PassesOwn.never (pt_cmpR op_lt (pv 4) (pe_callB call_len_seq (by rfl) (T.free 69) (by decide +kernel) (pa_cons (pv 3) pa_nil)) (nomark _))
    (pss_cons (ps_set (i := 4) sc_reached.nd rfl (Or.inl rfl) (pe_callB call_len_seq (by rfl) (T.free 69) (by decide +kernel) (pa_cons (pv 3) pa_nil)))
    (pss_one (ps_for PassesOwn.never rfl (pi_list (pv 0)) (pg_tup rfl (pgs_cons (pg_name (i := 5) sc_reached.nd rfl (Or.inl rfl)) (pgs_cons (pg_name (i := 6) sc_reached.nd rfl (Or.inl rfl)) pgs_nil)))
    (pss_one (ps_if (PW.pt (pw_and (pt_cmpR op_in_seq (pv 5) (pv 1) rfl) (pw_and (pt_cmpR op_in_seq (pv 6) (pv 1) rfl) (pw_and1 (pt_cmpR op_ne (pe_cmpR op_in_seq (pv 5) (pv 3) rfl) (pe_cmpR op_in_seq (pv 6) (pv 3) rfl) (nomark _))))))
    (pss_one (ps_set (i := 3) sc_reached.nd rfl (Or.inr rfl) (pe_op op_cat (pv 3) (pe_lc (own := [("name", 7)]) (tt := (tTest (tOp (rIn K true) (tVar 7) (tVar 3)))) rfl sc_reached.nd (pi_tup (pe_tup (pa_cons (pv 5) (pa_cons (pv 6) pa_nil)))) (blkOk_by (own := [("name", 7)]) (N := ["ties", "some", "first", "found", "many", "one", "other", "name"]) (sc := (defScope s_reached)) (by decide +kernel)) (fun _ _ _ _ _ => (pg_name (i := 7) sc_reached.nd rfl (Or.inl rfl))) (fun _ _ _ _ _ => (pts_one (pt_cmpR op_notIn_seq (pv 7) (pv 3) rfl))) (fun _ _ _ _ _ => (pv 7))))))
    pss_nil))))))
    (pss_one (ps_ret (pv 3)))))), ?_⟩
  obtain ⟨b, a, x, ts, ns, rfl, ⟨ps, hb, zb⟩, ha, hx, hnd, hl, htl, q⟩ := h
  have lps : ps.length = ts.length := zb.len
  refine ⟨_, rfl, (by show 1 ≤ sizeLine; decide), fun F hF => ?_⟩
  refine ⟨fun m σ H' => ∃ (F : Addr) (fs : List Int) (k : Int) (v5 v6 v7 : Option V), σ = [some (.ref b), some (.ref a), some (.int x), some (.ref F), some (.int k), v5, v6, v7] ∧
    Same H H' ∧ IL H' F fs ∧ RI ts ns x fs ∧ 0 ≤ k ∧ k ≤ fs.length ∧ (k = fs.length → ∀ t ∈ ts, t.1 ∈ ns → t.2 ∈ ns → (t.1 ∈ fs ↔ t.2 ∈ fs)) ∧ (m : Int) + k = 30,
    ⟨30, F, [x], 0, none, none, none, rfl, same_new hF _, upd_same, RI.start hx, by omega, by simp, fun e => by simp at e, by omega⟩, ?_⟩
  rintro m σ H1 ⟨F, fs, k, v5, v6, v7, rfl, s1, f1, ri, k0, k1, hcl, hm⟩
  have hle := ri.len
  refine ⟨_, rfl, _, rfl, F, _, rfl, .inl (SqI f1), _, _, rfl, rfl, _, rfl, ?_⟩
  refine ite2 (fun c => ?_) (fun c => ?_)
  · have c' : k < ((fs.map V.int).length : Int) := of_decide_eq_true c
    rw [List.length_map] at c'
    refine ⟨fun σ' H' => ∃ m', m' < m ∧ ∃ (F : Addr) (fs : List Int) (k : Int) (v5 v6 v7 : Option V), σ' = [some (.ref b), some (.ref a), some (.int x), some (.ref F), some (.int k), v5, v6, v7] ∧
      Same H H' ∧ IL H' F fs ∧ RI ts ns x fs ∧ 0 ≤ k ∧ k ≤ fs.length ∧ (k = fs.length → ∀ t ∈ ts, t.1 ∈ ns → t.2 ∈ ns → (t.1 ∈ fs ↔ t.2 ∈ fs)) ∧ (m' : Int) + k = 30, fun _ _ h => h, ?_⟩
    refine ⟨_, rfl, F, _, rfl, .inl (SqI f1), ?_⟩
    refine ⟨_, rfl, b, rfl, ⟨_, SqL.of (s1 _ _ hb)⟩, ?_⟩
    refine for_list (K := K) (a := b) (xs := ps.map V.ref) (fun i σ' H' => ∃ (F' : Addr) (v5 v6 v7 : Option V), σ' = [some (.ref b), some (.ref a), some (.int x), some (.ref F'), some (.int ((fs.map V.int).length : Nat)), v5, v6, v7] ∧
      Same H H' ∧ IL H' F' (scan ns (ts.take i) fs)) ⟨F, v5, v6, v7, rfl, s1, f1⟩ (fun i σ' H' _ ⟨F', _, _, _, _, s, _⟩ => SqL.of (s _ _ hb)) ?_ ?_
    · rintro i y σ' H2 hy ⟨F', u5, u6, u7, rfl, s2, f2⟩
      obtain ⟨p, hp, rfl⟩ := map_get hy
      obtain ⟨t, ht, tp⟩ := zb.get hp
      have ri2 : RI ts ns x (scan ns (ts.take i) fs) := RI.scan (fun t ht => List.mem_of_mem_take ht) ri
      have hle2 := ri2.len
      refine ⟨p, _, rfl, SqT.of (mono_TP _ _ _ _ s2 tp), rfl, _, _, rfl, _, _, rfl, rfl, ?_⟩
      have nx := scan_next (ns := ns) (fs := fs) ht
      have stay : ¬ (t.1 ∈ ns ∧ t.2 ∈ ns ∧ ¬ (t.1 ∈ scan ns (ts.take i) fs ↔ t.2 ∈ scan ns (ts.take i) fs)) → IL H2 F' (scan ns (ts.take (i + 1)) fs) := fun hc => by
        rw [nx, rstep_no hc]; exact f2
      refine ⟨_, rfl, _, rfl, a, _, rfl, .inl (SqI (s2 _ _ ha)), rfl, flat_ints _, _, rfl, ?_⟩
      refine if_in (fun h1 => ?_) (fun h1 => iteF ⟨F', _, _, _, rfl, s2, stay fun hc => h1 hc.1⟩)
      refine ⟨_, rfl, _, rfl, a, _, rfl, .inl (SqI (s2 _ _ ha)), rfl, flat_ints _, _, rfl, ?_⟩
      refine if_in (fun h2 => ?_) (fun h2 => iteF ⟨F', _, _, _, rfl, s2, stay fun hc => h2 hc.2.1⟩)
      refine ⟨_, rfl, _, rfl, F', _, rfl, .inl (SqI f2), rfl, flat_ints _, _, rfl, _, rfl, F', _, rfl, .inl (SqI f2), rfl, flat_ints _, rfl, _, rfl, ?_⟩
      refine ite2 (fun c2 => ?_) (fun c2 => ⟨F', _, _, _, rfl, s2, stay fun hc => c2 (ne_in.mpr hc.2.2)⟩)
      have h3 := ne_in.mp c2
      refine ⟨_, rfl, _, rfl, _, rfl, (by show 2 ≤ sizeLine; decide), fun tp' htp => ⟨tp', rfl, ⟨_, SqT.of upd_same⟩, fun D hD => ?_⟩⟩
      refine lct_int hD (a := tp') (ns := [t.1, t.2]) (fun z => !decide (z ∈ scan ns (ts.take i) fs)) upd_same (by show 2 ≤ 1000; decide) (fun z H3 Y N hz s3 hY hN => ?_) (fun H3 s3 l3 => ?_)
      · have f3 : IL H3 F' (scan ns (ts.take i) fs) := s3 _ _ ((same_new htp _) _ _ f2)
        refine ⟨rfl, _, rfl, _, rfl, F', _, rfl, .inl (SqI f3), rfl, flat_ints _, _, rfl, ?_⟩
        refine if_nin (fun h => ⟨_, rfl, hY (by simp [h])⟩) (fun h => hN (by simp [h]))
      · have f3 : IL H3 F' (scan ns (ts.take i) fs) := s3 _ _ ((same_new htp _) _ _ f2)
        refine ⟨F', D, _, _, rfl, rfl, f3, l3, ?_, fun G hG => ?_⟩
        · rw [List.length_map, List.length_map]
          have := List.length_filter_le (fun z => !decide (z ∈ scan ns (ts.take i) fs)) [t.1, t.2]
          simp only [List.length_cons, List.length_nil] at this
          exact small (by omega)
        · refine ⟨G, _, _, _, rfl, ((s2.trans (same_new htp _)).trans s3).trans (same_new hG _), ?_⟩
          show upd _ G _ G = _
          rw [upd_same, nx, rstep_yes h1 h2 h3, List.map_append]
    · rintro σ' H2 ⟨F', u5, u6, u7, rfl, s2, f2⟩
      rw [List.length_map, lps, List.take_length] at f2
      have ri2 : RI ts ns x (scan ns ts fs) := RI.scan (fun t ht => ht) ri
      have hmono := scan_len ns ts fs
      refine ⟨m - (fs.length - k).toNat, by omega, F', scan ns ts fs, _, u5, u6, u7, rfl, s2, f2, ri2, by omega, ?_, fun e => ?_, ?_⟩
      · rw [List.length_map]; omega
      · rw [List.length_map] at e
        obtain ⟨e1, e2⟩ := scan_fix ns (us := ts) (fs := fs) (by omega)
        rw [e1]; exact e2
      · rw [List.length_map]; omega
  · have c' : ¬ k < ((fs.map V.int).length : Int) := fun e => c (decide_eq_true e)
    rw [List.length_map] at c'
    exact ⟨_, rfl, q F fs H1 s1 f1 ri (hcl (by omega))⟩
end
end G46
set_option maxHeartbeats 4000000
namespace G46
open PySem PySem.Spec PyProof.Rows L2
theorem cutV_take (xs : List V) (k : Nat) : cutV xs none (some (k : Int)) = xs.take k := by
  unfold cutV
  rw [HT.sIx_none, HT.sIx_nat, List.drop_zero, Nat.sub_zero]
  by_cases h : k ≤ xs.length
  · rw [Nat.min_eq_left h]
  · rw [Nat.min_eq_right (by omega), List.take_of_length_le (Nat.le_refl _), List.take_of_length_le (by omega)]
theorem cutV_takeI (ns : List Int) (k : Int) (h : 0 ≤ k) : cutV (ns.map V.int) none (some k) = (ns.take k.toNat).map V.int := by
  have e : k = ((k.toNat : Nat) : Int) := by omega
  have h2 := cutV_take (ns.map V.int) k.toNat
  rw [← e] at h2
  rw [h2, List.map_take]
theorem scan_closed {ns : List Int} : ∀ {us : Ties} {fs : List Int}, (∀ t ∈ us, t.1 ∈ ns → t.2 ∈ ns → (t.1 ∈ fs ↔ t.2 ∈ fs)) → scan ns us fs = fs
  | [], _, _ => rfl
  | t :: us, fs, h => by
    show scan ns us (rstep ns fs t) = fs
    rw [rstep_no fun q => q.2.2 (h t List.mem_cons_self q.1 q.2.1)]
    exact scan_closed fun u hu => h u (List.mem_cons_of_mem _ hu)
theorem dec_len {a b : Nat} {A : Prop} (h : a = b ↔ A) : decide (V.int (a : Int) = V.int (b : Int)) = true ↔ A := by
  rw [decide_eq_true_eq]
  constructor
  · intro e
    exact h.mp (by have := V.int.inj e; omega)
  · intro q
    rw [h.mpr q]
section
variable {P : Program} {w : World} {K : PySem.W.Frag} {mg : Str → Option Value} {base : Heap}
def spHang : Sp := fun vs H Q _ => ∃ (b a : Addr) (ts : Ties) (ns : List Int), vs = [.ref b, .ref a] ∧ TL H b ts ∧ IL H a ns ∧ 1 ≤ ns.length ∧ ns.Nodup ∧ ns.length ≤ 20 ∧ ts.length ≤ 1000 ∧
  ∀ (k : Bool) H', Same H H' → (k = true ↔ Conn ts ns) → Q (.bl k) H'
theorem sc_hang_together : FnScope ["ties", "some"] ["ties", "some"] (defScope s_hang_together) := ⟨rfl, rfl, rfl, by decide +kernel, rfl, by decide +kernel, by decide +kernel⟩
theorem has_hang_together (T : Tx w K mg) (h_reached : Has P w K mg base CX0 1 "reached" ["ties", "some", "first"] spReached) : Has P w K mg base CX0 2 "hang_together" ["ties", "some"] spHang := by
  obtain ⟨f_reached, fd_reached, G_reached, M_reached, K_reached, B_reached⟩ := h_reached
  refine T.mk0 7 d_hang_together rfl rfl rfl rfl rfl sc_hang_together (fun vs H Q E h => ?_) (fun _ _ _ _ _ _ us hl => match us, hl with | [_, _], _ => rfl) (fun f cdv A outer s H vs Q E hr h => ?_)
  · obtain ⟨b, a, ts, ns, rfl, _⟩ := h; rfl
  refine ⟨_, (pss_one (ps_ret (pe_cmpR op_eq (pe_callB call_len_seq (by rfl) (T.free 69) (by decide +kernel) (pa_cons (pe_call G_reached (hr.mono (by decide)) rfl M_reached K_reached B_reached .nil pass0 (pa_cons (pv 0) (pa_cons (pv 1) (pa_cons (pe_ix ix_list (pv 1) pe_int (fun _ _ => rfl)) pa_nil)))) pa_nil)) (pe_callB call_len_seq (by rfl) (T.free 69) (by decide +kernel) (pa_cons (pv 1) pa_nil)) (nomark _)))), ?_⟩
  obtain ⟨b, a, ts, ns, rfl, hb, ha, h1, hnd, hl, htl, q⟩ := h
  obtain ⟨x, _, hx, eat⟩ := ix_ints (xs := ns) (r := 0) (by omega) (by omega)
  refine ⟨_, rfl, _, rfl, _, rfl, _, _, _, _, rfl, rfl, SqI ha, eat, ?_⟩
  refine ⟨b, a, x, ts, ns, rfl, hb, ha, hx, hnd, hl, htl, fun p fs H' s l ri cl => ?_⟩
  refine ⟨p, _, rfl, .inl (SqI l), _, rfl, a, _, rfl, .inl (SqI (s _ _ ha)), rfl, q _ H' s ?_⟩
  rw [List.length_map, List.length_map]
  exact dec_len (ri.conn cl hnd)
theorem sc_law_together : FnScope ["_law_tree_here", "_law_some", "_law_found", "_law_turn", "_law_one", "_law_other", "_law_name"] ["_law_tree_here", "_law_some"] (defScope s_law_together) := ⟨rfl, rfl, rfl, by decide +kernel, rfl, by decide +kernel, by decide +kernel⟩
theorem has_law_together (T : Tx w K mg) : Has P w K mg base CX0 1 "_law_together" ["_law_tree_here", "_law_some"] spHang := by
  refine T.mk0 29 d_law_together rfl rfl rfl rfl rfl sc_law_together (fun vs H Q E h => ?_) (fun _ _ _ _ _ _ us hl => match us, hl with | [_, _], _ => rfl) (fun f cdv A outer s H vs Q E hr h => ?_)
  · obtain ⟨b, a, ts, ns, rfl, _⟩ := h; rfl
  refine ⟨_, (pss_cons (ps_set (i := 2) sc_law_together.nd rfl (Or.inr rfl) (pe_slice sl_list (pv 1) po_none (po_some pe_int)))
    (pss_cons (ps_for PassesOwn.never rfl (pi_range1 (by rfl) (T.free 73) (pa_cons (pe_callB call_len_seq (by rfl) (T.free 69) (by decide +kernel) (pa_cons (pv 1) pa_nil)) pa_nil)) (pg_name (i := 3) sc_law_together.nd rfl (Or.inl rfl))
    (pss_one (ps_for PassesOwn.never rfl (pi_list (pv 0)) (pg_tup rfl (pgs_cons (pg_name (i := 4) sc_law_together.nd rfl (Or.inl rfl)) (pgs_cons (pg_name (i := 5) sc_law_together.nd rfl (Or.inl rfl)) pgs_nil)))
    (pss_one (ps_if (PW.pt (pw_and (pt_cmpR op_in_seq (pv 4) (pv 1) rfl) (pw_and (pt_cmpR op_in_seq (pv 5) (pv 1) rfl) (pw_and1 (pt_cmpR op_ne (pe_cmpR op_in_seq (pv 4) (pv 2) rfl) (pe_cmpR op_in_seq (pv 5) (pv 2) rfl) (nomark _))))))
    (pss_one (ps_set (i := 2) sc_law_together.nd rfl (Or.inr rfl) (pe_op op_cat (pv 2) (pe_lc (own := [("_law_name", 6)]) (tt := (tTest (tOp (rIn K true) (tVar 6) (tVar 2)))) rfl sc_law_together.nd (pi_tup (pe_tup (pa_cons (pv 4) (pa_cons (pv 5) pa_nil)))) (blkOk_by (own := [("_law_name", 6)]) (N := ["_law_tree_here", "_law_some", "_law_found", "_law_turn", "_law_one", "_law_other", "_law_name"]) (sc := (defScope s_law_together)) (by decide +kernel)) (fun _ _ _ _ _ => (pg_name (i := 6) sc_law_together.nd rfl (Or.inl rfl))) (fun _ _ _ _ _ => (pts_one (pt_cmpR op_notIn_seq (pv 6) (pv 2) rfl))) (fun _ _ _ _ _ => (pv 6))))))
    pss_nil)))))
    (pss_one (ps_ret (pe_cmpR op_eq (pe_callB call_len_seq (by rfl) (T.free 69) (by decide +kernel) (pa_cons (pv 2) pa_nil)) (pe_callB call_len_seq (by rfl) (T.free 69) (by decide +kernel) (pa_cons (pv 1) pa_nil)) (nomark _)))))), ?_⟩
  obtain ⟨b, a, ts, ns, rfl, ⟨ps, hb, zb⟩, ha, h1, hnd, hl, htl, q⟩ := h
  have lps : ps.length = ts.length := zb.len
  obtain ⟨x, ex⟩ : ∃ x, ns.take 1 = [x] := by
    match ns, h1 with
    | x :: ns, _ => exact ⟨x, rfl⟩
  have hx : x ∈ ns := List.mem_of_mem_take (i := 1) (by rw [ex]; exact List.mem_singleton.mpr rfl)
  refine ⟨_, rfl, 1, rfl, a, _, rfl, SqI ha, fun F hF => ?_⟩
  have sF := same_new hF (.lst (cutV (ns.map V.int) none (some 1)))
  refine ⟨_, rfl, a, _, rfl, .inl (SqI (sF _ _ ha)), ((ns.map V.int).length : Nat), rfl, ?_, ?_, ?_⟩
  · omega
  · rw [List.length_map]; omega
  refine for_range (n := (((ns.map V.int).length : Nat) : Int).toNat) (fun i σ H' => ∃ (F : Addr) (fs : List Int) (v3 v4 v5 v6 : Option V), σ = [some (.ref b), some (.ref a), some (.ref F), v3, v4, v5, v6] ∧
    Same H H' ∧ IL H' F fs ∧ RI ts ns x fs ∧ (i + 1 ≤ fs.length ∨ ∀ t ∈ ts, t.1 ∈ ns → t.2 ∈ ns → (t.1 ∈ fs ↔ t.2 ∈ fs)))
    ⟨F, [x], none, none, none, none, rfl, sF, ?_, RI.start hx, .inl (Nat.le_refl _)⟩ ?_ ?_
  · show upd _ F _ F = _
    rw [upd_same, cutV_takeI ns 1 (by decide)]
    show some (HO.lst ((ns.take 1).map V.int)) = _
    rw [ex]
  · rintro i σ H1 hi ⟨F, fs, v3, v4, v5, v6, rfl, s1, f1, ri, alt⟩
    have hle := ri.len
    refine ⟨_, rfl, b, rfl, ⟨_, SqL.of (s1 _ _ hb)⟩, ?_⟩
    refine for_list (K := K) (a := b) (xs := ps.map V.ref) (fun j σ' H' => ∃ (F' : Addr) (v4 v5 v6 : Option V), σ' = [some (.ref b), some (.ref a), some (.ref F'), some (.int (0 + (i : Int))), v4, v5, v6] ∧
      Same H H' ∧ IL H' F' (scan ns (ts.take j) fs)) ⟨F, v4, v5, v6, rfl, s1, f1⟩ (fun i σ' H' _ ⟨F', _, _, _, _, s, _⟩ => SqL.of (s _ _ hb)) ?_ ?_
    · rintro j y σ' H2 hy ⟨F', u4, u5, u6, rfl, s2, f2⟩
      obtain ⟨p, hp, rfl⟩ := map_get hy
      obtain ⟨t, ht, tp⟩ := zb.get hp
      have ri2 : RI ts ns x (scan ns (ts.take j) fs) := RI.scan (fun t ht => List.mem_of_mem_take ht) ri
      have hle2 := ri2.len
      refine ⟨p, _, rfl, SqT.of (mono_TP _ _ _ _ s2 tp), rfl, _, _, rfl, _, _, rfl, rfl, ?_⟩
      have nx := scan_next (ns := ns) (fs := fs) ht
      have stay : ¬ (t.1 ∈ ns ∧ t.2 ∈ ns ∧ ¬ (t.1 ∈ scan ns (ts.take j) fs ↔ t.2 ∈ scan ns (ts.take j) fs)) → IL H2 F' (scan ns (ts.take (j + 1)) fs) := fun hc => by
        rw [nx, rstep_no hc]; exact f2
      refine ⟨_, rfl, _, rfl, a, _, rfl, .inl (SqI (s2 _ _ ha)), rfl, flat_ints _, _, rfl, ?_⟩
      refine if_in (fun h1 => ?_) (fun h1 => iteF ⟨F', _, _, _, rfl, s2, stay fun hc => h1 hc.1⟩)
      refine ⟨_, rfl, _, rfl, a, _, rfl, .inl (SqI (s2 _ _ ha)), rfl, flat_ints _, _, rfl, ?_⟩
      refine if_in (fun h2 => ?_) (fun h2 => iteF ⟨F', _, _, _, rfl, s2, stay fun hc => h2 hc.2.1⟩)
      refine ⟨_, rfl, _, rfl, F', _, rfl, .inl (SqI f2), rfl, flat_ints _, _, rfl, _, rfl, F', _, rfl, .inl (SqI f2), rfl, flat_ints _, rfl, _, rfl, ?_⟩
      refine ite2 (fun c2 => ?_) (fun c2 => ⟨F', _, _, _, rfl, s2, stay fun hc => c2 (ne_in.mpr hc.2.2)⟩)
      have h3 := ne_in.mp c2
      refine ⟨_, rfl, _, rfl, _, rfl, (by show 2 ≤ sizeLine; decide), fun tp' htp => ⟨tp', rfl, ⟨_, SqT.of upd_same⟩, fun D hD => ?_⟩⟩
      refine lct_int hD (a := tp') (ns := [t.1, t.2]) (fun z => !decide (z ∈ scan ns (ts.take j) fs)) upd_same (by show 2 ≤ 1000; decide) (fun z H3 Y N hz s3 hY hN => ?_) (fun H3 s3 l3 => ?_)
      · have f3 : IL H3 F' (scan ns (ts.take j) fs) := s3 _ _ ((same_new htp _) _ _ f2)
        refine ⟨rfl, _, rfl, _, rfl, F', _, rfl, .inl (SqI f3), rfl, flat_ints _, _, rfl, ?_⟩
        refine if_nin (fun h => ⟨_, rfl, hY (by simp [h])⟩) (fun h => hN (by simp [h]))
      · have f3 : IL H3 F' (scan ns (ts.take j) fs) := s3 _ _ ((same_new htp _) _ _ f2)
        refine ⟨F', D, _, _, rfl, rfl, f3, l3, ?_, fun G hG => ?_⟩
        · rw [List.length_map, List.length_map]
          have := List.length_filter_le (fun z => !decide (z ∈ scan ns (ts.take j) fs)) [t.1, t.2]
          simp only [List.length_cons, List.length_nil] at this
          exact small (by omega)
        · refine ⟨G, _, _, _, rfl, ((s2.trans (same_new htp _)).trans s3).trans (same_new hG _), ?_⟩
          show upd _ G _ G = _
          rw [upd_same, nx, rstep_yes h1 h2 h3, List.map_append]
    · rintro σ' H2 ⟨F', u4, u5, u6, rfl, s2, f2⟩
      rw [List.length_map, lps, List.take_length] at f2
      have ri2 : RI ts ns x (scan ns ts fs) := RI.scan (fun t ht => ht) ri
      have hmono := scan_len ns ts fs
      refine ⟨F', scan ns ts fs, _, u4, u5, u6, rfl, s2, f2, ri2, ?_⟩
      by_cases e : (scan ns ts fs).length = fs.length
      · obtain ⟨e1, e2⟩ := scan_fix ns e
        rw [e1]; exact .inr e2
      · rcases alt with g | g
        · exact .inl (by omega)
        · exact absurd (by rw [scan_closed g]) e
  · rintro σ H1 ⟨F, fs, v3, v4, v5, v6, rfl, s1, f1, ri, alt⟩
    have hle := ri.len
    have cl : ∀ t ∈ ts, t.1 ∈ ns → t.2 ∈ ns → (t.1 ∈ fs ↔ t.2 ∈ fs) := by
      rcases alt with g | g
      · rw [List.length_map] at g; omega
      · exact g
    refine ⟨_, rfl, F, _, rfl, .inl (SqI f1), _, rfl, a, _, rfl, .inl (SqI (s1 _ _ ha)), rfl, q _ H1 s1 ?_⟩
    rw [List.length_map, List.length_map]
    exact dec_len (ri.conn cl hnd)
/-! ### where a ranking's first names don't hang together -/
def spApart : Sp := fun vs H Q _ => ∃ (b a : Addr) (ts : Ties) (r : List Int), vs = [.ref b, .ref a] ∧ TL H b ts ∧ IL H a r ∧ r.Nodup ∧ r.length ≤ 20 ∧ ts.length ≤ 1000 ∧
  ∀ v H', Same H H' → ((v = .non ∧ Falls ts r) ∨ ((∃ i, v = .int i) ∧ ¬ Falls ts r)) → Q v H'
theorem sc_apart_at : FnScope ["tree", "ranking", "many"] ["tree", "ranking"] (defScope s_apart_at) := ⟨rfl, rfl, rfl, by decide +kernel, rfl, by decide +kernel, by decide +kernel⟩
theorem has_apart_at (T : Tx w K mg) (h_hang_together : Has P w K mg base CX0 2 "hang_together" ["ties", "some"] spHang) : Has P w K mg base CX0 3 "apart_at" ["tree", "ranking"] spApart := by
  obtain ⟨f_hang_together, fd_hang_together, G_hang_together, M_hang_together, K_hang_together, B_hang_together⟩ := h_hang_together
  refine T.mk0 11 d_apart_at rfl rfl rfl rfl rfl sc_apart_at (fun vs H Q E h => ?_) (fun _ _ _ _ _ _ us hl => match us, hl with | [_, _], _ => rfl) (fun f cdv A outer s H vs Q E hr h => ?_)
  · obtain ⟨b, a, ts, r, rfl, _⟩ := h; rfl
  refine ⟨_, (pss_cons (ps_for PassesOwn.never rfl (pi_range2 (by rfl) (T.free 73) (pa_cons pe_int (pa_cons (pe_op op_add (pe_callB call_len_seq (by rfl) (T.free 69) (by decide +kernel) (pa_cons (pv 1) pa_nil)) pe_int) pa_nil))) (pg_name (i := 2) sc_apart_at.nd rfl (Or.inl rfl))
    (pss_one (ps_if (pt_not (pt_val (pe_call G_hang_together (hr.mono (by decide)) rfl M_hang_together K_hang_together B_hang_together .nil pass0 (pa_cons (pv 0) (pa_cons (pe_slice sl_list (pv 1) po_none (po_some (pv 2))) pa_nil)))))
    (pss_one (ps_ret (pv 2)))
    pss_nil)))
    (pss_one (ps_ret pe_non))), ?_⟩
  obtain ⟨b, a, ts, r, rfl, hb, ha, hnd, hl, htl, q⟩ := h
  refine ⟨_, rfl, a, _, rfl, .inl (SqI ha), _, _, rfl, rfl, 1, _, rfl, ⟨by decide, by decide, ?_, ?_⟩, ?_⟩
  · rw [List.length_map]; omega
  · rw [List.length_map]; omega
  refine for_range (lo := 1) (n := ((((r.map V.int).length : Nat) : Int) + 1 - 1).toNat) (fun i σ H' => ∃ (v2 : Option V), σ = [some (.ref b), some (.ref a), v2] ∧ Same H H' ∧ ∀ k, 1 ≤ k → k ≤ i → Conn ts (r.take k))
    ⟨none, rfl, Same.refl H, fun k h1 h2 => by omega⟩ ?_ ?_
  · rintro i σ H1 hi ⟨v2, rfl, s1, c1⟩
    rw [List.length_map] at hi
    have e1 : (1 + (i : Int)).toNat = i + 1 := by omega
    refine ⟨_, rfl, _, rfl, _, rfl, 1 + (i : Int), rfl, a, _, rfl, SqI (s1 _ _ ha), fun p hp => ?_⟩
    rw [cutV_takeI r _ (by omega), e1]
    refine ⟨b, p, ts, r.take (i + 1), rfl, mono_TL _ _ _ _ (same_new hp _) (mono_TL _ _ _ _ s1 hb), upd_same, ?_, hnd.sublist (List.take_sublist _ _), ?_, htl, fun k H2 s2 hk => ?_⟩
    · rw [List.length_take]; omega
    · rw [List.length_take]; omega
    refine ⟨k, rfl, ?_⟩
    have s3 := (s1.trans (same_new hp _)).trans s2
    cases k with
    | false =>
      refine iteT ⟨_, rfl, q _ H2 s3 (.inr ⟨⟨_, rfl⟩, fun f => ?_⟩)⟩
      exact absurd (hk.mpr (f (i + 1) (by omega) (by omega))) (by decide)
    | true =>
      refine iteF ⟨_, rfl, s3, fun k h1 h2 => ?_⟩
      by_cases e : k = i + 1
      · rw [e]; exact hk.mp rfl
      · exact c1 k h1 (by omega)
  · rintro σ H1 ⟨v2, rfl, s1, c1⟩
    rw [List.length_map] at c1
    exact q _ H1 s1 (.inl ⟨rfl, fun k h1 h2 => c1 k h1 (by omega)⟩)
theorem sc_law_apart : FnScope ["_law_tree_here", "_law_ranking", "_law_many_here"] ["_law_tree_here", "_law_ranking"] (defScope s_law_apart) := ⟨rfl, rfl, rfl, by decide +kernel, rfl, by decide +kernel, by decide +kernel⟩
theorem has_law_apart (T : Tx w K mg) (h_law_together : Has P w K mg base CX0 1 "_law_together" ["_law_tree_here", "_law_some"] spHang) : Has P w K mg base CX0 2 "_law_apart" ["_law_tree_here", "_law_ranking"] spApart := by
  obtain ⟨f_law_together, fd_law_together, G_law_together, M_law_together, K_law_together, B_law_together⟩ := h_law_together
  refine T.mk0 30 d_law_apart rfl rfl rfl rfl rfl sc_law_apart (fun vs H Q E h => ?_) (fun _ _ _ _ _ _ us hl => match us, hl with | [_, _], _ => rfl) (fun f cdv A outer s H vs Q E hr h => ?_)
  · obtain ⟨b, a, ts, r, rfl, _⟩ := h; rfl
  refine ⟨_, (pss_cons (ps_for PassesOwn.never rfl (pi_range2 (by rfl) (T.free 73) (pa_cons pe_int (pa_cons (pe_op op_add (pe_callB call_len_seq (by rfl) (T.free 69) (by decide +kernel) (pa_cons (pv 1) pa_nil)) pe_int) pa_nil))) (pg_name (i := 2) sc_law_apart.nd rfl (Or.inl rfl))
    (pss_one (ps_if (pt_not (pt_val (pe_call G_law_together (hr.mono (by decide)) rfl M_law_together K_law_together B_law_together .nil pass0 (pa_cons (pv 0) (pa_cons (pe_slice sl_list (pv 1) po_none (po_some (pv 2))) pa_nil)))))
    (pss_one (ps_ret (pv 2)))
    pss_nil)))
    (pss_one (ps_ret pe_non))), ?_⟩
  obtain ⟨b, a, ts, r, rfl, hb, ha, hnd, hl, htl, q⟩ := h
  refine ⟨_, rfl, a, _, rfl, .inl (SqI ha), _, _, rfl, rfl, 1, _, rfl, ⟨by decide, by decide, ?_, ?_⟩, ?_⟩
  · rw [List.length_map]; omega
  · rw [List.length_map]; omega
  refine for_range (lo := 1) (n := ((((r.map V.int).length : Nat) : Int) + 1 - 1).toNat) (fun i σ H' => ∃ (v2 : Option V), σ = [some (.ref b), some (.ref a), v2] ∧ Same H H' ∧ ∀ k, 1 ≤ k → k ≤ i → Conn ts (r.take k))
    ⟨none, rfl, Same.refl H, fun k h1 h2 => by omega⟩ ?_ ?_
  · rintro i σ H1 hi ⟨v2, rfl, s1, c1⟩
    rw [List.length_map] at hi
    have e1 : (1 + (i : Int)).toNat = i + 1 := by omega
    refine ⟨_, rfl, _, rfl, _, rfl, 1 + (i : Int), rfl, a, _, rfl, SqI (s1 _ _ ha), fun p hp => ?_⟩
    rw [cutV_takeI r _ (by omega), e1]
    refine ⟨b, p, ts, r.take (i + 1), rfl, mono_TL _ _ _ _ (same_new hp _) (mono_TL _ _ _ _ s1 hb), upd_same, ?_, hnd.sublist (List.take_sublist _ _), ?_, htl, fun k H2 s2 hk => ?_⟩
    · rw [List.length_take]; omega
    · rw [List.length_take]; omega
    refine ⟨k, rfl, ?_⟩
    have s3 := (s1.trans (same_new hp _)).trans s2
    cases k with
    | false =>
      refine iteT ⟨_, rfl, q _ H2 s3 (.inr ⟨⟨_, rfl⟩, fun f => ?_⟩)⟩
      exact absurd (hk.mpr (f (i + 1) (by omega) (by omega))) (by decide)
    | true =>
      refine iteF ⟨_, rfl, s3, fun k h1 h2 => ?_⟩
      by_cases e : k = i + 1
      · rw [e]; exact hk.mp rfl
      · exact c1 k h1 (by omega)
  · rintro σ H1 ⟨v2, rfl, s1, c1⟩
    rw [List.length_map] at c1
    exact q _ H1 s1 (.inl ⟨rfl, fun k h1 h2 => c1 k h1 (by omega)⟩)
end
end G46
set_option maxHeartbeats 4000000
namespace G46
open PySem PySem.Spec PyProof.Rows L2
/-- names as the law has them -/
structure Nms (ns : List Int) : Prop where
  ris : Ris ns
  bd : ∀ x ∈ ns, 0 ≤ x ∧ x < 2 ^ 40
  len : 1 ≤ ns.length ∧ ns.length ≤ 10
theorem yes {σ : L2.St} {H : Hp} {A B : Hp → Prop} (h : A H) : tYes σ H fun b H3 => if b = true then A H3 else B H3 := by
  show (if true = true then A H else B H)
  rw [if_pos rfl]; exact h
/-! ### sorted(set(ties)) -/
abbrev tl2 (t : Int × Int) : List Int := [t.1, t.2]
theorem zp_pairs {H : Hp} : ∀ {ps : List Addr} {ts : Ties}, Zp (TP H) ps ts → (∀ p ∈ ps.zip (ts.map tl2), H p.1 = some (.tup (p.2.map V.int))) ∧ (ps.zip (ts.map tl2)).map (fun p => V.ref p.1) = ps.map V.ref ∧ (ps.zip (ts.map tl2)).map (·.2) = ts.map tl2
  | [], [], _ => ⟨fun p hp => (by cases hp), rfl, rfl⟩
  | p :: ps, t :: ts, z => by
    obtain ⟨h1, h2, h3⟩ := zp_pairs z.2
    refine ⟨fun q hq => ?_, ?_, ?_⟩
    · rcases List.mem_cons.mp hq with e | e
      · subst e; exact z.1
      · exact h1 q e
    · simp only [List.map_cons, List.zip_cons_cons, h2]
    · simp only [List.map_cons, List.zip_cons_cons, h3]
  | [], _ :: _, z => z.elim
  | _ :: _, [], z => z.elim
theorem pairs_zp {H : Hp} : ∀ {L : List (Addr × List Int)} {ts : Ties}, (∀ p ∈ L, H p.1 = some (.tup (p.2.map V.int))) → L.map (·.2) = ts.map tl2 → Zp (TP H) (L.map (·.1)) ts
  | [], [], _, _ => trivial
  | [], _ :: _, _, h => by simp at h
  | _ :: _, [], _, h => by simp at h
  | p :: L, t :: ts, h1, h2 => by
    have h2' : p.2 = tl2 t ∧ L.map (·.2) = ts.map tl2 := by simpa using h2
    refine ⟨?_, pairs_zp (fun q hq => h1 q (List.mem_cons_of_mem _ hq)) h2'.2⟩
    have := h1 p List.mem_cons_self
    rw [h2'.1] at this
    exact this
theorem lists_ties {ts : Ties} : ∀ {l : List (List Int)}, (∀ x ∈ l, x ∈ ts.map tl2) → ∃ us : Ties, l = us.map tl2 ∧ ∀ u ∈ us, u ∈ ts
  | [], _ => ⟨[], rfl, fun u hu => (by cases hu)⟩
  | x :: l, h => by
    obtain ⟨us, e, hu⟩ := lists_ties (l := l) fun y hy => h y (List.mem_cons_of_mem _ hy)
    obtain ⟨t, ht, ex⟩ := List.mem_map.mp (h x List.mem_cons_self)
    refine ⟨t :: us, by rw [e, ← ex]; rfl, fun u hu' => ?_⟩
    rcases List.mem_cons.mp hu' with q | q
    · rw [q]; exact ht
    · exact hu u q
theorem tl2_inj {a b : Int × Int} (h : tl2 a = tl2 b) : a = b := by
  obtain ⟨a1, a2⟩ := a
  obtain ⟨b1, b2⟩ := b
  simp only [tl2, List.cons.injEq, and_true] at h
  rw [h.1, h.2]
theorem rd_sset {K : PySem.W.Frag} {P : Program} {w : World} {H : Hp} {b : Addr} {ts : Ties} {Q : VK} {B : Int} (hb : TL H b ts) (h64 : ts.length < 64) (hB : ∀ t ∈ ts, (0 ≤ t.1 ∧ t.1 < B) ∧ (0 ≤ t.2 ∧ t.2 < B))
    (q : ∀ p H', H p = none → Same H H' → TL H' p (sset ts) → Q (.ref p) H') : rSetOfT K P w [.ref b] H fun x H1 => rSortedT K P w [x] H1 Q := by
  obtain ⟨ps, h1, z⟩ := hb
  obtain ⟨z1, z2, z3⟩ := zp_pairs z
  refine ⟨b, ps.zip (ts.map tl2), rfl, SqL.of (by rw [z2]; exact h1), fun p hp => SqT.of (z1 p hp), ?_, fun a L ha hL1 hL2 => ?_⟩
  · rw [List.length_zip, List.length_map]; omega
  have s1 := same_new ha (SetTO P w a L)
  have hL : ∀ p ∈ L, p.2 ∈ ts.map tl2 := fun p hp => by rw [← z3]; exact List.mem_map_of_mem (hL1 p hp)
  have bd : ∀ x ∈ ts.map tl2, x.length = 2 ∧ TS.Bd B x := fun x hx => by
    obtain ⟨t, ht, e⟩ := List.mem_map.mp hx
    subst e
    have := hB t ht
    refine ⟨rfl, fun m hm => ?_⟩
    rcases List.mem_cons.mp hm with e | hm
    · rw [e]; exact this.1
    · rw [List.mem_singleton.mp hm]; exact this.2
  refine ⟨a, L, 2, B, rfl, upd_same, fun p hp => SqT.of (s1 _ _ (z1 p (hL1 p hp))), by decide, fun p hp => bd _ (hL p hp), fun L' p pm nd l64 srt hp => ?_⟩
  have s2 := same_new hp (.lst (L'.map fun q => V.ref q.1))
  obtain ⟨us, eus, hus⟩ := lists_ties (ts := ts) (l := L'.map (·.2)) fun x hx => by
    obtain ⟨y, hy, e⟩ := List.mem_map.mp hx
    rw [← e]; exact hL y (pm.mem_iff.mp hy)
  have hmem : ∀ t, t ∈ us ↔ t ∈ ts := fun t => by
    refine ⟨hus t, fun ht => ?_⟩
    have h3 : tl2 t ∈ (ps.zip (ts.map tl2)).map (·.2) := by rw [z3]; exact List.mem_map_of_mem ht
    obtain ⟨y, hy, e⟩ := List.mem_map.mp h3
    have h4 := hL2 y hy
    rw [e] at h4
    have h5 : tl2 t ∈ L'.map (·.2) := (pm.map (·.2)).mem_iff.mpr h4
    rw [eus] at h5
    obtain ⟨u, hu, e2⟩ := List.mem_map.mp h5
    rw [← tl2_inj e2]; exact hu
  have hsrt : SrtT us := by
    have h6 : (L'.map (·.2)).Pairwise fun x y => TS.code B x ≤ TS.code B y := by rw [List.pairwise_map]; exact srt
    rw [eus, List.pairwise_map] at h6
    have h7 := nd
    rw [eus, List.nodup_iff_pairwise_ne, List.pairwise_map] at h7
    refine (h6.and h7).imp_of_mem fun {x y} hx hy h => ?_
    have c := code_lex (bd _ (List.mem_map_of_mem (hus x hx))).2 (bd _ (List.mem_map_of_mem (hus y hy))).2 h.1
    unfold lexT
    rcases c with c | ⟨c1, c2⟩
    · exact .inl c
    · refine .inr ⟨c1, ?_⟩
      have : x.2 ≠ y.2 := fun e => h.2 (by rw [tl2, tl2, c1, e])
      omega
  rw [sset_eq hsrt hmem] at eus
  refine q p _ ((Kp.of [] s1).free hp (by simp)) (s1.trans s2) ⟨L'.map (·.1), ?_, pairs_zp (fun y hy => s2 _ _ (s1 _ _ (z1 y (hL1 y (pm.mem_iff.mp hy))))) eus⟩
  rw [upd_same, List.map_map]; rfl
theorem rd_ssetV {K : PySem.W.Frag} {P : Program} {w : World} {H : Hp} {σ : L2.St} {i : Nat} {b : Addr} {ts : Ties} {Q : VK} {B : Int} (hσ : σ[i]? = some (some (.ref b))) (hb : TL H b ts) (h64 : ts.length < 64) (hB : ∀ t ∈ ts, (0 ≤ t.1 ∧ t.1 < B) ∧ (0 ≤ t.2 ∧ t.2 < B))
    (q : ∀ p H', Same H H' → TL H' p (sset ts) → Q (.ref p) H') : tCB (rSortedT K P w) (tCons (tCB (rSetOfT K P w) (tCons (tVar i) tNil)) tNil) σ H Q := ⟨_, hσ, rd_sset hb h64 hB fun p H' _ => q p H'⟩
section
variable {P : Program} {w : World} {K : PySem.W.Frag} {mg : Str → Option Value} {base : Heap}
def spIsTie : Sp := fun vs H Q _ => ∃ (a p : Addr) (ns : List Int) (t : Int × Int), vs = [.ref a, .ref p] ∧ IL H a ns ∧ TP H p t ∧ t.1 < t.2 ∧ t.1 ∈ ns ∧ t.2 ∈ ns ∧ Q (.bl true) H
theorem sc_is_tie : FnScope ["names", "thing"] ["names", "thing"] (defScope s_is_tie) := ⟨rfl, rfl, rfl, by decide +kernel, rfl, by decide +kernel, by decide +kernel⟩
theorem has_is_tie (T : Tx w K mg) (h_is_number : Has P w K mg base CX0 1 "is_number" ["thing"] spInt) : Has P w K mg base CX0 2 "is_tie" ["names", "thing"] spIsTie := by
  obtain ⟨f_is_number, fd_is_number, G_is_number, M_is_number, K_is_number, B_is_number⟩ := h_is_number
  refine T.mk0 5 d_is_tie rfl rfl rfl rfl rfl sc_is_tie (fun vs H Q E h => ?_) (fun _ _ _ _ _ _ us hl => match us, hl with | [_, _], _ => rfl) (fun f cdv A outer s H vs Q E hr h => ?_)
  · obtain ⟨a, p, ns, t, rfl, _⟩ := h; rfl
  refine ⟨_, (pss_cons (ps_if (PW.pt (pw_or (pt_not (pt_val (pe_callB call_isi (by rfl) (T.free 64) (by decide +kernel) (pa_cons (pv 1) (pa_cons (pe_bltn (v := .ty "tuple") (by rfl) (T.free 68) (by decide +kernel) rfl) pa_nil))))) (pw_or (pt_cmpR op_ne (pe_callB call_len_seq (by rfl) (T.free 69) (by decide +kernel) (pa_cons (pv 1) pa_nil)) pe_int (nomark _)) (pw_or (pt_not (pt_val (pe_call G_is_number (hr.mono (by decide)) rfl M_is_number K_is_number B_is_number .nil pass0 (pa_cons (pe_ix ix_tup (pv 1) pe_int (fun _ _ => rfl)) pa_nil)))) (pw_or1 (pt_not (pt_val (pe_call G_is_number (hr.mono (by decide)) rfl M_is_number K_is_number B_is_number .nil pass0 (pa_cons (pe_ix ix_tup (pv 1) pe_int (fun _ _ => rfl)) pa_nil)))))))))
    (pss_one (ps_ret pe_bl))
    pss_nil)
    (pss_one (ps_ret (pe_and (pe_cmpR op_lt (pe_ix ix_tup (pv 1) pe_int (fun _ _ => rfl)) (pe_ix ix_tup (pv 1) pe_int (fun _ _ => rfl)) (nomark _)) (pe_and (pe_cmpR op_in_seq (pe_ix ix_tup (pv 1) pe_int (fun _ _ => rfl)) (pv 0) rfl) (pe_one (pe_cmpR op_in_seq (pe_ix ix_tup (pv 1) pe_int (fun _ _ => rfl)) (pv 0) rfl))))))), ?_⟩
  obtain ⟨a, p, ns, t, rfl, ha, tp, h1, h2, h3, q⟩ := h
  refine ⟨_, rfl, _, _, _, _, true, rfl, .ty "tuple", .base (.tup tp), kit_ty (by decide +kernel), true, rfl, ?_⟩
  refine iteF ⟨_, rfl, p, _, rfl, .inr (SqT.of tp), rfl, _, rfl, ?_⟩
  refine iteNS rfl ?_
  refine ⟨_, rfl, p, _, _, _, rfl, rfl, SqT.of tp, rfl, t.1, rfl, true, rfl, ?_⟩
  refine iteF ⟨_, rfl, p, _, _, _, rfl, rfl, SqT.of tp, rfl, t.2, rfl, true, rfl, ?_⟩
  refine iteF ⟨_, rfl, p, _, _, _, rfl, rfl, SqT.of tp, rfl, _, rfl, p, _, _, _, rfl, rfl, SqT.of tp, rfl, _, _, rfl, rfl, _, rfl, ?_⟩
  refine ite2 (fun _ => ?_) (fun c => absurd (decide_eq_true h1) c)
  refine ⟨_, rfl, p, _, _, _, rfl, rfl, SqT.of tp, rfl, _, rfl, a, _, rfl, .inl (SqI ha), rfl, flat_ints _, _, rfl, ?_⟩
  refine if_in (fun _ => ?_) (fun c => absurd h2 c)
  refine ⟨_, rfl, p, _, _, _, rfl, rfl, SqT.of tp, rfl, _, rfl, a, _, rfl, .inl (SqI ha), rfl, flat_ints _, ?_⟩
  show Q (.bl (inV (.int t.2) (ns.map V.int))) H
  rw [inV_int, decide_eq_true h3]; exact q
def spRight : Sp := fun vs H Q _ => ∃ (a b : Addr) (ns : List Int) (ts : Ties), vs = [.ref a, .ref b] ∧ IL H a ns ∧ TL H b ts ∧ Nms ns ∧ RTree ns ts ∧ ∀ H', Same H H' → Q (.bl true) H'
theorem filterMap_all {α β : Type} {f : α → Option β} {y : β} : ∀ {l : List α}, (∀ x ∈ l, f x = some y) → l.filterMap f = List.replicate l.length y
  | [], _ => rfl
  | a :: l, h => by
    rw [List.filterMap_cons, h a List.mem_cons_self]
    show y :: l.filterMap f = _
    rw [filterMap_all fun x hx => h x (List.mem_cons_of_mem _ hx)]; rfl
theorem rep_bls (n : Nat) : List.replicate n (V.bl true) = (List.replicate n true).map V.bl := by simp
theorem rep_all (n : Nat) : (List.replicate n true).all id = true := by simp
theorem sc_is_right_tree : FnScope ["names", "thing", "tie"] ["names", "thing"] (defScope s_is_right_tree) := ⟨rfl, rfl, rfl, by decide +kernel, rfl, by decide +kernel, by decide +kernel⟩
theorem has_is_right_tree (T : Tx w K mg) (h_is_tie : Has P w K mg base CX0 2 "is_tie" ["names", "thing"] spIsTie) (h_hang_together : Has P w K mg base CX0 2 "hang_together" ["ties", "some"] spHang) : Has P w K mg base CX0 3 "is_right_tree" ["names", "thing"] spRight := by
  obtain ⟨f_is_tie, fd_is_tie, G_is_tie, M_is_tie, K_is_tie, B_is_tie⟩ := h_is_tie
  obtain ⟨f_hang_together, fd_hang_together, G_hang_together, M_hang_together, K_hang_together, B_hang_together⟩ := h_hang_together
  refine T.mk0 8 d_is_right_tree rfl rfl rfl rfl rfl sc_is_right_tree (fun vs H Q E h => ?_) (fun _ _ _ _ _ _ us hl => match us, hl with | [_, _], _ => rfl) (fun f cdv A outer s H vs Q E hr h => ?_)
  · obtain ⟨a, b, ns, ts, rfl, _⟩ := h; rfl
  refine ⟨_, (pss_cons (ps_if (PW.pt (pw_or (pt_not (pt_val (pe_callB call_isi (by rfl) (T.free 64) (by decide +kernel) (pa_cons (pv 1) (pa_cons (pe_bltn (v := .ty "list") (by rfl) (T.free 67) (by decide +kernel) rfl) pa_nil))))) (pw_or (pt_cmpR op_ne (pe_callB call_len_seq (by rfl) (T.free 69) (by decide +kernel) (pa_cons (pv 1) pa_nil)) (pe_op op_sub (pe_callB call_len_seq (by rfl) (T.free 69) (by decide +kernel) (pa_cons (pv 0) pa_nil)) pe_int) (nomark _)) (pw_or1 (pt_not (pt_val (pe_callB (cr_all rfl) (by rfl) (T.free 71) (by decide +kernel) (pa_cons (pe_lc (own := [("tie", 2)]) rfl sc_is_right_tree.nd (pi_list (pv 1)) (blkOk_by (own := [("tie", 2)]) (N := ["names", "thing", "tie"]) (sc := (defScope s_is_right_tree)) (by decide +kernel)) (fun _ _ _ _ _ => (pg_name (i := 2) sc_is_right_tree.nd rfl (Or.inl rfl))) (fun _ _ _ _ _ => pts_nil) (fun _ _ _ _ _ => (pe_call G_is_tie (hr.mono (by decide)) rfl M_is_tie K_is_tie B_is_tie .nil pass0 (pa_cons (pv 0) (pa_cons (pv 2) pa_nil))))) pa_nil))))))))
    (pss_one (ps_ret pe_bl))
    pss_nil)
    (pss_one (ps_ret (pe_and (pe_cmpR (op_eqD hr.units) (pv 1) (pe_callB (cr_sortedT rfl) (by rfl) (T.free 72) (by decide +kernel) (pa_cons (pe_callTy (cr_setOfT rfl hr.units) (by rfl) (T.free 70) (by decide +kernel) (pa_cons (pv 1) pa_nil)) pa_nil)) (nomark _)) (pe_one (pe_call G_hang_together (hr.mono (by decide)) rfl M_hang_together K_hang_together B_hang_together .nil pass0 (pa_cons (pv 1) (pa_cons (pv 0) pa_nil)))))))), ?_⟩
  obtain ⟨a, b, ns, ts, rfl, ha, hb, nm, rt, q⟩ := h
  have hl := nm.len
  have htl := rt.len
  obtain ⟨ps, hb1, zb⟩ := id hb
  have lps : ps.length = ts.length := zb.len
  refine ⟨_, rfl, _, _, _, _, true, rfl, .ty "list", .base (.lst hb1), kit_ty (by decide +kernel), true, rfl, ?_⟩
  refine iteF ⟨_, rfl, b, _, rfl, .inl (SqL.of hb1), _, rfl, a, _, rfl, .inl (SqI ha), _, _, rfl, rfl, rfl, _, rfl, ?_⟩
  refine iteNS (by rw [List.length_map, List.length_map]; exact congrArg V.int (by omega)) ?_
  refine ⟨_, rfl, b, rfl, ⟨_, SqL.of hb1⟩, fun D hD => ?_⟩
  refine lc_fm hD (fun _ => some (.bl true)) (SqL.of hb1) (by rw [List.length_map]; omega) (fun x H1 Y N hx s hY hN => ?_) (fun H2 s2 l2 => ?_)
  · obtain ⟨p, hp, rfl⟩ := List.mem_map.mp hx
    obtain ⟨i, hi⟩ := List.getElem?_of_mem hp
    obtain ⟨t, ht, tp⟩ := zb.get hi
    obtain ⟨g1, g2, g3⟩ := rt.ok t (mem_at ht)
    refine ⟨rfl, yes ⟨_, rfl, _, rfl, a, p, ns, t, rfl, s _ _ ha, mono_TP _ _ _ _ s tp, g1, g2, g3, hY _ _ rfl (Same.refl _)⟩⟩
  · rw [filterMap_all (fun _ _ => rfl), rep_bls] at l2
    refine ⟨D, _, rfl, SqL.of l2, _, rfl, ?_⟩
    rw [rep_all]
    refine iteF ?_
    refine ⟨_, rfl, ?_⟩
    have b2 := mono_TL _ _ _ _ s2 hb
    refine rd_ssetV (B := 2 ^ 40) rfl b2 (by omega) (fun t ht => ?_) (fun p H3 s3 t3 => ?_)
    · obtain ⟨g1, g2, g3⟩ := rt.ok t ht
      exact ⟨nm.bd _ g2, nm.bd _ g3⟩
    · rw [sset_self rt.srt] at t3
      refine rd_eqD enc_T (by decide) (dp_T (mono_TL _ _ _ _ s3 b2)) (dp_T t3) ?_
      refine ⟨true, by rw [decide_eq_true rfl], iteT ?_⟩
      refine ⟨_, rfl, _, rfl, b, a, ts, ns, rfl, mono_TL _ _ _ _ s3 b2, s3 _ _ (s2 _ _ ha), hl.1, nm.ris.nd, by omega, by omega, fun k H4 s4 hk => ?_⟩
      rw [hk.mpr rt.conn]
      exact q H4 ((s2.trans s3).trans s4)
def spMust : Sp := fun vs H Q _ => ∃ (a b : Addr) (ns : List Int) (ts : Ties), vs = [.ref a, .ref b] ∧ IL H a ns ∧ TL H b ts ∧ Nms ns ∧ RTree ns ts ∧ ∀ H', Same H H' → Q .non H'
theorem sc_must_be_tree : FnScope ["names", "tree"] ["names", "tree"] (defScope s_must_be_tree) := ⟨rfl, rfl, rfl, by decide +kernel, rfl, by decide +kernel, by decide +kernel⟩
theorem has_must_be_tree (T : Tx w K mg) (h_is_right_tree : Has P w K mg base CX0 3 "is_right_tree" ["names", "thing"] spRight) : Has P w K mg base CX0 4 "must_be_tree" ["names", "tree"] spMust := by
  obtain ⟨f_is_right_tree, fd_is_right_tree, G_is_right_tree, M_is_right_tree, K_is_right_tree, B_is_right_tree⟩ := h_is_right_tree
  refine T.mk0 9 d_must_be_tree rfl rfl rfl rfl rfl sc_must_be_tree (fun vs H Q E h => ?_) (fun _ _ _ _ _ _ us hl => match us, hl with | [_, _], _ => rfl) (fun f cdv A outer s H vs Q E hr h => ?_)
  · obtain ⟨a, b, ns, ts, rfl, _⟩ := h; rfl
  refine ⟨_, (pss_one (ps_if (pt_not (pt_val (pe_call G_is_right_tree (hr.mono (by decide)) rfl M_is_right_tree K_is_right_tree B_is_right_tree .nil pass0 (pa_cons (pv 0) (pa_cons (pv 1) pa_nil)))))
    (pss_one ps_never)
    pss_nil)), ?_⟩
  obtain ⟨a, b, ns, ts, rfl, ha, hb, nm, rt, q⟩ := h
  exact ⟨_, rfl, _, rfl, a, b, ns, ts, rfl, ha, hb, nm, rt, fun H' s => ⟨true, rfl, iteF (q H' s)⟩⟩
def spIsTree : Sp := fun vs H Q _ => ∃ (a b : Addr) (ns : List Int) (ts : Ties), vs = [.ref a, .ref b] ∧ IL H a ns ∧ TL H b ts ∧ Nms ns ∧ ∀ (k : Bool) H', Same H H' → (k = true ↔ RTree ns ts) → Q (.bl k) H'
theorem no_tree {A : Prop} (h : ¬ A) : (false = true ↔ A) := ⟨fun e => (by cases e), fun a => absurd a h⟩
theorem sc_law_is_tree : FnScope ["_law_names_here", "_law_thing", "_law_tie"] ["_law_names_here", "_law_thing"] (defScope s_law_is_tree) := ⟨rfl, rfl, rfl, by decide +kernel, rfl, by decide +kernel, by decide +kernel⟩
theorem has_law_is_tree (T : Tx w K mg) (h_law_whole : Has P w K mg base CX0 1 "_law_whole" ["_law_thing"] spInt) (h_law_together : Has P w K mg base CX0 1 "_law_together" ["_law_tree_here", "_law_some"] spHang) : Has P w K mg base CX0 2 "_law_is_tree" ["_law_names_here", "_law_thing"] spIsTree := by
  obtain ⟨f_law_whole, fd_law_whole, G_law_whole, M_law_whole, K_law_whole, B_law_whole⟩ := h_law_whole
  obtain ⟨f_law_together, fd_law_together, G_law_together, M_law_together, K_law_together, B_law_together⟩ := h_law_together
  refine T.mk0 32 d_law_is_tree rfl rfl rfl rfl rfl sc_law_is_tree (fun vs H Q E h => ?_) (fun _ _ _ _ _ _ us hl => match us, hl with | [_, _], _ => rfl) (fun f cdv A outer s H vs Q E hr h => ?_)
  · obtain ⟨a, b, ns, ts, rfl, _⟩ := h; rfl
  refine ⟨_, (pss_cons (ps_if (PW.pt (pw_or (pt_not (pt_val (pe_callB call_isi (by rfl) (T.free 64) (by decide +kernel) (pa_cons (pv 1) (pa_cons (pe_bltn (v := .ty "list") (by rfl) (T.free 67) (by decide +kernel) rfl) pa_nil))))) (pw_or1 (pt_cmpR op_ne (pe_callB call_len_seq (by rfl) (T.free 69) (by decide +kernel) (pa_cons (pv 1) pa_nil)) (pe_op op_sub (pe_callB call_len_seq (by rfl) (T.free 69) (by decide +kernel) (pa_cons (pv 0) pa_nil)) pe_int) (nomark _)))))
    (pss_one (ps_ret pe_bl))
    pss_nil)
    (pss_cons (ps_for PassesOwn.never rfl (pi_list (pv 1)) (pg_name (i := 2) sc_law_is_tree.nd rfl (Or.inl rfl))
    (pss_cons (ps_if (PW.pt (pw_or (pt_not (pt_val (pe_callB call_isi (by rfl) (T.free 64) (by decide +kernel) (pa_cons (pv 2) (pa_cons (pe_bltn (v := .ty "tuple") (by rfl) (T.free 68) (by decide +kernel) rfl) pa_nil))))) (pw_or (pt_cmpR op_ne (pe_callB call_len_seq (by rfl) (T.free 69) (by decide +kernel) (pa_cons (pv 2) pa_nil)) pe_int (nomark _)) (pw_or (pt_not (pt_val (pe_call G_law_whole (hr.mono (by decide)) rfl M_law_whole K_law_whole B_law_whole .nil pass0 (pa_cons (pe_ix ix_tup (pv 2) pe_int (fun _ _ => rfl)) pa_nil)))) (pw_or1 (pt_not (pt_val (pe_call G_law_whole (hr.mono (by decide)) rfl M_law_whole K_law_whole B_law_whole .nil pass0 (pa_cons (pe_ix ix_tup (pv 2) pe_int (fun _ _ => rfl)) pa_nil)))))))))
    (pss_one (ps_ret pe_bl))
    pss_nil)
    (pss_one (ps_if (PW.pt (pw_or (pt_cmpR op_ge (pe_ix ix_tup (pv 2) pe_int (fun _ _ => rfl)) (pe_ix ix_tup (pv 2) pe_int (fun _ _ => rfl)) (nomark _)) (pw_or (pt_cmpR op_notIn_seq (pe_ix ix_tup (pv 2) pe_int (fun _ _ => rfl)) (pv 0) rfl) (pw_or1 (pt_cmpR op_notIn_seq (pe_ix ix_tup (pv 2) pe_int (fun _ _ => rfl)) (pv 0) rfl)))))
    (pss_one (ps_ret pe_bl))
    pss_nil))))
    (pss_one (ps_ret (pe_and (pe_cmpR (op_eqD hr.units) (pv 1) (pe_callB (cr_sortedT rfl) (by rfl) (T.free 72) (by decide +kernel) (pa_cons (pe_callTy (cr_setOfT rfl hr.units) (by rfl) (T.free 70) (by decide +kernel) (pa_cons (pv 1) pa_nil)) pa_nil)) (nomark _)) (pe_one (pe_call G_law_together (hr.mono (by decide)) rfl M_law_together K_law_together B_law_together .nil pass0 (pa_cons (pv 1) (pa_cons (pv 0) pa_nil))))))))), ?_⟩
  obtain ⟨a, b, ns, ts, rfl, ha, hb, nm, q⟩ := h
  have hl := nm.len
  obtain ⟨ps, hb1, zb⟩ := id hb
  have lps : ps.length = ts.length := zb.len
  refine ⟨_, rfl, _, _, _, _, true, rfl, .ty "list", .base (.lst hb1), kit_ty (by decide +kernel), true, rfl, ?_⟩
  refine iteF ⟨_, rfl, b, _, rfl, .inl (SqL.of hb1), _, rfl, a, _, rfl, .inl (SqI ha), _, _, rfl, rfl, rfl, _, rfl, ?_⟩
  refine ite2 (fun c => ?_) (fun c => ?_)
  · refine q false H (Same.refl H) (no_tree fun rt => ?_)
    have htl := rt.len
    have e : decide (V.int (((ps.map V.ref).length : Nat) : Int) = V.int ((((ns.map V.int).length : Nat) : Int) - 1)) = true := decide_eq_true (by
      rw [List.length_map, List.length_map]; exact congrArg V.int (by omega))
    rw [e] at c; cases c
  have htl : ts.length + 1 = ns.length := by
    have e : V.int (((ps.map V.ref).length : Nat) : Int) = V.int ((((ns.map V.int).length : Nat) : Int) - 1) := Classical.byContradiction fun hc => by
      rw [decide_eq_false hc] at c; exact c rfl
    rw [List.length_map, List.length_map] at e
    have := V.int.inj e
    omega
  refine ⟨_, rfl, b, rfl, ⟨_, SqL.of hb1⟩, ?_⟩
  refine for_list (K := K) (a := b) (xs := ps.map V.ref) (fun i σ' H' => ∃ (v2 : Option V), σ' = [some (.ref a), some (.ref b), v2] ∧ Same H H' ∧ ∀ t ∈ ts.take i, t.1 < t.2 ∧ t.1 ∈ ns ∧ t.2 ∈ ns)
    ⟨none, rfl, Same.refl H, fun t ht => by simp at ht⟩ (fun i σ' H' _ ⟨_, _, s, _⟩ => SqL.of (s _ _ hb1)) ?_ ?_
  · rintro i x σ' H1 hx ⟨v2, rfl, s1, c1⟩
    obtain ⟨p, hp, rfl⟩ := map_get hx
    obtain ⟨t, ht, tp0⟩ := zb.get hp
    have tp := mono_TP _ _ _ _ s1 tp0
    have a1 : IL H1 a ns := s1 _ _ ha
    have stop : ¬ (t.1 < t.2 ∧ t.1 ∈ ns ∧ t.2 ∈ ns) → Q (.bl false) H1 := fun hc => q false H1 s1 (no_tree fun rt => hc (rt.ok t (mem_at ht)))
    refine ⟨_, rfl, _, _, _, _, true, rfl, .ty "tuple", .base (.tup tp), kit_ty (by decide +kernel), true, rfl, ?_⟩
    refine iteF ⟨_, rfl, p, _, rfl, .inr (SqT.of tp), rfl, _, rfl, ?_⟩
    refine iteNS rfl ?_
    refine ⟨_, rfl, p, _, _, _, rfl, rfl, SqT.of tp, rfl, t.1, rfl, true, rfl, ?_⟩
    refine iteF ⟨_, rfl, p, _, _, _, rfl, rfl, SqT.of tp, rfl, t.2, rfl, true, rfl, ?_⟩
    refine iteF ?_
    refine ⟨_, rfl, p, _, _, _, rfl, rfl, SqT.of tp, rfl, _, rfl, p, _, _, _, rfl, rfl, SqT.of tp, rfl, _, _, rfl, rfl, _, rfl, ?_⟩
    refine ite2 (fun c => iteT (stop fun h => ?_)) (fun c => ?_)
    · have := of_decide_eq_true c; omega
    have h1 : t.1 < t.2 := by
      refine Classical.byContradiction fun h => c (decide_eq_true ?_)
      omega
    refine ⟨_, rfl, p, _, _, _, rfl, rfl, SqT.of tp, rfl, _, rfl, a, _, rfl, .inl (SqI a1), rfl, flat_ints _, _, rfl, ?_⟩
    refine if_nin (fun h => iteT (stop fun h' => h h'.2.1)) (fun h2 => ?_)
    refine ⟨_, rfl, p, _, _, _, rfl, rfl, SqT.of tp, rfl, _, rfl, a, _, rfl, .inl (SqI a1), rfl, flat_ints _, _, rfl, ?_⟩
    refine if_nin (fun h => stop fun h' => h h'.2.2) (fun h3 => ?_)
    refine ⟨_, rfl, s1, fun u hu => ?_⟩
    rw [take_succ ht] at hu
    rcases List.mem_append.mp hu with e | e
    · exact c1 u e
    · rw [List.mem_singleton.mp e]; exact ⟨h1, h2, h3⟩
  · rintro σ' H1 ⟨v2, rfl, s1, c1⟩
    rw [List.length_map, lps, List.take_length] at c1
    have b1 := mono_TL _ _ _ _ s1 hb
    refine ⟨_, rfl, ?_⟩
    refine rd_ssetV (B := 2 ^ 40) rfl b1 (by omega) (fun t ht => ⟨nm.bd _ (c1 t ht).2.1, nm.bd _ (c1 t ht).2.2⟩) (fun p H3 s3 t3 => ?_)
    refine rd_eqD enc_T (by decide) (dp_T (mono_TL _ _ _ _ s3 b1)) (dp_T t3) ?_
    refine ⟨_, rfl, ite2 (fun c => ?_) (fun c => ?_)⟩
    · have e := of_decide_eq_true c
      have hs : SrtT ts := by rw [e]; exact sset_srt _
      refine ⟨_, rfl, _, rfl, b, a, ts, ns, rfl, mono_TL _ _ _ _ s3 b1, s3 _ _ (s1 _ _ ha), hl.1, nm.ris.nd, by omega, by omega, fun k H4 s4 hk => ?_⟩
      refine q k H4 ((s1.trans s3).trans s4) ⟨fun e => ⟨htl, c1, hs, hk.mp e⟩, fun rt => hk.mpr rt.conn⟩
    · exact q false H3 (s1.trans s3) (no_tree fun rt => c (decide_eq_true (sset_self rt.srt).symm))
end
end G46
set_option maxHeartbeats 4000000
namespace G46
open PySem PySem.Spec PyProof.Rows L2
theorem sortedI_eq {a b : List Int} (ha : a.Pairwise (· ≤ ·)) (hb : b.Pairwise (· ≤ ·)) (h : a.Perm b) : a = b :=
  sorted_perm (lt := fun x y => decide (x < y)) (fun a b h1 h2 => by simp only [decide_eq_false_iff_not] at h1 h2; omega) (ha.imp fun {x y} q => by simp only [decide_eq_false_iff_not]; omega) (hb.imp fun {x y} q => by simp only [decide_eq_false_iff_not]; omega) h
theorem Ris.le {l : List Int} (h : Ris l) : l.Pairwise (· ≤ ·) := h.imp fun {a b} q => by omega
/-- the folk of the law -/
structure Flk (ns : List Int) (rs : List (List Int)) : Prop where
  nm : Nms ns
  hands : 1 ≤ rs.length ∧ rs.length ≤ 20
  perm : ∀ r ∈ rs, r.Perm ns
theorem Flk.folk {ns : List Int} {rs : List (List Int)} (F : Flk ns rs) : Folk ns rs := ⟨F.nm.ris, fun x hx => (F.nm.bd x hx).1, F.nm.len, F.hands, F.perm⟩
theorem Flk.nd {ns : List Int} {rs : List (List Int)} (F : Flk ns rs) {r : List Int} (hr : r ∈ rs) : r.Nodup := (F.perm r hr).nodup_iff.mpr F.nm.ris.nd
theorem Flk.rl {ns : List Int} {rs : List (List Int)} (F : Flk ns rs) {r : List Int} (hr : r ∈ rs) : r.length = ns.length := (F.perm r hr).length_eq
theorem Flk.nn {ns : List Int} {rs : List (List Int)} (F : Flk ns rs) {r : List Int} (hr : r ∈ rs) : ∀ x ∈ r, 0 ≤ x := fun x hx => (F.nm.bd x ((F.perm r hr).mem_iff.mp hx)).1
section
variable {P : Program} {w : World} {K : PySem.W.Frag} {mg : Str → Option Value} {base : Heap}
def spUnlike : Sp := fun vs H Q _ => ∃ (a : Addr) (r : List Int), vs = [.ref a] ∧ IL H a r ∧ r.Nodup ∧ r.length < 64 ∧ (∀ x ∈ r, 0 ≤ x) ∧ ∀ H', Same H H' → Q (.bl true) H'
theorem sc_are_unlike_names : FnScope ["thing", "name"] ["thing"] (defScope s_are_unlike_names) := ⟨rfl, rfl, rfl, by decide +kernel, rfl, by decide +kernel, by decide +kernel⟩
theorem has_are_unlike_names (T : Tx w K mg) (h_is_number : Has P w K mg base CX0 1 "is_number" ["thing"] spInt) : Has P w K mg base CX0 2 "are_unlike_names" ["thing"] spUnlike := by
  obtain ⟨f_is_number, fd_is_number, G_is_number, M_is_number, K_is_number, B_is_number⟩ := h_is_number
  refine T.mk0 1 d_are_unlike_names rfl rfl rfl rfl rfl sc_are_unlike_names (fun vs H Q E h => ?_) (fun _ _ _ _ _ _ us hl => match us, hl with | [_], _ => rfl) (fun f cdv A outer s H vs Q E hr h => ?_)
  · obtain ⟨a, r, rfl, _⟩ := h; rfl
  refine ⟨_, (pss_cons (ps_if (PW.pt (pw_or (pt_not (pt_val (pe_callB call_isi (by rfl) (T.free 64) (by decide +kernel) (pa_cons (pv 0) (pa_cons (pe_bltn (v := .ty "list") (by rfl) (T.free 67) (by decide +kernel) rfl) pa_nil))))) (pw_or1 (pt_not (pt_val (pe_callB (cr_all rfl) (by rfl) (T.free 71) (by decide +kernel) (pa_cons (pe_lc (own := [("name", 1)]) rfl sc_are_unlike_names.nd (pi_list (pv 0)) (blkOk_by (own := [("name", 1)]) (N := ["thing", "name"]) (sc := (defScope s_are_unlike_names)) (by decide +kernel)) (fun _ _ _ _ _ => (pg_name (i := 1) sc_are_unlike_names.nd rfl (Or.inl rfl))) (fun _ _ _ _ _ => pts_nil) (fun _ _ _ _ _ => (pe_and (pe_call G_is_number (hr.mono (by decide)) rfl M_is_number K_is_number B_is_number .nil pass0 (pa_cons (pv 1) pa_nil)) (pe_one (pe_cmpR op_ge (pv 1) pe_int (nomark _)))))) pa_nil)))))))
    (pss_one (ps_ret pe_bl))
    pss_nil)
    (pss_one (ps_ret (pe_cmpR op_eq (pe_lenSetI rfl (by rfl) (T.free 69) (by rfl) (T.free 70) (pv 0)) (pe_callB call_len_seq (by rfl) (T.free 69) (by decide +kernel) (pa_cons (pv 0) pa_nil)) (nomark _))))), ?_⟩
  obtain ⟨a, r, rfl, ha, hnd, hl, hnn, q⟩ := h
  refine ⟨_, rfl, _, _, _, _, true, rfl, .ty "list", .base (.lst ha), kit_ty (by decide +kernel), true, rfl, ?_⟩
  refine iteF ⟨_, rfl, a, rfl, ⟨_, SqI ha⟩, fun D hD => ?_⟩
  refine lc_fm hD (fun _ => some (.bl true)) (SqI ha) (by rw [List.length_map]; omega) (fun x H1 Y N hx s hY hN => ?_) (fun H2 s2 l2 => ?_)
  · obtain ⟨z, hz, rfl⟩ := List.mem_map.mp hx
    refine ⟨rfl, yes ⟨_, rfl, z, rfl, true, rfl, iteT ⟨_, rfl, _, _, rfl, rfl, ?_⟩⟩⟩
    show Y (.bl (decide (0 ≤ z))) H1
    rw [decide_eq_true (hnn z hz)]
    exact hY _ _ rfl (Same.refl _)
  · rw [filterMap_all (fun _ _ => rfl), rep_bls] at l2
    refine ⟨D, _, rfl, SqL.of l2, _, rfl, ?_⟩
    rw [rep_all]
    refine iteF ⟨_, rfl, a, r, rfl, SqI (s2 _ _ ha), hl, hnd, _, rfl, a, _, rfl, .inl (SqI (s2 _ _ ha)), rfl, ?_⟩
    rw [List.length_map, decide_eq_true rfl]
    exact q H2 s2
def spRank : Sp := fun vs H Q _ => ∃ (a : Addr) (r : List Int), vs = [.ref a] ∧ IL H a r ∧ r.Nodup ∧ 1 ≤ r.length ∧ r.length ≤ 10 ∧ (∀ x ∈ r, 0 ≤ x) ∧ ∀ H', Same H H' → Q (.bl true) H'
theorem sc_is_ranking : FnScope ["thing"] ["thing"] (defScope s_is_ranking) := ⟨rfl, rfl, rfl, by decide +kernel, rfl, by decide +kernel, by decide +kernel⟩
theorem has_is_ranking (T : Tx w K mg) (h_are_unlike_names : Has P w K mg base CX0 2 "are_unlike_names" ["thing"] spUnlike) : Has P w K mg base CX0 3 "is_ranking" ["thing"] spRank := by
  obtain ⟨f_are_unlike_names, fd_are_unlike_names, G_are_unlike_names, M_are_unlike_names, K_are_unlike_names, B_are_unlike_names⟩ := h_are_unlike_names
  obtain ⟨tk1, m_MOST_NAMES⟩ := T.int 80 (x := "MOST_NAMES") (n := 10)
  refine T.mk0 2 d_is_ranking rfl rfl rfl rfl rfl sc_is_ranking (fun vs H Q E h => ?_) (fun _ _ _ _ _ _ us hl => match us, hl with | [_], _ => rfl) (fun f cdv A outer s H vs Q E hr h => ?_)
  · obtain ⟨a, r, rfl, _⟩ := h; rfl
  refine ⟨_, (pss_one (ps_ret (pe_and (pe_call G_are_unlike_names (hr.mono (by decide)) rfl M_are_unlike_names K_are_unlike_names B_are_unlike_names .nil pass0 (pa_cons (pv 0) pa_nil)) (pe_and (pe_cmpR op_gt (pe_callB call_len_seq (by rfl) (T.free 69) (by decide +kernel) (pa_cons (pv 0) pa_nil)) pe_int (nomark _)) (pe_one (pe_cmpR op_le (pe_callB call_len_seq (by rfl) (T.free 69) (by decide +kernel) (pa_cons (pv 0) pa_nil)) (pe_glob (v := .int 10) rfl m_MOST_NAMES ⟨_, rfl⟩) (nomark _))))))), ?_⟩
  obtain ⟨a, r, rfl, ha, hnd, h1, h2, hnn, q⟩ := h
  refine ⟨_, rfl, a, r, rfl, ha, hnd, by omega, hnn, fun H1 s1 => ⟨true, rfl, iteT ?_⟩⟩
  refine ⟨_, rfl, a, _, rfl, .inl (SqI (s1 _ _ ha)), _, _, rfl, rfl, true, ?_, iteT ?_⟩
  · rw [List.length_map]; exact congrArg V.bl (decide_eq_true (by omega))
  refine ⟨_, rfl, a, _, rfl, .inl (SqI (s1 _ _ ha)), _, _, rfl, rfl, ?_⟩
  have e10 : decide ((((r.map V.int).length : Nat) : Int) ≤ 10) = true := decide_eq_true (by rw [List.length_map]; omega)
  show Q (.bl (decide ((((r.map V.int).length : Nat) : Int) ≤ 10))) H1
  rw [e10]
  exact q H1 s1
def spIsFolk : Sp := fun vs H Q _ => ∃ (f : Addr) (ns : List Int) (rs : List (List Int)), vs = [.ref f] ∧ FL H f rs ∧ Flk ns rs ∧ ∀ H', Same H H' → Q (.bl true) H'
theorem sc_is_folk : FnScope ["thing", "ranking"] ["thing"] (defScope s_is_folk) := ⟨rfl, rfl, rfl, by decide +kernel, rfl, by decide +kernel, by decide +kernel⟩
theorem has_is_folk (T : Tx w K mg) (h_is_ranking : Has P w K mg base CX0 3 "is_ranking" ["thing"] spRank) : Has P w K mg base CX0 4 "is_folk" ["thing"] spIsFolk := by
  obtain ⟨f_is_ranking, fd_is_ranking, G_is_ranking, M_is_ranking, K_is_ranking, B_is_ranking⟩ := h_is_ranking
  obtain ⟨tk1, m_MOST_HANDS⟩ := T.int 81 (x := "MOST_HANDS") (n := 20)
  refine T.mk0 3 d_is_folk rfl rfl rfl rfl rfl sc_is_folk (fun vs H Q E h => ?_) (fun _ _ _ _ _ _ us hl => match us, hl with | [_], _ => rfl) (fun f cdv A outer s H vs Q E hr h => ?_)
  · obtain ⟨f, ns, rs, rfl, _⟩ := h; rfl
  refine ⟨_, (pss_cons (ps_if (PW.pt (pw_or (pt_not (pt_val (pe_callB call_isi (by rfl) (T.free 64) (by decide +kernel) (pa_cons (pv 0) (pa_cons (pe_bltn (v := .ty "list") (by rfl) (T.free 67) (by decide +kernel) rfl) pa_nil))))) (pw_or (pt_cmpR op_lt (pe_callB call_len_seq (by rfl) (T.free 69) (by decide +kernel) (pa_cons (pv 0) pa_nil)) pe_int (nomark _)) (pw_or1 (pt_cmpR op_gt (pe_callB call_len_seq (by rfl) (T.free 69) (by decide +kernel) (pa_cons (pv 0) pa_nil)) (pe_glob (v := .int 20) rfl m_MOST_HANDS ⟨_, rfl⟩) (nomark _))))))
    (pss_one (ps_ret pe_bl))
    pss_nil)
    (pss_cons (ps_if (pt_not (pt_val (pe_callB (cr_all rfl) (by rfl) (T.free 71) (by decide +kernel) (pa_cons (pe_lc (own := [("ranking", 1)]) rfl sc_is_folk.nd (pi_list (pv 0)) (blkOk_by (own := [("ranking", 1)]) (N := ["thing", "ranking"]) (sc := (defScope s_is_folk)) (by decide +kernel)) (fun _ _ _ _ _ => (pg_name (i := 1) sc_is_folk.nd rfl (Or.inl rfl))) (fun _ _ _ _ _ => pts_nil) (fun _ _ _ _ _ => (pe_call G_is_ranking (hr.mono (by decide)) rfl M_is_ranking K_is_ranking B_is_ranking .nil pass0 (pa_cons (pv 1) pa_nil)))) pa_nil))))
    (pss_one (ps_ret pe_bl))
    pss_nil)
    (pss_one (ps_ret (pe_callB (cr_all rfl) (by rfl) (T.free 71) (by decide +kernel) (pa_cons (pe_lc (own := [("ranking", 1)]) (te := (tOp (rEqD K) (tCB (rSortedI K) (tCons (tVar 1) tNil)) (tCB (rSortedI K) (tCons (tOp (rIxL K) (tVar 0) (tC (.int 0))) tNil)))) rfl sc_is_folk.nd (pi_list (pv 0)) (blkOk_by (own := [("ranking", 1)]) (N := ["thing", "ranking"]) (sc := (defScope s_is_folk)) (by decide +kernel)) (fun _ _ _ _ _ => (pg_name (i := 1) sc_is_folk.nd rfl (Or.inl rfl))) (fun _ _ _ _ _ => pts_nil) (fun _ _ _ _ _ => (pe_cmpR (op_eqD hr.units) (pe_callB cr_sortedI (by rfl) (T.free 72) (by decide +kernel) (pa_cons (pv 1) pa_nil)) (pe_callB cr_sortedI (by rfl) (T.free 72) (by decide +kernel) (pa_cons (pe_ix ix_list (pv 0) pe_int (fun _ _ => rfl)) pa_nil)) (nomark _)))) pa_nil)))))), ?_⟩
  obtain ⟨g, ns, rs, rfl, hf, F, q⟩ := h
  obtain ⟨ps, hf1, zf⟩ := id hf
  have lps : ps.length = rs.length := zf.len
  have hh := F.hands
  refine ⟨_, rfl, _, _, _, _, true, rfl, .ty "list", .base (.lst hf1), kit_ty (by decide +kernel), true, rfl, ?_⟩
  refine iteF ⟨_, rfl, g, _, rfl, .inl (SqL.of hf1), _, _, rfl, rfl, _, rfl, ?_⟩
  refine ite2 (fun c => ?_) (fun _ => ?_)
  · have := of_decide_eq_true c
    rw [List.length_map] at this; omega
  refine ⟨_, rfl, g, _, rfl, .inl (SqL.of hf1), _, _, rfl, rfl, _, rfl, ?_⟩
  refine ite2 (fun c => ?_) (fun _ => ?_)
  · have := of_decide_eq_true c
    rw [List.length_map] at this; omega
  refine ⟨_, rfl, g, rfl, ⟨_, SqL.of hf1⟩, fun D hD => ?_⟩
  refine lc_fm hD (fun _ => some (.bl true)) (SqL.of hf1) (by rw [List.length_map]; omega) (fun x H1 Y N hx s hY hN => ?_) (fun H2 s2 l2 => ?_)
  · obtain ⟨p, hp, rfl⟩ := List.mem_map.mp hx
    obtain ⟨i, hi⟩ := List.getElem?_of_mem hp
    obtain ⟨r, hr, rp⟩ := zf.get hi
    have hrm := mem_at hr
    have hrl := F.rl hrm
    have hl := F.nm.len
    refine ⟨rfl, yes ⟨_, rfl, p, r, rfl, s _ _ rp, F.nd hrm, by omega, by omega, F.nn hrm, fun H2 s2 => hY _ _ rfl s2⟩⟩
  · rw [filterMap_all (fun _ _ => rfl), rep_bls] at l2
    refine ⟨D, _, rfl, SqL.of l2, _, rfl, ?_⟩
    rw [rep_all]
    refine iteF ⟨_, rfl, g, rfl, ⟨_, SqL.of (s2 _ _ hf1)⟩, fun D2 hD2 => ?_⟩
    refine lc_fm hD2 (fun _ => some (.bl true)) (SqL.of (s2 _ _ hf1)) (by rw [List.length_map]; omega) (fun x H3 Y N hx s hY hN => ?_) (fun H4 s4 l4 => ?_)
    · obtain ⟨p, hp, rfl⟩ := List.mem_map.mp hx
      obtain ⟨i, hi⟩ := List.getElem?_of_mem hp
      obtain ⟨r, hr, rp⟩ := zf.get hi
      have s3 := s2.trans s
      have h0 : 0 < ps.length := by omega
      have e0 : ps[0]? = some ps[0] := List.getElem?_eq_getElem h0
      obtain ⟨r0, hr0, rp0⟩ := zf.get e0
      refine ⟨rfl, yes ?_⟩
      refine ⟨_, rfl, p, r, rfl, SqI (s3 _ _ rp), fun n1 d1 pm1 so1 hd1 => ?_⟩
      have k1 := same_new hd1 (.lst (n1.map V.int))
      refine ⟨_, rfl, g, _, 0, _, rfl, rfl, SqL.of (k1 _ _ (s3 _ _ hf1)), at_of (j := 0) rfl (by rw [List.getElem?_map, e0]; rfl), ?_⟩
      refine ⟨_, r0, rfl, SqI (k1 _ _ (s3 _ _ rp0)), fun n2 d2 pm2 so2 hd2 => ?_⟩
      have k2 := same_new hd2 (.lst (n2.map V.int))
      have e : n1 = n2 := sortedI_eq so1 so2 (pm1.trans ((F.perm r (mem_at hr)).trans ((F.perm r0 (mem_at hr0)).symm.trans pm2.symm)))
      refine rd_eqD enc_I (by decide) (x := n1) (y := n2) (dp_I (k2 _ _ upd_same)) (dp_I upd_same) ?_
      rw [decide_eq_true e]
      exact hY _ _ rfl (k1.trans k2)
    · rw [filterMap_all (fun _ _ => rfl), rep_bls] at l4
      refine ⟨D2, _, rfl, SqL.of l4, ?_⟩
      rw [rep_all]
      exact q H4 (s2.trans s4)
def spMustFolk : Sp := fun vs H Q _ => ∃ (f : Addr) (ns : List Int) (rs : List (List Int)), vs = [.ref f] ∧ FL H f rs ∧ Flk ns rs ∧ ∀ H', Same H H' → Q .non H'
theorem sc_must_be_folk : FnScope ["folk"] ["folk"] (defScope s_must_be_folk) := ⟨rfl, rfl, rfl, by decide +kernel, rfl, by decide +kernel, by decide +kernel⟩
theorem has_must_be_folk (T : Tx w K mg) (h_is_folk : Has P w K mg base CX0 4 "is_folk" ["thing"] spIsFolk) : Has P w K mg base CX0 5 "must_be_folk" ["folk"] spMustFolk := by
  obtain ⟨f_is_folk, fd_is_folk, G_is_folk, M_is_folk, K_is_folk, B_is_folk⟩ := h_is_folk
  refine T.mk0 4 d_must_be_folk rfl rfl rfl rfl rfl sc_must_be_folk (fun vs H Q E h => ?_) (fun _ _ _ _ _ _ us hl => match us, hl with | [_], _ => rfl) (fun f cdv A outer s H vs Q E hr h => ?_)
  · obtain ⟨f, ns, rs, rfl, _⟩ := h; rfl
  refine ⟨_, (pss_one (ps_if (pt_not (pt_val (pe_call G_is_folk (hr.mono (by decide)) rfl M_is_folk K_is_folk B_is_folk .nil pass0 (pa_cons (pv 0) pa_nil))))
    (pss_one ps_never)
    pss_nil)), ?_⟩
  obtain ⟨g, ns, rs, rfl, hf, F, q⟩ := h
  exact ⟨_, rfl, g, ns, rs, rfl, hf, F, fun H' s => ⟨true, rfl, iteF (q H' s)⟩⟩
theorem sorted_names {ns : List Int} {rs : List (List Int)} (F : Flk ns rs) {r : List Int} (hr : r ∈ rs) {n1 : List Int} (pm : n1.Perm r) (so : n1.Pairwise (· ≤ ·)) : n1 = ns :=
  sortedI_eq so F.nm.ris.le (pm.trans (F.perm r hr))
def spNamesBy : Sp := fun vs H Q _ => ∃ (f : Addr) (ns : List Int) (rs : List (List Int)), vs = [.ref f] ∧ FL H f rs ∧ Flk ns rs ∧ ∀ p H', Same H H' → IL H' p ns → Q (.ref p) H'
/-- sorted(folk[0]) -/
theorem rd_names {H : Hp} {σ : L2.St} {i : Nat} {g : Addr} {ns : List Int} {rs : List (List Int)} {Q : VK} (hσ : σ[i]? = some (some (.ref g))) (hf : FL H g rs) (F : Flk ns rs) (q : ∀ p H', H p = none → Same H H' → IL H' p ns → Q (.ref p) H') :
    tCB (rSortedI K) (tCons (tOp (rIxL K) (tVar i) (tC (.int 0))) tNil) σ H Q := by
  obtain ⟨ps, hf1, zf⟩ := hf
  have lps : ps.length = rs.length := zf.len
  have hh := F.hands
  have h0 : 0 < ps.length := by omega
  have e0 : ps[0]? = some ps[0] := List.getElem?_eq_getElem h0
  obtain ⟨r0, hr0, rp0⟩ := zf.get e0
  refine ⟨_, hσ, g, _, 0, _, rfl, rfl, SqL.of hf1, at_of (j := 0) rfl (by rw [List.getElem?_map, e0]; rfl), ?_⟩
  refine ⟨_, r0, rfl, SqI rp0, fun n2 d2 pm2 so2 hd2 => ?_⟩
  refine q d2 _ hd2 (same_new hd2 _) ?_
  show upd H d2 _ d2 = _
  rw [upd_same, sorted_names F (mem_at hr0) pm2 so2]
theorem sc_names_by : FnScope ["folk"] ["folk"] (defScope s_names_by) := ⟨rfl, rfl, rfl, by decide +kernel, rfl, by decide +kernel, by decide +kernel⟩
theorem has_names_by (T : Tx w K mg) (h_must_be_folk : Has P w K mg base CX0 5 "must_be_folk" ["folk"] spMustFolk) : Has P w K mg base CX0 6 "names_by" ["folk"] spNamesBy := by
  obtain ⟨f_must_be_folk, fd_must_be_folk, G_must_be_folk, M_must_be_folk, K_must_be_folk, B_must_be_folk⟩ := h_must_be_folk
  refine T.mk0 10 d_names_by rfl rfl rfl rfl rfl sc_names_by (fun vs H Q E h => ?_) (fun _ _ _ _ _ _ us hl => match us, hl with | [_], _ => rfl) (fun f cdv A outer s H vs Q E hr h => ?_)
  · obtain ⟨f, ns, rs, rfl, _⟩ := h; rfl
  refine ⟨_, (pss_cons (ps_expr (pe_call G_must_be_folk (hr.mono (by decide)) rfl M_must_be_folk K_must_be_folk B_must_be_folk .nil pass0 (pa_cons (pv 0) pa_nil)))
    (pss_one (ps_ret (pe_callB cr_sortedI (by rfl) (T.free 72) (by decide +kernel) (pa_cons (pe_ix ix_list (pv 0) pe_int (fun _ _ => rfl)) pa_nil))))), ?_⟩
  obtain ⟨g, ns, rs, rfl, hf, F, q⟩ := h
  refine ⟨_, rfl, g, ns, rs, rfl, hf, F, fun H1 s1 => ?_⟩
  exact rd_names rfl (mono_FL _ _ _ _ s1 hf) F fun p H2 _ s2 l2 => q p H2 (s1.trans s2) l2
def spWrong : Sp := fun vs H Q _ => ∃ (f a b : Addr) (ns : List Int) (rs : List (List Int)) (ts : Ties), vs = [.ref f, .ref a, .ref b] ∧ FL H f rs ∧ IL H a ns ∧ TL H b ts ∧ Flk ns rs ∧ RTree ns ts ∧
  ∀ v H', Same H H' → ((v = .non ∧ ∀ r ∈ rs, Falls ts r) ∨ ((∃ p, v = .ref p) ∧ ¬ ∀ r ∈ rs, Falls ts r)) → Q v H'
theorem sc_tree_wrong : FnScope ["folk", "names", "thing", "hand", "ranking"] ["folk", "names", "thing"] (defScope s_tree_wrong) := ⟨rfl, rfl, rfl, by decide +kernel, rfl, by decide +kernel, by decide +kernel⟩
theorem has_tree_wrong (T : Tx w K mg) (h_is_right_tree : Has P w K mg base CX0 3 "is_right_tree" ["names", "thing"] spRight) (h_apart_at : Has P w K mg base CX0 3 "apart_at" ["tree", "ranking"] spApart) : Has P w K mg base CX0 4 "tree_wrong" ["folk", "names", "thing"] spWrong := by
  obtain ⟨f_is_right_tree, fd_is_right_tree, G_is_right_tree, M_is_right_tree, K_is_right_tree, B_is_right_tree⟩ := h_is_right_tree
  obtain ⟨f_apart_at, fd_apart_at, G_apart_at, M_apart_at, K_apart_at, B_apart_at⟩ := h_apart_at
  refine T.mk0 17 d_tree_wrong rfl rfl rfl rfl rfl sc_tree_wrong (fun vs H Q E h => ?_) (fun _ _ _ _ _ _ us hl => match us, hl with | [_, _, _], _ => rfl) (fun f cdv A outer s H vs Q E hr h => ?_)
  · obtain ⟨f, a, b, ns, rs, ts, rfl, _⟩ := h; rfl
  refine ⟨_, (pss_cons (ps_if (pt_not (pt_val (pe_call G_is_right_tree (hr.mono (by decide)) rfl M_is_right_tree K_is_right_tree B_is_right_tree .nil pass0 (pa_cons (pv 1) (pa_cons (pv 2) pa_nil)))))
    (pss_one (ps_ret (pe_tup (pa_cons pe_str pa_nil))))
    pss_nil)
    (pss_cons (ps_for PassesOwn.never rfl (pi_enum (by rfl) (T.free 74) (pa_cons (pv 0) pa_nil)) (pg_tup rfl (pgs_cons (pg_name (i := 3) sc_tree_wrong.nd rfl (Or.inl rfl)) (pgs_cons (pg_name (i := 4) sc_tree_wrong.nd rfl (Or.inl rfl)) pgs_nil)))
    (pss_one (ps_if (pt_cmpR op_notN (pe_call G_apart_at (hr.mono (by decide)) rfl M_apart_at K_apart_at B_apart_at .nil pass0 (pa_cons (pv 2) (pa_cons (pv 4) pa_nil))) pe_non (nomark _))
    (pss_one (ps_ret (pe_tup (pa_cons pe_str (pa_cons (pv 3) pa_nil)))))
    pss_nil)))
    (pss_one (ps_ret pe_non)))), ?_⟩
  obtain ⟨g, a, b, ns, rs, ts, rfl, hf, ha, hb, F, rt, q⟩ := h
  obtain ⟨ps, hf1, zf⟩ := id hf
  have lps : ps.length = rs.length := zf.len
  have hl := F.nm.len
  have htl := rt.len
  refine ⟨_, rfl, _, rfl, a, b, ns, ts, rfl, ha, hb, F.nm, rt, fun H1 s1 => ⟨true, rfl, iteF ?_⟩⟩
  refine ⟨_, rfl, g, _, rfl, SqL.of (s1 _ _ hf1), ?_⟩
  refine for_it (walk_enum (K := K) (a := g) (xs := ps.map V.ref)) (fun i σ' H' => ∃ (v3 v4 : Option V), σ' = [some (.ref g), some (.ref a), some (.ref b), v3, v4] ∧ Same H H' ∧ ∀ r ∈ rs.take i, Falls ts r)
    ⟨none, none, rfl, s1, fun r hr => by simp at hr⟩ (fun i σ' H' _ ⟨_, _, _, s, _⟩ => SqL.of (s _ _ hf1)) ?_ ?_
  · rintro i y σ' H2 H3 hi ⟨v3, v4, rfl, s2, c2⟩ ⟨tp, x0, x1, rfl, htp, rfl, e1, e2⟩
    have e1' : V.int (i : Int) = x0 := Option.some.inj e1
    subst e1'
    obtain ⟨p, hp, rfl⟩ := map_get e2
    obtain ⟨r, hr, rp⟩ := zf.get hp
    have hrm := mem_at hr
    have hrl := F.rl hrm
    have s3 := s2.trans (same_new htp (.tup [.int (i : Int), .ref p]))
    refine ⟨tp, _, rfl, SqT.of upd_same, rfl, _, _, rfl, _, _, rfl, rfl, ?_⟩
    refine ⟨_, rfl, _, rfl, b, p, ts, r, rfl, mono_TL _ _ _ _ s3 hb, s3 _ _ rp, F.nd hrm, by omega, by omega, fun v H4 s4 hv => ?_⟩
    refine ⟨rfl, _, rfl, ?_⟩
    rcases hv with ⟨rfl, hv⟩ | ⟨⟨k, rfl⟩, hv⟩
    · refine iteNS rfl ⟨_, _, rfl, s3.trans s4, fun u hu => ?_⟩
      rw [take_succ hr] at hu
      rcases List.mem_append.mp hu with e | e
      · exact c2 u e
      · rw [List.mem_singleton.mp e]; exact hv
    · have en : (!decide (V.int k = V.non)) = true := by simp
      rw [en]
      refine iteT ⟨_, rfl, (by show 2 ≤ sizeLine; decide), fun pp hpp => ?_⟩
      refine q _ _ ((s3.trans s4).trans (same_new hpp _)) (.inr ⟨⟨_, rfl⟩, fun all => hv (all r hrm)⟩)
  · rintro σ' H2 ⟨v3, v4, rfl, s2, c2⟩
    rw [List.length_map, lps, List.take_length] at c2
    exact q _ H2 s2 (.inl ⟨rfl, c2⟩)
/-- all fall on a tree, or the tree is none -/
def spLRight : Sp := fun vs H Q _ => ∃ (f b : Addr) (ns : List Int) (rs : List (List Int)) (ts : Ties), vs = [.ref f, .ref b] ∧ FL H f rs ∧ TL H b ts ∧ Flk ns rs ∧ ∀ (k : Bool) H', Same H H' → (k = true ↔ RTree ns ts ∧ ∀ r ∈ rs, Falls ts r) → Q (.bl k) H'
theorem fm_none {α β : Type} {f : α → Option β} : ∀ {l : List α}, l.filterMap f = [] ↔ ∀ x ∈ l, f x = none
  | [] => by simp
  | a :: l => by
    rw [List.filterMap_cons]
    cases e : f a with
    | none =>
      rw [fm_none (l := l)]
      simp [e]
    | some y => simp [e]
open Classical in
/-- a ranking that does not fall stays -/
noncomputable def apF (H : Hp) (ts : Ties) (x : V) : Option V := if ∃ p r, x = .ref p ∧ IL H p r ∧ ¬ Falls ts r then some x else none
theorem il_inj {H : Hp} {p : Addr} {r r' : List Int} (h : IL H p r) (h' : IL H p r') : r = r' := by
  have e0 : some (HO.lst (r.map V.int)) = some (HO.lst (r'.map V.int)) := (show H p = _ from h).symm.trans h'
  have e : r.map V.int = r'.map V.int := HO.lst.inj (Option.some.inj e0)
  exact (List.map_inj_right fun a b => V.int.inj).mp e
theorem apF_yes {H : Hp} {ts : Ties} {p : Addr} {r : List Int} (h : IL H p r) (hf : ¬ Falls ts r) : apF H ts (.ref p) = some (.ref p) := if_pos ⟨p, r, rfl, h, hf⟩
theorem apF_no {H : Hp} {ts : Ties} {p : Addr} {r : List Int} (h : IL H p r) (hf : Falls ts r) : apF H ts (.ref p) = none := if_neg fun ⟨p', r', e, h', hn⟩ => by
  have e' := V.ref.inj e
  subst e'
  rw [il_inj h' h] at hn
  exact hn hf
theorem apF_list {H : Hp} {ts : Ties} : ∀ {ps : List Addr} {rs : List (List Int)}, Zp (IL H) ps rs → ∃ (qs : List Addr) (us : List (List Int)), (ps.map V.ref).filterMap (apF H ts) = qs.map V.ref ∧ Zp (IL H) qs us ∧ (us = [] ↔ ∀ r ∈ rs, Falls ts r)
  | [], [], _ => ⟨[], [], rfl, trivial, by simp⟩
  | p :: ps, r :: rs, z => by
    obtain ⟨qs, us, e, z', h⟩ := apF_list z.2
    by_cases c : Falls ts r
    · refine ⟨qs, us, ?_, z', ?_⟩
      · rw [List.map_cons, List.filterMap_cons, apF_no z.1 c]; exact e
      · rw [h]; simp [c]
    · refine ⟨p :: qs, r :: us, ?_, ⟨z.1, z'⟩, ?_⟩
      · rw [List.map_cons, List.filterMap_cons, apF_yes z.1 c]
        show V.ref p :: _ = _
        rw [e]; rfl
      · constructor
        · intro q; cases q
        · intro q; exact absurd (q r List.mem_cons_self) c
  | [], _ :: _, z => z.elim
  | _ :: _, [], z => z.elim
theorem sc_law_right : FnScope ["_law_folk_here", "_law_tree_here", "_law_ranking"] ["_law_folk_here", "_law_tree_here"] (defScope s_law_right) := ⟨rfl, rfl, rfl, by decide +kernel, rfl, by decide +kernel, by decide +kernel⟩
theorem has_law_right (T : Tx w K mg) (h_law_is_tree : Has P w K mg base CX0 2 "_law_is_tree" ["_law_names_here", "_law_thing"] spIsTree) (h_law_apart : Has P w K mg base CX0 2 "_law_apart" ["_law_tree_here", "_law_ranking"] spApart) : Has P w K mg base CX0 3 "_law_right" ["_law_folk_here", "_law_tree_here"] spLRight := by
  obtain ⟨f_law_is_tree, fd_law_is_tree, G_law_is_tree, M_law_is_tree, K_law_is_tree, B_law_is_tree⟩ := h_law_is_tree
  obtain ⟨f_law_apart, fd_law_apart, G_law_apart, M_law_apart, K_law_apart, B_law_apart⟩ := h_law_apart
  refine T.mk0 41 d_law_right rfl rfl rfl rfl rfl sc_law_right (fun vs H Q E h => ?_) (fun _ _ _ _ _ _ us hl => match us, hl with | [_, _], _ => rfl) (fun f cdv A outer s H vs Q E hr h => ?_)
  · obtain ⟨f, b, ns, rs, ts, rfl, _⟩ := h; rfl
  refine ⟨_, (pss_cons (ps_if (pt_not (pt_val (pe_call G_law_is_tree (hr.mono (by decide)) rfl M_law_is_tree K_law_is_tree B_law_is_tree .nil pass0 (pa_cons (pe_callB cr_sortedI (by rfl) (T.free 72) (by decide +kernel) (pa_cons (pe_ix ix_list (pv 0) pe_int (fun _ _ => rfl)) pa_nil)) (pa_cons (pv 1) pa_nil)))))
    (pss_one (ps_ret pe_bl))
    pss_nil)
    (pss_one (ps_ret (pe_cmpR (op_eqD hr.units) (pe_lc (own := [("_law_ranking", 2)]) rfl sc_law_right.nd (pi_list (pv 0)) (blkOk_by (own := [("_law_ranking", 2)]) (N := ["_law_folk_here", "_law_tree_here", "_law_ranking"]) (sc := (defScope s_law_right)) (by decide +kernel)) (fun _ _ _ _ _ => (pg_name (i := 2) sc_law_right.nd rfl (Or.inl rfl))) (fun _ _ _ _ _ => (pts_one (pt_cmpR op_notN (pe_call G_law_apart (hr.mono (by decide)) rfl M_law_apart K_law_apart B_law_apart .nil pass0 (pa_cons (pv 1) (pa_cons (pv 2) pa_nil))) pe_non (nomark _)))) (fun _ _ _ _ _ => (pv 2))) (pe_lst pa_nil) (nomark _))))), ?_⟩
  obtain ⟨g, b, ns, rs, ts, rfl, hf, hb, F, q⟩ := h
  obtain ⟨ps, hf1, zf⟩ := id hf
  have lps : ps.length = rs.length := zf.len
  have hh := F.hands
  have hl := F.nm.len
  refine rd_names (K := K) rfl hf F fun a H1 ha1 s1 l1 => ?_
  refine ⟨_, rfl, a, b, ns, ts, rfl, l1, mono_TL _ _ _ _ s1 hb, F.nm, fun k H2 s2 hk => ⟨k, rfl, ?_⟩⟩
  have s12 := s1.trans s2
  cases k with
  | false => exact iteT (q false H2 s12 (no_tree fun h => by have := hk.mpr h.1; cases this))
  | true =>
    have rt := hk.mp rfl
    have htl := rt.len
    refine iteF ⟨_, rfl, g, rfl, ⟨_, SqL.of (s12 _ _ hf1)⟩, fun D hD => ?_⟩
    refine lc_fm hD (apF H ts) (SqL.of (s12 _ _ hf1)) (by rw [List.length_map]; omega) (fun x H3 Y N hx s hY hN => ?_) (fun H4 s4 l4 => ?_)
    · obtain ⟨p, hp, rfl⟩ := List.mem_map.mp hx
      obtain ⟨i, hi⟩ := List.getElem?_of_mem hp
      obtain ⟨r, hr, rp⟩ := zf.get hi
      have hrm := mem_at hr
      have hrl := F.rl hrm
      have s3 := s12.trans s
      refine ⟨rfl, _, rfl, _, rfl, b, p, ts, r, rfl, mono_TL _ _ _ _ s3 hb, s3 _ _ rp, F.nd hrm, by omega, by omega, fun v H5 s5 hv => ?_⟩
      refine ⟨rfl, _, rfl, ?_⟩
      rcases hv with ⟨rfl, hv⟩ | ⟨⟨k, rfl⟩, hv⟩
      · exact iteNS rfl (hN _ (apF_no rp hv) s5)
      · have en : (!decide (V.int k = V.non)) = true := by simp
        rw [en]
        exact iteT ⟨_, rfl, hY _ _ (apF_yes rp hv) s5⟩
    · obtain ⟨qs, us, e1, z1, hu⟩ := apF_list (H := H) (ts := ts) zf
      rw [e1] at l4
      refine ⟨(by show 0 ≤ sizeLine; decide), fun e he => ?_⟩
      have s5 := same_new he (.lst [])
      have z5 : Zp (IL (upd H4 e (.lst []))) qs us := z1.imp fun p x _ _ r => s5 _ _ (s4 _ _ (s12 _ _ r))
      refine rd_eqD enc_F (by decide) (x := us) (y := []) (dp_F ⟨qs, s5 _ _ l4, z5⟩) (dp_F ⟨[], upd_same, trivial⟩) ?_
      refine q _ _ ((s12.trans s4).trans s5) ?_
      rw [decide_eq_true_eq, hu]
      exact ⟨fun h => ⟨rt, h⟩, fun h => h.2⟩
end
end G46
set_option maxHeartbeats 6400000
namespace G46
open PySem PySem.Spec PyProof.Rows L2
/-! ### set(xs), xs a list of ints -/
abbrev noSet (w : World) : Obj := { cls := .type "set", dict := none, data := .set #[] 0 (.fresh 0 0 (!w.params.followText "set-order")) }
section
variable {P : Program} {w : World} {A : Around} {E : Value → Shared → Prop} {s : Shared}
theorem call_setLI {q : Addr} {us : Array Value} (ns : List Int) {Q : Value → Shared → Prop} (nh : A.handled = none) (isl : s.heap.IsList q us) (are : IntsAre us.toList ns) (room : ns.length + 1 < scanBound)
    (done : ∀ (g : Heap) (tk c : Nat), SetR w g s.heap.objs.size (fun j => decide (j ∈ ns)) c → c ≤ ns.length → (∀ b o, s.heap.get? b = some o → g.get? b = some o) → Q (.ref s.heap.objs.size) { s with heap := g, toks := tk }) :
    wpAny (model P w) A (call (.type "set") [.ref q]) Q E s := by
  have len : us.size = ns.length := by rw [← IntsAre.length are, Array.length_toList]
  have ⟨_, _, mro⟩ := F.called_set.mro
  have made := F.called_set.made
  have sub := F.called_set.sub
  have no := F.called_set.notType
  have can := F.called_set.canCreate
  have one := F.typeCall_set_1 (.ref q)
  have at1 : (s.heap.push (noSet w)).get? s.heap.objs.size = some (noSet w) := Heap.get?_push_size _ rfl
  have isl1 : (s.heap.push (noSet w)).IsList q us := isl.push _
  have lt : q < s.heap.objs.size := by obtain ⟨o, ho, _⟩ := isl; exact Heap.lt_size ho
  have sz : (s.heap.push (noSet w)).objs.size = s.heap.objs.size + 1 := Heap.size_push ..
  refine wpAny_call (codeAny_of_tree (?_ : wpAny _ _ (callAny (.type "set") _) _ _ _))
  refine wpAny_pure (And.intro (Code.quiet_builtin _ (by decide +kernel)) (codeAny_builtin F.entry_type_call ?_))
  rw [Around.under_plain (weight_type_call_type "set" [.ref q] []) rfl]
  repeat (any_goals (first | assumption | wp_step))
  refine codeAny_mono (code_set_led1 (.ref q) (E := E) (Q₁ := fun x t => x = .ref s.heap.objs.size ∧ t = { s with heap := s.heap.push (noSet w) }) (And.intro rfl rfl)) fun r t hr => ?_
  rcases r with _ | fl
  · exact hr
  rcases fl with x | _ | _ | _
  all_goals try exact hr.elim
  · obtain ⟨ex, et⟩ := hr
    subst ex; subst et
    have ty : Shared.TypeIs { s with heap := s.heap.push (noSet w) } (.ref s.heap.objs.size) "set" := ⟨_, at1, rfl⟩
    have look := F.called_set.init.lookup
    have bound := F.called_set.init.bind (.ref s.heap.objs.size)
    repeat (any_goals (first | assumption | wp_step))
    refine codeAny_mono (codeAny_call_builtin (R := wants (fun r t => r = .none ∧ ∃ g tk c, t = { s with heap := g, toks := tk } ∧ SetR w g s.heap.objs.size (fun j => decide (j ∈ ns)) c ∧ c ≤ ns.length ∧
      (∀ b o, s.heap.get? b = some o → g.get? b = some o)) E) F.called_set.init.plain F.entry_set_init (check_set_init_1 ty ?_)) fun r t hr => ?_
    · obtain ⟨⟨cl, di, da, sl⟩, hol, hcl, nl, hdl⟩ := isl1
      simp only at hcl hdl
      subst hcl; subst hdl
      have s1 := F.sub_list_set
      have s2 := F.sub_list_frozenset
      have nd : (Value.type "list" == Value.type "dict") = false := by decide
      have isl2 : (s.heap.push (noSet w)).IsList q us := isl.push _
      unfold Builtin.«set.__init__» noKeywords Builtin.Frozenset.updateFrom
      generalize hh : pyIter = PI
      wp_walk
      subst hh
      refine wpAny_pyIter_list isl2 (wpAny_bind (wpAny_runValue ?_))
      have nh3 : A.in1.in1.in1.handled = none := by simp [nh]
      have ne1 : q ≠ (s.heap.push (noSet w)).objs.size := by rw [sz]; exact Nat.ne_of_lt (Nat.lt_succ_of_lt lt)
      have ne2 : s.heap.objs.size ∉ [(s.heap.push (noSet w)).objs.size, q] := by
        rw [sz]
        exact fun h => (List.mem_cons.mp h).elim (fun e => Nat.lt_irrefl _ (Nat.lt_of_lt_of_eq (Nat.lt_succ_self _) e.symm)) fun e => Nat.lt_irrefl _ (Nat.lt_of_lt_of_eq lt (List.mem_singleton.mp e))
      refine set_update_ints ((Walks.list nh3 _ q ne1 us).toS) s.heap.objs.size ne2 ns len room (fun i v hv => ?_) us.size 0 _ rfl (Nat.zero_le _) ⟨⟨_, Heap.get?_push_size _ rfl, rfl, rfl⟩, isl2.push _⟩ ?_ fun t c hm hc hS => ?_
      · have hi : i < ns.length := by rw [← len]; exact (Array.getElem?_eq_some_iff.mp hv).1
        have ⟨tk, e⟩ := PyProof.Rows.IntsAre.int_at are i v (by rw [Array.getElem?_toList]; exact hv)
        have e2 : ns[i]? = some ns[i] := List.getElem?_eq_getElem hi
        exact ⟨ns[i], tk, e2, by rw [e, List.getD_eq_getElem?_getD, e2]; rfl⟩
      · exact ⟨0, Nat.le_refl 0, setR_new_at (Heap.get?_push_of_some _ at1)⟩
      · have e : t = { s with heap := t.heap, toks := t.toks } := by
          have e1 := hm.gens
          have e2 := hm.drawn
          have e3 := hm.os
          cases t
          cases e1; cases e2; cases e3
          rfl
        refine wpAny_pure ?_
        show wpAny _ _ (ret Value.none) _ _ _
        refine wpAny_pure ⟨rfl, t.heap, t.toks, c, e, hS, by rw [← len]; exact hc, fun b o hb => ?_⟩
        have hb0 := Heap.lt_size hb
        refine hm.heap b o ?_ (Heap.get?_push_of_some _ (Heap.get?_push_of_some _ hb))
        rw [sz]
        refine fun h => (List.mem_cons.mp h).elim (fun e => Nat.ne_of_lt hb0 e) fun e => ?_
        have e2 := List.mem_singleton.mp e
        exact Nat.ne_of_lt (Nat.lt_succ_of_lt hb0) e2
    · rcases r with _ | fl
      · exact hr
      rcases fl with x | _ | _ | _
      all_goals try exact hr.elim
      · obtain ⟨ex, g, tk, c, et, hS, hc, hk⟩ := hr
        subst ex; subst et
        repeat (any_goals (first | assumption | wp_step))
        exact done g tk c hS hc hk
end
def rSetOfI (K : PySem.W.Frag) (w : World) : List V → Hp → VK → Prop := fun xs H Q => ∃ (l : Addr) (ns : List Int), xs = [V.ref l] ∧ SqL K H l (ns.map V.int) ∧ ns.length < 64 ∧
  ∀ a c, H a = none → c ≤ ns.length → Q (.ref a) (upd H a (SetO w a (fun j => decide (j ∈ ns)) c))
theorem cr_setOfI {X : Cx} (hc : X.calm = true) : CallR X (.type "set") (rSetOfI X.K X.w) := by
  intro pins s σ H xs us Q I r h
  obtain ⟨l, ns, rfl, hl, hf, q⟩ := h
  rw [Vals.ref1 r]
  obtain ⟨its, rv, pl, hz⟩ := I.list hl
  have hn : H s.heap.objs.size = none := I.hok.fresh (Nat.le_refl _)
  refine call_setLI ns (I.ok.hd hc) pl.isList (by simpa using rv.ints) (by unfold scanBound; omega) fun g tk c R hle k => ?_
  exact ⟨.ref _, upd H _ (SetO X.w _ (fun j => decide (j ∈ ns)) c), I.laid (t' := tk) k (Nat.le_refl _) (setO_new R), rfl, q _ c hn hle⟩
/-- sorted(set(xs)) -/
theorem rd_isort {K : PySem.W.Frag} {w : World} {H : Hp} {l : Addr} {ns ms : List Int} {Q : VK} (hl : SqL K H l (ns.map V.int)) (h64 : ns.length < 64) (he : ∀ us : List Int, Ris us → (∀ k, k ∈ us ↔ k ∈ ns) → us = ms)
    (q : ∀ p H', H p = none → Same H H' → IL H' p ms → Q (.ref p) H') : rSetOfI K w [.ref l] H fun x H1 => rSortedSet w [x] H1 Q := by
  refine ⟨l, ns, rfl, hl, h64, fun a c ha hc => ?_⟩
  refine ⟨a, _, c, rfl, upd_same, by omega, fun us p h1 h2 h3 hp => ?_⟩
  have s1 := same_new ha (SetO w a (fun j => decide (j ∈ ns)) c)
  have hpH : H p = none := (Kp.of [] s1).free hp (by simp)
  refine q p _ hpH (s1.trans (same_new hp _)) ?_
  show upd _ p _ p = _
  rw [upd_same, he us h1 fun k => by rw [h2 k, decide_eq_true_eq]]
end G46
set_option maxHeartbeats 4000000
namespace G46
open PySem PySem.Spec PyProof.Rows L2
theorem rd_idx {K : PySem.W.Frag} {H : Hp} {a : Addr} {ns : List Int} {x : Int} {Q : VK} (ha : SqL K H a (ns.map V.int)) (hx : x ∈ ns) (q : Q (.int ((ns.idxOf x : Nat) : Int)) H) : rIndex K (.ref a) [.int x] H Q := by
  have hlt : ns.idxOf x < ns.length := List.idxOf_lt_length_of_mem hx
  have e : ns[ns.idxOf x]? = some x := by rw [List.getElem?_eq_getElem hlt, List.getElem_idxOf]
  refine ⟨a, _, _, ns.idxOf x, .int x, rfl, rfl, ha, rfl, flat_ints _, by rw [List.getElem?_map, e]; rfl, ?_, fun m z' hm hz => ?_, q⟩
  · show decide _ = true
    simp
  · obtain ⟨y, hy, rfl⟩ := map_get hz
    have hne : y ≠ x := fun ex => by
      subst ex
      have h3 := List.getElem?_eq_some_iff.mp hy
      obtain ⟨h4, h5⟩ := h3
      have := List.idxOf_lt_length_of_mem hx
      have h6 : ns.idxOf y ≤ m := by
        have h7 : (ns.take (m + 1)).idxOf y < (ns.take (m + 1)).length := List.idxOf_lt_length_of_mem (List.mem_of_getElem? (i := m) (by rw [List.getElem?_take_of_lt (by omega)]; exact hy))
        have h8 : ns.idxOf y = (ns.take (m + 1)).idxOf y := by
          conv => lhs; rw [← List.take_append_drop (m + 1) ns]
          rw [List.idxOf_append, if_pos (List.idxOf_lt_length_iff.mp h7)]
        rw [List.length_take] at h7
        omega
      omega
    show decide _ = false
    simp [hne]
theorem rd_idxV {K : PySem.W.Frag} {σ : L2.St} {H : Hp} {i : Nat} {a : Addr} {ns : List Int} {x : Int} {Q : VK} (hσ : σ[i]? = some (some (.int x))) (ha : SqL K H a (ns.map V.int)) (hx : x ∈ ns) (q : Q (.int ((ns.idxOf x : Nat) : Int)) H) :
    tCons (tVar i) tNil σ H fun xs H2 => rIndex K (.ref a) xs H2 Q := ⟨_, hσ, rd_idx ha hx q⟩
theorem cutV_one (ns : List Int) : cutV (ns.map V.int) (some 1) (some 2) = ((ns.drop 1).take 1).map V.int := by
  have h1 : HT.sIx (ns.map V.int).length 0 (some 1) = min 1 (ns.map V.int).length := HT.sIx_nat _ _ 1
  have h2 : HT.sIx (ns.map V.int).length (ns.map V.int).length (some 2) = min 2 (ns.map V.int).length := HT.sIx_nat _ _ 2
  unfold cutV
  rw [h1, h2]
  match ns with
  | [] => rfl
  | [a] => rfl
  | a :: b :: l =>
    have e1 : min 1 ((a :: b :: l).map V.int).length = 1 := by simp
    have e2 : min 2 ((a :: b :: l).map V.int).length = 2 := by simp
    rw [e1, e2]; rfl
theorem allowed_same {r ls : List Int} {x : Int} : allowedQ (cut r ls) x = (cut r ls).take ((cut r ls).idxOf x) ++ (if (cut r ls).idxOf x = 0 then ((cut r ls).drop 1).take 1 else []) := by
  unfold allowedQ
  by_cases h : (cut r ls).idxOf x = 0
  · rw [if_pos h, if_pos h, h]; rfl
  · rw [if_neg h, if_neg h, List.append_nil]
theorem allowed_len {q : List Int} {x : Int} : (allowedQ q x).length ≤ q.length := by
  unfold allowedQ
  split
  · rw [List.length_take, List.length_drop]; omega
  · rw [List.length_take]; omega
section
variable {P : Program} {w : World} {K : PySem.W.Frag} {mg : Str → Option Value} {base : Heap}
def spAllowed : Sp := fun vs H Q _ => ∃ (b a : Addr) (x : Int) (r ls : List Int), vs = [.ref b, .ref a, .int x] ∧ IL H b r ∧ IL H a ls ∧ x ∈ cut r ls ∧ r.length ≤ 20 ∧ ∀ p H', Same H H' → IL H' p (allowedQ (cut r ls) x) → Q (.ref p) H'
theorem sc_allowed : FnScope ["ranking", "left", "name", "rest", "at", "one"] ["ranking", "left", "name"] (defScope s_allowed) := ⟨rfl, rfl, rfl, by decide +kernel, rfl, by decide +kernel, by decide +kernel⟩
theorem has_allowed (T : Tx w K mg) : Has P w K mg base CX0 1 "allowed" ["ranking", "left", "name"] spAllowed := by
  refine T.mk0 12 d_allowed rfl rfl rfl rfl rfl sc_allowed (fun vs H Q E h => ?_) (fun _ _ _ _ _ _ us hl => match us, hl with | [_, _, _], _ => rfl) (fun f cdv A outer s H vs Q E hr h => ?_)
  · obtain ⟨b, a, x, r, ls, rfl, _⟩ := h; rfl
  refine ⟨_, (pss_cons (ps_setLc (i := 3) (own := [("one", 5)]) (tt := (tTest (tOp (rIn K false) (tVar 5) (tVar 1)))) rfl sc_allowed.nd rfl rfl (sw_true rfl rfl rfl (by decide +kernel)) (pi_list (pv 0)) (blkOk_by (own := [("one", 5)]) (N := ["ranking", "left", "name", "rest", "at", "one"]) (sc := (defScope s_allowed)) (by decide +kernel)) (fun _ _ _ _ _ => (pg_name (i := 5) sc_allowed.nd rfl (Or.inl rfl))) (fun _ _ _ _ _ => (pts_one (pt_cmpR op_in_seq (pv 5) (pv 1) rfl))) (fun _ _ _ _ _ => (pv 5)))
    (pss_cons (ps_set (i := 4) sc_allowed.nd rfl (Or.inl rfl) (pe_bm PySem.F.plainAttrs_list PySem.F.slot_list_index PySem.F.type_list_index mt_index (pv 3) (pa_cons (pv 2) pa_nil)))
    (pss_cons (ps_if (pt_cmpR op_eq (pv 4) pe_int (nomark _))
    (pss_one (ps_ret (pe_slice sl_list (pv 3) (po_some pe_int) (po_some pe_int))))
    pss_nil)
    (pss_one (ps_ret (pe_slice sl_list (pv 3) po_none (po_some (pv 4)))))))), ?_⟩
  obtain ⟨b, a, x, r, ls, rfl, hb, ha, hx, hl, q⟩ := h
  refine ⟨_, rfl, b, rfl, ⟨_, SqI hb⟩, fun D hD => ?_⟩
  refine lc_int hD (fun z => decide (z ∈ ls)) (SqI hb) (by omega) (fun z H3 Y N hz s3 hY hN => ?_) (fun H3 s3 l3 => ?_)
  · refine ⟨rfl, _, rfl, _, rfl, a, _, rfl, .inl (SqI (s3 _ _ ha)), rfl, flat_ints _, _, rfl, ?_⟩
    exact if_in (fun h => ⟨_, rfl, hY (by simp [h])⟩) (fun h => hN (by simp [h]))
  · refine ⟨_, rfl, .inl ⟨rfl, _, SqI l3⟩, rd_idxV rfl (SqI l3) hx ?_⟩
    refine ⟨_, rfl, rfl, _, rfl, ?_⟩
    refine ite2 (fun c => ?_) (fun c => ?_)
    · have c' : (cut r ls).idxOf x = 0 := by
        have h1 : (((cut r ls).idxOf x : Nat) : Int) = 0 := V.int.inj (of_decide_eq_true c)
        omega
      refine ⟨_, rfl, 1, rfl, 2, rfl, D, _, rfl, SqI l3, fun p hp => ?_⟩
      refine q p _ (s3.trans (same_new hp _)) ?_
      show upd _ p _ p = _
      rw [upd_same, cutV_one]
      unfold allowedQ
      rw [if_pos c']
    · have c' : ¬ (cut r ls).idxOf x = 0 := fun e => c (decide_eq_true (by rw [e]; rfl))
      refine ⟨_, rfl, _, rfl, ((cut r ls).idxOf x : Nat), rfl, D, _, rfl, SqI l3, fun p hp => ?_⟩
      refine q p _ (s3.trans (same_new hp _)) ?_
      show upd _ p _ p = _
      rw [upd_same, cutV_takeI _ _ (by omega)]
      unfold allowedQ
      rw [if_neg c']
      rfl
def spHangs : Sp := fun vs H Q _ => ∃ (f a : Addr) (x : Int) (rs : List (List Int)) (ls : List Int), vs = [.ref f, .ref a, .int x] ∧ FL H f rs ∧ IL H a ls ∧ (∀ r ∈ rs, x ∈ cut r ls ∧ r.length ≤ 20) ∧ ls.length ≤ 20 ∧ rs.length ≤ 20 ∧ ∀ p H', H p = none → Same H H' → IL H' p (hangs rs ls x) → Q (.ref p) H'
abbrev hangF (ls : List Int) (x : Int) (found r : List Int) : List Int := found.filter (fun o => decide (o ∈ allowedQ (cut r ls) x))
theorem hang_next {rs : List (List Int)} {ls : List Int} {x : Int} {i : Nat} {r f : List Int} (h : rs[i]? = some r) : (rs.take (i + 1)).foldl (hangF ls x) f = hangF ls x ((rs.take i).foldl (hangF ls x) f) r := by
  rw [take_succ h, List.foldl_append]; rfl
theorem hang_len {ls : List Int} {x : Int} : ∀ (rs : List (List Int)) (f : List Int), (rs.foldl (hangF ls x) f).length ≤ f.length
  | [], f => Nat.le_refl _
  | r :: rs, f => Nat.le_trans (hang_len rs _) (List.length_filter_le _ _)
theorem sc_hangs_at : FnScope ["folk", "left", "name", "found", "ranking", "some", "other"] ["folk", "left", "name"] (defScope s_hangs_at) := ⟨rfl, rfl, rfl, by decide +kernel, rfl, by decide +kernel, by decide +kernel⟩
theorem has_hangs_at (T : Tx w K mg) (h_allowed : Has P w K mg base CX0 1 "allowed" ["ranking", "left", "name"] spAllowed) : Has P w K mg base CX0 2 "hangs_at" ["folk", "left", "name"] spHangs := by
  obtain ⟨f_allowed, fd_allowed, G_allowed, M_allowed, K_allowed, B_allowed⟩ := h_allowed
  refine T.mk0 13 d_hangs_at rfl rfl rfl rfl rfl sc_hangs_at (fun vs H Q E h => ?_) (fun _ _ _ _ _ _ us hl => match us, hl with | [_, _, _], _ => rfl) (fun f cdv A outer s H vs Q E hr h => ?_)
  · obtain ⟨f, a, x, rs, ls, rfl, _⟩ := h; rfl
  refine ⟨_, (pss_cons (ps_setLc (i := 3) (own := [("other", 6)]) rfl sc_hangs_at.nd rfl rfl (sw_true rfl rfl rfl (by decide +kernel)) (pi_list (pv 1)) (blkOk_by (own := [("other", 6)]) (N := ["folk", "left", "name", "found", "ranking", "some", "other"]) (sc := (defScope s_hangs_at)) (by decide +kernel)) (fun _ _ _ _ _ => (pg_name (i := 6) sc_hangs_at.nd rfl (Or.inl rfl))) (fun _ _ _ _ _ => (pts_one (pt_cmpR op_ne (pv 6) (pv 2) (nomark _)))) (fun _ _ _ _ _ => (pv 6)))
    (pss_cons (ps_for PassesOwn.never rfl (pi_list (pv 0)) (pg_name (i := 4) sc_hangs_at.nd rfl (Or.inl rfl))
    (pss_cons (ps_set (i := 5) sc_hangs_at.nd rfl (Or.inr rfl) (pe_call G_allowed (hr.mono (by decide)) rfl M_allowed K_allowed B_allowed .nil pass0 (pa_cons (pv 4) (pa_cons (pv 1) (pa_cons (pv 2) pa_nil)))))
    (pss_one (ps_setLc (i := 3) (own := [("other", 6)]) (tt := (tTest (tOp (rIn K false) (tVar 6) (tVar 5)))) rfl sc_hangs_at.nd rfl rfl (sw_true rfl rfl rfl (by decide +kernel)) (pi_list (pv 3)) (blkOk_by (own := [("other", 6)]) (N := ["folk", "left", "name", "found", "ranking", "some", "other"]) (sc := (defScope s_hangs_at)) (by decide +kernel)) (fun _ _ _ _ _ => (pg_name (i := 6) sc_hangs_at.nd rfl (Or.inl rfl))) (fun _ _ _ _ _ => (pts_one (pt_cmpR op_in_seq (pv 6) (pv 5) rfl))) (fun _ _ _ _ _ => (pv 6))))))
    (pss_one (ps_ret (pv 3))))), ?_⟩
  obtain ⟨g, a, x, rs, ls, rfl, ⟨ps, hf, zf⟩, ha, hx, hl, hh, q⟩ := h
  have lps : ps.length = rs.length := zf.len
  refine ⟨_, rfl, a, rfl, ⟨_, SqI ha⟩, fun D hD => ?_⟩
  refine lc_int hD (fun z => !decide (z = x)) (SqI ha) (by omega) (fun z H3 Y N hz s3 hY hN => ?_) (fun H3 s3 l3 => ?_)
  · refine ⟨rfl, _, rfl, _, rfl, rfl, _, rfl, ?_⟩
    refine ite2 (fun c => ⟨_, rfl, hY ?_⟩) (fun c => hN ?_)
    · simpa using c
    · simpa using c
  · refine ⟨_, rfl, g, rfl, ⟨_, SqL.of (s3 _ _ hf)⟩, ?_⟩
    refine for_list (K := K) (a := g) (xs := ps.map V.ref) (fun i σ' H' => ∃ (F : Addr) (v4 v5 v6 : Option V), σ' = [some (.ref g), some (.ref a), some (.int x), some (.ref F), v4, v5, v6] ∧
      H F = none ∧ Same H H' ∧ IL H' F ((rs.take i).foldl (hangF ls x) (del ls x))) ⟨D, none, none, none, rfl, hD, s3, l3⟩ (fun i σ' H' _ ⟨F, _, _, _, _, _, s, _⟩ => SqL.of (s _ _ hf)) ?_ ?_
    · rintro i y σ' H2 hy ⟨F, v4, v5, v6, rfl, nF, s2, f2⟩
      obtain ⟨p, hp, rfl⟩ := map_get hy
      obtain ⟨r, hr, rp⟩ := zf.get hp
      obtain ⟨hx1, hx2⟩ := hx r (mem_at hr)
      have hd := hang_len (ls := ls) (x := x) (rs.take i) (del ls x)
      have hd2 : (del ls x).length ≤ ls.length := List.length_filter_le _ _
      refine ⟨_, rfl, _, rfl, _, rfl, p, a, x, r, ls, rfl, s2 _ _ rp, s2 _ _ ha, hx1, hx2, fun A H4 s4 l4 => ?_⟩
      have f4 : IL H4 F _ := s4 _ _ f2
      refine ⟨_, rfl, F, rfl, ⟨_, SqI f4⟩, fun D2 hD2 => ?_⟩
      refine lc_int hD2 (fun z => decide (z ∈ allowedQ (cut r ls) x)) (SqI f4) (by omega) (fun z H5 Y N hz s5 hY hN => ?_) (fun H5 s5 l5 => ?_)
      · refine ⟨rfl, _, rfl, _, rfl, A, _, rfl, .inl (SqI (s5 _ _ l4)), rfl, flat_ints _, _, rfl, ?_⟩
        exact if_in (fun h => ⟨_, rfl, hY (by simp [h])⟩) (fun h => hN (by simp [h]))
      · refine ⟨D2, _, _, _, rfl, (Kp.of [] (s2.trans s4)).free hD2 (by simp), (s2.trans s4).trans s5, ?_⟩
        rw [hang_next hr]; exact l5
    · rintro σ' H2 ⟨F, v4, v5, v6, rfl, nF, s2, f2⟩
      rw [List.length_map, lps, List.take_length] at f2
      exact ⟨_, rfl, q F H2 nF s2 f2⟩
theorem sc_law_hangs : FnScope ["_law_folk_here", "_law_left_here", "_law_name", "_law_found", "_law_ranking", "_law_rest", "_law_at", "_law_some", "_law_other", "_law_one"] ["_law_folk_here", "_law_left_here", "_law_name"] (defScope s_law_hangs) := ⟨rfl, rfl, rfl, by decide +kernel, rfl, by decide +kernel, by decide +kernel⟩
theorem has_law_hangs (T : Tx w K mg) : Has P w K mg base CX0 1 "_law_hangs" ["_law_folk_here", "_law_left_here", "_law_name"] spHangs := by
  refine T.mk0 33 d_law_hangs rfl rfl rfl rfl rfl sc_law_hangs (fun vs H Q E h => ?_) (fun _ _ _ _ _ _ us hl => match us, hl with | [_, _, _], _ => rfl) (fun f cdv A outer s H vs Q E hr h => ?_)
  · obtain ⟨f, a, x, rs, ls, rfl, _⟩ := h; rfl
  refine ⟨_, (pss_cons (ps_setLc (i := 3) (own := [("_law_other", 8)]) rfl sc_law_hangs.nd rfl rfl (sw_true rfl rfl rfl (by decide +kernel)) (pi_list (pv 1)) (blkOk_by (own := [("_law_other", 8)]) (N := ["_law_folk_here", "_law_left_here", "_law_name", "_law_found", "_law_ranking", "_law_rest", "_law_at", "_law_some", "_law_other", "_law_one"]) (sc := (defScope s_law_hangs)) (by decide +kernel)) (fun _ _ _ _ _ => (pg_name (i := 8) sc_law_hangs.nd rfl (Or.inl rfl))) (fun _ _ _ _ _ => (pts_one (pt_cmpR op_ne (pv 8) (pv 2) (nomark _)))) (fun _ _ _ _ _ => (pv 8)))
    (pss_cons (ps_for PassesOwn.never rfl (pi_list (pv 0)) (pg_name (i := 4) sc_law_hangs.nd rfl (Or.inl rfl))
    (pss_cons (ps_setLc (i := 5) (own := [("_law_one", 9)]) (tt := (tTest (tOp (rIn K false) (tVar 9) (tVar 1)))) rfl sc_law_hangs.nd rfl rfl (sw_true rfl rfl rfl (by decide +kernel)) (pi_list (pv 4)) (blkOk_by (own := [("_law_one", 9)]) (N := ["_law_folk_here", "_law_left_here", "_law_name", "_law_found", "_law_ranking", "_law_rest", "_law_at", "_law_some", "_law_other", "_law_one"]) (sc := (defScope s_law_hangs)) (by decide +kernel)) (fun _ _ _ _ _ => (pg_name (i := 9) sc_law_hangs.nd rfl (Or.inl rfl))) (fun _ _ _ _ _ => (pts_one (pt_cmpR op_in_seq (pv 9) (pv 1) rfl))) (fun _ _ _ _ _ => (pv 9)))
    (pss_cons (ps_set (i := 6) sc_law_hangs.nd rfl (Or.inl rfl) (pe_bm PySem.F.plainAttrs_list PySem.F.slot_list_index PySem.F.type_list_index mt_index (pv 5) (pa_cons (pv 2) pa_nil)))
    (pss_cons (ps_set (i := 7) sc_law_hangs.nd rfl (Or.inr rfl) (pe_op op_cat (pe_slice sl_list (pv 5) po_none (po_some (pv 6))) (pe_op op_rep (pe_slice sl_list (pv 5) (po_some pe_int) (po_some pe_int)) (pe_callTy call_int1 (by rfl) (T.free 65) (by decide +kernel) (pa_cons (pe_cmpR op_eq (pv 6) pe_int (nomark _)) pa_nil)))))
    (pss_one (ps_setLc (i := 3) (own := [("_law_other", 8)]) (tt := (tTest (tOp (rIn K false) (tVar 8) (tVar 7)))) rfl sc_law_hangs.nd rfl rfl (sw_true rfl rfl rfl (by decide +kernel)) (pi_list (pv 3)) (blkOk_by (own := [("_law_other", 8)]) (N := ["_law_folk_here", "_law_left_here", "_law_name", "_law_found", "_law_ranking", "_law_rest", "_law_at", "_law_some", "_law_other", "_law_one"]) (sc := (defScope s_law_hangs)) (by decide +kernel)) (fun _ _ _ _ _ => (pg_name (i := 8) sc_law_hangs.nd rfl (Or.inl rfl))) (fun _ _ _ _ _ => (pts_one (pt_cmpR op_in_seq (pv 8) (pv 7) rfl))) (fun _ _ _ _ _ => (pv 8))))))))
    (pss_one (ps_ret (pv 3))))), ?_⟩
  obtain ⟨g, a, x, rs, ls, rfl, ⟨ps, hf, zf⟩, ha, hx, hl, hh, q⟩ := h
  have lps : ps.length = rs.length := zf.len
  refine ⟨_, rfl, a, rfl, ⟨_, SqI ha⟩, fun D hD => ?_⟩
  refine lc_int hD (fun z => !decide (z = x)) (SqI ha) (by omega) (fun z H3 Y N hz s3 hY hN => ?_) (fun H3 s3 l3 => ?_)
  · refine ⟨rfl, _, rfl, _, rfl, rfl, _, rfl, ?_⟩
    refine ite2 (fun c => ⟨_, rfl, hY ?_⟩) (fun c => hN ?_)
    · simpa using c
    · simpa using c
  · refine ⟨_, rfl, g, rfl, ⟨_, SqL.of (s3 _ _ hf)⟩, ?_⟩
    refine for_list (K := K) (a := g) (xs := ps.map V.ref) (fun i σ' H' => ∃ (F : Addr) (v4 v5 v6 v7 v8 v9 : Option V), σ' = [some (.ref g), some (.ref a), some (.int x), some (.ref F), v4, v5, v6, v7, v8, v9] ∧
      H F = none ∧ Same H H' ∧ IL H' F ((rs.take i).foldl (hangF ls x) (del ls x))) ⟨D, none, none, none, none, none, none, rfl, hD, s3, l3⟩ (fun i σ' H' _ ⟨F, _, _, _, _, _, _, _, _, s, _⟩ => SqL.of (s _ _ hf)) ?_ ?_
    · rintro i y σ' H2 hy ⟨F, v4, v5, v6, v7, v8, v9, rfl, nF, s2, f2⟩
      obtain ⟨p, hp, rfl⟩ := map_get hy
      obtain ⟨r, hr, rp⟩ := zf.get hp
      obtain ⟨hx1, hx2⟩ := hx r (mem_at hr)
      have hd := hang_len (ls := ls) (x := x) (rs.take i) (del ls x)
      have hd2 : (del ls x).length ≤ ls.length := List.length_filter_le _ _
      have hcl : (cut r ls).length ≤ r.length := List.length_filter_le _ _
      refine ⟨_, rfl, p, rfl, ⟨_, SqI (s2 _ _ rp)⟩, fun B hB => ?_⟩
      refine lc_int hB (fun z => decide (z ∈ ls)) (SqI (s2 _ _ rp)) (by omega) (fun z H5 Y N hz s5 hY hN => ?_) (fun H5 s5 l5 => ?_)
      · refine ⟨rfl, _, rfl, _, rfl, a, _, rfl, .inl (SqI (s5 _ _ (s2 _ _ ha))), rfl, flat_ints _, _, rfl, ?_⟩
        exact if_in (fun h => ⟨_, rfl, hY (by simp [h])⟩) (fun h => hN (by simp [h]))
      · refine ⟨_, rfl, .inl ⟨rfl, _, SqI l5⟩, rd_idxV rfl (SqI l5) hx1 ?_⟩
        refine ⟨_, rfl, _, rfl, ((cut r ls).idxOf x : Nat), rfl, B, _, rfl, SqI l5, fun C hC => ?_⟩
        have sC := same_new hC (.lst (cutV ((cut r ls).map V.int) none (some ((cut r ls).idxOf x : Nat))))
        refine ⟨_, rfl, 1, rfl, 2, rfl, B, _, rfl, SqI (sC _ _ l5), fun E hE => ?_⟩
        have sE := same_new hE (.lst (cutV ((cut r ls).map V.int) (some 1) (some 2)))
        refine ⟨_, rfl, rfl, .inr ⟨_, rfl, ?_⟩⟩
        refine ⟨E, _, _, rfl, rfl, upd_same, ?_, ?_, ?_, fun G hG => ?_⟩
        · split <;> decide
        · split <;> decide
        · rw [cutV_one, List.length_map, List.length_take]
          have : (if decide (V.int (((cut r ls).idxOf x : Nat) : Int) = V.int 0) = true then (1 : Int) else 0).toNat ≤ 1 := by split <;> decide
          have h3 : min 1 ((cut r ls).drop 1).length * (if decide (V.int (((cut r ls).idxOf x : Nat) : Int) = V.int 0) = true then (1 : Int) else 0).toNat ≤ 1 * 1 := Nat.mul_le_mul (by omega) this
          exact small (Nat.le_trans h3 (by decide))
        have eg : (List.replicate (if decide (V.int (((cut r ls).idxOf x : Nat) : Int) = V.int 0) = true then (1 : Int) else 0).toNat (cutV ((cut r ls).map V.int) (some 1) (some 2))).flatten = (if (cut r ls).idxOf x = 0 then ((cut r ls).drop 1).take 1 else []).map V.int := by
          rw [cutV_one]
          by_cases h0 : (cut r ls).idxOf x = 0
          · rw [if_pos (by simp [h0]), if_pos h0]; simp
          · rw [if_neg (by simp [h0]), if_neg h0]; rfl
        rw [eg]
        have sG := same_new hG (.lst ((if (cut r ls).idxOf x = 0 then ((cut r ls).drop 1).take 1 else []).map V.int))
        refine ⟨C, G, _, _, rfl, rfl, sG _ _ (sE _ _ upd_same), upd_same, ?_, fun S hS => ?_⟩
        · rw [cutV_takeI _ _ (by omega), List.length_map, List.length_map, List.length_take]
          have : (if (cut r ls).idxOf x = 0 then ((cut r ls).drop 1).take 1 else []).length ≤ 1 := by
            split
            · rw [List.length_take]; omega
            · exact Nat.zero_le _
          refine small (Nat.le_trans (Nat.add_le_add (Nat.min_le_right _ _) this) ?_)
          show (cut r ls).length + 1 ≤ 1000
          omega
        have e1 : cutV ((cut r ls).map V.int) none (some ((cut r ls).idxOf x : Nat)) ++ (if (cut r ls).idxOf x = 0 then ((cut r ls).drop 1).take 1 else []).map V.int = (allowedQ (cut r ls) x).map V.int := by
          rw [cutV_takeI _ _ (by omega), ← List.map_append, allowed_same]; rfl
        have s7 := (((s5.trans sC).trans sE).trans sG).trans (same_new hS (.lst (cutV ((cut r ls).map V.int) none (some ((cut r ls).idxOf x : Nat)) ++ (if (cut r ls).idxOf x = 0 then ((cut r ls).drop 1).take 1 else []).map V.int)))
        refine ⟨_, rfl, F, rfl, ⟨_, SqI (s7 _ _ f2)⟩, fun D2 hD2 => ?_⟩
        refine lc_int hD2 (fun z => decide (z ∈ allowedQ (cut r ls) x)) (SqI (s7 _ _ f2)) (by omega) (fun z H8 Y N hz s8 hY hN => ?_) (fun H8 s8 l8 => ?_)
        · have l9 : H8 S = some (.lst ((allowedQ (cut r ls) x).map V.int)) := s8 _ _ (by rw [upd_same, e1])
          refine ⟨rfl, _, rfl, _, rfl, S, _, rfl, .inl (SqI l9), rfl, flat_ints _, _, rfl, ?_⟩
          exact if_in (fun h => ⟨_, rfl, hY (by simp [h])⟩) (fun h => hN (by simp [h]))
        · refine ⟨D2, _, _, _, _, _, _, rfl, (Kp.of [] (s2.trans s7)).free hD2 (by simp), (s2.trans s7).trans s8, ?_⟩
          rw [hang_next hr]; exact l8
    · rintro σ' H2 ⟨F, v4, v5, v6, v7, v8, v9, rfl, nF, s2, f2⟩
      rw [List.length_map, lps, List.take_length] at f2
      exact ⟨_, rfl, q F H2 nF s2 f2⟩
end
end G46
set_option maxHeartbeats 4000000
namespace G46
open PySem PySem.Spec PyProof.Rows L2
/-- a comprehension over a list of things of one form -/
theorem lc_of {K : PySem.W.Frag} {α : Type} {R : Hp → Addr → α → Prop} {a : Addr} {xs : List α} {g : TG} {tt : TT} {te : TE} {vs : List Nat} {σ : L2.St} {H1 : Hp} {D : Addr} (hD : H1 D = none) {Q : Hp → Prop} (f : α → Option V) (mo : Mono R) (hl : LOf R H1 a xs) (hz : xs.length ≤ 1000)
    (hs : ∀ (p : Addr) (x : α) (H : Hp) (Y : V → Hp → Prop) (N : Hp → Prop), x ∈ xs → R H p x → Same H1 H → (∀ y H', f x = some y → Same H H' → Y y H') → (∀ H', f x = none → Same H H' → N H') →
      g (.ref p) (wipe σ vs) H fun σ2 H2 => wipe σ2 vs = wipe σ vs ∧ tt σ2 H2 fun b H3 => if b = true then te σ2 H3 Y else N H3)
    (hq : ∀ H', Same H1 H' → H' D = some (.lst (xs.filterMap f)) → Q H') :
    ∃ W : Nat → Nat → Hp → Prop, (∃ m, W 0 m (upd H1 D (.lst []))) ∧ ∀ i m H, W i m H →
      ((Itl K a).stop i H ∧ Q H) ∨ ((Itl K a).go i H ∧ ∃ Nx : Hp → Prop, (∀ H', Nx H' → ∃ m', m' < m ∧ W (i + 1) m' H') ∧ ∀ x H', (Itl K a).yld i H x H' → g x (wipe σ vs) H' fun σ2 H2 => wipe σ2 vs = wipe σ vs ∧ tt σ2 H2 fun b H3 =>
        if b = true then te σ2 H3 fun y H4 => ∃ acc, H4 D = some (.lst acc) ∧ acc.length < sizeLine ∧ Nx (upd H4 D (.lst (acc ++ [y]))) else Nx H3) := by
  obtain ⟨ps, hp, zp⟩ := hl
  have lps : ps.length = xs.length := zp.len
  refine lc_list (K := K) (a := a) (xs := ps.map V.ref) (fun i H => Same H1 H ∧ H D = some (.lst ((xs.take i).filterMap f))) ⟨same_new hD _, by rw [upd_same]; rfl⟩ (fun i H _ h => SqL.of (h.1 _ _ hp)) (fun i x H hx h => ?_) (fun H h => ?_)
  · obtain ⟨p, hp', rfl⟩ := map_get hx
    obtain ⟨y, hy, ry⟩ := zp.get hp'
    refine hs p y H _ _ (mem_at hy) (mo _ _ _ _ h.1 ry) h.1 (fun v H' e s => ?_) (fun H' e s => ?_)
    · refine ⟨_, s _ _ h.2, ?_, fun b o q => ?_, ?_⟩
      · have h2 := fm_len f (xs.take i)
        rw [List.length_take] at h2
        exact small1000 (by omega)
      · rw [upd_ne (ne_of_none q hD)]
        exact s _ _ (h.1 _ _ q)
      · rw [upd_same, fm_next hy, e]
    · refine ⟨h.1.trans s, ?_⟩
      rw [fm_next hy, e, List.append_nil]
      exact s _ _ h.2
  · refine hq H h.1 ?_
    rw [h.2, List.length_map, lps, List.take_length]
theorem at_last {ns : List Int} {z : Int} (h : ns.getLast? = some z) : atI (ns.map V.int) (-1) = some (.int z) := by
  have hne : ns ≠ [] := fun e => by subst e; cases h
  have hl : 1 ≤ ns.length := List.length_pos_iff.mpr hne
  have e1 : ixN (ns.map V.int).length (-1) = some (ns.length - 1) := by
    unfold ixN
    rw [List.length_map, if_neg (by decide), if_pos (by omega)]
    congr 1
    omega
  unfold atI
  rw [e1]
  show (ns.map V.int)[ns.length - 1]? = _
  rw [List.getElem?_map]
  rw [List.getLast?_eq_getElem?] at h
  rw [h]; rfl
theorem lasts_map {rs : List (List Int)} {ls : List Int} : (rs.filterMap fun r => ((cut r ls).getLast?).map V.int) = (rs.filterMap fun r => (cut r ls).getLast?).map V.int := by
  rw [List.map_filterMap]
theorem lasts_len {rs : List (List Int)} {ls : List Int} : (rs.filterMap fun r => (cut r ls).getLast?).length ≤ rs.length := List.length_filterMap_le _ _
section
variable {P : Program} {w : World} {K : PySem.W.Frag} {mg : Str → Option Value} {base : Heap}
def spLasts : Sp := fun vs H Q _ => ∃ (f a : Addr) (rs : List (List Int)) (ls : List Int), vs = [.ref f, .ref a] ∧ FL H f rs ∧ IL H a ls ∧ (∀ r ∈ rs, cut r ls ≠ [] ∧ r.length ≤ 20) ∧ rs.length ≤ 20 ∧ ∀ p H', H p = none → Same H H' → IL H' p (lastsM rs ls) → Q (.ref p) H'
theorem rd_isortV {w : World} {H H1 : Hp} {l : Addr} {ns ms : List Int} {Q : VK} (s : Same H1 H) (hl : IL H l ns) (h64 : ns.length < 64) (he : ∀ us : List Int, Ris us → (∀ k, k ∈ us ↔ k ∈ ns) → us = ms)
    (q : ∀ p H', H1 p = none → Same H1 H' → IL H' p ms → Q (.ref p) H') : rSetOfI K w [.ref l] H fun x H1 => rSortedSet w [x] H1 Q :=
  rd_isort (SqI hl) h64 he fun p H' hp s' l' => q p H' ((Kp.of [] s).free hp (by simp)) (s.trans s') l'
theorem sc_lasts : FnScope ["folk", "left", "name", "ranking"] ["folk", "left"] (defScope s_lasts) := ⟨rfl, rfl, rfl, by decide +kernel, rfl, by decide +kernel, by decide +kernel⟩
theorem has_lasts (T : Tx w K mg) : Has P w K mg base CX0 1 "lasts" ["folk", "left"] spLasts := by
  refine T.mk0 14 d_lasts rfl rfl rfl rfl rfl sc_lasts (fun vs H Q E h => ?_) (fun _ _ _ _ _ _ us hl => match us, hl with | [_, _], _ => rfl) (fun f cdv A outer s H vs Q E hr h => ?_)
  · obtain ⟨f, a, rs, ls, rfl, _⟩ := h; rfl
  refine ⟨_, (pss_one (ps_ret (pe_callB (cr_sortedSet rfl) (by rfl) (T.free 72) (by decide +kernel) (pa_cons (pe_callTy (cr_setOfI rfl) (by rfl) (T.free 70) (by decide +kernel) (pa_cons (pe_lc (own := [("ranking", 3)]) (te := (tOp (rIxL K) (tLc (iList K (tVar 3)) (gName 2) (tTest (tOp (rIn K false) (tVar 2) (tVar 1))) (tVar 2) [2]) (tUn (rU fun i => .int (-i)) (tC (.int 1))))) rfl sc_lasts.nd (pi_list (pv 0)) (blkOk_by (own := [("ranking", 3)]) (N := ["folk", "left", "name", "ranking"]) (sc := (defScope s_lasts)) (by decide +kernel)) (fun _ _ _ _ _ => (pg_name (i := 3) sc_lasts.nd rfl (Or.inl rfl))) (fun _ _ _ _ _ => pts_nil) (fun _ _ _ _ _ => (pe_ix ix_list (pe_lc (own := [("name", 2)]) (tt := (tTest (tOp (rIn K false) (tVar 2) (tVar 1)))) rfl sc_lasts.nd (pi_list (pv 3)) (blkOk_by (own := [("name", 2)]) (N := ["folk", "left", "name", "ranking"]) (sc := (relS _ (defScope s_lasts))) (by decide +kernel)) (fun _ _ _ _ _ => (pg_name (i := 2) sc_lasts.nd rfl (Or.inl rfl))) (fun _ _ _ _ _ => (pts_one (pt_cmpR op_in_seq (pv 2) (pv 1) rfl))) (fun _ _ _ _ _ => (pv 2))) (pe_un un_neg pe_int) (fun _ _ => rfl)))) pa_nil)) pa_nil)))), ?_⟩
  obtain ⟨g, a, rs, ls, rfl, hf, ha, hx, hl, q⟩ := h
  obtain ⟨ps, hf1, zf⟩ := id hf
  refine ⟨_, rfl, g, rfl, ⟨_, SqL.of hf1⟩, fun D hD => ?_⟩
  refine lc_of hD (fun r => ((cut r ls).getLast?).map V.int) mono_IL hf (by omega) (fun p r H3 Y N hr rp s3 hY hN => ?_) (fun H3 s3 l3 => ?_)
  · obtain ⟨hne, hrl⟩ := hx r hr
    refine ⟨rfl, yes ?_⟩
    refine ⟨_, rfl, p, rfl, ⟨_, SqI rp⟩, fun D2 hD2 => ?_⟩
    refine lc_int hD2 (fun z => decide (z ∈ ls)) (SqI rp) (by omega) (fun z H4 Y N hz s4 hY hN => ?_) (fun H4 s4 l4 => ?_)
    · refine ⟨rfl, _, rfl, _, rfl, a, _, rfl, .inl (SqI (s4 _ _ (s3 _ _ ha))), rfl, flat_ints _, _, rfl, ?_⟩
      exact if_in (fun h => ⟨_, rfl, hY (by simp [h])⟩) (fun h => hN (by simp [h]))
    · have e : (cut r ls).getLast? = some ((cut r ls).getLast hne) := List.getLast?_eq_some_getLast hne
      refine ⟨_, rfl, D2, _, _, _, rfl, rfl, SqI l4, at_last e, ?_⟩
      exact hY _ _ (by rw [e]; rfl) s4
  · rw [lasts_map] at l3
    have := lasts_len (rs := rs) (ls := ls)
    exact rd_isortV (K := K) (w := w) s3 l3 (by omega) (fun us h1 h2 => ris_uniq h1 (sortI_ris _) fun k => (h2 k).trans mem_sortI.symm) q
theorem sc_law_lasts : FnScope ["_law_folk_here", "_law_left_here", "_law_name", "_law_ranking"] ["_law_folk_here", "_law_left_here"] (defScope s_law_lasts) := ⟨rfl, rfl, rfl, by decide +kernel, rfl, by decide +kernel, by decide +kernel⟩
theorem has_law_lasts (T : Tx w K mg) : Has P w K mg base CX0 1 "_law_lasts" ["_law_folk_here", "_law_left_here"] spLasts := by
  refine T.mk0 34 d_law_lasts rfl rfl rfl rfl rfl sc_law_lasts (fun vs H Q E h => ?_) (fun _ _ _ _ _ _ us hl => match us, hl with | [_, _], _ => rfl) (fun f cdv A outer s H vs Q E hr h => ?_)
  · obtain ⟨f, a, rs, ls, rfl, _⟩ := h; rfl
  refine ⟨_, (pss_one (ps_ret (pe_callB (cr_sortedSet rfl) (by rfl) (T.free 72) (by decide +kernel) (pa_cons (pe_callTy (cr_setOfI rfl) (by rfl) (T.free 70) (by decide +kernel) (pa_cons (pe_lc (own := [("_law_ranking", 3)]) (te := (tOp (rIxL K) (tLc (iList K (tVar 3)) (gName 2) (tTest (tOp (rIn K false) (tVar 2) (tVar 1))) (tVar 2) [2]) (tUn (rU fun i => .int (-i)) (tC (.int 1))))) rfl sc_law_lasts.nd (pi_list (pv 0)) (blkOk_by (own := [("_law_ranking", 3)]) (N := ["_law_folk_here", "_law_left_here", "_law_name", "_law_ranking"]) (sc := (defScope s_law_lasts)) (by decide +kernel)) (fun _ _ _ _ _ => (pg_name (i := 3) sc_law_lasts.nd rfl (Or.inl rfl))) (fun _ _ _ _ _ => pts_nil) (fun _ _ _ _ _ => (pe_ix ix_list (pe_lc (own := [("_law_name", 2)]) (tt := (tTest (tOp (rIn K false) (tVar 2) (tVar 1)))) rfl sc_law_lasts.nd (pi_list (pv 3)) (blkOk_by (own := [("_law_name", 2)]) (N := ["_law_folk_here", "_law_left_here", "_law_name", "_law_ranking"]) (sc := (relS _ (defScope s_law_lasts))) (by decide +kernel)) (fun _ _ _ _ _ => (pg_name (i := 2) sc_law_lasts.nd rfl (Or.inl rfl))) (fun _ _ _ _ _ => (pts_one (pt_cmpR op_in_seq (pv 2) (pv 1) rfl))) (fun _ _ _ _ _ => (pv 2))) (pe_un un_neg pe_int) (fun _ _ => rfl)))) pa_nil)) pa_nil)))), ?_⟩
  obtain ⟨g, a, rs, ls, rfl, hf, ha, hx, hl, q⟩ := h
  obtain ⟨ps, hf1, zf⟩ := id hf
  refine ⟨_, rfl, g, rfl, ⟨_, SqL.of hf1⟩, fun D hD => ?_⟩
  refine lc_of hD (fun r => ((cut r ls).getLast?).map V.int) mono_IL hf (by omega) (fun p r H3 Y N hr rp s3 hY hN => ?_) (fun H3 s3 l3 => ?_)
  · obtain ⟨hne, hrl⟩ := hx r hr
    refine ⟨rfl, yes ?_⟩
    refine ⟨_, rfl, p, rfl, ⟨_, SqI rp⟩, fun D2 hD2 => ?_⟩
    refine lc_int hD2 (fun z => decide (z ∈ ls)) (SqI rp) (by omega) (fun z H4 Y N hz s4 hY hN => ?_) (fun H4 s4 l4 => ?_)
    · refine ⟨rfl, _, rfl, _, rfl, a, _, rfl, .inl (SqI (s4 _ _ (s3 _ _ ha))), rfl, flat_ints _, _, rfl, ?_⟩
      exact if_in (fun h => ⟨_, rfl, hY (by simp [h])⟩) (fun h => hN (by simp [h]))
    · have e : (cut r ls).getLast? = some ((cut r ls).getLast hne) := List.getLast?_eq_some_getLast hne
      refine ⟨_, rfl, D2, _, _, _, rfl, rfl, SqI l4, at_last e, ?_⟩
      exact hY _ _ (by rw [e]; rfl) s4
  · rw [lasts_map] at l3
    have := lasts_len (rs := rs) (ls := ls)
    exact rd_isortV (K := K) (w := w) s3 l3 (by omega) (fun us h1 h2 => ris_uniq h1 (sortI_ris _) fun k => (h2 k).trans mem_sortI.symm) q
end
end G46
set_option maxHeartbeats 4000000
namespace G46
open PySem PySem.Spec PyProof.Rows L2
/-- a row, not at F -/
def RowF (F : Addr) (H : Hp) (p : Addr) (r : Int × List Int) : Prop := p ≠ F ∧ ∃ q, q ≠ F ∧ H p = some (.tup [.int r.1, .ref q]) ∧ IL H q r.2
theorem RowF.keep {F : Addr} {H H' : Hp} {p : Addr} {r : Int × List Int} (h : RowF F H p r) (k : Kp [F] H H') : RowF F H' p r := by
  obtain ⟨h1, q, h2, h3, h4⟩ := h
  exact ⟨h1, q, h2, k _ _ (no1 h1) h3, k _ _ (no1 h2) h4⟩
theorem RowF.row {F : Addr} {H : Hp} {p : Addr} {r : Int × List Int} (h : RowF F H p r) : RowP H p r := by
  obtain ⟨h1, q, h2, h3, h4⟩ := h
  exact ⟨q, h3, h4⟩
theorem hangs_len {rs : List (List Int)} {ls : List Int} {x : Int} : (hangs rs ls x).length ≤ ls.length := Nat.le_trans (hang_len rs _) (List.length_filter_le _ _)
theorem lasts_head {rs : List (List Int)} {ls : List Int} (h : lastsM rs ls ≠ []) : atI ((lastsM rs ls).map V.int) 0 = some (.int ((lastsM rs ls).headD 0)) := by
  match e : lastsM rs ls, h with
  | a :: l, _ => exact at_of (j := 0) rfl rfl
theorem il_set {H : Hp} {a : Addr} {ns ms : List Int} (h : IL H a ns) (e : ns = ms) : IL H a ms := by rw [← e]; exact h
/-- the rows' names and lists are the folk's -/
theorem rows_in {rs : List (List Int)} : ∀ {ls : List Int} {rows : List (Int × List Int)}, RowsR rs ls rows → Wf rs ls → rows.length ≤ ls.length ∧ ∀ r ∈ rows, r.1 ∈ ls ∧ (∀ y ∈ r.2, y ∈ ls ∧ y ≠ r.1) ∧ r.2.length ≤ ls.length := by
  intro ls rows R
  induction R with
  | done h => exact fun _ => ⟨Nat.zero_le _, fun r hr => (by cases hr)⟩
  | stop h2 hl he =>
    intro W
    refine ⟨by simp only [List.length_cons, List.length_nil]; omega, fun r hr => ?_⟩
    rw [List.mem_singleton.mp hr]
    exact ⟨hl.mem, fun y hy => (by cases hy), Nat.zero_le _⟩
  | @step ls x rows h2 hl R ih =>
    intro W
    have hd := del_len W.nd hl.mem
    obtain ⟨h3, h4⟩ := ih (W.del _)
    refine ⟨by rw [List.length_cons]; omega, fun r hr => ?_⟩
    rcases List.mem_cons.mp hr with e | e
    · rw [e]
      exact ⟨hl.mem, fun y hy => (mem_hangs.mp hy).1, hangs_len⟩
    · obtain ⟨h5, h6, h7⟩ := h4 r e
      exact ⟨(mem_del.mp h5).1, fun y hy => ⟨(mem_del.mp (h6 y hy).1).1, (h6 y hy).2⟩, by omega⟩
theorem prod_app : ∀ (a : List (Int × List Int)) (r : Int × List Int), prodR (a ++ [r]) = prodR a * r.2.length
  | [], r => by show r.2.length * 1 = 1 * r.2.length; omega
  | b :: a, r => by
    show b.2.length * prodR (a ++ [r]) = b.2.length * prodR a * r.2.length
    rw [prod_app a r, Nat.mul_assoc]
theorem prod_next {rows : List (Int × List Int)} {i : Nat} {r : Int × List Int} (h : rows[i]? = some r) : prodR (rows.take (i + 1)) = prodR (rows.take i) * r.2.length := by
  rw [take_succ h, prod_app]
theorem prod_bd : ∀ {rows : List (Int × List Int)}, (∀ r ∈ rows, r.2.length ≤ 10) → prodR rows ≤ 10 ^ rows.length
  | [], _ => Nat.le_refl _
  | r :: rows, h => by
    have h1 := prod_bd fun x hx => h x (List.mem_cons_of_mem _ hx)
    have h2 := h r List.mem_cons_self
    show r.2.length * prodR rows ≤ 10 ^ (rows.length + 1)
    rw [Nat.pow_succ, Nat.mul_comm]
    exact Nat.mul_le_mul h1 h2
theorem prod_le10 {rows : List (Int × List Int)} (h : ∀ r ∈ rows, r.2.length ≤ 10) (hl : rows.length ≤ 10) : prodR rows ≤ 10000000000 :=
  Nat.le_trans (prod_bd h) (Nat.pow_le_pow_right (by decide) hl)
theorem many_bd {ns : List Int} {rs : List (List Int)} (F : Flk ns rs) : many ns rs ≤ 10000000000 := by
  have h := rows_in (taken_rows F.folk.ne F.folk.wf) F.folk.wf
  have hl := F.nm.len
  exact prod_le10 (fun r hr => by have := (h.2 r hr).2.2; omega) (by omega)
section
variable {P : Program} {w : World} {K : PySem.W.Frag} {mg : Str → Option Value} {base : Heap}
def spTaken : Sp := fun vs H Q _ => ∃ (f : Addr) (ns : List Int) (rs : List (List Int)), vs = [.ref f] ∧ FL H f rs ∧ Flk ns rs ∧ ∀ p H', H p = none → Same H H' → RL H' p (taken rs ns) → Q (.ref p) H'
theorem sc_taken_out : FnScope ["folk", "left", "found", "name", "some", "one"] ["folk"] (defScope s_taken_out) := ⟨rfl, rfl, rfl, by decide +kernel, rfl, by decide +kernel, by decide +kernel⟩
theorem has_taken_out (T : Tx w K mg) (h_lasts : Has P w K mg base CX0 1 "lasts" ["folk", "left"] spLasts) (h_hangs_at : Has P w K mg base CX0 2 "hangs_at" ["folk", "left", "name"] spHangs) : Has P w K mg base CX0 3 "taken_out" ["folk"] spTaken := by
  obtain ⟨f_lasts, fd_lasts, G_lasts, M_lasts, K_lasts, B_lasts⟩ := h_lasts
  obtain ⟨f_hangs_at, fd_hangs_at, G_hangs_at, M_hangs_at, K_hangs_at, B_hangs_at⟩ := h_hangs_at
  refine T.mk0 15 d_taken_out rfl rfl rfl rfl rfl sc_taken_out (fun vs H Q E h => ?_) (fun _ _ _ _ _ _ us hl => match us, hl with | [_], _ => rfl) (fun f cdv A outer s H vs Q E hr h => ?_)
  · obtain ⟨f, ns, rs, rfl, _⟩ := h; rfl
  refine ⟨_, (pss_cons (ps_set (i := 1) sc_taken_out.nd rfl (Or.inl rfl) (pe_callB cr_sortedI (by rfl) (T.free 72) (by decide +kernel) (pa_cons (pe_ix ix_list (pv 0) pe_int (fun _ _ => rfl)) pa_nil)))
    (pss_cons (ps_set (i := 2) sc_taken_out.nd rfl (Or.inl rfl) (pe_lst pa_nil))
    (pss_cons (ps_while PassesOwn.never (pt_cmpR op_gt (pe_callB call_len_seq (by rfl) (T.free 69) (by decide +kernel) (pa_cons (pv 1) pa_nil)) pe_int (nomark _))
    (pss_cons (ps_set (i := 3) sc_taken_out.nd rfl (Or.inr rfl) (pe_ix ix_list (pe_call G_lasts (hr.mono (by decide)) rfl M_lasts K_lasts B_lasts .nil pass0 (pa_cons (pv 0) (pa_cons (pv 1) pa_nil))) pe_int (fun _ _ => rfl)))
    (pss_cons (ps_set (i := 4) sc_taken_out.nd rfl (Or.inl rfl) (pe_call G_hangs_at (hr.mono (by decide)) rfl M_hangs_at K_hangs_at B_hangs_at .nil pass0 (pa_cons (pv 0) (pa_cons (pv 1) (pa_cons (pv 3) pa_nil)))))
    (pss_cons (ps_expr (pe_bm PySem.F.plainAttrs_list PySem.F.slot_list_append PySem.F.type_list_append mt_append (pv 2) (pa_cons (pe_tup (pa_cons (pv 3) (pa_cons (pv 4) pa_nil))) pa_nil)))
    (pss_cons (ps_if (pt_cmpR (op_eqD hr.units) (pv 4) (pe_lst pa_nil) (nomark _))
    (pss_one (ps_ret (pv 2)))
    pss_nil)
    (pss_one (ps_setLc (i := 1) (own := [("one", 5)]) rfl sc_taken_out.nd rfl rfl (sw_true rfl rfl rfl (by decide +kernel)) (pi_list (pv 1)) (blkOk_by (own := [("one", 5)]) (N := ["folk", "left", "found", "name", "some", "one"]) (sc := (defScope s_taken_out)) (by decide +kernel)) (fun _ _ _ _ _ => (pg_name (i := 5) sc_taken_out.nd rfl (Or.inl rfl))) (fun _ _ _ _ _ => (pts_one (pt_cmpR op_ne (pv 5) (pv 3) (nomark _)))) (fun _ _ _ _ _ => (pv 5)))))))))
    (pss_one (ps_ret (pv 2)))))), ?_⟩
  obtain ⟨g, ns, rs, rfl, hf, F, q⟩ := h
  have hwf := F.folk.wf
  have hne := F.folk.ne
  have hln := F.nm.len
  have hh := F.hands
  refine rd_names (K := K) rfl hf F fun L0 H1 hL0 s1 l1 => ?_
  refine ⟨(by show 0 ≤ sizeLine; decide), fun D hD => ?_⟩
  have k1 := s1.trans (same_new hD (.lst []))
  have nD : H D = none := (Kp.of [] s1).free hD (by simp)
  refine ⟨fun m σ H' => ∃ (L : Addr) (ls : List Int) (dn : List (Int × List Int)) (ps : List Addr) (v3 v4 v5 : Option V), σ = [some (.ref g), some (.ref L), some (.ref D), v3, v4, v5] ∧
    Kp [D] H H' ∧ L ≠ D ∧ IL H' L ls ∧ H' D = some (.lst (ps.map V.ref)) ∧ Zp (RowF D H') ps dn ∧ taken rs ns = dn ++ taken rs ls ∧ Wf rs ls ∧ ls.length = m ∧ ls.length ≤ 10 ∧ 1 ≤ ls.length ∧ dn.length + ls.length = ns.length,
    ⟨ns.length, L0, ns, [], [], none, none, none, rfl, Kp.of _ k1, ?_, ?_, upd_same, trivial, rfl, hwf, rfl, by omega, by omega, by simp⟩, ?_⟩
  · exact fun e => by rw [← e, show H1 L0 = _ from l1] at hD; cases hD
  · exact same_new hD _ _ _ l1
  rintro m σ H2 ⟨L, ls, dn, ps, v3, v4, v5, rfl, k2, nL, l2, f2, z2, et, W, em, hl10, hl1, edl⟩
  refine ⟨_, rfl, L, _, rfl, .inl (SqI l2), _, _, rfl, rfl, _, rfl, ?_⟩
  have fin : ∀ {rows : List (Int × List Int)} {qs : List Addr} {H' : Hp}, Kp [D] H H' → H' D = some (.lst (qs.map V.ref)) → Zp (RowF D H') qs rows → taken rs ns = rows → Q (.ref D) H' := fun k f z e => by
    refine q D _ nD (k.drop nD).same ?_
    rw [e]
    exact ⟨_, f, z.imp fun _ _ _ _ r => r.row⟩
  refine ite2 (fun c => ?_) (fun c => ?_)
  · have c' : 1 < ls.length := by
      have := of_decide_eq_true c
      rw [List.length_map] at this
      omega
    have hfl : FL H2 g rs := by
      obtain ⟨qs, e1, e2⟩ := hf
      have nn : ∀ {b : Addr} {o : HO}, H b = some o → b ∉ [D] := fun e => no1 (ne_of_none e nD)
      exact ⟨qs, k2 _ _ (nn e1) e1, e2.imp fun p r _ _ rp => k2 _ _ (nn rp) rp⟩
    refine ⟨fun σ' H' => ∃ m', m' < m ∧ ∃ (L : Addr) (ls : List Int) (dn : List (Int × List Int)) (ps : List Addr) (v3 v4 v5 : Option V), σ' = [some (.ref g), some (.ref L), some (.ref D), v3, v4, v5] ∧
      Kp [D] H H' ∧ L ≠ D ∧ IL H' L ls ∧ H' D = some (.lst (ps.map V.ref)) ∧ Zp (RowF D H') ps dn ∧ taken rs ns = dn ++ taken rs ls ∧ Wf rs ls ∧ ls.length = m' ∧ ls.length ≤ 10 ∧ 1 ≤ ls.length ∧ dn.length + ls.length = ns.length, fun _ _ h => h, ?_⟩
    have hcut : ∀ r ∈ rs, cut r ls ≠ [] ∧ r.length ≤ 20 := fun r hr => by
      have h1 := W.len hr
      have h2 := F.rl hr
      refine ⟨fun e => ?_, by omega⟩
      rw [e] at h1
      simp at h1
      omega
    refine ⟨_, rfl, _, rfl, g, L, rs, ls, rfl, hfl, l2, hcut, by omega, fun A H3 hA s3 l3 => ?_⟩
    have hlast := first_last W hne hl1
    have hmem := hlast.mem
    refine ⟨A, _, _, _, rfl, rfl, SqI l3, lasts_head (lastsM_ne W hne hl1), ?_⟩
    have hfl3 : FL H3 g rs := mono_FL _ _ _ _ s3 hfl
    refine ⟨_, rfl, _, rfl, _, rfl, g, L, _, rs, ls, rfl, hfl3, s3 _ _ l2, fun r hr => ⟨(W.mem hr).mpr hmem, (hcut r hr).2⟩, by omega, by omega, fun S H4 hS s4 l4 => ?_⟩
    have s34 := s3.trans s4
    have f4 : H4 D = some (.lst (ps.map V.ref)) := s34 _ _ f2
    refine ⟨_, rfl, .inl ⟨rfl, _, SqL.of f4⟩, _, rfl, _, rfl, (by show 2 ≤ sizeLine; decide), fun t ht => ?_⟩
    have s5 := same_new ht (.tup [.int ((lastsM rs ls).headD 0), .ref S])
    have f5 := s5 _ _ f4
    have tD : t ≠ D := fun e => by rw [e, f4] at ht; cases ht
    have lps : ps.length = dn.length := z2.len
    have nS : S ≠ D := fun e => by rw [e, s3 _ _ f2] at hS; cases hS
    refine ⟨D, _, _, rfl, rfl, f5, ?_, ?_⟩
    · rw [List.length_map, lps]; exact small1000 (by omega)
    let H6 := upd (upd H4 t (.tup [.int ((lastsM rs ls).headD 0), .ref S])) D (.lst (ps.map V.ref ++ [.ref t]))
    have k6 : Kp [D] H2 H6 := ((Kp.of [D] s34).trans (Kp.of [D] s5)).trans (Kp.put (by simp))
    have k46 : Kp [D] H4 H6 := (Kp.of [D] s5).trans (Kp.put (by simp))
    have l6 : IL H6 S (hangs rs ls ((lastsM rs ls).headD 0)) := k46 _ _ (no1 nS) l4
    have t6 : H6 t = some (.tup [.int ((lastsM rs ls).headD 0), .ref S]) := by
      show upd _ D _ t = _
      rw [upd_ne tD, upd_same]
    have f6 : H6 D = some (.lst ((ps ++ [t]).map V.ref)) := by
      show upd _ D _ D = _
      rw [upd_same, List.map_append]; rfl
    have z6 : Zp (RowF D H6) (ps ++ [t]) (dn ++ [((lastsM rs ls).headD 0, hangs rs ls ((lastsM rs ls).headD 0))]) :=
      (z2.imp fun p x _ _ r => r.keep k6).app ⟨⟨tD, S, nS, t6, l6⟩, trivial⟩
    refine ⟨_, rfl, (by show 0 ≤ sizeLine; decide), fun e he => ?_⟩
    have s7 := same_new he (.lst [])
    refine rd_eqD enc_I (by decide) (x := hangs rs ls ((lastsM rs ls).headD 0)) (y := []) (dp_I (s7 _ _ l6)) (dp_I upd_same) ?_
    refine ⟨_, rfl, ?_⟩
    have k7 : Kp [D] H (upd H6 e (.lst [])) := (k2.trans k6).trans (Kp.of [D] s7)
    have z7 : Zp (RowF D (upd H6 e (.lst []))) (ps ++ [t]) _ := z6.imp fun p x _ _ r => r.keep (Kp.of [D] s7)
    refine ite2 (fun c2 => ?_) (fun c2 => ?_)
    · have c3 : hangs rs ls ((lastsM rs ls).headD 0) = [] := of_decide_eq_true c2
      refine ⟨_, rfl, fin k7 (s7 _ _ f6) z7 ?_⟩
      rw [et, taken_stop (by omega) c3, c3]
    · have c3 : hangs rs ls ((lastsM rs ls).headD 0) ≠ [] := fun e => c2 (decide_eq_true e)
      have lL : IL (upd H6 e (.lst [])) L ls := s7 _ _ (k6 _ _ (no1 nL) l2)
      refine ⟨_, rfl, L, rfl, ⟨_, SqI lL⟩, fun B hB => ?_⟩
      refine lc_int hB (fun z => !decide (z = (lastsM rs ls).headD 0)) (SqI lL) (by omega) (fun z H8 Y N hz s8 hY hN => ?_) (fun H8 s8 l8 => ?_)
      · refine ⟨rfl, _, rfl, _, rfl, rfl, _, rfl, ?_⟩
        refine ite2 (fun c => ⟨_, rfl, hY ?_⟩) (fun c => hN ?_)
        · simpa using c
        · simpa using c
      · have hdl := del_len W.nd hmem
        have nB : B ≠ D := fun e2 => by rw [e2, s7 _ _ f6] at hB; cases hB
        refine ⟨_, by omega, B, del ls ((lastsM rs ls).headD 0), _, ps ++ [t], _, _, _, rfl, k7.trans (Kp.of [D] s8), nB, l8, s8 _ _ (s7 _ _ f6), z7.imp fun p x _ _ r => r.keep (Kp.of [D] s8), ?_, W.del _, rfl, by omega, by omega, ?_⟩
        · rw [et, taken_step hne W (by omega) c3, List.append_assoc]; rfl
        · rw [List.length_append, List.length_singleton]; omega
  · have c' : ls.length ≤ 1 := by
      have : ¬ (1 : Int) < ((ls.map V.int).length : Nat) := fun e => c (decide_eq_true e)
      rw [List.length_map] at this
      omega
    exact ⟨_, rfl, fin k2 f2 z2 (by rw [et, taken_done c', List.append_nil])⟩
end
end G46
set_option maxHeartbeats 4000000
namespace G46
open PySem PySem.Spec PyProof.Rows L2
theorem cast_mul {a b : Nat} : ((a * b : Nat) : Int) = (a : Int) * (b : Int) := Int.natCast_mul a b
section
variable {P : Program} {w : World} {K : PySem.W.Frag} {mg : Str → Option Value} {base : Heap}
def spMany : Sp := fun vs H Q _ => ∃ (f : Addr) (ns : List Int) (rs : List (List Int)), vs = [.ref f] ∧ FL H f rs ∧ Flk ns rs ∧ ∀ H', Same H H' → Q (.int (many ns rs : Nat)) H'
theorem sc_trees_many : FnScope ["folk", "found", "name", "some"] ["folk"] (defScope s_trees_many) := ⟨rfl, rfl, rfl, by decide +kernel, rfl, by decide +kernel, by decide +kernel⟩
theorem has_trees_many (T : Tx w K mg) (h_must_be_folk : Has P w K mg base CX0 5 "must_be_folk" ["folk"] spMustFolk) (h_taken_out : Has P w K mg base CX0 3 "taken_out" ["folk"] spTaken) : Has P w K mg base CX0 6 "trees_many" ["folk"] spMany := by
  obtain ⟨f_must_be_folk, fd_must_be_folk, G_must_be_folk, M_must_be_folk, K_must_be_folk, B_must_be_folk⟩ := h_must_be_folk
  obtain ⟨f_taken_out, fd_taken_out, G_taken_out, M_taken_out, K_taken_out, B_taken_out⟩ := h_taken_out
  refine T.mk0 18 d_trees_many rfl rfl rfl rfl rfl sc_trees_many (fun vs H Q E h => ?_) (fun _ _ _ _ _ _ us hl => match us, hl with | [_], _ => rfl) (fun f cdv A outer s H vs Q E hr h => ?_)
  · obtain ⟨f, ns, rs, rfl, _⟩ := h; rfl
  refine ⟨_, (pss_cons (ps_expr (pe_call G_must_be_folk (hr.mono (by decide)) rfl M_must_be_folk K_must_be_folk B_must_be_folk .nil pass0 (pa_cons (pv 0) pa_nil)))
    (pss_cons (ps_set (i := 1) sc_trees_many.nd rfl (Or.inl rfl) pe_int)
    (pss_cons (ps_for PassesOwn.never rfl (pi_list (pe_call G_taken_out (hr.mono (by decide)) rfl M_taken_out K_taken_out B_taken_out .nil pass0 (pa_cons (pv 0) pa_nil))) (pg_tup rfl (pgs_cons (pg_name (i := 2) sc_trees_many.nd rfl (Or.inl rfl)) (pgs_cons (pg_name (i := 3) sc_trees_many.nd rfl (Or.inl rfl)) pgs_nil)))
    (pss_one (ps_set (i := 1) sc_trees_many.nd rfl (Or.inl rfl) (pe_op op_mul (pv 1) (pe_callB call_len_seq (by rfl) (T.free 69) (by decide +kernel) (pa_cons (pv 3) pa_nil))))))
    (pss_one (ps_ret (pv 1)))))), ?_⟩
  obtain ⟨g, ns, rs, rfl, hf, F, q⟩ := h
  have hrows := rows_in (taken_rows F.folk.ne F.folk.wf) F.folk.wf
  have hln := F.nm.len
  have h10 : ∀ r ∈ taken rs ns, r.2.length ≤ 10 := fun r hr => by have := (hrows.2 r hr).2.2; omega
  refine ⟨_, rfl, g, ns, rs, rfl, hf, F, fun H1 s1 => ?_⟩
  refine ⟨_, rfl, g, ns, rs, rfl, mono_FL _ _ _ _ s1 hf, F, fun p H2 _ s2 l2 => ?_⟩
  obtain ⟨ps, e2, z2⟩ := l2
  have lps : ps.length = (taken rs ns).length := z2.len
  refine ⟨p, rfl, ⟨_, SqL.of e2⟩, ?_⟩
  refine for_list (K := K) (a := p) (xs := ps.map V.ref) (fun i σ H' => ∃ (v2 v3 : Option V), σ = [some (.ref g), some (.int (prodR ((taken rs ns).take i) : Nat)), v2, v3] ∧ Same H2 H')
    ⟨none, none, rfl, Same.refl _⟩ (fun i σ H' _ ⟨_, _, _, s⟩ => SqL.of (s _ _ e2)) ?_ ?_
  · rintro i y σ H3 hy ⟨v2, v3, rfl, s3⟩
    obtain ⟨t, ht, rfl⟩ := map_get hy
    obtain ⟨r, hr, rp⟩ := z2.get ht
    obtain ⟨S, t1, t2⟩ := mono_RowP _ _ _ _ s3 rp
    have hi := lt_at hr
    have hb : prodR ((taken rs ns).take i) ≤ 10000000000 := prod_le10 (fun r hr => h10 r (List.mem_of_mem_take hr)) (by rw [List.length_take]; omega)
    have hb2 := h10 r (mem_at hr)
    refine ⟨t, _, rfl, SqT.of t1, rfl, _, _, rfl, _, _, rfl, rfl, ?_⟩
    refine ⟨_, rfl, _, rfl, S, _, rfl, .inl (SqI t2), _, _, rfl, rfl, .inl ⟨by omega, by omega⟩, ?_⟩
    · refine ⟨some (.int r.1), some (.ref S), ?_, s3⟩
      rw [prod_next hr, cast_mul, List.length_map]; rfl
  · rintro σ H3 ⟨v2, v3, rfl, s3⟩
    rw [List.length_map, lps, List.take_length]
    exact ⟨_, rfl, q H3 ((s1.trans s2).trans s3)⟩
/-- the walk's own product, its names drawn -/
inductive Pre (rs : List (List Int)) : List Int → List Int → Nat → Prop
  | nil {ls : List Int} : Pre rs ls ls 1
  | step {ls ms : List Int} {x : Int} {n : Nat} (p : Pre rs ls ms n) (h2 : 2 ≤ ms.length) (hl : IsLast rs ms x) : Pre rs ls (del ms x) (n * (hangs rs ms x).length)
theorem Pre.rows {rs : List (List Int)} {ls ms : List Int} {n : Nat} (p : Pre rs ls ms n) : ∀ {rows : List (Int × List Int)}, RowsR rs ms rows → ∃ rows', RowsR rs ls rows' ∧ prodR rows' = n * prodR rows := by
  induction p with
  | nil => exact fun {rows} R => ⟨rows, R, by omega⟩
  | @step ms x n p h2 hl ih =>
    intro rows R
    obtain ⟨rows', R', e⟩ := ih (RowsR.step h2 hl R)
    refine ⟨rows', R', ?_⟩
    rw [e]
    show n * ((hangs rs ms x).length * prodR rows) = _
    rw [Nat.mul_assoc]
def spLMany : Sp := fun vs H Q _ => ∃ (L f a : Addr) (ns : List Int) (rs : List (List Int)) (n : Int), vs = [.ref L, .ref f, .ref a] ∧ DS n H L ∧ n < 2 ^ 30 ∧ FL H f rs ∧ IL H a ns ∧ Flk ns rs ∧ L ≠ f ∧ L ≠ a ∧
  (∀ (ps : List Addr), H f = some (.lst (ps.map V.ref)) → L ∉ ps) ∧ ∀ o, DSt (n + 10) o → ∀ H', Kp [L] H H' → H' L = some o → Q (.int (many ns rs : Nat)) H'
theorem sc_law_many : FnScope ["_law_left_here", "_law_folk_here", "_law_names_here", "_law_rest", "_law_found", "_law_some", "_law_name", "_law_one"] ["_law_left_here", "_law_folk_here", "_law_names_here"] (defScope s_law_many) := ⟨rfl, rfl, rfl, by decide +kernel, rfl, by decide +kernel, by decide +kernel⟩
theorem has_law_many (T : Tx w K mg) (h_law_draw : Has P w K mg base CX0 2 "_law_draw" ["_law_left_here", "_law_base"] spDraw) (h_law_lasts : Has P w K mg base CX0 1 "_law_lasts" ["_law_folk_here", "_law_left_here"] spLasts) (h_law_hangs : Has P w K mg base CX0 1 "_law_hangs" ["_law_folk_here", "_law_left_here", "_law_name"] spHangs) : Has P w K mg base CX0 3 "_law_many" ["_law_left_here", "_law_folk_here", "_law_names_here"] spLMany := by
  obtain ⟨f_law_lasts, fd_law_lasts, G_law_lasts, M_law_lasts, K_law_lasts, B_law_lasts⟩ := h_law_lasts
  obtain ⟨f_law_draw, fd_law_draw, G_law_draw, M_law_draw, K_law_draw, B_law_draw⟩ := h_law_draw
  obtain ⟨f_law_hangs, fd_law_hangs, G_law_hangs, M_law_hangs, K_law_hangs, B_law_hangs⟩ := h_law_hangs
  refine T.mk0 39 d_law_many rfl rfl rfl rfl rfl sc_law_many (fun vs H Q E h => ?_) (fun _ _ _ _ _ _ us hl => match us, hl with | [_, _, _], _ => rfl) (fun f cdv A outer s H vs Q E hr h => ?_)
  · obtain ⟨L, f, a, ns, rs, n, rfl, _⟩ := h; rfl
  refine ⟨_, (pss_cons (ps_set (i := 3) sc_law_many.nd rfl (Or.inl rfl) (pe_callTy call_list_of (by rfl) (T.free 67) (by decide +kernel) (pa_cons (pv 2) pa_nil)))
    (pss_cons (ps_set (i := 4) sc_law_many.nd rfl (Or.inl rfl) pe_int)
    (pss_cons (ps_while PassesOwn.never (pt_cmpR op_gt (pe_callB call_len_seq (by rfl) (T.free 69) (by decide +kernel) (pa_cons (pv 3) pa_nil)) pe_int (nomark _))
    (pss_cons (ps_set (i := 5) sc_law_many.nd rfl (Or.inl rfl) (pe_call G_law_lasts (hr.mono (by decide)) rfl M_law_lasts K_law_lasts B_law_lasts .nil pass0 (pa_cons (pv 1) (pa_cons (pv 3) pa_nil))))
    (pss_cons (ps_set (i := 6) sc_law_many.nd rfl (Or.inr rfl) (pe_ix ix_list (pv 5) (pe_call G_law_draw (hr.mono (by decide)) rfl M_law_draw K_law_draw B_law_draw .nil pass0 (pa_cons (pv 0) (pa_cons (pe_callB call_len_seq (by rfl) (T.free 69) (by decide +kernel) (pa_cons (pv 5) pa_nil)) pa_nil))) (fun _ _ => rfl)))
    (pss_cons (ps_set (i := 4) sc_law_many.nd rfl (Or.inl rfl) (pe_op op_mul (pv 4) (pe_callB call_len_seq (by rfl) (T.free 69) (by decide +kernel) (pa_cons (pe_call G_law_hangs (hr.mono (by decide)) rfl M_law_hangs K_law_hangs B_law_hangs .nil pass0 (pa_cons (pv 1) (pa_cons (pv 3) (pa_cons (pv 6) pa_nil)))) pa_nil))))
    (pss_one (ps_setLc (i := 3) (own := [("_law_one", 7)]) rfl sc_law_many.nd rfl rfl (sw_true rfl rfl rfl (by decide +kernel)) (pi_list (pv 3)) (blkOk_by (own := [("_law_one", 7)]) (N := ["_law_left_here", "_law_folk_here", "_law_names_here", "_law_rest", "_law_found", "_law_some", "_law_name", "_law_one"]) (sc := (defScope s_law_many)) (by decide +kernel)) (fun _ _ _ _ _ => (pg_name (i := 7) sc_law_many.nd rfl (Or.inl rfl))) (fun _ _ _ _ _ => (pts_one (pt_cmpR op_ne (pv 7) (pv 6) (nomark _)))) (fun _ _ _ _ _ => (pv 7))))))))
    (pss_one (ps_ret (pv 4)))))), ?_⟩
  obtain ⟨D, g, a, ns, rs, n, rfl, ds, hn, hf, ha, F, nDg, nDa, nDp, q⟩ := h
  have e30 : (2 : Int) ^ 30 = 1073741824 := by decide
  have e40 : (2 : Int) ^ 40 = 1099511627776 := by decide
  have hwf := F.folk.wf
  have hne := F.folk.ne
  have hln := F.nm.len
  have hh := F.hands
  obtain ⟨qs, e1, e2⟩ := hf
  have nDq := nDp qs e1
  have kf : ∀ {H' : Hp}, Kp [D] H H' → FL H' g rs := fun k => ⟨qs, k _ _ (no1 (Ne.symm nDg)) e1, e2.imp fun p r hp _ rp => k _ _ (no1 fun e => nDq (by rw [← e]; exact hp)) rp⟩
  refine ⟨_, rfl, a, _, rfl, .inl (SqI ha), fun R0 hR0 => ?_⟩
  have s1 := same_new hR0 (.lst (ns.map V.int))
  have nR0 : R0 ≠ D := ds.ne hR0
  refine ⟨fun m σ H' => ∃ (R : Addr) (ls : List Int) (k : Nat) (i : Int) (v5 v6 v7 : Option V), σ = [some (.ref D), some (.ref g), some (.ref a), some (.ref R), some (.int (k : Nat)), v5, v6, v7] ∧
    Kp [D] H H' ∧ R ≠ D ∧ DS (n + i) H' D ∧ IL H' R ls ∧ Pre rs ns ls k ∧ k * prodR (taken rs ls) = many ns rs ∧ Wf rs ls ∧ ls.length = m ∧ 1 ≤ ls.length ∧ (ls.length : Int) + i = ns.length ∧ 0 ≤ i ∧ k ≤ 10 ^ i.toNat,
    ⟨ns.length, R0, ns, 1, 0, none, none, none, rfl, Kp.of _ s1, nR0, (ds.keep (Kp.of [] s1) (by simp)).mono (by omega), upd_same, .nil, by rw [Nat.one_mul]; rfl, hwf, rfl, by omega, by omega, by omega, by decide⟩, ?_⟩
  rintro m σ H2 ⟨R, ls, k, i, v5, v6, v7, rfl, k2, nR, d2, l2, pre, ek, W, em, hl1, eil, hi0, hk⟩
  refine ⟨_, rfl, R, _, rfl, .inl (SqI l2), _, _, rfl, rfl, _, rfl, ?_⟩
  refine ite2 (fun c => ?_) (fun c => ?_)
  · have c' : 1 < ls.length := by
      have := of_decide_eq_true c
      rw [List.length_map] at this
      omega
    refine ⟨fun σ' H' => ∃ m', m' < m ∧ ∃ (R : Addr) (ls : List Int) (k : Nat) (i : Int) (v5 v6 v7 : Option V), σ' = [some (.ref D), some (.ref g), some (.ref a), some (.ref R), some (.int (k : Nat)), v5, v6, v7] ∧
      Kp [D] H H' ∧ R ≠ D ∧ DS (n + i) H' D ∧ IL H' R ls ∧ Pre rs ns ls k ∧ k * prodR (taken rs ls) = many ns rs ∧ Wf rs ls ∧ ls.length = m' ∧ 1 ≤ ls.length ∧ (ls.length : Int) + i = ns.length ∧ 0 ≤ i ∧ k ≤ 10 ^ i.toNat, fun _ _ h => h, ?_⟩
    have hcut : ∀ r ∈ rs, cut r ls ≠ [] ∧ r.length ≤ 20 := fun r hr => by
      have h1 := W.len hr
      have h2 := F.rl hr
      refine ⟨fun e => ?_, by omega⟩
      rw [e] at h1
      simp at h1
      omega
    refine ⟨_, rfl, _, rfl, g, R, rs, ls, rfl, kf k2, l2, hcut, by omega, fun A H3 hA s3 l3 => ?_⟩
    have hne3 := lastsM_ne W hne hl1
    have hlen3 : 1 ≤ (lastsM rs ls).length := List.length_pos_iff.mpr hne3
    have hlen4 : (lastsM rs ls).length ≤ 20 := by
      have h1 : (lastsM rs ls).Nodup := (sortI_ris _).nd
      have := nodup_sub_len h1 fun x hx => (mem_lastsM.mp hx).mem
      omega
    refine ⟨_, rfl, ?_⟩
    have d3 : DS (n + i) H3 D := d2.keep (Kp.of [] s3) (by simp)
    refine ⟨_, rfl, _, rfl, A, _, rfl, .inl (SqI l3), D, _, n + i, rfl, d3, by omega, ?_, ?_, fun r o h0 h1 hd => ?_⟩
    · rw [List.length_map]; omega
    · have : (10 : Int) ^ 28 = 10000000000000000000000000000 := by decide
      rw [List.length_map]; omega
    rw [List.length_map] at h1
    have nA : A ≠ D := d2.ne hA
    have l4 : IL (upd H3 D o) A (lastsM rs ls) := by
      show upd H3 D o A = _
      rw [upd_ne nA]; exact l3
    obtain ⟨x, ex, hx, eat⟩ := ix_ints (xs := lastsM rs ls) h0 h1
    have hlast := mem_lastsM.mp hx
    have hmem := hlast.mem
    have k4 : Kp [D] H2 (upd H3 D o) := (Kp.of [D] s3).trans (Kp.put (by simp))
    refine ⟨A, _, _, _, rfl, rfl, SqI l4, eat, ?_⟩
    refine ⟨_, rfl, _, rfl, _, rfl, _, rfl, g, R, _, rs, ls, rfl, kf (k2.trans k4), k4 _ _ (no1 nR) l2, fun r hr => ⟨(W.mem hr).mpr hmem, (hcut r hr).2⟩, by omega, by omega, fun S H5 hS s5 l5 => ?_⟩
    have hdl := del_len W.nd hmem
    have hhl := hangs_len (rs := rs) (ls := ls) (x := x)
    have hk10 : k ≤ 10000000000 := Nat.le_trans hk (Nat.pow_le_pow_right (n := 10) (j := 10) (by decide) (by omega))
    refine ⟨S, _, rfl, .inl (SqI l5), _, _, rfl, rfl, .inl ⟨by omega, by omega⟩, ?_⟩
    have k5 : Kp [D] H2 H5 := k4.trans (Kp.of [D] s5)
    have l6 : IL H5 R ls := k5 _ _ (no1 nR) l2
    refine ⟨_, rfl, R, rfl, ⟨_, SqI l6⟩, fun B hB => ?_⟩
    refine lc_int hB (fun z => !decide (z = x)) (SqI l6) (by omega) (fun z H8 Y N hz s8 hY hN => ?_) (fun H8 s8 l8 => ?_)
    · refine ⟨rfl, _, rfl, _, rfl, rfl, _, rfl, ?_⟩
      refine ite2 (fun c => ⟨_, rfl, hY ?_⟩) (fun c => hN ?_)
      · simpa using c
      · simpa using c
    · have d5 : DS (n + i + 1) H5 D := (DS.at hd).keep (Kp.of [] s5) (by simp)
      have pre' := Pre.step pre (by omega) hlast
      obtain ⟨rows', R', er⟩ := pre'.rows (taken_rows hne (W.del x))
      refine ⟨_, by omega, B, del ls x, k * (hangs rs ls x).length, i + 1, some (.ref A), some (.int x), v7, ?_, (k2.trans k5).trans (Kp.of [D] s8), d5.ne hB, (d5.keep (Kp.of [] s8) (by simp)).mono (by omega), l8, pre', ?_, W.del _, rfl, by omega, by omega, by omega, ?_⟩
      · rw [cast_mul, List.length_map]; rfl
      · rw [← er]; exact many_eq F.folk R'
      · have e : (i + 1).toNat = i.toNat + 1 := by omega
        rw [e, Nat.pow_succ]
        exact Nat.mul_le_mul hk (by omega)
  · have c' : ls.length ≤ 1 := by
      have : ¬ (1 : Int) < ((ls.map V.int).length : Nat) := fun e => c (decide_eq_true e)
      rw [List.length_map] at this
      omega
    obtain ⟨o, e3, e4⟩ := d2
    have ek' : k = many ns rs := by
      rw [← ek, taken_done c']
      show k = k * 1
      omega
    refine ⟨_, rfl, ?_⟩
    rw [ek']
    refine q o ?_ H2 k2 e3
    obtain ⟨a', m', k', h1, h2, h3, h4, h5⟩ := e4
    exact ⟨a', m', k', h1, h2, h3, h4, by omega⟩
end
end G46
set_option maxHeartbeats 4000000
namespace G46
open PySem PySem.Spec PyProof.Rows L2
theorem drop_at {α : Type} {l : List α} {i : Nat} {x : α} (h : l[i]? = some x) : l.drop i = x :: l.drop (i + 1) := by
  obtain ⟨h1, h2⟩ := List.getElem?_eq_some_iff.mp h
  rw [List.drop_eq_getElem_cons h1, h2]
theorem prod_pos : ∀ {rows : List (Int × List Int)}, 0 < prodR rows → ∀ r ∈ rows, 0 < r.2.length
  | [], _ => fun r hr => (by cases hr)
  | a :: rows, h => fun r hr => by
    have h1 : 0 < a.2.length * prodR rows := h
    have h2 := Nat.pos_of_mul_pos_right h1
    have h3 := Nat.pos_of_mul_pos_left h1
    rcases List.mem_cons.mp hr with e | e
    · rw [e]; first | exact h2 | exact h3
    · first | exact prod_pos h3 r e | exact prod_pos h2 r e
/-- the loop of tree_number has at each row what it looks for -/
def NumOk (T : Ties) : List Int → List (Int × List Int) → Prop
  | _, [] => True
  | ls, r :: rows => (∃ y, ((del ls r.1).filter (fun o => decide (tie r.1 o ∈ T))).head? = some y ∧ y ∈ r.2) ∧ NumOk T (del ls r.1) rows
theorem num_ok {rs : List (List Int)} : ∀ {ls : List Int} {rows : List (Int × List Int)}, RowsR rs ls rows → Wf rs ls → ∀ T TL, Good rs ls TL → Rest ls T TL → NumOk T ls rows := by
  intro ls rows h
  induction h with
  | done h => exact fun _ _ _ _ _ => trivial
  | stop h2 hl he =>
    intro W T TL g hR
    obtain ⟨y, hy, _⟩ := good_del W g hl h2
    rw [he] at hy; cases hy
  | @step ls x rows h2 hl hr ih =>
    intro W T TL g hR
    obtain ⟨y, hy, ht, hu, g'⟩ := good_del W g hl h2
    have hx := hl.mem
    have hya := mem_hangs.mp hy
    have ea := at_head hR hx hya.1.1 hya.1.2 ht hu
    refine ⟨⟨y, ea, hy⟩, ih (W.del x) T _ g' fun t => ?_⟩
    constructor
    · rintro ⟨t1, t2, t3⟩
      have a2 := mem_del.mp t2
      have a3 := mem_del.mp t3
      exact List.mem_filter.mpr ⟨(hR t).mp ⟨t1, a2.1, a3.1⟩, by simp [tch, a2.2, a3.2]⟩
    · intro tf
      obtain ⟨t1, t2⟩ := List.mem_filter.mp tf
      obtain ⟨a, b, c⟩ := (hR t).mpr t1
      have e' : tch x t = false := by simpa using t2
      simp only [tch, Bool.or_eq_false_iff, decide_eq_false_iff_not] at e'
      exact ⟨a, mem_del.mpr ⟨b, e'.1⟩, mem_del.mpr ⟨c, e'.2⟩⟩
section
variable {K : PySem.W.Frag} {H : Hp}
theorem any_enc {α : Type} [DecidableEq α] {f : α → PyData} {k : Nat} (h : Enc f k) (x : α) : ∀ xs : List α, (xs.map f).any (fun z => PyData.eqv z (f x)) = decide (x ∈ xs)
  | [] => rfl
  | a :: xs => by
    rw [List.map_cons, List.any_cons, any_enc h x xs, h.dec]
    by_cases e : a = x
    · simp [e]
    · have e' : x ≠ a := fun q => e q.symm
      simp [e, e']
theorem rd_inD {α : Type} [DecidableEq α] {f : α → PyData} {k : Nat} (h : Enc f k) (hk : k + 1 ≤ 64) {v u : V} {x : α} {xs : List α} (hv : Dp K H v (f x)) (hu : Dp K H u (dL f xs)) {Q : VK} (q : Q (.bl (decide (x ∈ xs))) H) : rInD K v u H Q :=
  ⟨_, _, hv, hu, h.shaped (by omega) x, (enc_list h).shaped hk xs, by rw [any_enc h]; exact q⟩
theorem rd_notInD {α : Type} [DecidableEq α] {f : α → PyData} {k : Nat} (h : Enc f k) (hk : k + 1 ≤ 64) {v u : V} {x : α} {xs : List α} (hv : Dp K H v (f x)) (hu : Dp K H u (dL f xs)) {Q : VK} (q : Q (.bl (!decide (x ∈ xs))) H) : rNotInD K v u H Q :=
  ⟨_, _, hv, hu, h.shaped (by omega) x, (enc_list h).shaped hk xs, by rw [any_enc h]; exact q⟩
end
section
variable {P : Program} {w : World} {K : PySem.W.Frag} {mg : Str → Option Value} {base : Heap}
def spTreeBy (K : PySem.W.Frag) : Sp := fun vs H Q E => ∃ (f : Addr) (n : Int) (ns : List Int) (rs : List (List Int)), vs = [.ref f, .int n] ∧ FL H f rs ∧ Flk ns rs ∧
  (0 ≤ n ∧ n < (many ns rs : Nat) → ∀ p H', H p = none → Same H H' → TL H' p (treeBy ns rs n.toNat) → Q (.ref p) H') ∧ (¬ (0 ≤ n ∧ n < (many ns rs : Nat)) → ∀ H', Same H H' → E (.ref (He.ga K "NoNumber")) none H')
theorem sc_tree_by : FnScope ["folk", "number", "many", "found", "name", "some"] ["folk", "number"] (defScope s_tree_by) := ⟨rfl, rfl, rfl, by decide +kernel, rfl, by decide +kernel, by decide +kernel⟩
theorem has_tree_by (T : Tx w K mg) (h_trees_many : Has P w K mg base CX0 6 "trees_many" ["folk"] spMany) (h_taken_out : Has P w K mg base CX0 3 "taken_out" ["folk"] spTaken) (h_tie_of : Has P w K mg base CX0 1 "tie_of" ["one", "other"] spTie) : Has P w K mg base (L2.CX P w) 7 "tree_by" ["folk", "number"] (spTreeBy K) := by
  obtain ⟨f_trees_many, fd_trees_many, G_trees_many, M_trees_many, K_trees_many, B_trees_many⟩ := h_trees_many
  obtain ⟨f_taken_out, fd_taken_out, G_taken_out, M_taken_out, K_taken_out, B_taken_out⟩ := h_taken_out
  obtain ⟨f_tie_of, fd_tie_of, G_tie_of, M_tie_of, K_tie_of, B_tie_of⟩ := h_tie_of
  obtain ⟨xN, kN, bN, tN⟩ := He.exc_ok (T.fact 82 (f := .exc "NoNumber") rfl)
  have gN := T.glo 50 (x := "NoNumber")
  refine T.mkX 19 d_tree_by rfl rfl rfl rfl rfl sc_tree_by (fun vs H Q E h => ?_) (fun _ _ _ _ _ _ us hl => match us, hl with | [_, _], _ => rfl) (fun f cdv A outer s H vs Q E hr h => ?_)
  · obtain ⟨f, n, ns, rs, rfl, _⟩ := h; rfl
  refine ⟨_, (pss_cons (ps_set (i := 2) sc_tree_by.nd rfl (Or.inl rfl) (pe_call G_trees_many (hr.mono (by decide)) rfl M_trees_many K_trees_many B_trees_many .nil pass0 (pa_cons (pv 0) pa_nil)))
    (pss_cons (ps_if (PW.pt (pw_or (pt_cmpR op_lt (pv 1) pe_int (nomark _)) (pw_or1 (pt_cmpR op_ge (pv 1) (pv 2) (nomark _)))))
    (pss_one (ps_raise rfl (takes_of rfl rfl rfl rfl) (pmk_own PySem.F.excBase_ValueError xN gN kN (raises_own bN tN) (by exact rfl))))
    pss_nil)
    (pss_cons (ps_set (i := 3) sc_tree_by.nd rfl (Or.inl rfl) (pe_lst pa_nil))
    (pss_cons (ps_for (passes_of rfl) rfl (pi_list (pe_call G_taken_out (hr.mono (by decide)) rfl M_taken_out K_taken_out B_taken_out .nil pass0 (pa_cons (pv 0) pa_nil))) (pg_tup rfl (pgs_cons (pg_name (i := 4) sc_tree_by.nd rfl (Or.inl rfl)) (pgs_cons (pg_name (i := 5) sc_tree_by.nd rfl (Or.inl rfl)) pgs_nil)))
    (pss_cons (ps_expr (pe_bm PySem.F.plainAttrs_list PySem.F.slot_list_append PySem.F.type_list_append mt_append (pv 3) (pa_cons (pe_call G_tie_of (hr.mono (by decide)) rfl M_tie_of K_tie_of B_tie_of .nil pass0 (pa_cons (pv 4) (pa_cons (pe_ix ix_list (pv 5) (pe_op op_mod (pv 1) (pe_callB call_len_seq (by rfl) (T.free 69) (by decide +kernel) (pa_cons (pv 5) pa_nil))) (fun _ _ => rfl)) pa_nil))) pa_nil)))
    (pss_one (ps_set (i := 1) sc_tree_by.nd rfl (Or.inl rfl) (pe_op op_fdivW (pv 1) (pe_callB call_len_seq (by rfl) (T.free 69) (by decide +kernel) (pa_cons (pv 5) pa_nil)))))))
    (pss_one (ps_ret (pe_callB cr_sortedPO (by rfl) (T.free 72) (by decide +kernel) (pa_cons (pv 3) pa_nil)))))))), ?_⟩
  obtain ⟨g, n, ns, rs, rfl, hf, F, q, qE⟩ := h
  have hrows := rows_in (taken_rows F.folk.ne F.folk.wf) F.folk.wf
  have hln := F.nm.len
  have h10 : ∀ r ∈ taken rs ns, r.2.length ≤ 10 := fun r hr => by have := (hrows.2 r hr).2.2; omega
  have hmb := many_bd F
  refine ⟨_, rfl, g, ns, rs, rfl, hf, F, fun H1 s1 => ?_⟩
  refine ⟨_, rfl, _, _, rfl, rfl, _, rfl, ?_⟩
  refine ite2 (fun c => ?_) (fun c => ?_)
  · have c' : n < 0 := of_decide_eq_true c
    exact iteT (qE (fun h => by omega) H1 s1)
  have c0 : 0 ≤ n := by
    have : ¬ n < 0 := fun e => c (decide_eq_true e)
    omega
  refine ⟨_, rfl, _, rfl, _, _, rfl, rfl, _, rfl, ?_⟩
  refine ite2 (fun c => ?_) (fun c => ?_)
  · have c' : (many ns rs : Nat) ≤ n := of_decide_eq_true c
    exact qE (fun h => by omega) H1 s1
  have c1 : n < (many ns rs : Nat) := by
    have : ¬ (many ns rs : Nat) ≤ n := fun e => c (decide_eq_true e)
    omega
  have q' := q ⟨c0, c1⟩
  have hpos : ∀ r ∈ taken rs ns, 0 < r.2.length := prod_pos (by show 0 < many ns rs; omega)
  refine ⟨(by show 0 ≤ sizeLine; decide), fun D hD => ?_⟩
  have sD := same_new hD (.lst [])
  have nD : H D = none := (Kp.of [] s1).free hD (by simp)
  refine ⟨_, rfl, g, ns, rs, rfl, mono_FL _ _ _ _ (s1.trans sD) hf, F, fun p H2 hp s2 l2 => ?_⟩
  obtain ⟨ps, e2, z2⟩ := l2
  have lps : ps.length = (taken rs ns).length := z2.len
  have s02 := (s1.trans sD).trans s2
  have f2 : H2 D = some (.lst []) := s2 _ _ upd_same
  have pD : p ≠ D := fun e => by rw [e, upd_same] at hp; cases hp
  have z3 : Zp (RowF D H2) ps (taken rs ns) := z2.imp fun t r _ hr rp => by
    obtain ⟨S, t1, t2⟩ := rp
    refine ⟨fun e => ?_, S, fun e => ?_, t1, t2⟩
    · rw [e, f2] at t1; cases t1
    · have h1 := hpos r hr
      rw [e] at t2
      have h2 := il_inj (r := []) f2 t2
      rw [← h2] at h1
      exact absurd h1 (by decide)
  refine ⟨p, rfl, ⟨_, SqL.of e2⟩, ?_⟩
  refine for_list (K := K) (a := p) (xs := ps.map V.ref) (fun i σ H' => ∃ (qs : List Addr) (dn : Ties) (k : Nat) (v4 v5 : Option V), σ = [some (.ref g), some (.int (k : Nat)), some (.int (many ns rs : Nat)), some (.ref D), v4, v5] ∧ Kp [D] H2 H' ∧
    H' D = some (.lst (qs.map V.ref)) ∧ Zp (fun p t => p ≠ D ∧ TP H' p t) qs dn ∧ treeOf (taken rs ns) n.toNat = dn ++ treeOf ((taken rs ns).drop i) k ∧ dn.length = i ∧ k < 2 ^ 60)
    ⟨[], [], n.toNat, none, none, by rw [show ((n.toNat : Nat) : Int) = n by omega]; rfl, Kp.refl _ _, f2, trivial, rfl, rfl, by omega⟩ (fun i σ H' _ ⟨_, _, _, _, _, _, k, _⟩ => SqL.of (k _ _ (no1 pD) e2)) ?_ ?_
  · rintro i y σ H3 hy ⟨qs, dn, k, v4, v5, rfl, k3, f3, z4, et, ed, kb⟩
    obtain ⟨t, ht, rfl⟩ := map_get hy
    obtain ⟨r, hr, rp⟩ := z3.get ht
    obtain ⟨tD, S, nS, t1, t2⟩ := rp.keep k3
    have hrm := mem_at hr
    have hi := lt_at hr
    have lqs : qs.length = dn.length := z4.len
    have r0 := hpos r hrm
    have r1 := h10 r hrm
    refine ⟨t, _, rfl, SqT.of t1, rfl, _, _, rfl, _, _, rfl, rfl, ?_⟩
    refine ⟨_, rfl, .inl ⟨rfl, _, SqL.of f3⟩, ?_⟩
    refine ⟨_, rfl, _, rfl, _, rfl, _, rfl, S, _, rfl, .inl (SqI t2), _, _, rfl, rfl, ?_, ?_⟩
    · show (0 : Int) < ((r.2.map V.int).length : Nat)
      rw [List.length_map]; omega
    have em : ((k : Nat) : Int) % ((r.2.map V.int).length : Nat) = ((k % r.2.length : Nat) : Int) := by rw [List.length_map]; omega
    have hlt := Nat.mod_lt k r0
    have eg : r.2[k % r.2.length]? = some (r.2.getD (k % r.2.length) 0) := by
      rw [List.getD_eq_getElem?_getD, List.getElem?_eq_getElem hlt]; rfl
    refine ⟨S, _, _, _, rfl, rfl, SqI t2, at_of (j := k % r.2.length) em (by rw [List.getElem?_map, eg]; rfl), ?_⟩
    refine ⟨_, _, rfl, fun B H4 hB s4 l4 => ?_⟩
    have BD : B ≠ D := fun e => by rw [e, f3] at hB; cases hB
    have f4 : H4 D = some (.lst (qs.map V.ref)) := s4 _ _ f3
    refine ⟨D, _, _, rfl, rfl, f4, ?_, ?_⟩
    · rw [List.length_map, lqs]; exact small1000 (by omega)
    have k5 : Kp [D] H3 (upd H4 D (.lst (qs.map V.ref ++ [.ref B]))) := (Kp.of [D] s4).trans (Kp.put (by simp))
    have t6 := k5 _ _ (no1 nS) t2
    refine ⟨_, rfl, _, rfl, S, _, rfl, .inl (SqI t6), _, _, rfl, rfl, ?_, ?_⟩
    · refine b28 ?_ ?_
      · rw [List.length_map]; omega
      · have : (10 : Int) ^ 28 = 10000000000000000000000000000 := by decide
        rw [List.length_map]; omega
    · have ev : ((k : Nat) : Int) / ((r.2.map V.int).length : Nat) = ((k / r.2.length : Nat) : Int) := by rw [List.length_map]; omega
      refine ⟨qs ++ [B], dn ++ [tie r.1 (r.2.getD (k % r.2.length) 0)], k / r.2.length, some (.int r.1), some (.ref S), ?_, k3.trans k5, ?_, ?_, ?_, ?_, ?_⟩
      · rw [← ev]; rfl
      · show upd _ D _ D = _
        rw [upd_same, List.map_append]; rfl
      · refine Zp.app (z4.imp fun p x _ _ h => ⟨h.1, k5 _ _ (no1 h.1) h.2⟩) ⟨⟨BD, ?_⟩, trivial⟩
        show upd _ D _ B = _
        rw [upd_ne BD]; exact l4
      · rw [et, drop_at hr, List.append_assoc]; rfl
      · rw [List.length_append, List.length_singleton, ed]
      · exact Nat.lt_of_le_of_lt (Nat.div_le_self _ _) kb
  · rintro σ H3 ⟨qs, dn, k, v4, v5, rfl, k3, f3, z4, et, ed, kb⟩
    rw [List.length_map, lps, List.drop_length] at et
    have et' : treeOf (taken rs ns) n.toNat = dn := by rw [et]; exact List.append_nil dn
    have gd := (tree_of_num (taken_rows F.folk.ne F.folk.wf) F.folk.wf hln.1 n.toNat (by show _ < many ns rs; omega)).1
    rw [et'] at gd
    have k03 : Kp [D] H H3 := (Kp.of [D] s02).trans k3
    refine ⟨_, rfl, rd_sortT (K := K) ⟨qs, f3, z4.imp fun _ _ _ _ h => h.2⟩ gd.nd fun p' H4 hp' s4 l4 => ?_⟩
    have s04 : Same H H4 := (k03.drop nD).same.trans s4
    refine q' p' H4 ((k03.drop nD).free hp' (by simp)) s04 ?_
    unfold treeBy
    rw [et']; exact l4
end
end G46
set_option maxHeartbeats 4000000
namespace G46
open PySem PySem.Spec PyProof.Rows L2
theorem dec_t {p : Prop} (i j : Decidable p) (h : @decide p i = true) : @decide p j = true := @decide_eq_true p j (@of_decide_eq_true p i h)
theorem dec_f {p : Prop} (i j : Decidable p) (h : ¬ @decide p i = true) : @decide p j = false := @decide_eq_false p j fun q => h (@decide_eq_true p i q)
theorem lc_intS {K : PySem.W.Frag} {a : Addr} {ns : List Int} {g : TG} {tt : TT} {te : TE} {vs : List Nat} {σ : L2.St} {H1 : Hp} {D : Addr} (hD : H1 D = none) {Q : Hp → Prop} (p : Int → Bool) (hl : SqL K H1 a (ns.map V.int)) (hz : ns.length ≤ 1000)
    (hs : ∀ (z : Int) (H : Hp) (Y : V → Hp → Prop) (N : Hp → Prop), z ∈ ns → Same H1 H → (∀ H', Same H H' → p z = true → Y (.int z) H') → (∀ H', Same H H' → p z = false → N H') →
      g (.int z) (wipe σ vs) H fun σ2 H2 => wipe σ2 vs = wipe σ vs ∧ tt σ2 H2 fun b H3 => if b = true then te σ2 H3 Y else N H3)
    (hq : ∀ H', Same H1 H' → IL H' D (ns.filter p) → Q H') :
    ∃ W : Nat → Nat → Hp → Prop, (∃ m, W 0 m (upd H1 D (.lst []))) ∧ ∀ i m H, W i m H →
      ((Itl K a).stop i H ∧ Q H) ∨ ((Itl K a).go i H ∧ ∃ Nx : Hp → Prop, (∀ H', Nx H' → ∃ m', m' < m ∧ W (i + 1) m' H') ∧ ∀ x H', (Itl K a).yld i H x H' → g x (wipe σ vs) H' fun σ2 H2 => wipe σ2 vs = wipe σ vs ∧ tt σ2 H2 fun b H3 =>
        if b = true then te σ2 H3 fun y H4 => ∃ acc, H4 D = some (.lst acc) ∧ acc.length < sizeLine ∧ Nx (upd H4 D (.lst (acc ++ [y]))) else Nx H3) := by
  refine lc_fm hD (fI p) hl (by rw [List.length_map]; exact hz) (fun x H Y N hx s hY hN => ?_) (fun H' h2 h3 => hq H' h2 (by rw [fm_ints] at h3; exact h3))
  obtain ⟨z, hz', rfl⟩ := List.mem_map.mp hx
  refine hs z H Y N hz' s (fun H' s' h => hY _ H' ?_ s') (fun H' s' h => hN H' ?_ s')
  · show (if p z = true then some (V.int z) else none) = _
    rw [if_pos h]
  · show (if p z = true then some (V.int z) else none) = _
    rw [if_neg (by rw [h]; decide)]
section
variable {P : Program} {w : World} {K : PySem.W.Frag} {mg : Str → Option Value} {base : Heap}
def spTreeNum (K : PySem.W.Frag) : Sp := fun vs H Q E => ∃ (f b : Addr) (ns : List Int) (rs : List (List Int)) (ts : Ties), vs = [.ref f, .ref b] ∧ FL H f rs ∧ TL H b ts ∧ Flk ns rs ∧ RTree ns ts ∧
  ((∀ r ∈ rs, Falls ts r) → ∀ H', Same H H' → Q (.int (numBy ns rs ts : Nat)) H') ∧ ((¬ ∀ r ∈ rs, Falls ts r) → ∀ H', Same H H' → E (.ref (He.ga K "NoFit")) none H')
theorem sc_tree_number : FnScope ["folk", "tree", "names", "found", "wide", "left", "name", "some", "at", "one", "other"] ["folk", "tree"] (defScope s_tree_number) := ⟨rfl, rfl, rfl, by decide +kernel, rfl, by decide +kernel, by decide +kernel⟩
theorem has_tree_number (T : Tx w K mg) (h_names_by : Has P w K mg base CX0 6 "names_by" ["folk"] spNamesBy) (h_must_be_tree : Has P w K mg base CX0 4 "must_be_tree" ["names", "tree"] spMust) (h_tree_wrong : Has P w K mg base CX0 4 "tree_wrong" ["folk", "names", "thing"] spWrong) (h_taken_out : Has P w K mg base CX0 3 "taken_out" ["folk"] spTaken) (h_tie_of : Has P w K mg base CX0 1 "tie_of" ["one", "other"] spTie) : Has P w K mg base (L2.CX P w) 7 "tree_number" ["folk", "tree"] (spTreeNum K) := by
  obtain ⟨f_names_by, fd_names_by, G_names_by, M_names_by, K_names_by, B_names_by⟩ := h_names_by
  obtain ⟨f_must_be_tree, fd_must_be_tree, G_must_be_tree, M_must_be_tree, K_must_be_tree, B_must_be_tree⟩ := h_must_be_tree
  obtain ⟨f_tree_wrong, fd_tree_wrong, G_tree_wrong, M_tree_wrong, K_tree_wrong, B_tree_wrong⟩ := h_tree_wrong
  obtain ⟨f_taken_out, fd_taken_out, G_taken_out, M_taken_out, K_taken_out, B_taken_out⟩ := h_taken_out
  obtain ⟨f_tie_of, fd_tie_of, G_tie_of, M_tie_of, K_tie_of, B_tie_of⟩ := h_tie_of
  obtain ⟨xN, kN, bN, tN⟩ := He.exc_ok (T.fact 83 (f := .exc "NoFit") rfl)
  have gN := T.glo 48 (x := "NoFit")
  refine T.mkX 20 d_tree_number rfl rfl rfl rfl rfl sc_tree_number (fun vs H Q E h => ?_) (fun _ _ _ _ _ _ us hl => match us, hl with | [_, _], _ => rfl) (fun f cdv A outer s H vs Q E hr h => ?_)
  · obtain ⟨f, b, ns, rs, ts, rfl, _⟩ := h; rfl
  refine ⟨_, (pss_cons (ps_set (i := 2) sc_tree_number.nd rfl (Or.inl rfl) (pe_call G_names_by (hr.mono (by decide)) rfl M_names_by K_names_by B_names_by .nil pass0 (pa_cons (pv 0) pa_nil)))
    (pss_cons (ps_expr (pe_call G_must_be_tree (hr.mono (by decide)) rfl M_must_be_tree K_must_be_tree B_must_be_tree .nil pass0 (pa_cons (pv 2) (pa_cons (pv 1) pa_nil))))
    (pss_cons (ps_if (pt_cmpR op_notN (pe_call G_tree_wrong (hr.mono (by decide)) rfl M_tree_wrong K_tree_wrong B_tree_wrong .nil pass0 (pa_cons (pv 0) (pa_cons (pv 2) (pa_cons (pv 1) pa_nil)))) pe_non (nomark _))
    (pss_one (ps_raise rfl (takes_of rfl rfl rfl rfl) (pmk_own PySem.F.excBase_ValueError xN gN kN (raises_own bN tN) (by exact rfl))))
    pss_nil)
    (pss_cons (ps_set (i := 3) sc_tree_number.nd rfl (Or.inl rfl) pe_int)
    (pss_cons (ps_set (i := 4) sc_tree_number.nd rfl (Or.inl rfl) pe_int)
    (pss_cons (ps_set (i := 5) sc_tree_number.nd rfl (Or.inl rfl) (pv 2))
    (pss_cons (ps_for (passes_of rfl) rfl (pi_list (pe_call G_taken_out (hr.mono (by decide)) rfl M_taken_out K_taken_out B_taken_out .nil pass0 (pa_cons (pv 0) pa_nil))) (pg_tup rfl (pgs_cons (pg_name (i := 6) sc_tree_number.nd rfl (Or.inr rfl)) (pgs_cons (pg_name (i := 7) sc_tree_number.nd rfl (Or.inl rfl)) pgs_nil)))
    (pss_cons (ps_setLc (i := 5) (own := [("one", 9)]) rfl sc_tree_number.nd rfl rfl (sw_true rfl rfl rfl (by decide +kernel)) (pi_list (pv 5)) (blkOk_by (own := [("one", 9)]) (N := ["folk", "tree", "names", "found", "wide", "left", "name", "some", "at", "one", "other"]) (sc := (defScope s_tree_number)) (by decide +kernel)) (fun _ _ _ _ _ => (pg_name (i := 9) sc_tree_number.nd rfl (Or.inl rfl))) (fun _ _ _ _ _ => (pts_one (pt_cmpR op_ne (pv 9) (pv 6) (nomark _)))) (fun _ _ _ _ _ => (pv 9)))
    (pss_cons (ps_set (i := 8) sc_tree_number.nd rfl (Or.inl rfl) (pe_ix ix_list (pe_lc (own := [("other", 10)]) (tt := (tTest (tOp (rInD K) (tCall spTie [] E0 (tCons (tVar 6) (tCons (tVar 10) tNil))) (tVar 1)))) rfl sc_tree_number.nd (pi_list (pv 5)) (blkOk_by (own := [("other", 10)]) (N := ["folk", "tree", "names", "found", "wide", "left", "name", "some", "at", "one", "other"]) (sc := (defScope s_tree_number)) (by decide +kernel)) (fun _ _ _ _ _ => (pg_name (i := 10) sc_tree_number.nd rfl (Or.inl rfl))) (fun _ _ _ _ _ => (pts_one (pt_cmpR (op_inD (un65 hr)) (pe_call G_tie_of (hr.mono (by decide)) rfl M_tie_of K_tie_of B_tie_of .nil pass0 (pa_cons (pv 6) (pa_cons (pv 10) pa_nil))) (pv 1) rfl))) (fun _ _ _ _ _ => (pv 10))) pe_int (fun _ _ => rfl)))
    (pss_cons (ps_aug (i := 3) sc_tree_number.nd rfl (Or.inl rfl) (pe_op op_mul (pv 4) (pe_bm PySem.F.plainAttrs_list PySem.F.slot_list_index PySem.F.type_list_index mt_index (pv 7) (pa_cons (pv 8) pa_nil))) ip_add)
    (pss_one (ps_set (i := 4) sc_tree_number.nd rfl (Or.inl rfl) (pe_op op_mul (pv 4) (pe_callB call_len_seq (by rfl) (T.free 69) (by decide +kernel) (pa_cons (pv 7) pa_nil)))))))))
    (pss_one (ps_ret (pv 3)))))))))), ?_⟩
  obtain ⟨g, b, ns, rs, ts, rfl, hf, hb, F, rt, q, qE⟩ := h
  have hrows := rows_in (taken_rows F.folk.ne F.folk.wf) F.folk.wf
  have hln := F.nm.len
  have h10 : ∀ r ∈ taken rs ns, r.2.length ≤ 10 := fun r hr => by have := (hrows.2 r hr).2.2; omega
  have htl := rt.len
  refine ⟨_, rfl, g, ns, rs, rfl, hf, F, fun a H1 s1 l1 => ?_⟩
  refine ⟨_, rfl, _, rfl, a, b, ns, ts, rfl, l1, mono_TL _ _ _ _ s1 hb, F.nm, rt, fun H2 s2 => ?_⟩
  have s12 := s1.trans s2
  refine ⟨_, rfl, _, rfl, _, rfl, g, a, b, ns, rs, ts, rfl, mono_FL _ _ _ _ s12 hf, s2 _ _ l1, mono_TL _ _ _ _ s12 hb, F, rt, fun v H3 s3 hv => ?_⟩
  have s13 := s12.trans s3
  refine ⟨rfl, _, rfl, ?_⟩
  rcases hv with ⟨rfl, hv⟩ | ⟨⟨k, rfl⟩, hv⟩
  rotate_left
  · have en : (!decide (V.ref k = V.non)) = true := by simp
    rw [en]
    exact iteT (qE hv H3 s13)
  refine iteNS rfl ?_
  have q' := q hv
  have gd : Good rs ns ts := ((good_iff F.folk).mpr ⟨rt, hv⟩).1
  have nok := num_ok (taken_rows F.folk.ne F.folk.wf) F.folk.wf ts ts gd (rest_self gd)
  refine ⟨_, rfl, ?_⟩
  refine ⟨_, rfl, g, ns, rs, rfl, mono_FL _ _ _ _ s13 hf, F, fun p H4 hp s4 l4 => ?_⟩
  obtain ⟨ps, e2, z2⟩ := l4
  have lps : ps.length = (taken rs ns).length := z2.len
  have s14 := s13.trans s4
  refine ⟨p, rfl, ⟨_, SqL.of e2⟩, ?_⟩
  refine for_list (K := K) (a := p) (xs := ps.map V.ref) (fun i σ H' => ∃ (L : Addr) (ls : List Int) (fo : Nat) (v6 v7 v8 v9 v10 : Option V), σ = [some (.ref g), some (.ref b), some (.ref a), some (.int (fo : Nat)), some (.int (prodR ((taken rs ns).take i) : Nat)), some (.ref L), v6, v7, v8, v9, v10] ∧
    Same H4 H' ∧ IL H' L ls ∧ ls.length ≤ 10 ∧ numBy ns rs ts = fo + prodR ((taken rs ns).take i) * numOf ls ((taken rs ns).drop i) ts ∧ NumOk ts ls ((taken rs ns).drop i))
    ⟨a, ns, 0, none, none, none, none, none, rfl, Same.refl _, s4 _ _ (s3 _ _ (s2 _ _ l1)), by omega, ?_, nok⟩ (fun i σ H' _ ⟨_, _, _, _, _, _, _, _, _, s, _⟩ => SqL.of (s _ _ e2)) ?_ ?_
  · show numBy ns rs ts = 0 + 1 * numOf ns (taken rs ns) ts
    rw [Nat.zero_add, Nat.one_mul]; rfl
  · rintro i y σ H5 hy ⟨L, ls, fo, v6, v7, v8, v9, v10, rfl, s5, l5, hl5, en, ok⟩
    obtain ⟨t, ht, rfl⟩ := map_get hy
    obtain ⟨r, hr, rp⟩ := z2.get ht
    obtain ⟨S, t1, t2⟩ := mono_RowP _ _ _ _ s5 rp
    have hrm := mem_at hr
    have hi := lt_at hr
    have r1 := h10 r hrm
    rw [drop_at hr] at en ok
    obtain ⟨⟨at', hat, hin⟩, ok'⟩ := ok
    refine ⟨t, _, rfl, SqT.of t1, rfl, _, _, rfl, _, _, rfl, rfl, ?_⟩
    refine ⟨_, rfl, L, rfl, ⟨_, SqI l5⟩, fun B hB => ?_⟩
    refine lc_int hB (fun z => !decide (z = r.1)) (SqI l5) (by omega) (fun z H8 Y N hz s8 hY hN => ?_) (fun H6 s6 l6 => ?_)
    · refine ⟨rfl, _, rfl, _, rfl, rfl, _, rfl, ?_⟩
      refine ite2 (fun c => ⟨_, rfl, hY ?_⟩) (fun c => hN ?_)
      · simpa using c
      · simpa using c
    have l6' : IL H6 B (del ls r.1) := l6
    have hdl : (del ls r.1).length ≤ ls.length := List.length_filter_le _ _
    have s56 := s5.trans s6
    refine ⟨_, rfl, B, rfl, ⟨_, SqI l6'⟩, fun C hC => ?_⟩
    refine lc_intS hC (fun o => decide (tie r.1 o ∈ ts)) (SqI l6') (by omega) (fun z H8 Y N hz s8 hY hN => ?_) (fun H7 s7 l7 => ?_)
    · refine ⟨rfl, _, rfl, _, rfl, _, _, rfl, fun pt H9 hpt s9 l9 => ?_⟩
      have hb9 : TL H9 b ts := mono_TL _ _ _ _ (((s14.trans s56).trans s8).trans s9) hb
      refine ⟨_, rfl, rd_inD enc_tie (by decide) (x := tie r.1 z) (xs := ts) (dp_tie l9) (dp_T hb9) ⟨_, rfl, ?_⟩⟩
      refine ite2 (fun c => ⟨_, rfl, hY _ s9 ?_⟩) (fun c => hN _ s9 ?_)
      · exact dec_t _ _ c
      · exact dec_f _ _ c
    have s67 := s56.trans s7
    have e0 : ((del ls r.1).filter fun o => decide (tie r.1 o ∈ ts))[0]? = some at' := by rw [← List.head?_eq_getElem?]; exact hat
    refine ⟨C, _, _, _, rfl, rfl, SqI l7, at_of (j := 0) rfl (by rw [List.getElem?_map, e0]; rfl), ?_⟩
    have t7 : IL H7 S r.2 := s7 _ _ (s6 _ _ t2)
    have hb10 : prodR ((taken rs ns).take i) ≤ 10000000000 := prod_le10 (fun r hr => h10 r (List.mem_of_mem_take hr)) (by rw [List.length_take]; omega)
    have hix := List.idxOf_lt_length_of_mem hin
    refine ⟨_, rfl, _, rfl, _, rfl, .inl ⟨rfl, _, SqI t7⟩, rd_idxV rfl (SqI t7) hin ?_⟩
    refine ⟨_, _, rfl, rfl, .inl ⟨by omega, by omega⟩, _, _, rfl, rfl, ?_⟩
    refine ⟨_, rfl, _, rfl, S, _, rfl, .inl (SqI t7), _, _, rfl, rfl, .inl ⟨by omega, by omega⟩, ?_⟩
    have ea : atOf ls r.1 ts = at' := by
      unfold atOf
      rw [List.headD_eq_head?_getD, hat]; rfl
    refine ⟨B, del ls r.1, fo + prodR ((taken rs ns).take i) * r.2.idxOf at', some (.int r.1), some (.ref S), some (.int at'), v9, v10, ?_, s67, s7 _ _ l6', by omega, ?_, ok'⟩
    · rw [prod_next hr, cast_mul, Int.natCast_add, cast_mul, List.length_map]; rfl
    · rw [en, prod_next hr]
      show _ + _ * (r.2.idxOf (atOf ls r.1 ts) + r.2.length * _) = _
      rw [ea, Nat.mul_add, Nat.mul_assoc, Nat.add_assoc]
  · rintro σ H5 ⟨L, ls, fo, v6, v7, v8, v9, v10, rfl, s5, l5, hl5, en, ok⟩
    rw [List.length_map, lps, List.drop_length] at en
    have en' : numBy ns rs ts = fo := en
    refine ⟨_, rfl, ?_⟩
    rw [← en']
    exact q' H5 (s14.trans s5)
end
end G46
set_option maxHeartbeats 4000000
namespace G46
open PySem PySem.Spec PyProof.Rows L2
/-- a dict of the names: x to p x -/
def dk (p : Int → Int) (ns : List Int) : List (Key × V) := ns.map fun x => (Sum.inl x, V.int (p x))
theorem dk_congr {p p' : Int → Int} {ns : List Int} (h : ∀ x ∈ ns, p x = p' x) : dk p ns = dk p' ns := List.map_congr_left fun x hx => by rw [h x hx]
theorem dk_get {p : Int → Int} {x : Int} : ∀ {ns : List Int}, x ∈ ns → valV (dk p ns) (Sum.inl x) = some (V.int (p x))
  | a :: ns, h => by
    by_cases e : a = x
    · subst e; exact valV_pos (p := (Sum.inl a, V.int (p a))) rfl
    · have h1 : ¬ (Sum.inl a : Key) = Sum.inl x := fun q => e (Sum.inl.inj q)
      have h2 : x ∈ ns := (List.mem_cons.mp h).resolve_left fun q => e q.symm
      exact (valV_neg (p := (Sum.inl a, V.int (p a))) h1).trans (dk_get h2)
theorem dk_put {p : Int → Int} {x v : Int} {ns : List Int} (h : x ∈ ns) : putK (dk p ns) (Sum.inl x) (V.int v) = dk (fun y => if y = x then v else p y) ns := by
  unfold putK
  rw [if_pos (by rw [valV_any, dk_get h]; rfl)]
  unfold dk
  rw [List.map_map]
  refine List.map_congr_left fun y _ => ?_
  show (if (Sum.inl y : Key) = Sum.inl x then ((Sum.inl y : Key), V.int v) else (Sum.inl y, V.int (p y))) = (Sum.inl y, V.int (if y = x then v else p y))
  by_cases e : y = x
  · rw [if_pos (by rw [e]), if_pos e]
  · rw [if_neg (fun q => e (Sum.inl.inj q)), if_neg e]
theorem dk_new : ∀ {ns pre : List Int}, (pre ++ ns).Nodup → mergeK (dk (fun x => x) pre) (dk (fun x => x) ns) = dk (fun x => x) (pre ++ ns)
  | [], pre, _ => by rw [List.append_nil]; rfl
  | a :: ns, pre, h => by
    have h2 : pre ++ a :: ns = (pre ++ [a]) ++ ns := by simp
    have ha : a ∉ pre := fun q => (List.nodup_append.mp h).2.2 a q a List.mem_cons_self rfl
    have e : putK (dk (fun x => x) pre) (Sum.inl a) (V.int a) = dk (fun x => x) (pre ++ [a]) := by
      unfold putK
      rw [if_neg]
      · unfold dk; rw [List.map_append]; rfl
      · intro q
        obtain ⟨kv, h3, h4⟩ := List.any_eq_true.mp q
        obtain ⟨y, hy, e⟩ := List.mem_map.mp h3
        have h5 := of_decide_eq_true h4
        rw [← e] at h5
        have h6 : y = a := Sum.inl.inj h5
        exact ha (h6 ▸ hy)
    show mergeK (putK (dk (fun x => x) pre) (Sum.inl a) (V.int a)) (dk (fun x => x) ns) = _
    rw [e, h2, dk_new (by rw [← h2]; exact h)]
theorem dk_len {p : Int → Int} {ns : List Int} : (dk p ns).length = ns.length := List.length_map _
theorem dk_pairs {K : PySem.W.Frag} {H : Hp} : ∀ {ps : List Addr} {ns : List Int}, Zp (fun p x => H p = some (.tup [.int x, .int x])) ps ns → Paired (fun p (kv : Key × V) => SqT K H p [kV kv.1, kv.2]) ps (dk (fun x => x) ns)
  | [], [], _ => .nil
  | _ :: _, _ :: _, z => .cons (SqT.of z.1) (dk_pairs z.2)
  | [], _ :: _, z => z.elim
  | _ :: _, [], z => z.elim
theorem dk_at {H : Hp} {D : Addr} {p : Int → Int} {ns : List Int} {x : Int} (h : H D = some (.dK (dk p ns))) (hx : x ∈ ns) : DGet H D (.int x) (some (V.int (p x))) := by
  have e := DGet.k (k := Sum.inl x) h
  rw [dk_get hx] at e
  exact e
/-- the names looked at so far have the new part -/
def rel (p : Int → Int) (t : Int × Int) (l : List Int) : Int → Int := fun x => if x ∈ l ∧ p x = p t.2 then p t.1 else p x
theorem rel_all {p : Int → Int} {t : Int × Int} {ns : List Int} : ∀ x ∈ ns, rel p t ns x = relab p t x := fun x hx => by
  unfold rel relab
  by_cases e : p x = p t.2
  · rw [if_pos ⟨hx, e⟩, if_pos e]
  · rw [if_neg (fun q => e q.2), if_neg e]
section
variable {P : Program} {w : World} {K : PySem.W.Frag} {mg : Str → Option Value} {base : Heap}
def spRing : Sp := fun vs H Q _ => ∃ (b a : Addr) (ts : Ties) (ns : List Int), vs = [.ref b, .ref a] ∧ TL H b ts ∧ IL H a ns ∧ ns.Nodup ∧ ns.length ≤ 10 ∧ ts.length ≤ 1000 ∧ (∀ t ∈ ts, t.1 ∈ ns ∧ t.2 ∈ ns) ∧
  ∀ H', Same H H' → Q (.bl (noRing (fun x => x) ts)) H'
theorem sc_law_no_ring : FnScope ["_law_ties", "_law_names_here", "_law_parts", "_law_one", "_law_other", "_law_old", "_law_name"] ["_law_ties", "_law_names_here"] (defScope s_law_no_ring) := ⟨rfl, rfl, rfl, by decide +kernel, rfl, by decide +kernel, by decide +kernel⟩
theorem has_law_no_ring (T : Tx w K mg) : Has P w K mg base CX0 1 "_law_no_ring" ["_law_ties", "_law_names_here"] spRing := by
  refine T.mk0 36 d_law_no_ring rfl rfl rfl rfl rfl sc_law_no_ring (fun vs H Q E h => ?_) (fun _ _ _ _ _ _ us hl => match us, hl with | [_, _], _ => rfl) (fun f cdv A outer s H vs Q E hr h => ?_)
  · obtain ⟨b, a, ts, ns, rfl, _⟩ := h; rfl
  refine ⟨_, (pss_cons (ps_set (i := 2) sc_law_no_ring.nd rfl (Or.inl rfl) (pe_callTy (call_dictP rfl) (by rfl) (T.free 77) (by decide +kernel) (pa_cons (pe_lc (own := [("_law_name", 6)]) rfl sc_law_no_ring.nd (pi_list (pv 1)) (blkOk_by (own := [("_law_name", 6)]) (N := ["_law_ties", "_law_names_here", "_law_parts", "_law_one", "_law_other", "_law_old", "_law_name"]) (sc := (defScope s_law_no_ring)) (by decide +kernel)) (fun _ _ _ _ _ => (pg_name (i := 6) sc_law_no_ring.nd rfl (Or.inl rfl))) (fun _ _ _ _ _ => pts_nil) (fun _ _ _ _ _ => (pe_tup (pa_cons (pv 6) (pa_cons (pv 6) pa_nil))))) pa_nil)))
    (pss_cons (ps_for PassesOwn.never rfl (pi_list (pv 0)) (pg_tup rfl (pgs_cons (pg_name (i := 3) sc_law_no_ring.nd rfl (Or.inl rfl)) (pgs_cons (pg_name (i := 4) sc_law_no_ring.nd rfl (Or.inl rfl)) pgs_nil)))
    (pss_cons (ps_if (pt_cmpR op_eq (pe_dget (hu_of hr) (pv 2) (pv 3) (fun _ _ => rfl)) (pe_dget (hu_of hr) (pv 2) (pv 4) (fun _ _ => rfl)) (nomark _))
    (pss_one (ps_ret pe_bl))
    pss_nil)
    (pss_cons (ps_set (i := 5) sc_law_no_ring.nd rfl (Or.inl rfl) (pe_dget (hu_of hr) (pv 2) (pv 4) (fun _ _ => rfl)))
    (pss_one (ps_for PassesOwn.never rfl (pi_list (pv 1)) (pg_name (i := 6) sc_law_no_ring.nd rfl (Or.inl rfl))
    (pss_one (ps_if (pt_cmpR op_eq (pe_dget (hu_of hr) (pv 2) (pv 6) (fun _ _ => rfl)) (pv 5) (nomark _))
    (pss_one (ps_dput (hu_of hr) (pv 2) (pv 6) (pe_dget (hu_of hr) (pv 2) (pv 3) (fun _ _ => rfl)) rfl))
    pss_nil)))))))
    (pss_one (ps_ret pe_bl)))), ?_⟩
  obtain ⟨b, a, ts, ns, rfl, hb, ha, hnd, hl, htl, hin, q⟩ := h
  obtain ⟨ps, hb1, zb⟩ := id hb
  have lps : ps.length = ts.length := zb.len
  refine ⟨_, rfl, a, rfl, ⟨_, SqI ha⟩, fun C hC => ?_⟩
  refine lc_list (K := K) (a := a) (xs := ns.map V.int) (fun i H' => Same H H' ∧ ∃ qs : List Addr, H' C = some (.lst (qs.map V.ref)) ∧ Zp (fun p x => H' p = some (.tup [.int x, .int x])) qs (ns.take i))
    ⟨same_new hC _, [], upd_same, trivial⟩ (fun i H' _ h => SqI (h.1 _ _ ha)) (fun i x H1 hx h => ?_) (fun H1 h => ?_)
  · obtain ⟨z, hz, rfl⟩ := map_get hx
    obtain ⟨s1, qs, c1, z1⟩ := h
    have hi := lt_at hz
    have lqs := z1.len
    rw [List.length_take] at lqs
    refine ⟨rfl, yes ⟨_, rfl, _, rfl, (by show 2 ≤ sizeLine; decide), fun t ht => ?_⟩⟩
    have s2 := same_new ht (.tup [.int z, .int z])
    refine ⟨_, s2 _ _ c1, ?_, ?_, qs ++ [t], ?_, ?_⟩
    · rw [List.length_map]; exact small1000 (by omega)
    · exact ((Kp.of [C] (s1.trans s2)).trans (Kp.put (by simp))).drop hC |>.same
    · rw [upd_same, List.map_append]; rfl
    · rw [take_succ hz]
      have tC : t ≠ C := fun e => by rw [e, c1] at ht; cases ht
      refine Zp.app (z1.imp fun p x _ _ r => ?_) ⟨?_, trivial⟩
      · have pC : p ≠ C := fun e => by rw [e, c1] at r; cases r
        rw [upd_ne pC]; exact s2 _ _ r
      · show upd _ C _ t = _
        rw [upd_ne tC, upd_same]
  · obtain ⟨s1, qs, c1, z1⟩ := h
    rw [List.length_map, List.take_length] at z1
    refine ⟨C, qs, dk (fun x => x) ns, rfl, SqL.of c1, dk_pairs z1, fun D hD => ?_⟩
    have e0 : mergeK [] (dk (fun x => x) ns) = dk (fun x => x) ns := dk_new (ns := ns) (pre := []) hnd
    rw [e0]
    have nD : H D = none := (Kp.of [] s1).free hD (by simp)
    have aD : a ≠ D := ne_of_none ha nD
    have bD : b ≠ D := ne_of_none hb1 nD
    have kp0 : Kp [D] H (upd H1 D (.dK (dk (fun x => x) ns))) := (Kp.of [D] s1).trans (Kp.put (by simp))
    have znt : ∀ {H' : Hp} {t : Int × Int} {p : Addr}, Kp [D] H H' → TP H p t → TP H' p t := fun k h => k _ _ (no1 (ne_of_none h nD)) h
    refine ⟨_, rfl, b, rfl, ⟨_, SqL.of (kp0 _ _ (no1 bD) hb1)⟩, ?_⟩
    refine for_list (K := K) (a := b) (xs := ps.map V.ref) (fun i σ H' => ∃ (p : Int → Int) (v3 v4 v5 v6 : Option V), σ = [some (.ref b), some (.ref a), some (.ref D), v3, v4, v5, v6] ∧ Kp [D] H H' ∧ H' D = some (.dK (dk p ns)) ∧
      noRing (fun x => x) ts = noRing p (ts.drop i)) ⟨fun x => x, none, none, none, none, rfl, kp0, upd_same, rfl⟩ (fun i σ H' _ ⟨_, _, _, _, _, _, k, _⟩ => SqL.of (k _ _ (no1 bD) hb1)) ?_ ?_
    · rintro i y σ H2 hy ⟨p, v3, v4, v5, v6, rfl, k2, d2, en⟩
      obtain ⟨tp, htp, rfl⟩ := map_get hy
      obtain ⟨t, ht, rp⟩ := zb.get htp
      obtain ⟨hin1, hin2⟩ := hin t (mem_at ht)
      rw [drop_at ht] at en
      refine ⟨tp, _, rfl, SqT.of (znt k2 rp), rfl, _, _, rfl, _, _, rfl, rfl, ?_⟩
      refine ⟨_, rfl, _, rfl, D, _, rfl, dk_at d2 hin1, _, rfl, _, rfl, D, _, rfl, dk_at d2 hin2, rfl, _, rfl, ?_⟩
      refine ite2 (fun c => ?_) (fun c => ?_)
      · have c' : p t.1 = p t.2 := V.int.inj (of_decide_eq_true c)
        have e1 : noRing (fun x => x) ts = false := by
          rw [en]
          show (if p t.1 = p t.2 then false else _) = false
          rw [if_pos c']
        have qq := q H2 (k2.drop nD).same
        rw [e1] at qq
        exact qq
      · have c' : p t.1 ≠ p t.2 := fun e => c (decide_eq_true (by rw [e]))
        have e1 : noRing (fun x => x) ts = noRing (relab p t) (ts.drop (i + 1)) := by
          rw [en]
          show (if p t.1 = p t.2 then false else _) = _
          rw [if_neg c']
        refine ⟨_, rfl, _, rfl, D, _, rfl, dk_at d2 hin2, ?_⟩
        refine ⟨_, rfl, a, rfl, ⟨_, SqI (k2 _ _ (no1 aD) ha)⟩, ?_⟩
        refine for_list (K := K) (a := a) (xs := ns.map V.int) (fun j σ H' => ∃ (v6 : Option V), σ = [some (.ref b), some (.ref a), some (.ref D), some (.int t.1), some (.int t.2), some (.int (p t.2)), v6] ∧ Kp [D] H H' ∧
          H' D = some (.dK (dk (rel p t (ns.take j)) ns))) ⟨v6, rfl, k2, ?_⟩ (fun i σ H' _ ⟨_, _, k, _⟩ => SqI (k _ _ (no1 aD) ha)) ?_ ?_
        · rw [d2]
          have : rel p t (ns.take 0) = p := by funext x; unfold rel; rw [List.take_zero, if_neg (fun q => by cases q.1)]
          rw [this]
        · rintro j y σ H3 hy ⟨v6, rfl, k3, d3⟩
          obtain ⟨z, hz, rfl⟩ := map_get hy
          have hzm := mem_at hz
          have hzn : z ∉ ns.take j := fun h => by
            obtain ⟨j', h1, h2⟩ := List.getElem_of_mem h
            rw [List.length_take] at h1
            rw [List.getElem_take] at h2
            have h3 : j' = j := (List.getElem_inj (h₀ := by omega) (h₁ := lt_at hz) hnd).mp (by rw [h2]; exact (List.getElem?_eq_some_iff.mp hz).2.symm)
            omega
          have e2 : rel p t (ns.take j) z = p z := by unfold rel; rw [if_neg (fun q => hzn q.1)]
          have e3 : rel p t (ns.take j) t.1 = p t.1 := by
            unfold rel
            rw [if_neg (fun q => c' q.2)]
          refine ⟨_, rfl, _, rfl, D, _, rfl, dk_at d3 hzm, _, rfl, rfl, _, rfl, ?_⟩
          rw [e2]
          refine ite2 (fun c2 => ?_) (fun c2 => ?_)
          · have c3 : p z = p t.2 := V.int.inj (of_decide_eq_true c2)
            refine ⟨_, rfl, _, rfl, D, _, rfl, dk_at d3 hin1, _, rfl, _, rfl, D, _, rfl, DPut.k (k := Sum.inl z) d3 (by rw [dk_len]; exact small1000 (by omega)), ?_⟩
            refine ⟨_, rfl, k3.trans (Kp.put (by simp)), ?_⟩
            rw [upd_same, e3, dk_put hzm, take_succ hz]
            congr 2
            refine dk_congr fun y _ => ?_
            unfold rel
            by_cases e : y = z
            · rw [if_pos e, e, if_pos ⟨by simp, c3⟩]
            · rw [if_neg e]
              simp [e]
          · have c3 : p z ≠ p t.2 := fun e => c2 (decide_eq_true (by rw [e]))
            refine ⟨_, rfl, k3, ?_⟩
            rw [d3, take_succ hz]
            congr 2
            refine dk_congr fun y _ => ?_
            unfold rel
            by_cases e : y = z
            · rw [e, if_neg (fun q => c3 q.2), if_neg (fun q => c3 q.2)]
            · simp [e]
        · rintro σ H3 ⟨v6, rfl, k3, d3⟩
          rw [List.length_map, List.take_length] at d3
          refine ⟨relab p t, _, _, _, _, rfl, k3, ?_, e1⟩
          rw [d3, dk_congr (p' := relab p t) rel_all]
    · rintro σ H2 ⟨p, v3, v4, v5, v6, rfl, k2, d2, en⟩
      rw [List.length_map, lps, List.drop_length] at en
      have e1 : noRing (fun x => x) ts = true := en
      have qq := q H2 (k2.drop nD).same
      rw [e1] at qq
      exact qq
end
end G46
set_option maxHeartbeats 4000000
namespace G46
open PySem PySem.Spec PyProof.Rows L2
theorem foldl_next {α β : Type} {f : β → α → β} {l : List α} {i : Nat} {x : α} {b : β} (h : l[i]? = some x) : (l.take (i + 1)).foldl f b = f ((l.take i).foldl f b) x := by
  rw [take_succ h, List.foldl_append]; rfl
theorem allT_size {ns : List Int} : ∀ k, ∀ T ∈ allT ns k, T.length = k
  | 0 => fun T hT => by
    have : T = [] := by simpa [allT] using hT
    rw [this]; rfl
  | k + 1 => fun T hT => by
    have h0 : ∀ (lg : List Ties) (t : Ties) (x y : Int), (∀ T : Ties, T ∈ lg → T.length = k + 1) → ∀ T : Ties, T ∈ atry k lg t x y → T.length = k + 1 := fun lg t x y h T hT => by
      unfold atry at hT
      split at hT
      · rename_i c
        rcases List.mem_append.mp hT with e | e
        · exact h T e
        · rw [List.mem_singleton.mp e]; exact c.2.1
      · exact h T hT
    have h1 : ∀ T : Ties, T ∈ (allT ns k).foldl (asq ns k) [] → T.length = k + 1 := by
      refine fold_keep (I := fun lg => ∀ T : Ties, T ∈ lg → T.length = k + 1) (allT ns k) [] (fun T hT => by cases hT) fun b a _ hb => ?_
      refine fold_keep (I := fun lg => ∀ T : Ties, T ∈ lg → T.length = k + 1) ns b hb fun b2 x _ hb2 => ?_
      exact fold_keep (I := fun lg => ∀ T : Ties, T ∈ lg → T.length = k + 1) ns b2 hb2 fun b3 y _ hb3 => h0 b3 a x y hb3
    exact h1 T hT
theorem insT_le (a : Int × Int) : ∀ l : Ties, (insT a l).length ≤ l.length + 1
  | [] => Nat.le_refl _
  | b :: l => by
    have ih := insT_le a l
    unfold insT
    repeat' split
    all_goals simp only [List.length_cons]
    all_goals omega
theorem sset_le : ∀ l : Ties, (sset l).length ≤ l.length
  | [] => Nat.le_refl _
  | a :: l => by
    have ih := sset_le l
    have h := insT_le a (sset l)
    show (if a ∈ sset l then sset l else insT a (sset l)).length ≤ l.length + 1
    split <;> omega
/-- sorted(set(..)), the list just made -/
theorem rd_ssetC {K : PySem.W.Frag} {P : Program} {w : World} {H : Hp} {σ : L2.St} {b : Addr} {ts : Ties} {Q : VK} {B : Int} (hb : TL H b ts) (h64 : ts.length < 64) (hB : ∀ t ∈ ts, (0 ≤ t.1 ∧ t.1 < B) ∧ (0 ≤ t.2 ∧ t.2 < B))
    (q : ∀ p H', H p = none → Same H H' → TL H' p (sset ts) → Q (.ref p) H') : tNil σ H fun xs H2 => rSetOfT K P w (V.ref b :: xs) H2 fun y H3 => tNil σ H3 fun ys H4 => rSortedT K P w (y :: ys) H4 Q := rd_sset hb h64 hB q
/-- a tree that is not at G -/
def TLg (G : Addr) (H : Hp) (p : Addr) (T : Ties) : Prop := p ≠ G ∧ TL H p T
theorem TLg.keep {G : Addr} {H H' : Hp} {p : Addr} {T : Ties} (h : TLg G H p T) (k : Kp [G] H H') (hG : NoTup H G) : TLg G H' p T := by
  obtain ⟨h1, qs, h2, z⟩ := h
  exact ⟨h1, qs, k _ _ (no1 h1) h2, zp_keep k (nt1 hG) z⟩
section
variable {P : Program} {w : World} {K : PySem.W.Frag} {mg : Str → Option Value} {base : Heap}
def spAllTrees : Sp := fun vs H Q _ => ∃ (a : Addr) (ns : List Int), vs = [.ref a] ∧ IL H a ns ∧ Nms ns ∧ ns.length ≤ 4 ∧ ∀ p H', Same H H' → XL H' p (allT ns (ns.length - 1)) → Q (.ref p) H'
theorem sc_law_all_trees : FnScope ["_law_names_here", "_law_found", "_law_k", "_law_longer", "_law_tree_here", "_law_one", "_law_other", "_law_more"] ["_law_names_here"] (defScope s_law_all_trees) := ⟨rfl, rfl, rfl, by decide +kernel, rfl, by decide +kernel, by decide +kernel⟩
theorem has_law_all_trees (T : Tx w K mg) (h_law_no_ring : Has P w K mg base CX0 1 "_law_no_ring" ["_law_ties", "_law_names_here"] spRing) : Has P w K mg base CX0 2 "_law_all_trees" ["_law_names_here"] spAllTrees := by
  obtain ⟨f_law_no_ring, fd_law_no_ring, G_law_no_ring, M_law_no_ring, K_law_no_ring, B_law_no_ring⟩ := h_law_no_ring
  refine T.mk0 35 d_law_all_trees rfl rfl rfl rfl rfl sc_law_all_trees (fun vs H Q E h => ?_) (fun _ _ _ _ _ _ us hl => match us, hl with | [_], _ => rfl) (fun f cdv A outer s H vs Q E hr h => ?_)
  · obtain ⟨a, ns, rfl, _⟩ := h; rfl
  refine ⟨_, (pss_cons (ps_set (i := 1) sc_law_all_trees.nd rfl (Or.inl rfl) (pe_lst (pa_cons (pe_lst pa_nil) pa_nil)))
    (pss_cons (ps_for PassesOwn.never rfl (pi_range1 (by rfl) (T.free 73) (pa_cons (pe_op op_sub (pe_callB call_len_seq (by rfl) (T.free 69) (by decide +kernel) (pa_cons (pv 0) pa_nil)) pe_int) pa_nil)) (pg_name (i := 2) sc_law_all_trees.nd rfl (Or.inl rfl))
    (pss_cons (ps_set (i := 3) sc_law_all_trees.nd rfl (Or.inl rfl) (pe_lst pa_nil))
    (pss_cons (ps_for PassesOwn.never rfl (pi_list (pv 1)) (pg_name (i := 4) sc_law_all_trees.nd rfl (Or.inl rfl))
    (pss_one (ps_for PassesOwn.never rfl (pi_list (pv 0)) (pg_name (i := 5) sc_law_all_trees.nd rfl (Or.inl rfl))
    (pss_one (ps_for PassesOwn.never rfl (pi_list (pv 0)) (pg_name (i := 6) sc_law_all_trees.nd rfl (Or.inl rfl))
    (pss_cons (ps_set (i := 7) sc_law_all_trees.nd rfl (Or.inl rfl) (pe_callB (cr_sortedT rfl) (by rfl) (T.free 72) (by decide +kernel) (pa_cons (pe_callTy (cr_setOfT rfl hr.units) (by rfl) (T.free 70) (by decide +kernel) (pa_cons (pe_op op_cat (pv 4) (pe_lst (pa_cons (pe_tup (pa_cons (pv 5) (pa_cons (pv 6) pa_nil))) pa_nil))) pa_nil)) pa_nil)))
    (pss_one (ps_if (PW.pt (pw_and (pt_cmpR op_lt (pv 5) (pv 6) (nomark _)) (pw_and (pt_cmpR op_eq (pe_callB call_len_seq (by rfl) (T.free 69) (by decide +kernel) (pa_cons (pv 7) pa_nil)) (pe_op op_add (pv 2) pe_int) (nomark _)) (pw_and (pt_cmpR (op_notInD (un65 hr)) (pv 7) (pv 3) rfl) (pw_and1 (pt_val (pe_call G_law_no_ring (hr.mono (by decide)) rfl M_law_no_ring K_law_no_ring B_law_no_ring .nil pass0 (pa_cons (pv 7) (pa_cons (pv 0) pa_nil)))))))))
    (pss_one (ps_expr (pe_bm PySem.F.plainAttrs_list PySem.F.slot_list_append PySem.F.type_list_append mt_append (pv 3) (pa_cons (pv 7) pa_nil))))
    pss_nil))))))))
    (pss_one (ps_set (i := 1) sc_law_all_trees.nd rfl (Or.inl rfl) (pv 3))))))
    (pss_one (ps_ret (pv 1))))), ?_⟩
  obtain ⟨a, ns, rfl, ha, nm, hl, q⟩ := h
  have h1 := nm.len
  have hbd := nm.bd
  have hnd := nm.ris.nd
  refine ⟨(by show 0 ≤ sizeLine; decide), fun e0 he0 => ⟨(by show 1 ≤ sizeLine; decide), fun F hF => ?_⟩⟩
  have s1 : Same H (upd (upd H e0 (.lst [])) F (.lst [.ref e0])) := (same_new he0 _).trans (same_new hF _)
  have f1 : XL (upd (upd H e0 (.lst [])) F (.lst [.ref e0])) F (allT ns 0) := by
    refine ⟨[e0], upd_same, ⟨[], ?_, trivial⟩, trivial⟩
    exact same_new hF _ _ _ upd_same
  refine ⟨_, rfl, a, _, rfl, .inl (SqI (s1 _ _ ha)), _, _, rfl, rfl, _, rfl, ?_, ?_, ?_⟩
  · show -(2 ^ 62) ≤ (((ns.map V.int).length : Nat) : Int) - 1
    omega
  · show (((ns.map V.int).length : Nat) : Int) - 1 < 2 ^ 62
    rw [List.length_map]; omega
  refine for_range (n := ((((ns.map V.int).length : Nat) : Int) - 1).toNat) (fun i σ H' => ∃ (F : Addr) (v2 v3 v4 v5 v6 v7 : Option V), σ = [some (.ref a), some (.ref F), v2, v3, v4, v5, v6, v7] ∧ Same H H' ∧ XL H' F (allT ns i))
    ⟨F, none, none, none, none, none, none, rfl, s1, f1⟩ ?_ ?_
  · rintro i σ H1 hi ⟨F, v2, v3, v4, v5, v6, v7, rfl, s2, f2⟩
    rw [List.length_map] at hi
    have hi3 : i < 3 := by omega
    obtain ⟨ps, fa, zf⟩ := f2
    have lps : ps.length = (allT ns i).length := zf.len
    have hlen : (allT ns i).length ≤ 4096 := Nat.le_trans (allT_len hl i) (Nat.pow_le_pow_right (n := 16) (j := 3) (by decide) (by omega))
    refine ⟨(by show 0 ≤ sizeLine; decide), fun G hG => ?_⟩
    have k0 := Kp.of [G] (same_new hG (.lst []))
    have aG : a ≠ G := ne_of_none (s2 _ _ ha) hG
    have FG : F ≠ G := ne_of_none fa hG
    have gets : ∀ {H' : Hp} {p : Addr} {U : Ties}, Kp [G] H1 H' → TL H1 p U → TL H' p U := fun k h => by
      obtain ⟨qs, h2, z⟩ := h
      exact ⟨qs, k _ _ (no1 (ne_of_none h2 hG)) h2, zp_keep k (nt1 (nt_none hG)) z⟩
    have stp : ∀ {j : Nat} {H' : Hp} {σ : L2.St}, Kp [G] H1 H' → SqL K H' F (ps.map V.ref) := fun k => SqL.of (k _ _ (no1 FG) fa)
    refine ⟨_, rfl, F, rfl, ⟨_, SqL.of (k0 _ _ (no1 FG) fa)⟩, ?_⟩
    refine for_list (K := K) (a := F) (xs := ps.map V.ref) (fun j σ H' => ∃ (qs : List Addr) (v4 v5 v6 v7 : Option V), σ = [some (.ref a), some (.ref F), some (.int (0 + i)), some (.ref G), v4, v5, v6, v7] ∧ Kp [G] H1 H' ∧ H' G = some (.lst (qs.map V.ref)) ∧
      Zp (TLg G H') qs (((allT ns i).take j).foldl (asq ns i) []) ∧ (((allT ns i).take j).foldl (asq ns i) []).length ≤ 16 * j) ⟨[], v4, v5, v6, v7, rfl, k0, upd_same, trivial, Nat.le_refl _⟩ (fun j σ H' _ ⟨_, _, _, _, _, _, k, _⟩ => SqL.of (k _ _ (no1 FG) fa)) ?_ ?_
    · rintro j y σ H2 hy ⟨qs, v4, v5, v6, v7, rfl, k2, g2, z2, b2⟩
      obtain ⟨p, hp, rfl⟩ := map_get hy
      obtain ⟨U, hU, up⟩ := zf.get hp
      have hUm := mem_at hU
      have hj := lt_at hU
      have hsz := allT_size i U hUm
      have hform := ((allT_inv ns i).form U hUm).2
      rw [foldl_next hU]
      generalize ((allT ns i).take j).foldl (asq ns i) [] = lg0 at z2 b2
      refine ⟨_, rfl, a, rfl, ⟨_, SqI (k2 _ _ (no1 aG) (s2 _ _ ha))⟩, ?_⟩
      refine for_list (K := K) (a := a) (xs := ns.map V.int) (fun l σ H' => ∃ (qs : List Addr) (v5 v6 v7 : Option V), σ = [some (.ref a), some (.ref F), some (.int (0 + i)), some (.ref G), some (.ref p), v5, v6, v7] ∧ Kp [G] H1 H' ∧ H' G = some (.lst (qs.map V.ref)) ∧
        Zp (TLg G H') qs ((ns.take l).foldl (fun lg one => arow ns i U one lg) lg0) ∧ ((ns.take l).foldl (fun lg one => arow ns i U one lg) lg0).length ≤ 16 * j + 4 * l) ⟨qs, v5, v6, v7, rfl, k2, g2, z2, b2⟩ (fun l σ H' _ ⟨_, _, _, _, _, k, _⟩ => SqI (k _ _ (no1 aG) (s2 _ _ ha))) ?_ ?_
      · rintro l y σ H3 hy ⟨qs, v5, v6, v7, rfl, k3, g3, z3, b3⟩
        obtain ⟨x, hx, rfl⟩ := map_get hy
        have hxm := mem_at hx
        have hlt := lt_at hx
        rw [foldl_next hx]
        generalize (ns.take l).foldl (fun lg one => arow ns i U one lg) lg0 = lg1 at z3 b3
        refine ⟨_, rfl, a, rfl, ⟨_, SqI (k3 _ _ (no1 aG) (s2 _ _ ha))⟩, ?_⟩
        refine for_list (K := K) (a := a) (xs := ns.map V.int) (fun m σ H' => ∃ (qs : List Addr) (v6 v7 : Option V), σ = [some (.ref a), some (.ref F), some (.int (0 + i)), some (.ref G), some (.ref p), some (.int x), v6, v7] ∧ Kp [G] H1 H' ∧ H' G = some (.lst (qs.map V.ref)) ∧
          Zp (TLg G H') qs ((ns.take m).foldl (fun lg other => atry i lg U x other) lg1) ∧ ((ns.take m).foldl (fun lg other => atry i lg U x other) lg1).length ≤ 16 * j + 4 * l + m) ⟨qs, v6, v7, rfl, k3, g3, z3, b3⟩ (fun m σ H' _ ⟨_, _, _, _, k, _⟩ => SqI (k _ _ (no1 aG) (s2 _ _ ha))) ?_ ?_
        · rintro m y σ H4 hy ⟨qs, v6, v7, rfl, k4, g4, z4, b4⟩
          obtain ⟨z, hz, rfl⟩ := map_get hy
          have hzm := mem_at hz
          have hmt := lt_at hz
          rw [foldl_next hz]
          generalize (ns.take m).foldl (fun lg other => atry i lg U x other) lg1 = lg2 at z4 b4
          have lqs : qs.length = lg2.length := z4.len
          have hUT := gets k4 up
          obtain ⟨us, u1, u2⟩ := id hUT
          have pG : p ≠ G := by
            obtain ⟨_, h2, _⟩ := up
            exact ne_of_none h2 hG
          refine ⟨_, rfl, _, rfl, _, rfl, (by show 2 ≤ sizeLine; decide), fun t ht => ⟨(by show 1 ≤ sizeLine; decide), fun c hc => ?_⟩⟩
          have st := same_new ht (.tup [.int x, .int z])
          have sc := same_new hc (.lst [.ref t])
          have s5 := st.trans sc
          refine ⟨p, c, _, _, rfl, rfl, s5 _ _ u1, upd_same, ?_, fun C hC => ?_⟩
          · rw [List.length_map, u2.len]; exact small (by simp only [List.length_cons, List.length_nil]; omega)
          have sC := same_new hC (.lst (us.map V.ref ++ [.ref t]))
          have s6 := s5.trans sC
          have tlC : TL (upd (upd (upd H4 t (.tup [.int x, .int z])) c (.lst [.ref t])) C (.lst (us.map V.ref ++ [.ref t]))) C (U ++ [(x, z)]) := by
            refine ⟨us ++ [t], ?_, Zp.app (u2.imp fun _ _ _ _ h => s6 _ _ h) ⟨?_, trivial⟩⟩
            · rw [upd_same, List.map_append]; rfl
            · exact sC _ _ (sc _ _ upd_same)
          have hform2 : ∀ u ∈ U ++ [(x, z)], u.1 ∈ ns ∧ u.2 ∈ ns := fun u hu => by
            rcases List.mem_append.mp hu with e | e
            · exact hform u e
            · rw [List.mem_singleton.mp e]; exact ⟨hxm, hzm⟩
          refine rd_ssetC (K := K) (P := P) (w := w) (B := 2 ^ 40) tlC (by rw [List.length_append, hsz, List.length_singleton]; omega) (fun u hu => ⟨hbd _ (hform2 u hu).1, hbd _ (hform2 u hu).2⟩) fun M H5 nM s5' m5 => ?_
          have s46 := s6.trans s5'
          have k5 : Kp [G] H4 H5 := Kp.of [G] s46
          have nG4 : NoTup H4 G := nt_lst g4
          have g5 := s46 _ _ g4
          have z5 : Zp (TLg G H5) qs lg2 := z4.imp fun _ _ _ _ h => h.keep k5 nG4
          obtain ⟨ms, m1, m2⟩ := id m5
          have lms : ms.length = (sset (U ++ [(x, z)])).length := m2.len
          have hform3 : ∀ u ∈ sset (U ++ [(x, z)]), u.1 ∈ ns ∧ u.2 ∈ ns := fun u hu => hform2 u (mem_sset.mp hu)
          have hsl : (sset (U ++ [(x, z)])).length ≤ i + 1 := by
            have := sset_le (U ++ [(x, z)])
            rw [List.length_append, hsz, List.length_singleton] at this
            exact this
          have stay : ∀ {H' : Hp}, Same H5 H' → ¬ (x < z ∧ (sset (U ++ [(x, z)])).length = i + 1 ∧ sset (U ++ [(x, z)]) ∉ lg2 ∧ noRing (fun x => x) (sset (U ++ [(x, z)])) = true) →
              ∃ (qs : List Addr) (v6 v7 : Option V), [some (.ref a), some (.ref F), some (.int (0 + i)), some (.ref G), some (.ref p), some (.int x), some (.int z), some (.ref M)] = [some (.ref a), some (.ref F), some (.int (0 + i)), some (.ref G), some (.ref p), some (.int x), v6, v7] ∧ Kp [G] H1 H' ∧ H' G = some (.lst (qs.map V.ref)) ∧
                Zp (TLg G H') qs (atry i lg2 U x z) ∧ (atry i lg2 U x z).length ≤ 16 * j + 4 * l + (m + 1) := fun s h => by
            have e : atry i lg2 U x z = lg2 := by unfold atry; rw [if_neg h]
            rw [e]
            exact ⟨qs, _, _, rfl, (k4.trans k5).trans (Kp.of _ s), s _ _ g5, z5.imp fun _ _ _ _ h => h.keep (Kp.of _ s) (nt_lst g5), by omega⟩
          refine ⟨_, rfl, _, rfl, _, _, rfl, rfl, _, rfl, ?_⟩
          refine ite2 (fun c1 => ?_) (fun c1 => iteF (stay (Same.refl _) fun h => c1 (decide_eq_true h.1)))
          refine ⟨_, rfl, M, _, rfl, .inl (SqL.of m1), _, rfl, _, _, rfl, rfl, rfl, _, rfl, ?_⟩
          refine ite2 (fun c2 => ?_) (fun c2 => iteF (stay (Same.refl _) fun h => c2 (decide_eq_true ?_)))
          rotate_left
          · rw [List.length_map, lms, h.2.1]
            congr 1
            omega
          refine ⟨_, rfl, _, rfl, rd_notInD enc_T (by decide) (x := sset (U ++ [(x, z)])) (xs := lg2) (dp_T m5) (dp_X ⟨qs, g5, z5.imp fun _ _ _ _ h => h.2⟩) ⟨_, rfl, ?_⟩⟩
          refine ite2 (fun c3 => ?_) (fun c3 => iteF (stay (Same.refl _) fun h => c3 (by simpa using h.2.2.1)))
          refine ⟨_, rfl, _, rfl, M, a, _, ns, rfl, m5, k5 _ _ (no1 aG) (k4 _ _ (no1 aG) (s2 _ _ ha)), hnd, by omega, by omega, hform3, fun H6 s6' => ⟨_, rfl, ?_⟩⟩
          refine ite2 (fun c4 => ?_) (fun c4 => stay s6' fun h => c4 h.2.2.2)
          have e : atry i lg2 U x z = lg2 ++ [sset (U ++ [(x, z)])] := by
            unfold atry
            refine if_pos ⟨of_decide_eq_true c1, ?_, by simpa using c3, c4⟩
            have e1 := V.int.inj (of_decide_eq_true c2)
            rw [List.length_map, lms] at e1
            omega
          rw [e]
          have g6 := s6' _ _ g5
          refine ⟨_, rfl, .inl ⟨rfl, _, SqL.of g6⟩, _, rfl, G, _, _, rfl, rfl, g6, ?_, ?_⟩
          · rw [List.length_map, lqs]
            have : lg2.length ≤ 100000 := by omega
            show lg2.length < 2 ^ 24
            omega
          · have k7 : Kp [G] H6 (upd H6 G (.lst (qs.map V.ref ++ [.ref M]))) := Kp.put (by simp)
            have MG : M ≠ G := fun e => by rw [e, s6 _ _ g4] at nM; cases nM
            refine ⟨qs ++ [M], _, _, rfl, ((k4.trans k5).trans (Kp.of _ s6')).trans k7, ?_, ?_, ?_⟩
            · rw [upd_same, List.map_append]; rfl
            · exact Zp.app (z5.imp fun _ _ _ _ h => (h.keep (Kp.of _ s6') (nt_lst g5)).keep k7 (nt_lst g6)) ⟨TLg.keep ⟨MG, mono_TL _ _ _ _ s6' m5⟩ k7 (nt_lst g6), trivial⟩
            · rw [List.length_append, List.length_singleton]; omega
        · rintro σ H4 ⟨qs, v6, v7, rfl, k4, g4, z4, b4⟩
          rw [List.length_map, List.take_length] at z4 b4
          refine ⟨qs, _, _, _, rfl, k4, g4, z4, ?_⟩
          show (ns.foldl (fun lg other => atry i lg U x other) lg1).length ≤ _
          omega
      · rintro σ H3 ⟨qs, v5, v6, v7, rfl, k3, g3, z3, b3⟩
        rw [List.length_map, List.take_length] at z3 b3
        refine ⟨qs, _, _, _, _, rfl, k3, g3, z3, ?_⟩
        show (ns.foldl (fun lg one => arow ns i U one lg) lg0).length ≤ _
        omega
    · rintro σ H2 ⟨qs, v4, v5, v6, v7, rfl, k2, g2, z2, b2⟩
      rw [List.length_map, lps, List.take_length] at z2
      refine ⟨_, rfl, G, _, _, _, _, _, _, rfl, s2.trans (k2.drop hG).same, qs, g2, z2.imp fun p x _ _ h => h.2⟩
  · rintro σ H1 ⟨F, v2, v3, v4, v5, v6, v7, rfl, s2, f2⟩
    have e : ((((ns.map V.int).length : Nat) : Int) - 1).toNat = ns.length - 1 := by rw [List.length_map]; omega
    rw [e] at f2
    exact ⟨_, rfl, q F H1 s2 f2⟩
end
end G46
set_option maxHeartbeats 4000000
namespace G46
open PySem PySem.Spec PyProof.Rows L2
/-! ### forms: what a copy keeps -/
abbrev Fm : Type := Hp → V → Prop
def All2 (H : Hp) : List V → List Fm → Prop
  | [], [] => True
  | x :: xs, F :: Fs => F H x ∧ All2 H xs Fs
  | _, _ => False
def IF_ (n : Int) : Fm := fun _ v => v = .int n
def LF (Fs : List Fm) : Fm := fun H v => ∃ a xs, v = .ref a ∧ H a = some (.lst xs) ∧ All2 H xs Fs
def TF (Fs : List Fm) : Fm := fun H v => ∃ a xs, v = .ref a ∧ H a = some (.tup xs) ∧ All2 H xs Fs
inductive Form : Nat → Fm → Prop
  | int (k : Nat) (n : Int) : Form k (IF_ n)
  | lst {k : Nat} {Fs : List Fm} (h : ∀ F ∈ Fs, Form k F) (hl : Fs.length ≤ 1000) : Form (k + 1) (LF Fs)
  | tup {k : Nat} {Fs : List Fm} (h : ∀ F ∈ Fs, Form k F) (hl : Fs.length ≤ 1000) : Form (k + 1) (TF Fs)
theorem all2_imp {H H' : Hp} : ∀ {xs : List V} {Fs : List Fm}, All2 H xs Fs → (∀ F ∈ Fs, ∀ x, F H x → F H' x) → All2 H' xs Fs
  | [], [], _, _ => trivial
  | x :: xs, F :: Fs, h, f => ⟨f F List.mem_cons_self x h.1, all2_imp h.2 fun G hG => f G (List.mem_cons_of_mem _ hG)⟩
  | [], _ :: _, h, _ => h.elim
  | _ :: _, [], h, _ => h.elim
theorem all2_len {H : Hp} : ∀ {xs : List V} {Fs : List Fm}, All2 H xs Fs → xs.length = Fs.length
  | [], [], _ => rfl
  | _ :: _, _ :: _, h => by rw [List.length_cons, List.length_cons, all2_len h.2]
  | [], _ :: _, h => h.elim
  | _ :: _, [], h => h.elim
theorem all2_get {H : Hp} : ∀ {xs : List V} {Fs : List Fm} {i : Nat} {x : V}, All2 H xs Fs → xs[i]? = some x → ∃ F, Fs[i]? = some F ∧ F H x
  | y :: xs, F :: Fs, 0, x, h, e => by
    have e' : y = x := Option.some.inj e
    subst e'
    exact ⟨F, rfl, h.1⟩
  | y :: xs, F :: Fs, i + 1, x, h, e => by
    obtain ⟨G, e1, r⟩ := all2_get (i := i) (x := x) h.2 (by simpa using e)
    exact ⟨G, by simpa using e1, r⟩
  | [], _, i, x, _, e => by simp at e
  | _ :: _, [], _, _, h, _ => h.elim
theorem all2_app {H : Hp} : ∀ {xs ys : List V} {Fs Gs : List Fm}, All2 H xs Fs → All2 H ys Gs → All2 H (xs ++ ys) (Fs ++ Gs)
  | [], _, [], _, _, k => k
  | _ :: _, _, _ :: _, _, h, k => ⟨h.1, all2_app h.2 k⟩
  | [], _, _ :: _, _, h, _ => h.elim
  | _ :: _, _, [], _, h, _ => h.elim
theorem Form.mono : ∀ {k : Nat} {F : Fm}, Form k F → ∀ {H H' : Hp} {x : V}, Same H H' → F H x → F H' x := by
  intro k F h
  induction h with
  | int k n => exact fun _ q => q
  | lst h hl ih =>
    rintro H H' x s ⟨a, xs, e, h1, h2⟩
    exact ⟨a, xs, e, s _ _ h1, all2_imp h2 fun F hF y q => ih F hF s q⟩
  | tup h hl ih =>
    rintro H H' x s ⟨a, xs, e, h1, h2⟩
    exact ⟨a, xs, e, s _ _ h1, all2_imp h2 fun F hF y q => ih F hF s q⟩
/-! ### the forms met here -/
def RF {α : Type} (R : Hp → Addr → α → Prop) (x : α) : Fm := fun H v => ∃ a, v = .ref a ∧ R H a x
theorem all2_ints {H : Hp} : ∀ {xs : List V} {ns : List Int}, All2 H xs (ns.map IF_) ↔ xs = ns.map V.int
  | [], [] => ⟨fun _ => rfl, fun _ => trivial⟩
  | [], _ :: _ => ⟨fun h => h.elim, fun h => by cases h⟩
  | _ :: _, [] => ⟨fun h => h.elim, fun h => by cases h⟩
  | x :: xs, n :: ns => ⟨fun h => by rw [show x = V.int n from h.1, all2_ints.mp h.2]; rfl, fun h => by
      obtain ⟨h1, h2⟩ := List.cons.inj h
      exact ⟨h1, all2_ints.mpr h2⟩⟩
theorem all2_refs {α : Type} {R : Hp → Addr → α → Prop} {H : Hp} : ∀ {xs : List V} {as : List α}, All2 H xs (as.map (RF R)) ↔ ∃ ps : List Addr, xs = ps.map V.ref ∧ Zp (R H) ps as
  | [], [] => ⟨fun _ => ⟨[], rfl, trivial⟩, fun _ => trivial⟩
  | [], _ :: _ => ⟨fun h => h.elim, fun ⟨ps, e, z⟩ => by
      cases ps with
      | nil => exact z.elim
      | cons _ _ => cases e⟩
  | _ :: _, [] => ⟨fun h => h.elim, fun ⟨ps, e, z⟩ => by
      cases ps with
      | nil => cases e
      | cons _ _ => exact z.elim⟩
  | x :: xs, y :: ys => ⟨fun h => by
      obtain ⟨⟨a, e, r⟩, h2⟩ := h
      obtain ⟨ps, e2, z⟩ := all2_refs.mp h2
      exact ⟨a :: ps, by rw [e, e2]; rfl, r, z⟩, fun ⟨ps, e, z⟩ => by
      cases ps with
      | nil => cases e
      | cons p ps =>
        obtain ⟨h1, h2⟩ := List.cons.inj e
        exact ⟨⟨p, h1, z.1⟩, all2_refs.mpr ⟨ps, h2, z.2⟩⟩⟩
theorem fm_IL (ns : List Int) : RF IL ns = LF (ns.map IF_) := by
  funext H v
  refine propext ⟨fun ⟨a, e, h⟩ => ⟨a, _, e, h, all2_ints.mpr rfl⟩, fun ⟨a, xs, e, h, z⟩ => ⟨a, e, ?_⟩⟩
  rw [all2_ints.mp z] at h
  exact h
theorem fm_TP (t : Int × Int) : RF TP t = TF ([t.1, t.2].map IF_) := by
  funext H v
  refine propext ⟨fun ⟨a, e, h⟩ => ⟨a, _, e, h, all2_ints.mpr rfl⟩, fun ⟨a, xs, e, h, z⟩ => ⟨a, e, ?_⟩⟩
  rw [all2_ints.mp z] at h
  exact h
theorem fm_LOf {α : Type} (R : Hp → Addr → α → Prop) (as : List α) : RF (LOf R) as = LF (as.map (RF R)) := by
  funext H v
  refine propext ⟨fun ⟨a, e, ps, h, z⟩ => ⟨a, _, e, h, all2_refs.mpr ⟨ps, rfl, z⟩⟩, fun ⟨a, xs, e, h, z⟩ => ?_⟩
  obtain ⟨ps, e2, z2⟩ := all2_refs.mp z
  rw [e2] at h
  exact ⟨a, e, ps, h, z2⟩
theorem form_ints {ns : List Int} (k : Nat) : ∀ F ∈ ns.map IF_, Form k F := fun F hF => by
  obtain ⟨n, _, e⟩ := List.mem_map.mp hF
  rw [← e]; exact .int k n
theorem form_IL {ns : List Int} (h : ns.length ≤ 1000) (k : Nat) : Form (k + 1) (RF IL ns) := by
  rw [fm_IL]; exact .lst (form_ints k) (by rw [List.length_map]; exact h)
theorem form_TP (t : Int × Int) (k : Nat) : Form (k + 1) (RF TP t) := by
  rw [fm_TP]; exact .tup (form_ints k) (by simp)
theorem form_LOf {α : Type} {R : Hp → Addr → α → Prop} {as : List α} (h : as.length ≤ 1000) {k : Nat} (hf : ∀ x ∈ as, Form k (RF R x)) : Form (k + 1) (RF (LOf R) as) := by
  rw [fm_LOf]
  refine .lst (fun F hF => ?_) (by rw [List.length_map]; exact h)
  obtain ⟨x, hx, e⟩ := List.mem_map.mp hF
  rw [← e]; exact hf x hx
theorem form_TL {ts : Ties} (h : ts.length ≤ 1000) (k : Nat) : Form (k + 2) (RF TL ts) := form_LOf h fun t _ => form_TP t k
theorem form_FL {rs : List (List Int)} (h : rs.length ≤ 1000) (h2 : ∀ r ∈ rs, r.length ≤ 1000) (k : Nat) : Form (k + 2) (RF FL rs) := form_LOf h fun r hr => form_IL (h2 r hr) k
theorem form_two {F G : Fm} {k : Nat} (h : Form k F) (h' : Form k G) : Form (k + 1) (LF [F, G]) := .lst (fun E hE => by
  rcases List.mem_cons.mp hE with e | e
  · rw [e]; exact h
  · rw [List.mem_singleton.mp e]; exact h') (by simp)
/-- what is new since H, but for S, stands in H2 -/
def NK (S : List Addr) (H H' H2 : Hp) : Prop := ∀ b o, b ∉ S → H b = none → H' b = some o → H2 b = some o
theorem NK.self (S : List Addr) (H H' : Hp) : NK S H H' H' := fun _ _ _ _ h => h
def spC : Nat → Sp
  | 0 => fun _ _ _ _ => False
  | k + 1 => fun vs H Q _ => ∃ (x : V) (F : Fm), vs = [x] ∧ Form k F ∧ F H x ∧ ∀ v H', Same H H' → (∀ H2, NK [] H H' H2 → F H2 v) → Q v H'
section
variable {P : Program} {w : World} {K : PySem.W.Frag} {mg : Str → Option Value} {base : Heap}
/-- no promise yet -/
theorem Tx.mkN (T : Tx w K mg) (i : Nat) (d : He.DefD) {ps : List Str} (hd : fn[i]? = some d) (hg : fa[i]? = some (.glo d.name)) (ha : d.at_ = (d.name, none)) (h1 : d.dfl = []) (h2 : d.kwd = [])
    (hb : ∀ (kV doc pm : Value) (an : Option Addr) (cdv ct : Value) (us : List Value), us.length = ps.length → bindArgs (PySem.W.fnOf d.name d.qual d.params d.body d.scope .none kV doc pm an cdv ct) ⟨us, []⟩ = pure (ps.zip us)) :
    Has P w K mg base CX0 0 d.name ps (fun _ _ _ _ => False) := by
  obtain ⟨fd, F⟩ := T.fun_ i hd
  have e1 : d.dvs K = [] := by unfold He.DefD.dvs; rw [h1]; rfl
  have e2 : He.fAd K d.at_ = He.ga K d.name := by rw [ha]; rfl
  rw [e1, e2] at F
  exact ⟨_, fd, ⟨fun _ _ _ _ h => h.elim, fun _ _ _ _ _ _ _ _ _ _ _ _ _ h => h.elim⟩, T.glo i hg, F.kp, F.bindsN hb⟩
theorem F_to {k : Nat} {x : V} {H : Hp} {Q : VK} {E : XK} {F : Fm} (h : Form k F) (hx : F H x) (q : ∀ v H', Same H H' → (∀ H2, NK [] H H' H2 → F H2 v) → Q v H') : spC (k + 1) [x] H Q E := ⟨x, F, rfl, h, hx, q⟩
theorem sc_law_copied : FnScope ["_law_thing", "_law_part"] ["_law_thing"] (defScope s_law_copied) := ⟨rfl, rfl, rfl, by decide +kernel, rfl, by decide +kernel, by decide +kernel⟩
theorem has_law_copied (T : Tx w K mg) : ∀ k, Has P w K mg base CX0 k "_law_copied" ["_law_thing"] (spC k)
  | 0 => T.mkN 38 d_law_copied rfl rfl rfl rfl rfl (fun _ _ _ _ _ _ us hl => match us, hl with | [_], _ => rfl)
  | k + 1 => by
    have h_law_copied := has_law_copied T k
    obtain ⟨f_law_copied, fd_law_copied, G_law_copied, M_law_copied, K_law_copied, B_law_copied⟩ := h_law_copied
    refine T.mk0 38 d_law_copied rfl rfl rfl rfl rfl sc_law_copied (fun vs H Q E h => ?_) (fun _ _ _ _ _ _ us hl => match us, hl with | [_], _ => rfl) (fun f cdv A outer s H vs Q E hr h => ?_)
    · obtain ⟨x, F, rfl, _⟩ := h; rfl
    refine ⟨_, (pss_cons (ps_if (pt_val (pe_callB call_isi (by rfl) (T.free 64) (by decide +kernel) (pa_cons (pv 0) (pa_cons (pe_bltn (v := .ty "tuple") (by rfl) (T.free 68) (by decide +kernel) rfl) pa_nil))))
    (pss_one (ps_ret (pe_callTy call_tuple_of (by rfl) (T.free 68) (by decide +kernel) (pa_cons (pe_lc (own := [("_law_part", 1)]) rfl sc_law_copied.nd (pi_tup (pv 0)) (blkOk_by (own := [("_law_part", 1)]) (N := ["_law_thing", "_law_part"]) (sc := (defScope s_law_copied)) (by decide +kernel)) (fun _ _ _ _ _ => (pg_name (i := 1) sc_law_copied.nd rfl (Or.inl rfl))) (fun _ _ _ _ _ => pts_nil) (fun _ _ _ _ _ => (pe_call G_law_copied (hr.mono (Nat.le_refl _)) rfl M_law_copied K_law_copied B_law_copied .nil pass0 (pa_cons (pv 1) pa_nil)))) pa_nil))))
    pss_nil)
    (pss_cons (ps_if (pt_val (pe_callB call_isi (by rfl) (T.free 64) (by decide +kernel) (pa_cons (pv 0) (pa_cons (pe_bltn (v := .ty "list") (by rfl) (T.free 67) (by decide +kernel) rfl) pa_nil))))
    (pss_one (ps_ret (pe_lc (own := [("_law_part", 1)]) rfl sc_law_copied.nd (pi_list (pv 0)) (blkOk_by (own := [("_law_part", 1)]) (N := ["_law_thing", "_law_part"]) (sc := (defScope s_law_copied)) (by decide +kernel)) (fun _ _ _ _ _ => (pg_name (i := 1) sc_law_copied.nd rfl (Or.inl rfl))) (fun _ _ _ _ _ => pts_nil) (fun _ _ _ _ _ => (pe_call G_law_copied (hr.mono (Nat.le_refl _)) rfl M_law_copied K_law_copied B_law_copied .nil pass0 (pa_cons (pv 1) pa_nil))))))
    pss_nil)
    (pss_one (ps_ret (pv 0))))), ?_⟩
    obtain ⟨x, F, rfl, hF, hx, q⟩ := h
    cases hF with
    | int _ n =>
      have e : x = .int n := hx
      subst e
      refine ⟨_, rfl, _, _, _, _, false, rfl, .ty "tuple", .base (.int n), kit_ty (by decide +kernel), false, rfl, ?_⟩
      refine iteF ⟨_, rfl, _, _, _, _, false, rfl, .ty "list", .base (.int n), kit_ty (by decide +kernel), false, rfl, ?_⟩
      exact iteF ⟨_, rfl, q _ H (Same.refl H) fun _ _ => rfl⟩
    | @lst k' Fs hFs hl =>
      obtain ⟨a, xs, rfl, h1, h2⟩ := hx
      have lxs := all2_len h2
      refine ⟨_, rfl, _, _, _, _, false, rfl, .ty "tuple", .base (.lst h1), kit_ty (by decide +kernel), false, rfl, ?_⟩
      refine iteF ⟨_, rfl, _, _, _, _, true, rfl, .ty "list", .base (.lst h1), kit_ty (by decide +kernel), true, rfl, ?_⟩
      refine iteT ⟨_, rfl, a, rfl, ⟨_, SqL.of h1⟩, fun D hD => ?_⟩
      refine lc_list (K := K) (a := a) (xs := xs) (fun i H' => Same H H' ∧ ∃ ys : List V, H' D = some (.lst ys) ∧ ys.length = i ∧ ∀ H2, NK [D] H H' H2 → All2 H2 ys (Fs.take i)) ⟨same_new hD _, [], upd_same, rfl, fun _ _ => trivial⟩ (fun i H' _ h => SqL.of (h.1 _ _ h1)) (fun i y H1 hy h => ?_) (fun H1 h => ?_)
      · obtain ⟨s1, ys, d1, lys, z1⟩ := h
        obtain ⟨F, hF, fy⟩ := all2_get h2 hy
        have hFm := hFs F (mem_at hF)
        have hi := lt_at hF
        refine ⟨rfl, yes ⟨_, rfl, F_to (E := E0) hFm (hFm.mono s1 fy) fun v H2 s2 fv => ?_⟩⟩
        have s3 : Same H (upd H2 D (.lst (ys ++ [v]))) := ((Kp.of [D] (s1.trans s2)).trans (Kp.put (by simp))).drop hD |>.same
        refine ⟨ys, s2 _ _ d1, small1000 (by omega), s3, ys ++ [v], upd_same, by rw [List.length_append, List.length_singleton, lys], fun H3 nk => ?_⟩
        rw [take_succ hF]
        refine all2_app (z1 H3 fun b o hb h0 h4 => nk b o hb h0 ?_) ⟨fv H3 fun b o _ h0 h4 => ?_, trivial⟩
        · rw [upd_ne (fun e => hb (by rw [e]; simp))]; exact s2 _ _ h4
        · have bD : b ≠ D := fun e => by rw [e, d1] at h0; cases h0
          refine nk b o (no1 bD) ((Kp.of [] s1).free h0 (by simp)) ?_
          rw [upd_ne bD]; exact h4
      · obtain ⟨s1, ys, d1, lys, z1⟩ := h
        rw [lxs, List.take_length] at z1
        exact q _ H1 s1 fun H2 nk => ⟨D, ys, rfl, nk _ _ (by simp) hD d1, z1 H2 fun b o _ h0 h4 => nk b o (by simp) h0 h4⟩
    | @tup k' Fs hFs hl =>
      obtain ⟨a, xs, rfl, h1, h2⟩ := hx
      have lxs := all2_len h2
      refine ⟨_, rfl, _, _, _, _, true, rfl, .ty "tuple", .base (.tup h1), kit_ty (by decide +kernel), true, rfl, ?_⟩
      refine iteT ⟨_, rfl, a, rfl, ⟨_, SqT.of h1⟩, fun D hD => ?_⟩
      refine lc_tup (K := K) (a := a) (xs := xs) (fun i H' => Same H H' ∧ ∃ ys : List V, H' D = some (.lst ys) ∧ ys.length = i ∧ ∀ H2, NK [D] H H' H2 → All2 H2 ys (Fs.take i)) ⟨same_new hD _, [], upd_same, rfl, fun _ _ => trivial⟩ (fun i H' _ h => SqT.of (h.1 _ _ h1)) (fun i y H1 hy h => ?_) (fun H1 h => ?_)
      · obtain ⟨s1, ys, d1, lys, z1⟩ := h
        obtain ⟨F, hF, fy⟩ := all2_get h2 hy
        have hFm := hFs F (mem_at hF)
        have hi := lt_at hF
        refine ⟨rfl, yes ⟨_, rfl, F_to (E := E0) hFm (hFm.mono s1 fy) fun v H2 s2 fv => ?_⟩⟩
        have s3 : Same H (upd H2 D (.lst (ys ++ [v]))) := ((Kp.of [D] (s1.trans s2)).trans (Kp.put (by simp))).drop hD |>.same
        refine ⟨ys, s2 _ _ d1, small1000 (by omega), s3, ys ++ [v], upd_same, by rw [List.length_append, List.length_singleton, lys], fun H3 nk => ?_⟩
        rw [take_succ hF]
        refine all2_app (z1 H3 fun b o hb h0 h4 => nk b o hb h0 ?_) ⟨fv H3 fun b o _ h0 h4 => ?_, trivial⟩
        · rw [upd_ne (fun e => hb (by rw [e]; simp))]; exact s2 _ _ h4
        · have bD : b ≠ D := fun e => by rw [e, d1] at h0; cases h0
          refine nk b o (no1 bD) ((Kp.of [] s1).free h0 (by simp)) ?_
          rw [upd_ne bD]; exact h4
      · obtain ⟨s1, ys, d1, lys, z1⟩ := h
        rw [lxs, List.take_length] at z1
        refine ⟨D, ys, rfl, .inl ⟨SqL.of d1, fun l hlN => ?_⟩⟩
        have s4 := same_new hlN (.tup ys)
        refine q _ _ (s1.trans s4) fun H2 nk => ⟨l, ys, rfl, nk _ _ (by simp) ((Kp.of [] s1).free hlN (by simp)) upd_same, z1 H2 fun b o _ h0 h4 => nk b o (by simp) h0 (s4 _ _ h4)⟩
end
end G46
set_option maxHeartbeats 4000000
namespace G46
open PySem PySem.Spec PyProof.Rows L2
/-! ### an exception that is caught and kept -/
/-- the exception at a -/
def ExH (cls : Value) (d : Option Addr) (a : Addr) : HO := .ext fun h => ∃ (oe : Obj) (vs : Array Value), h.get? a = some oe ∧ Zc cls d oe ∧ oe.data = .fields vs
section
variable {X : Cx} {pins : List (Addr × Obj)} {σ : L2.St} {H : Hp} {s sI : Shared} {a : Addr} {o : HO}
/-- an object that was not there at sI is followed from now on -/
theorem inv_track (J : Inv X pins σ H sI) (I : Inv X pins σ H s) (nI : sI.heap.get? a = none) (na : H a = none) (hex : X.ex = []) (new : ObjOk X.prog X.w (upd H a o) s.heap a o) : Inv X pins σ (upd H a o) s := by
  have some_ne : ∀ {b : Addr} {u : Obj}, sI.heap.get? b = some u → b ≠ a := fun q e => by
    rw [e, nI] at q; cases q
  have old : ∀ {b : Addr} {u : Obj}, X.s_0.heap.get? b = some u → b ≠ a := fun {b u} q => by
    obtain ⟨u', q'⟩ := J.base.there b u q (by rw [hex]; exact fun z => nomatch z)
    exact some_ne q'
  have was : ∀ {b : Addr} {u : HO}, H b = some u → (upd H a o) b = some u := fun q => by rw [upd_ne (ne_of_none q na)]; exact q
  have nil : ∀ {b : Addr}, b ≠ a → H b = none → (upd H a o) b = none := fun hb q => by rw [upd_ne hb]; exact q
  have u := I.base
  refine { ok := I.ok, os := I.os, bare := I.bare, loc := I.loc, cell := I.cell, len := I.len, base := ?_, free := ?_, freeC := ?_, pin := ?_, hok := ?_ }
  · refine { keep := u.keep, slot := u.slot, there := u.there, free := fun b ob q n hx => nil (old q) (u.free b ob q n hx), tups := fun b xs q => was (u.tups b xs q), frzs := fun b ob v q => was (u.frzs b ob v q), tbls := fun b ps q => ?_ }
    obtain ⟨more, q'⟩ := u.tbls b ps q
    exact ⟨more, was q'⟩
  · obtain ⟨m, ⟨oL, _, _, hL, _⟩, _⟩ := J.loc
    exact nil (some_ne hL) I.free
  · intro x c q
    obtain ⟨v, oc, hc, _⟩ := J.cell x c q
    exact nil (some_ne hc) (I.freeC x c q)
  · intro p hp
    obtain ⟨h1, h2, h3⟩ := I.pin p hp
    exact ⟨h1, nil (some_ne (J.pin p hp).1) h2, h3⟩
  · exact I.hok.laidN (fun _ _ q => q) na new
theorem inv_into (I : Inv X pins σ H s) (a : Addr) : Inv (X.suite a (X.pn ++ pins)) [] σ H s :=
  { ok := I.ok.suite _ _, os := I.os, bare := I.bare, base := I.base, loc := I.loc, cell := I.cell, free := I.free, freeC := I.freeC, pin := fun p hp => I.pin p (by simpa using hp), hok := I.hok, len := I.len }
theorem inv_out (good : X.Ok) (I : Inv (X.suite a (X.pn ++ pins)) [] σ H s) : Inv X pins σ H s :=
  { ok := good, os := I.os, bare := I.bare, base := I.base, loc := I.loc, cell := I.cell, free := I.free, freeC := I.freeC, pin := fun p hp => I.pin p (by simpa using hp), hok := I.hok, len := I.len }
end
/-- the wish: the clause takes the error, its suite goes on with the error in slot i -/
def wHold (K : PySem.W.Frag) (c : Value) (i : Nat) (ts : TS) (D : Ends) : WX := fun cls d σ H => PySem.W.exmOne K cls c = some true ∧ ∀ a, H a = none →
  ts { nx := fun σ' H' => D.nx (σ'.set i none) H', rt := D.rt, bk := fun σ' H' => D.bk (σ'.set i none) H', ct := fun σ' H' => D.ct (σ'.set i none) H' } (σ.set i (some (.ref a))) (upd H a (ExH cls d a))
section
variable {X : Cx} {x n : Str} {c : Value} {i : Nat} {body suite : List Stmt} {b₀ : Stmt} {np pos pos' : Pos} {tb : WX → TS} {ts : TS}
theorem ps_try_hold (hs : X.stack = X.env :: X.outer) (hf : X.env.frame = some X.env.locals) (hex : X.ex = []) (hN : X.N.Nodup) (hi : X.N[i]? = some n) (hln : X.env.kindOf n = some .local) (hg : Gl X x) (hdb : (x == ("__debug__" : Str)) = false) (hm : X.mg x = some c)
    (hb : ∀ (W : WX) (pn : List (Addr × Obj)) (xe : Value → Shared → Prop), Takes (X.tr pn xe) W → PassesOwn (model X.prog X.w) X.A X.env xe → PSs (X.tr pn xe) body (tb W))
    (hsu : ∀ (a : Addr) (pn : List (Addr × Obj)), PSs (X.suite a pn) (b₀ :: suite) ts) :
    PS X (.Try body [.ExceptHandler (some (.Name x np)) (some n) (b₀ :: suite) pos'] [] [] pos) (fun D σ H => tb (wHold X.K c i ts D) D σ H) := by
  refine ⟨fun pins s σ H D inv wish => wpAny_Try_except ?_⟩
  have good := inv.ok
  have frames : X.A.frames = some (X.env :: X.outer) := good.frames.trans (by rw [hs])
  have run := (hb (wHold X.K c i ts D) (X.pn ++ pins) (fun e t => wpAny (model X.prog X.w) X.A (noteFrame e X.env) (fun _ t => wpAny (model X.prog X.w) X.A (setFlight e none) (fun _ t =>
    wpAny (model X.prog X.w) X.A (handleBy e X.env [.ExceptHandler (some (.Name x np)) (some n) (b₀ :: suite) pos']) (SP X pins D) X.xe t) X.xe t) X.xe t) ?_ PassesOwn.looking).run [] s σ H D (inv.toTry _) wish
  · refine wpAny_mono run (fun f t q => ?_) (fun _ _ q => q)
    cases f with
    | next =>
      obtain ⟨σ1, H1, J, q1⟩ := q
      exact wpAny_execs_nil ⟨σ1, H1, J.ofTry good, q1⟩
    | brk =>
      obtain ⟨σ1, H1, J, q1⟩ := q
      exact ⟨σ1, H1, J.ofTry good, q1⟩
    | cont =>
      obtain ⟨σ1, H1, J, q1⟩ := q
      exact ⟨σ1, H1, J.ofTry good, q1⟩
    | ret u =>
      obtain ⟨v, σ1, H1, J, r, q1⟩ := q
      exact ⟨v, σ1, H1, J.ofTry good, r, q1⟩
  · rintro u t ⟨a, B, sI, pn1, σ1, H1, cls, d, rfl, J0, nb, up, sky, na, os, ag, yes, go⟩
    have J := J0.ofTry good
    rw [show (X.tr (X.pn ++ pins) _).stack = X.env :: X.outer from hs] at sky
    show wpAny _ X.A (noteFrame (.ref a) X.env) _ _ _
    refine Sky.land Zc.steady frames hf sky fun g1 F1 up1 => ?_
    have J1 : Inv X pins σ1 H1 { t with heap := g1 } := J.landed nb F1.1 (up.trans up1) os ag
    obtain ⟨e1, w1, at1, z1, d1⟩ := F1.there
    have noFrame : a ∉ frs (X.env :: X.outer) := fun h => by
      obtain ⟨_, e2, at2, nof⟩ := F1.2.2.1.mem h
      rw [at1] at at2
      cases at2
      exact nof _ d1
    have nI : sI.heap.get? a = none := by
      cases q : sI.heap.get? a with
      | none => rfl
      | some ob =>
        have q2 := nb a ob q (by
          rw [show (X.tr (X.pn ++ pins) _).stack = X.env :: X.outer from hs]
          exact noFrame)
        rw [F1.2.1] at q2
        cases q2
    refine wpAny_handleBy_cons (codeAny_handlers_test ?_) (fun q => nomatch q)
    have looks : PySem.W.Looks (model X.prog X.w) g1 (typeOf (.ref a)) cls := fun A' Q' E' s' k q => wpAny_typeOf_ref (k _ _ at1) (by rw [z1.1]; exact q)
    refine ld_glob (X := X.suite a (X.pn ++ pins)) (inv_into J1 a) hg hm ((PySem.W.exm_one (M := model X.prog X.w) J1.kIn looks yes).here ?_) hdb
    refine codeAny_handlers_suite_as (HandSPX.lands_againZ F1 fun g2 F2 up2 => ?_)
    have J2 : Inv X pins σ1 H1 { t with heap := g2 } := J.landed nb F2.1 ((up.trans up1).trans up2) os ag
    obtain ⟨e2, w2, at2, z2, d2⟩ := F2.there
    have T2 : Inv X pins σ1 (upd H1 a (ExH cls d a)) { t with heap := g2 } := inv_track J J2 nI na hex ⟨⟨e2, w2, at2, z2, d2⟩, ⟨e2, at2⟩, fun _ _ ⟨o', v', q, r⟩ k => ⟨o', v', k o' q, r⟩⟩
    refine store_ok (X := X.suite a (X.pn ++ pins)) (v := .ref a) (inv_into T2 a) hN hi (.inl hln) rfl (fun t3 T3 => ?_) (.inr hln)
    refine wpAny_mono ((hsu a (X.pn ++ pins)).run [] t3 _ _ _ T3 (go a na)) (fun f t4 q => ?_) (fun _ _ z => z.elim)
    cases f with
    | next =>
      obtain ⟨σ4, H4, J4, q4⟩ := q
      exact gone_ok (inv_out good J4) hN hi hln fun t5 J5 => ⟨_, _, J5, q4⟩
    | brk =>
      obtain ⟨σ4, H4, J4, q4⟩ := q
      exact gone_ok (inv_out good J4) hN hi hln fun t5 J5 => ⟨_, _, J5, q4⟩
    | cont =>
      obtain ⟨σ4, H4, J4, q4⟩ := q
      exact gone_ok (inv_out good J4) hN hi hln fun t5 J5 => ⟨_, _, J5, q4⟩
    | ret u =>
      obtain ⟨v, σ4, H4, J4, r4, q4⟩ := q
      exact gone_ok (inv_out good J4) hN hi hln fun t5 J5 => ⟨_, _, _, J5, r4, q4⟩
end
end G46
set_option maxHeartbeats 4000000
namespace G46
open PySem PySem.Spec PyProof.Rows L2
/-- isinstance(e, c), e a kept exception -/
def rIsH (K : PySem.W.Frag) : List V → Hp → VK → Prop := fun xs H Q => ∃ (a D : Addr) (c : V) (cv : Value) (b : Bool), xs = [.ref a, c] ∧ H a = some (ExH (.ref D) none a) ∧ ExcC K D ∧ (∀ u, RelV c u → u = cv) ∧ PySem.W.kitOne K (.ref D) cv = some b ∧ Q (.bl b) H
theorem call_isH {X : Cx} : CallR X (.builtin "isinstance") (rIsH X.K) := by
  intro pins s σ H xs us Q I r h
  obtain ⟨a, D, c, cv, b, rfl, ha, C, hcv, e, q⟩ := h
  obtain ⟨u1, u2, rfl, r1, r2⟩ := vals2 r
  cases (show u1 = Value.ref a from r1)
  cases hcv _ r2
  obtain ⟨⟨oe, vs, at1, ⟨z1, z2⟩, d1⟩, _⟩ := I.hok a _ ha
  have J : PySem.W.InstAt s.heap a oe D none := by
    obtain ⟨c0, c1, c2, c3⟩ := oe
    dsimp only at z1 z2 d1
    subst z1 z2 d1
    exact ⟨at1, rfl, rfl, trivial⟩
  exact PySem.W.kia_one (PySem.W.handS_kitx_exc C.hg C.hk C.hs C.hd C.ha C.hn C.ht C.hm) I.kIn J e (fun z => nomatch z) fun tk => ⟨.bl b, H, I.kept (t' := tk) fun _ _ z => z, rfl, q⟩
/-- what is known of the error's class -/
structure Kit (K : PySem.W.Frag) (y : Str) : Prop where
  exc : ExcC K (He.ga K y)
  all : ∀ x ∈ asked, PySem.W.kitOne K (.ref (He.ga K y)) (.ref (He.ga K x)) = some (decide (x = y))
  ve : PySem.W.kitOne K (.ref (He.ga K y)) (.type "ValueError") = some true
theorem kitB_ok {K : PySem.W.Frag} {y : Str} (h : kitB K y = true) : Kit K y := by
  unfold kitB at h
  rw [Bool.and_eq_true, Bool.and_eq_true] at h
  exact ⟨excCB_ok h.1, fun x hx => of_decide_eq_true (List.all_eq_true.mp h.2.1 x hx), of_decide_eq_true h.2.2⟩
theorem kits {K : PySem.W.Frag} (h : more K = true) : Kit K "NoNumber" ∧ Kit K "NoFit" := by
  unfold more at h
  rw [Bool.and_eq_true] at h
  exact ⟨kitB_ok h.1, kitB_ok h.2⟩
theorem rd_isH {K : PySem.W.Frag} {y x : Str} (k : Kit K y) (hx : x ∈ asked) {H : Hp} {a : Addr} {Q : VK} (ha : H a = some (ExH (.ref (He.ga K y)) none a)) (q : Q (.bl (decide (x = y))) H) : rIsH K [.ref a, .ref (He.ga K x)] H Q :=
  ⟨a, _, _, .ref (He.ga K x), _, rfl, ha, k.exc, fun u r => r, k.all x hx, q⟩
theorem rd_isHV {K : PySem.W.Frag} {y x : Str} (k : Kit K y) (hx : x ∈ asked) {σ : L2.St} {i : Nat} {H : Hp} {a : Addr} {Q : VK} (hσ : σ[i]? = some (some (.ref a))) (ha : H a = some (ExH (.ref (He.ga K y)) none a)) (q : Q (.bl (decide (x = y))) H) :
    tCB (rIsH K) (tCons (tVar i) (tCons (tC (.ref (He.ga K x))) tNil)) σ H Q := ⟨_, hσ, rd_isH k hx ha q⟩
section
variable {P : Program} {w : World} {K : PySem.W.Frag} {mg : Str → Option Value} {base : Heap}
def wds1 : List Str := ["NoRanking", "NoFolk", "NoNames", "NoFit", "NoLine", "NoNumber", "NoTree", "NoPaper"]
def wds2 : List Str := ["NoText", "NoTitle", "NoRow", "NoBack", "TooGreat", "NoWeights", "NoFall", "NoTops"]
def wds3 : List Str := ["NoFixed", "NoHand", "NoRule"]
theorem sp1 : Txt.split "NoRanking NoFolk NoNames NoFit NoLine NoNumber NoTree NoPaper" " " = wds1 := by decide +kernel
theorem sp2 : Txt.split "NoText NoTitle NoRow NoBack TooGreat NoWeights NoFall NoTops" " " = wds2 := by decide +kernel
theorem sp3 : Txt.split "NoFixed NoHand NoRule" " " = wds3 := by decide +kernel
theorem rd_hits3 {K : PySem.W.Frag} {y x1 x2 x3 : Str} (k : Kit K y) (h1 : x1 ∈ asked) (h2 : x2 ∈ asked) (h3 : x3 ∈ asked) {σ : L2.St} {H : Hp} {a p : Addr} {xs : List V} {Q : VK} (hσ : σ[0]? = some (some (.ref a))) (hσ1 : σ[1]? = some (some (.ref p)))
    (ha : H a = some (ExH (.ref (He.ga K y)) none a)) (hp : H p = some (.lst xs)) (hl : xs.length ≤ 100) (q : ∀ p' H', Same H H' → H' p' = some (.lst (xs ++ [.bl (decide (x1 = y)), .bl (decide (x2 = y)), .bl (decide (x3 = y))])) → Q (.ref p') H') :
    tOp rCat (tVar 1) (tLst (tCons (tCB (rIsH K) (tCons (tVar 0) (tCons (tC (.ref (He.ga K x1))) tNil))) (tCons (tCB (rIsH K) (tCons (tVar 0) (tCons (tC (.ref (He.ga K x2))) tNil))) (tCons (tCB (rIsH K) (tCons (tVar 0) (tCons (tC (.ref (He.ga K x3))) tNil))) tNil)))) σ H Q := by
  refine ⟨_, hσ1, ?_⟩
  refine rd_isHV k h1 hσ ha ?_
  refine rd_isHV k h2 hσ ha ?_
  refine rd_isHV k h3 hσ ha ?_
  refine ⟨(by show 3 ≤ sizeLine; decide), fun b hb => ?_⟩
  have s1 := same_new hb (.lst [.bl (decide (x1 = y)), .bl (decide (x2 = y)), .bl (decide (x3 = y))])
  refine ⟨p, b, _, _, rfl, rfl, s1 _ _ hp, upd_same, small (by simp only [List.length_cons, List.length_nil]; omega), fun c hc => ?_⟩
  exact q c _ (s1.trans (same_new hc _)) upd_same
theorem rd_words {σ : L2.St} {H : Hp} {p : Addr} {us vs : List Str} {x : Str} {Q : VK} (hσ : σ[2]? = some (some (.ref p))) (hp : H p = some (.lst (us.map V.str))) (hs : Txt.split x " " = vs) (hx : x.length + 2 ≤ sizeLine) (hl : us.length + vs.length ≤ 1000)
    (q : ∀ p' H', Same H H' → H' p' = some (.lst ((us ++ vs).map V.str)) → Q (.ref p') H') :
    tOp rCat (tVar 2) (tM1 (fun x xs H Q => ∃ a b, x = .str a ∧ xs = [.str b] ∧ (b.length == 0) = false ∧ a.length + 2 ≤ sizeLine ∧ rNewStrs (Txt.split a b) H Q) (tC (.str x)) (tC (.str " "))) σ H Q := by
  refine ⟨_, hσ, ?_⟩
  refine ⟨⟨x, rfl⟩, x, " ", rfl, rfl, by decide +kernel, hx, fun b hb => ?_⟩
  rw [hs]
  have s1 := same_new hb (.lst (vs.map V.str))
  refine ⟨p, b, _, _, rfl, rfl, s1 _ _ hp, upd_same, ?_, fun c hc => ?_⟩
  · rw [List.length_map, List.length_map]; exact small hl
  · refine q c _ (s1.trans (same_new hc _)) ?_
    rw [upd_same, List.map_append]
def spMarks (K : PySem.W.Frag) : Sp := fun vs H Q _ => ∃ (a : Addr) (y : Str), vs = [.ref a] ∧ H a = some (ExH (.ref (He.ga K y)) none a) ∧ (y = "NoNumber" ∨ y = "NoFit") ∧ ∀ p H', Same H H' → H' p = some (.lst [.str y]) → Q (.ref p) H'
theorem sc_law_marks : FnScope ["_law_caught", "_law_hits", "_law_words", "_law_found", "_law_word", "_law_hit"] ["_law_caught"] (defScope s_law_marks) := ⟨rfl, rfl, rfl, by decide +kernel, rfl, by decide +kernel, by decide +kernel⟩
theorem has_law_marks (T : Tx w K mg) : Has P w K mg base CX0 1 "_law_marks" ["_law_caught"] (spMarks K) := by
  refine T.mk0 37 d_law_marks rfl rfl rfl rfl rfl sc_law_marks (fun vs H Q E h => ?_) (fun _ _ _ _ _ _ us hl => match us, hl with | [_], _ => rfl) (fun f cdv A outer s H vs Q E hr h => ?_)
  · obtain ⟨a, y, rfl, _⟩ := h; rfl
  refine ⟨_, (pss_cons (ps_set (i := 1) sc_law_marks.nd rfl (Or.inl rfl) (pe_lst (pa_cons (pe_callB call_isH (by rfl) (T.free 64) (by decide +kernel) (pa_cons (pv 0) (pa_cons (pe_glob (v := .ref (He.ga K "NoRanking")) rfl (T.glo 45) rfl) pa_nil))) (pa_cons (pe_callB call_isH (by rfl) (T.free 64) (by decide +kernel) (pa_cons (pv 0) (pa_cons (pe_glob (v := .ref (He.ga K "NoFolk")) rfl (T.glo 46) rfl) pa_nil))) (pa_cons (pe_callB call_isH (by rfl) (T.free 64) (by decide +kernel) (pa_cons (pv 0) (pa_cons (pe_glob (v := .ref (He.ga K "NoNames")) rfl (T.glo 47) rfl) pa_nil))) pa_nil)))))
    (pss_cons (ps_set (i := 1) sc_law_marks.nd rfl (Or.inl rfl) (pe_op op_cat (pv 1) (pe_lst (pa_cons (pe_callB call_isH (by rfl) (T.free 64) (by decide +kernel) (pa_cons (pv 0) (pa_cons (pe_glob (v := .ref (He.ga K "NoFit")) rfl (T.glo 48) rfl) pa_nil))) (pa_cons (pe_callB call_isH (by rfl) (T.free 64) (by decide +kernel) (pa_cons (pv 0) (pa_cons (pe_glob (v := .ref (He.ga K "NoLine")) rfl (T.glo 49) rfl) pa_nil))) (pa_cons (pe_callB call_isH (by rfl) (T.free 64) (by decide +kernel) (pa_cons (pv 0) (pa_cons (pe_glob (v := .ref (He.ga K "NoNumber")) rfl (T.glo 50) rfl) pa_nil))) pa_nil))))))
    (pss_cons (ps_set (i := 1) sc_law_marks.nd rfl (Or.inl rfl) (pe_op op_cat (pv 1) (pe_lst (pa_cons (pe_callB call_isH (by rfl) (T.free 64) (by decide +kernel) (pa_cons (pv 0) (pa_cons (pe_glob (v := .ref (He.ga K "NoTree")) rfl (T.glo 51) rfl) pa_nil))) (pa_cons (pe_callB call_isH (by rfl) (T.free 64) (by decide +kernel) (pa_cons (pv 0) (pa_cons (pe_glob (v := .ref (He.ga K "NoPaper")) rfl (T.glo 52) rfl) pa_nil))) (pa_cons (pe_callB call_isH (by rfl) (T.free 64) (by decide +kernel) (pa_cons (pv 0) (pa_cons (pe_glob (v := .ref (He.ga K "NoText")) rfl (T.glo 53) rfl) pa_nil))) pa_nil))))))
    (pss_cons (ps_set (i := 1) sc_law_marks.nd rfl (Or.inl rfl) (pe_op op_cat (pv 1) (pe_lst (pa_cons (pe_callB call_isH (by rfl) (T.free 64) (by decide +kernel) (pa_cons (pv 0) (pa_cons (pe_glob (v := .ref (He.ga K "NoTitle")) rfl (T.glo 54) rfl) pa_nil))) (pa_cons (pe_callB call_isH (by rfl) (T.free 64) (by decide +kernel) (pa_cons (pv 0) (pa_cons (pe_glob (v := .ref (He.ga K "NoRow")) rfl (T.glo 55) rfl) pa_nil))) (pa_cons (pe_callB call_isH (by rfl) (T.free 64) (by decide +kernel) (pa_cons (pv 0) (pa_cons (pe_glob (v := .ref (He.ga K "NoBack")) rfl (T.glo 56) rfl) pa_nil))) pa_nil))))))
    (pss_cons (ps_set (i := 1) sc_law_marks.nd rfl (Or.inl rfl) (pe_op op_cat (pv 1) (pe_lst (pa_cons (pe_callB call_isH (by rfl) (T.free 64) (by decide +kernel) (pa_cons (pv 0) (pa_cons (pe_glob (v := .ref (He.ga K "TooGreat")) rfl (T.glo 57) rfl) pa_nil))) (pa_cons (pe_callB call_isH (by rfl) (T.free 64) (by decide +kernel) (pa_cons (pv 0) (pa_cons (pe_glob (v := .ref (He.ga K "NoWeights")) rfl (T.glo 58) rfl) pa_nil))) (pa_cons (pe_callB call_isH (by rfl) (T.free 64) (by decide +kernel) (pa_cons (pv 0) (pa_cons (pe_glob (v := .ref (He.ga K "NoFall")) rfl (T.glo 59) rfl) pa_nil))) pa_nil))))))
    (pss_cons (ps_set (i := 1) sc_law_marks.nd rfl (Or.inl rfl) (pe_op op_cat (pv 1) (pe_lst (pa_cons (pe_callB call_isH (by rfl) (T.free 64) (by decide +kernel) (pa_cons (pv 0) (pa_cons (pe_glob (v := .ref (He.ga K "NoTops")) rfl (T.glo 60) rfl) pa_nil))) (pa_cons (pe_callB call_isH (by rfl) (T.free 64) (by decide +kernel) (pa_cons (pv 0) (pa_cons (pe_glob (v := .ref (He.ga K "NoFixed")) rfl (T.glo 61) rfl) pa_nil))) (pa_cons (pe_callB call_isH (by rfl) (T.free 64) (by decide +kernel) (pa_cons (pv 0) (pa_cons (pe_glob (v := .ref (He.ga K "NoHand")) rfl (T.glo 62) rfl) pa_nil))) pa_nil))))))
    (pss_cons (ps_set (i := 1) sc_law_marks.nd rfl (Or.inl rfl) (pe_op op_cat (pv 1) (pe_lst (pa_cons (pe_callB call_isH (by rfl) (T.free 64) (by decide +kernel) (pa_cons (pv 0) (pa_cons (pe_glob (v := .ref (He.ga K "NoRule")) rfl (T.glo 63) rfl) pa_nil))) pa_nil))))
    (pss_cons (ps_set (i := 2) sc_law_marks.nd rfl (Or.inl rfl) (pe_split pe_str pe_str))
    (pss_cons (ps_set (i := 2) sc_law_marks.nd rfl (Or.inl rfl) (pe_op op_cat (pv 2) (pe_split pe_str pe_str)))
    (pss_cons (ps_set (i := 2) sc_law_marks.nd rfl (Or.inl rfl) (pe_op op_cat (pv 2) (pe_split pe_str pe_str)))
    (pss_cons (ps_setLc (i := 3) (own := [("_law_word", 4), ("_law_hit", 5)]) (g := (gTup K 2 (gCons (gName 4) (gCons (gName 5) gNil)))) rfl sc_law_marks.nd rfl rfl (sw_true rfl rfl rfl (by decide +kernel)) (pi_zip (by rfl) (T.free 78) (pa_cons (pv 2) (pa_cons (pv 1) pa_nil))) (blkOk_by (own := [("_law_word", 4), ("_law_hit", 5)]) (N := ["_law_caught", "_law_hits", "_law_words", "_law_found", "_law_word", "_law_hit"]) (sc := (defScope s_law_marks)) (by decide +kernel)) (fun _ _ _ _ _ => (pg_tup rfl (pgs_cons (pg_name (i := 4) sc_law_marks.nd rfl (Or.inl rfl)) (pgs_cons (pg_name (i := 5) sc_law_marks.nd rfl (Or.inl rfl)) pgs_nil)))) (fun _ _ _ _ _ => (pts_one (pt_val (pv 5)))) (fun _ _ _ _ _ => (pv 4)))
    (pss_cons (ps_if (pt_not (pt_val (pe_callB call_isH (by rfl) (T.free 64) (by decide +kernel) (pa_cons (pv 0) (pa_cons (pe_bltn (v := .ty "ValueError") (by rfl) (T.free 79) (by decide +kernel) rfl) pa_nil)))))
    (pss_one (ps_expr (pe_bm PySem.F.plainAttrs_list PySem.F.slot_list_append PySem.F.type_list_append mt_append (pv 3) (pa_cons pe_str pa_nil))))
    pss_nil)
    (pss_one (ps_ret (pv 3))))))))))))))), ?_⟩
  obtain ⟨a, y, rfl, ha, hy, q⟩ := h
  have k : Kit K y := by
    rcases hy with e | e
    · rw [e]; exact (kits T.more).1
    · rw [e]; exact (kits T.more).2
  refine rd_isHV k (by decide) rfl ha ?_
  refine rd_isHV k (by decide) rfl ha ?_
  refine rd_isHV k (by decide) rfl ha ?_
  refine ⟨(by show 3 ≤ sizeLine; decide), fun p1 hp1 => ?_⟩
  have s1 := same_new hp1 (.lst [.bl (decide ("NoRanking" = y)), .bl (decide ("NoFolk" = y)), .bl (decide ("NoNames" = y))])
  have u1 : ∀ {H' : Hp}, Same H H' → H' a = some (ExH (.ref (He.ga K y)) none a) := fun s => s _ _ ha
  refine rd_hits3 k (x1 := "NoFit") (x2 := "NoLine") (x3 := "NoNumber") (by decide) (by decide) (by decide) rfl rfl (u1 s1) upd_same (by simp) fun p2 H2 s2 h2 => ?_
  have s2 := s1.trans s2
  refine rd_hits3 k (x1 := "NoTree") (x2 := "NoPaper") (x3 := "NoText") (by decide) (by decide) (by decide) rfl rfl (u1 s2) h2 (by simp) fun p3 H3 s3 h3 => ?_
  have s3 := s2.trans s3
  refine rd_hits3 k (x1 := "NoTitle") (x2 := "NoRow") (x3 := "NoBack") (by decide) (by decide) (by decide) rfl rfl (u1 s3) h3 (by simp) fun p4 H4 s4 h4 => ?_
  have s4 := s3.trans s4
  refine rd_hits3 k (x1 := "TooGreat") (x2 := "NoWeights") (x3 := "NoFall") (by decide) (by decide) (by decide) rfl rfl (u1 s4) h4 (by simp) fun p5 H5 s5 h5 => ?_
  have s5 := s4.trans s5
  refine rd_hits3 k (x1 := "NoTops") (x2 := "NoFixed") (x3 := "NoHand") (by decide) (by decide) (by decide) rfl rfl (u1 s5) h5 (by simp) fun p6 H6 s6 h6 => ?_
  have s6 := s5.trans s6
  refine ⟨_, rfl, ?_⟩
  refine rd_isHV k (by decide) rfl (u1 s6) ?_
  refine ⟨(by show 1 ≤ sizeLine; decide), fun b7 hb7 => ?_⟩
  have s7 := s6.trans (same_new hb7 (.lst [.bl (decide ("NoRule" = y))]))
  refine ⟨p6, b7, _, _, rfl, rfl, (same_new hb7 _) _ _ h6, upd_same, small (by simp), fun p8 hp8 => ?_⟩
  have s8 := s7.trans (same_new hp8 (.lst ([.bl (decide ("NoRanking" = y)), .bl (decide ("NoFolk" = y)), .bl (decide ("NoNames" = y))] ++ [.bl (decide ("NoFit" = y)), .bl (decide ("NoLine" = y)), .bl (decide ("NoNumber" = y))] ++
    [.bl (decide ("NoTree" = y)), .bl (decide ("NoPaper" = y)), .bl (decide ("NoText" = y))] ++ [.bl (decide ("NoTitle" = y)), .bl (decide ("NoRow" = y)), .bl (decide ("NoBack" = y))] ++
    [.bl (decide ("TooGreat" = y)), .bl (decide ("NoWeights" = y)), .bl (decide ("NoFall" = y))] ++ [.bl (decide ("NoTops" = y)), .bl (decide ("NoFixed" = y)), .bl (decide ("NoHand" = y))] ++ [.bl (decide ("NoRule" = y))])))
  refine ⟨⟨_, rfl⟩, _, _, rfl, rfl, (by decide +kernel), (by decide +kernel), fun w1 hw1 => ?_⟩
  rw [sp1]
  have t1 := same_new hw1 (.lst (wds1.map V.str))
  refine rd_words (us := wds1) (vs := wds2) rfl upd_same sp2 (by decide +kernel) (by decide +kernel) fun w2 H10 t2 e2 => ?_
  have t2 := t1.trans t2
  refine rd_words (us := wds1 ++ wds2) (vs := wds3) rfl e2 sp3 (by decide +kernel) (by decide +kernel) fun w3 H11 t3 e3 => ?_
  have t3 := t2.trans t3
  have hits : H11 p8 = some (.lst ((wds1 ++ wds2 ++ wds3).map fun x => V.bl (decide (x = y)))) := t3 _ _ upd_same
  have s11 := s8.trans t3
  refine ⟨_, rfl, _, rfl, w3, p8, _, _, rfl, SqL.of e3, SqL.of hits, fun D hD => ?_⟩
  refine lc_it (walk_zip (K := K) (a := w3) (b := p8) (n := 19) (xs := (wds1 ++ wds2 ++ wds3).map V.str) (ys := (wds1 ++ wds2 ++ wds3).map fun x => V.bl (decide (x = y))) (by rw [List.length_map, List.length_map]; decide +kernel)) (fun i H' => Same H11 H' ∧ H' D = some (.lst ((((wds1 ++ wds2 ++ wds3).take i).filter fun x => decide (x = y)).map V.str)))
    ⟨same_new hD _, upd_same⟩ (fun i H' _ h => ⟨SqL.of (h.1 _ _ e3), SqL.of (h.1 _ _ hits)⟩) (fun i x H12 H13 hi h hy => ?_) (fun H12 h => ?_)
  · obtain ⟨t12, d12⟩ := h
    obtain ⟨tp, x0, x1, rfl, htp, rfl, g1, g2⟩ := hy
    obtain ⟨wd, hwd, rfl⟩ := map_get g1
    obtain ⟨wd', hwd', rfl⟩ := map_get g2
    have ew : wd' = wd := Option.some.inj (hwd'.symm.trans hwd)
    subst ew
    have t13 := t12.trans (same_new htp (.tup [.str wd', .bl (decide (wd' = y))]))
    have d13 := (same_new htp (.tup [.str wd', .bl (decide (wd' = y))])) _ _ d12
    have keep : ∀ l : List V, Same H11 (upd (upd H12 tp (.tup [.str wd', .bl (decide (wd' = y))])) D (.lst l)) := fun l => ((Kp.of [D] t13).trans (Kp.put (by simp))).drop hD |>.same
    refine ⟨tp, _, rfl, SqT.of upd_same, rfl, _, _, rfl, _, _, rfl, rfl, rfl, _, rfl, _, rfl, ?_⟩
    refine ite2 (fun c => ⟨_, rfl, _, d13, ?_, keep _, ?_⟩) (fun c => ⟨t13, ?_⟩)
    · rw [List.length_map]
      have h1 := List.length_filter_le (fun x => decide (x = y)) ((wds1 ++ wds2 ++ wds3).take i)
      rw [List.length_take] at h1
      exact small1000 (by omega)
    · rw [upd_same, take_succ hwd, List.filter_append, List.map_append, List.filter_cons_of_pos (p := fun x => decide (x = y)) c]; rfl
    · rw [d13, take_succ hwd, List.filter_append, List.filter_cons_of_neg (p := fun x => decide (x = y)) c]
      simp
  · obtain ⟨t12, d12⟩ := h
    have fin : (((wds1 ++ wds2 ++ wds3).take 19).filter fun x => decide (x = y)).map V.str = [.str y] := by
      rcases hy with e | e
      · rw [e]; rfl
      · rw [e]; rfl
    rw [fin] at d12
    have s12 := s11.trans t12
    refine ⟨_, rfl, a, _, .ty "ValueError", .type "ValueError", true, rfl, s12 _ _ ha, k.exc, fun u r => r, k.ve, true, rfl, ?_⟩
    exact iteF ⟨_, rfl, q _ H12 s12 d12⟩
end
end G46
set_option maxHeartbeats 4000000
namespace G46
open PySem PySem.Spec PyProof.Rows L2
def dPair {α β : Type} (f : α → PyData) (g : β → PyData) (p : α × β) : PyData := .list [f p.1, g p.2]
theorem enc_pair {α β : Type} {f : α → PyData} {g : β → PyData} {k : Nat} (h : Enc f k) (h' : Enc g k) : Enc (dPair f g) (k + 1) :=
  ⟨fun p => by simp [dPair, PyData.canLay0, PyData.canLayAll0, h.lay, h'.lay], fun p => by
    have h1 := h.dep p.1
    have h2 := h'.dep p.2
    simp only [dPair, PyData.depth, PyData.depthAll]
    omega, fun p q => by
    obtain ⟨a, b⟩ := p
    obtain ⟨c, d⟩ := q
    simp [dPair, PyData.eqv, PyData.eqvAll, h.eqv, h'.eqv]⟩
theorem Enc.up {α : Type} {f : α → PyData} {k j : Nat} (h : Enc f k) (hk : k ≤ j) : Enc f j := ⟨h.lay, fun x => Nat.le_trans (h.dep x) hk, h.eqv⟩
theorem all2_two {H : Hp} {xs : List V} {F G : Fm} (h : All2 H xs [F, G]) : ∃ x y, xs = [x, y] ∧ F H x ∧ G H y := by
  match xs, h with
  | [x, y], h => exact ⟨x, y, rfl, h.1, h.2.1⟩
section
variable {P : Program} {w : World} {K : PySem.W.Frag} {mg : Str → Option Value} {base : Heap}
def spRefused : Sp := fun vs H Q _ => ∃ (way : Int) (f : Addr) (x : V) (ns : List Int) (rs : List (List Int)), vs = [.int way, .ref f, x] ∧ FL H f rs ∧ Flk ns rs ∧
  ((∃ n, way = 0 ∧ x = .int n ∧ ¬ (0 ≤ n ∧ n < (many ns rs : Nat)) ∧ ∀ p H', Same H H' → H' p = some (.lst [.str "NoNumber"]) → Q (.ref p) H') ∨
    (∃ b ts, way = 1 ∧ x = .ref b ∧ TL H b ts ∧ RTree ns ts ∧ (¬ ∀ r ∈ rs, Falls ts r) ∧ ∀ p H', Same H H' → H' p = some (.lst [.str "NoFit"]) → Q (.ref p) H'))
theorem sc_law_refused : FnScope ["_law_way", "_law_folk_here", "_law_thing", "_law_caught", "_law_handed", "e"] ["_law_way", "_law_folk_here", "_law_thing"] (defScope s_law_refused) := ⟨rfl, rfl, rfl, by decide +kernel, rfl, by decide +kernel, by decide +kernel⟩
theorem has_law_refused (T : Tx w K mg) (h_law_copied : Has P w K mg base CX0 4 "_law_copied" ["_law_thing"] (spC 4)) (h_tree_by : Has P w K mg base (L2.CX P w) 7 "tree_by" ["folk", "number"] (spTreeBy K)) (h_tree_number : Has P w K mg base (L2.CX P w) 7 "tree_number" ["folk", "tree"] (spTreeNum K)) (h_law_marks : Has P w K mg base CX0 1 "_law_marks" ["_law_caught"] (spMarks K)) : Has P w K mg base CX0 8 "_law_refused" ["_law_way", "_law_folk_here", "_law_thing"] spRefused := by
  obtain ⟨f_law_copied, fd_law_copied, G_law_copied, M_law_copied, K_law_copied, B_law_copied⟩ := h_law_copied
  obtain ⟨f_tree_by, fd_tree_by, G_tree_by, M_tree_by, K_tree_by, B_tree_by⟩ := h_tree_by
  obtain ⟨f_tree_number, fd_tree_number, G_tree_number, M_tree_number, K_tree_number, B_tree_number⟩ := h_tree_number
  obtain ⟨f_law_marks, fd_law_marks, G_law_marks, M_law_marks, K_law_marks, B_law_marks⟩ := h_law_marks
  have ex1 := He.exm_ok (T.fact 84 (f := .exm "NoNumber" "FolkError" true) rfl)
  have ex2 := He.exm_ok (T.fact 85 (f := .exm "NoFit" "FolkError" true) rfl)
  refine T.mk0 40 d_law_refused rfl rfl rfl rfl rfl sc_law_refused (fun vs H Q E h => ?_) (fun _ _ _ _ _ _ us hl => match us, hl with | [_, _, _], _ => rfl) (fun f cdv A outer s H vs Q E hr h => ?_)
  · obtain ⟨way, f, x, ns, rs, rfl, _⟩ := h; rfl
  refine ⟨_, (pss_cons (ps_set (i := 3) sc_law_refused.nd rfl (Or.inl rfl) pe_non)
    (pss_cons (ps_set (i := 4) sc_law_refused.nd rfl (Or.inl rfl) (pe_call G_law_copied (hr.mono (by decide)) rfl M_law_copied K_law_copied B_law_copied .nil pass0 (pa_cons (pe_lst (pa_cons (pv 1) (pa_cons (pv 2) pa_nil))) pa_nil)))
    (pss_cons (ps_try_hold (tb := fun W => tSeq (tIfS (tTest (tOp rEq (tVar 0) (tC (.int 0)))) (tDrop (tCallS (spTreeBy K) (WE W) (tCons (tOp (rIxL K) (tVar 4) (tC (.int 0))) (tCons (tVar 2) tNil)))) tNext) (tIfS (tTest (tOp rEq (tVar 0) (tC (.int 1)))) (tDrop (tCallS (spTreeNum K) (WE W) (tCons (tOp (rIxL K) (tVar 4) (tC (.int 0))) (tCons (tOp (rIxL K) (tVar 4) (tC (.int 1))) tNil)))) tNext)) (i := 5) rfl rfl rfl sc_law_refused.nd rfl rfl rfl (by decide) (T.glo 44)
    (fun W pn xe tk _ => (pss_cons (ps_if (pt_cmpR op_eq (pv 0) pe_int (nomark _))
    (pss_one (ps_expr (pe_callS G_tree_by (hr.mono (by decide)) rfl M_tree_by K_tree_by B_tree_by (fun σ => passAt tk σ) (pa_cons (pe_ix ix_list (pv 4) pe_int (fun _ _ => rfl)) (pa_cons (pv 2) pa_nil)))))
    pss_nil)
    (pss_one (ps_if (pt_cmpR op_eq (pv 0) pe_int (nomark _))
    (pss_one (ps_expr (pe_callS G_tree_number (hr.mono (by decide)) rfl M_tree_number K_tree_number B_tree_number (fun σ => passAt tk σ) (pa_cons (pe_ix ix_list (pv 4) pe_int (fun _ _ => rfl)) (pa_cons (pe_ix ix_list (pv 4) pe_int (fun _ _ => rfl)) pa_nil)))))
    pss_nil))))
    (fun _ _ => (pss_one (ps_set (i := 3) sc_law_refused.nd rfl (Or.inl rfl) (pv 5)))))
    (pss_cons (ps_if (pt_cmpR (op_neD hr.units) (pv 4) (pe_lst (pa_cons (pv 1) (pa_cons (pv 2) pa_nil))) (nomark _))
    (pss_one (ps_ret (pe_lst (pa_cons pe_str pa_nil))))
    pss_nil)
    (pss_one (ps_ret (pe_call G_law_marks (hr.mono (by decide)) rfl M_law_marks K_law_marks B_law_marks .nil pass0 (pa_cons (pv 3) pa_nil)))))))), ?_⟩
  obtain ⟨way, g, x, ns, rs, rfl, hf, F, hc⟩ := h
  have hh := F.hands
  have hln := F.nm.len
  have formF : Form 2 (RF FL rs) := form_FL (by omega) (fun r hr => by have := F.rl hr; omega) 0
  rcases hc with ⟨n, rfl, rfl, hn, q⟩ | ⟨b, ts, rfl, rfl, hb, rt, hfl, q⟩
  · refine ⟨_, rfl, _, rfl, (by show 2 ≤ sizeLine; decide), fun l hl => ?_⟩
    have s1 := same_new hl (.lst [.ref g, .int n])
    refine F_to (E := E0) (form_two formF (.int 2 n)) ⟨l, _, rfl, upd_same, ⟨g, rfl, mono_FL _ _ _ _ s1 hf⟩, rfl, trivial⟩ fun v H2 s2 fv => ?_
    obtain ⟨a, xs, rfl, ha, h2⟩ := fv H2 (NK.self _ _ _)
    obtain ⟨x0, x1, rfl, ⟨f', rfl, hf'⟩, hx1⟩ := all2_two h2
    cases (show x1 = .int n from hx1)
    have s12 := s1.trans s2
    refine ⟨_, rfl, rfl, _, rfl, ?_⟩
    refine ite2 (fun _ => ?_) (fun c => absurd (decide_eq_true rfl) c)
    refine ⟨_, rfl, a, _, 0, _, rfl, rfl, SqL.of ha, rfl, _, rfl, f', n, ns, rs, rfl, hf', F, fun h => absurd h hn, fun _ H3 s3 => ⟨ex1, fun e he => ?_⟩⟩
    refine ⟨_, rfl, ?_⟩
    have s4 := s3.trans (same_new he (ExH (.ref (He.ga K "NoNumber")) none e))
    have s14 := s12.trans s4
    refine ⟨_, rfl, _, rfl, _, rfl, (by show 2 ≤ sizeLine; decide), fun l2 hl2 => ?_⟩
    have s5 := same_new hl2 (.lst [.ref g, .int n])
    have d1 : Dp K _ (.ref a) (dPair dF PyData.int (rs, n)) := .lst (SqL.of (s5 _ _ (s4 _ _ ha))) (.cons (dp_F (mono_FL _ _ _ _ (s4.trans s5) hf')) (.cons (.int n) .nil))
    have d2 : Dp K _ (.ref l2) (dPair dF PyData.int (rs, n)) := .lst (SqL.of upd_same) (.cons (dp_F (mono_FL _ _ _ _ (s14.trans s5) hf)) (.cons (.int n) .nil))
    refine rd_neD (enc_pair enc_F (enc_int.up (by decide))) (by decide) d1 d2 ⟨_, rfl, ?_⟩
    rw [decide_eq_true rfl]
    refine iteF ⟨_, rfl, e, "NoNumber", rfl, s5 _ _ upd_same, .inl rfl, fun p H6 s6 h6 => ?_⟩
    exact q p H6 ((s14.trans s5).trans s6) h6
  · have htl := rt.len
    have formT : Form 2 (RF TL ts) := form_TL (by omega) 0
    refine ⟨_, rfl, _, rfl, (by show 2 ≤ sizeLine; decide), fun l hl => ?_⟩
    have s1 := same_new hl (.lst [.ref g, .ref b])
    refine F_to (E := E0) (form_two formF formT) ⟨l, _, rfl, upd_same, ⟨g, rfl, mono_FL _ _ _ _ s1 hf⟩, ⟨b, rfl, mono_TL _ _ _ _ s1 hb⟩, trivial⟩ fun v H2 s2 fv => ?_
    obtain ⟨a, xs, rfl, ha, h2⟩ := fv H2 (NK.self _ _ _)
    obtain ⟨x0, x1, rfl, ⟨f', rfl, hf'⟩, ⟨b', rfl, hb'⟩⟩ := all2_two h2
    have s12 := s1.trans s2
    refine ⟨_, rfl, rfl, _, rfl, ?_⟩
    refine ite2 (fun c => absurd (V.int.inj (of_decide_eq_true c)) (by decide)) (fun _ => ?_)
    refine ⟨_, rfl, rfl, _, rfl, ?_⟩
    refine ite2 (fun _ => ?_) (fun c => absurd (decide_eq_true rfl) c)
    refine ⟨_, rfl, a, _, 0, _, rfl, rfl, SqL.of ha, rfl, _, rfl, a, _, 1, _, rfl, rfl, SqL.of ha, rfl, f', b', ns, rs, ts, rfl, hf', hb', F, rt, fun h => absurd h hfl, fun _ H3 s3 => ⟨ex2, fun e he => ?_⟩⟩
    refine ⟨_, rfl, ?_⟩
    have s4 := s3.trans (same_new he (ExH (.ref (He.ga K "NoFit")) none e))
    have s14 := s12.trans s4
    refine ⟨_, rfl, _, rfl, _, rfl, (by show 2 ≤ sizeLine; decide), fun l2 hl2 => ?_⟩
    have s5 := same_new hl2 (.lst [.ref g, .ref b])
    have d1 : Dp K _ (.ref a) (dPair dF dT (rs, ts)) := .lst (SqL.of (s5 _ _ (s4 _ _ ha))) (.cons (dp_F (mono_FL _ _ _ _ (s4.trans s5) hf')) (.cons (dp_T (mono_TL _ _ _ _ (s4.trans s5) hb')) .nil))
    have d2 : Dp K _ (.ref l2) (dPair dF dT (rs, ts)) := .lst (SqL.of upd_same) (.cons (dp_F (mono_FL _ _ _ _ (s14.trans s5) hf)) (.cons (dp_T (mono_TL _ _ _ _ (s14.trans s5) hb)) .nil))
    refine rd_neD (enc_pair enc_F enc_T) (by decide) d1 d2 ⟨_, rfl, ?_⟩
    rw [decide_eq_true rfl]
    refine iteF ⟨_, rfl, e, "NoFit", rfl, s5 _ _ upd_same, .inr rfl, fun p H6 s6 h6 => ?_⟩
    exact q p H6 ((s14.trans s5).trans s6) h6
end
end G46
set_option maxHeartbeats 4000000
namespace G46
open PySem PySem.Spec PyProof.Rows L2
section
variable {P : Program} {w : World} {K : PySem.W.Frag} {mg : Str → Option Value} {base : Heap}
def spNumbered : Sp := fun vs H Q _ => ∃ (L f : Addr) (ns : List Int) (rs : List (List Int)) (n : Int), vs = [.ref L, .ref f, .int (many ns rs : Nat)] ∧ DS n H L ∧ n < 2 ^ 30 ∧ FLx L H f rs ∧ f ≠ L ∧ Flk ns rs ∧ 0 < many ns rs ∧
  ∀ H', Kp [L] H H' → DS (n + 2) H' L → Q (.bl true) H'
theorem sc_law_numbered : FnScope ["_law_left_here", "_law_folk_here", "_law_many_here", "_law_number", "_law_other", "_law_handed", "_law_one", "_law_kept"] ["_law_left_here", "_law_folk_here", "_law_many_here"] (defScope s_law_numbered) := ⟨rfl, rfl, rfl, by decide +kernel, rfl, by decide +kernel, by decide +kernel⟩
theorem has_law_numbered (T : Tx w K mg) (h_law_draw : Has P w K mg base CX0 2 "_law_draw" ["_law_left_here", "_law_base"] spDraw) (h_law_copied : Has P w K mg base CX0 4 "_law_copied" ["_law_thing"] (spC 4)) (h_tree_by : Has P w K mg base (L2.CX P w) 7 "tree_by" ["folk", "number"] (spTreeBy K)) (h_tree_number : Has P w K mg base (L2.CX P w) 7 "tree_number" ["folk", "tree"] (spTreeNum K)) (h_law_right : Has P w K mg base CX0 3 "_law_right" ["_law_folk_here", "_law_tree_here"] spLRight) : Has P w K mg base CX0 8 "_law_numbered" ["_law_left_here", "_law_folk_here", "_law_many_here"] spNumbered := by
  obtain ⟨f_law_draw, fd_law_draw, G_law_draw, M_law_draw, K_law_draw, B_law_draw⟩ := h_law_draw
  obtain ⟨f_law_copied, fd_law_copied, G_law_copied, M_law_copied, K_law_copied, B_law_copied⟩ := h_law_copied
  obtain ⟨f_tree_by, fd_tree_by, G_tree_by, M_tree_by, K_tree_by, B_tree_by⟩ := h_tree_by
  obtain ⟨f_law_right, fd_law_right, G_law_right, M_law_right, K_law_right, B_law_right⟩ := h_law_right
  obtain ⟨f_tree_number, fd_tree_number, G_tree_number, M_tree_number, K_tree_number, B_tree_number⟩ := h_tree_number
  refine T.mk0 42 d_law_numbered rfl rfl rfl rfl rfl sc_law_numbered (fun vs H Q E h => ?_) (fun _ _ _ _ _ _ us hl => match us, hl with | [_, _, _], _ => rfl) (fun f cdv A outer s H vs Q E hr h => ?_)
  · obtain ⟨L, f, ns, rs, n, rfl, _⟩ := h; rfl
  refine ⟨_, (pss_cons (ps_set (i := 3) sc_law_numbered.nd rfl (Or.inl rfl) (pe_call G_law_draw (hr.mono (by decide)) rfl M_law_draw K_law_draw B_law_draw .nil pass0 (pa_cons (pv 0) (pa_cons (pv 2) pa_nil))))
    (pss_cons (ps_set (i := 4) sc_law_numbered.nd rfl (Or.inl rfl) (pe_call G_law_draw (hr.mono (by decide)) rfl M_law_draw K_law_draw B_law_draw .nil pass0 (pa_cons (pv 0) (pa_cons (pv 2) pa_nil))))
    (pss_cons (ps_set (i := 5) sc_law_numbered.nd rfl (Or.inl rfl) (pe_call G_law_copied (hr.mono (by decide)) rfl M_law_copied K_law_copied B_law_copied .nil pass0 (pa_cons (pv 1) pa_nil)))
    (pss_cons (ps_set (i := 6) sc_law_numbered.nd rfl (Or.inl rfl) (pe_call G_tree_by (hr.mono (by decide)) rfl M_tree_by K_tree_by B_tree_by .nil passL (pa_cons (pv 5) (pa_cons (pv 3) pa_nil))))
    (pss_cons (ps_if (PW.pt (pw_or (pt_cmpR (op_neD hr.units) (pv 5) (pv 1) (nomark _)) (pw_or (pt_not (pt_val (pe_call G_law_right (hr.mono (by decide)) rfl M_law_right K_law_right B_law_right .nil pass0 (pa_cons (pv 1) (pa_cons (pv 6) pa_nil))))) (pw_or1 (pt_cmpR op_ne (pe_call G_tree_number (hr.mono (by decide)) rfl M_tree_number K_tree_number B_tree_number .nil passL (pa_cons (pv 5) (pa_cons (pe_callTy call_list_of (by rfl) (T.free 67) (by decide +kernel) (pa_cons (pv 6) pa_nil)) pa_nil))) (pv 3) (nomark _))))))
    (pss_one (ps_ret pe_bl))
    pss_nil)
    (pss_cons (ps_set (i := 7) sc_law_numbered.nd rfl (Or.inl rfl) (pe_callTy call_list_of (by rfl) (T.free 67) (by decide +kernel) (pa_cons (pv 6) pa_nil)))
    (pss_cons (ps_expr (pe_bm PySem.F.plainAttrs_list PySem.F.slot_list_append PySem.F.type_list_append mt_append (pv 6) (pa_cons pe_str pa_nil)))
    (pss_cons (ps_if (PW.pt (pw_or (pt_cmpR (op_neD hr.units) (pv 5) (pv 1) (nomark _)) (pw_or1 (pt_cmpR (op_neD hr.units) (pe_call G_tree_by (hr.mono (by decide)) rfl M_tree_by K_tree_by B_tree_by .nil passL (pa_cons (pv 5) (pa_cons (pv 3) pa_nil))) (pv 7) (nomark _)))))
    (pss_one (ps_ret pe_bl))
    pss_nil)
    (pss_one (ps_ret (pe_cmpR op_eq (pe_cmpR (op_eqD hr.units) (pe_call G_tree_by (hr.mono (by decide)) rfl M_tree_by K_tree_by B_tree_by .nil passL (pa_cons (pv 5) (pa_cons (pv 4) pa_nil))) (pv 7) (nomark _)) (pe_cmpR op_eq (pv 3) (pv 4) (nomark _)) (nomark _)))))))))))), ?_⟩
  obtain ⟨L, g, ns, rs, n, rfl, ds, hn, hf, gL, F, hm, q⟩ := h
  have e30 : (2 : Int) ^ 30 = 1073741824 := by decide
  have e40 : (2 : Int) ^ 40 = 1099511627776 := by decide
  have e28 : (10 : Int) ^ 28 = 10000000000000000000000000000 := by decide
  have hh := F.hands
  have hln := F.nm.len
  have hmb := many_bd F
  refine ⟨_, rfl, _, rfl, L, _, n, rfl, ds, by omega, by omega, by omega, fun r1 o1 a0 a1 hd1 => ?_⟩
  refine ⟨_, rfl, _, rfl, L, _, n + 1, rfl, DS.at hd1, by omega, by omega, by omega, fun r2 o2 b0 b1 hd2 => ?_⟩
  have k2 : Kp [L] H (upd (upd H L o1) L o2) := (Kp.put (by simp)).trans (Kp.put (by simp))
  have ds2 : DS (n + 2) (upd (upd H L o1) L o2) L := (DS.at hd2).mono (by omega)
  have hf2 := (hf.keep k2 gL).fl
  generalize upd (upd H L o1) L o2 = H2 at k2 ds2 hf2
  have formF : Form 3 (RF FL rs) := form_FL (by omega) (fun r hr => by have := F.rl hr; omega) 1
  refine ⟨_, rfl, F_to (E := E0) formF ⟨g, rfl, hf2⟩ fun v H3 s3 fv => ?_⟩
  obtain ⟨f', rfl, hf'⟩ := fv H3 (NK.self _ _ _)
  have n1 : r1.toNat < many ns rs := by omega
  have n2 : r2.toNat < many ns rs := by omega
  refine ⟨_, rfl, _, rfl, f', r1, ns, rs, rfl, hf', F, ⟨fun _ p H4 hp s4 l4 => ?_, fun h => absurd ⟨a0, a1⟩ h⟩⟩
  have gd := (good_iff F.folk).mp (treeBy_good F.folk n1)
  have hf4 := mono_FL _ _ _ _ (s3.trans s4) hf2
  have hf4' := mono_FL _ _ _ _ s4 hf'
  refine ⟨_, rfl, _, rfl, rd_neD enc_F (by decide) (dp_F hf4') (dp_F hf4) ⟨_, rfl, ?_⟩⟩
  rw [decide_eq_true rfl]
  refine iteF ⟨_, rfl, _, rfl, g, p, ns, rs, _, rfl, hf4, l4, F, fun k H5 s5 hk => ⟨k, rfl, ?_⟩⟩
  have ek : k = true := hk.mpr gd
  subst ek
  have l5 := mono_TL _ _ _ _ s5 l4
  obtain ⟨ps, e5, z5⟩ := id l5
  refine iteF ⟨_, rfl, _, rfl, p, _, rfl, .inl (SqL.of e5), fun c hc => ?_⟩
  have sc := same_new hc (.lst (ps.map V.ref))
  have s46 := s5.trans sc
  refine ⟨f', c, ns, rs, _, rfl, mono_FL _ _ _ _ s46 hf4', ⟨ps, upd_same, z5.imp fun _ _ _ _ h => sc _ _ h⟩, F, gd.1, ⟨fun _ H6 s6 => ?_, fun h => absurd gd.2 h⟩⟩
  rw [numBy_treeBy F.folk n1]
  refine ⟨_, rfl, rfl, _, rfl, ?_⟩
  have er : (!decide (V.int ((r1.toNat : Nat) : Int) = V.int r1)) = false := by
    have : ((r1.toNat : Nat) : Int) = r1 := by omega
    rw [this, decide_eq_true rfl]; rfl
  rw [er]
  refine iteF ?_
  have s46' := s46.trans s6
  have e6 : H6 p = some (.lst (ps.map V.ref)) := s6 _ _ (sc _ _ e5)
  refine ⟨_, rfl, p, _, rfl, .inl (SqL.of e6), fun kp hkp => ?_⟩
  have s7 := same_new hkp (.lst (ps.map V.ref))
  have e7 := s7 _ _ e6
  have kpp : kp ≠ p := fun e => by rw [e, e6] at hkp; cases hkp
  refine ⟨_, rfl, .inl ⟨rfl, _, SqL.of e7⟩, p, _, _, rfl, rfl, e7, ?_, ?_⟩
  · rw [List.length_map, z5.len]
    have := gd.1.len
    exact small1000 (by omega)
  have s47 := (s4.trans s46').trans s7
  have k8 : Kp [p] (upd H6 kp (.lst (ps.map V.ref))) (upd (upd H6 kp (.lst (ps.map V.ref))) p (.lst (ps.map V.ref ++ [.str "mark"]))) := Kp.put (by simp)
  have s38 : Same H3 (upd (upd H6 kp (.lst (ps.map V.ref))) p (.lst (ps.map V.ref ++ [.str "mark"]))) := ((Kp.of [p] s47).trans k8).drop hp |>.same
  have l8 : TL (upd (upd H6 kp (.lst (ps.map V.ref))) p (.lst (ps.map V.ref ++ [.str "mark"]))) kp (treeBy ns rs r1.toNat) :=
    ⟨ps, k8 _ _ (no1 kpp) upd_same, zp_keep k8 (nt1 (nt_lst e7)) (z5.imp fun _ _ _ _ h => s7 _ _ (s6 _ _ (sc _ _ h)))⟩
  generalize upd (upd H6 kp (.lst (ps.map V.ref))) p (.lst (ps.map V.ref ++ [.str "mark"])) = H8 at s38 l8
  have hf8 := mono_FL _ _ _ _ (s3.trans s38) hf2
  have hf8' := mono_FL _ _ _ _ s38 hf'
  refine ⟨_, rfl, _, rfl, rd_neD enc_F (by decide) (dp_F hf8') (dp_F hf8) ⟨_, rfl, ?_⟩⟩
  rw [decide_eq_true rfl]
  refine iteF ⟨_, rfl, _, rfl, f', r1, ns, rs, rfl, hf8', F, ⟨fun _ p9 H9 hp9 s9 l9 => ?_, fun h => absurd ⟨a0, a1⟩ h⟩⟩
  refine ⟨_, rfl, rd_neD enc_T (by decide) (dp_T l9) (dp_T (mono_TL _ _ _ _ s9 l8)) ⟨_, rfl, ?_⟩⟩
  rw [decide_eq_true rfl]
  refine iteF ⟨_, rfl, _, rfl, f', r2, ns, rs, rfl, mono_FL _ _ _ _ s9 hf8', F, ⟨fun _ p10 H10 hp10 s10 l10 => ?_, fun h => absurd ⟨b0, b1⟩ h⟩⟩
  refine ⟨_, rfl, rd_eqD enc_T (by decide) (dp_T l10) (dp_T (mono_TL _ _ _ _ (s9.trans s10) l8)) ?_⟩
  refine ⟨_, rfl, _, rfl, rfl, rfl, ?_⟩
  have s210 := ((s3.trans s38).trans s9).trans s10
  have ee : decide (V.bl (decide (treeBy ns rs r2.toNat = treeBy ns rs r1.toNat)) = V.bl (decide (V.int r1 = V.int r2))) = true := by
    refine decide_eq_true (congrArg V.bl (decide_eq_decide.mpr ?_))
    rw [treeBy_inj F.folk n2 n1]
    constructor
    · intro e
      congr 1
      omega
    · intro e
      rw [V.int.inj e]
  rw [ee]
  exact q H10 (k2.trans (Kp.of _ s210)) (ds2.keep (Kp.of [] s210) (by simp))
end
end G46
set_option maxHeartbeats 4000000
namespace G46
open PySem PySem.Spec PyProof.Rows L2 PySem.W
/-! ### sorted(xs), xs a list of trees -/
theorem alike_ties : ∀ xs ys : Ties, PySem.W.alikeAll (xs.map dTie) (ys.map dTie) = true
  | [], _ => by simp [PySem.W.alikeAll]
  | _ :: _, [] => by simp [PySem.W.alikeAll]
  | x :: xs, y :: ys => by
    show PySem.W.alikeAll (dTie x :: xs.map dTie) (dTie y :: ys.map dTie) = true
    rw [PySem.W.alikeAll, alike_ties xs ys]
    simp [dTie, PySem.W.alike, PySem.W.alikeAll]
theorem alike_tree (x y : Ties) : PySem.W.alike (dT x) (dT y) = true := by
  show PySem.W.alike (.list (x.map dTie)) (.list (y.map dTie)) = true
  rw [PySem.W.alike]; exact alike_ties x y
abbrev leX : Ties → Ties → Bool := PySem.W.dataLe false dT
theorem toks_inj {x y : Ties} (h : PySem.W.keyToks (dT x) = PySem.W.keyToks (dT y)) : x = y := by
  refine (enc_T.eqv x y).mp ?_
  cases e : PyData.eqv (dT x) (dT y) with
  | true => rfl
  | false =>
    have h1 := (PySem.W.toks_eqv _ _ (alike_tree x y)).2 e [] [Sum.inl 0]
    rw [h, PySem.W.lex_pre, lex_irrefl] at h1
    exact absurd h1 (by decide)
theorem leX_antisymm {x y : Ties} (h1 : leX x y = true) (h2 : leX y x = true) : x = y := by
  have a1 : (!PyProof.Rows.lexLt itemOrd (PySem.W.keyToks (dT y)) (PySem.W.keyToks (dT x))) = true := h1
  have a2 : (!PyProof.Rows.lexLt itemOrd (PySem.W.keyToks (dT x)) (PySem.W.keyToks (dT y))) = true := h2
  exact toks_inj (lex_total _ _ (by simpa using a2) (by simpa using a1))
theorem sorted_one {l m : List Ties} (h : l.Perm m) : l.mergeSort leX = m.mergeSort leX := by
  have T := sortLe_total (listOrd itemOrd) false fun b : Ties => PySem.W.keyToks (dT b)
  have p : (l.mergeSort leX).Perm (m.mergeSort leX) := (List.mergeSort_perm l leX).trans (h.trans (List.mergeSort_perm m leX).symm)
  have s1 := List.pairwise_mergeSort (le := leX) (fun a b c => T.trans a b c) (fun a b => by rw [Bool.or_eq_true]; exact T.total a b) l
  have s2 := List.pairwise_mergeSort (le := leX) (fun a b c => T.trans a b c) (fun a b => by rw [Bool.or_eq_true]; exact T.total a b) m
  exact p.eq_of_pairwise (le := fun a b => leX a b = true) (fun a b _ _ => leX_antisymm) s1 s2
def rSortedX (K : PySem.W.Frag) : List V → Hp → VK → Prop := fun vs H Q => ∃ (a : Addr) (Ts : List Ties), vs = [V.ref a] ∧ XL H a Ts ∧ Ts.length ≤ 100000 ∧
  ∀ p H', H p = none → Same H H' → XL H' p (Ts.mergeSort leX) → Q (.ref p) H'
theorem each_of {H : Hp} : ∀ {ps : List Addr} {Ts : List Ties} {us : List Value}, Zp (TL H) ps Ts → Vals (ps.map V.ref) us → EachIs (fun v T => ∃ q, v = Value.ref q ∧ TL H q T) us Ts
  | [], [], _, _, r => by cases r; exact .nil
  | p :: ps, T :: Ts, _, z, r => by
    cases r with
    | cons r1 r2 => exact .cons ⟨p, r1, z.1⟩ (each_of z.2 r2)
  | [], _ :: _, _, z, _ => z.elim
  | _ :: _, [], _, z, _ => z.elim
theorem of_each {H : Hp} : ∀ {Ts : List Ties} {us : List Value}, EachIs (fun v T => ∃ q, v = Value.ref q ∧ TL H q T) us Ts → ∃ ps : List Addr, Zp (TL H) ps Ts ∧ Vals (ps.map V.ref) us
  | _, _, .nil => ⟨[], trivial, .nil⟩
  | _, _, .cons ⟨q, e, h⟩ t => by
    obtain ⟨ps, z, r⟩ := of_each t
    exact ⟨q :: ps, ⟨h, z⟩, .cons e r⟩
theorem cr_sortedX {X : Cx} (hu : X.A.units + 64 < cLine) : CallR X (.builtin "sorted") (rSortedX X.K) := by
  intro pins s σ H vs us Q I r h
  obtain ⟨a, Ts, rfl, ⟨ps, ha, z⟩, hT, q⟩ := h
  obtain ⟨u, rfl, ru⟩ := vals1 r
  obtain rfl : u = Value.ref a := ru
  obtain ⟨its, rv, pl, hz⟩ := I.list (SqL.of ha)
  have e := each_of z rv
  have er : EachIs (fun v T => ∃ as, _root_.PySem.Reads s.heap v (dT T) as) its Ts := e.mono fun v T ⟨b, eb, hb⟩ => Dp.reads I (dT T) (.ref b) v (dp_T hb) eb
  have hsz : Ts.length ≤ sizeLine := by show _ ≤ 2 ^ 24; omega
  refine PySem.W.sorted_data (enc := dT) pl.isList e er (PySem.W.AllAlike.of alike_tree) (PySem.W.Sortable.others fun b => ⟨(fun h => nomatch h), fun xs h => nomatch h⟩) hsz (fun b _ => ?_) fun out ho eo => ?_
  · have := enc_T.dep b
    omega
  · obtain ⟨qs, z2, r2⟩ := of_each eo
    obtain ⟨n, hn⟩ := sortedAll_at s.heap its out.toArray
    have hd : s.heap.objs.size ≤ s.heap.objs.size + 1 := Nat.le_succ _
    have hN := I.hok.fresh hd
    have s1 := same_new hN (.lst (qs.map V.ref))
    refine ⟨.ref (s.heap.objs.size + 1), upd H (s.heap.objs.size + 1) (.lst (qs.map V.ref)), I.laid (t' := s.toks) (fun b o e => sortedAll_old e) hd ⟨?_, out, n, r2, hn⟩, rfl, q _ _ hN s1 ⟨qs, upd_same, z2.imp fun p x _ _ h => mono_TL _ _ _ _ s1 h⟩⟩
    rw [List.length_map, z2.len, List.length_mergeSort]
    exact hsz
end G46
set_option maxHeartbeats 4000000
namespace G46
open PySem PySem.Spec PyProof.Rows L2
theorem rd_neS {K : PySem.W.Frag} {H : Hp} {p p' : Addr} {x : Str} {Q : VK} (hs : SeqAt.shaped (.list [.str x]) = true) (he : PyData.eqv (.list [.str x]) (.list [.str x]) = true) (h : H p = some (.lst [.str x])) (h' : H p' = some (.lst [.str x])) (q : Q (.bl false) H) : rNeD K (.ref p) (.ref p') H Q :=
  ⟨_, _, .lst (SqL.of h) (.cons (.str x) .nil), .lst (SqL.of h') (.cons (.str x) .nil), hs, hs, by rw [he]; exact q⟩
theorem bool_of (q : Ties → Prop) : ∃ p : Ties → Bool, ∀ T, p T = true ↔ q T := ⟨fun T => @decide (q T) (Classical.propDecidable _), fun T => @decide_eq_true_iff (q T) (Classical.propDecidable _)⟩
/-- what stands in a turn of the law -/
structure LW (H1 : Hp) (L a b f : Addr) (ns : List Int) (rs : List (List Int)) (ts : Ties) (n : Int) (H : Hp) : Prop where
  nL : H1 L = none
  kp : Kp [L] H1 H
  ds : DS n H L
  names : IL H a ns
  aL : a ≠ L
  tree : TL H b ts
  bL : b ≠ L
  folk : FLx L H f rs
  fL : f ≠ L
section
variable {H1 H H' : Hp} {L a b f : Addr} {ns : List Int} {rs : List (List Int)} {ts : Ties} {n n' : Int}
theorem LW.kpL (h : LW H1 L a b f ns rs ts n H) (k : Kp [L] H H') (d : DS n' H' L) : LW H1 L a b f ns rs ts n' H' := by
  obtain ⟨ps, t1, t2⟩ := h.tree
  exact ⟨h.nL, h.kp.trans k, d, k _ _ (no1 h.aL) h.names, h.aL, ⟨ps, k _ _ (no1 h.bL) t1, zp_keep k (nt1 h.ds.nt) t2⟩, h.bL, h.folk.keep k h.fL, h.fL⟩
theorem LW.same (h : LW H1 L a b f ns rs ts n H) (s : Same H H') : LW H1 L a b f ns rs ts n H' := h.kpL (Kp.of _ s) (h.ds.keep (Kp.of [] s) (by simp))
theorem LW.up (h : LW H1 L a b f ns rs ts n H) (e : n ≤ n') : LW H1 L a b f ns rs ts n' H := { h with ds := h.ds.mono e }
theorem LW.old (h : LW H1 L a b f ns rs ts n H) : Same H1 H := (h.kp.drop h.nL).same
end
theorem cp28 : CPowW 10 28 := by constructor <;> decide +kernel
section
variable {P : Program} {w : World} {K : PySem.W.Frag} {mg : Str → Option Value} {base : Heap}
def spLaw (K : PySem.W.Frag) : Sp := fun vs H Q _ => ∃ (a : Addr) (ns : List Int), vs = [.ref a] ∧ SqL K H a (ns.map V.int) ∧ ns.length ≤ 63 ∧ ∀ H', Q (.bl true) H'
theorem sc_law : FnScope ["_law_script", "_law_cell", "_law_left_here", "_law_names_here", "_law_tree_here", "_law_folk_here", "_law_many_here", "_law_number", "_law_every", "_law_some"] ["_law_script"] (defScope s_law) := ⟨rfl, rfl, rfl, by decide +kernel, rfl, by decide +kernel, by decide +kernel⟩
/-- as Has, for every base at once -/
def HasA (P : Program) (w : World) (K : PySem.W.Frag) (mg : Str → Option Value) (CX : CXT) (k : Nat) (x : Str) (ps : List Str) (sp : Sp) : Prop :=
  ∃ (f : Addr) (fd : FuncData), (∀ base : Heap, FnOk P w K mg base CX k f fd ps sp) ∧ mg x = some (.ref f) ∧ ∀ (s : Shared) (us : List Value), us.length = ps.length → BindsTo s fd ⟨us, []⟩ (ps.zip us)
theorem Tx.mkA (T : Tx w K mg) (i : Nat) (d : He.DefD) {N ps : List Str} {k : Nat} {sp : Sp} (hd : fn[i]? = some d) (hg : fa[i]? = some (.glo d.name)) (ha : d.at_ = (d.name, none)) (h1 : d.dfl = []) (h2 : d.kwd = [])
    (S : FnScope N ps d.scope) (len : ∀ vs H Q E, sp vs H Q E → vs.length = ps.length)
    (hb : ∀ (kV doc pm : Value) (an : Option Addr) (cdv ct : Value) (us : List Value), us.length = ps.length → bindArgs (PySem.W.fnOf d.name d.qual d.params d.body d.scope .none kV doc pm an cdv ct) ⟨us, []⟩ = pure (ps.zip us))
    (hbody : ∀ (base : Heap) (f : Addr) (cdv : Value) (A : Around) (outer : List Env) (s : Shared) (H : Hp) (vs : List V) (Q : VK) (E : XK), Room k (A.deeper (envOfC d.qual d.scope s.heap.objs.size f cdv)) → sp vs H Q E →
      ∃ t, PSs (cxOf CX0 P w K mg base N d.qual d.scope f cdv A outer s H E).nox d.body t ∧ t { nx := fun _ H' => Q .non H', rt := Q } (start N vs) H) : HasA P w K mg CX0 (k + 1) d.name ps sp := by
  obtain ⟨fd, F⟩ := T.fun_ i hd
  have e1 : d.dvs K = [] := by unfold He.DefD.dvs; rw [h1]; rfl
  have e2 : He.fAd K d.at_ = He.ga K d.name := by rw [ha]; rfl
  rw [e1, e2] at F
  refine ⟨_, fd, fun base => F.ok S len fun cdv A outer s H vs Q E hr h => ?_, T.glo i hg, FunD.bindsA F hb⟩
  obtain ⟨t, p, q⟩ := hbody base _ cdv A outer s H vs Q E hr h
  exact ⟨t, p.nox, q⟩
theorem has_law (T : Tx w K mg) (h_law_left : ∀ base : Heap, Has P w K mg base CX0 1 "_law_left" ["_law_cell"] spLeft) (h_law_names : ∀ base : Heap, Has P w K mg base CX0 3 "_law_names" ["_law_left_here", "_law_many_here"] spNames) (h_law_draw : ∀ base : Heap, Has P w K mg base CX0 2 "_law_draw" ["_law_left_here", "_law_base"] spDraw) (h_law_tree : ∀ base : Heap, Has P w K mg base CX0 4 "_law_tree" ["_law_left_here", "_law_names_here"] spLTree) (h_law_folk : ∀ base : Heap, Has P w K mg base CX0 4 "_law_folk" ["_law_left_here", "_law_names_here", "_law_tree_here"] spLFolk)
    (h_trees_many : ∀ base : Heap, Has P w K mg base CX0 6 "trees_many" ["folk"] spMany) (h_law_copied : ∀ base : Heap, Has P w K mg base CX0 4 "_law_copied" ["_law_thing"] (spC 4)) (h_law_whole : ∀ base : Heap, Has P w K mg base CX0 1 "_law_whole" ["_law_thing"] spInt) (h_law_many : ∀ base : Heap, Has P w K mg base CX0 3 "_law_many" ["_law_left_here", "_law_folk_here", "_law_names_here"] spLMany) (h_law_refused : ∀ base : Heap, Has P w K mg base CX0 8 "_law_refused" ["_law_way", "_law_folk_here", "_law_thing"] spRefused) (h_law_numbered : ∀ base : Heap, Has P w K mg base CX0 8 "_law_numbered" ["_law_left_here", "_law_folk_here", "_law_many_here"] spNumbered)
    (h_law_right : ∀ base : Heap, Has P w K mg base CX0 3 "_law_right" ["_law_folk_here", "_law_tree_here"] spLRight) (h_tree_by : ∀ base : Heap, Has P w K mg base (L2.CX P w) 7 "tree_by" ["folk", "number"] (spTreeBy K)) (h_tree_number : ∀ base : Heap, Has P w K mg base (L2.CX P w) 7 "tree_number" ["folk", "tree"] (spTreeNum K)) (h_law_all_trees : ∀ base : Heap, Has P w K mg base CX0 2 "_law_all_trees" ["_law_names_here"] spAllTrees) : HasA P w K mg CX0 9 "law" ["_law_script"] (spLaw K) := by
  refine T.mkA 43 d_law rfl rfl rfl rfl rfl sc_law (fun vs H Q E h => ?_) (fun _ _ _ _ _ _ us hl => match us, hl with | [_], _ => rfl) (fun base f cdv A outer s H vs Q E hr h => ?_)
  · obtain ⟨a, ns, rfl, _⟩ := h; rfl
  replace h_law_left := h_law_left base
  replace h_law_names := h_law_names base
  replace h_law_draw := h_law_draw base
  replace h_law_tree := h_law_tree base
  replace h_law_folk := h_law_folk base
  replace h_trees_many := h_trees_many base
  replace h_law_copied := h_law_copied base
  replace h_law_whole := h_law_whole base
  replace h_law_many := h_law_many base
  replace h_law_refused := h_law_refused base
  replace h_law_numbered := h_law_numbered base
  replace h_law_right := h_law_right base
  replace h_tree_by := h_tree_by base
  replace h_tree_number := h_tree_number base
  replace h_law_all_trees := h_law_all_trees base
  obtain ⟨f_law_left, fd_law_left, G_law_left, M_law_left, K_law_left, B_law_left⟩ := h_law_left
  obtain ⟨f_law_names, fd_law_names, G_law_names, M_law_names, K_law_names, B_law_names⟩ := h_law_names
  obtain ⟨f_law_draw, fd_law_draw, G_law_draw, M_law_draw, K_law_draw, B_law_draw⟩ := h_law_draw
  obtain ⟨f_law_tree, fd_law_tree, G_law_tree, M_law_tree, K_law_tree, B_law_tree⟩ := h_law_tree
  obtain ⟨f_law_folk, fd_law_folk, G_law_folk, M_law_folk, K_law_folk, B_law_folk⟩ := h_law_folk
  obtain ⟨f_trees_many, fd_trees_many, G_trees_many, M_trees_many, K_trees_many, B_trees_many⟩ := h_trees_many
  obtain ⟨f_law_copied, fd_law_copied, G_law_copied, M_law_copied, K_law_copied, B_law_copied⟩ := h_law_copied
  obtain ⟨f_law_whole, fd_law_whole, G_law_whole, M_law_whole, K_law_whole, B_law_whole⟩ := h_law_whole
  obtain ⟨f_law_many, fd_law_many, G_law_many, M_law_many, K_law_many, B_law_many⟩ := h_law_many
  obtain ⟨f_law_refused, fd_law_refused, G_law_refused, M_law_refused, K_law_refused, B_law_refused⟩ := h_law_refused
  obtain ⟨f_law_numbered, fd_law_numbered, G_law_numbered, M_law_numbered, K_law_numbered, B_law_numbered⟩ := h_law_numbered
  obtain ⟨f_law_right, fd_law_right, G_law_right, M_law_right, K_law_right, B_law_right⟩ := h_law_right
  obtain ⟨f_tree_by, fd_tree_by, G_tree_by, M_tree_by, K_tree_by, B_tree_by⟩ := h_tree_by
  obtain ⟨f_tree_number, fd_tree_number, G_tree_number, M_tree_number, K_tree_number, B_tree_number⟩ := h_tree_number
  obtain ⟨f_law_all_trees, fd_law_all_trees, G_law_all_trees, M_law_all_trees, K_law_all_trees, B_law_all_trees⟩ := h_law_all_trees
  refine ⟨_, (pss_cons (ps_for PassesOwn.never rfl (pi_list (pe_op op_cat (pe_lst (pa_cons pe_int pa_nil)) (pe_slice sl_list (pv 0) po_none (po_some pe_int)))) (pg_name (i := 1) sc_law.nd rfl (Or.inl rfl))
    (pss_cons (ps_set (i := 2) sc_law.nd rfl (Or.inl rfl) (pe_call G_law_left (hr.mono (by decide)) rfl M_law_left K_law_left B_law_left .nil pass0 (pa_cons (pv 1) pa_nil)))
    (pss_cons (ps_set (i := 3) sc_law.nd rfl (Or.inl rfl) (pe_call G_law_names (hr.mono (by decide)) rfl M_law_names K_law_names B_law_names .nil pass0 (pa_cons (pv 2) (pa_cons (pe_op op_add pe_int (pe_call G_law_draw (hr.mono (by decide)) rfl M_law_draw K_law_draw B_law_draw .nil pass0 (pa_cons (pv 2) (pa_cons (pe_ix ix_list (pe_lst (pa_cons pe_int (pa_cons pe_int pa_nil))) (pe_call G_law_draw (hr.mono (by decide)) rfl M_law_draw K_law_draw B_law_draw .nil pass0 (pa_cons (pv 2) (pa_cons pe_int pa_nil))) (fun _ _ => rfl)) pa_nil)))) pa_nil))))
    (pss_cons (ps_set (i := 4) sc_law.nd rfl (Or.inl rfl) (pe_call G_law_tree (hr.mono (by decide)) rfl M_law_tree K_law_tree B_law_tree .nil pass0 (pa_cons (pv 2) (pa_cons (pv 3) pa_nil))))
    (C8.pss_cut (ps_set (i := 5) sc_law.nd rfl (Or.inr rfl) (pe_call G_law_folk (hr.mono (by decide)) rfl M_law_folk K_law_folk B_law_folk .nil pass0 (pa_cons (pv 2) (pa_cons (pv 3) (pa_cons (pv 4) pa_nil)))))
    (pss_cons (ps_set (i := 6) sc_law.nd rfl (Or.inl rfl) (pe_call G_trees_many (hr.mono (by decide)) rfl M_trees_many K_trees_many B_trees_many .nil pass0 (pa_cons (pe_call G_law_copied (hr.mono (by decide)) rfl M_law_copied K_law_copied B_law_copied .nil pass0 (pa_cons (pv 5) pa_nil)) pa_nil)))
    (C8.pss_cut (ps_if (PW.pt (pw_or (pt_not (pt_val (pe_call G_law_whole (hr.mono (by decide)) rfl M_law_whole K_law_whole B_law_whole .nil pass0 (pa_cons (pv 6) pa_nil)))) (pw_or1 (pt_cmpR op_ne (pv 6) (pe_call G_law_many (hr.mono (by decide)) rfl M_law_many K_law_many B_law_many .nil pass0 (pa_cons (pv 2) (pa_cons (pv 5) (pa_cons (pv 3) pa_nil)))) (nomark _)))))
    (pss_one (ps_ret pe_bl))
    pss_nil)
    (C8.pss_cut (ps_for PassesOwn.never rfl (pi_list (pe_lst (pa_cons (pe_un un_neg pe_int) (pa_cons (pv 6) (pa_cons (pe_op op_add (pv 6) (pe_call G_law_draw (hr.mono (by decide)) rfl M_law_draw K_law_draw B_law_draw .nil pass0 (pa_cons (pv 2) (pa_cons (pe_op op_powW pe_int pe_int) pa_nil)))) (pa_cons (pe_op op_sub (pe_un un_neg pe_int) (pe_call G_law_draw (hr.mono (by decide)) rfl M_law_draw K_law_draw B_law_draw .nil pass0 (pa_cons (pv 2) (pa_cons (pe_op op_powW pe_int pe_int) pa_nil)))) pa_nil)))))) (pg_name (i := 7) sc_law.nd rfl (Or.inl rfl))
    (pss_one (ps_if (pt_cmpR (op_neD hr.units) (pe_call G_law_refused (hr.mono (by decide)) rfl M_law_refused K_law_refused B_law_refused .nil pass0 (pa_cons pe_int (pa_cons (pv 5) (pa_cons (pv 7) pa_nil)))) (pe_lst (pa_cons pe_str pa_nil)) (nomark _))
    (pss_one (ps_ret pe_bl))
    pss_nil)))
    (C8.pss_cut (ps_if (PW.pt (pw_and (pt_cmpR op_gt (pv 6) pe_int (nomark _)) (pw_and1 (pt_not (pt_val (pe_call G_law_numbered (hr.mono (by decide)) rfl M_law_numbered K_law_numbered B_law_numbered .nil pass0 (pa_cons (pv 2) (pa_cons (pv 5) (pa_cons (pv 6) pa_nil)))))))))
    (pss_one (ps_ret pe_bl))
    pss_nil)
    (C8.pss_cut (ps_if (pt_not (pt_val (pe_call G_law_right (hr.mono (by decide)) rfl M_law_right K_law_right B_law_right .nil pass0 (pa_cons (pv 5) (pa_cons (pv 4) pa_nil)))))
    (pss_one (ps_if (pt_cmpR (op_neD hr.units) (pe_call G_law_refused (hr.mono (by decide)) rfl M_law_refused K_law_refused B_law_refused .nil pass0 (pa_cons pe_int (pa_cons (pv 5) (pa_cons (pv 4) pa_nil)))) (pe_lst (pa_cons pe_str pa_nil)) (nomark _))
    (pss_one (ps_ret pe_bl))
    pss_nil))
    (pss_one (ps_if (pt_cmpR (op_neD hr.units) (pe_call G_tree_by (hr.mono (by decide)) rfl M_tree_by K_tree_by B_tree_by .nil passL (pa_cons (pe_call G_law_copied (hr.mono (by decide)) rfl M_law_copied K_law_copied B_law_copied .nil pass0 (pa_cons (pv 5) pa_nil)) (pa_cons (pe_call G_tree_number (hr.mono (by decide)) rfl M_tree_number K_tree_number B_tree_number .nil passL (pa_cons (pe_call G_law_copied (hr.mono (by decide)) rfl M_law_copied K_law_copied B_law_copied .nil pass0 (pa_cons (pv 5) pa_nil)) (pa_cons (pe_callTy call_list_of (by rfl) (T.free 67) (by decide +kernel) (pa_cons (pv 4) pa_nil)) pa_nil))) pa_nil))) (pv 4) (nomark _))
    (pss_one (ps_ret pe_bl))
    pss_nil)))
    (pss_one (ps_if (pt_cmpR op_lt (pe_callB call_len_seq (by rfl) (T.free 69) (by decide +kernel) (pa_cons (pv 3) pa_nil)) pe_int (nomark _))
    (pss_cons (ps_setLc (i := 8) (own := [("_law_some", 9)]) rfl sc_law.nd rfl rfl (sw_true rfl rfl rfl (by decide +kernel)) (pi_list (pe_call G_law_all_trees (hr.mono (by decide)) rfl M_law_all_trees K_law_all_trees B_law_all_trees .nil pass0 (pa_cons (pv 3) pa_nil))) (blkOk_by (own := [("_law_some", 9)]) (N := ["_law_script", "_law_cell", "_law_left_here", "_law_names_here", "_law_tree_here", "_law_folk_here", "_law_many_here", "_law_number", "_law_every", "_law_some"]) (sc := (defScope s_law)) (by decide +kernel)) (fun _ _ _ _ _ => (pg_name (i := 9) sc_law.nd rfl (Or.inl rfl))) (fun _ _ _ _ _ => (pts_one (pt_val (pe_call G_law_right (hr.mono (by decide)) rfl M_law_right K_law_right B_law_right .nil pass0 (pa_cons (pv 5) (pa_cons (pv 9) pa_nil)))))) (fun _ _ _ _ _ => (pv 9)))
    (pss_one (ps_if (pt_cmpR (op_neD hr.units) (pe_callB (cr_sortedX hr.units) (by rfl) (T.free 72) (by decide +kernel) (pa_cons (pe_lc (own := [("_law_number", 7)]) rfl sc_law.nd (pi_range1 (by rfl) (T.free 73) (pa_cons (pv 6) pa_nil)) (blkOk_by (own := [("_law_number", 7)]) (N := ["_law_script", "_law_cell", "_law_left_here", "_law_names_here", "_law_tree_here", "_law_folk_here", "_law_many_here", "_law_number", "_law_every", "_law_some"]) (sc := (defScope s_law)) (by decide +kernel)) (fun _ _ _ _ _ => (pg_name (i := 7) sc_law.nd rfl (Or.inl rfl))) (fun _ _ _ _ _ => pts_nil) (fun _ _ _ _ _ => (pe_call G_tree_by (hr.mono (by decide)) rfl M_tree_by K_tree_by B_tree_by .nil passL (pa_cons (pe_call G_law_copied (hr.mono (by decide)) rfl M_law_copied K_law_copied B_law_copied .nil pass0 (pa_cons (pv 5) pa_nil)) (pa_cons (pv 7) pa_nil))))) pa_nil)) (pe_callB (cr_sortedX hr.units) (by rfl) (T.free 72) (by decide +kernel) (pa_cons (pv 8) pa_nil)) (nomark _))
    (pss_one (ps_ret pe_bl))
    pss_nil)))
    pss_nil))))))))))))
    (pss_one (ps_ret pe_bl))), ?_⟩
  obtain ⟨a, cs, rfl, ha, hl, q⟩ := h
  have e28 : (10 : Int) ^ (28 : Int).toNat = 10000000000000000000000000000 := by decide +kernel
  refine ⟨(by show 1 ≤ sizeLine; decide), fun A hA => ?_⟩
  have sA := same_new hA (.lst [.int 17])
  refine ⟨_, rfl, 3, rfl, a, _, rfl, sA.seq ha, fun B hB => ?_⟩
  rw [cutV_takeI _ _ (by decide)]
  have sB := same_new hB (.lst ((cs.take (3 : Int).toNat).map V.int))
  refine ⟨A, B, _, _, rfl, rfl, sB _ _ upd_same, upd_same, ?_, fun C hC => ?_⟩
  · rw [List.length_map, List.length_take]; exact small (by simp only [List.length_cons, List.length_nil]; omega)
  have eC : ([V.int 17] ++ (cs.take (3 : Int).toNat).map V.int) = (17 :: cs.take (3 : Int).toNat).map V.int := rfl
  rw [eC]
  generalize 17 :: cs.take (3 : Int).toNat = cells
  refine ⟨C, rfl, ⟨_, SqL.of upd_same⟩, ?_⟩
  generalize hH0 : upd (upd (upd H A (.lst [.int 17])) B (.lst ((cs.take (3 : Int).toNat).map V.int))) C (.lst (cells.map V.int)) = H0
  have hC0 : H0 C = some (.lst (cells.map V.int)) := by rw [← hH0, upd_same]
  refine for_list (K := K) (a := C) (xs := cells.map V.int) (fun i σ H' => ∃ (v1 v2 v3 v4 v5 v6 v7 v8 v9 : Option V), σ = [some (.ref a), v1, v2, v3, v4, v5, v6, v7, v8, v9] ∧ Same H0 H') ⟨none, none, none, none, none, none, none, none, none, rfl, Same.refl _⟩ (fun i σ H' _ ⟨_, _, _, _, _, _, _, _, _, _, s⟩ => SqL.of (s _ _ hC0)) ?_ ?_
  rotate_left
  · rintro σ H1 ⟨_, _, _, _, _, _, _, _, _, rfl, s⟩
    exact q H1
  rintro i y σ H1 hy ⟨v1, v2, v3, v4, v5, v6, v7, v8, v9, rfl, s1⟩
  obtain ⟨c, hc, rfl⟩ := map_get hy
  refine ⟨_, rfl, c, rfl, fun L H2 hL s2 d2 => ?_⟩
  -- the names
  refine ⟨_, rfl, _, rfl, (by show 2 ≤ sizeLine; decide), fun E hE => ?_⟩
  have e30 : (2 : Int) ^ 30 = 1073741824 := by decide
  have e29 : (2 : Int) ^ 29 = 536870912 := by decide
  have e28' : (2 : Int) ^ 28 = 268435456 := by decide
  have e40 : (2 : Int) ^ 40 = 1099511627776 := by decide
  have nE := d2.ne hE
  refine ⟨_, rfl, L, 2, 0, rfl, d2.keep (Kp.new (S := []) hE) (by simp), by decide, by decide, by decide, fun r o h0 h1 hd => ?_⟩
  obtain ⟨m, _, hm, eat⟩ := ix_ints (xs := [5, 10]) h0 (by simpa using h1)
  have hm' : m = 5 ∨ m = 10 := by simpa using hm
  refine ⟨_, _, _, _, rfl, rfl, SqL.of (by rw [upd_ne nE]; exact upd_same), eat, ?_⟩
  refine ⟨L, m, 1, rfl, DS.at hd, by decide, by omega, by omega, fun r2 o2 h2 h3 hd2 => ?_⟩
  refine ⟨_, _, rfl, rfl, ?_⟩
  have k3 : Kp [L] H2 (upd (upd (upd H2 E (.lst [.int 5, .int 10])) L o) L o2) := ((Kp.new hE).trans (Kp.put (by simp))).trans (Kp.put (by simp))
  have d3 : DS 2 (upd (upd (upd H2 E (.lst [.int 5, .int 10])) L o) L o2) L := DS.at hd2
  generalize upd (upd (upd H2 E (.lst [.int 5, .int 10])) L o) L o2 = H3 at k3 d3
  refine ⟨L, 1 + r2, 2, rfl, d3, by decide, by omega, by omega, fun na ns H4 hna k4 d4 l4 len4 ris4 bd4 => ?_⟩
  have nm : Nms ns := ⟨ris4, bd4, by omega, by omega⟩
  have naL := d3.ne hna
  -- the tree
  refine ⟨_, rfl, _, rfl, L, na, ns, 2 + 11, rfl, d4, by decide, l4, naL, ris4, nm.len.1, nm.len.2, fun tb ts H5 htb k5 d5 t5 rt => ?_⟩
  have tbL := d4.ne htb
  -- the folk
  have H1L : H1 L = none := hL
  refine ⟨fun σ' H' => ∃ (fa : Addr) (rs : List (List Int)) (u6 u7 u8 u9 : Option V), σ' = [some (.ref a), some (.int c), some (.ref L), some (.ref na), some (.ref tb), some (.ref fa), u6, u7, u8, u9] ∧ LW H1 L na tb fa ns rs ts 2000 H' ∧ Flk ns rs, ?_, ?_⟩
  · refine ⟨_, rfl, _, rfl, _, rfl, L, na, tb, ns, ts, 2 + 11 + 30, rfl, d5, by decide, k5 _ _ (no1 naL) l4, naL, t5, tbL, ris4, nm.len.1, nm.len.2, rt, fun fp rs H6 hfp k6 d6 f6 hr1 hr2 pm => ?_⟩
    have k25 : Kp [L] H1 H5 := (((Kp.of [L] s2).trans k3).trans k4).trans k5
    have w5 : LW H1 L na tb fp ns rs ts 2000 H6 := by
      obtain ⟨ps, t1, t2⟩ := t5
      exact ⟨H1L, k25.trans k6, d6.mono (by decide), k6 _ _ (no1 naL) (k5 _ _ (no1 naL) l4), naL, ⟨ps, k6 _ _ (no1 tbL) t1, zp_keep k6 (nt1 d5.nt) t2⟩, tbL, f6, d5.ne hfp⟩
    exact ⟨fp, rs, v6, v7, v8, v9, rfl, w5, nm, ⟨hr1, hr2⟩, pm⟩
  rintro σ' H6 ⟨fp, rs, u6, u7, u8, u9, rfl, w6, F⟩
  have hln := F.nm.len
  have hh := F.hands
  have hmb := many_bd F
  have formF : Form 3 (RF FL rs) := form_FL (by omega) (fun r hr => by have := F.rl hr; omega) 1
  -- how many
  refine ⟨_, rfl, F_to (E := E0) formF ⟨fp, rfl, w6.folk.fl⟩ fun v H7 s7 fv => ?_⟩
  obtain ⟨f', rfl, hf'⟩ := fv H7 (NK.self _ _ _)
  refine ⟨f', ns, rs, rfl, hf', F, fun H8 s8 => ?_⟩
  have w8 := w6.same (s7.trans s8)
  refine ⟨fun σ' H' => ∃ (u7 u8 u9 : Option V), σ' = [some (.ref a), some (.int c), some (.ref L), some (.ref na), some (.ref tb), some (.ref fp), some (.int (many ns rs : Nat)), u7, u8, u9] ∧ LW H1 L na tb fp ns rs ts 3000 H', ?_, ?_⟩
  · refine ⟨_, rfl, (many ns rs : Nat), rfl, true, rfl, iteF ?_⟩
    refine ⟨_, rfl, _, rfl, _, rfl, _, rfl, L, fp, na, ns, rs, 2000, rfl, w8.ds, by decide, w8.folk.fl, w8.names, F, Ne.symm w8.fL, Ne.symm w8.aL, fun ps hps hin => ?_, fun o ho H9 k9 h9 => ?_⟩
    · obtain ⟨ps', f1, _, f3⟩ := w8.folk
      rw [f1] at hps
      have e := (List.map_inj_right fun x y => V.ref.inj).mp (HO.lst.inj (Option.some.inj hps))
      exact f3 L (by rw [e]; exact hin) rfl
    · refine ⟨rfl, _, rfl, ?_⟩
      rw [decide_eq_true rfl]
      refine iteF ⟨u7, u8, u9, rfl, (w8.kpL k9 ⟨o, h9, ho⟩).up (by decide)⟩
  rintro σ' H9 ⟨u7, u8, u9, rfl, w9⟩
  -- numbers that no tree has
  refine ⟨fun σ' H' => ∃ (u7 u8 u9 : Option V), σ' = [some (.ref a), some (.int c), some (.ref L), some (.ref na), some (.ref tb), some (.ref fp), some (.int (many ns rs : Nat)), u7, u8, u9] ∧ LW H1 L na tb fp ns rs ts 3010 H', ?_, ?_⟩
  · refine ⟨_, rfl, _, rfl, _, rfl, _, rfl, _, _, rfl, rfl, cp28, L, _, 3000, rfl, w9.ds, by decide, (by rw [e28]; decide), (by rw [e28]; decide), fun r3 o3 a0 a1 hd3 => ?_⟩
    have w10 := w9.kpL (Kp.put (o := o3) (by simp)) (DS.at hd3)
    refine ⟨_, _, rfl, rfl, _, rfl, _, rfl, _, _, rfl, rfl, cp28, L, _, 3000 + 1, rfl, w10.ds, by decide, (by rw [e28]; decide), (by rw [e28]; decide), fun r4 o4 b0 b1 hd4 => ?_⟩
    have w11 := w10.kpL (Kp.put (o := o4) (by simp)) (DS.at hd4)
    refine ⟨_, _, rfl, rfl, (by show 4 ≤ sizeLine; decide), fun N hN => ?_⟩
    have w12 := w11.same (same_new hN (.lst [.int (-1), .int (many ns rs : Nat), .int ((many ns rs : Nat) + r3), .int (-1 - r4)]))
    refine ⟨N, rfl, ⟨_, SqL.of upd_same⟩, ?_⟩
    have lN : (upd (upd (upd H9 L o3) L o4) N (.lst [.int (-1), .int (many ns rs : Nat), .int ((many ns rs : Nat) + r3), .int (-1 - r4)])) N = some (.lst ([-1, ((many ns rs : Nat) : Int), (many ns rs : Nat) + r3, -1 - r4].map V.int)) := upd_same
    generalize hH12 : upd (upd (upd H9 L o3) L o4) N (.lst [.int (-1), .int (many ns rs : Nat), .int ((many ns rs : Nat) + r3), .int (-1 - r4)]) = H12 at w12 lN
    refine for_list (K := K) (a := N) (xs := [-1, ((many ns rs : Nat) : Int), (many ns rs : Nat) + r3, -1 - r4].map V.int) (fun i σ H' => ∃ (u7 u8 u9 : Option V), σ = [some (.ref a), some (.int c), some (.ref L), some (.ref na), some (.ref tb), some (.ref fp), some (.int (many ns rs : Nat)), u7, u8, u9] ∧ Same H12 H')
      ⟨u7, u8, u9, rfl, ?_⟩ (fun i σ H' _ ⟨_, _, _, _, s⟩ => SqL.of (s _ _ lN)) ?_ ?_
    · rw [← hH12]; exact Same.refl _
    · rintro j y σ H13 hy ⟨u7, u8, u9, rfl, s13⟩
      obtain ⟨n, hn, rfl⟩ := map_get hy
      have hno : ¬ (0 ≤ n ∧ n < (many ns rs : Nat)) := by
        have := mem_at hn
        simp only [List.mem_cons, List.not_mem_nil, or_false] at this
        omega
      have w13 := w12.same s13
      refine ⟨_, rfl, _, rfl, 0, fp, _, ns, rs, rfl, w13.folk.fl, F, .inl ⟨n, rfl, rfl, hno, fun p H14 s14 h14 => ?_⟩⟩
      refine ⟨(by show 1 ≤ sizeLine; decide), fun l hl => ?_⟩
      have s15 := same_new hl (.lst [.str "NoNumber"])
      refine rd_neS (by decide +kernel) (by decide +kernel) (s15 _ _ h14) upd_same ⟨_, rfl, iteF ?_⟩
      exact ⟨_, _, _, rfl, (s13.trans s14).trans s15⟩
    · rintro σ H13 ⟨u7, u8, u9, rfl, s13⟩
      exact ⟨u7, u8, u9, rfl, (w12.same s13).up (by decide)⟩
  rintro σ' H14 ⟨u7, u8, u9, rfl, w14⟩
  -- two trees by number
  refine ⟨fun σ' H' => ∃ (u7 u8 u9 : Option V), σ' = [some (.ref a), some (.int c), some (.ref L), some (.ref na), some (.ref tb), some (.ref fp), some (.int (many ns rs : Nat)), u7, u8, u9] ∧ LW H1 L na tb fp ns rs ts 3020 H', ?_, ?_⟩
  · refine ⟨_, rfl, _, _, rfl, rfl, _, rfl, ?_⟩
    refine ite2 (fun c => ?_) (fun c => iteF ⟨u7, u8, u9, rfl, w14.up (by decide)⟩)
    have c' : (0 : Int) < (many ns rs : Nat) := of_decide_eq_true c
    refine ⟨_, rfl, _, rfl, _, rfl, L, fp, ns, rs, 3010, rfl, w14.ds, by decide, w14.folk, w14.fL, F, by omega, fun H15 k15 d15 => ⟨true, rfl, iteF ?_⟩⟩
    exact ⟨u7, u8, u9, rfl, (w14.kpL k15 d15).up (by decide)⟩
  rintro σ' H15 ⟨u7, u8, u9, rfl, w15⟩
  -- the tree drawn
  refine ⟨fun σ' H' => ∃ (u7 u8 u9 : Option V), σ' = [some (.ref a), some (.int c), some (.ref L), some (.ref na), some (.ref tb), some (.ref fp), some (.int (many ns rs : Nat)), u7, u8, u9] ∧ LW H1 L na tb fp ns rs ts 3020 H', ?_, ?_⟩
  · refine ⟨_, rfl, _, rfl, fp, tb, ns, rs, ts, rfl, w15.folk.fl, w15.tree, F, fun k H16 s16 hk => ⟨k, rfl, ?_⟩⟩
    have w16 := w15.same s16
    cases k with
    | false =>
      have hnot : ¬ ∀ r ∈ rs, Falls ts r := fun h => by have := hk.mpr ⟨rt, h⟩; cases this
      refine iteT ⟨_, rfl, _, rfl, 1, fp, _, ns, rs, rfl, w16.folk.fl, F, .inr ⟨tb, ts, rfl, rfl, w16.tree, rt, hnot, fun p H17 s17 h17 => ?_⟩⟩
      refine ⟨(by show 1 ≤ sizeLine; decide), fun l hl => ?_⟩
      have s18 := same_new hl (.lst [.str "NoFit"])
      refine rd_neS (by decide +kernel) (by decide +kernel) (s18 _ _ h17) upd_same ⟨_, rfl, iteF ?_⟩
      exact ⟨u7, u8, u9, rfl, w16.same (s17.trans s18)⟩
    | true =>
      have hall := (hk.mp rfl).2
      obtain ⟨gd, srt⟩ := (good_iff F.folk).mpr ⟨rt, hall⟩
      obtain ⟨g1, g2⟩ := treeBy_numBy F.folk gd srt
      refine iteF ⟨_, rfl, F_to (E := E0) formF ⟨fp, rfl, w16.folk.fl⟩ fun v H17 s17 fv => ?_⟩
      obtain ⟨f1, rfl, hf1⟩ := fv H17 (NK.self _ _ _)
      have w17 := w16.same s17
      refine ⟨_, rfl, F_to (E := E0) formF ⟨fp, rfl, w17.folk.fl⟩ fun v H18 s18 fv => ?_⟩
      obtain ⟨f2, rfl, hf2⟩ := fv H18 (NK.self _ _ _)
      have w18 := w17.same s18
      obtain ⟨qs, q1, q2⟩ := w18.tree
      refine ⟨_, rfl, tb, _, rfl, .inl (SqL.of q1), fun l hl => ?_⟩
      have s19 := same_new hl (.lst (qs.map V.ref))
      refine ⟨f2, l, ns, rs, ts, rfl, mono_FL _ _ _ _ s19 hf2, ⟨qs, upd_same, q2.imp fun _ _ _ _ h => s19 _ _ h⟩, F, rt, ⟨fun _ H20 s20 => ?_, fun h => absurd hall h⟩⟩
      have w20 := (w18.same s19).same s20
      refine ⟨f1, (numBy ns rs ts : Nat), ns, rs, rfl, mono_FL _ _ _ _ ((s18.trans s19).trans s20) hf1, F, ⟨fun _ p H21 hp s21 l21 => ?_, fun h => absurd (by omega) h⟩⟩
      have e21 : ((numBy ns rs ts : Nat) : Int).toNat = numBy ns rs ts := by omega
      rw [e21, g2] at l21
      have w21 := w20.same s21
      refine ⟨_, rfl, rd_neD enc_T (by decide) (dp_T l21) (dp_T w21.tree) ⟨_, rfl, ?_⟩⟩
      rw [decide_eq_true rfl]
      exact iteF ⟨u7, u8, u9, rfl, w21⟩
  rintro σ' H16 ⟨u7, u8, u9, rfl, w16⟩
  -- all trees of few names
  refine ⟨_, rfl, na, _, rfl, .inl (SqI w16.names), _, _, rfl, rfl, _, rfl, ?_⟩
  refine ite2 (fun c5 => ?_) (fun _ => ⟨_, _, _, _, _, _, _, _, _, rfl, s1.trans w16.old⟩)
  have hl4 : ns.length ≤ 4 := by
    have := of_decide_eq_true c5
    rw [List.length_map] at this
    omega
  obtain ⟨pB, hpB⟩ : ∃ p : Ties → Bool, ∀ T, p T = true ↔ RTree ns T ∧ ∀ r ∈ rs, Falls T r := bool_of _
  have tperm := trees_perm F.folk pB hpB
  have len1 : (allT ns (ns.length - 1)).length ≤ 4096 := Nat.le_trans (allT_len hl4 _) (Nat.pow_le_pow_right (n := 16) (j := 3) (by decide) (by omega))
  have len2 : ((allT ns (ns.length - 1)).filter pB).length ≤ 4096 := Nat.le_trans (List.length_filter_le _ _) len1
  have lmany : many ns rs ≤ 4096 := by
    have := tperm.length_eq
    rw [List.length_map, List.length_range] at this
    omega
  refine ⟨_, rfl, na, ns, rfl, w16.names, F.nm, hl4, fun X H17 s17 x17 => ?_⟩
  have w17 := w16.same s17
  obtain ⟨xs, x1, x2⟩ := x17
  have lxs : xs.length = (allT ns (ns.length - 1)).length := x2.len
  refine ⟨X, rfl, ⟨_, SqL.of x1⟩, fun D hD => ?_⟩
  refine lc_list (K := K) (a := X) (xs := xs.map V.ref) (fun i H' => Same H17 H' ∧ ∃ qs : List Addr, H' D = some (.lst (qs.map V.ref)) ∧ Zp (TL H17) qs (((allT ns (ns.length - 1)).take i).filter pB)) ⟨same_new hD _, [], upd_same, trivial⟩ (fun i H' _ h => SqL.of (h.1 _ _ x1)) (fun i y H18 hy h => ?_) (fun H18 h => ?_)
  · obtain ⟨t18, qs, d18, z18⟩ := h
    obtain ⟨p, hp, rfl⟩ := map_get hy
    obtain ⟨U, hU, up⟩ := x2.get hp
    have hi := lt_at hU
    have w18 := w17.same t18
    have lqs := z18.len
    have lfl := List.length_filter_le pB ((allT ns (ns.length - 1)).take i)
    rw [List.length_take] at lfl
    refine ⟨rfl, _, rfl, _, rfl, fp, p, ns, rs, U, rfl, w18.folk.fl, mono_TL _ _ _ _ t18 up, F, fun k H19 t19 hk => ⟨k, rfl, ?_⟩⟩
    cases k with
    | false =>
      refine iteF ⟨t18.trans t19, qs, t19 _ _ d18, ?_⟩
      have e : pB U = false := by
        cases e : pB U with
        | false => rfl
        | true => have := hk.mpr ((hpB U).mp e); cases this
      rw [take_succ hU, List.filter_append, List.filter_cons_of_neg (by rw [e]; decide), List.filter_nil, List.append_nil]
      exact z18
    | true =>
      have e : pB U = true := (hpB U).mpr (hk.mp rfl)
      refine iteT ⟨_, rfl, _, t19 _ _ d18, ?_, ((Kp.of [D] (t18.trans t19)).trans (Kp.put (by simp))).drop hD |>.same, qs ++ [p], ?_, ?_⟩
      · rw [List.length_map]; show qs.length < 2 ^ 24; omega
      · rw [upd_same, List.map_append]; rfl
      · rw [take_succ hU, List.filter_append, List.filter_cons_of_pos e, List.filter_nil]
        exact z18.app ⟨up, trivial⟩
  · obtain ⟨t18, qs, d18, z18⟩ := h
    rw [List.length_map, lxs, List.take_length] at z18
    have w18 := w17.same t18
    refine ⟨_, rfl, (many ns rs : Nat), rfl, by omega, by omega, fun D2 hD2 => ?_⟩
    refine lc_it (walk_range (lo := 0) (n := ((many ns rs : Nat) : Int).toNat)) (fun i H' => Same H18 H' ∧ ∃ q2 : List Addr, H' D2 = some (.lst (q2.map V.ref)) ∧ Zp (TLg D2 H') q2 ((List.range i).map (treeBy ns rs))) ⟨same_new hD2 _, [], upd_same, trivial⟩ (fun _ _ _ _ => trivial) (fun i x H19 H20 hi h hy => ?_) (fun H19 h => ?_)
    · obtain ⟨t19, q2, d19, z19⟩ := h
      obtain ⟨rfl, rfl⟩ := hy
      have w19 := w18.same t19
      have lq2 := z19.len
      rw [List.length_map, List.length_range] at lq2
      refine ⟨rfl, yes ⟨_, rfl, F_to (E := E0) formF ⟨fp, rfl, w19.folk.fl⟩ fun v H20 t20 fv => ?_⟩⟩
      obtain ⟨f1, rfl, hf1⟩ := fv H20 (NK.self _ _ _)
      have hin : i < many ns rs := by omega
      refine ⟨_, rfl, f1, 0 + (i : Int), ns, rs, rfl, hf1, F, ⟨fun _ p H21 hp t21 l21 => ?_, fun h => absurd (by omega) h⟩⟩
      have ei : (0 + (i : Int)).toNat = i := by omega
      rw [ei] at l21
      have t1921 := t20.trans t21
      have d21 := t1921 _ _ d19
      have pD : p ≠ D2 := fun e => by rw [e, t20 _ _ d19] at hp; cases hp
      have k22 : Kp [D2] H21 (upd H21 D2 (.lst (q2.map V.ref ++ [.ref p]))) := Kp.put (by simp)
      refine ⟨_, d21, ?_, ((Kp.of [D2] (t19.trans t1921)).trans k22).drop hD2 |>.same, q2 ++ [p], ?_, ?_⟩
      · rw [List.length_map]; show q2.length < 2 ^ 24; omega
      · rw [upd_same, List.map_append]; rfl
      · rw [List.range_succ, List.map_append]
        exact Zp.app (z19.imp fun _ _ _ _ h => (h.keep (Kp.of _ t1921) (nt_lst d19)).keep k22 (nt_lst d21)) ⟨TLg.keep ⟨pD, l21⟩ k22 (nt_lst d21), trivial⟩
    · obtain ⟨t19, q2, d19, z19⟩ := h
      have em : ((many ns rs : Nat) : Int).toNat = many ns rs := by omega
      rw [em] at z19
      have x19 : XL H19 D2 ((List.range (many ns rs)).map (treeBy ns rs)) := ⟨q2, d19, z19.imp fun _ _ _ _ h => h.2⟩
      refine ⟨D2, _, rfl, x19, by rw [List.length_map, List.length_range]; omega, fun p1 H20 hp1 t20 x20 => ?_⟩
      have t1720 := (t18.trans t19).trans t20
      have x20' : XL H20 D ((allT ns (ns.length - 1)).filter pB) := ⟨qs, t20 _ _ (t19 _ _ d18), z18.imp fun _ _ _ _ h => mono_TL _ _ _ _ t1720 h⟩
      refine ⟨_, rfl, D, _, rfl, x20', by omega, fun p2 H21 hp2 t21 x21 => ?_⟩
      refine rd_neD enc_X (by decide) (dp_X (mono_XL _ _ _ _ t21 x20)) (dp_X x21) ⟨_, rfl, ?_⟩
      rw [decide_eq_true (sorted_one tperm)]
      exact iteF ⟨_, _, _, _, _, _, _, _, _, rfl, s1.trans ((w18.same (t19.trans (t20.trans t21))).old)⟩
end
end G46
set_option maxHeartbeats 0
namespace G46
open PySem PySem.Spec PyProof.Rows L2
abbrev R : PySem.W.OpenRow := PySem.W.OpenLaw.row PySem.Challenge.rw_ontheline_k75_whole_trees_by_number
abbrev hk : PySem.W.Hook := He.hookX 4 fa fn [] [] more
def ob (s : PySem.W.SharedT) : He.AlX := He.obsX 4 fa fn [] [] more (HandSHeadRun.getT s)
theorem ob_eq (s : PySem.W.SharedT) : ob s = hk.obs s.abs := He.obsX_eq (HandSHeadRun.getT_eq s)
def loose : List PySem.Str := (["FolkError", "NoRanking", "NoFolk", "NoNames", "NoFit", "NoLine", "NoNumber", "NoTree", "NoPaper", "NoText", "NoTitle", "NoRow"] : List PySem.Str) ++ (["NoBack", "TooGreat", "NoWeights", "NoFall", "NoTops", "NoFixed", "NoHand", "NoRule", "MOST_NAMES", "MOST_HANDS", "is_number", "are_unlike_names"] : List PySem.Str) ++ (["is_ranking", "is_folk", "must_be_folk", "is_tie", "reached", "hang_together", "is_right_tree", "must_be_tree", "names_by", "apart_at", "allowed", "hangs_at"] : List PySem.Str) ++ (["lasts", "taken_out", "tie_of", "tree_wrong", "trees_many", "tree_by", "tree_number", "_law_mix", "_law_left", "_law_draw", "_law_names", "_law_shuffled"] : List PySem.Str) ++ (["_law_tree", "_law_falling", "_law_folk", "_law_together", "_law_apart", "_law_whole", "_law_is_tree", "_law_hangs", "_law_lasts", "_law_all_trees", "_law_no_ring", "_law_marks"] : List PySem.Str) ++ (["_law_copied", "_law_many", "_law_refused", "_law_right", "_law_numbered"] : List PySem.Str)
theorem run (w : World) : HandSHeadRun.RunEq R (PySem.W.view R.prog [69]) hk ob 12000 loose w := by
  intro os
  kernel_rfl
end G46
set_option maxHeartbeats 0
namespace G46
open PySem PySem.Spec PyProof.Rows L2
theorem has_all {P : Program} {w : World} {K : PySem.W.Frag} {mg : Str → Option Value} (T : Tx w K mg) : HasA P w K mg CX0 9 "law" ["_law_script"] (spLaw K) := by
  have a1 := fun base => has_is_number (P := P) (base := base) T
  have a2 := fun base => has_are_unlike_names (P := P) (base := base) T (a1 base)
  have a3 := fun base => has_is_ranking (P := P) (base := base) T (a2 base)
  have a4 := fun base => has_is_folk (P := P) (base := base) T (a3 base)
  have a5 := fun base => has_must_be_folk (P := P) (base := base) T (a4 base)
  have a6 := fun base => has_names_by (P := P) (base := base) T (a5 base)
  have b1 := fun base => has_is_tie (P := P) (base := base) T (a1 base)
  have b2 := fun base => has_tie_of (P := P) (base := base) T
  have b3 := fun base => has_reached (P := P) (base := base) T
  have b4 := fun base => has_hang_together (P := P) (base := base) T (b3 base)
  have b5 := fun base => has_is_right_tree (P := P) (base := base) T (b1 base) (b4 base)
  have b6 := fun base => has_must_be_tree (P := P) (base := base) T (b5 base)
  have b7 := fun base => has_apart_at (P := P) (base := base) T (b4 base)
  have b8 := fun base => has_tree_wrong (P := P) (base := base) T (b5 base) (b7 base)
  have c1 := fun base => has_allowed (P := P) (base := base) T
  have c2 := fun base => has_hangs_at (P := P) (base := base) T (c1 base)
  have c3 := fun base => has_lasts (P := P) (base := base) T
  have c4 := fun base => has_taken_out (P := P) (base := base) T (c3 base) (c2 base)
  have c5 := fun base => has_trees_many (P := P) (base := base) T (a5 base) (c4 base)
  have c6 := fun base => has_tree_by (P := P) (base := base) T (c5 base) (c4 base) (b2 base)
  have c7 := fun base => has_tree_number (P := P) (base := base) T (a6 base) (b6 base) (b8 base) (c4 base) (b2 base)
  have d1 := fun base => has_law_mix (P := P) (base := base) T
  have d2 := fun base => has_law_left (P := P) (base := base) T
  have d3 := fun base => has_law_draw (P := P) (base := base) T (d1 base)
  have d4 := fun base => has_law_names (P := P) (base := base) T (d3 base)
  have d5 := fun base => has_law_shuffled (P := P) (base := base) T (d3 base)
  have d6 := fun base => has_law_tree (P := P) (base := base) T (d3 base) (d5 base)
  have d7 := fun base => has_law_falling (P := P) (base := base) T (d3 base)
  have d8 := fun base => has_law_folk (P := P) (base := base) T (d3 base) (d5 base) (d7 base)
  have e1 := fun base => has_law_together (P := P) (base := base) T
  have e2 := fun base => has_law_apart (P := P) (base := base) T (e1 base)
  have e3 := fun base => has_law_whole (P := P) (base := base) T
  have e4 := fun base => has_law_is_tree (P := P) (base := base) T (e3 base) (e1 base)
  have e5 := fun base => has_law_right (P := P) (base := base) T (e4 base) (e2 base)
  have e6 := fun base => has_law_hangs (P := P) (base := base) T
  have e7 := fun base => has_law_lasts (P := P) (base := base) T
  have e8 := fun base => has_law_many (P := P) (base := base) T (d3 base) (e7 base) (e6 base)
  have f1 := fun base => has_law_no_ring (P := P) (base := base) T
  have f2 := fun base => has_law_all_trees (P := P) (base := base) T (f1 base)
  have f3 := fun base => has_law_copied (P := P) (base := base) T 4
  have f4 := fun base => has_law_marks (P := P) (base := base) T
  have f5 := fun base => has_law_refused (P := P) (base := base) T (f3 base) (c6 base) (c7 base) (f4 base)
  have f6 := fun base => has_law_numbered (P := P) (base := base) T (d3 base) (f3 base) (c6 base) (c7 base) (e5 base)
  exact has_law T d2 d4 d3 d6 d8 c5 f3 e3 e8 f5 f6 e5 c6 c7 f2
end G46
open PySem PySem.W PySem.Calls PyProof.Rows
theorem PySem.Challenge.cw_ontheline_k75_whole_trees_by_number_holds : PySem.Challenge.rw_ontheline_k75_whole_trees_by_number.Holds := by
  w_on; o_law
  refine HandSHeadRun.head_any (r := OpenLaw.row PySem.Challenge.rw_ontheline_k75_whole_trees_by_number) (q := view (OpenLaw.row PySem.Challenge.rw_ontheline_k75_whole_trees_by_number).prog [69]) (H := G46.hk) (ob := G46.ob) (M := 12000) (loose := G46.loose) (d := HandSHeadRun.topDef (OpenLaw.row PySem.Challenge.rw_ontheline_k75_whole_trees_by_number).prog 69) (kwd := []) G46.ob_eq
    (by kernel_rfl) (fun s => by kernel_rfl) G46.run (by kernel_rfl) (by kernel_rfl) (by kernel_rfl) (by rfl) (by first | assumption | decide +kernel) (by decide +kernel) ⟨rfl, rfl, rfl, rfl, rfl, by decide +kernel⟩ ?hw ?hc
  case hw => w_witness2
  case hc =>
    refine L2.walk_ofE (l := PySem.Challenge.rw_ontheline_k75_whole_trees_by_number) (n := 63) (k := 9) (x := "_law_script") (CX := L2.CX0) rfl (by decide) (by kernel_rfl) ⟨rfl, by decide, by decide⟩ ?F (fun _ _ _ _ z => z)
    intro w mg fa h Y G hmg0
    obtain ⟨K, KX, c⟩ := Y
    have hmg : mg ("law" : PySem.Str) = some (.ref fa) := by
      have e : (HandSHeadRun.topDef (OpenLaw.row PySem.Challenge.rw_ontheline_k75_whole_trees_by_number).prog 69).name = ("law" : PySem.Str) := by kernel_rfl
      rw [← e]
      exact hmg0
    obtain ⟨f, fd, ok, hf, hb⟩ := G46.has_all (P := (PySem.Challenge.rw_ontheline_k75_whole_trees_by_number).prog) (w := w) (K := K) (mg := mg) ⟨h, KX, G, c⟩
    have ef : f = fa := Value.ref.inj (Option.some.inj (hf.symm.trans hmg))
    subst ef
    exact ⟨K, fd, G46.spLaw K, KX, fun s u => hb s [u] rfl, fun H a ns hl _ hS => ⟨a, ns, rfl, hS, hl, fun _ => rfl⟩, fun base _ _ => ok base⟩
