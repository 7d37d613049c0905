import PyProof.Rows.All
import Wide.All
import OpenK.AllK
import Wide.FinOn
import HandS.ForMost
import HandS.HeadHook4
import PySem.Challenge.RW_oddposts_k95_whole_texts_there_and_back
import HandS.Head0
import HandS.Head1
import HandS.Head2
import HandS.HeadEnd
import KE.DatumIndex
import HandS.Star
import HandS.Strs
import HandS.SetFor
import HandS.SortInts
import HandS.OwnEq
import HandS.Style
import KE.KUnpackStar
import KE.KFmtOwn
import PyProof.InstEq
import HandS.Codes
import HandS.Evl
import HandS.Walk
import HandS.Defaults
import HandS.IsInst
import HandS.RaiseMore
import PyProof.ReprBulk
import PyProof.P3Eq
import HandS.Conv
import HandS.Keys
import HandS.SortRule
import HandS.MakeKwOnly
import HandS.Zip
import HandS.Text
import HandS.Exc
import HandS.Wide
import HandS.More
import HandS.Flow
set_option Elab.async false
set_option linter.all false
set_option maxRecDepth 100000
/-! the text by places; the defs' data; the facts that the head tells: printed by gen_head.py -/
namespace Od
open PySem L2
/-! the text by places -/
def top (i : Nat) : Stmt := PySem.Challenge.pw_oddposts_k95_whole_texts_there_and_back.main.body.getD i (.Pass ⟨0, 0, 0, 0⟩)
abbrev s_is_integer : Stmt := top 8
abbrev s_is_post : Stmt := top 9
abbrev s_are_posts : Stmt := top 10
abbrev s_is_set : Stmt := top 11
abbrev s_neighbours_beyond : Stmt := top 13
abbrev s_fork_of : Stmt := top 14
abbrev s_broom_of : Stmt := top 15
abbrev s_unlike : Stmt := top 16
abbrev s_is_free : Stmt := top 17
abbrev s_path_of : Stmt := top 19
abbrev s_laid : Stmt := top 20
abbrev s_straight : Stmt := top 21
abbrev s_borders : Stmt := top 22
abbrev s_sees_odd : Stmt := top 24
abbrev s_ready : Stmt := top 25
abbrev s_is_still : Stmt := top 26
abbrev s_sign : Stmt := top 27
abbrev s_class_of : Stmt := top 29
abbrev s_is_tie : Stmt := top 32
abbrev s_check_tree : Stmt := top 33
abbrev s_near_of : Stmt := top 34
abbrev s_toward_of : Stmt := top 35
abbrev s_is_number : Stmt := top 38
abbrev s_are_numbers : Stmt := top 39
abbrev s_is_deed : Stmt := top 40
abbrev s_read_number : Stmt := top 44
abbrev s_read_numbers : Stmt := top 45
abbrev s_show_posts : Stmt := top 46
abbrev s_read_posts : Stmt := top 47
abbrev s_show_ties : Stmt := top 48
abbrev s_read_tie : Stmt := top 49
abbrev s_show_yard : Stmt := top 50
abbrev s_read_yard : Stmt := top 51
abbrev s_show_deed : Stmt := top 52
abbrev s_read_deed : Stmt := top 53
abbrev s_show_class : Stmt := top 54
abbrev s_l_bag : Stmt := top 56
abbrev s_l_take : Stmt := top 57
abbrev s_l_parents : Stmt := top 58
abbrev s_l_ties : Stmt := top 59
abbrev s_l_some : Stmt := top 60
abbrev s_l_near : Stmt := top 61
abbrev s_l_wires : Stmt := top 62
abbrev s_l_alike : Stmt := top 63
abbrev s_l_scene : Stmt := top 64
abbrev s_l_yard : Stmt := top 65
abbrev s_l_words : Stmt := top 66
abbrev s_l_yard_text : Stmt := top 67
abbrev s_l_deed_text : Stmt := top 68
abbrev s_l_any_deed : Stmt := top 69
abbrev s_l_class_text : Stmt := top 70
abbrev s_law : Stmt := top 71
abbrev s_Y_init : Stmt := inClass (top 36) 0
abbrev s_Y_size : Stmt := inClass (top 36) 1
abbrev s_Y_ties : Stmt := inClass (top 36) 2
abbrev s_Y_wired : Stmt := inClass (top 36) 3
abbrev s_Y_neighbours : Stmt := inClass (top 36) 4
abbrev s_Y_leaves : Stmt := inClass (top 36) 5
abbrev s_Y_path : Stmt := inClass (top 36) 6
abbrev s_Y_eq : Stmt := inClass (top 36) 8
def d_is_integer : He.DefD := ⟨("is_integer", none), "is_integer", "is_integer", defArgs s_is_integer, defBody s_is_integer, defScope s_is_integer, [], []⟩
def d_is_post : He.DefD := ⟨("is_post", none), "is_post", "is_post", defArgs s_is_post, defBody s_is_post, defScope s_is_post, [], []⟩
def d_are_posts : He.DefD := ⟨("are_posts", none), "are_posts", "are_posts", defArgs s_are_posts, defBody s_are_posts, defScope s_are_posts, [], []⟩
def d_is_set : He.DefD := ⟨("is_set", none), "is_set", "is_set", defArgs s_is_set, defBody s_is_set, defScope s_is_set, [], []⟩
def d_neighbours_beyond : He.DefD := ⟨("neighbours_beyond", none), "neighbours_beyond", "neighbours_beyond", defArgs s_neighbours_beyond, defBody s_neighbours_beyond, defScope s_neighbours_beyond, [], []⟩
def d_fork_of : He.DefD := ⟨("fork_of", none), "fork_of", "fork_of", defArgs s_fork_of, defBody s_fork_of, defScope s_fork_of, [], []⟩
def d_broom_of : He.DefD := ⟨("broom_of", none), "broom_of", "broom_of", defArgs s_broom_of, defBody s_broom_of, defScope s_broom_of, [], []⟩
def d_unlike : He.DefD := ⟨("unlike", none), "unlike", "unlike", defArgs s_unlike, defBody s_unlike, defScope s_unlike, [], []⟩
def d_is_free : He.DefD := ⟨("is_free", none), "is_free", "is_free", defArgs s_is_free, defBody s_is_free, defScope s_is_free, [], []⟩
def d_path_of : He.DefD := ⟨("path_of", none), "path_of", "path_of", defArgs s_path_of, defBody s_path_of, defScope s_path_of, [], []⟩
def d_laid : He.DefD := ⟨("laid", none), "laid", "laid", defArgs s_laid, defBody s_laid, defScope s_laid, [], []⟩
def d_straight : He.DefD := ⟨("straight", none), "straight", "straight", defArgs s_straight, defBody s_straight, defScope s_straight, [], []⟩
def d_borders : He.DefD := ⟨("borders", none), "borders", "borders", defArgs s_borders, defBody s_borders, defScope s_borders, [], []⟩
def d_sees_odd : He.DefD := ⟨("sees_odd", none), "sees_odd", "sees_odd", defArgs s_sees_odd, defBody s_sees_odd, defScope s_sees_odd, [], []⟩
def d_ready : He.DefD := ⟨("ready", none), "ready", "ready", defArgs s_ready, defBody s_ready, defScope s_ready, [], []⟩
def d_is_still : He.DefD := ⟨("is_still", none), "is_still", "is_still", defArgs s_is_still, defBody s_is_still, defScope s_is_still, [], []⟩
def d_sign : He.DefD := ⟨("sign", none), "sign", "sign", defArgs s_sign, defBody s_sign, defScope s_sign, [], []⟩
def d_class_of : He.DefD := ⟨("class_of", none), "class_of", "class_of", defArgs s_class_of, defBody s_class_of, defScope s_class_of, [], []⟩
def d_is_tie : He.DefD := ⟨("is_tie", none), "is_tie", "is_tie", defArgs s_is_tie, defBody s_is_tie, defScope s_is_tie, [], []⟩
def d_check_tree : He.DefD := ⟨("check_tree", none), "check_tree", "check_tree", defArgs s_check_tree, defBody s_check_tree, defScope s_check_tree, [], []⟩
def d_near_of : He.DefD := ⟨("near_of", none), "near_of", "near_of", defArgs s_near_of, defBody s_near_of, defScope s_near_of, [], []⟩
def d_toward_of : He.DefD := ⟨("toward_of", none), "toward_of", "toward_of", defArgs s_toward_of, defBody s_toward_of, defScope s_toward_of, [], []⟩
def d_is_number : He.DefD := ⟨("is_number", none), "is_number", "is_number", defArgs s_is_number, defBody s_is_number, defScope s_is_number, [], []⟩
def d_are_numbers : He.DefD := ⟨("are_numbers", none), "are_numbers", "are_numbers", defArgs s_are_numbers, defBody s_are_numbers, defScope s_are_numbers, [], []⟩
def d_is_deed : He.DefD := ⟨("is_deed", none), "is_deed", "is_deed", defArgs s_is_deed, defBody s_is_deed, defScope s_is_deed, [], []⟩
def d_read_number : He.DefD := ⟨("read_number", none), "read_number", "read_number", defArgs s_read_number, defBody s_read_number, defScope s_read_number, [], []⟩
def d_read_numbers : He.DefD := ⟨("read_numbers", none), "read_numbers", "read_numbers", defArgs s_read_numbers, defBody s_read_numbers, defScope s_read_numbers, [], []⟩
def d_show_posts : He.DefD := ⟨("show_posts", none), "show_posts", "show_posts", defArgs s_show_posts, defBody s_show_posts, defScope s_show_posts, [], []⟩
def d_read_posts : He.DefD := ⟨("read_posts", none), "read_posts", "read_posts", defArgs s_read_posts, defBody s_read_posts, defScope s_read_posts, [], []⟩
def d_show_ties : He.DefD := ⟨("show_ties", none), "show_ties", "show_ties", defArgs s_show_ties, defBody s_show_ties, defScope s_show_ties, [], []⟩
def d_read_tie : He.DefD := ⟨("read_tie", none), "read_tie", "read_tie", defArgs s_read_tie, defBody s_read_tie, defScope s_read_tie, [], []⟩
def d_show_yard : He.DefD := ⟨("show_yard", none), "show_yard", "show_yard", defArgs s_show_yard, defBody s_show_yard, defScope s_show_yard, [], []⟩
def d_read_yard : He.DefD := ⟨("read_yard", none), "read_yard", "read_yard", defArgs s_read_yard, defBody s_read_yard, defScope s_read_yard, [], []⟩
def d_show_deed : He.DefD := ⟨("show_deed", none), "show_deed", "show_deed", defArgs s_show_deed, defBody s_show_deed, defScope s_show_deed, [], []⟩
def d_read_deed : He.DefD := ⟨("read_deed", none), "read_deed", "read_deed", defArgs s_read_deed, defBody s_read_deed, defScope s_read_deed, [], []⟩
def d_show_class : He.DefD := ⟨("show_class", none), "show_class", "show_class", defArgs s_show_class, defBody s_show_class, defScope s_show_class, [], []⟩
def d_l_bag : He.DefD := ⟨("_law_bag", none), "_law_bag", "_law_bag", defArgs s_l_bag, defBody s_l_bag, defScope s_l_bag, [], []⟩
def d_l_take : He.DefD := ⟨("_law_take", none), "_law_take", "_law_take", defArgs s_l_take, defBody s_l_take, defScope s_l_take, [], []⟩
def d_l_parents : He.DefD := ⟨("_law_parents", none), "_law_parents", "_law_parents", defArgs s_l_parents, defBody s_l_parents, defScope s_l_parents, [], []⟩
def d_l_ties : He.DefD := ⟨("_law_ties", none), "_law_ties", "_law_ties", defArgs s_l_ties, defBody s_l_ties, defScope s_l_ties, [], []⟩
def d_l_some : He.DefD := ⟨("_law_some", none), "_law_some", "_law_some", defArgs s_l_some, defBody s_l_some, defScope s_l_some, [], []⟩
def d_l_near : He.DefD := ⟨("_law_near", none), "_law_near", "_law_near", defArgs s_l_near, defBody s_l_near, defScope s_l_near, [], []⟩
def d_l_wires : He.DefD := ⟨("_law_wires", none), "_law_wires", "_law_wires", defArgs s_l_wires, defBody s_l_wires, defScope s_l_wires, [], []⟩
def d_l_alike : He.DefD := ⟨("_law_alike", none), "_law_alike", "_law_alike", defArgs s_l_alike, defBody s_l_alike, defScope s_l_alike, [], []⟩
def d_l_scene : He.DefD := ⟨("_law_scene", none), "_law_scene", "_law_scene", defArgs s_l_scene, defBody s_l_scene, defScope s_l_scene, [], []⟩
def d_l_yard : He.DefD := ⟨("_law_yard", none), "_law_yard", "_law_yard", defArgs s_l_yard, defBody s_l_yard, defScope s_l_yard, [], []⟩
def d_l_words : He.DefD := ⟨("_law_words", none), "_law_words", "_law_words", defArgs s_l_words, defBody s_l_words, defScope s_l_words, [], []⟩
def d_l_yard_text : He.DefD := ⟨("_law_yard_text", none), "_law_yard_text", "_law_yard_text", defArgs s_l_yard_text, defBody s_l_yard_text, defScope s_l_yard_text, [], []⟩
def d_l_deed_text : He.DefD := ⟨("_law_deed_text", none), "_law_deed_text", "_law_deed_text", defArgs s_l_deed_text, defBody s_l_deed_text, defScope s_l_deed_text, [], []⟩
def d_l_any_deed : He.DefD := ⟨("_law_any_deed", none), "_law_any_deed", "_law_any_deed", defArgs s_l_any_deed, defBody s_l_any_deed, defScope s_l_any_deed, [], []⟩
def d_l_class_text : He.DefD := ⟨("_law_class_text", none), "_law_class_text", "_law_class_text", defArgs s_l_class_text, defBody s_l_class_text, defScope s_l_class_text, [], []⟩
def d_law : He.DefD := ⟨("law", none), "law", "law", defArgs s_law, defBody s_law, defScope s_law, [], []⟩
def d_Y_init : He.DefD := ⟨("Yard", some "__init__"), "__init__", "Yard.__init__", defArgs s_Y_init, defBody s_Y_init, defScope s_Y_init, [], []⟩
def d_Y_size : He.DefD := ⟨("Yard", some "size"), "size", "Yard.size", defArgs s_Y_size, defBody s_Y_size, defScope s_Y_size, [], []⟩
def d_Y_ties : He.DefD := ⟨("Yard", some "ties"), "ties", "Yard.ties", defArgs s_Y_ties, defBody s_Y_ties, defScope s_Y_ties, [], []⟩
def d_Y_wired : He.DefD := ⟨("Yard", some "wired"), "wired", "Yard.wired", defArgs s_Y_wired, defBody s_Y_wired, defScope s_Y_wired, [], []⟩
def d_Y_neighbours : He.DefD := ⟨("Yard", some "neighbours"), "neighbours", "Yard.neighbours", defArgs s_Y_neighbours, defBody s_Y_neighbours, defScope s_Y_neighbours, [], []⟩
def d_Y_leaves : He.DefD := ⟨("Yard", some "leaves"), "leaves", "Yard.leaves", defArgs s_Y_leaves, defBody s_Y_leaves, defScope s_Y_leaves, [], []⟩
def d_Y_path : He.DefD := ⟨("Yard", some "path"), "path", "Yard.path", defArgs s_Y_path, defBody s_Y_path, defScope s_Y_path, [], []⟩
def d_Y_eq : He.DefD := ⟨("Yard", some "__eq__"), "__eq__", "Yard.__eq__", defArgs s_Y_eq, defBody s_Y_eq, defScope s_Y_eq, [], []⟩
def fn : List He.DefD := [d_is_integer, d_is_post, d_are_posts, d_is_set, d_neighbours_beyond, d_fork_of, d_broom_of, d_unlike, d_is_free, d_path_of, d_laid, d_straight, d_borders, d_sees_odd, d_ready, d_is_still, d_sign, d_class_of, d_is_tie, d_check_tree, d_near_of, d_toward_of, d_is_number, d_are_numbers, d_is_deed, d_read_number, d_read_numbers, d_show_posts, d_read_posts, d_show_ties, d_read_tie, d_show_yard, d_read_yard, d_show_deed, d_read_deed, d_show_class, d_l_bag, d_l_take, d_l_parents, d_l_ties, d_l_some, d_l_near, d_l_wires, d_l_alike, d_l_scene, d_l_yard, d_l_words, d_l_yard_text, d_l_deed_text, d_l_any_deed, d_l_class_text, d_law, d_Y_init, d_Y_size, d_Y_ties, d_Y_wired, d_Y_neighbours, d_Y_leaves, d_Y_path, d_Y_eq]
def fa : List He.Fa := [.glo "is_integer", .glo "is_post", .glo "are_posts", .glo "is_set", .glo "neighbours_beyond", .glo "fork_of", .glo "broom_of", .glo "unlike", .glo "is_free", .glo "path_of", .glo "laid", .glo "straight", .glo "borders", .glo "sees_odd", .glo "ready", .glo "is_still", .glo "sign", .glo "class_of", .glo "is_tie", .glo "check_tree", .glo "near_of", .glo "toward_of", .glo "is_number", .glo "are_numbers", .glo "is_deed", .glo "read_number", .glo "read_numbers", .glo "show_posts", .glo "read_posts", .glo "show_ties", .glo "read_tie", .glo "show_yard", .glo "read_yard", .glo "show_deed", .glo "read_deed", .glo "show_class", .glo "_law_bag", .glo "_law_take", .glo "_law_parents", .glo "_law_ties", .glo "_law_some", .glo "_law_near", .glo "_law_wires", .glo "_law_alike", .glo "_law_scene", .glo "_law_yard", .glo "_law_words", .glo "_law_yard_text", .glo "_law_deed_text", .glo "_law_any_deed", .glo "_law_class_text", .glo "law", .glo "Yard", .free "isinstance", .free "int", .free "bool", .free "list", .free "tuple", .free "all", .free "len", .free "set", .free "sorted", .free "range", .free "enumerate", .free "zip", .free "str", .free "abs", .free "max", .free "repr", .int "MOST_SIZE" 60, .int "MOST_DIGITS" 40, .str "DIGITS" "0123456789", .cls "Yard", .mkr "Yard", .noat "Yard" "kept_size", .noat "Yard" "kept_ties", .noat "Yard" "kept_wired", .noat "Yard" "kept_near", .meth "Yard" "size", .meth "Yard" "ties", .meth "Yard" "wired", .meth "Yard" "neighbours", .meth "Yard" "leaves", .meth "Yard" "path", .meth "Yard" "__eq__"]
def loose0 : List Str := ["_wall", "__name__", "OddError", "Wrong", "NotTree", "Free", "NoText", "is_integer", "is_post", "are_posts", "is_set", "neighbours_beyond", "fork_of", "broom_of", "unlike", "is_free", "path_of", "laid", "straight", "borders", "sees_odd", "ready", "is_still", "sign", "class_of", "MOST_SIZE", "is_tie", "check_tree", "near_of", "toward_of"]
def loose1 : List Str := ["Yard", "is_number", "are_numbers", "is_deed", "MOST_DIGITS", "DIGITS", "read_number", "read_numbers", "show_posts", "read_posts", "show_ties", "read_tie", "show_yard", "read_yard", "show_deed", "read_deed", "show_class", "_law_bag", "_law_take", "_law_parents", "_law_ties", "_law_some", "_law_near", "_law_wires", "_law_alike", "_law_scene", "_law_yard", "_law_words", "_law_yard_text", "_law_deed_text"]
def loose2 : List Str := ["_law_any_deed", "_law_class_text"]
def loose : List Str := loose0 ++ loose1 ++ loose2
end Od

set_option Elab.async false
set_option linter.all false
set_option maxRecDepth 100000
set_option maxHeartbeats 0
/-! the head: the top's run and the facts -/
namespace Od
open PySem L2
abbrev R : PySem.W.OpenRow := PySem.W.OpenLaw.row PySem.Challenge.rw_oddposts_k95_whole_texts_there_and_back
def ex (K : PySem.W.Frag) : Bool :=
  decide (PySem.W.findIn K (.ref (He.ga K "Yard")) "__ne__" = some (some (.builtin "object.__ne__"))) &&
  (decide (PySem.W.findIn K (.ref (He.ga K "Yard")) "__class__" = some (some (.builtin "object.__class__"))) &&
  (decide (PySem.W.specialIn K (.builtin "object.__class__") "__get__" = some (some (.builtin "getset_descriptor.__get__"))) &&
  (decide (PySem.W.takesIn K (.builtin "object.__class__") = some true) &&
  (decide (PySem.W.mroIn K (He.ga K "Yard") (.type "object") = some true) &&
  decide (PySem.W.kitOne K (.ref (He.ga K "Yard")) (.ref (He.ga K "Yard")) = some true)))))
abbrev hk : PySem.W.Hook := He.hookX 5 fa fn [] [] ex
def ob (s : PySem.W.SharedT) : He.AlX := He.obsX 5 fa fn [] [] ex (HandSHeadRun.getT s)
theorem ob_eq (s : PySem.W.SharedT) : ob s = hk.obs s.abs := He.obsX_eq (HandSHeadRun.getT_eq s)
theorem run (w : World) : HandSHeadRun.RunEq R (PySem.W.view R.prog [71]) hk ob 4000 loose w := by
  intro os
  kernel_rfl
end Od

set_option linter.all false
/-! Plain mathematics of drawn trees: no program. -/
namespace Odd

/-! ### a tree by indices -/
structure Tr (n : Nat) (o : Nat → Int) (p : Nat → Nat) : Prop where
  lo : ∀ i, i < n → 0 ≤ o i
  hi : ∀ i, i < n → o i < n
  inj : ∀ i j, i < n → j < n → o i = o j → i = j
  sur : ∀ x : Int, 0 ≤ x → x < n → ∃ i, i < n ∧ o i = x
  p0 : p 0 = 0
  lt : ∀ k, 1 ≤ k → k < n → p k < k

def mkt (x y : Int) : Int × Int := if x < y then (x, y) else (y, x)
def edges (n : Nat) (o : Nat → Int) (p : Nat → Nat) : List (Int × Int) := (List.range (n - 1)).map fun k => mkt (o (k + 1)) (o (p (k + 1)))
def IsTree (n : Nat) (ts : List (Int × Int)) : Prop := ∃ o p, Tr n o p ∧ ts.Perm (edges n o p)

theorem mkt_comm (x y : Int) : mkt x y = mkt y x := by
  unfold mkt
  by_cases h : x < y
  · rw [if_pos h, if_neg (by omega)]
  · by_cases h2 : y < x
    · rw [if_neg h, if_pos h2]
    · have : x = y := by omega
      subst this; rfl
theorem mkt_or (x y : Int) : (mkt x y = (x, y)) ∨ (mkt x y = (y, x)) := by
  unfold mkt
  by_cases h : x < y
  · exact .inl (if_pos h)
  · exact .inr (if_neg h)
theorem mkt_eq {x y u v : Int} (h : mkt x y = mkt u v) : (x = u ∧ y = v) ∨ (x = v ∧ y = u) := by
  rcases mkt_or x y with e | e <;> rcases mkt_or u v with f | f <;> rw [e, f] at h <;> injection h with h1 h2
  · exact .inl ⟨h1, h2⟩
  · exact .inr ⟨h1, h2⟩
  · exact .inr ⟨h2, h1⟩
  · exact .inl ⟨h2, h1⟩
theorem mkt_lt {x y : Int} (h : x ≠ y) : (mkt x y).1 < (mkt x y).2 := by
  unfold mkt
  by_cases h1 : x < y
  · rw [if_pos h1]; exact h1
  · rw [if_neg h1]; show y < x; omega

section
variable {n : Nat} {o : Nat → Int} {p : Nat → Nat}
theorem Tr.le (T : Tr n o p) {i : Nat} (h : i < n) : p i ≤ i := by
  rcases Nat.eq_zero_or_pos i with e | e
  · subst e; rw [T.p0]; exact Nat.le_refl _
  · exact Nat.le_of_lt (T.lt i e h)
theorem Tr.pn (T : Tr n o p) {i : Nat} (h : i < n) : p i < n := Nat.lt_of_le_of_lt (T.le h) h
theorem mem_edges {t : Int × Int} : t ∈ edges n o p ↔ ∃ k, 1 ≤ k ∧ k < n ∧ t = mkt (o k) (o (p k)) := by
  unfold edges
  rw [List.mem_map]
  constructor
  · rintro ⟨k, hk, rfl⟩
    rw [List.mem_range] at hk
    exact ⟨k + 1, by omega, by omega, rfl⟩
  · rintro ⟨k, h1, h2, rfl⟩
    exact ⟨k - 1, List.mem_range.mpr (by omega), by rw [Nat.sub_add_cancel h1]⟩
theorem edges_len : (edges n o p).length = n - 1 := by
  unfold edges
  rw [List.length_map, List.length_range]
theorem Tr.edge_inj (T : Tr n o p) {i j : Nat} (hi : 1 ≤ i) (hin : i < n) (hj : 1 ≤ j) (hjn : j < n) (h : mkt (o i) (o (p i)) = mkt (o j) (o (p j))) : i = j := by
  rcases mkt_eq h with ⟨e, _⟩ | ⟨e1, e2⟩
  · exact T.inj i j hin hjn e
  · have a := T.inj _ _ hin (T.pn hjn) e1
    have b := T.inj _ _ (T.pn hin) hjn e2
    have c := T.lt i hi hin
    have d := T.lt j hj hjn
    omega
theorem Tr.nodup (T : Tr n o p) : (edges n o p).Nodup := by
  unfold edges
  unfold List.Nodup
  rw [List.pairwise_map]
  refine List.Pairwise.imp_of_mem ?_ (List.nodup_range (n := n - 1))
  intro a b ha hb hab e
  rw [List.mem_range] at ha hb
  have := T.edge_inj (i := a + 1) (j := b + 1) (by omega) (by omega) (by omega) (by omega) e
  exact hab (by omega)
theorem IsTree.len {ts : List (Int × Int)} (h : IsTree n ts) : ts.length = n - 1 := by
  obtain ⟨o, p, _, q⟩ := h
  rw [q.length_eq, edges_len]
theorem IsTree.nodup {ts : List (Int × Int)} (h : IsTree n ts) : ts.Nodup := by
  obtain ⟨o, p, T, q⟩ := h
  exact q.nodup_iff.mpr T.nodup
theorem IsTree.tie {ts : List (Int × Int)} (h : IsTree n ts) {t : Int × Int} (m : t ∈ ts) : 0 ≤ t.1 ∧ t.1 < t.2 ∧ t.2 < n := by
  obtain ⟨o, p, T, q⟩ := h
  obtain ⟨k, h1, h2, rfl⟩ := mem_edges.mp (q.mem_iff.mp m)
  have hl := T.lt k h1 h2
  have ne : o k ≠ o (p k) := fun e => by have := T.inj _ _ h2 (T.pn h2) e; omega
  have a := T.lo k h2
  have b := T.hi k h2
  have c := T.lo _ (T.pn h2)
  have d := T.hi _ (T.pn h2)
  have l := mkt_lt ne
  rcases mkt_or (o k) (o (p k)) with e | e <;> rw [e] at l ⊢ <;> exact ⟨by assumption, l, by assumption⟩
theorem IsTree.perm {ts us : List (Int × Int)} (h : IsTree n ts) (q : us.Perm ts) : IsTree n us := by
  obtain ⟨o, p, T, r⟩ := h
  exact ⟨o, p, T, q.trans r⟩

/-! ### ancestors -/
def it (p : Nat → Nat) : Nat → Nat → Nat
  | 0, i => i
  | m + 1, i => it p m (p i)
theorem it_succ (p : Nat → Nat) : ∀ m i, it p (m + 1) i = p (it p m i)
  | 0, _ => rfl
  | m + 1, i => it_succ p m (p i)
theorem it_add (p : Nat → Nat) : ∀ a b i, it p (a + b) i = it p b (it p a i)
  | 0, b, i => by rw [Nat.zero_add]; rfl
  | a + 1, b, i => by
    rw [show a + 1 + b = (a + b) + 1 by omega]
    exact it_add p a b (p i)
def Up (p : Nat → Nat) (k i : Nat) : Prop := ∃ m, it p m i = k
theorem Tr.it_le (T : Tr n o p) : ∀ m i, i < n → it p m i ≤ i
  | 0, i, _ => Nat.le_refl i
  | m + 1, i, h => Nat.le_trans (T.it_le m (p i) (T.pn h)) (T.le h)
theorem up_edge {k j : Nat} (h : j ≠ k) : Up p k j ↔ Up p k (p j) := by
  constructor
  · rintro ⟨m, e⟩
    cases m with
    | zero => exact absurd e h
    | succ m => exact ⟨m, e⟩
  · rintro ⟨m, e⟩
    exact ⟨m + 1, e⟩
theorem Tr.not_up (T : Tr n o p) {k : Nat} (h1 : 1 ≤ k) (h2 : k < n) : ¬ Up p k (p k) := by
  rintro ⟨m, e⟩
  have a := T.it_le m (p k) (T.pn h2)
  have b := T.lt k h1 h2
  omega
end

/-! ### the labels of check_tree -/
def lab (l : List Int) (x : Int) : Int := l.getD x.toNat 0
def stepL (l : List Int) (t : Int × Int) : List Int := l.map fun z => if z = lab l t.2 then lab l t.1 else z
def labs (n : Nat) (ts : List (Int × Int)) : List Int := ts.foldl stepL ((List.range n).map Int.ofNat)
theorem labs_snoc (n : Nat) (ts : List (Int × Int)) (t : Int × Int) : labs n (ts ++ [t]) = stepL (labs n ts) t := by
  unfold labs
  rw [List.foldl_append]
  rfl
theorem stepL_len (l : List Int) (t : Int × Int) : (stepL l t).length = l.length := by
  unfold stepL
  rw [List.length_map]
theorem foldl_len : ∀ (ts : List (Int × Int)) (l : List Int), (ts.foldl stepL l).length = l.length
  | [], _ => rfl
  | t :: r, l => by rw [List.foldl_cons, foldl_len r, stepL_len]
theorem labs_len (n : Nat) (ts : List (Int × Int)) : (labs n ts).length = n := by
  unfold labs
  rw [foldl_len, List.length_map, List.length_range]
theorem lab_step {l : List Int} {t : Int × Int} {x : Int} (h : x.toNat < l.length) : lab (stepL l t) x = if lab l x = lab l t.2 then lab l t.1 else lab l x := by
  unfold lab stepL
  simp only [List.getD_eq_getElem?_getD, List.getElem?_map]
  rw [List.getElem?_eq_getElem h]
  rfl
/-- what is kept: labels that are alike stand on one side -/
def Side (n : Nat) (S : Int → Prop) (l : List Int) : Prop := l.length = n ∧ ∀ x y : Int, 0 ≤ x → x < n → 0 ≤ y → y < n → lab l x = lab l y → (S x ↔ S y)
theorem side_step {n : Nat} {S : Int → Prop} {l : List Int} {t : Int × Int} (h : Side n S l) (h1 : 0 ≤ t.1 ∧ t.1 < n) (h2 : 0 ≤ t.2 ∧ t.2 < n) (hs : S t.1 ↔ S t.2) : Side n S (stepL l t) := by
  refine ⟨by rw [stepL_len]; exact h.1, fun x y hx hx' hy hy' e => ?_⟩
  have hl := h.1
  rw [lab_step (by omega), lab_step (by omega)] at e
  have q := h.2
  by_cases c1 : lab l x = lab l t.2 <;> by_cases c2 : lab l y = lab l t.2
  · exact (q x t.2 hx hx' h2.1 h2.2 c1).trans (q y t.2 hy hy' h2.1 h2.2 c2).symm
  · rw [if_pos c1, if_neg c2] at e
    exact ((q x t.2 hx hx' h2.1 h2.2 c1).trans hs.symm).trans (q t.1 y h1.1 h1.2 hy hy' e)
  · rw [if_neg c1, if_pos c2] at e
    exact (q x t.1 hx hx' h1.1 h1.2 e).trans (hs.trans (q y t.2 hy hy' h2.1 h2.2 c2).symm)
  · rw [if_neg c1, if_neg c2] at e
    exact q x y hx hx' hy hy' e
theorem side_fold {n : Nat} {S : Int → Prop} : ∀ (ts : List (Int × Int)) (l : List Int), Side n S l → (∀ t ∈ ts, (0 ≤ t.1 ∧ t.1 < n) ∧ (0 ≤ t.2 ∧ t.2 < n) ∧ (S t.1 ↔ S t.2)) → Side n S (ts.foldl stepL l)
  | [], _, h, _ => h
  | t :: r, l, h, q => by
    obtain ⟨a, b, c⟩ := q t List.mem_cons_self
    exact side_fold r (stepL l t) (side_step h a b c) fun u hu => q u (List.mem_cons_of_mem _ hu)
theorem side_start {n : Nat} {S : Int → Prop} : Side n S ((List.range n).map Int.ofNat) := by
  refine ⟨by rw [List.length_map, List.length_range], fun x y hx hx' hy hy' e => ?_⟩
  have a : ∀ z : Int, 0 ≤ z → z < n → lab ((List.range n).map Int.ofNat) z = z := fun z h0 h1 => by
    unfold lab
    rw [List.getD_eq_getElem?_getD, List.getElem?_map, List.getElem?_range (by omega)]
    exact Int.toNat_of_nonneg h0
  rw [a x hx hx', a y hy hy'] at e
  rw [e]
theorem tree_check {n : Nat} {ts : List (Int × Int)} (h : IsTree n ts) : ∀ (i : Nat) (t : Int × Int), ts[i]? = some t → lab (labs n (ts.take i)) t.1 ≠ lab (labs n (ts.take i)) t.2 := by
  intro i t ht e
  have nd := h.nodup
  have bd := fun {u} => h.tie (t := u)
  obtain ⟨o, p, T, q⟩ := h
  have mt : t ∈ ts := List.mem_of_getElem? ht
  obtain ⟨k, h1, h2, et⟩ := mem_edges.mp (q.mem_iff.mp mt)
  have pn := T.pn h2
  -- the posts below the tie
  have key := side_fold (n := n) (S := fun x => ∃ j, j < n ∧ o j = x ∧ Up p k j) (ts.take i) _ side_start (fun u hu => by
    have mu : u ∈ ts := List.mem_of_mem_take hu
    have b := bd mu
    refine ⟨⟨by omega, by omega⟩, ⟨by omega, by omega⟩, ?_⟩
    obtain ⟨j, j1, j2, eu⟩ := mem_edges.mp (q.mem_iff.mp mu)
    have njk : j ≠ k := by
      intro ejk
      subst ejk
      have eut : u = t := eu.trans et.symm
      subst eut
      obtain ⟨m, hm⟩ := List.getElem?_of_mem hu
      have hmi : m < i := by
        have := (List.getElem?_eq_some_iff.mp hm).1
        rw [List.length_take] at this
        omega
      rw [List.getElem?_take_of_lt hmi] at hm
      obtain ⟨a1, a2⟩ := List.getElem?_eq_some_iff.mp hm
      obtain ⟨b1, b2⟩ := List.getElem?_eq_some_iff.mp ht
      have := (List.getElem_inj nd).mp (a2.trans b2.symm)
      omega
    have side : (∃ j', j' < n ∧ o j' = o j ∧ Up p k j') ↔ (∃ j', j' < n ∧ o j' = o (p j) ∧ Up p k j') := by
      constructor
      · rintro ⟨j', a, b, c⟩
        have := T.inj _ _ a j2 b
        subst this
        exact ⟨p j', T.pn j2, rfl, (up_edge njk).mp c⟩
      · rintro ⟨j', a, b, c⟩
        have := T.inj _ _ a (T.pn j2) b
        subst this
        exact ⟨j, j2, rfl, (up_edge njk).mpr c⟩
    rcases mkt_or (o j) (o (p j)) with f | f <;> rw [eu, f]
    · exact side
    · exact side.symm)
  have bt := bd mt
  have z := key.2 t.1 t.2 (by omega) (by omega) (by omega) (by omega) e
  have yes : ∃ j, j < n ∧ o j = o k ∧ Up p k j := ⟨k, h2, rfl, 0, rfl⟩
  have no : ¬ ∃ j, j < n ∧ o j = o (p k) ∧ Up p k j := by
    rintro ⟨j, a, b, c⟩
    have := T.inj _ _ a pn b
    subst this
    exact T.not_up h1 h2 c
  rcases mkt_or (o k) (o (p k)) with f | f <;> rw [et, f] at z
  · exact no (z.mp yes)
  · exact no (z.mpr yes)
end Odd

set_option Elab.async false
set_option linter.all false
set_option maxRecDepth 100000
set_option maxHeartbeats 4000000
/-! defs that are called where no repr is under way: their promise, their calls, the law's end; repr of data -/
namespace Od
open PySem PySem.Spec PyProof.Rows L2
/-- a def's promise, kept where nothing guards (no repr is under way) -/
structure FnG (P : Program) (w : World) (K : PySem.W.Frag) (mg : Str → Option Value) (base : Heap) (k : Nat) (f : Addr) (fd : FuncData) (ps : List Str) (sp : Sp) : Prop where
  len : ∀ vs H Q E, sp vs H Q E → vs.length = ps.length
  run : ∀ (B : Around) (out : List Env) (s : Shared) (H : Hp) (args : Args) (us : List Value) (vs : List V) (Q : VK) (E : XK), Room k B → B.guards = some [] → Env0 P w K mg base B out s H →
    BindsTo s fd args (ps.zip us) → Vals vs us → sp vs H Q E → codeAny (model P w) B (.call (.ref f) args) (CR CX0 out P w H s Q E) s
theorem fn_ofG {P : Program} {w : World} {K : PySem.W.Frag} {mg : Str → Option Value} {base : Heap} {k : Nat} {f : Addr} {x qual : Str} {st : Stmt} {fd : FuncData} {N ps : List Str} {sp : Sp}
    (F : Fun K x qual st f fd) (S : FnScope N ps (defScope st)) (len : ∀ vs H Q E, sp vs H Q E → vs.length = ps.length)
    (body : ∀ (cdv : Value) (B : Around) (out : List Env) (s : Shared) (H : Hp) (vs : List V) (Q : VK) (E : XK), Room k (B.deeper (envOfC qual (defScope st) s.heap.objs.size f cdv)) → B.guards = some [] → sp vs H Q E →
      ∃ t, PSs (cxOf CX0 P w K mg base N qual (defScope st) f cdv B out s H E).nox (defBody st) t ∧ t { nx := fun _ H' => Q .non H', rt := Q } (start N vs) H) : FnG P w K mg base (k + 1) f fd ps sp := by
  obtain ⟨oc, od, kV, doc, pm, an, cdv, ct, osl, rfl, lk, hcd⟩ := F.ex
  constructor
  · exact len
  intro B out s H args us vs Q E hr hgd e0 hb r hsp
  have lv := len _ _ _ _ hsp
  have kin : K.In s.heap := e0.mod.kin.keeps fun b o e => (e0.bs b o e).1
  have noL : s.heap.NoLimit := e0.mod.nolimit.keeps fun b o e => (e0.bs b o e).1
  have kinds : ∀ y ∈ ps.zip us, (defScope st).names.lookup y.1 = some .local ∨ ((defScope st).names.lookup y.1 = some .cell ∧ ((cellsFrom (s.heap.objs.size + 1) (defScope st).names []).lookup y.1).isSome = true) := by
    rintro ⟨m, v⟩ hy
    cases S.par m (List.of_mem_zip hy).1 with
    | inl q => exact Or.inl q
    | inr q => exact Or.inr ⟨q, PySem.W.cellsFrom_some _ _ _ (Or.inl q)⟩
  refine codeAny_call_function hr.depth (kin _ _ lk) rfl S.co S.gen rfl (PySem.W.codeRec_of kin hcd) (hb _ _ _ _ ?_)
  refine wpAny_newFunctionEnv_cells S.kind kinds fun env he s1 ic => ?_
  subst he
  refine ⟨noL.keeps ic.toInCall.keep, codeAny_func ?_⟩
  obtain ⟨t, ht, hq⟩ := body cdv B out s H vs Q E (hr.deeper _) hgd hsp
  have J := inv_start (CX := CX0) (E := E) S hr.hd e0 lv r ic
  have done : ∀ {σ' : L2.St} {H' : Hp} {v : V} {u : Value} {s' : Shared}, Inv (cxOf CX0 P w K mg base N qual (defScope st) f cdv B out s H E) [] σ' H' s' → RelV v u → Q v H' → CE out P w H s Q u s' := by
    intro σ' H' v u s' J' rv q
    exact ⟨v, H', J'.os, J'.bare, J'.base, J'.hok, rv, q⟩
  refine wpAny_mono (ht.nox.run [] s1 (start N vs) H _ J hq) (fun fl s' hs => ?_) fun e s' hs => hs
  match fl, hs with
  | .ret u, ⟨v, σ', H', J', rv, q⟩ => exact done J' rv q
  | .next, ⟨σ', H', J', q⟩ => exact done (v := V.non) (u := Value.none) J' rfl q
  | .brk, ⟨_, _, _, q⟩ => exact q.elim
  | .cont, ⟨_, _, _, q⟩ => exact q.elim
section
variable {X : Cx} {k : Nat} {f : Addr} {fd : FuncData} {ps : List Str} {sp : Sp} {x : Str} {p pos : Pos} {e : Expr} {es : List Expr} {t : TA}
theorem pe_callG (F : FnG X.prog X.w X.K X.mg X.base k f fd ps sp) (hr : Room k X.A) (hgd : X.A.guards = some []) (hg : Gl X x) (hm : X.mg x = some (.ref f)) (hk : PySem.W.keepIn X.K (.ref f) = true) (hb : Binds X.K fd ps [])
    (ha : PA X (e :: es) t) (hdb : (x == ("__debug__" : Str)) = false := by decide) (he : starEach (e :: es) X.env = (false, eval e X.env) :: starEach es X.env := by rfl) (hpl : (backTo pos (starEach es X.env)).any (·.1) = false := by rfl) :
    PE X (.Call (.Name x p) (e :: es) [] pos) (tCall sp [] E0 t) := by
  constructor
  intro pins s σ H Q I h
  refine wpAny_Call_Name_kw (ld_glob I hg hm ?_ hdb)
  refine PySem.W.callWith_K (h₀ := X.base) I.ok.mod.kin hk (thn (ha.run pos pins s σ H _ I h) ?_) he hpl
  rintro us s1 ⟨vs, H1, I1, r, q⟩
  refine ⟨I1.kIn, ?_⟩
  have q' : sp vs H1 Q E0 := by simpa using q
  have lv : us.length = ps.length := by rw [← r.length]; exact F.len _ _ _ _ q'
  have bd : BindsTo s1 fd ⟨us, []⟩ (ps.zip us) := by
    have z := hb s1 us I1.kIn (by simpa using lv)
    simpa using z
  refine wpAny_call (codeAny_mono (F.run X.A X.stack s1 H1 ⟨us, []⟩ us vs Q E0 hr hgd I1.env0 bd r q') fun r s' hq => ?_)
  match r, hq with
  | .error e, hq => exact False.elim hq
  | .ok (.ret u), hq => exact I1.after hq
  | .ok .next, hq => exact False.elim hq
  | .ok .brk, hq => exact False.elim hq
  | .ok .cont, hq => exact False.elim hq
/-- repr(x) of data, where none is under way -/
def rReprD (K : PySem.W.Frag) : List V → Hp → VK → Prop := fun xs H Q => ∃ a d, xs = [.ref a] ∧ Dp K H (.ref a) d ∧ d.showable = true ∧ d.hasDict = false ∧ d.depth ≤ 8 ∧ d.shown.length ≤ sizeLine ∧ Q (.str d.shown) H
theorem call_reprD (hgd : X.A.guards = some []) (hu : X.A.units + 64 < cLine) : CallR X (.builtin "repr") (rReprD X.K) := by
  rintro pins s σ H xs us Q I r ⟨a, d, rfl, hd, hs, hh, hp, hz, q⟩
  obtain ⟨u, rfl, ru⟩ := vals1 r
  cases ru
  obtain ⟨as, rd⟩ := Dp.reads I d _ _ hd rfl
  refine repr_of_reads' rd hs (fun e => by rw [hh] at e; cases e) hgd (by omega) (fun _ _ e => e) (fun h' u tk hk => ?_) hz
  exact ⟨.str d.shown, H, I.kept (h' := h') (t' := tk) hk, ⟨u, rfl⟩, q⟩
end
/-! ### the law's call, where nothing guards -/
theorem law_callG {P : Program} {w : World} {K : PySem.W.Frag} {mg mb : Str → Option Value} {k : Nat} {fa a : Addr} {fd : FuncData} {x : Str} {sp : Sp} {s₁ : Shared} {vs : List Value} {ns : List Int}
    (KX : K.In s₁.heap) (hns : s₁.heap.Ns mainGlobals mg) (hb : s₁.heap.Ns builtinsNs mb) (hbb : ∀ x : Str, x ≠ "__name__" → mb x = bootBuiltins x) (hlim : s₁.heap.NoLimit) (hg : s₁.gens = #[])
    (ha : s₁.heap.get? a = some { cls := .type "list", data := .seq vs.toArray }) (hi : IntsAre vs ns) (hl : ns.length ≤ sizeLine) (hr : Room k callerA)
    (F : ∀ base : Heap, K.In base → base.Ns mainGlobals mg → FnG P w K mg base k fa fd [x] sp) (bind : ∀ (s : Shared) (u : Value), BindsTo s fd ⟨[u], []⟩ [(x, u)])
    (hsp : ∀ H : Hp, Only H → SqL K H a (ns.map V.int) → sp [.ref a] H (fun v _ => v = .bl true) E0) :
    codeAny (model P w) callerA (.call (.ref fa) ⟨[.ref a], []⟩) (fun r s' => r = .ok (.ret (.bool true)) ∧ OldK s₁.heap s'.heap ∧ s'.os = s₁.os ∧ AllBare s'.gens) s₁ := by
  have rv := vals_ints hi
  have ln := hi.length
  have main : ∀ H : Hp, Only H → SqL K H a (ns.map V.int) → HOk P w H s₁.heap → (∀ b, H b ≠ none → b = a) → (H a ≠ none → K.lookup a = none) →
      codeAny (model P w) callerA (.call (.ref fa) ⟨[.ref a], []⟩) (fun r s' => r = .ok (.ret (.bool true)) ∧ OldK s₁.heap s'.heap ∧ s'.os = s₁.os ∧ AllBare s'.gens) s₁ := by
    intro H onl sq hok only lone
    have low : ∀ {b : Addr} {ob : Obj}, s₁.heap.get? b = some ob → H b = none → (hidT s₁.heap H).get? b = some ob := hidT_get
    have nodict : ∀ {b : Addr} {ob : Obj} {es : Array DictEntry} {ep : Nat}, s₁.heap.get? b = some ob → ob.data = .dict es ep → H b = none := by
      intro b ob es ep e d
      cases hq : H b with
      | none => rfl
      | some u =>
        have eb := only b (by rw [hq]; simp)
        subst eb
        rw [ha] at e
        cases e
        cases (show Data.seq vs.toArray _ = Data.dict es ep from d)
    have nsD : ∀ {b : Addr} {m : Str → Option Value}, s₁.heap.Ns b m → (hidT s₁.heap H).Ns b m := by
      rintro b m ⟨ob, es, ep, e, d, rr⟩
      exact ⟨ob, es, ep, low e (nodict e d), d, rr⟩
    have kb : K.In (hidT s₁.heap H) := by
      intro b ob e
      refine low (KX b ob e) ?_
      cases hq : H b with
      | none => rfl
      | some u =>
        have eb := only b (by rw [hq]; simp)
        subst eb
        rw [lone (by rw [hq]; simp)] at e
        cases e
    have md : Mod K mg (hidT s₁.heap H) := by
      obtain ⟨mc, q1, q2⟩ := hlim
      exact ⟨kb, nsD hns, ⟨mb, nsD hb, hbb⟩, ⟨mc, nsD q1, q2⟩⟩
    have ev : Env0 P w K mg (hidT s₁.heap H) callerA [] s₁ H :=
      ⟨rfl, md, fun b ob e => of_hidT e, Nat.le_of_eq (hidT_size _ _), trivial, fun b hb => absurd (show b ∈ ([] : List Addr) from hb) (by simp), hok, .of_eq hg⟩
    have go := (F _ kb (nsD hns)).run callerA [] s₁ H ⟨[.ref a], []⟩ [.ref a] [.ref a] _ _ hr rfl ev (bind s₁ (.ref a)) (.cons rfl .nil) (hsp H onl sq)
    refine codeAny_mono go fun r s' h => ?_
    match r, h with
    | .error e, h => exact False.elim h
    | .ok .next, h => exact False.elim h
    | .ok .brk, h => exact False.elim h
    | .ok .cont, h => exact False.elim h
    | .ok (.ret u), ⟨v, H', os, bare, un, hok', rr, q⟩ =>
      have ev : v = .bl true := q
      subst ev
      cases (show u = Value.bool true from rr)
      refine ⟨rfl, OldK.of_keep fun b ob e => ?_, os, bare⟩
      cases hq : H b with
      | none => exact un.keep b ob e hq (by intro z; exact absurd (show b ∈ ([] : List Addr) from z) (by simp)) (by simp)
      | some u =>
        rcases onl b with z | ⟨o2, xs, z⟩
        · rw [hq] at z
          cases z
        · obtain ⟨g1, _⟩ := hok b _ z
          obtain ⟨g2, _⟩ := hok' b _ (un.frzs b o2 _ z)
          rw [e] at g1
          cases g1
          exact g2
  cases hk : K.lookup a with
  | some ob =>
    have e := KX a ob hk
    rw [ha] at e
    cases e
    exact main (fun _ => none) (fun _ => Or.inl rfl) (Or.inr ⟨_, vs.toArray, _, hk, rfl, rfl, rfl, by rw [List.size_toArray, ln]; exact hl, by simpa using rv⟩)
      (fun b u z => absurd (show (none : Option HO) = some u from z) (by simp)) (fun b z => absurd rfl z) (fun z => absurd rfl z)
  | none =>
    have at_a : ∀ {b : Addr}, b = a → (if b = a then some (HO.frz { cls := .type "list", data := .seq vs.toArray } (.lst (ns.map V.int))) else none) = some (HO.frz { cls := .type "list", data := .seq vs.toArray } (.lst (ns.map V.int))) := fun e => if_pos e
    refine main (fun b => if b = a then some (.frz { cls := .type "list", data := .seq vs.toArray } (.lst (ns.map V.int))) else none) (fun b => ?_) (Or.inl (Or.inr ⟨_, if_pos rfl⟩)) (fun b u z => ?_) (fun b z => ?_) (fun _ => hk)
    · by_cases e : b = a
      · exact Or.inr ⟨_, _, if_pos e⟩
      · exact Or.inl (if_neg e)
    · by_cases e : b = a
      · have z' := (at_a e).symm.trans z
        cases z'
        subst e
        exact ⟨ha, by rw [List.length_map]; exact hl, vs, _, rv, ha⟩
      · have z' := (if_neg e).symm.trans z
        cases z'
    · by_cases e : b = a
      · exact e
      · exact absurd (if_neg e) z
theorem walk_ofG {l : PySem.W.OpenLaw} {n k : Nat} {q : Program} {loose : List Str} {XP : (Str → Option Value) → Heap → Prop} {YP : World → Heap → Prop} {d : DefRec} {x : Str}
    (hn : l.most = some n) (hn2 : n ≤ sizeLine) (hdf : d.params.defaults = []) (hr : Room k callerA)
    (F : ∀ (w : World) (mg : Str → Option Value) (fa : Addr) (h : Heap), YP w h → h.Ns mainGlobals mg → mg d.name = some (.ref fa) →
      ∃ (K : PySem.W.Frag) (fd : FuncData) (sp : Sp), K.In h ∧ (∀ (s : Shared) (u : Value), BindsTo s fd ⟨[u], []⟩ [(x, u)]) ∧
        (∀ (H : Hp) (a : Addr) (ns : List Int), ns.length ≤ n → Only H → SqL K H a (ns.map V.int) → sp [.ref a] H (fun v _ => v = .bl true) E0) ∧ ∀ base : Heap, K.In base → base.Ns mainGlobals mg → FnG l.prog w K mg base k fa fd [x] sp) :
    PySem.W.WalkO q loose XP YP l.row.toRowW d [] (fun f vs => PySem.call f vs) := by
  refine Att.attach_call hn hdf ?_
  intro w s₀ s₁ mg mb fa o pm cd doc a vs ns G Y _ _ _ hmg hobj hints hlen hg
  obtain ⟨K, fd, sp, kx, hb, hsp, hF⟩ := F w mg fa _ Y G.T.g hmg
  exact law_callG kx G.T.g G.T.b G.T.builtins G.T.nolimit hg hobj hints (Nat.le_trans hlen hn2) hr hF hb fun H onl sq => hsp H a ns hlen onl sq
end Od

set_option Elab.async false
set_option linter.all false
set_option maxRecDepth 100000
set_option maxHeartbeats 4000000
/-! rules that the hand layer lacks -/
namespace Od
open PySem PySem.Spec PyProof.Rows L2
/-! ### a, *b = list -/
section
variable {prog : Program} {w : World} {A : Around} {E : Value → Shared → Prop} {s : Shared}
theorem unpack_star1 {l : Addr} {y : Value} {ys : List Value} {Q : List Value → Shared → Prop} (hl : s.heap.IsList l (y :: ys).toArray) (hh : A.handled = none) (hz : ys.length ≤ 16000)
    (h : ∀ (h' : Heap) (tk : Nat), (∀ b o, s.heap.get? b = some o → h'.get? b = some o) → Q [y, .ref h'.objs.size] { s with heap := h'.push { cls := .type "list", data := .seq ys.toArray }, toks := tk }) :
    wpAny (model prog w) A (unpackItems (.ref l) 2 (some 1)) Q E s := by
  have hll : l < s.heap.objs.size := by obtain ⟨o, ho, _⟩ := hl; exact Heap.lt_size ho
  have hlt : l ≠ s.heap.objs.size := Nat.ne_of_lt hll
  have e1 : (y :: ys).toArray.toList.take 1 = [y] := by simp
  have e2 : (y :: ys).toArray.toList.drop 1 = ys := by simp
  have e3 : (y :: ys).toArray.size = ys.length + 1 := by simp
  unfold unpackItems; refine wpAny_bind ?_
  unfold notIterableAtAll; refine wpAny_bind (wpAny_specialOf hl.typeIs slot_list_iter.lookup (wpAny_pure ?_))
  simp only [Bool.false_eq_true, if_false]; refine wpAny_bind (wpAny_holding (wpAny_pyIter_list hl ?_))
  refine wpAny_bind (wpAny_holding (PySem.W.kun_draw hlt 1 0 _ _ ⟨_, Heap.get?_push_size _ rfl, rfl, rfl⟩ (hl.push _) (by rw [e3]; omega) fun h₁ it1 hs1 => ?_))
  have hl1 : h₁.IsList l (y :: ys).toArray := (hl.push _).extBut hs1.extBut hlt
  rw [Nat.zero_add] at it1
  obtain ⟨oi, hoi, _⟩ := id it1; obtain ⟨ol, hol, _⟩ := id hl1
  rw [List.drop_zero, e1, if_neg (show ¬ ([y].length < 1) by simp)]
  refine wpAny_bind (wpAny_holding (PySem.W.kun_collect (s := { s with heap := h₁ }) (T := "list_iterator") (.inr (.inr (.inl rfl))) (Walks.list (A := A.in1) hh s.heap.objs.size l hlt (y :: ys).toArray) (fun j u st => st.1.typeIs) (k := 1) (by rw [e3]; omega) ⟨it1, hl1⟩
    (Heap.lt_size hoi) (Heap.lt_size hol) (fun h₂ tk hk => ?_) (by rw [e3, sizeLine_eq]; omega)))
  rw [e2]
  show wpAny _ _ (if ys.length < 2 - 1 - 1 then _ else _) _ _ _
  rw [if_neg (by omega)]
  show wpAny _ _ (newList (ys.take (ys.length - (2 - 1 - 1))) >>= fun d => pure ([y] ++ [d] ++ ys.drop (ys.length - (2 - 1 - 1)))) _ _ _
  rw [show ys.take (ys.length - (2 - 1 - 1)) = ys by simp, show ys.drop (ys.length - (2 - 1 - 1)) = [] by simp]
  have keep : ∀ b o, s.heap.get? b = some o → h₂.get? b = some o := fun b o e => by
    have nb : b ≠ s.heap.objs.size := Nat.ne_of_lt (Heap.lt_size e)
    exact hk b o nb (hs1.extBut b o nb (Heap.get?_push_of_some _ e))
  exact wpAny_bind (wpAny_newList (wpAny_pure (h h₂ tk keep)) (by rw [sizeLine_eq]; omega))
end
/-- y, *ys = the list -/
def gStar (K : PySem.W.Frag) (i j : Nat) : TG := fun v σ H Q => ∃ l y ys, v = .ref l ∧ SqL K H l (y :: ys) ∧ ys.length ≤ 16000 ∧ ∀ p, H p = none → Q ((σ.set i (some y)).set j (some (.ref p))) (upd H p (.lst ys))
section
variable {X : Cx} {pos p1 p2 p3 : Pos} {a b : Str} {i j k : Nat}
theorem pg_star (hc : X.calm = true) (hN : X.N.Nodup) (hi : X.N[i]? = some a) (hj : X.N[j]? = some b) (ha : X.env.scope.names.lookup a = some .local) (hb : X.env.scope.names.lookup b = some .local) :
    PG X (.Tuple [.Name a p1, .Starred (.Name b p2) p3] k pos) (gStar X.K i j) := by
  constructor
  rintro pins s σ H v u Q I r ⟨l, y, ys, rfl, hq, hz, q⟩
  cases r
  obtain ⟨its, rv, pl, _⟩ := I.list hq
  cases rv with
  | @cons _ y' _ ys' ry rys =>
    have hl' : ys'.length ≤ 16000 := by rw [← rys.length]; exact hz
    rw [PyProof.Rows.assign_Tuple]
    refine wpAny_bind (wpAny_standAt ?_)
    unfold unpack
    refine wpAny_bind (wpAny_holding ?_)
    show wpAny _ _ (unpackItems (.ref l) 2 (some 1)) _ _ _
    refine unpack_star1 pl.isList (I.ok.hd hc) hl' fun h' tk hk => ?_
    have I1 : Inv X pins σ H { s with heap := h', toks := tk } := I.kept (t' := tk) hk
    have I2 : Inv X pins σ (upd H h'.objs.size (.lst ys)) { s with heap := h'.push { cls := .type "list", data := .seq ys'.toArray }, toks := tk } :=
      I1.laid (t' := tk) (o := .lst ys) (fun b ob e => Heap.get?_push_of_some _ e) (Nat.le_refl _) ⟨by rw [sizeLine_eq]; omega, ys', 0, rys, Heap.get?_push_size _ rfl⟩
    have fr : H h'.objs.size = none := I1.hok.fresh (Nat.le_refl _)
    show wpAny _ _ (assignInOrder [fun z => assign (.Name a p1) X.env z, fun z => assign (.Name b p2) X.env z] [y', .ref h'.objs.size]) _ _ _
    refine assignInOrder_cons (wpAny_assign_Name (store_ok I2 hN hi (.inl ha) ry (fun s3 I3 => ?_) (.inr ha)))
    refine assignInOrder_cons (wpAny_assign_Name (store_ok (v := .ref h'.objs.size) I3 hN hj (.inl hb) rfl (fun s4 I4 => ?_) (.inr hb)))
    exact assignInOrder_nil ⟨_, _, I4, q _ fr⟩
end

/-! ### xs[i] for xs[i] += e -/
section
variable {X : Cx}
def rGetL (K : PySem.W.Frag) : V → V → Hp → VK → Prop := fun o i H Q => ∃ p xs j v, o = .ref p ∧ i = .int (j : Nat) ∧ SqL K H p xs ∧ xs[j]? = some v ∧ Q v H
theorem get_list : PGet X (rGetL X.K) := by
  rintro pins s σ H o i ov iv Q I ro ri ⟨p, xs, j, v, rfl, rfl, hq, hj, q⟩
  cases ro
  obtain ⟨t, rfl⟩ := ri
  obtain ⟨its, r, pl, hz⟩ := I.list hq
  obtain ⟨u, hu, ru⟩ := r.get hj
  have hl := r.length
  have hjl := (List.getElem?_eq_some_iff.mp hj).1
  have h63 := line63
  exact wpAny_getItem_list pl.isList (by omega) (by omega) (by simpa using hu) ⟨v, H, I, ru, q⟩
/-! ### text * int -/
def rMulS : R2 := fun x y H Q => ∃ (z : Str) (n : Nat), x = .str z ∧ y = .int (n : Int) ∧ n ≤ 1 ∧ z.length ≤ sizeLine ∧ Q (.str (if n = 0 then Str.empty else z)) H
theorem op_mul_str : OpR X (binaryOp .Mult) rMulS := by
  rintro pins s σ H x y v u Q I rx ry ⟨z, n, rfl, rfl, hn, hz, q⟩
  obtain ⟨t, rfl⟩ := rx
  obtain ⟨t', rfl⟩ := ry
  rcases (by omega : n = 0 ∨ n = 1) with e | e
  · subst e
    exact PySem.P.mul_str_none (by decide) (by decide) ⟨.str Str.empty, H, I.tok _, ⟨_, rfl⟩, q⟩
  · subst e
    refine PySem.P.mul_str (by decide) (fun _ h => absurd h (by simp)) (fun _ h => absurd h (by simp)) ?_
    rw [if_neg (by decide), if_pos (by simp)]
    exact ⟨.str z, H, I, ⟨_, rfl⟩, q⟩
/-! ### xs[::e], e one or minus one -/
def StepO (K : PySem.W.Frag) (x : V) (Q : VK) : Option Int → Hp → Prop
  | some i, H => ∃ a xs, x = .ref a ∧ SqL K H a xs ∧ ((i = 1 ∧ ∀ p, H p = none → Q (.ref p) (upd H p (.lst xs))) ∨ (i = -1 ∧ ∀ p, H p = none → Q (.ref p) (upd H p (.lst xs.reverse))))
  | none, _ => False
def tStepL (K : PySem.W.Frag) (te ts : TE) : TE := fun σ H Q => te σ H fun x H1 => ts σ H1 fun y H2 => ∃ i, y = .int i ∧ StepO K x Q (some i) H2
theorem pick_one (items : Array Value) : slicePick items none none (some 1) = items := by
  unfold slicePick
  have e : sliceBounds none none (some 1) items.size = (0, (items.size : Int), 1) := by simp [sliceBounds]
  rw [e]
  have r : sliceRange 0 (items.size : Int) 1 = List.range items.size := by
    unfold sliceRange
    by_cases h : (0 : Int) < (items.size : Int)
    · have z : (((items.size : Int) - 0 + 1 - 1) / 1).toNat = items.size := by rw [Int.ediv_one]; omega
      simp only [show (1 : Int) > 0 from by decide, if_true, h, z]
      apply List.ext_getElem
      · simp
      · intro i h1 h2
        simp
    · have z : items.size = 0 := by omega
      simp [z]
  show ((sliceRange 0 (items.size : Int) 1).filterMap (items[·]?)).toArray = items
  rw [r, PySem.W.krv_all]
theorem pe_stepL {e d : Expr} {te ts : TE} {p3 pos : Pos} (he : PE X e te) (hd : PE X d ts) : PE X (.Subscript e (.Slice none none (some d) p3) pos) (tStepL X.K te ts) := by
  constructor
  intro pins s σ H Q I h
  refine Subscript_ (thn (he.run pins s σ H _ I h) ?_)
  rintro v s1 ⟨x, H1, I1, r1, q1⟩
  refine wpAny_Slice (thn (po_none.run pins s1 σ H1 (fun o H2 => o = none ∧ H2 = H1) I1 ⟨rfl, rfl⟩) ?_)
  rintro vl s2 ⟨l, H2, I2, pl, rfl, rfl⟩
  refine thn (po_none.run pins s2 σ H2 (fun o H3 => o = none ∧ H3 = H2) I2 ⟨rfl, rfl⟩) ?_
  rintro vu s3 ⟨u, H3, I3, pu, rfl, rfl⟩
  have part : PO X (some d) (tPart ts) := po_some hd
  refine thn (part.run pins s3 σ H3 (StepO X.K x Q) I3 q1) ?_
  rintro vs s4 ⟨o, H4, I4, ps, so⟩
  obtain ⟨i, rfl⟩ : ∃ i, o = some i := by
    cases o with
    | none => exact so.elim
    | some i => exact ⟨i, rfl⟩
  obtain ⟨a, xs, rfl, hx, cs⟩ := so
  cases r1
  have I5 : Inv X pins σ H4 { s4 with heap := s4.heap.push { cls := .type "slice", data := .fields #[vl, vu, vs] } } := I4.kept (t' := s4.toks) fun b ob q => Heap.get?_push_of_some _ q
  obtain ⟨its, r, ht, hz⟩ := I5.list hx
  have hlen := r.length
  show wpAny (model X.prog X.w) X.A (subscriptTail e (.Slice none none (some d) p3) (.ref a) (.ref s4.heap.objs.size)) (EP X pins σ Q) X.xe { s4 with heap := s4.heap.push { cls := .type "slice", data := .fields #[vl, vu, vs] } }
  refine tail_any (ops := [.ref a, .ref s4.heap.objs.size]) ht.isList.typeIs (PySem.slot_list_getitem.lookup) ?_ (by with_unfolding_all rfl)
  have ne0 : some i ≠ some 0 := by
    rcases cs with ⟨e1, _⟩ | ⟨e1, _⟩ <;> subst e1 <;> decide
  refine wpAny_getItem_list_slice ht.isList (Heap.IsSliceOf.new _ vl vu vs) pl pu ps ne0 ?_ (by rw [List.size_toArray]; omega)
  have fr := I5.hok.fresh (Nat.le_refl _)
  rcases cs with ⟨e1, q⟩ | ⟨e1, q⟩
  · subst e1
    rw [pick_one]
    refine ⟨.ref _, _, I5.laid (t' := s4.toks) (o := .lst xs) (fun b ob q => Heap.get?_push_of_some _ q) (Nat.le_refl _) ⟨hz, its, 0, r, Heap.get?_push_size _ rfl⟩, rfl, q _ fr⟩
  · subst e1
    rw [PySem.W.krv_pick]
    refine ⟨.ref _, _, I5.laid (t' := s4.toks) (o := .lst xs.reverse) (fun b ob q => Heap.get?_push_of_some _ q) (Nat.le_refl _) ⟨by rw [List.length_reverse]; exact hz, its.reverse, 0, r.reverse, Heap.get?_push_size _ rfl⟩, rfl, q _ fr⟩
end
end Od

set_option Elab.async false
set_option linter.all false
set_option maxRecDepth 100000
set_option maxHeartbeats 4000000
/-! more rules: set(list), len(set(..)), sorted(tuple), != by an own == -/
namespace Od
open PySem PySem.Spec PyProof.Rows L2
section
variable {P : Program} {w : World} {A : Around} {E : Value → Shared → Prop} {s : Shared}
set_option maxRecDepth 100000 in
set_option maxHeartbeats 3200000 in
theorem call_set_listI {l : Addr} {items : Array Value} (ns : List Int) {Q : Value → Shared → Prop} (hh : A.handled = none) (hl : s.heap.IsList l items) (hit : IntsAre items.toList ns) (hb : ns.length + 1 < scanBound)
    (h : ∀ (h' : Heap) (tk c : Nat), SetR w h' s.heap.objs.size (fun j => decide (j ∈ ns)) c → c ≤ ns.length → (∀ b o, s.heap.get? b = some o → h'.get? b = some o) → Q (.ref s.heap.objs.size) { s with toks := tk, heap := h' }) :
    wpAny (model P w) A (call (Value.type "set") [Value.ref l]) Q E s :=  by
  have qsz : items.size = ns.length := by
    have q := IntsAre.length hit
    rw [Array.length_toList] at q
    exact q
  obtain ⟨c, tl, qmro⟩ := F.called_set.mro
  have qmade := F.called_set.made
  have qsub := F.called_set.sub
  (refine wpAny_call (codeAny_of_tree ?_))
  (show wpAny _ _ (callAny (.type "set") _) _ _ _)
  (refine wpAny_pure ⟨Code.quiet_builtin _ (by decide +kernel), codeAny_builtin F.entry_type_call ?_⟩)
  (rw [Around.under_plain (weight_type_call_type "set" [.ref l] []) rfl])
  have q1 := F.called_set.notType
  have q2 := F.called_set.canCreate
  have qct := F.typeCall_set_1 (.ref l)
  (repeat (any_goals (first | assumption | wp_step)))

  refine codeAny_mono (L2.code_set_led1 (.ref l) (E := E) (Q₁ := fun ob s1 => ob = .ref s.heap.objs.size ∧ s1 = { s with heap := s.heap.push { cls := .type "set", dict := none, data := .set #[] 0 (.fresh 0 0 (!w.params.followText "set-order")) } }) ⟨rfl, rfl⟩) fun r s1 zr => ?_
  cases r with
  | error e => exact zr
  | ok fl =>
    cases fl with
    | ret ob =>
      obtain ⟨rfl, rfl⟩ := zr
      have qS : (s.heap.push { cls := .type "set", dict := none, data := .set #[] 0 (.fresh 0 0 (!w.params.followText "set-order")) }).get? s.heap.objs.size = some { cls := .type "set", dict := none, data := .set #[] 0 (.fresh 0 0 (!w.params.followText "set-order")) } := Heap.get?_push_size _ rfl
      have qT : Shared.TypeIs { s with heap := s.heap.push { cls := .type "set", dict := none, data := .set #[] 0 (.fresh 0 0 (!w.params.followText "set-order")) } } (.ref s.heap.objs.size) "set" := ⟨_, qS, rfl⟩
      have qli := F.called_set.init.lookup
      have qbi := F.called_set.init.bind (.ref s.heap.objs.size)
      (repeat (any_goals (first | assumption | wp_step)))

      refine codeAny_mono (codeAny_call_builtin (R := wants (fun r s2 => r = .none ∧ ∃ h' tk c, s2 = { s with toks := tk, heap := h' } ∧ SetR w h' s.heap.objs.size (fun j => decide (j ∈ ns)) c ∧ c ≤ ns.length ∧
          (∀ b o, s.heap.get? b = some o → h'.get? b = some o)) E) F.called_set.init.plain F.entry_set_init (check_set_init_1 qT ?_)) fun r2 s2 zr2 => ?_
      · obtain ⟨ol, qol, qcl, nl, qdl⟩ := hl
        obtain ⟨oc, odd, odt, osl⟩ := ol
        simp only at qcl qdl
        subst qcl; subst qdl
        have qol' : (s.heap.push { cls := .type "set", dict := none, data := .set #[] 0 (.fresh 0 0 (!w.params.followText "set-order")) }).get? l = some { cls := .type "list", dict := odd, data := .seq items nl, slots := osl } := Heap.get?_push_of_some _ qol
        have qsls := F.sub_list_set
        have qslf := F.sub_list_frozenset
        have qne : (Value.type "list" == Value.type "dict") = false := by decide
        have ql1 : (s.heap.push { cls := .type "set", dict := none, data := .set #[] 0 (.fresh 0 0 (!w.params.followText "set-order")) }).IsList l items := ⟨_, qol', rfl, nl, rfl⟩
        (unfold Builtin.«set.__init__» noKeywords Builtin.Frozenset.updateFrom)
        generalize qPI : pyIter = PI
        wp_walk
        subst qPI

        refine wpAny_pyIter_list ql1 ?_
        (refine wpAny_bind (wpAny_runValue ?_))
        have qlS : l < s.heap.objs.size := Heap.lt_size qol
        have qh3 : A.in1.in1.in1.handled = none := by simp [hh]
        have qz1 : (s.heap.push { cls := .type "set", dict := none, data := .set #[] 0 (.fresh 0 0 (!w.params.followText "set-order")) }).objs.size = s.heap.objs.size + 1 := Heap.size_push ..
        have qneI : l ≠ (s.heap.push { cls := .type "set", dict := none, data := .set #[] 0 (.fresh 0 0 (!w.params.followText "set-order")) }).objs.size := by
          rw [Heap.size_push]; exact Nat.ne_of_lt (Nat.lt_succ_of_lt qlS)
        have qSf : s.heap.objs.size ∉ [(s.heap.push { cls := .type "set", dict := none, data := .set #[] 0 (.fresh 0 0 (!w.params.followText "set-order")) }).objs.size, l] := by
          (rw [Heap.size_push]; simp only [List.mem_cons, List.mem_singleton, List.not_mem_nil, or_false, not_or])
          exact ⟨Nat.ne_of_lt (Nat.lt_succ_self _), Nat.ne_of_gt qlS⟩
        have qval : ∀ (i : Nat) (v : Value), items[i]? = some v → ∃ k t, ns[i]? = some k ∧ v = .int k t := fun i v hv => by
          have hi : i < ns.length := by rw [← qsz]; exact (Array.getElem?_eq_some_iff.mp hv).1
          (obtain ⟨t, e⟩ := PyProof.Rows.IntsAre.int_at hit i v (by rw [Array.getElem?_toList]; exact hv))
          (refine ⟨ns[i], t, List.getElem?_eq_getElem hi, ?_⟩)
          (rw [e, List.getD_eq_getElem?_getD, List.getElem?_eq_getElem hi] <;> rfl)
        refine set_update_ints ((Walks.list qh3 _ l qneI items).toS) s.heap.objs.size
          qSf ns qsz hb qval (items.size - 0) 0 _ (by omega) (Nat.zero_le _)
          ⟨⟨_, Heap.get?_push_size _ rfl, rfl, rfl⟩, (ql1.push _)⟩ ?hS0 ?hR
        case hS0 =>
          have qget : ((s.heap.push { cls := .type "set", dict := none, data := .set #[] 0 (.fresh 0 0 (!w.params.followText "set-order")) }).push { cls := .type "list_iterator", data := .fields #[.ref l, .int 0 0] }).get? s.heap.objs.size
              = some { cls := .type "set", dict := none, data := .set #[] 0 (.fresh 0 0 (!w.params.followText "set-order")) } := Heap.get?_push_of_some _ qS
          exact ⟨0, Nat.le_refl 0, setR_new_at qget⟩
        case hR =>
          intro s' c' qm qc' qS'
          (obtain ⟨h', g2, d', tk', os'⟩ := s')
          have eg : g2 = s.gens := qm.gens
          have ed : d' = s.drawn := qm.drawn
          have eo : os' = s.os := qm.os
          subst eg; subst ed; subst eo
          show wpAny _ _ _ _ _ _
          refine wpAny_pure ?_
          (show wpAny _ _ (ret Value.none) _ _ _)
          rw [qsz] at qc'
          refine wpAny_pure ⟨rfl, h', tk', c', rfl, qS', qc', fun b o e => ?_⟩
          have qb0 : b < s.heap.objs.size := Heap.lt_size e
          have qb1 : b ≠ s.heap.objs.size := Nat.ne_of_lt qb0
          have qb2 : b ≠ (s.heap.push { cls := .type "set", dict := none, data := .set #[] 0 (.fresh 0 0 (!w.params.followText "set-order")) }).objs.size := by
            rw [Heap.size_push]; exact Nat.ne_of_lt (Nat.lt_succ_of_lt qb0)
          exact qm.heap b o (by simp only [List.mem_cons, List.mem_singleton, List.not_mem_nil, or_false, not_or]; exact ⟨qb1, qb2⟩) (Heap.get?_push_of_some _ (Heap.get?_push_of_some _ e))

      · cases r2 with
        | error e => exact zr2
        | ok fl₂ =>
          cases fl₂ with
          | ret r =>
            obtain ⟨rfl, h', tk, c', rfl, qS', qc', qk'⟩ := zr2
            (repeat (any_goals (first | assumption | wp_step)))
            exact h _ _ _ qS' qc' qk'
          | _ => exact zr2.elim
    | _ => exact zr.elim

end
section
variable {X : Cx}
/-- set(xs), a list or a tuple of ints -/
def rSetOf (K : PySem.W.Frag) (w : World) : List V → Hp → VK → Prop := fun xs H Q => ∃ (l : Addr) (ns : List Int), xs = [.ref l] ∧ (SqL K H l (ns.map V.int) ∨ SqT K H l (ns.map V.int)) ∧ ns.length ≤ 1000 ∧
  ∀ p c, H p = none → c ≤ ns.length → (ns.Nodup → c = ns.length) → Q (.ref p) (upd H p (SetO w p (fun j => decide (j ∈ ns)) c))
theorem setR_count {w : World} {h : Heap} {a : Addr} {ns : List Int} {c : Nat} (R : SetR w h a (fun j => decide (j ∈ ns)) c) (nd : ns.Nodup) : c = ns.length := by
  obtain ⟨o, es, ep, t, ho, hx, hd, g, n2, hm, hb, hf, hn, _⟩ := R
  have p : (es.toList.map keyOf).Perm ns := (List.perm_ext_iff_of_nodup n2 nd).mpr fun k => by
    rw [← hm k]
    exact decide_eq_true_iff
  have l := p.length_eq
  rw [List.length_map, Array.length_toList] at l
  omega
theorem cr_setOf (hc : X.calm = true) : CallR X (.type "set") (rSetOf X.K X.w) := by
  rintro pins s σ H xs us Q I r ⟨l, ns, rfl, hq, hz, q⟩
  rw [Vals.ref1 r]
  have fr := I.hok.fresh (Nat.le_refl s.heap.objs.size)
  have fin : ∀ (h' : Heap) (tk c : Nat), SetR X.w h' s.heap.objs.size (fun j => decide (j ∈ ns)) c → c ≤ ns.length → (∀ b o, s.heap.get? b = some o → h'.get? b = some o) →
      EP X pins σ Q (.ref s.heap.objs.size) { s with heap := h', toks := tk } := fun h' tk c R hcn k =>
    ⟨.ref s.heap.objs.size, _, I.laid (h' := h') (t' := tk) k (Nat.le_refl _) (setO_new R), rfl, q _ c fr hcn fun nd => setR_count R nd⟩
  rcases hq with hq | hq
  · obtain ⟨its, rv, pl, _⟩ := I.list hq
    exact call_set_listI ns (I.ok.hd hc) pl.isList (by simpa using rv.ints) (by unfold scanBound; omega) fun h' tk c a b d => fin h' tk c a b d
  · obtain ⟨its, rv, pl, _⟩ := I.tuple hq
    exact call_set_tupI ns (I.ok.hd hc) pl (by simpa using rv.ints) (by unfold scanBound; omega) fun h' tk c a b d => fin h' tk c a b d
/-- len(s), a set of ints -/
def rLenSet (w : World) : List V → Hp → VK → Prop := fun xs H Q => ∃ (a : Addr) (S : Int → Bool) (n : Nat), xs = [.ref a] ∧ H a = some (SetO w a S n) ∧ Q (.int (n : Int)) H
theorem call_lenSet : CallR X (.builtin "len") (rLenSet X.w) := by
  rintro pins s σ H xs us Q I r ⟨a, S, n, rfl, ha, q⟩
  rw [Vals.ref1 r]
  obtain ⟨o, es, ep, t, ho, hx, hd, g, n2, hm, hb, hf, hn, _⟩ := setO_get I ha
  have h4 : es.size < 4096 := by unfold scanBound at hb; omega
  refine call_len_set ho hx hd hf (by omega) ⟨.int (n : Int), H, I.tok _, ⟨_, by rw [hn]⟩, q⟩
end
/-! ### sorted of a tuple of ints -/
section
variable {prog : Program} {w : World} {A : Around} {E : Value → Shared → Prop} {s : Shared}
theorem collect_tup {l : Addr} {vs : List Value} {Q : List Value → Shared → Prop} (hl : IsTup s.heap l vs.toArray)
    (h : Q vs { s with heap := (s.heap.push (seqObj "list" #[] 0)).update s.heap.objs.size (Obj.mapSeq (· ++ vs.toArray)) }) (hz : vs.length ≤ sizeLine) : wpAny (model prog w) A (collect (.ref l)) Q E s := by
  obtain ⟨o, ho, hc, n, hd⟩ := id hl
  unfold collect
  refine wpAny_bind (wpAny_runValue (codeAny_builtin entry_proto_collect' ?_))
  show wpAny _ _ (do again (.builtin "list.__iadd__" ⟨[← newList [], .ref l], []⟩)) _ _ s
  refine wpAny_bind (wpAny_newList (wpAny_pure ⟨Code.quiet_builtin _ (by decide +kernel), codeAny_builtin entry_list_iadd' ?_⟩))
  show wpAny _ _ (Builtin.List.listExtendWith (.ref s.heap.objs.size) (.ref l) (.ref s.heap.objs.size)) _ _ { s with heap := s.heap.push (seqObj "list" #[] 0) }
  unfold Builtin.List.listExtendWith
  have ho2 : (s.heap.push (seqObj "list" #[] 0)).get? l = some o := Heap.get?_push_of_some _ ho
  have hn : Heap.get? (s.heap.push (seqObj "list" #[] 0)) s.heap.objs.size = some (seqObj "list" #[] 0) := Heap.get?_push_size _ rfl
  refine wpAny_bind (wpAny_typeOf (T := "tuple") ⟨o, ho2, hc⟩ ?_)
  have ht : (Value.type "tuple" == Value.type "tuple") = true := by rfl
  rw [if_pos (by rw [ht]; simp)]
  refine wpAny_bind (listItems_at ho2 hd (wpAny_bind (listItems_at (xs := #[]) (n := 0) hn rfl ?_)))
  rw [if_neg (by simp)]
  refine wpAny_bind (listUpdate_at (xs := #[]) (n := 0) hn rfl ?_ (Nat.zero_le _) (by show (#[] ++ vs.toArray).size ≤ sizeLine + 1; simp only [Array.size_append, List.size_toArray, List.length_nil]; omega))
  refine wpAny_pure ?_
  show wpAny (model prog w) A (do
      let z ← load s.heap.objs.size
      match z.data with
      | .seq xs _ => pure xs.toList
      | _ => unsupported "internal:collect") Q E { s with heap := (s.heap.push (seqObj "list" #[] 0)).update s.heap.objs.size (Obj.mapSeq (· ++ vs.toArray)) }
  refine wpAny_bind (wpAny_load (get?_update_seq hn _) ?_)
  show wpAny _ _ (pure ((#[] : Array Value) ++ vs.toArray).toList) Q E _
  rw [show ((#[] : Array Value) ++ vs.toArray).toList = vs by simp]
  exact wpAny_pure h
theorem sorted_tupI {l : Addr} {vs : List Value} {ns : List Int} {Q : Value → Shared → Prop} (hl : IsTup s.heap l vs.toArray) (hI : IntsAre vs ns) (h64 : vs.length < 64)
    (h : ∀ (out : Array Value) (ms : List Int), IntsAre out.toList ms → ms.Perm ns → ms.Pairwise (· ≤ ·) → Q (.ref (s.heap.objs.size + 1)) { s with heap := sortedAll s.heap vs out }) :
    wpAny (model prog w) A (call (.builtin "sorted") [.ref l]) Q E s := by
  refine Calls.call_function_entry kind_sorted plain_sorted entry_sorted (args_sorted1 _) ?_
  unfold Builtin.«sorted»
  have h8 : vs.length ≤ sizeLine := by rw [sizeLine_eq]; omega
  refine wpAny_bind (m := checkCount "sorted" 1 1 _) (wpAny_pure (wpAny_bind (collect_tup hl (wpAny_bind (wpAny_newList ?_ h8)) h8)))
  have e1 : ((s.heap.push (seqObj "list" #[] 0)).update s.heap.objs.size (Obj.mapSeq (· ++ vs.toArray))).objs.size = s.heap.objs.size + 1 := by
    rw [Heap.size_update, size_push']
  have e2 : (((s.heap.push (seqObj "list" #[] 0)).update s.heap.objs.size (Obj.mapSeq (· ++ vs.toArray))).push (seqObj "list" vs.toArray 0)).get? (s.heap.objs.size + 1) = some (seqObj "list" vs.toArray 0) := by
    rw [← e1]; exact Heap.get?_push_size _ rfl
  show wpAny _ _ _ _ _ { s with heap := ((s.heap.push (seqObj "list" #[] 0)).update s.heap.objs.size (Obj.mapSeq (· ++ vs.toArray))).push (seqObj "list" vs.toArray 0) }
  rw [e1]
  refine wpAny_bind (wpAny_holding (wpAny_call_entry slot_list_sort ⟨_, e2, rfl⟩ entry_list_sort (list_sort_tree e2 hI h64 fun out ms a1 a2 a3 => ⟨_, rfl, ?_⟩) (args_list_sort _)))
  exact wpAny_pure ⟨_, rfl, h out ms a1 a2 a3⟩
end
section
variable {X : Cx}
/-- sorted(xs), a list or a tuple of ints -/
def rSortedA (K : PySem.W.Frag) : List V → Hp → VK → Prop := fun vs H Q => ∃ (a : Addr) (ns : List Int), vs = [V.ref a] ∧ (SqL K H a (ns.map V.int) ∨ SqT K H a (ns.map V.int)) ∧ ns.length < 64 ∧
  ∀ (ms : List Int) (p : Addr), ms.Perm ns → ms.Pairwise (· ≤ ·) → H p = none → Q (.ref p) (upd H p (.lst (ms.map V.int)))
theorem cr_sortedA : CallR X (.builtin "sorted") (rSortedA X.K) := by
  rintro pins s σ H vs us Q I r ⟨a, ns, rfl, hs, h64, q⟩
  rcases hs with hs | hs
  · exact cr_sorted pins s σ H [.ref a] us Q I r ⟨a, ns, rfl, hs, h64, q⟩
  · obtain ⟨its, rv, hl, _⟩ := I.tuple hs
    rw [Vals.ref1 r]
    have hi := rv.ints
    refine sorted_tupI hl hi (by rw [hi.length]; exact h64) fun out ms h1 h2 h3 => ?_
    obtain ⟨ep, hf⟩ := PyProof.Rows.sortedAll_at s.heap its out
    have hlen : (ms.map V.int).length ≤ sizeLine := by rw [List.length_map, h2.length_eq]; exact small64 h64
    exact ⟨.ref _, _, I.laid (t' := s.toks) (o := .lst (ms.map V.int)) (fun _ _ => PyProof.Rows.sortedAll_old) (Nat.le_succ _) ⟨hlen, out.toList, ep, vals_of_ints h1, hf⟩, rfl, q ms _ h2 h3 (I.hok.fresh (Nat.le_succ _))⟩
end
end Od

set_option Elab.async false
set_option linter.all false
set_option maxRecDepth 100000
set_option maxHeartbeats 4000000
/-! x != y of instances whose class has an own __eq__ and no own __ne__ -/
namespace Od
open PySem PySem.Spec PySem.Calls PyProof.Rows L2
section
variable {prog : Program} {w : World} {M : Model} {A : Around} {E : Value → Shared → Prop} {s : Shared} {K : PySem.W.Frag} {x C f L : Addr} {ox : Obj} {od : Option Obj} {b tb : Value} {h₀ : Heap} {m : Str → Option Value}
theorem ifBoundB {name : Str} {id : String} {args : List Value} {Q : Option Value → Shared → Prop} (X : K.In s.heap) (I : PySem.W.InstAt s.heap x ox C od) (hs : PySem.W.findIn K (.ref C) name = some (some (.builtin id)))
    (hb : ∀ self, bindSpecial (.builtin id) self = pure (.builtin id, [self])) (h : wpAny M A (call (.builtin id) (.ref x :: args)) (fun v => Q (some v)) E s) : wpAny M A (callSpecialIfBound? (.ref x) name args) Q E s := by
  simp only [callSpecialIfBound?, bindSpecialIfBound?]
  refine wpAny_holding (wpAny_bind (wpAny_bind (wpAny_bind (I.type.here ((PySem.W.looks_findIn X hs).here ?_)))))
  refine wpAny_bind (wpAny_askSetting (wpAny_ite ?_))
  have fin : wpAny M A (call (.builtin id) ([.ref x] ++ args) >>= fun v => pure (some v)) Q E s := wpAny_bind (wpAny_mono h (fun v s' z => wpAny_pure z) fun _ _ z => z)
  split
  · exact wpAny_bind ((PySem.W.Looks.of_pure (hb _)).here (wpAny_pure (by exact fin)))
  · exact wpAny_tryCatch (wpAny_bind ((PySem.W.Looks.of_pure (hb _)).here (wpAny_pure (by exact fin))))
/-- what the own == gives: a bool, turned -/
def NeBack (Q : Value → Shared → Prop) (v : Value) (s' : Shared) : Prop := ∃ r, v = .bool r ∧ Q (.bool (!r)) s'
open Builtin in
theorem ne_obj {Q : Value → Shared → Prop} (hu : A.in1.units < cLine) (X : K.In s.heap) (I : PySem.W.InstAt s.heap x ox C od) (hm : PySem.W.mroIn K C (.type "object") = some true) (he : PySem.W.findIn K (.ref C) "__eq__" = some (some (.ref f)))
    (hf : PySem.W.isFn K (.ref f) = true) (h : wpAny (model prog w) A.in1 (call (.ref f) [.ref x, b]) (NeBack Q) E s) : wpAny (model prog w) A (call (.builtin "object.__ne__") [.ref x, b]) Q E s := by
  refine wpAny_call (codeAny_call_builtin PySem.F.cmp_object.ne.plain PySem.F.cmpEntry_ne (PySem.W.check_slot (i := "object.__ne__") (owner := "object") (n := "__ne__") PySem.F.cmpKind_ne PySem.F.cmpSplit_ne (I.type.andThen (PySem.W.looks_mroIn X hm)) (PySem.F.cmpArgs_ne _ _) ?_))
  unfold Builtin.«object.__ne__»
  refine wpAny_bind (m := slotArgs "__ne__" 1 _) (wpAny_pure ?_)
  refine wpAny_bind (m := cRoomFor _ _) (wpAny_cRoomFor hu ?_)
  refine wpAny_bind (m := callSpecialIfBound? (.ref x) (Str.ofString "__eq__") _) (PySem.W.ifBound_K X I he hf (wpAny_mono h (fun v s' hq => ?_) fun _ _ y => y))
  obtain ⟨r, rfl, q⟩ := hq
  refine wpAny_bind (wpAny_truthy_bool ?_)
  exact wpAny_pure q
theorem ne_K {Q : Value → Shared → Prop} (hu : A.in1.units < cLine) (F : Fr h₀ L s.heap m) (X₀ : K.In h₀) (I : PySem.W.InstAt s.heap x ox C od) (hb : PySem.W.Looks (model prog w) s.heap (typeOf b) tb) (hn : PySem.W.notFirst K C tb = true)
    (hne : PySem.W.findIn K (.ref C) "__ne__" = some (some (.builtin "object.__ne__"))) (hm : PySem.W.mroIn K C (.type "object") = some true) (he : PySem.W.findIn K (.ref C) "__eq__" = some (some (.ref f))) (hf : PySem.W.isFn K (.ref f) = true)
    (h : wpAny (model prog w) A.in1 (call (.ref f) [.ref x, b]) (NeBack Q) E s) : wpAny (model prog w) A (richCompare .NotEq (.ref x) b) Q E s := by
  have X := X₀.keeps F.keep
  have hu0 : A.units < cLine := Nat.lt_of_succ_lt hu
  have one : wpAny (model prog w) A (tryCompare (.ref x) (cmpInfo .NotEq).2.1 b) (fun r s' => ∃ v, r = some v ∧ Q v s') E s := by
    unfold tryCompare
    refine wpAny_bind (ifBoundB X I hne PySem.F.cmp_object.ne.bind (ne_obj hu X I hm he hf (wpAny_mono h (fun v s' hv => ?_) fun _ _ e => e)))
    obtain ⟨r, rfl, q⟩ := hv
    exact ⟨r, rfl, wpAny_pure ⟨_, rfl, q⟩⟩
  unfold richCompare
  simp only [oneThing_ref]
  refine wpAny_holding (wpAny_bind (wpAny_cRoomFor hu0 (wpAny_bind (I.type.here (wpAny_bind (hb.here ?_))))))
  split
  · rename_i q
    have e : PySem.W.subIn K tb (.ref C) = some false := by
      rcases Bool.or_eq_true_iff.mp hn with e | e
      · rw [beq_iff_eq.mp e] at q; simp at q
      · exact beq_iff_eq.mp e
    refine wpAny_bind ((PySem.W.looks_subIn X e).here ?_)
    simp only [Bool.false_eq_true, if_false]
    refine wpAny_bind (wpAny_mono one ?_ fun _ _ e => e)
    rintro r s' ⟨v, rfl, hq⟩
    exact wpAny_pure hq
  · refine wpAny_bind (wpAny_pure ?_)
    simp only [Bool.false_eq_true, if_false]
    refine wpAny_bind (wpAny_mono one ?_ fun _ _ e => e)
    rintro r s' ⟨v, rfl, hq⟩
    exact wpAny_pure hq
end
section
variable {X : Cx} {k : Nat}
def rNeOwn (C : Addr) (sp : Sp) : R2 := fun x y H Q => ∃ a b dx dy fs gs, x = .ref a ∧ y = .ref b ∧ H a = some (.ins C dx fs) ∧ H b = some (.ins C dy gs) ∧ sp [.ref a, .ref b] H (fun v H' => ∃ r, v = .bl r ∧ Q (.bl (!r)) H') E0
theorem op_neOwn {C f : Addr} {fd : FuncData} {ps : List Str} {sp : Sp} (F : FnOk X.prog X.w X.K X.mg X.base CX0 k f fd ps sp) (hr : Room (k + 1) X.A) (hm : Meth X.K C "__eq__" f) (hb : Binds X.K fd ps [])
    (hne : PySem.W.findIn X.K (.ref C) "__ne__" = some (some (.builtin "object.__ne__"))) (ho : PySem.W.mroIn X.K C (.type "object") = some true) : OpR X (compareOp .NotEq) (rNeOwn C sp) := by
  rintro pins s σ H x y v u Q I rx ry ⟨a, b, dx, dy, fs, gs, rfl, rfl, ha, hb2, hq⟩
  cases rx
  cases ry
  obtain ⟨mA, J, _⟩ := ins_get I.hok ha
  obtain ⟨mB, J2, _⟩ := ins_get I.hok hb2
  obtain ⟨od, J, _⟩ := J.look
  obtain ⟨od2, J2, _⟩ := J2.look
  obtain ⟨m, hF⟩ := I.fr
  have ru := hr.un
  have lv := F.len _ _ _ _ hq
  show wpAny (model X.prog X.w) X.A (richCompare .NotEq (.ref a) (.ref b)) (EP X pins σ Q) X.xe s
  refine ne_K (tb := .ref C) (by show X.A.units + 1 < cLine; omega) hF I.ok.mod.kin J J2.type (by simp [PySem.W.notFirst]) hne ho hm.at_ hm.fn ?_
  have bd := hb s [.ref a, .ref b] I.kIn (by simpa using lv)
  refine wpAny_call (codeAny_mono (F.run X.A.in1 X.stack s H ⟨[.ref a, .ref b], []⟩ [.ref a, .ref b] [.ref a, .ref b] _ E0 hr.in1 I.env0.in1 (by simpa using bd) (.cons rfl (.cons rfl .nil)) hq) fun r s' z => ?_)
  match r, z with
  | .error e, z => exact False.elim z
  | .ok .next, z => exact False.elim z
  | .ok .brk, z => exact False.elim z
  | .ok .cont, z => exact False.elim z
  | .ok (.ret u), z =>
    obtain ⟨v, H', I', rv, r, rfl, q⟩ := I.after z
    cases rv
    exact ⟨r, rfl, .bl (!r), H', I', rfl, q⟩
end
end Od

set_option Elab.async false
set_option linter.all false
set_option maxRecDepth 100000
set_option maxHeartbeats 4000000
/-! the world of the walk: what the names stand for; comprehensions in short -/
namespace Od
open PySem PySem.Spec PyProof.Rows L2
open C8 (Cal Met InsC pe_c pe_mt pe_mt0 call_isC)
abbrev Ex : Hp → Hp → Prop := Evl.Ex
theorem Ex.rfl' (H : Hp) : Ex H H := Evl.Ex.refl H
theorem Ex.trans {H H1 H2 : Hp} (a : Ex H H1) (b : Ex H1 H2) : Ex H H2 := Evl.Ex.trans a b
theorem Ex.new {H : Hp} {p : Addr} {o : HO} (h : H p = none) : Ex H (upd H p o) := Evl.Ex.new h
theorem Ex.mut {H H' : Hp} {p : Addr} {o : HO} (e : Ex H H') (h : H p = none) : Ex H (upd H' p o) := Evl.Ex.mut e h
theorem Ex.free {H H' : Hp} {p : Addr} (e : Ex H H') (h : H' p = none) : H p = none := Evl.fresh_back e h
/-- all but the object at B stays -/
def ExB (B : Addr) (H H' : Hp) : Prop := ∀ a o, a ≠ B → H a = some o → H' a = some o
theorem Ex.b {H H' : Hp} (e : Ex H H') (B : Addr) : ExB B H H' := fun a o _ h => e a o h
theorem ExB.trans {B : Addr} {H H1 H2 : Hp} (a : ExB B H H1) (b : ExB B H1 H2) : ExB B H H2 := fun x o n h => b x o n (a x o n h)
theorem ExB.free {B : Addr} {H H' : Hp} {p : Addr} (e : ExB B H H') (n : p ≠ B) (h : H' p = none) : H p = none := by
  cases q : H p with
  | none => rfl
  | some o => rw [e p o n q] at h; cases h

/-! ### the names -/
structure Nm (mg : Str → Option Value) : Prop where
  isinstance : mg "isinstance" = none
  int : mg "int" = none
  bool : mg "bool" = none
  list : mg "list" = none
  tuple : mg "tuple" = none
  all : mg "all" = none
  len : mg "len" = none
  set : mg "set" = none
  sorted : mg "sorted" = none
  range : mg "range" = none
  enumerate : mg "enumerate" = none
  zip : mg "zip" = none
  str : mg "str" = none
  abs : mg "abs" = none
  max : mg "max" = none
  repr : mg "repr" = none
/-- what the walk leans on -/
structure Wd (K : PySem.W.Frag) (mg : Str → Option Value) : Prop where
  s : He.SaysD fa fn K
  nm : Nm mg
  g : ∀ x, He.Fa.glo x ∈ fa → mg x = some (.ref (He.ga K x))
  ms : ∃ t, mg "MOST_SIZE" = some (.int 60 t)
  md : ∃ t, mg "MOST_DIGITS" = some (.int 40 t)
  dg : ∃ t, mg "DIGITS" = some (.str "0123456789" t)
  ne : PySem.W.findIn K (.ref (He.ga K "Yard")) "__ne__" = some (some (.builtin "object.__ne__"))
  ob : PySem.W.mroIn K (He.ga K "Yard") (.type "object") = some true
  cl : Cls K (He.ga K "Yard")
  ins : InsC K (He.ga K "Yard")
abbrev CY (K : PySem.W.Frag) : Addr := He.ga K "Yard"
section
variable {P : Program} {w : World} {K : PySem.W.Frag} {mg : Str → Option Value} {base : Heap}
/-- a def of the top: its promise, by its body -/
theorem Wd.cal {x : Str} {st : Stmt} {N ps : List Str} {k : Nat} {sp : Sp} (W : Wd K mg) (i : Nat) (S : FnScope N ps (defScope st)) (len : ∀ vs H Q E, sp vs H Q E → vs.length = ps.length)
    (hbody : ∀ (f : Addr) (cdv : Value) (A : Around) (outer : List Env) (s : Shared) (H : Hp) (vs : List V) (Q : VK) (E : XK), Room k (A.deeper (envOfC x (defScope st) s.heap.objs.size f cdv)) → sp vs H Q E →
      ∃ t, PSs (cxOf CX0 P w K mg base N x (defScope st) f cdv A outer s H E).nox (defBody st) t ∧ t { nx := fun _ H' => Q .non H', rt := Q } (start N vs) H)
    (b : ∀ (kV doc pm : Value) (an : Option Addr) (cdv ct : Value) (us : List Value), us.length = ps.length → bindArgs (PySem.W.fnOf x x (defArgs st) (defBody st) (defScope st) .none kV doc pm an cdv ct) ⟨us, []⟩ = pure (ps.zip us))
    (hi : fn[i]? = some ⟨(x, none), x, x, defArgs st, defBody st, defScope st, [], []⟩ := by rfl) (hg : fa[i]? = some (.glo x) := by rfl) : Cal P w K mg base (k + 1) x sp [] := by
  obtain ⟨fd, F⟩ := W.s.def_ i hi
  refine ⟨He.fAd K (x, none), fd, ps, [], F.ok S len fun cdv A outer s H vs Q E hr h => ?_, W.g x (List.mem_of_getElem? hg), F.kp, F.bindsN b, .nil⟩
  obtain ⟨t, ht, q⟩ := hbody _ cdv A outer s H vs Q E hr h
  exact ⟨t, ht.nox, q⟩
/-- a method of the class -/
theorem Wd.met {m q : Str} {st : Stmt} {N ps : List Str} {k : Nat} {sp : Sp} (W : Wd K mg) (i j : Nat) (S : FnScope N ps (defScope st)) (len : ∀ vs H Q E, sp vs H Q E → vs.length = ps.length)
    (hbody : ∀ (f : Addr) (cdv : Value) (A : Around) (outer : List Env) (s : Shared) (H : Hp) (vs : List V) (Q : VK) (E : XK), Room k (A.deeper (envOfC q (defScope st) s.heap.objs.size f cdv)) → sp vs H Q E →
      ∃ t, PSs (cxOf CX0 P w K mg base N q (defScope st) f cdv A outer s H E).nox (defBody st) t ∧ t { nx := fun _ H' => Q .non H', rt := Q } (start N vs) H)
    (b : ∀ (kV doc pm : Value) (an : Option Addr) (cdv ct : Value) (us : List Value), us.length = ps.length → bindArgs (PySem.W.fnOf m q (defArgs st) (defBody st) (defScope st) .none kV doc pm an cdv ct) ⟨us, []⟩ = pure (ps.zip us))
    (hi : fn[i]? = some ⟨("Yard", some m), m, q, defArgs st, defBody st, defScope st, [], []⟩ := by rfl) (hj : fa[j]? = some (.meth "Yard" m) := by rfl) : Met P w K mg base (k + 1) (CY K) m sp [] := by
  obtain ⟨fd, F⟩ := W.s.def_ i hi
  refine ⟨He.fAd K ("Yard", some m), fd, ps, [], W.cl, He.meth_ok (W.s.fact j hj), F.ok S len fun cdv A outer s H vs Q E hr h => ?_, F.bindsN b, .nil⟩
  obtain ⟨t, ht, q⟩ := hbody _ cdv A outer s H vs Q E hr h
  exact ⟨t, ht.nox, q⟩
end

/-! ### comprehensions over what stands still, the target a name -/
section
variable {α : Type} {J : It} {n : Nat} {G : Hp → Prop} {Y : Nat → Hp → V → Hp → Prop} {j : Nat} {tt : TT} {te : TE} {vs : List Nat} {σ : L2.St} {H1 : Hp} {D : Addr} {Qd : Hp → Prop}
theorem take_snoc {l : List α} {i : Nat} {a : α} (h : l[i]? = some a) : l.take (i + 1) = l.take i ++ [a] := by
  rw [List.take_add_one, h]; rfl
/-- elements that are plain values -/
theorem lcS (w : Walk J n G Y) (as : List α) (inj : α → V) (f : α → Bool) (v : α → V) (hY : ∀ i H x H', i < n → Y i H x H' → H' = H ∧ ∃ a, as[i]? = some a ∧ x = inj a) (hl : as.length = n) (hn : n ≤ 100000) (hD : H1 D = none) (hG : ∀ H, Ex H1 H → G H)
    (hw : ∀ x, wipe ((wipe σ vs).set j (some x)) vs = wipe σ vs)
    (ht : ∀ a ∈ as, ∀ H, Ex H1 H → ∀ Q : Bool → Hp → Prop, (∀ H3, Ex H H3 → Q (f a) H3) → tt ((wipe σ vs).set j (some (inj a))) H Q)
    (he : ∀ a ∈ as, f a = true → ∀ H, Ex H1 H → ∀ Q : VK, (∀ H3, Ex H H3 → Q (v a) H3) → te ((wipe σ vs).set j (some (inj a))) H Q)
    (hd : ∀ H, Ex H1 H → H D = some (.lst ((as.filter f).map v)) → Qd H) :
    ∃ W : Nat → Nat → Hp → Prop, (∃ m, W 0 m (upd H1 D (.lst []))) ∧ ∀ i m H, W i m H →
      (J.stop i H ∧ Qd H) ∨ (J.go i H ∧ ∃ Nx : Hp → Prop, (∀ H', Nx H' → ∃ m', m' < m ∧ W (i + 1) m' H') ∧ ∀ x H', J.yld i H x H' → gName j x (wipe σ vs) H' fun σ2 H2 => wipe σ2 vs = wipe σ vs ∧ tt σ2 H2 fun b H3 =>
        if b = true then te σ2 H3 fun y H4 => ∃ acc, H4 D = some (.lst acc) ∧ acc.length < sizeLine ∧ Nx (upd H4 D (.lst (acc ++ [y]))) else Nx H3) := by
  refine lc_it w (fun i H => Ex H1 H ∧ H D = some (.lst (((as.take i).filter f).map v))) ⟨Ex.new hD, upd_same⟩ (fun i H _ p => hG H p.1) ?_ (fun H p => hd H p.1 (by rw [p.2, ← hl, List.take_length]))
  rintro i x H H' hi ⟨e, d⟩ y
  obtain ⟨rfl, a, ha, rfl⟩ := hY i H x H' hi y
  have hm : a ∈ as := List.mem_of_getElem? ha
  refine ⟨hw _, ht a hm H' e _ fun H3 e3 => ?_⟩
  have hlen : (((as.take i).filter f).map v).length < sizeLine := by
    rw [List.length_map, sizeLine_eq]
    have z := List.length_filter_le f (as.take i)
    rw [List.length_take] at z
    omega
  cases hf : f a with
  | true =>
    rw [if_pos rfl]
    refine he a hm hf H3 (e.trans e3) _ fun H4 e4 => ⟨_, e4 D _ (e3 D _ d), hlen, Ex.mut ((e.trans e3).trans e4) hD, ?_⟩
    rw [upd_same, take_snoc ha, List.filter_append, List.filter_cons_of_pos hf, List.map_append]
    rfl
  | false =>
    rw [if_neg (by simp)]
    refine ⟨e.trans e3, ?_⟩
    rw [e3 D _ d, take_snoc ha, List.filter_append, List.filter_cons_of_neg (by simp [hf])]
    simp
/-- elements that are new objects -/
theorem lcO (w : Walk J n G Y) (as : List α) (inj : α → V) (f : α → Bool) (P : α → HO → Prop) (hY : ∀ i H x H', i < n → Y i H x H' → H' = H ∧ ∃ a, as[i]? = some a ∧ x = inj a) (hl : as.length = n) (hn : n ≤ 100000) (hD : H1 D = none) (hG : ∀ H, Ex H1 H → G H)
    (hw : ∀ x, wipe ((wipe σ vs).set j (some x)) vs = wipe σ vs)
    (ht : ∀ a ∈ as, ∀ H, Ex H1 H → ∀ Q : Bool → Hp → Prop, (∀ H3, Ex H H3 → Q (f a) H3) → tt ((wipe σ vs).set j (some (inj a))) H Q)
    (he : ∀ a ∈ as, f a = true → ∀ H, Ex H1 H → ∀ Q : VK, (∀ q o H3, H q = none → Ex H H3 → H3 q = some o → P a o → Q (.ref q) H3) → te ((wipe σ vs).set j (some (inj a))) H Q)
    (hd : ∀ H qs, Ex H1 H → H D = some (.lst (qs.map V.ref)) → qs.Nodup → (∀ q ∈ qs, H1 q = none ∧ q ≠ D) → Paired (fun a q => ∃ o, H q = some o ∧ P a o) (as.filter f) qs → Qd H) :
    ∃ W : Nat → Nat → Hp → Prop, (∃ m, W 0 m (upd H1 D (.lst []))) ∧ ∀ i m H, W i m H →
      (J.stop i H ∧ Qd H) ∨ (J.go i H ∧ ∃ Nx : Hp → Prop, (∀ H', Nx H' → ∃ m', m' < m ∧ W (i + 1) m' H') ∧ ∀ x H', J.yld i H x H' → gName j x (wipe σ vs) H' fun σ2 H2 => wipe σ2 vs = wipe σ vs ∧ tt σ2 H2 fun b H3 =>
        if b = true then te σ2 H3 fun y H4 => ∃ acc, H4 D = some (.lst acc) ∧ acc.length < sizeLine ∧ Nx (upd H4 D (.lst (acc ++ [y]))) else Nx H3) := by
  refine lc_it w (fun i H => Ex H1 H ∧ ∃ qs : List Addr, H D = some (.lst (qs.map V.ref)) ∧ qs.Nodup ∧ (∀ q ∈ qs, H1 q = none ∧ q ≠ D) ∧ Paired (fun a q => ∃ o, H q = some o ∧ P a o) ((as.take i).filter f) qs)
    ⟨Ex.new hD, [], upd_same, List.nodup_nil, by simp, by simpa using Paired.nil⟩ (fun i H _ p => hG H p.1) ?_ (fun H p => ?_)
  · rintro i x H H' hi ⟨e, qs, d, nd, fr, pr⟩ y
    obtain ⟨rfl, a, ha, rfl⟩ := hY i H x H' hi y
    have hm : a ∈ as := List.mem_of_getElem? ha
    refine ⟨hw _, ht a hm H' e _ fun H3 e3 => ?_⟩
    have hlen : (qs.map V.ref).length < sizeLine := by
      rw [List.length_map, sizeLine_eq, ← pr.length]
      have z := List.length_filter_le f (as.take i)
      rw [List.length_take] at z
      omega
    cases hf : f a with
    | true =>
      rw [if_pos rfl]
      refine he a hm hf H3 (e.trans e3) _ fun q o H4 hq e4 hqo po => ?_
      have nqD : q ≠ D := (ne_of_none (e3 D _ d) hq).symm
      refine ⟨_, e4 D _ (e3 D _ d), hlen, Ex.mut ((e.trans e3).trans e4) hD, qs ++ [q], ?_, ?_, ?_, ?_⟩
      · rw [upd_same, List.map_append]; rfl
      · refine nd_snoc nd fun m => ?_
        obtain ⟨b, o2, h2, _⟩ := Paired.right pr q m
        rw [e3 q _ h2] at hq; cases hq
      · intro z hz
        rcases List.mem_append.mp hz with hz | hz
        · exact fr z hz
        · rw [List.mem_singleton.mp hz]
          exact ⟨(e.trans e3).free hq, nqD⟩
      · rw [take_snoc ha, List.filter_append, List.filter_cons_of_pos hf]
        refine Paired.snoc ?_ ⟨o, by rw [upd_ne nqD]; exact hqo, po⟩
        have go : ∀ {l : List α} {qs' : List Addr} {o' : HO}, (∀ q ∈ qs', q ≠ D) → Paired (fun a q => ∃ o, H' q = some o ∧ P a o) l qs' → Paired (fun a q => ∃ o, upd H4 D o' q = some o ∧ P a o) l qs' := by
          intro l qs' o' hq' pp
          induction pp with
          | nil => exact .nil
          | cons r t ih =>
            obtain ⟨o2, h2, p2⟩ := r
            refine .cons ⟨o2, ?_, p2⟩ (ih fun z hz => hq' z (List.mem_cons_of_mem _ hz))
            rw [upd_ne (hq' _ List.mem_cons_self)]
            exact e4 _ _ (e3 _ _ h2)
        exact go (fun z hz => (fr z hz).2) pr
    | false =>
      rw [if_neg (by simp)]
      refine ⟨e.trans e3, qs, e3 D _ d, nd, fr, ?_⟩
      rw [take_snoc ha, List.filter_append, List.filter_cons_of_neg (by simp [hf])]
      simp only [List.filter_nil, List.append_nil]
      exact Paired.mono (fun a q ⟨o, h, p⟩ => ⟨o, e3 _ _ h, p⟩) pr
  · obtain ⟨e, qs, d, nd, fr, pr⟩ := p
    rw [← hl, List.take_length] at pr
    exact hd H qs e d nd fr pr
theorem filt_true (as : List α) : as.filter (fun _ => true) = as := by
  induction as with
  | nil => rfl
  | cons a l ih => rw [List.filter_cons_of_pos rfl, ih]
/-- without a test -/
theorem lcS1 (w : Walk J n G Y) (as : List α) (inj : α → V) (v : α → V) (hY : ∀ i H x H', i < n → Y i H x H' → H' = H ∧ ∃ a, as[i]? = some a ∧ x = inj a) (hl : as.length = n) (hn : n ≤ 100000) (hD : H1 D = none) (hG : ∀ H, Ex H1 H → G H)
    (hw : ∀ x, wipe ((wipe σ vs).set j (some x)) vs = wipe σ vs)
    (he : ∀ a ∈ as, ∀ H, Ex H1 H → ∀ Q : VK, (∀ H3, Ex H H3 → Q (v a) H3) → te ((wipe σ vs).set j (some (inj a))) H Q)
    (hd : ∀ H, Ex H1 H → H D = some (.lst (as.map v)) → Qd H) :
    ∃ W : Nat → Nat → Hp → Prop, (∃ m, W 0 m (upd H1 D (.lst []))) ∧ ∀ i m H, W i m H →
      (J.stop i H ∧ Qd H) ∨ (J.go i H ∧ ∃ Nx : Hp → Prop, (∀ H', Nx H' → ∃ m', m' < m ∧ W (i + 1) m' H') ∧ ∀ x H', J.yld i H x H' → gName j x (wipe σ vs) H' fun σ2 H2 => wipe σ2 vs = wipe σ vs ∧ tYes σ2 H2 fun b H3 =>
        if b = true then te σ2 H3 fun y H4 => ∃ acc, H4 D = some (.lst acc) ∧ acc.length < sizeLine ∧ Nx (upd H4 D (.lst (acc ++ [y]))) else Nx H3) :=
  lcS w as inj (fun _ => true) v hY hl hn hD hG hw (fun _ _ H _ Q q => q H (Ex.rfl' H)) (fun a ha _ H e Q q => he a ha H e Q q) (fun H e h => hd H e (by rw [h, filt_true]))
theorem lcO1 (w : Walk J n G Y) (as : List α) (inj : α → V) (P : α → HO → Prop) (hY : ∀ i H x H', i < n → Y i H x H' → H' = H ∧ ∃ a, as[i]? = some a ∧ x = inj a) (hl : as.length = n) (hn : n ≤ 100000) (hD : H1 D = none) (hG : ∀ H, Ex H1 H → G H)
    (hw : ∀ x, wipe ((wipe σ vs).set j (some x)) vs = wipe σ vs)
    (he : ∀ a ∈ as, ∀ H, Ex H1 H → ∀ Q : VK, (∀ q o H3, H q = none → Ex H H3 → H3 q = some o → P a o → Q (.ref q) H3) → te ((wipe σ vs).set j (some (inj a))) H Q)
    (hd : ∀ H qs, Ex H1 H → H D = some (.lst (qs.map V.ref)) → qs.Nodup → (∀ q ∈ qs, H1 q = none ∧ q ≠ D) → Paired (fun a q => ∃ o, H q = some o ∧ P a o) as qs → Qd H) :
    ∃ W : Nat → Nat → Hp → Prop, (∃ m, W 0 m (upd H1 D (.lst []))) ∧ ∀ i m H, W i m H →
      (J.stop i H ∧ Qd H) ∨ (J.go i H ∧ ∃ Nx : Hp → Prop, (∀ H', Nx H' → ∃ m', m' < m ∧ W (i + 1) m' H') ∧ ∀ x H', J.yld i H x H' → gName j x (wipe σ vs) H' fun σ2 H2 => wipe σ2 vs = wipe σ vs ∧ tYes σ2 H2 fun b H3 =>
        if b = true then te σ2 H3 fun y H4 => ∃ acc, H4 D = some (.lst acc) ∧ acc.length < sizeLine ∧ Nx (upd H4 D (.lst (acc ++ [y]))) else Nx H3) :=
  lcO w as inj (fun _ => true) P hY hl hn hD hG hw (fun _ _ H _ Q q => q H (Ex.rfl' H)) (fun a ha _ H e Q q => he a ha H e Q q) (fun H qs e h1 h2 h3 h4 => hd H qs e h1 h2 h3 (by rw [filt_true] at h4; exact h4))
end
/-! the items of a walk, by their data -/
theorem y_map {α : Type} {as : List α} {inj : α → V} : ∀ i (H : Hp) x (H' : Hp), i < (as.map inj).length → YAt (as.map inj) i H x H' → H' = H ∧ ∃ a, as[i]? = some a ∧ x = inj a := by
  rintro i H x H' _ ⟨rfl, h⟩
  rw [List.getElem?_map] at h
  cases e : as[i]? with
  | none => rw [e] at h; cases h
  | some a => rw [e] at h; exact ⟨rfl, a, rfl, (Option.some.inj h).symm⟩
theorem y_rng {lo : Int} {n : Nat} : ∀ i (H : Hp) x (H' : Hp), i < n → YFn (fun i => V.int (lo + (i : Int))) i H x H' → H' = H ∧ ∃ a, (List.range n)[i]? = some a ∧ x = (fun a : Nat => V.int (lo + (a : Int))) a := by
  rintro i H x H' hi ⟨rfl, rfl⟩
  exact ⟨rfl, i, List.getElem?_range hi, rfl⟩
theorem y_str {z : Str} : ∀ i (H : Hp) x (H' : Hp), i < z.cps.size → (H' = H ∧ ∃ c, z.cps[i]? = some c ∧ x = V.str ⟨#[c]⟩) → H' = H ∧ ∃ a, z.cps.toList[i]? = some a ∧ x = (fun c => V.str ⟨#[c]⟩) a := by
  rintro i H x H' _ ⟨rfl, c, h, rfl⟩
  exact ⟨rfl, c, by rw [Array.getElem?_toList]; exact h, rfl⟩
/-! answers -/
theorem bl_t {p : Prop} [Decidable p] (h : p) : V.bl (decide p) = V.bl true := by rw [decide_eq_true h]
theorem bl_f {p : Prop} [Decidable p] (h : ¬ p) : V.bl (decide p) = V.bl false := by rw [decide_eq_false h]
theorem bl_nt {p : Prop} [Decidable p] (h : p) : V.bl (!decide p) = V.bl false := by rw [decide_eq_true h]; rfl
theorem bl_nf {p : Prop} [Decidable p] (h : ¬ p) : V.bl (!decide p) = V.bl true := by rw [decide_eq_false h]; rfl
theorem q_t {p : Prop} [Decidable p] {Q : VK} {H : Hp} (h : p) (q : Q (.bl true) H) : Q (.bl (decide p)) H := by rw [decide_eq_true h]; exact q
theorem q_f {p : Prop} [Decidable p] {Q : VK} {H : Hp} (h : ¬ p) (q : Q (.bl false) H) : Q (.bl (decide p)) H := by rw [decide_eq_false h]; exact q
end Od

set_option Elab.async false
set_option linter.all false
set_option maxRecDepth 100000
set_option maxHeartbeats 4000000
/-! short words -/
namespace Od
open PySem PySem.Spec PyProof.Rows L2
open C8 (Cal Met InsC pe_c pe_mt pe_mt0 call_isC)
section
variable {X : Cx} {e e2 : Expr} {te t2 : TE} {T : Str} {n : String} {p p2 pos : Pos}
/-- isinstance(e, T) -/
theorem p_isi (hT : X.mg T = none) (hv : bootBuiltins T = some (.type n)) (nm : Nm X.mg) (he : PE X e te) (hg : Gl X "isinstance" := by rfl) (hg2 : Gl X T := by rfl) (hn : T ≠ "__name__" := by decide) (hd : (T == ("__debug__" : Str)) = false := by decide)
    (hs : starEach [e, .Name T p2] X.env = (false, eval e X.env) :: starEach [.Name T p2] X.env := by rfl) :
    PE X (.Call (.Name "isinstance" p) [e, .Name T p2] [] pos) (tCB (rIsi X.K) (tCons te (tCons (tC (.ty n)) tNil))) :=
  pe_callB call_isi hg nm.isinstance boot_isinstance (pa_cons he (pa_cons (pe_bltn (v := .ty n) hg2 hT hv rfl hn hd) pa_nil) hs) (he := hs)
/-- len(e) of a list, a tuple, a text -/
theorem p_len (nm : Nm X.mg) (he : PE X e te) (hg : Gl X "len" := by rfl) (hs : starEach [e] X.env = (false, eval e X.env) :: starEach [] X.env := by rfl) : PE X (.Call (.Name "len" p) [e] [] pos) (tCB (fun xs H Q => ∃ q ys, xs = [.ref q] ∧ (SqL X.K H q ys ∨ SqT X.K H q ys) ∧ Q (.int ys.length) H) (tCons te tNil)) :=
  pe_callB call_len_seq hg nm.len boot_len (pa_cons he pa_nil hs) (he := hs)
theorem p_int1 (nm : Nm X.mg) (he : PE X e te) (hg : Gl X "int" := by rfl) (hs : starEach [e] X.env = (false, eval e X.env) :: starEach [] X.env := by rfl) :
    PE X (.Call (.Name "int" p) [e] [] pos) (tCB (fun xs H Q => (∃ i, xs = [.int i] ∧ Q (.int i) H) ∨ ∃ c, xs = [.bl c] ∧ Q (.int (if c = true then 1 else 0)) H) (tCons te tNil)) :=
  pe_callTy call_int1 hg nm.int boot_int (pa_cons he pa_nil hs) (he := hs)
end
end Od

set_option Elab.async false
set_option linter.all false
set_option maxRecDepth 100000
set_option maxHeartbeats 4000000
/-! data of the program: lists of ints, of pairs; deeds: read, compared, shown -/
namespace Od
open PySem PySem.Spec PyProof.Rows L2
abbrev dI (ns : List Int) : PyData := .list (ns.map PyData.int)
abbrev dP (t : Int × Int) : PyData := .tuple [.int t.1, .int t.2]
abbrev dT (ts : List (Int × Int)) : PyData := .list (ts.map dP)
theorem can_ints : ∀ ns : List Int, PyData.canLayAll0 (ns.map PyData.int) = true
  | [] => by simp [PyData.canLayAll0]
  | n :: r => by simp [PyData.canLayAll0, PyData.canLay0, can_ints r]
theorem dep_ints : ∀ ns : List Int, PyData.depthAll (ns.map PyData.int) = 0
  | [] => by simp [PyData.depthAll]
  | n :: r => by simp [PyData.depthAll, PyData.depth, dep_ints r]
theorem can_pairs : ∀ ts : List (Int × Int), PyData.canLayAll0 (ts.map dP) = true
  | [] => by simp [PyData.canLayAll0]
  | t :: r => by simp [PyData.canLayAll0, PyData.canLay0, can_pairs r]
theorem dep_pairs : ∀ ts : List (Int × Int), PyData.depthAll (ts.map dP) ≤ 1
  | [] => by simp [PyData.depthAll]
  | t :: r => by
    have := dep_pairs r
    simp [PyData.depthAll, PyData.depth]
    omega
theorem sh_ints (ns : List Int) : SeqAt.shaped (dI ns) = true := by
  simp [SeqAt.shaped, PyData.canLay0, PyData.depth, can_ints, dep_ints]
theorem sh_pairs (ts : List (Int × Int)) : SeqAt.shaped (dT ts) = true := by
  have := dep_pairs ts
  simp [SeqAt.shaped, PyData.canLay0, PyData.depth, can_pairs]
  omega
theorem sh_nil : SeqAt.shaped (.list []) = true := by decide +kernel
theorem eqv_nil (ds : List PyData) : PyData.eqv (.list ds) (.list []) = ds.isEmpty := by
  cases ds <;> simp [PyData.eqv, PyData.eqvAll]
theorem eqv_same {d : PyData} (h : SeqAt.shaped d = true) : PyData.eqv d d = true := SeqAt.eqv_refl d (SeqAt.canLay_of_shaped h)
section
variable {K : PySem.W.Frag} {H : Hp} {a : Addr}
theorem dpa_ints : ∀ ns : List Int, DpAll K H (ns.map V.int) (ns.map PyData.int)
  | [] => .nil
  | n :: r => .cons (.int n) (dpa_ints r)
theorem dp_ints {ns : List Int} (h : SqL K H a (ns.map V.int)) : Dp K H (.ref a) (dI ns) := .lst h (dpa_ints ns)
theorem dpa_pairs : ∀ (ks : List (Addr × (Int × Int))), (∀ k ∈ ks, H k.1 = some (.tup [.int k.2.1, .int k.2.2])) → DpAll K H (ks.map fun k => V.ref k.1) ((ks.map (·.2)).map dP)
  | [], _ => .nil
  | k :: r, h => .cons (.tup (SqT.of (h k List.mem_cons_self)) (.cons (.int _) (.cons (.int _) .nil))) (dpa_pairs r fun z hz => h z (List.mem_cons_of_mem _ hz))
/-- a list of such pairs, the rows' tuples tracked -/
def TL (H : Hp) (a : Addr) (ts : List (Int × Int)) : Prop := ∃ ks : List (Addr × (Int × Int)), ks.map (·.2) = ts ∧ H a = some (.lst (ks.map fun k => V.ref k.1)) ∧ ∀ k ∈ ks, H k.1 = some (.tup [.int k.2.1, .int k.2.2])
/-- a list of lists of ints -/
def RL (H : Hp) (a : Addr) (rs : List (List Int)) : Prop := ∃ ks : List (Addr × List Int), ks.map (·.2) = rs ∧ H a = some (.lst (ks.map fun k => V.ref k.1)) ∧ ∀ k ∈ ks, H k.1 = some (.lst (k.2.map V.int))
abbrev IL (H : Hp) (a : Addr) (ns : List Int) : Prop := H a = some (.lst (ns.map V.int))
theorem TL.dp {ts : List (Int × Int)} (h : TL H a ts) : Dp K H (.ref a) (dT ts) := by
  obtain ⟨ks, rfl, h1, h2⟩ := h
  exact .lst (SqL.of h1) (dpa_pairs ks h2)
end
end Od

set_option Elab.async false
set_option linter.all false
set_option maxRecDepth 100000
set_option maxHeartbeats 4000000
/-! kinds: is_integer, is_post, are_posts, is_set -/
namespace Od
open PySem PySem.Spec PyProof.Rows L2
open C8 (Cal Met InsC pe_c pe_mt pe_mt0 call_isC)
section
variable {P : Program} {w : World} {K : PySem.W.Frag} {mg : Str → Option Value} {base : Heap}
def spIsInteger : Sp := fun vs H Q _ => ∃ i : Int, vs = [.int i] ∧ ∀ H', Ex H H' → Q (.bl true) H'
theorem sc_is_integer : FnScope ["thing"] ["thing"] (defScope s_is_integer) := ⟨rfl, rfl, rfl, by decide +kernel, rfl, by decide +kernel, by decide +kernel⟩
theorem c_is_integer (W : Wd K mg) : Cal P w K mg base 1 "is_integer" spIsInteger [] := by
  refine W.cal 0 sc_is_integer (fun vs H Q E ⟨i, e, _⟩ => by rw [e]; rfl) (fun f cdv A outer s H vs Q E hr ⟨i, e, k⟩ => ?_) (fun _ _ _ _ _ _ us hl => match us, hl with | [_], _ => rfl)
  subst e
  refine ⟨_, pss_one (ps_ret (pe_and (p_isi W.nm.int boot_int W.nm (pv 0)) (pe_one (pe_not (p_isi W.nm.bool boot_bool W.nm (pv 0)))))), ?_⟩
  refine ⟨_, rfl, _, _, _, _, _, rfl, .ty _, .base (.int i), kit_ty (b := "int") (r := true) (by decide +kernel), true, rfl, iteT ?_⟩
  exact ⟨_, rfl, _, _, _, _, _, rfl, .ty _, .base (.int i), kit_ty (b := "bool") (r := false) (by decide +kernel), false, rfl, k _ (Ex.rfl' _)⟩

def spIsPost : Sp := fun vs H Q _ => ∃ i n : Int, vs = [.int i, .int n] ∧ 0 ≤ i ∧ i < n ∧ ∀ H', Ex H H' → Q (.bl true) H'
theorem sc_is_post : FnScope ["thing", "size"] ["thing", "size"] (defScope s_is_post) := ⟨rfl, rfl, rfl, by decide +kernel, rfl, by decide +kernel, by decide +kernel⟩
theorem c_is_post (W : Wd K mg) : Cal P w K mg base 2 "is_post" spIsPost [] := by
  refine W.cal 1 sc_is_post (fun vs H Q E ⟨i, n, e, _⟩ => by rw [e]; rfl) (fun f cdv A outer s H vs Q E hr ⟨i, n, e, h0, h1, k⟩ => ?_) (fun _ _ _ _ _ _ us hl => match us, hl with | [_, _], _ => rfl)
  subst e
  refine ⟨_, pss_one (ps_ret (pe_and (pe_c (c_is_integer W) hr (by decide) (by rfl) (pa_cons (pv 0) pa_nil)) (pe_one (pe_chain op_le op_lt pe_int (pv 0) (pv 1))))), ?_⟩
  refine ⟨_, rfl, i, rfl, fun H1 e1 => ⟨true, rfl, iteT ?_⟩⟩
  refine ⟨_, rfl, _, _, rfl, rfl, true, bl_t h0, iteT ?_⟩
  exact ⟨_, rfl, _, _, rfl, rfl, q_t (Q := Q) h1 (k _ e1)⟩

/-- a list or a tuple of ints -/
def LT (H : Hp) (a : Addr) (ns : List Int) : Prop := H a = some (.lst (ns.map V.int)) ∨ H a = some (.tup (ns.map V.int))
theorem LT.mono {H H' : Hp} {a : Addr} {ns : List Int} (h : LT H a ns) (e : Ex H H') : LT H' a ns := h.imp (e _ _) (e _ _)
theorem LT.sq {H : Hp} {a : Addr} {ns : List Int} (h : LT H a ns) : SqL K H a (ns.map V.int) ∨ SqT K H a (ns.map V.int) := h.imp SqL.of SqT.of
def spArePosts : Sp := fun vs H Q _ => ∃ (a : Addr) (ns : List Int) (n : Int), vs = [.ref a, .int n] ∧ LT H a ns ∧ ns.length < 64 ∧ (∀ x ∈ ns, 0 ≤ x ∧ x < n) ∧ ns.Nodup ∧ ∀ H', Ex H H' → Q (.bl true) H'
theorem sc_are_posts : FnScope ["thing", "size", "post"] ["thing", "size"] (defScope s_are_posts) := ⟨rfl, rfl, rfl, by decide +kernel, rfl, by decide +kernel, by decide +kernel⟩
theorem kit_lt {H : Hp} {a : Addr} {ns : List Int} (h : LT H a ns) : ∃ t, TyX K H (.ref a) t ∧ PySem.W.kitAny K t [.type "list", .type "tuple"] = some true := by
  rcases h with h | h
  · exact ⟨_, .base (.lst h), kitAny_cons (b := true) (kit_ty (by decide +kernel)) (fun z => nomatch z) (fun _ => rfl)⟩
  · exact ⟨_, .base (.tup h), kitAny_cons (b := false) (kit_ty (by decide +kernel)) (fun _ => kitAny_cons (b := true) (kit_ty (by decide +kernel)) (fun z => nomatch z) (fun _ => rfl)) (fun z => nomatch z)⟩
theorem all_true {α : Type} (l : List α) : (l.map fun _ => true).all id = true := by
  induction l with
  | nil => rfl
  | cons a r ih => rw [List.map_cons, List.all_cons, ih]; rfl
theorem c_are_posts (W : Wd K mg) : Cal P w K mg base 3 "are_posts" spArePosts [] := by
  refine W.cal 2 sc_are_posts (fun vs H Q E ⟨a, ns, n, e, _⟩ => by rw [e]; rfl) (fun f cdv A outer s H vs Q E hr ⟨a, ns, n, e, hl, h64, hp, nd, k⟩ => ?_) (fun _ _ _ _ _ _ us hl => match us, hl with | [_, _], _ => rfl)
  subst e
  have test : ∀ (H1 : Hp), Ex H H1 → ∀ x ∈ ns, ∀ H2, Ex H1 H2 → ∀ Q : VK, (∀ H3, Ex H2 H3 → Q (.bl true) H3) → spIsPost [.int x, .int n] H2 Q E0 := fun H1 _ x hx H2 _ Q q => ⟨x, n, rfl, (hp x hx).1, (hp x hx).2, q⟩
  have fin : ∀ H1, Ex H H1 → rSetOf K w [.ref a] H1 (fun x H2 => rLenSet w [x] H2 fun z H3 => ∃ v, [some (V.ref a), some (V.int n), none][0]? = some (some v) ∧ ∃ q ys, [v] = [.ref q] ∧ (SqL K H3 q ys ∨ SqT K H3 q ys) ∧ rEq z (.int ys.length) H3 Q) := by
    intro H1 e1
    refine ⟨a, ns, rfl, (hl.mono e1).sq, by omega, fun p c hp0 _ hc => ?_⟩
    refine ⟨p, _, c, rfl, upd_same, _, rfl, a, ns.map V.int, rfl, ((hl.mono e1).mono (Ex.new hp0)).sq, rfl, ?_⟩
    have ec : c = ns.length := hc nd
    subst ec
    exact q_t (Q := Q) (by rw [List.length_map]) (k _ (e1.trans (Ex.new hp0)))
  rcases id hl with hl' | hl'
  · refine ⟨_, pss_cons (ps_if (PW.pt (pw_or (pt_not (pt_val (pe_callB call_isiT (by rfl) W.nm.isinstance boot_isinstance (pa_cons (pv 0) (pa_cons (pe_tup (pa_cons (pe_bltn (v := .ty "list") (by rfl) W.nm.list boot_list rfl) (pa_cons (pe_bltn (v := .ty "tuple") (by rfl) W.nm.tuple boot_tuple rfl) pa_nil))) pa_nil)))))
      (pw_or1 (pt_not (pt_val (pe_callB (cr_all rfl) (by rfl) W.nm.all boot_all (pa_cons (pe_lc (own := [("post", 2)]) (g := gName 2) (tt := tYes) rfl sc_are_posts.nd (pi_list (pv 0)) (blkOk_by (N := ["thing", "size", "post"]) (sc := defScope s_are_posts) (by decide +kernel))
        (fun _ _ _ _ _ => pg_name (i := 2) sc_are_posts.nd rfl (Or.inl rfl)) (fun _ _ _ _ _ => pts_nil) (fun _ _ _ _ _ => pe_c (c_is_post W) hr (by decide) (by rfl) (pa_cons (pv 2) (pa_cons (pv 1) pa_nil)))) pa_nil))))))) (pss_one (ps_ret pe_bl)) pss_nil)
      (pss_one (ps_ret (pe_cmpR op_eq (pe_callB call_lenSet (by rfl) W.nm.len boot_len (pa_cons (pe_callTy (cr_setOf rfl) (by rfl) W.nm.set boot_set (pa_cons (pv 0) pa_nil)) pa_nil)) (p_len W.nm (pv 0)) (nomark _)))), ?_⟩
    refine ⟨_, rfl, by show 2 ≤ sizeLine; decide, fun tp htp => ?_⟩
    have e1 : Ex H (upd H tp (.tup [.ty "list", .ty "tuple"])) := Ex.new htp
    obtain ⟨t, ty, kt⟩ := kit_lt (K := K) (hl.mono e1)
    refine ⟨_, tp, _, t, _, true, rfl, upd_same, .cons (.ty _) (.cons (.ty _) .nil), ty, kt, true, rfl, iteF ?_⟩
    refine ⟨_, rfl, a, rfl, ⟨_, SqL.of (e1 _ _ hl')⟩, fun D hD => lcS1 walk_list ns V.int (fun _ => V.bl true) y_map (by rw [List.length_map]) (by rw [List.length_map]; omega) hD (fun H2 e2 => SqL.of (e2 _ _ (e1 _ _ hl'))) (fun _ => rfl) (fun x hx H2 e2 Q2 q2 => ⟨_, rfl, _, rfl, test _ e1 x hx H2 e2 Q2 q2⟩) (fun H2 e2 h2 => ?_)⟩
    exact ⟨D, ns.map fun _ => true, rfl, SqL.of (by rw [h2, List.map_map]; rfl), true, by rw [all_true], iteF ⟨_, rfl, fin _ (e1.trans e2)⟩⟩
  · refine ⟨_, pss_cons (ps_if (PW.pt (pw_or (pt_not (pt_val (pe_callB call_isiT (by rfl) W.nm.isinstance boot_isinstance (pa_cons (pv 0) (pa_cons (pe_tup (pa_cons (pe_bltn (v := .ty "list") (by rfl) W.nm.list boot_list rfl) (pa_cons (pe_bltn (v := .ty "tuple") (by rfl) W.nm.tuple boot_tuple rfl) pa_nil))) pa_nil)))))
      (pw_or1 (pt_not (pt_val (pe_callB (cr_all rfl) (by rfl) W.nm.all boot_all (pa_cons (pe_lc (own := [("post", 2)]) (g := gName 2) (tt := tYes) rfl sc_are_posts.nd (pi_tup (pv 0)) (blkOk_by (N := ["thing", "size", "post"]) (sc := defScope s_are_posts) (by decide +kernel))
        (fun _ _ _ _ _ => pg_name (i := 2) sc_are_posts.nd rfl (Or.inl rfl)) (fun _ _ _ _ _ => pts_nil) (fun _ _ _ _ _ => pe_c (c_is_post W) hr (by decide) (by rfl) (pa_cons (pv 2) (pa_cons (pv 1) pa_nil)))) pa_nil))))))) (pss_one (ps_ret pe_bl)) pss_nil)
      (pss_one (ps_ret (pe_cmpR op_eq (pe_callB call_lenSet (by rfl) W.nm.len boot_len (pa_cons (pe_callTy (cr_setOf rfl) (by rfl) W.nm.set boot_set (pa_cons (pv 0) pa_nil)) pa_nil)) (p_len W.nm (pv 0)) (nomark _)))), ?_⟩
    refine ⟨_, rfl, by show 2 ≤ sizeLine; decide, fun tp htp => ?_⟩
    have e1 : Ex H (upd H tp (.tup [.ty "list", .ty "tuple"])) := Ex.new htp
    obtain ⟨t, ty, kt⟩ := kit_lt (K := K) (hl.mono e1)
    refine ⟨_, tp, _, t, _, true, rfl, upd_same, .cons (.ty _) (.cons (.ty _) .nil), ty, kt, true, rfl, iteF ?_⟩
    refine ⟨_, rfl, a, rfl, ⟨_, SqT.of (e1 _ _ hl')⟩, fun D hD => lcS1 walk_tup ns V.int (fun _ => V.bl true) y_map (by rw [List.length_map]) (by rw [List.length_map]; omega) hD (fun H2 e2 => SqT.of (e2 _ _ (e1 _ _ hl'))) (fun _ => rfl) (fun x hx H2 e2 Q2 q2 => ⟨_, rfl, _, rfl, test _ e1 x hx H2 e2 Q2 q2⟩) (fun H2 e2 h2 => ?_)⟩
    exact ⟨D, ns.map fun _ => true, rfl, SqL.of (by rw [h2, List.map_map]; rfl), true, by rw [all_true], iteF ⟨_, rfl, fin _ (e1.trans e2)⟩⟩

def spIsSet : Sp := fun vs H Q _ => ∃ (a : Addr) (ns : List Int) (n : Int), vs = [.ref a, .int n] ∧ H a = some (.lst (ns.map V.int)) ∧ ns.length < 64 ∧ (∀ x ∈ ns, 0 ≤ x ∧ x < n) ∧ ns.Pairwise (· < ·) ∧ ∀ H', Ex H H' → Q (.bl true) H'
theorem sc_is_set : FnScope ["thing", "size"] ["thing", "size"] (defScope s_is_set) := ⟨rfl, rfl, rfl, by decide +kernel, rfl, by decide +kernel, by decide +kernel⟩
theorem lt_nodup {ns : List Int} (h : ns.Pairwise (· < ·)) : ns.Nodup := h.imp fun h e => by subst e; exact Int.lt_irrefl _ h
/-- two rising lists of the same numbers are one -/
theorem up_unique {xs ys : List Int} (p : xs.Perm ys) (hx : xs.Pairwise (· ≤ ·)) (hy : ys.Pairwise (· ≤ ·)) : xs = ys := PySem.W.ksm_same p hx hy
theorem lt_le {ns : List Int} (h : ns.Pairwise (· < ·)) : ns.Pairwise (· ≤ ·) := h.imp fun h => Int.le_of_lt h
theorem c_is_set (W : Wd K mg) : Cal P w K mg base 4 "is_set" spIsSet [] := by
  refine W.cal 3 sc_is_set (fun vs H Q E ⟨a, ns, n, e, _⟩ => by rw [e]; rfl) (fun f cdv A outer s H vs Q E hr ⟨a, ns, n, e, hl, h64, hp, up, k⟩ => ?_) (fun _ _ _ _ _ _ us hl => match us, hl with | [_, _], _ => rfl)
  subst e
  refine ⟨_, pss_one (ps_ret (pe_and (p_isi W.nm.list boot_list W.nm (pv 0)) (pe_and (pe_c (c_are_posts W) hr (by decide) (by rfl) (pa_cons (pv 0) (pa_cons (pv 1) pa_nil)))
    (pe_one (pe_cmpR (op_eqD hr.units) (pv 0) (pe_callB cr_sortedA (by rfl) W.nm.sorted boot_sorted (pa_cons (pv 0) pa_nil)) (nomark _)))))), ?_⟩
  refine ⟨_, rfl, _, _, _, _, _, rfl, .ty _, .base (.lst hl), kit_ty (b := "list") (r := true) (by decide +kernel), true, rfl, iteT ?_⟩
  refine ⟨_, rfl, _, rfl, a, ns, n, rfl, .inl hl, h64, hp, lt_nodup up, fun H1 e1 => ⟨true, rfl, iteT ?_⟩⟩
  refine ⟨_, rfl, _, rfl, a, ns, rfl, .inl (SqL.of (e1 _ _ hl)), h64, fun ms p pm le hp0 => ?_⟩
  have em : ms = ns := up_unique pm le (lt_le up)
  subst em
  have e2 : Ex H (upd H1 p (.lst (ms.map V.int))) := e1.trans (Ex.new hp0)
  refine ⟨dI ms, dI ms, dp_ints (SqL.of (e2 _ _ hl)), dp_ints (SqL.of upd_same), sh_ints ms, sh_ints ms, ?_⟩
  rw [eqv_same (sh_ints ms)]
  exact k _ e2
end
end Od

set_option Elab.async false
set_option linter.all false
set_option maxRecDepth 100000
set_option maxHeartbeats 4000000
/-! is_tie, check_tree -/
namespace Od
open PySem PySem.Spec PyProof.Rows L2
open C8 (Cal Met InsC pe_c pe_mt pe_mt0 call_isC)
section
variable {P : Program} {w : World} {K : PySem.W.Frag} {mg : Str → Option Value} {base : Heap}
def spIsTie : Sp := fun vs H Q _ => ∃ (t : Addr) (a b n : Int), vs = [.ref t, .int n] ∧ H t = some (.tup [.int a, .int b]) ∧ 0 ≤ a ∧ a < b ∧ b < n ∧ ∀ H', Ex H H' → Q (.bl true) H'
theorem sc_is_tie : FnScope ["thing", "size"] ["thing", "size"] (defScope s_is_tie) := ⟨rfl, rfl, rfl, by decide +kernel, rfl, by decide +kernel, by decide +kernel⟩
theorem c_is_tie (W : Wd K mg) : Cal P w K mg base 3 "is_tie" spIsTie [] := by
  refine W.cal 18 sc_is_tie (fun vs H Q E ⟨t, a, b, n, e, _⟩ => by rw [e]; rfl) (fun f cdv A outer s H vs Q E hr ⟨t, a, b, n, e, ht, h0, h1, h2, k⟩ => ?_) (fun _ _ _ _ _ _ us hl => match us, hl with | [_, _], _ => rfl)
  subst e
  refine ⟨_, pss_cons (ps_if (PW.pt (pw_or (pt_not (pt_val (p_isi W.nm.tuple boot_tuple W.nm (pv 0)))) (pw_or1 (pt_cmpR op_ne (p_len W.nm (pv 0)) pe_int (nomark _))))) (pss_one (ps_ret pe_bl)) pss_nil)
    (pss_one (ps_ret (pe_and (pe_c (c_is_post W) hr (by decide) (by rfl) (pa_cons (pe_ix ix_tup (pv 0) pe_int (fun _ _ => rfl)) (pa_cons (pv 1) pa_nil)))
      (pe_and (pe_c (c_is_post W) hr (by decide) (by rfl) (pa_cons (pe_ix ix_tup (pv 0) pe_int (fun _ _ => rfl)) (pa_cons (pv 1) pa_nil)))
        (pe_one (pe_cmpR op_lt (pe_ix ix_tup (pv 0) pe_int (fun _ _ => rfl)) (pe_ix ix_tup (pv 0) pe_int (fun _ _ => rfl)) (nomark _))))))), ?_⟩
  have g0 : ∀ {H' : Hp}, Ex H H' → atI [V.int a, V.int b] 0 = some (.int a) := fun _ => atI_nat (j := 0) rfl
  have g1 : atI [V.int a, V.int b] 1 = some (.int b) := atI_nat (j := 1) rfl
  refine ⟨_, rfl, _, _, _, _, _, rfl, .ty _, .base (.tup ht), kit_ty (b := "tuple") (r := true) (by decide +kernel), true, rfl, iteF ?_⟩
  refine ⟨_, rfl, t, _, rfl, .inr (SqT.of ht), rfl, false, rfl, iteF ?_⟩
  refine ⟨_, rfl, t, _, _, _, rfl, rfl, SqT.of ht, atI_nat (j := 0) rfl, _, rfl, a, n, rfl, h0, by omega, fun H1 e1 => ⟨true, rfl, iteT ?_⟩⟩
  refine ⟨_, rfl, t, _, _, _, rfl, rfl, SqT.of (e1 _ _ ht), atI_nat (j := 1) rfl, _, rfl, b, n, rfl, by omega, by omega, fun H2 e2 => ⟨true, rfl, iteT ?_⟩⟩
  have h2' := (e1.trans e2) _ _ ht
  exact ⟨_, rfl, t, _, _, _, rfl, rfl, SqT.of h2', atI_nat (j := 0) rfl, _, rfl, t, _, _, _, rfl, rfl, SqT.of h2', atI_nat (j := 1) rfl, a, b, rfl, rfl, q_t (Q := Q) h1 (k _ (e1.trans e2))⟩

theorem TL.mono {H H' : Hp} {a : Addr} {ts : List (Int × Int)} (h : TL H a ts) (e : Ex H H') : TL H' a ts := by
  obtain ⟨ks, h1, h2, h3⟩ := h
  exact ⟨ks, h1, e _ _ h2, fun k hk => e _ _ (h3 k hk)⟩
theorem RL.mono {H H' : Hp} {a : Addr} {rs : List (List Int)} (h : RL H a rs) (e : Ex H H') : RL H' a rs := by
  obtain ⟨ks, h1, h2, h3⟩ := h
  exact ⟨ks, h1, e _ _ h2, fun k hk => e _ _ (h3 k hk)⟩
theorem ks_get {ks : List (Addr × (Int × Int))} {ts : List (Int × Int)} {H : Hp} (h1 : ks.map (·.2) = ts) (h3 : ∀ k ∈ ks, H k.1 = some (.tup [.int k.2.1, .int k.2.2])) {i : Nat} {x : V} (hx : (ks.map fun k => V.ref k.1)[i]? = some x) :
    ∃ q t, x = .ref q ∧ ts[i]? = some t ∧ H q = some (.tup [.int t.1, .int t.2]) := by
  subst h1
  rw [List.getElem?_map] at hx
  cases e : ks[i]? with
  | none => rw [e] at hx; cases hx
  | some k => rw [e] at hx; exact ⟨k.1, k.2, (Option.some.inj hx).symm, by rw [List.getElem?_map, e]; rfl, h3 k (List.mem_of_getElem? e)⟩
theorem lab_at {l : List Int} {x : Int} (h0 : 0 ≤ x) (h : x < l.length) : atI (l.map V.int) x = some (.int (Odd.lab l x)) := by
  have e : x = ((x.toNat : Nat) : Int) := (Int.toNat_of_nonneg h0).symm
  rw [e]
  refine atI_nat ?_
  have hl : x.toNat < l.length := by omega
  unfold Odd.lab
  rw [Int.toNat_natCast, List.getElem?_map, List.getElem?_eq_getElem hl, List.getD_eq_getElem?_getD, List.getElem?_eq_getElem hl]
  rfl
theorem rgV_eq (n : Nat) : rgV 0 (n : Int) = ((List.range n).map Int.ofNat).map V.int := by
  unfold rgV
  rw [show ((n : Int) - 0).toNat = n by omega, List.map_map]
  refine List.map_congr_left fun i _ => ?_
  show V.int (0 + (i : Int)) = V.int (i : Int)
  rw [Int.zero_add]
def spCheckTree : Sp := fun vs H Q _ => ∃ (n : Nat) (p : Addr) (ts : List (Int × Int)), vs = [.int n, .ref p] ∧ TL H p ts ∧ Odd.IsTree n ts ∧ 1 ≤ n ∧ n ≤ 60 ∧ ∀ H', Ex H H' → Q .non H'
theorem sc_check_tree : FnScope ["size", "ties", "labels", "at", "tie", "old", "new", "label"] ["size", "ties"] (defScope s_check_tree) := ⟨rfl, rfl, rfl, by decide +kernel, rfl, by decide +kernel, by decide +kernel⟩
theorem c_check_tree (W : Wd K mg) : Cal P w K mg base 4 "check_tree" spCheckTree [] := by
  refine W.cal 19 sc_check_tree (fun vs H Q E ⟨n, p, ts, e, _⟩ => by rw [e]; rfl) (fun f cdv A outer s H vs Q E hr ⟨n, p, ts, e, tl, tr, h1, h60, k⟩ => ?_) (fun _ _ _ _ _ _ us hl => match us, hl with | [_, _], _ => rfl)
  subst e
  have nd := sc_check_tree.nd
  refine ⟨_, pss_cons (ps_set (i := 2) nd rfl (Or.inl rfl) (pe_listRg rfl (by rfl) W.nm.list (prg_1 (by rfl) W.nm.range (pv 0))))
    (pss_cons (ps_for PassesOwn.never rfl (pi_enum (by rfl) W.nm.enumerate (pa_cons (pv 1) pa_nil)) (pg_tup rfl (pgs_cons (pg_name (i := 3) nd rfl (Or.inl rfl)) (pgs_cons (pg_name (i := 4) nd rfl (Or.inl rfl)) pgs_nil)))
      (pss_cons (ps_if (PW.pt (pw_or (pt_not (pt_val (pe_c (c_is_tie W) hr (by decide) (by rfl) (pa_cons (pv 4) (pa_cons (pv 0) pa_nil)))))
          (pw_or1 (pt_cmpR op_eq (pe_ix ix_list (pv 2) (pe_ix ix_tup (pv 4) pe_int (fun _ _ => rfl)) (fun _ _ => rfl)) (pe_ix ix_list (pv 2) (pe_ix ix_tup (pv 4) pe_int (fun _ _ => rfl)) (fun _ _ => rfl)) (nomark _))))) pss_never pss_nil)
        (pss_cons (ps_asg (pe_tup (pa_cons (pe_ix ix_list (pv 2) (pe_ix ix_tup (pv 4) pe_int (fun _ _ => rfl)) (fun _ _ => rfl)) (pa_cons (pe_ix ix_list (pv 2) (pe_ix ix_tup (pv 4) pe_int (fun _ _ => rfl)) (fun _ _ => rfl)) pa_nil)))
            (pg_tup rfl (pgs_cons (pg_name (i := 5) nd rfl (Or.inr rfl)) (pgs_cons (pg_name (i := 6) nd rfl (Or.inr rfl)) pgs_nil))))
          (pss_one (ps_setLc (i := 2) (own := [("label", 7)]) (g := gName 7) (tt := tYes) rfl nd rfl rfl (sw_true rfl rfl rfl (by decide +kernel)) (pi_list (pv 2)) (blkOk_by (N := ["size", "ties", "labels", "at", "tie", "old", "new", "label"]) (sc := defScope s_check_tree) (by decide +kernel))
            (fun _ _ _ _ _ => pg_name (i := 7) nd rfl (Or.inl rfl)) (fun _ _ _ _ _ => pts_nil) (fun _ _ _ _ _ => pe_ifExp (pt_cmpR op_eq (pv 7) (pv 5) (nomark _)) (pv 6) (pv 7)))))))
    (pss_one (ps_if (pt_cmpR op_lt (p_len W.nm (pv 1)) (pe_op op_sub (pv 0) pe_int) (nomark _)) pss_never pss_nil))), ?_⟩
  obtain ⟨ks, k1, k2, k3⟩ := id tl
  have tlen := tr.len
  have klen : ks.length = ts.length := by rw [← k1, List.length_map]
  refine ⟨_, rfl, _, rfl, RgOk.of_le (by decide) (by omega) (by decide) (by omega), fun q hq => ?_⟩
  have e0 : Ex H (upd H q (.lst (rgV 0 (n : Int)))) := Ex.new hq
  refine ⟨_, rfl, p, _, rfl, SqL.of (e0 _ _ k2), ?_⟩
  refine for_it (walk_enum (xs := ks.map fun k => V.ref k.1)) (fun i σ H1 => Ex H H1 ∧ ∃ L a b c d, σ = [some (.int n), some (.ref p), some (.ref L), a, b, c, d, none] ∧ H1 L = some (.lst ((Odd.labs n (ts.take i)).map V.int)))
    ⟨e0, q, none, none, none, none, rfl, by rw [upd_same, rgV_eq]; rfl⟩ (fun i σ H1 _ h => SqL.of (h.1 _ _ k2)) ?_ ?_
  · rintro i x σ H1 H2 hi ⟨e1, L, a, b, c, d, rfl, hL⟩ ⟨T, x1, x2, rfl, hT, rfl, hx1, hx2⟩
    cases hx1
    obtain ⟨t', t, rfl, ht, ht2⟩ := ks_get k1 (fun z hz => e1 _ _ (k3 z hz)) hx2
    have mt := List.mem_of_getElem? ht
    obtain ⟨b0, b1, b2⟩ := tr.tie mt
    have e2 : Ex H1 (upd H1 T (.tup [.int (i : Nat), .ref t'])) := Ex.new hT
    refine ⟨T, _, rfl, SqT.of upd_same, rfl, _, _, rfl, _, _, rfl, rfl, ?_⟩
    refine ⟨_, rfl, _, rfl, t', t.1, t.2, n, rfl, e2 _ _ ht2, b0, b1, b2, fun H3 e3 => ⟨true, rfl, iteF ?_⟩⟩
    have e13 := e2.trans e3
    have hL3 := e13 _ _ hL
    have ht3 := e13 _ _ ht2
    have ll := Odd.labs_len n (ts.take i)
    have a1 := lab_at (l := Odd.labs n (ts.take i)) b0 (by omega)
    have a2 := lab_at (l := Odd.labs n (ts.take i)) (x := t.2) (by omega) (by omega)
    refine ⟨_, rfl, _, rfl, t', _, _, _, rfl, rfl, SqT.of ht3, atI_nat (j := 0) rfl, L, _, _, _, rfl, rfl, SqL.of hL3, a1, _, rfl, _, rfl, t', _, _, _, rfl, rfl, SqT.of ht3, atI_nat (j := 1) rfl, L, _, _, _, rfl, rfl, SqL.of hL3, a2, rfl, false, ?_, iteF ?_⟩
    · exact congrArg V.bl (decide_eq_false fun h => Odd.tree_check tr i t ht (V.int.inj h))
    refine ⟨_, rfl, _, rfl, t', _, _, _, rfl, rfl, SqT.of ht3, atI_nat (j := 1) rfl, L, _, _, _, rfl, rfl, SqL.of hL3, a2, _, rfl, _, rfl, t', _, _, _, rfl, rfl, SqT.of ht3, atI_nat (j := 0) rfl, L, _, _, _, rfl, rfl, SqL.of hL3, a1, by show 2 ≤ sizeLine; decide, fun u hu => ?_⟩
    have e4 := e13.trans (Ex.new (o := .tup [.int (Odd.lab (Odd.labs n (ts.take i)) t.2), .int (Odd.lab (Odd.labs n (ts.take i)) t.1)]) hu)
    refine ⟨u, _, rfl, SqT.of upd_same, rfl, _, _, rfl, _, _, rfl, rfl, ?_⟩
    refine ⟨_, rfl, L, rfl, ⟨_, SqL.of (e4 _ _ hL)⟩, fun D hD => lcS1 walk_list (Odd.labs n (ts.take i)) V.int (fun z => V.int (if z = Odd.lab (Odd.labs n (ts.take i)) t.2 then Odd.lab (Odd.labs n (ts.take i)) t.1 else z)) y_map (by rw [List.length_map]) (by rw [List.length_map]; omega) hD (fun H4 e5 => SqL.of (e5 _ _ (e4 _ _ hL))) (fun _ => rfl) (fun z hz H4 e5 Q2 q2 => ?_) (fun H4 e5 h4 => ?_)⟩
    · refine ⟨_, rfl, _, rfl, rfl, _, rfl, ?_⟩
      by_cases hz2 : z = Odd.lab (Odd.labs n (ts.take i)) t.2
      · rw [if_pos hz2] at q2
        rw [decide_eq_true (by rw [hz2])]
        exact ⟨_, rfl, q2 _ (Ex.rfl' _)⟩
      · rw [if_neg hz2] at q2
        rw [decide_eq_false (by intro h; injection h with h; exact hz2 h)]
        exact ⟨_, rfl, q2 _ (Ex.rfl' _)⟩
    · refine ⟨(e1.trans e4).trans e5, D, _, _, _, _, rfl, ?_⟩
      rw [h4, take_snoc ht, Odd.labs_snoc]
      unfold Odd.stepL
      rw [List.map_map]
      rfl
  · rintro σ H1 ⟨e1, L, a, b, c, d, rfl, hL⟩
    refine ⟨_, rfl, p, _, rfl, .inl (SqL.of (e1 _ _ k2)), _, rfl, _, _, rfl, rfl, _, _, rfl, rfl, false, ?_, iteF (k _ e1)⟩
    rw [List.length_map, klen, tlen]
    exact congrArg V.bl (decide_eq_false (by omega))
end
end Od

set_option linter.all false
/-! Plain mathematics: rows of neighbours, sorted ties. -/
namespace Odd
def adj1 (x : Int) (t : Int × Int) : List Int := if t.1 = x then [t.2] else if t.2 = x then [t.1] else []
def adj (ts : List (Int × Int)) (x : Int) : List Int := ts.flatMap (adj1 x)
theorem adj_snoc (ts : List (Int × Int)) (t : Int × Int) (x : Int) : adj (ts ++ [t]) x = adj ts x ++ adj1 x t := by
  unfold adj
  rw [List.flatMap_append, List.flatMap_cons, List.flatMap_nil, List.append_nil]
theorem mem_adj1 {x y : Int} {t : Int × Int} (h : t.1 < t.2) : y ∈ adj1 x t ↔ t = mkt x y ∧ x ≠ y := by
  obtain ⟨a, b⟩ := t
  unfold adj1 mkt
  simp only at h ⊢
  constructor
  · intro m
    by_cases c : a = x
    · rw [if_pos c] at m
      have e : y = b := by simpa using m
      subst c e
      rw [if_pos h]
      exact ⟨rfl, by omega⟩
    · rw [if_neg c] at m
      by_cases d : b = x
      · rw [if_pos d] at m
        have e : y = a := by simpa using m
        subst d e
        rw [if_neg (by omega)]
        exact ⟨rfl, by omega⟩
      · rw [if_neg d] at m
        simp at m
  · rintro ⟨e, ne⟩
    by_cases c : x < y
    · rw [if_pos c] at e
      injection e with e1 e2
      rw [if_pos e1, e2]
      simp
    · rw [if_neg c] at e
      injection e with e1 e2
      rw [if_neg (by omega), if_pos e2, e1]
      simp
theorem mem_adj {ts : List (Int × Int)} {x y : Int} (h : ∀ t ∈ ts, t.1 < t.2) : y ∈ adj ts x ↔ mkt x y ∈ ts ∧ x ≠ y := by
  unfold adj
  rw [List.mem_flatMap]
  constructor
  · rintro ⟨t, mt, m⟩
    obtain ⟨e, ne⟩ := (mem_adj1 (h t mt)).mp m
    exact ⟨e ▸ mt, ne⟩
  · rintro ⟨m, ne⟩
    exact ⟨_, m, (mem_adj1 (h _ m)).mpr ⟨rfl, ne⟩⟩
theorem adj_len : ∀ (ts : List (Int × Int)) (x : Int), (adj ts x).length ≤ ts.length
  | [], _ => Nat.le_refl _
  | t :: r, x => by
    have := adj_len r x
    unfold adj at this ⊢
    rw [List.flatMap_cons, List.length_append, List.length_cons]
    have : (adj1 x t).length ≤ 1 := by
      unfold adj1
      by_cases c : t.1 = x
      · rw [if_pos c]; simp
      · rw [if_neg c]
        by_cases d : t.2 = x
        · rw [if_pos d]; simp
        · rw [if_neg d]; simp
    omega
theorem adj_nodup {x : Int} : ∀ {ts : List (Int × Int)}, ts.Nodup → (∀ t ∈ ts, t.1 < t.2) → (adj ts x).Nodup
  | [], _, _ => List.nodup_nil
  | t :: r, nd, h => by
    have ih := adj_nodup (x := x) (List.nodup_cons.mp nd).2 fun u hu => h u (List.mem_cons_of_mem _ hu)
    have hr := fun u hu => h u (List.mem_cons_of_mem t hu)
    have e : adj (t :: r) x = adj1 x t ++ adj r x := by unfold adj; rw [List.flatMap_cons]
    rw [e]
    refine List.nodup_append.mpr ⟨?_, ih, ?_⟩
    · unfold adj1
      by_cases c : t.1 = x
      · rw [if_pos c]; simp
      · rw [if_neg c]
        by_cases d : t.2 = x
        · rw [if_pos d]; simp
        · rw [if_neg d]; simp
    · intro a ha b hb e
      subst e
      obtain ⟨e1, _⟩ := (mem_adj1 (h t List.mem_cons_self)).mp ha
      obtain ⟨m, _⟩ := (mem_adj hr).mp hb
      rw [← e1] at m
      exact (List.nodup_cons.mp nd).1 m
/-- the rows of neighbours -/
def Near (n : Nat) (ts : List (Int × Int)) (rs : List (List Int)) : Prop :=
  rs.length = n ∧ ∀ (i : Nat) (r : List Int), rs[i]? = some r → r.Pairwise (· < ·) ∧ ∀ y, y ∈ r ↔ (mkt (i : Int) y ∈ ts ∧ (i : Int) ≠ y)
theorem up_strict {l : List Int} (h : l.Pairwise (· ≤ ·)) (nd : l.Nodup) : l.Pairwise (· < ·) := by
  have := h.and nd
  exact this.imp fun {a b} z => by have := z.1; have := z.2; omega
theorem near_of_rows {n : Nat} {ts us : List (Int × Int)} {rs : List (List Int)} (T : IsTree n ts) (p : us.Perm ts) (hl : rs.length = n) (h : ∀ (i : Nat) (r : List Int), rs[i]? = some r → r.Perm (adj us (i : Int)) ∧ r.Pairwise (· ≤ ·)) : Near n ts rs := by
  refine ⟨hl, fun i r hr => ?_⟩
  obtain ⟨pr, le⟩ := h i r hr
  have U := T.perm p
  have lt : ∀ t ∈ us, t.1 < t.2 := fun t ht => (U.tie ht).2.1
  refine ⟨up_strict le (pr.nodup_iff.mpr (adj_nodup U.nodup lt)), fun y => ?_⟩
  rw [pr.mem_iff, mem_adj lt, p.mem_iff]
/-- sorted ties -/
def leP (a b : Int × Int) : Prop := a.1 < b.1 ∨ (a.1 = b.1 ∧ a.2 ≤ b.2)
def Srt (ts : List (Int × Int)) : Prop := ts.Pairwise leP
theorem srt_uniq : ∀ {us ts : List (Int × Int)}, us.Perm ts → Srt us → Srt ts → us = ts
  | [], ts, p, _, _ => by rw [List.nil_perm.mp p]
  | a :: u, [], p, _, _ => by have := p.length_eq; simp at this
  | a :: u, b :: v, p, h1, h2 => by
    have q1 := List.pairwise_cons.mp h1
    have q2 := List.pairwise_cons.mp h2
    have e : a = b := by
      have m1 : a ∈ b :: v := p.mem_iff.mp List.mem_cons_self
      have m2 : b ∈ a :: u := p.mem_iff.mpr List.mem_cons_self
      rcases List.mem_cons.mp m1 with e | m1
      · exact e
      rcases List.mem_cons.mp m2 with e | m2
      · exact e.symm
      have x1 := q2.1 a m1
      have x2 := q1.1 b m2
      unfold leP at x1 x2
      exact Prod.ext (by omega) (by omega)
    subst e
    rw [srt_uniq (List.perm_cons a |>.mp p) q1.2 q2.2]
end Odd

set_option Elab.async false
set_option linter.all false
set_option maxRecDepth 100000
set_option maxHeartbeats 4000000
/-! near_of, _law_near -/
namespace Od
open PySem PySem.Spec PyProof.Rows L2
open C8 (Cal Met InsC pe_c pe_mt pe_mt0 call_isC)
section
variable {P : Program} {w : World} {K : PySem.W.Frag} {mg : Str → Option Value} {base : Heap}
/-! rules whose K is told: within a comprehension -/
theorem kSorted {X : Cx} (h : X.K = K) : CallR X (.builtin "sorted") (rSortedA K) := h ▸ cr_sortedA
theorem kIxL {X : Cx} (h : X.K = K) : IxR X (rIxL K) := h ▸ ix_list
theorem kIxT {X : Cx} (h : X.K = K) : IxR X (rIxT K) := h ▸ ix_tup
theorem kInSeq {X : Cx} (h : X.K = K) : OpR X (compareOp .In) (rIn K false) := h ▸ op_in_seq
theorem kNotInSeq {X : Cx} (h : X.K = K) : OpR X (compareOp .NotIn) (rIn K true) := h ▸ op_notIn_seq
theorem pk_len {X : Cx} {e : Expr} {te : TE} {p pos : Pos} (h : X.K = K) (nm : Nm X.mg) (he : PE X e te) (hg : Gl X "len" := by rfl) (hs : starEach [e] X.env = (false, eval e X.env) :: starEach [] X.env := by rfl) :
    PE X (.Call (.Name "len" p) [e] [] pos) (tCB (fun xs H Q => ∃ q ys, xs = [.ref q] ∧ (SqL K H q ys ∨ SqT K H q ys) ∧ Q (.int ys.length) H) (tCons te tNil)) := by
  subst h
  exact p_len nm he hg hs
def kOf (H : Hp) : V → Int × Int
  | .ref t => match H t with
    | some (.tup [.int i, .int j]) => (i, j)
    | _ => (0, 0)
  | _ => (0, 0)
theorem kOf_ref {H : Hp} {t : Addr} {i j : Int} (h : H t = some (.tup [.int i, .int j])) : kOf H (.ref t) = (i, j) := by
  show (match H t with
    | some (.tup [.int i, .int j]) => (i, j)
    | _ => (0, 0)) = _
  rw [h]
/-- sorted(ties) -/
theorem sortedTL {H : Hp} {a : Addr} {ts : List (Int × Int)} (h : TL H a ts) : ∃ xs : List V, H a = some (.lst xs) ∧ (∀ x ∈ xs, ∃ t, x = V.ref t ∧ H t = some (.tup [.int (kOf H x).1, .int (kOf H x).2])) ∧
    ∀ ys p, SrtO.Srtd (ltP (kOf H)) ys → SrtO.Stb (ltP (kOf H)) ys xs → H p = none → ∃ us : List (Int × Int), us.Perm ts ∧ Odd.Srt us ∧ TL (upd H p (.lst ys)) p us := by
  obtain ⟨ks, k1, k2, k3⟩ := h
  have at_k : ∀ k ∈ ks, kOf H (V.ref k.1) = k.2 := fun k hk => kOf_ref (k3 k hk)
  refine ⟨_, k2, fun x hx => ?_, fun ys p so st hp => ?_⟩
  · obtain ⟨k, hk, rfl⟩ := List.mem_map.mp hx
    rw [at_k k hk]
    exact ⟨k.1, rfl, k3 k hk⟩
  · obtain ⟨ks', pm, e⟩ := perm_lift (fun k : Addr × (Int × Int) => V.ref k.1) st.perm ks rfl
    subst e
    have m' : ∀ k ∈ ks', k ∈ ks := fun k hk => pm.mem_iff.mp hk
    refine ⟨ks'.map (·.2), k1 ▸ pm.map _, ?_, ks', rfl, upd_same, fun k hk => ?_⟩
    · unfold Odd.Srt
      rw [List.pairwise_map]
      refine List.Pairwise.imp_of_mem ?_ (List.pairwise_map.mp so)
      intro x y hx hy hxy
      have z : SrtO.lexB (kOf H (V.ref y.1)) (kOf H (V.ref x.1)) = false := hxy
      rw [at_k x (m' x hx), at_k y (m' y hy)] at z
      have z' := SrtO.lexB_no.mp z
      unfold Odd.leP
      omega
    · have z := k3 k (m' k hk)
      rw [upd_ne (fun e => by rw [e, hp] at z; cases z)]
      exact z
/-- what pairs with a list of addresses -/
theorem paired_rows {H : Hp} {α : Type} {R : α → List Int → Prop} {as : List α} {qs : List Addr} (h : Paired (fun a q => ∃ o, H q = some o ∧ ∃ r : List Int, o = .lst (r.map V.int) ∧ R a r) as qs) :
    ∃ ks : List (Addr × List Int), ks.map (·.1) = qs ∧ (∀ k ∈ ks, H k.1 = some (.lst (k.2.map V.int))) ∧ ks.length = as.length ∧ ∀ (i : Nat) (k : Addr × List Int), ks[i]? = some k → ∃ a, as[i]? = some a ∧ R a k.2 := by
  induction h with
  | nil => exact ⟨[], rfl, by simp, rfl, by simp⟩
  | @cons a q as qs r t ih =>
    obtain ⟨o, ho, rr, rfl, hr⟩ := r
    obtain ⟨ks, e1, e2, e3, e4⟩ := ih
    refine ⟨(q, rr) :: ks, by rw [List.map_cons, e1], fun k hk => ?_, by simp [e3], fun i k hk => ?_⟩
    · rcases List.mem_cons.mp hk with e | hk
      · rw [e]; exact ho
      · exact e2 k hk
    · cases i with
      | zero => rw [List.getElem?_cons_zero] at hk; cases hk; exact ⟨a, rfl, hr⟩
      | succ i => rw [List.getElem?_cons_succ] at hk; exact e4 i k hk
/-- the rows while they grow: the posts' lists at qs, apart -/
def Rows (H0 H : Hp) (N : Addr) (n : Nat) (ts : List (Int × Int)) : Prop := ∃ qs : List Addr, qs.length = n ∧ qs.Nodup ∧ H N = some (.lst (qs.map V.ref)) ∧ (∀ q ∈ qs, H0 q = none ∧ q ≠ N) ∧ ∀ (i : Nat) (q : Addr), qs[i]? = some q → H q = some (.lst ((Odd.adj ts (i : Int)).map V.int))
theorem adj1_ne {x : Int} {t : Int × Int} (h1 : t.1 ≠ x) (h2 : t.2 ≠ x) : Odd.adj1 x t = [] := by unfold Odd.adj1; rw [if_neg h1, if_neg h2]
theorem qs_at {qs : List Addr} {x : Int} (h0 : 0 ≤ x) (h1 : x < qs.length) : ∃ q, qs[x.toNat]? = some q ∧ atI (qs.map V.ref) x = some (.ref q) := by
  have hl : x.toNat < qs.length := by omega
  refine ⟨qs[x.toNat], List.getElem?_eq_getElem hl, ?_⟩
  have z := atI_nat (xs := qs.map V.ref) (j := x.toNat) (v := V.ref qs[x.toNat]) (by rw [List.getElem?_map, List.getElem?_eq_getElem hl]; rfl)
  rw [Int.toNat_of_nonneg h0] at z
  exact z
theorem nd_inj {qs : List Addr} (nd : qs.Nodup) {i j : Nat} {q : Addr} (hi : qs[i]? = some q) (hj : qs[j]? = some q) : i = j := by
  obtain ⟨a1, a2⟩ := List.getElem?_eq_some_iff.mp hi
  obtain ⟨b1, b2⟩ := List.getElem?_eq_some_iff.mp hj
  exact (List.getElem_inj nd).mp (a2.trans b2.symm)

def spNearOf : Sp := fun vs H Q _ => ∃ (n : Nat) (p : Addr) (ts : List (Int × Int)), vs = [.int n, .ref p] ∧ TL H p ts ∧ Odd.IsTree n ts ∧ 1 ≤ n ∧ n ≤ 60 ∧ ∀ q rs H', H q = none → Ex H H' → RL H' q rs → Odd.Near n ts rs → Q (.ref q) H'
theorem sc_near_of : FnScope ["size", "ties", "near", "one", "other", "post", "row"] ["size", "ties"] (defScope s_near_of) := ⟨rfl, rfl, rfl, by decide +kernel, rfl, by decide +kernel, by decide +kernel⟩
theorem c_near_of (W : Wd K mg) : Cal P w K mg base 1 "near_of" spNearOf [] := by
  refine W.cal 20 sc_near_of (fun vs H Q E ⟨n, p, ts, e, _⟩ => by rw [e]; rfl) (fun f cdv A outer s H vs Q E hr ⟨n, p, ts, e, tl, tr, h1, h60, k⟩ => ?_) (fun _ _ _ _ _ _ us hl => match us, hl with | [_, _], _ => rfl)
  subst e
  have nd := sc_near_of.nd
  refine ⟨_, pss_cons (ps_setLc (i := 2) (own := [("post", 5)]) (g := gName 5) (tt := tYes) rfl nd rfl rfl (sw_true rfl rfl rfl (by decide +kernel)) (pi_range1 (by rfl) W.nm.range (pa_cons (pv 0) pa_nil)) (blkOk_by (N := ["size", "ties", "near", "one", "other", "post", "row"]) (sc := defScope s_near_of) (by decide +kernel))
      (fun _ _ _ _ _ => pg_name (i := 5) nd rfl (Or.inl rfl)) (fun _ _ _ _ _ => pts_nil) (fun _ _ _ _ _ => pe_lst pa_nil))
    (pss_cons (ps_for PassesOwn.never rfl (pi_list (pe_callB cr_sortedPO (by rfl) W.nm.sorted boot_sorted (pa_cons (pv 1) pa_nil))) (pg_tup rfl (pgs_cons (pg_name (i := 3) nd rfl (Or.inl rfl)) (pgs_cons (pg_name (i := 4) nd rfl (Or.inl rfl)) pgs_nil)))
      (pss_cons (ps_expr (pe_bm PySem.F.plainAttrs_list PySem.F.slot_list_append PySem.F.type_list_append mt_append (pe_ix ix_list (pv 2) (pv 3) (fun _ _ => rfl)) (pa_cons (pv 4) pa_nil)))
        (pss_one (ps_expr (pe_bm PySem.F.plainAttrs_list PySem.F.slot_list_append PySem.F.type_list_append mt_append (pe_ix ix_list (pv 2) (pv 4) (fun _ _ => rfl)) (pa_cons (pv 3) pa_nil))))))
    (pss_one (ps_ret (pe_lc (own := [("row", 6)]) (g := gName 6) (tt := tYes) rfl nd (pi_list (pv 2)) (blkOk_by (N := ["size", "ties", "near", "one", "other", "post", "row"]) (sc := defScope s_near_of) (by decide +kernel))
      (fun _ _ _ _ _ => pg_name (i := 6) nd rfl (Or.inl rfl)) (fun _ _ _ _ _ => pts_nil) (fun _ _ _ _ _ => pe_callB (kSorted (K := K) rfl) (by rfl) W.nm.sorted boot_sorted (pa_cons (pv 6) pa_nil)))))), ?_⟩
  refine ⟨_, rfl, _, rfl, by omega, by omega, fun D hD => lcO1 walk_range (List.range n) (fun i : Nat => V.int (0 + (i : Int))) (fun _ o => o = .lst []) (fun i H x H' hi y => y_rng i H x H' hi y) (by rw [List.length_range]; omega) (by omega) hD (fun _ _ => trivial) (fun _ => rfl) (fun i hi H4 e5 Q2 q2 => ?_) (fun H4 qs e5 h4 h5 h6 h7 => ?_)⟩
  · exact ⟨by show 0 ≤ sizeLine; decide, fun l hl => q2 l _ _ hl (Ex.new hl) upd_same rfl⟩
  have lq : qs.length = n := by rw [← h7.length, List.length_range]
  obtain ⟨xs0, s1, s2, s3⟩ := sortedTL (tl.mono e5)
  refine ⟨_, rfl, p, xs0, kOf H4, rfl, SqL.of s1, s2, fun ys q so0 st hq => ?_⟩
  obtain ⟨us, pm, so, tl2⟩ := s3 ys q so0 st hq
  have U := tr.perm pm
  obtain ⟨ks, k1, k2, k3⟩ := id tl2
  have kl : ks.length = us.length := by rw [← k1, List.length_map]
  rw [upd_same] at k2
  cases k2
  refine ⟨q, rfl, ⟨_, SqL.of upd_same⟩, for_it (walk_list (xs := ks.map fun k => V.ref k.1)) (fun i σ H1 => Ex H H1 ∧ TL H1 q us ∧ H1 q = some (.lst (ks.map fun k => V.ref k.1)) ∧ q ≠ D ∧ Rows H H1 D n (us.take i) ∧ (∀ k ∈ ks, H1 k.1 = some (.tup [.int k.2.1, .int k.2.2])) ∧ H D = none ∧ ∃ a b, σ = [some (.int n), some (.ref p), some (.ref D), a, b, none, none])
    ?_ (fun i σ H1 _ h => SqL.of h.2.2.1) ?_ ?_⟩
  · refine ⟨e5.trans (Ex.new hq), tl2, upd_same, (ne_of_none h4 hq).symm, ⟨qs, lq, h5, ?_, h6, fun i z hz => ?_⟩, k3, hD, none, none, rfl⟩
    · rw [upd_ne (ne_of_none h4 hq)]
      exact h4
    · obtain ⟨b, o, h2, eo⟩ := Paired.right h7 z (List.mem_of_getElem? hz)
      subst eo
      rw [upd_ne (fun e => by rw [e, hq] at h2; cases h2), h2]
      rfl
  · rintro i x σ H1 H2 hi ⟨e1, tl1, hq1, nqD, ⟨qs, r1, r2, r3, r4, r5⟩, kk, hD0, a, b, rfl⟩ ⟨rfl, hx⟩
    obtain ⟨t', t, rfl, ht, ht2⟩ := ks_get k1 (fun z hz => kk z hz) hx
    obtain ⟨b0, b1, b2⟩ := U.tie (List.mem_of_getElem? ht)
    refine ⟨t', _, rfl, SqT.of ht2, rfl, _, _, rfl, _, _, rfl, rfl, ?_⟩
    obtain ⟨q1, a1, a2⟩ := qs_at (qs := qs) (x := t.1) b0 (by omega)
    obtain ⟨q2, c1, c2⟩ := qs_at (qs := qs) (x := t.2) (by omega) (by omega)
    have n12 : q1 ≠ q2 := fun e => by subst e; have := nd_inj r2 a1 c1; omega
    have v1 := r5 _ _ a1
    have v2 := r5 _ _ c1
    have m1 := List.mem_of_getElem? a1
    have m2 := List.mem_of_getElem? c1
    have f1 := r4 q1 m1
    have f2 := r4 q2 m2
    have small : ∀ x : Int, ((Odd.adj (us.take i) x).map V.int).length < sizeLine := fun x => by
      have z := Odd.adj_len (us.take i) x
      have z2 := U.len
      rw [List.length_take] at z
      rw [List.length_map, sizeLine_eq]
      omega
    refine ⟨_, rfl, _, rfl, D, _, _, _, rfl, rfl, SqL.of r3, a2, .inl ⟨rfl, _, SqL.of v1⟩, _, rfl, _, _, _, rfl, rfl, v1, small _, ?_⟩
    have r3' : upd H2 q1 (.lst ((Odd.adj (us.take i) ((t.1.toNat : Nat) : Int)).map V.int ++ [V.int t.2])) D = some (.lst (qs.map V.ref)) := by rw [upd_ne f1.2.symm]; exact r3
    have v2' : upd H2 q1 (.lst ((Odd.adj (us.take i) ((t.1.toNat : Nat) : Int)).map V.int ++ [V.int t.2])) q2 = some (.lst ((Odd.adj (us.take i) ((t.2.toNat : Nat) : Int)).map V.int)) := by rw [upd_ne n12.symm]; exact v2
    refine ⟨_, rfl, _, rfl, D, _, _, _, rfl, rfl, SqL.of r3', c2, .inl ⟨rfl, _, SqL.of v2'⟩, _, rfl, _, _, _, rfl, rfl, v2', small _, ?_⟩
    have st : ∀ z o, H2 z = some o → z ≠ q1 → z ≠ q2 → upd (upd H2 q1 (.lst ((Odd.adj (us.take i) ((t.1.toNat : Nat) : Int)).map V.int ++ [V.int t.2]))) q2 (.lst ((Odd.adj (us.take i) ((t.2.toNat : Nat) : Int)).map V.int ++ [V.int t.1])) z = some o := fun z o hz n1 n2 => by
      rw [upd_ne n2, upd_ne n1]; exact hz
    have kq : ∀ k ∈ ks, k.1 ≠ q1 ∧ k.1 ≠ q2 := fun k hk => ⟨fun e => (by have z := kk k hk; rw [e, v1] at z; cases z), fun e => (by have z := kk k hk; rw [e, v2] at z; cases z)⟩
    have kk' := fun k hk => st _ _ (kk k hk) (kq k hk).1 (kq k hk).2
    have nq : q ≠ q1 ∧ q ≠ q2 := by
      refine ⟨fun e => ?_, fun e => ?_⟩
      · rw [e, v1] at hq1
        injection hq1 with hq1
        injection hq1 with hq1
        cases ks with
        | nil => rw [List.map_nil] at hx; cases hx
        | cons k0 kr => cases hl : Odd.adj (us.take i) ((t.1.toNat : Nat) : Int) with
          | nil => rw [hl] at hq1; cases hq1
          | cons z zr => rw [hl] at hq1; cases hq1
      · rw [e, v2] at hq1
        injection hq1 with hq1
        injection hq1 with hq1
        cases ks with
        | nil => rw [List.map_nil] at hx; cases hx
        | cons k0 kr => cases hl : Odd.adj (us.take i) ((t.2.toNat : Nat) : Int) with
          | nil => rw [hl] at hq1; cases hq1
          | cons z zr => rw [hl] at hq1; cases hq1
    have hq1' := st _ _ hq1 nq.1 nq.2
    refine ⟨fun z o hz => st z o (e1 z o hz) (fun e => by rw [e, f1.1] at hz; cases hz) (fun e => by rw [e, f2.1] at hz; cases hz), ⟨ks, k1, hq1', kk'⟩, hq1', nqD, ⟨qs, r1, r2, st _ _ r3 f1.2.symm f2.2.symm, r4, fun j z hz => ?_⟩, kk', hD0, _, _, rfl⟩
    rw [take_snoc ht, Odd.adj_snoc, List.map_append]
    have to1 : ((t.1.toNat : Nat) : Int) = t.1 := Int.toNat_of_nonneg b0
    have to2 : ((t.2.toNat : Nat) : Int) = t.2 := Int.toNat_of_nonneg (by omega)
    by_cases z2 : z = q2
    · subst z2
      have ej := nd_inj r2 hz c1
      subst ej
      rw [upd_same]
      have e : Odd.adj1 ((t.2.toNat : Nat) : Int) t = [t.1] := by unfold Odd.adj1; rw [if_neg (by omega), if_pos (by omega)]
      rw [e]
      rfl
    · rw [upd_ne z2]
      by_cases z1 : z = q1
      · subst z1
        have ej := nd_inj r2 hz a1
        subst ej
        rw [upd_same]
        have e : Odd.adj1 ((t.1.toNat : Nat) : Int) t = [t.2] := by unfold Odd.adj1; rw [if_pos (by omega)]
        rw [e]
        rfl
      · rw [upd_ne z1, r5 j z hz]
        have e : Odd.adj1 (j : Int) t = [] := by
          refine adj1_ne (fun e => z1 ?_) (fun e => z2 ?_)
          · have : j = t.1.toNat := by omega
            subst this
            rw [a1] at hz
            exact (Option.some.inj hz).symm
          · have : j = t.2.toNat := by omega
            subst this
            rw [c1] at hz
            exact (Option.some.inj hz).symm
        rw [e, List.map_nil, List.append_nil]
  · rintro σ H1 ⟨e1, tl1, hq1, nqD, ⟨qs, r1, r2, r3, r4, r5⟩, kk, hD0, a, b, rfl⟩
    have lk : (ks.map fun k => V.ref k.1).length = us.length := by rw [List.length_map, kl]
    rw [lk, List.take_length] at r5
    have r5' : ∀ (i : Nat), i < qs.length → ∃ q, qs[i]? = some q ∧ H1 q = some (.lst ((Odd.adj us (i : Int)).map V.int)) := fun i hi => ⟨qs[i], List.getElem?_eq_getElem hi, r5 i _ (List.getElem?_eq_getElem hi)⟩
    refine ⟨_, rfl, D, rfl, ⟨_, SqL.of r3⟩, fun D2 hD2 => lcO1 walk_list (List.range n) (fun i : Nat => V.ref (qs.getD i 0)) (fun i o => ∃ r : List Int, o = .lst (r.map V.int) ∧ r.Perm (Odd.adj us (i : Int)) ∧ r.Pairwise (· ≤ ·))
      (fun i H x H' hi y => ?_) (by rw [List.length_range, List.length_map, r1]) (by rw [List.length_map]; omega) hD2 (fun H4 e5 => SqL.of (e5 _ _ r3)) (fun _ => rfl) (fun i hi H4 e5 Q2 q2 => ?_) (fun H4 qs2 e5 g4 g5 g6 g7 => ?_)⟩
    · obtain ⟨rfl, hx⟩ := y
      rw [List.length_map] at hi
      refine ⟨rfl, i, List.getElem?_range (by omega), ?_⟩
      rw [List.getElem?_map, List.getElem?_eq_getElem hi] at hx
      rw [List.getD_eq_getElem?_getD, List.getElem?_eq_getElem hi]
      exact (Option.some.inj hx).symm
    · rw [List.mem_range] at hi
      have hq0 : qs[i]? = some (qs.getD i 0) := by rw [List.getD_eq_getElem?_getD, List.getElem?_eq_getElem (by omega)]; rfl
      refine ⟨_, rfl, _, _, rfl, .inl (SqL.of (e5 _ _ (r5 i _ hq0))), ?_, fun ms q3 pm le hq3 => q2 q3 _ _ hq3 (Ex.new hq3) upd_same ⟨ms, rfl, pm, le⟩⟩
      have z := Odd.adj_len us (i : Int)
      have z2 := U.len
      omega
    · obtain ⟨ks3, x1, x2, x3, x4⟩ := paired_rows g7
      refine k D2 (ks3.map (·.2)) H4 (e1.free hD2) (e1.trans e5) ⟨ks3, rfl, by rw [g4, ← x1, List.map_map]; rfl, x2⟩ (Odd.near_of_rows tr pm (by rw [List.length_map, x3, List.length_range]) fun i r hr => ?_)
      rw [List.getElem?_map] at hr
      cases ek : ks3[i]? with
      | none => rw [ek] at hr; cases hr
      | some kk3 =>
        rw [ek] at hr
        obtain ⟨j, hj, hR⟩ := x4 i kk3 ek
        have : j = i := by
          obtain ⟨z1, z2⟩ := List.getElem?_eq_some_iff.mp hj
          rw [List.getElem_range] at z2
          exact z2.symm
        subst this
        cases hr
        exact hR

def spLNear : Sp := fun vs H Q _ => ∃ (n : Nat) (p : Addr) (ts : List (Int × Int)), vs = [.int n, .ref p] ∧ TL H p ts ∧ Odd.IsTree n ts ∧ 1 ≤ n ∧ n ≤ 60 ∧ ∀ q rs H', H q = none → Ex H H' → RL H' q rs → Odd.Near n ts rs → Q (.ref q) H'
theorem sc_l_near : FnScope ["_law_size", "_law_ties_here", "_law_found", "_law_one", "_law_other", "_law_post", "_law_row"] ["_law_size", "_law_ties_here"] (defScope s_l_near) := ⟨rfl, rfl, rfl, by decide +kernel, rfl, by decide +kernel, by decide +kernel⟩
theorem c_l_near (W : Wd K mg) : Cal P w K mg base 1 "_law_near" spLNear [] := by
  refine W.cal 41 sc_l_near (fun vs H Q E ⟨n, p, ts, e, _⟩ => by rw [e]; rfl) (fun f cdv A outer s H vs Q E hr ⟨n, p, ts, e, tl, tr, h1, h60, k⟩ => ?_) (fun _ _ _ _ _ _ us hl => match us, hl with | [_, _], _ => rfl)
  subst e
  have nd := sc_l_near.nd
  refine ⟨_, pss_cons (ps_setLc (i := 2) (own := [("_law_post", 5)]) (g := gName 5) (tt := tYes) rfl nd rfl rfl (sw_true rfl rfl rfl (by decide +kernel)) (pi_range1 (by rfl) W.nm.range (pa_cons (pv 0) pa_nil)) (blkOk_by (N := ["_law_size", "_law_ties_here", "_law_found", "_law_one", "_law_other", "_law_post", "_law_row"]) (sc := defScope s_l_near) (by decide +kernel))
      (fun _ _ _ _ _ => pg_name (i := 5) nd rfl (Or.inl rfl)) (fun _ _ _ _ _ => pts_nil) (fun _ _ _ _ _ => pe_lst pa_nil))
    (pss_cons (ps_for PassesOwn.never rfl (pi_list (pe_callB cr_sortedPO (by rfl) W.nm.sorted boot_sorted (pa_cons (pv 1) pa_nil))) (pg_tup rfl (pgs_cons (pg_name (i := 3) nd rfl (Or.inl rfl)) (pgs_cons (pg_name (i := 4) nd rfl (Or.inl rfl)) pgs_nil)))
      (pss_cons (ps_expr (pe_bm PySem.F.plainAttrs_list PySem.F.slot_list_append PySem.F.type_list_append mt_append (pe_ix ix_list (pv 2) (pv 3) (fun _ _ => rfl)) (pa_cons (pv 4) pa_nil)))
        (pss_one (ps_expr (pe_bm PySem.F.plainAttrs_list PySem.F.slot_list_append PySem.F.type_list_append mt_append (pe_ix ix_list (pv 2) (pv 4) (fun _ _ => rfl)) (pa_cons (pv 3) pa_nil))))))
    (pss_one (ps_ret (pe_lc (own := [("_law_row", 6)]) (g := gName 6) (tt := tYes) rfl nd (pi_list (pv 2)) (blkOk_by (N := ["_law_size", "_law_ties_here", "_law_found", "_law_one", "_law_other", "_law_post", "_law_row"]) (sc := defScope s_l_near) (by decide +kernel))
      (fun _ _ _ _ _ => pg_name (i := 6) nd rfl (Or.inl rfl)) (fun _ _ _ _ _ => pts_nil) (fun _ _ _ _ _ => pe_callB (kSorted (K := K) rfl) (by rfl) W.nm.sorted boot_sorted (pa_cons (pv 6) pa_nil)))))), ?_⟩
  refine ⟨_, rfl, _, rfl, by omega, by omega, fun D hD => lcO1 walk_range (List.range n) (fun i : Nat => V.int (0 + (i : Int))) (fun _ o => o = .lst []) (fun i H x H' hi y => y_rng i H x H' hi y) (by rw [List.length_range]; omega) (by omega) hD (fun _ _ => trivial) (fun _ => rfl) (fun i hi H4 e5 Q2 q2 => ?_) (fun H4 qs e5 h4 h5 h6 h7 => ?_)⟩
  · exact ⟨by show 0 ≤ sizeLine; decide, fun l hl => q2 l _ _ hl (Ex.new hl) upd_same rfl⟩
  have lq : qs.length = n := by rw [← h7.length, List.length_range]
  obtain ⟨xs0, s1, s2, s3⟩ := sortedTL (tl.mono e5)
  refine ⟨_, rfl, p, xs0, kOf H4, rfl, SqL.of s1, s2, fun ys q so0 st hq => ?_⟩
  obtain ⟨us, pm, so, tl2⟩ := s3 ys q so0 st hq
  have U := tr.perm pm
  obtain ⟨ks, k1, k2, k3⟩ := id tl2
  have kl : ks.length = us.length := by rw [← k1, List.length_map]
  rw [upd_same] at k2
  cases k2
  refine ⟨q, rfl, ⟨_, SqL.of upd_same⟩, for_it (walk_list (xs := ks.map fun k => V.ref k.1)) (fun i σ H1 => Ex H H1 ∧ TL H1 q us ∧ H1 q = some (.lst (ks.map fun k => V.ref k.1)) ∧ q ≠ D ∧ Rows H H1 D n (us.take i) ∧ (∀ k ∈ ks, H1 k.1 = some (.tup [.int k.2.1, .int k.2.2])) ∧ H D = none ∧ ∃ a b, σ = [some (.int n), some (.ref p), some (.ref D), a, b, none, none])
    ?_ (fun i σ H1 _ h => SqL.of h.2.2.1) ?_ ?_⟩
  · refine ⟨e5.trans (Ex.new hq), tl2, upd_same, (ne_of_none h4 hq).symm, ⟨qs, lq, h5, ?_, h6, fun i z hz => ?_⟩, k3, hD, none, none, rfl⟩
    · rw [upd_ne (ne_of_none h4 hq)]
      exact h4
    · obtain ⟨b, o, h2, eo⟩ := Paired.right h7 z (List.mem_of_getElem? hz)
      subst eo
      rw [upd_ne (fun e => by rw [e, hq] at h2; cases h2), h2]
      rfl
  · rintro i x σ H1 H2 hi ⟨e1, tl1, hq1, nqD, ⟨qs, r1, r2, r3, r4, r5⟩, kk, hD0, a, b, rfl⟩ ⟨rfl, hx⟩
    obtain ⟨t', t, rfl, ht, ht2⟩ := ks_get k1 (fun z hz => kk z hz) hx
    obtain ⟨b0, b1, b2⟩ := U.tie (List.mem_of_getElem? ht)
    refine ⟨t', _, rfl, SqT.of ht2, rfl, _, _, rfl, _, _, rfl, rfl, ?_⟩
    obtain ⟨q1, a1, a2⟩ := qs_at (qs := qs) (x := t.1) b0 (by omega)
    obtain ⟨q2, c1, c2⟩ := qs_at (qs := qs) (x := t.2) (by omega) (by omega)
    have n12 : q1 ≠ q2 := fun e => by subst e; have := nd_inj r2 a1 c1; omega
    have v1 := r5 _ _ a1
    have v2 := r5 _ _ c1
    have m1 := List.mem_of_getElem? a1
    have m2 := List.mem_of_getElem? c1
    have f1 := r4 q1 m1
    have f2 := r4 q2 m2
    have small : ∀ x : Int, ((Odd.adj (us.take i) x).map V.int).length < sizeLine := fun x => by
      have z := Odd.adj_len (us.take i) x
      have z2 := U.len
      rw [List.length_take] at z
      rw [List.length_map, sizeLine_eq]
      omega
    refine ⟨_, rfl, _, rfl, D, _, _, _, rfl, rfl, SqL.of r3, a2, .inl ⟨rfl, _, SqL.of v1⟩, _, rfl, _, _, _, rfl, rfl, v1, small _, ?_⟩
    have r3' : upd H2 q1 (.lst ((Odd.adj (us.take i) ((t.1.toNat : Nat) : Int)).map V.int ++ [V.int t.2])) D = some (.lst (qs.map V.ref)) := by rw [upd_ne f1.2.symm]; exact r3
    have v2' : upd H2 q1 (.lst ((Odd.adj (us.take i) ((t.1.toNat : Nat) : Int)).map V.int ++ [V.int t.2])) q2 = some (.lst ((Odd.adj (us.take i) ((t.2.toNat : Nat) : Int)).map V.int)) := by rw [upd_ne n12.symm]; exact v2
    refine ⟨_, rfl, _, rfl, D, _, _, _, rfl, rfl, SqL.of r3', c2, .inl ⟨rfl, _, SqL.of v2'⟩, _, rfl, _, _, _, rfl, rfl, v2', small _, ?_⟩
    have st : ∀ z o, H2 z = some o → z ≠ q1 → z ≠ q2 → upd (upd H2 q1 (.lst ((Odd.adj (us.take i) ((t.1.toNat : Nat) : Int)).map V.int ++ [V.int t.2]))) q2 (.lst ((Odd.adj (us.take i) ((t.2.toNat : Nat) : Int)).map V.int ++ [V.int t.1])) z = some o := fun z o hz n1 n2 => by
      rw [upd_ne n2, upd_ne n1]; exact hz
    have kq : ∀ k ∈ ks, k.1 ≠ q1 ∧ k.1 ≠ q2 := fun k hk => ⟨fun e => (by have z := kk k hk; rw [e, v1] at z; cases z), fun e => (by have z := kk k hk; rw [e, v2] at z; cases z)⟩
    have kk' := fun k hk => st _ _ (kk k hk) (kq k hk).1 (kq k hk).2
    have nq : q ≠ q1 ∧ q ≠ q2 := by
      refine ⟨fun e => ?_, fun e => ?_⟩
      · rw [e, v1] at hq1
        injection hq1 with hq1
        injection hq1 with hq1
        cases ks with
        | nil => rw [List.map_nil] at hx; cases hx
        | cons k0 kr => cases hl : Odd.adj (us.take i) ((t.1.toNat : Nat) : Int) with
          | nil => rw [hl] at hq1; cases hq1
          | cons z zr => rw [hl] at hq1; cases hq1
      · rw [e, v2] at hq1
        injection hq1 with hq1
        injection hq1 with hq1
        cases ks with
        | nil => rw [List.map_nil] at hx; cases hx
        | cons k0 kr => cases hl : Odd.adj (us.take i) ((t.2.toNat : Nat) : Int) with
          | nil => rw [hl] at hq1; cases hq1
          | cons z zr => rw [hl] at hq1; cases hq1
    have hq1' := st _ _ hq1 nq.1 nq.2
    refine ⟨fun z o hz => st z o (e1 z o hz) (fun e => by rw [e, f1.1] at hz; cases hz) (fun e => by rw [e, f2.1] at hz; cases hz), ⟨ks, k1, hq1', kk'⟩, hq1', nqD, ⟨qs, r1, r2, st _ _ r3 f1.2.symm f2.2.symm, r4, fun j z hz => ?_⟩, kk', hD0, _, _, rfl⟩
    rw [take_snoc ht, Odd.adj_snoc, List.map_append]
    have to1 : ((t.1.toNat : Nat) : Int) = t.1 := Int.toNat_of_nonneg b0
    have to2 : ((t.2.toNat : Nat) : Int) = t.2 := Int.toNat_of_nonneg (by omega)
    by_cases z2 : z = q2
    · subst z2
      have ej := nd_inj r2 hz c1
      subst ej
      rw [upd_same]
      have e : Odd.adj1 ((t.2.toNat : Nat) : Int) t = [t.1] := by unfold Odd.adj1; rw [if_neg (by omega), if_pos (by omega)]
      rw [e]
      rfl
    · rw [upd_ne z2]
      by_cases z1 : z = q1
      · subst z1
        have ej := nd_inj r2 hz a1
        subst ej
        rw [upd_same]
        have e : Odd.adj1 ((t.1.toNat : Nat) : Int) t = [t.2] := by unfold Odd.adj1; rw [if_pos (by omega)]
        rw [e]
        rfl
      · rw [upd_ne z1, r5 j z hz]
        have e : Odd.adj1 (j : Int) t = [] := by
          refine adj1_ne (fun e => z1 ?_) (fun e => z2 ?_)
          · have : j = t.1.toNat := by omega
            subst this
            rw [a1] at hz
            exact (Option.some.inj hz).symm
          · have : j = t.2.toNat := by omega
            subst this
            rw [c1] at hz
            exact (Option.some.inj hz).symm
        rw [e, List.map_nil, List.append_nil]
  · rintro σ H1 ⟨e1, tl1, hq1, nqD, ⟨qs, r1, r2, r3, r4, r5⟩, kk, hD0, a, b, rfl⟩
    have lk : (ks.map fun k => V.ref k.1).length = us.length := by rw [List.length_map, kl]
    rw [lk, List.take_length] at r5
    have r5' : ∀ (i : Nat), i < qs.length → ∃ q, qs[i]? = some q ∧ H1 q = some (.lst ((Odd.adj us (i : Int)).map V.int)) := fun i hi => ⟨qs[i], List.getElem?_eq_getElem hi, r5 i _ (List.getElem?_eq_getElem hi)⟩
    refine ⟨_, rfl, D, rfl, ⟨_, SqL.of r3⟩, fun D2 hD2 => lcO1 walk_list (List.range n) (fun i : Nat => V.ref (qs.getD i 0)) (fun i o => ∃ r : List Int, o = .lst (r.map V.int) ∧ r.Perm (Odd.adj us (i : Int)) ∧ r.Pairwise (· ≤ ·))
      (fun i H x H' hi y => ?_) (by rw [List.length_range, List.length_map, r1]) (by rw [List.length_map]; omega) hD2 (fun H4 e5 => SqL.of (e5 _ _ r3)) (fun _ => rfl) (fun i hi H4 e5 Q2 q2 => ?_) (fun H4 qs2 e5 g4 g5 g6 g7 => ?_)⟩
    · obtain ⟨rfl, hx⟩ := y
      rw [List.length_map] at hi
      refine ⟨rfl, i, List.getElem?_range (by omega), ?_⟩
      rw [List.getElem?_map, List.getElem?_eq_getElem hi] at hx
      rw [List.getD_eq_getElem?_getD, List.getElem?_eq_getElem hi]
      exact (Option.some.inj hx).symm
    · rw [List.mem_range] at hi
      have hq0 : qs[i]? = some (qs.getD i 0) := by rw [List.getD_eq_getElem?_getD, List.getElem?_eq_getElem (by omega)]; rfl
      refine ⟨_, rfl, _, _, rfl, .inl (SqL.of (e5 _ _ (r5 i _ hq0))), ?_, fun ms q3 pm le hq3 => q2 q3 _ _ hq3 (Ex.new hq3) upd_same ⟨ms, rfl, pm, le⟩⟩
      have z := Odd.adj_len us (i : Int)
      have z2 := U.len
      omega
    · obtain ⟨ks3, x1, x2, x3, x4⟩ := paired_rows g7
      refine k D2 (ks3.map (·.2)) H4 (e1.free hD2) (e1.trans e5) ⟨ks3, rfl, by rw [g4, ← x1, List.map_map]; rfl, x2⟩ (Odd.near_of_rows tr pm (by rw [List.length_map, x3, List.length_range]) fun i r hr => ?_)
      rw [List.getElem?_map] at hr
      cases ek : ks3[i]? with
      | none => rw [ek] at hr; cases hr
      | some kk3 =>
        rw [ek] at hr
        obtain ⟨j, hj, hR⟩ := x4 i kk3 ek
        have : j = i := by
          obtain ⟨z1, z2⟩ := List.getElem?_eq_some_iff.mp hj
          rw [List.getElem_range] at z2
          exact z2.symm
        subst this
        cases hr
        exact hR

end
end Od

set_option linter.all false
/-! Plain mathematics of a tree's rows: neighbours by index, the core, its ends, connectedness. -/
namespace Odd
def row (rs : List (List Int)) (x : Int) : List Int := rs.getD x.toNat []
def posts (n : Nat) : List Int := (List.range n).map Int.ofNat
theorem mem_posts {n : Nat} {x : Int} : x ∈ posts n ↔ 0 ≤ x ∧ x < n := by
  unfold posts
  rw [List.mem_map]
  constructor
  · rintro ⟨i, hi, rfl⟩
    rw [List.mem_range] at hi
    exact ⟨Int.natCast_nonneg i, by show (i : Int) < n; omega⟩
  · rintro ⟨h0, h1⟩
    exact ⟨x.toNat, List.mem_range.mpr (by omega), Int.toNat_of_nonneg h0⟩
theorem posts_up {n : Nat} : (posts n).Pairwise (· < ·) := by
  unfold posts
  rw [List.pairwise_map]
  refine List.Pairwise.imp (fun {a b} (h : a < b) => ?_) List.pairwise_lt_range
  show (a : Int) < (b : Int)
  omega
theorem posts_nodup {n : Nat} : (posts n).Nodup := posts_up.imp fun h e => by subst e; exact Int.lt_irrefl _ h
theorem posts_len {n : Nat} : (posts n).length = n := by unfold posts; rw [List.length_map, List.length_range]
theorem up_nodup {l : List Int} (h : l.Pairwise (· < ·)) : l.Nodup := h.imp fun h e => by subst e; exact Int.lt_irrefl _ h
theorem up_len : ∀ (l : List Int) (a n : Int), l.Pairwise (· < ·) → (∀ x ∈ l, a ≤ x ∧ x < n) → (l.length : Int) ≤ max 0 (n - a)
  | [], _, _, _, _ => by simp; omega
  | x :: r, a, n, h, b => by
    have q := List.pairwise_cons.mp h
    have bx := b x List.mem_cons_self
    have ih := up_len r (x + 1) n q.2 fun y hy => ⟨by have := q.1 y hy; omega, (b y (List.mem_cons_of_mem _ hy)).2⟩
    rw [List.length_cons]
    omega
section
variable {n : Nat} {ts : List (Int × Int)} {rs : List (List Int)}
theorem row_get (N : Near n ts rs) {x : Int} (h0 : 0 ≤ x) (h1 : x < n) : rs[x.toNat]? = some (row rs x) := by
  have hl : x.toNat < rs.length := by rw [N.1]; omega
  unfold row
  rw [List.getD_eq_getElem?_getD, List.getElem?_eq_getElem hl]
  rfl
theorem row_up (N : Near n ts rs) {x : Int} (h0 : 0 ≤ x) (h1 : x < n) : (row rs x).Pairwise (· < ·) := (N.2 _ _ (row_get N h0 h1)).1
theorem row_mem (N : Near n ts rs) {x : Int} (h0 : 0 ≤ x) (h1 : x < n) {y : Int} : y ∈ row rs x ↔ (mkt x y ∈ ts ∧ x ≠ y) := by
  have z := (N.2 _ _ (row_get N h0 h1)).2 y
  rw [Int.toNat_of_nonneg h0] at z
  exact z
theorem row_rng (T : IsTree n ts) (N : Near n ts rs) {x : Int} (h0 : 0 ≤ x) (h1 : x < n) {y : Int} (h : y ∈ row rs x) : 0 ≤ y ∧ y < n := by
  obtain ⟨m, _⟩ := (row_mem N h0 h1).mp h
  have z := T.tie m
  rcases mkt_or x y with e | e <;> rw [e] at z
  · exact ⟨by have := z.1; have := z.2.1; simp only at *; omega, z.2.2⟩
  · exact ⟨z.1, by have := z.2.1; have := z.2.2; simp only at *; omega⟩
theorem row_len (T : IsTree n ts) (N : Near n ts rs) {x : Int} (h0 : 0 ≤ x) (h1 : x < n) : (row rs x).length ≤ n := by
  have z := up_len _ 0 n (row_up N h0 h1) fun y hy => row_rng T N h0 h1 hy
  omega
theorem row_nil {x : Int} (h : rs.length ≤ x.toNat) : row rs x = [] := by
  unfold row
  rw [List.getD_eq_getElem?_getD, List.getElem?_eq_none h]
  rfl
/-! ### by index -/
variable {o : Nat → Int} {p : Nat → Nat}
theorem nb_iff (T : Tr n o p) (q : ts.Perm (edges n o p)) (N : Near n ts rs) {i j : Nat} (hi : i < n) (hj : j < n) : o j ∈ row rs (o i) ↔ ((1 ≤ i ∧ p i = j) ∨ (1 ≤ j ∧ p j = i)) := by
  rw [row_mem N (T.lo i hi) (T.hi i hi), q.mem_iff, mem_edges]
  constructor
  · rintro ⟨⟨k, h1, h2, e⟩, ne⟩
    rcases mkt_eq e with ⟨a, b⟩ | ⟨a, b⟩
    · have ik := T.inj _ _ hi h2 a
      have jk := T.inj _ _ hj (T.pn h2) b
      subst ik
      exact .inl ⟨h1, jk.symm⟩
    · have ik := T.inj _ _ hi (T.pn h2) a
      have jk := T.inj _ _ hj h2 b
      subst jk
      exact .inr ⟨h1, ik.symm⟩
  · rintro (⟨h1, e⟩ | ⟨h1, e⟩)
    · have l := T.lt i h1 hi
      exact ⟨⟨i, h1, hi, by rw [e]⟩, fun z => by have := T.inj _ _ hi hj z; omega⟩
    · have l := T.lt j h1 hj
      exact ⟨⟨j, h1, hj, by rw [e, mkt_comm]⟩, fun z => by have := T.inj _ _ hi hj z; omega⟩
theorem one_mem {l : List Int} (h : l.length = 1) {a b : Int} (ha : a ∈ l) (hb : b ∈ l) : a = b := by
  match l, h with
  | [c], _ => rw [List.mem_singleton] at ha hb; rw [ha, hb]
theorem len_one {l : List Int} (nd : l.Nodup) {f : Int → Bool} {a : Int} (ha : a ∈ l) (fa : f a = true) (u : ∀ y ∈ l, f y = true → y = a) : (l.filter f).length = 1 := by
  have nd2 : (l.filter f).Nodup := nd.filter _
  have m : a ∈ l.filter f := List.mem_filter.mpr ⟨ha, fa⟩
  have all : ∀ y ∈ l.filter f, y = a := fun y hy => u y (List.mem_filter.mp hy).1 (List.mem_filter.mp hy).2
  match h : l.filter f with
  | [] => rw [h] at m; cases m
  | [c] => rfl
  | c :: d :: r =>
    rw [h] at nd2 all
    have e1 := all c (by simp)
    have e2 := all d (by simp)
    rw [e1, e2] at nd2
    simp at nd2
theorem two_len {l : List Int} {a b : Int} (ha : a ∈ l) (hb : b ∈ l) (ne : a ≠ b) : 2 ≤ l.length := by
  match l with
  | [] => cases ha
  | [c] => exact absurd (by rw [List.mem_singleton] at ha hb; rw [ha, hb]) ne
  | c :: d :: r => simp
/-- all of a tree is met from one post -/
theorem conn (T0 : IsTree n ts) (N : Near n ts rs) {S : Int → Prop} {g : Int} (h0 : 0 ≤ g) (h1 : g < n) (hg : S g) (cl : ∀ x : Int, 0 ≤ x → x < n → S x → ∀ y ∈ row rs x, S y) : ∀ x : Int, 0 ≤ x → x < n → S x := by
  obtain ⟨o, p, T, q⟩ := T0
  have par : ∀ i, 1 ≤ i → i < n → (S (o i) ↔ S (o (p i))) := fun i a b => by
    have m := (nb_iff T q N b (T.pn b)).mpr (.inl ⟨a, rfl⟩)
    have m2 := (nb_iff T q N (T.pn b) b).mpr (.inr ⟨a, rfl⟩)
    exact ⟨fun s => cl _ (T.lo i b) (T.hi i b) s _ m, fun s => cl _ (T.lo _ (T.pn b)) (T.hi _ (T.pn b)) s _ m2⟩
  have root : ∀ i, i < n → (S (o i) ↔ S (o 0)) := by
    intro i
    induction i using Nat.strongRecOn with
    | _ i ih =>
      intro hi
      rcases Nat.eq_zero_or_pos i with e | e
      · rw [e]
      · exact (par i e hi).trans (ih (p i) (T.lt i e hi) (T.pn hi))
  obtain ⟨i, hi, e⟩ := T.sur g h0 h1
  subst e
  intro x a b
  obtain ⟨j, hj, e⟩ := T.sur x a b
  subst e
  exact (root j hj).mpr ((root i hi).mp hg)
/-! ### the core -/
theorem max_of {P : Nat → Prop} : ∀ {n : Nat} {i : Nat}, i < n → P i → ∃ m, m < n ∧ P m ∧ ∀ j, m < j → j < n → ¬ P j
  | 0, i, h, _ => absurd h (Nat.not_lt_zero i)
  | n + 1, i, h, hp => by
    by_cases c : P n
    · exact ⟨n, Nat.lt_succ_self n, c, fun j a b => by omega⟩
    · have : i < n := by
        rcases Nat.lt_succ_iff_lt_or_eq.mp h with a | a
        · exact a
        · subst a; exact absurd hp c
      obtain ⟨m, a, b, d⟩ := max_of this hp
      refine ⟨m, by omega, b, fun j x y z => ?_⟩
      rcases Nat.lt_succ_iff_lt_or_eq.mp y with y | y
      · exact d j x y z
      · subst y; exact c z
theorem min_of {P : Nat → Prop} {i : Nat} (hp : P i) : ∃ m, P m ∧ m ≤ i ∧ ∀ j, j < m → ¬ P j := by
  induction i using Nat.strongRecOn with
  | _ i ih =>
    by_cases c : ∃ j, j < i ∧ P j
    · obtain ⟨j, a, b⟩ := c
      obtain ⟨m, x, y, z⟩ := ih j a b
      exact ⟨m, x, by omega, z⟩
    · exact ⟨i, hp, Nat.le_refl _, fun j a b => c ⟨j, a, b⟩⟩
/-- the core of 3 posts and more is not empty -/
theorem core_some (T0 : IsTree n ts) (N : Near n ts rs) (h3 : 3 ≤ n) : ∃ x : Int, 0 ≤ x ∧ x < n ∧ (row rs x).length ≠ 1 := by
  obtain ⟨o, p, T, q⟩ := T0
  have p1 : p 1 = 0 := by have := T.lt 1 (by omega) (by omega); omega
  have p2 := T.lt 2 (by omega) (by omega)
  have i01 : o 0 ≠ o 1 := fun e => by have := T.inj _ _ (by omega) (by omega) e; omega
  have i02 : o 0 ≠ o 2 := fun e => by have := T.inj _ _ (by omega) (by omega) e; omega
  have i12 : o 1 ≠ o 2 := fun e => by have := T.inj _ _ (by omega) (by omega) e; omega
  by_cases c : p 2 = 0
  · refine ⟨o 0, T.lo _ (by omega), T.hi _ (by omega), fun e => i12 (one_mem e ?_ ?_)⟩
    · exact (nb_iff T q N (by omega) (by omega)).mpr (.inr ⟨by omega, p1⟩)
    · exact (nb_iff T q N (by omega) (by omega)).mpr (.inr ⟨by omega, c⟩)
  · refine ⟨o 1, T.lo _ (by omega), T.hi _ (by omega), fun e => i02 (one_mem e ?_ ?_)⟩
    · exact (nb_iff T q N (by omega) (by omega)).mpr (.inl ⟨by omega, p1⟩)
    · exact (nb_iff T q N (by omega) (by omega)).mpr (.inr ⟨by omega, by omega⟩)
theorem it_le' (T : Tr n o p) {m i : Nat} (h : i < n) : it p m i ≤ i := T.it_le m i h
/-- two posts of the core: the core has two ends -/
theorem two_ends (T0 : IsTree n ts) (N : Near n ts rs) {f : Int → Bool} (hf : ∀ x : Int, 0 ≤ x → x < n → (f x = true ↔ (row rs x).length ≠ 1)) {x y : Int} (hx0 : 0 ≤ x) (hx1 : x < n) (hy0 : 0 ≤ y) (hy1 : y < n) (fx : f x = true) (fy : f y = true) (ne : x ≠ y) :
    ∃ a b : Int, a ≠ b ∧ (0 ≤ a ∧ a < n ∧ f a = true ∧ ((row rs a).filter f).length = 1) ∧ (0 ≤ b ∧ b < n ∧ f b = true ∧ ((row rs b).filter f).length = 1) := by
  obtain ⟨o, p, T, q⟩ := T0
  have T0 : IsTree n ts := ⟨o, p, T, q⟩
  obtain ⟨ix, hix, ex⟩ := T.sur x hx0 hx1
  obtain ⟨iy, hiy, ey⟩ := T.sur y hy0 hy1
  subst ex ey
  have nexy : ix ≠ iy := fun e => ne (by rw [e])
  let C : Nat → Prop := fun i => i < n ∧ f (o i) = true
  obtain ⟨r, ⟨rn, rc⟩, _, rmin⟩ := min_of (P := C) (i := ix) ⟨hix, fx⟩
  have core : ∀ {i : Nat}, i < n → (f (o i) = true ↔ (row rs (o i)).length ≠ 1) := fun {i} h => hf _ (T.lo i h) (T.hi i h)
  -- the parent of a post of the core
  have par : ∀ i, i < n → r < i → f (o (p i)) = true := by
    intro i hi hr
    rw [core (T.pn hi)]
    intro e
    have only : ∀ k, k < n → o k ∈ row rs (o (p i)) → k = i := fun k hk mk => by
      have mi := (nb_iff T q N (T.pn hi) hi).mpr (.inr ⟨by omega, rfl⟩)
      exact T.inj _ _ hk hi (one_mem e mk mi)
    have li := T.lt i (by omega) hi
    by_cases z : p i = 0
    · by_cases r0 : r = 0
      · rw [z] at e
        rw [r0] at rc
        exact (core (by omega)).mp rc e
      · have p1 : p 1 = 0 := by have := T.lt 1 (by omega) (by omega); omega
        have := only 1 (by omega) ((nb_iff T q N (T.pn hi) (by omega)).mpr (.inr ⟨by omega, by omega⟩))
        omega
    · have l2 := T.lt (p i) (by omega) (T.pn hi)
      have := only (p (p i)) (T.pn (T.pn hi)) ((nb_iff T q N (T.pn hi) (T.pn (T.pn hi))).mpr (.inl ⟨by omega, rfl⟩))
      omega
  -- one with no child in the core
  have last : ∀ m, m < n → r < m → f (o m) = true → (∀ j, j < n → 1 ≤ j → p j = m → f (o j) ≠ true) → ((row rs (o m)).filter f).length = 1 := by
    intro m hm hr hc no
    refine len_one (up_nodup (row_up N (T.lo m hm) (T.hi m hm))) ((nb_iff T q N hm (T.pn hm)).mpr (.inl ⟨by omega, rfl⟩)) (par m hm hr) fun y hy fy => ?_
    obtain ⟨a, b⟩ := row_rng T0 N (T.lo m hm) (T.hi m hm) hy
    obtain ⟨j, hj, e⟩ := T.sur y a b
    subst e
    rcases (nb_iff T q N hm hj).mp hy with ⟨_, e⟩ | ⟨j1, e⟩
    · rw [e]
    · exact absurd fy (no j hj j1 e)
  -- the greatest
  have some_gt : ∃ i, i < n ∧ (C i ∧ r < i) := by
    by_cases a : r < ix
    · exact ⟨ix, hix, ⟨hix, fx⟩, a⟩
    · by_cases b : r < iy
      · exact ⟨iy, hiy, ⟨hiy, fy⟩, b⟩
      · have := rmin ix
        have := rmin iy
        have h1 : ix = r := by
          rcases Nat.lt_or_ge ix r with c | c
          · exact absurd ⟨hix, fx⟩ (rmin ix c)
          · omega
        have h2 : iy = r := by
          rcases Nat.lt_or_ge iy r with c | c
          · exact absurd ⟨hiy, fy⟩ (rmin iy c)
          · omega
        omega
  obtain ⟨i0, hi0, hP0⟩ := some_gt
  obtain ⟨m, hm, ⟨⟨_, cm⟩, rm⟩, mmax⟩ := max_of (P := fun i => C i ∧ r < i) hi0 hP0
  have endm := last m hm rm cm fun j hj j1 e fj => by
    have := T.lt j j1 hj
    exact mmax j (by omega) hj ⟨⟨hj, fj⟩, by omega⟩
  -- m hangs below a child of r
  have hang : ∀ i, i < n → r < i → f (o i) = true → ∃ c k, c < n ∧ r < c ∧ p c = r ∧ f (o c) = true ∧ it p k i = c := by
    intro i
    induction i using Nat.strongRecOn with
    | _ i ih =>
      intro hi hr hc
      have l := T.lt i (by omega) hi
      have pc := par i hi hr
      by_cases z : p i = r
      · exact ⟨i, 0, hi, hr, z, hc, rfl⟩
      · have : ¬ p i < r := fun h => rmin _ h ⟨T.pn hi, pc⟩
        obtain ⟨c, k, a1, a2, a3, a4, a5⟩ := ih (p i) l (T.pn hi) (by omega) pc
        exact ⟨c, k + 1, a1, a2, a3, a4, a5⟩
  obtain ⟨c, km, cn, rc', pc, fc, ekm⟩ := hang m hm rm cm
  by_cases other : ∃ d, d < n ∧ r < d ∧ p d = r ∧ f (o d) = true ∧ d ≠ c
  · obtain ⟨d, dn, rd, pd, fd, ndc⟩ := other
    obtain ⟨e, he, ⟨⟨_, ce⟩, kd, ekd⟩, emax⟩ := max_of (P := fun i => C i ∧ ∃ k, it p k i = d) dn ⟨⟨dn, fd⟩, 0, rfl⟩
    have de : d ≤ e := by rw [← ekd]; exact T.it_le kd e he
    have ende := last e he (by omega) ce fun j hj j1 ej fj => by
      have := T.lt j j1 hj
      exact emax j (by omega) hj ⟨⟨hj, fj⟩, kd + 1, by rw [show it p (kd + 1) j = it p kd (p j) from rfl, ej, ekd]⟩
    refine ⟨o m, o e, fun z => ?_, ⟨T.lo m hm, T.hi m hm, cm, endm⟩, ⟨T.lo e he, T.hi e he, ce, ende⟩⟩
    have me := T.inj _ _ hm he z
    subst me
    -- m would hang below both
    have below : ∀ (a b u v : Nat), u < n → v < n → r < u → r < v → p u = r → it p a m = u → it p b m = v → a < b → False := by
      intro a b u v hu hv ru rv pu ea eb ab
      have e1 : it p (b - a) u = v := by rw [← ea, ← it_add, show a + (b - a) = b by omega]; exact eb
      have e2 : it p (b - a - 1 + 1) u = v := by rw [show b - a - 1 + 1 = b - a by omega]; exact e1
      have e3 : it p (b - a - 1) (p u) = v := e2
      rw [pu] at e3
      have := T.it_le (b - a - 1) r rn
      omega
    rcases Nat.lt_trichotomy km kd with h | h | h
    · exact below km kd c d cn dn rc' rd pc ekm ekd h
    · subst h
      exact ndc (ekd.symm.trans ekm)
    · exact below kd km d c dn cn rd rc' pd ekd ekm h
  · have endr : ((row rs (o r)).filter f).length = 1 := by
      refine len_one (up_nodup (row_up N (T.lo r rn) (T.hi r rn))) ((nb_iff T q N rn cn).mpr (.inr ⟨by omega, pc⟩)) fc fun y hy fy => ?_
      obtain ⟨a, b⟩ := row_rng T0 N (T.lo r rn) (T.hi r rn) hy
      obtain ⟨j, hj, e⟩ := T.sur y a b
      subst e
      rcases (nb_iff T q N rn hj).mp hy with ⟨r1, e⟩ | ⟨j1, e⟩
      · have := T.lt r r1 rn
        exact absurd ⟨hj, fy⟩ (rmin j (by omega))
      · have := T.lt j j1 hj
        by_cases jc : j = c
        · rw [jc]
        · exact absurd ⟨j, hj, by omega, e, fy, jc⟩ other
    exact ⟨o m, o r, fun z => by have := T.inj _ _ hm rn z; omega, ⟨T.lo m hm, T.hi m hm, cm, endm⟩, ⟨T.lo r rn, T.hi r rn, rc, endr⟩⟩
end
end Odd

set_option linter.all false
/-! Plain mathematics: the search from a goal, and the path. -/
namespace Odd
abbrev TS := List (Int × Int) × List Int
def hasK (tw : List (Int × Int)) (x : Int) : Bool := tw.any fun kv => decide (kv.1 = x)
def look (tw : List (Int × Int)) (x : Int) : Option Int := (tw.find? fun kv => decide (kv.1 = x)).map (·.2)
def ins1 (h : Int) (s : TS) (p : Int) : TS := if hasK s.1 p = true then s else (s.1 ++ [(p, h)], s.2 ++ [p])
def tstep (rs : List (List Int)) (s : TS) : TS := match s.2.getLast? with
  | none => s
  | some h => (row rs h).foldl (ins1 h) (s.1, s.2.dropLast)
def titer (rs : List (List Int)) (g : Int) : Nat → TS
  | 0 => ([(g, g)], [g])
  | m + 1 => tstep rs (titer rs g m)
def toward (rs : List (List Int)) (g : Int) : List (Int × Int) := (titer rs g 100).1
def keysT (tw : List (Int × Int)) : List Int := tw.map (·.1)
theorem hasK_iff {tw : List (Int × Int)} {x : Int} : hasK tw x = true ↔ x ∈ keysT tw := by
  unfold hasK keysT
  rw [List.any_eq_true, List.mem_map]
  constructor
  · rintro ⟨kv, m, e⟩
    exact ⟨kv, m, of_decide_eq_true e⟩
  · rintro ⟨kv, m, e⟩
    exact ⟨kv, m, decide_eq_true e⟩
structure Good (n : Nat) (g : Int) (s : TS) : Prop where
  nd : (keysT s.1).Nodup
  rng : ∀ x ∈ keysT s.1, 0 ≤ x ∧ x < n
  wt : ∀ x ∈ s.2, x ∈ keysT s.1
  wnd : s.2.Nodup
  hd : ∃ r, s.1 = (g, g) :: r
  ptr : ∀ (i : Nat) (kv : Int × Int), 1 ≤ i → s.1[i]? = some kv → ∃ j kw, j < i ∧ s.1[j]? = some kw ∧ kw.1 = kv.2
theorem keys_snoc (tw : List (Int × Int)) (p h : Int) : keysT (tw ++ [(p, h)]) = keysT tw ++ [p] := by
  unfold keysT
  rw [List.map_append]
  rfl
theorem ins1_good {n : Nat} {g h p : Int} {s : TS} (G : Good n g s) (hh : h ∈ keysT s.1) (h0 : 0 ≤ p) (h1 : p < n) : Good n g (ins1 h s p) := by
  unfold ins1
  by_cases c : hasK s.1 p = true
  · rw [if_pos c]; exact G
  · rw [if_neg c]
    have nk : p ∉ keysT s.1 := fun m => c (hasK_iff.mpr m)
    constructor
    · show (keysT (s.1 ++ [(p, h)])).Nodup
      rw [keys_snoc]
      exact List.nodup_append.mpr ⟨G.nd, by simp, fun a ha b hb e => by rw [List.mem_singleton] at hb; subst hb; subst e; exact nk ha⟩
    · intro x hx
      rw [show keysT (s.1 ++ [(p, h)], s.2 ++ [p]).1 = keysT s.1 ++ [p] from keys_snoc _ _ _] at hx
      rcases List.mem_append.mp hx with m | m
      · exact G.rng x m
      · rw [List.mem_singleton] at m
        subst m
        exact ⟨h0, h1⟩
    · intro x hx
      rw [show keysT (s.1 ++ [(p, h)], s.2 ++ [p]).1 = keysT s.1 ++ [p] from keys_snoc _ _ _]
      rcases List.mem_append.mp hx with m | m
      · exact List.mem_append_left _ (G.wt x m)
      · exact List.mem_append_right _ m
    · exact List.nodup_append.mpr ⟨G.wnd, by simp, fun a ha b hb e => by rw [List.mem_singleton] at hb; subst hb; subst e; exact nk (G.wt _ ha)⟩
    · obtain ⟨r, e⟩ := G.hd
      exact ⟨r ++ [(p, h)], by show s.1 ++ _ = _; rw [e]; rfl⟩
    · intro i kv hi hk
      have hk : (s.1 ++ [(p, h)])[i]? = some kv := hk
      show ∃ j kw, j < i ∧ (s.1 ++ [(p, h)])[j]? = some kw ∧ kw.1 = kv.2
      by_cases l : i < s.1.length
      · rw [List.getElem?_append_left l] at hk
        obtain ⟨j, kw, a, b, d⟩ := G.ptr i kv hi hk
        exact ⟨j, kw, a, by rw [List.getElem?_append_left (by omega)]; exact b, d⟩
      · rw [List.getElem?_append_right (by omega)] at hk
        have i0 : i - s.1.length = 0 := by
          cases e : i - s.1.length with
          | zero => rfl
          | succ z => rw [e] at hk; simp at hk
        rw [i0] at hk
        cases hk
        unfold keysT at hh
        obtain ⟨kw, m, e⟩ := List.mem_map.mp hh
        obtain ⟨j, hj⟩ := List.getElem?_of_mem m
        have jl := (List.getElem?_eq_some_iff.mp hj).1
        exact ⟨j, kw, by omega, by rw [List.getElem?_append_left jl]; exact hj, e⟩
theorem ins1_sub {h p : Int} {s : TS} {x : Int} (m : x ∈ keysT s.1) : x ∈ keysT (ins1 h s p).1 := by
  unfold ins1
  by_cases c : hasK s.1 p = true
  · rw [if_pos c]; exact m
  · rw [if_neg c]
    rw [show keysT (s.1 ++ [(p, h)], s.2 ++ [p]).1 = keysT s.1 ++ [p] from keys_snoc _ _ _]
    exact List.mem_append_left _ m
theorem ins1_has {h p : Int} {s : TS} : p ∈ keysT (ins1 h s p).1 := by
  unfold ins1
  by_cases c : hasK s.1 p = true
  · rw [if_pos c]; exact hasK_iff.mp c
  · rw [if_neg c]
    rw [show keysT (s.1 ++ [(p, h)], s.2 ++ [p]).1 = keysT s.1 ++ [p] from keys_snoc _ _ _]
    exact List.mem_append_right _ (by simp)
theorem ins1_wt {h p : Int} {s : TS} {x : Int} (m : x ∈ s.2) : x ∈ (ins1 h s p).2 := by
  unfold ins1
  by_cases c : hasK s.1 p = true
  · rw [if_pos c]; exact m
  · rw [if_neg c]; exact List.mem_append_left _ m
/-- a key that is new waits -/
theorem ins1_new {h p : Int} {s : TS} {x : Int} (m : x ∈ keysT (ins1 h s p).1) : x ∈ keysT s.1 ∨ x ∈ (ins1 h s p).2 := by
  unfold ins1 at m ⊢
  by_cases c : hasK s.1 p = true
  · rw [if_pos c] at m ⊢; exact .inl m
  · rw [if_neg c] at m ⊢
    rw [show keysT (s.1 ++ [(p, h)], s.2 ++ [p]).1 = keysT s.1 ++ [p] from keys_snoc _ _ _] at m
    rcases List.mem_append.mp m with m | m
    · exact .inl m
    · exact .inr (List.mem_append_right _ m)
theorem ins1_bal {h p : Int} {s : TS} : (ins1 h s p).1.length + s.2.length = s.1.length + (ins1 h s p).2.length := by
  unfold ins1
  by_cases c : hasK s.1 p = true
  · rw [if_pos c]
  · rw [if_neg c]
    show (s.1 ++ [(p, h)]).length + _ = _ + (s.2 ++ [p]).length
    rw [List.length_append, List.length_append, List.length_singleton, List.length_singleton]
    omega
theorem fold_inv {n : Nat} {g h : Int} : ∀ (l : List Int) (s : TS), Good n g s → h ∈ keysT s.1 → (∀ p ∈ l, 0 ≤ p ∧ p < n) →
    Good n g (l.foldl (ins1 h) s) ∧ (∀ x ∈ keysT s.1, x ∈ keysT (l.foldl (ins1 h) s).1) ∧ (∀ x ∈ l, x ∈ keysT (l.foldl (ins1 h) s).1) ∧ (∀ x ∈ s.2, x ∈ (l.foldl (ins1 h) s).2) ∧
      (∀ x ∈ keysT (l.foldl (ins1 h) s).1, x ∈ keysT s.1 ∨ x ∈ (l.foldl (ins1 h) s).2) ∧ (l.foldl (ins1 h) s).1.length + s.2.length = s.1.length + (l.foldl (ins1 h) s).2.length
  | [], s, G, _, _ => ⟨G, fun _ m => m, fun _ m => absurd m (by simp), fun _ m => m, fun _ m => .inl m, rfl⟩
  | p :: l, s, G, hh, hr => by
    have hp := hr p List.mem_cons_self
    obtain ⟨a1, a2, a3, a4, a5, a6⟩ := fold_inv l (ins1 h s p) (ins1_good G hh hp.1 hp.2) (ins1_sub hh) fun q hq => hr q (List.mem_cons_of_mem _ hq)
    rw [List.foldl_cons]
    refine ⟨a1, fun x m => a2 x (ins1_sub m), fun x m => ?_, fun x m => a4 x (ins1_wt m), fun x m => ?_, ?_⟩
    · rcases List.mem_cons.mp m with e | m
      · subst e; exact a2 _ ins1_has
      · exact a3 x m
    · rcases a5 x m with z | z
      · rcases ins1_new z with y | y
        · exact .inl y
        · exact .inr (a4 x y)
      · exact .inr z
    · have := ins1_bal (h := h) (p := p) (s := s)
      omega
theorem good_start {n : Nat} {g : Int} (h0 : 0 ≤ g) (h1 : g < n) : Good n g ([(g, g)], [g]) := by
  constructor
  · show [g].Nodup
    simp
  · intro x m
    have m : x ∈ [g] := m
    rw [List.mem_singleton] at m
    subst m
    exact ⟨h0, h1⟩
  · intro x m; exact m
  · simp
  · exact ⟨[], rfl⟩
  · intro i kv hi hk
    cases i with
    | zero => omega
    | succ i => simp at hk
section
variable {n : Nat} {ts : List (Int × Int)} {rs : List (List Int)}
theorem keys_len {g : Int} {s : TS} (G : Good n g s) : s.1.length ≤ n := by
  have h : (keysT s.1).length ≤ (posts n).length := by
    have sub : ∀ x ∈ keysT s.1, x ∈ posts n := fun x hx => mem_posts.mpr (G.rng x hx)
    have key : ∀ (l m : List Int), l.Nodup → (∀ x ∈ l, x ∈ m) → l.length ≤ m.length := by
      intro l
      induction l with
      | nil => intro m _ _; simp
      | cons a r ih =>
        intro m nd sub
        have q := List.nodup_cons.mp nd
        have ma := sub a List.mem_cons_self
        have := ih (m.erase a) q.2 fun x hx => (List.mem_erase_of_ne (fun (e : x = a) => q.1 (by rw [← e]; exact hx))).mpr (sub x (List.mem_cons_of_mem _ hx))
        rw [List.length_erase_of_mem ma] at this
        have : 0 < m.length := List.length_pos_of_mem ma
        rw [List.length_cons]
        omega
    exact key _ _ G.nd sub
  rw [posts_len] at h
  unfold keysT at h
  rw [List.length_map] at h
  exact h
theorem last_split {l : List Int} {h : Int} (e : l.getLast? = some h) : l = l.dropLast ++ [h] := by
  have ne : l ≠ [] := fun z => by subst z; simp at e
  have z := List.dropLast_concat_getLast ne
  rw [List.getLast?_eq_some_getLast ne] at e
  cases e
  exact z.symm
theorem tinv (T : IsTree n ts) (N : Near n ts rs) {g : Int} (h0 : 0 ≤ g) (h1 : g < n) : ∀ m, Good n g (titer rs g m) ∧ (∀ x ∈ keysT (titer rs g m).1, x ∈ (titer rs g m).2 ∨ ∀ y ∈ row rs x, y ∈ keysT (titer rs g m).1) ∧ ((titer rs g m).2 = [] ∨ m + (titer rs g m).2.length = (titer rs g m).1.length)
  | 0 => ⟨good_start h0 h1, fun x m => .inl m, .inr rfl⟩
  | m + 1 => by
    obtain ⟨G, cl, bal⟩ := tinv T N h0 h1 m
    show Good n g (tstep rs (titer rs g m)) ∧ _
    have e1 : titer rs g (m + 1) = tstep rs (titer rs g m) := rfl
    rw [e1]
    generalize titer rs g m = s at G cl bal
    unfold tstep
    cases e : s.2.getLast? with
    | none =>
      have : s.2 = [] := List.getLast?_eq_none_iff.mp e
      exact ⟨G, cl, .inl this⟩
    | some h =>
      have sp := last_split e
      have mh : h ∈ s.2 := by rw [sp]; exact List.mem_append_right _ (by simp)
      have kh := G.wt h mh
      have rh := G.rng h kh
      have nw : s.2.dropLast.Nodup ∧ h ∉ s.2.dropLast := by
        have z := G.wnd
        rw [sp] at z
        have q := List.nodup_append.mp z
        exact ⟨q.1, fun m => q.2.2 h m h (by simp) rfl⟩
      have G1 : Good n g (s.1, s.2.dropLast) := ⟨G.nd, G.rng, fun x m => G.wt x (List.dropLast_subset _ m), nw.1, G.hd, G.ptr⟩
      obtain ⟨a1, a2, a3, a4, a5, a6⟩ := fold_inv (row rs h) (s.1, s.2.dropLast) G1 kh fun p hp => row_rng T N rh.1 rh.2 hp
      refine ⟨a1, fun x hx => ?_, ?_⟩
      · rcases a5 x hx with z | z
        · rcases cl x z with w | w
          · rw [sp] at w
            rcases List.mem_append.mp w with w | w
            · exact .inl (a4 x w)
            · rw [List.mem_singleton] at w
              subst w
              exact .inr a3
          · exact .inr fun y hy => a2 y (w y hy)
        · exact .inl z
      · have lp : 0 < s.2.length := List.length_pos_of_mem mh
        have ld : s.2.dropLast.length = s.2.length - 1 := List.length_dropLast
        rcases bal with b | b
        · rw [b] at mh; cases mh
        · refine .inr ?_
          have a6' : ((row rs h).foldl (ins1 h) (s.1, s.2.dropLast)).1.length + s.2.dropLast.length = s.1.length + ((row rs h).foldl (ins1 h) (s.1, s.2.dropLast)).2.length := a6
          show m + 1 + ((row rs h).foldl (ins1 h) (s.1, s.2.dropLast)).2.length = ((row rs h).foldl (ins1 h) (s.1, s.2.dropLast)).1.length
          omega
theorem titer_stop {g : Int} {m : Nat} (h : (titer rs g m).2 = []) : ∀ k, titer rs g (m + k) = titer rs g m
  | 0 => rfl
  | k + 1 => by
    show tstep rs (titer rs g (m + k)) = _
    rw [titer_stop h k]
    unfold tstep
    rw [h]
    rfl
/-- the search ends before the 61st pop -/
theorem t_small (T : IsTree n ts) (N : Near n ts rs) {g : Int} (h0 : 0 ≤ g) (h1 : g < n) {m : Nat} (h : (titer rs g m).2 ≠ []) : m < n := by
  obtain ⟨G, _, bal⟩ := tinv T N h0 h1 m
  rcases bal with b | b
  · exact absurd b h
  · have := keys_len G
    have : 0 < (titer rs g m).2.length := List.length_pos_iff.mpr h
    omega
theorem toward_end {g : Int} {m : Nat} (hm : m ≤ 100) (h : (titer rs g m).2 = []) : toward rs g = (titer rs g m).1 := by
  unfold toward
  have := titer_stop h (100 - m)
  rw [show m + (100 - m) = 100 by omega] at this
  rw [this]
theorem toward_good (T : IsTree n ts) (N : Near n ts rs) (h60 : n ≤ 60) {g : Int} (h0 : 0 ≤ g) (h1 : g < n) : (∃ r, toward rs g = (g, g) :: r) ∧ (∀ x : Int, 0 ≤ x → x < n → x ∈ keysT (toward rs g)) ∧ (keysT (toward rs g)).Nodup ∧
    (∀ (i : Nat) (kv : Int × Int), 1 ≤ i → (toward rs g)[i]? = some kv → ∃ j kw, j < i ∧ (toward rs g)[j]? = some kw ∧ kw.1 = kv.2) ∧ (toward rs g).length ≤ n := by
  obtain ⟨G, cl, bal⟩ := tinv T N h0 h1 100
  have em : (titer rs g 100).2 = [] := by
    by_cases c : (titer rs g 100).2 = []
    · exact c
    · have := t_small T N h0 h1 c
      omega
  unfold toward
  refine ⟨G.hd, ?_, G.nd, G.ptr, keys_len G⟩
  have hg : g ∈ keysT (titer rs g 100).1 := by
    obtain ⟨r, e⟩ := G.hd
    rw [e]
    exact List.mem_cons_self
  exact conn T N h0 h1 hg fun x _ _ hx y hy => by
    rcases cl x hx with z | z
    · rw [em] at z; cases z
    · exact z y hy
/-- the place of a key -/
def idx (tw : List (Int × Int)) (x : Int) : Nat := tw.findIdx fun kv => decide (kv.1 = x)
theorem idx_of {tw : List (Int × Int)} (nd : (keysT tw).Nodup) {i : Nat} {kv : Int × Int} (h : tw[i]? = some kv) : idx tw kv.1 = i ∧ look tw kv.1 = some kv.2 := by
  obtain ⟨hi, e⟩ := List.getElem?_eq_some_iff.mp h
  have no : ∀ j, j < i → (hj : j < tw.length) → ¬ tw[j].1 = kv.1 := fun j a b c => by
    have x1 : (keysT tw)[j]'(by unfold keysT; rw [List.length_map]; exact b) = (keysT tw)[i]'(by unfold keysT; rw [List.length_map]; exact hi) := by
      unfold keysT
      rw [List.getElem_map, List.getElem_map, c, e]
    have := (List.getElem_inj nd).mp x1
    omega
  have ix : idx tw kv.1 = i := by
    unfold idx
    rw [List.findIdx_eq hi]
    refine ⟨by rw [e]; exact decide_eq_true rfl, fun j hj => ?_⟩
    exact decide_eq_false (no j hj (by omega))
  refine ⟨ix, ?_⟩
  unfold look
  have : tw.find? (fun kv' => decide (kv'.1 = kv.1)) = some kv := by
    rw [List.find?_eq_some_iff_getElem]
    exact ⟨decide_eq_true rfl, i, hi, e, fun j hj => by simp only [Bool.not_eq_true']; exact decide_eq_false (no j hj (by omega))⟩
  rw [this]
  rfl
theorem look_step {g : Int} {tw : List (Int × Int)} (hd : ∃ r, tw = (g, g) :: r) (nd : (keysT tw).Nodup) (ptr : ∀ (i : Nat) (kv : Int × Int), 1 ≤ i → tw[i]? = some kv → ∃ j kw, j < i ∧ tw[j]? = some kw ∧ kw.1 = kv.2) {x : Int} (hx : x ∈ keysT tw) (ne : x ≠ g) :
    ∃ v, look tw x = some v ∧ v ∈ keysT tw ∧ idx tw v < idx tw x := by
  unfold keysT at hx
  obtain ⟨kv, m, e⟩ := List.mem_map.mp hx
  obtain ⟨i, hi⟩ := List.getElem?_of_mem m
  obtain ⟨a, b⟩ := idx_of nd hi
  subst e
  have i1 : 1 ≤ i := by
    rcases Nat.eq_zero_or_pos i with z | z
    · subst z
      obtain ⟨r, e⟩ := hd
      rw [e] at hi
      cases hi
      exact absurd rfl ne
    · exact z
  obtain ⟨j, kw, c, d, f⟩ := ptr i kv i1 hi
  obtain ⟨a2, _⟩ := idx_of nd d
  rw [f] at a2
  refine ⟨kv.2, b, ?_, by omega⟩
  unfold keysT
  rw [List.mem_map]
  exact ⟨kw, List.mem_of_getElem? d, f⟩
theorem idx_lt {tw : List (Int × Int)} {x : Int} (hx : x ∈ keysT tw) : idx tw x < tw.length := by
  unfold idx
  refine List.findIdx_lt_length_of_exists ?_
  unfold keysT at hx
  obtain ⟨kv, m, e⟩ := List.mem_map.mp hx
  exact ⟨kv, m, decide_eq_true e⟩
def pwalk (tw : List (Int × Int)) (b : Int) : Nat → Int → List Int
  | 0, x => [x]
  | f + 1, x => if x = b then [x] else x :: pwalk tw b f ((look tw x).getD 0)
def pathF (rs : List (List Int)) (a b : Int) : List Int := pwalk (toward rs b) b 100 a
theorem pwalk_end {tw : List (Int × Int)} {b : Int} : ∀ f, pwalk tw b f b = [b]
  | 0 => rfl
  | f + 1 => if_pos rfl
end
end Odd

set_option Elab.async false
set_option linter.all false
set_option maxRecDepth 100000
set_option maxHeartbeats 4000000
/-! toward_of -/
namespace Od
open PySem PySem.Spec PyProof.Rows L2
open C8 (Cal Met InsC pe_c pe_mt pe_mt0 call_isC)
section
variable {P : Program} {w : World} {K : PySem.W.Frag} {mg : Str → Option Value} {base : Heap}
theorem while_n {c : TT} {tb : TS} {D : Ends} {σ : L2.St} {H : Hp} (B : Nat) (Pv : Nat → L2.St → Hp → Prop) (h0 : Pv 0 σ H)
    (hs : ∀ m σ H, Pv m σ H → ∀ R : Bool → Hp → Prop, (∀ H1, m < B → tb { D with nx := Pv (m + 1), ct := Pv (m + 1), bk := D.nx } σ H1 → R true H1) → (∀ H1, D.nx σ H1 → R false H1) → c σ H R) : tWhile c tb D σ H := by
  refine ⟨fun k σ H => ∃ m, k + m = B + 1 ∧ Pv m σ H ∨ (k = 0 ∧ m = B + 1 ∧ Pv m σ H), ⟨B + 1, 0, .inl ⟨rfl, h0⟩⟩, ?_⟩
  rintro k σ H ⟨m, h⟩
  have hp : Pv m σ H ∧ k + m = B + 1 := by
    rcases h with h | h
    · exact ⟨h.2, h.1⟩
    · exact ⟨h.2.2, by omega⟩
  refine hs m σ H hp.1 _ (fun H1 hm hb => ?_) (fun H1 q => ?_)
  · rw [if_pos rfl]
    exact ⟨Pv (m + 1), fun σ' H' q => ⟨k - 1, by omega, m + 1, .inl ⟨by omega, q⟩⟩, hb⟩
  · rw [if_neg (by simp)]
    exact q
abbrev dk (tw : List (Int × Int)) : List (Key × V) := tw.map fun kv => (Sum.inl kv.1, V.int kv.2)
theorem valV_dk (x : Int) : ∀ tw : List (Int × Int), valV (dk tw) (Sum.inl x) = (Odd.look tw x).map V.int
  | [] => rfl
  | (a, b) :: r => by
    by_cases c : a = x
    · subst c
      rw [show dk ((a, b) :: r) = (Sum.inl a, V.int b) :: dk r from rfl, valV_pos (p := ((Sum.inl a : Key), V.int b)) rfl]
      unfold Odd.look
      rw [List.find?_cons_of_pos (by simp)]
      rfl
    · have ih := valV_dk x r
      rw [show dk ((a, b) :: r) = (Sum.inl a, V.int b) :: dk r from rfl, valV_neg (p := ((Sum.inl a : Key), V.int b)) (fun e => c (Sum.inl.inj e)), ih]
      unfold Odd.look
      rw [List.find?_cons_of_neg (by simpa using c)]
theorem look_some (x : Int) (tw : List (Int × Int)) : (Odd.look tw x).isSome = Odd.hasK tw x := by
  unfold Odd.look Odd.hasK
  rw [Option.isSome_map, Bool.eq_iff_iff, List.find?_isSome, List.any_eq_true]
theorem row_of {H : Hp} {a : Addr} {n : Nat} {ts : List (Int × Int)} {rs : List (List Int)} (h : RL H a rs) (N : Odd.Near n ts rs) {x : Int} (h0 : 0 ≤ x) (h1 : x < n) :
    ∃ xs q, H a = some (.lst xs) ∧ atI xs x = some (.ref q) ∧ H q = some (.lst ((Odd.row rs x).map V.int)) := by
  obtain ⟨ks, k1, k2, k3⟩ := h
  have g := Odd.row_get N h0 h1
  rw [← k1, List.getElem?_map] at g
  cases e : ks[x.toNat]? with
  | none => rw [e] at g; cases g
  | some k =>
    rw [e] at g
    have er : k.2 = Odd.row rs x := by rw [← k1]; exact Option.some.inj g
    have z := atI_nat (xs := ks.map fun k => V.ref k.1) (j := x.toNat) (v := V.ref k.1) (by rw [List.getElem?_map, e]; rfl)
    rw [Int.toNat_of_nonneg h0] at z
    exact ⟨_, k.1, k2, z, by rw [← er]; exact k3 k (List.mem_of_getElem? e)⟩
def spTowardOf : Sp := fun vs H Q _ => ∃ (a : Addr) (g : Int) (n : Nat) (ts : List (Int × Int)) (rs : List (List Int)), vs = [.ref a, .int g] ∧ RL H a rs ∧ Odd.IsTree n ts ∧ Odd.Near n ts rs ∧ n ≤ 60 ∧ 0 ≤ g ∧ g < n ∧
  ∀ q H', H q = none → Ex H H' → H' q = some (.dK (dk (Odd.toward rs g))) → Q (.ref q) H'
theorem sc_toward_of : FnScope ["near", "goal", "toward", "waiting", "here", "post"] ["near", "goal"] (defScope s_toward_of) := ⟨rfl, rfl, rfl, by decide +kernel, rfl, by decide +kernel, by decide +kernel⟩
theorem c_toward_of (W : Wd K mg) : Cal P w K mg base 1 "toward_of" spTowardOf [] := by
  refine W.cal 21 sc_toward_of (fun vs H Q E ⟨a, g, n, ts, rs, e, _⟩ => by rw [e]; rfl) (fun f cdv A outer s H vs Q E hr ⟨a, g, n, ts, rs, e, rl, T, N, h60, g0, g1, k⟩ => ?_) (fun _ _ _ _ _ _ us hl => match us, hl with | [_, _], _ => rfl)
  subst e
  have nd := sc_toward_of.nd
  have hu := hu_of hr
  refine ⟨_, pss_cons (ps_set (i := 2) nd rfl (Or.inl rfl) (pe_disp (pps_cons (pv 1) (pv 1) pps_nil) (by rfl) (by rfl) (fun z => by cases z) (by decide)))
    (pss_cons (ps_set (i := 3) nd rfl (Or.inl rfl) (pe_lst (pa_cons (pv 1) pa_nil)))
    (pss_cons (ps_while PassesOwn.never (pt_cmpR (op_neD hr.units) (pv 3) (pe_lst pa_nil) (nomark _))
      (pss_cons (ps_set (i := 4) nd rfl (Or.inl rfl) (pe_bm0 PySem.F.plainAttrs_list PySem.F.slot_list_pop PySem.F.type_list_pop mt_pop (pv 3)))
        (pss_one (ps_for PassesOwn.never rfl (pi_list (pe_ix ix_list (pv 0) (pv 4) (fun _ _ => rfl))) (pg_name (i := 5) nd rfl (Or.inl rfl))
          (pss_one (ps_if (pt_cmp (pc_dnotin hu (pv 5) (pv 2))) (pss_cons (ps_dput hu (pv 2) (pv 5) (pv 4) rfl)
            (pss_one (ps_expr (pe_bm PySem.F.plainAttrs_list PySem.F.slot_list_append PySem.F.type_list_append mt_append (pv 3) (pa_cons (pv 5) pa_nil))))) pss_nil))))))
    (pss_one (ps_ret (pv 2))))), ?_⟩
  refine fun d hd => ⟨_, rfl, _, rfl, upd_same, [(Sum.inl g, .int g)], rfl, by show 1 ≤ 15; decide, ?_⟩
  have e1 : Ex H (upd (upd H d (.dK [])) d (.dK (mergeK [] [(Sum.inl g, V.int g)]))) := Ex.mut (Ex.new hd) hd
  refine ⟨_, rfl, by show 1 ≤ sizeLine; decide, fun l hl => ?_⟩
  have ndl : d ≠ l := ne_of_none upd_same hl
  have hl0 := e1.free hl
  refine while_n 61 (fun m σ H1 => Ex H H1 ∧ ∃ a4 a5, σ = [some (.ref a), some (.int g), some (.ref d), some (.ref l), a4, a5] ∧ H1 d = some (.dK (dk (Odd.titer rs g m).1)) ∧ H1 l = some (.lst ((Odd.titer rs g m).2.map V.int)) ∧ m ≤ 61)
    ⟨e1.trans (Ex.new hl), none, none, rfl, by rw [upd_ne ndl, upd_same]; rfl, upd_same, by decide⟩ ?_
  rintro m σ H1 ⟨eH, a4, a5, rfl, hT, hW, hm⟩ R rt rf
  refine ⟨_, rfl, by show 0 ≤ sizeLine; decide, fun l2 hl2 => ?_⟩
  have e2 : Ex H1 (upd H1 l2 (.lst [])) := Ex.new hl2
  refine ⟨dI (Odd.titer rs g m).2, .list [], dp_ints (SqL.of (e2 _ _ hW)), .lst (SqL.of upd_same) .nil, sh_ints _, sh_nil, _, rfl, ?_⟩
  rw [eqv_nil]
  obtain ⟨G, cl, bal⟩ := Odd.tinv T N g0 g1 m
  generalize hH2 : upd H1 l2 (.lst []) = H2
  rw [hH2] at e2
  have hT2 := e2 _ _ hT
  have hW2 := e2 _ _ hW
  have eH2 := eH.trans e2
  by_cases emp : (Odd.titer rs g m).2 = []
  · rw [emp]
    refine rf _ ⟨_, rfl, k d _ hd eH2 ?_⟩
    rw [Odd.toward_end (by omega) emp]
    exact hT2
  · have hmn := Odd.t_small T N g0 g1 emp
    rw [show (!((Odd.titer rs g m).2.map PyData.int).isEmpty) = true by cases z : (Odd.titer rs g m).2 with | nil => exact absurd z emp | cons => rfl]
    refine rt _ (by omega) ?_
    cases e : (Odd.titer rs g m).2.getLast? with
    | none => exact absurd (List.getLast?_eq_none_iff.mp e) emp
    | some h =>
      have sp := Odd.last_split e
      have mh : h ∈ (Odd.titer rs g m).2 := by rw [sp]; exact List.mem_append_right _ (by simp)
      have kh := G.wt h mh
      have rh := G.rng h kh
      have ll : ((Odd.titer rs g m).2.map V.int)[((Odd.titer rs g m).2.map V.int).length - 1]? = some (.int h) := by
        rw [List.length_map, List.getElem?_map, ← List.getLast?_eq_getElem?, e]
        rfl
      refine ⟨_, rfl, .inl ⟨rfl, _, SqL.of hW2⟩, l, _, _, rfl, rfl, hW2, ll, ?_⟩
      have nlk : ∀ {q o}, H q = some o → q ≠ l := fun hq e => by subst e; rw [hl0] at hq; cases hq
      have ndk : ∀ {q o}, H q = some o → q ≠ d := fun hq e => by subst e; rw [hd] at hq; cases hq
      have eH3 : Ex H (upd H2 l (.lst ((Odd.titer rs g m).2.map V.int).dropLast)) := Ex.mut eH2 hl0
      obtain ⟨xs, q, x1, x2, x3⟩ := row_of rl N rh.1 rh.2
      have hrow := fun {y : Int} => Odd.row_rng T N rh.1 rh.2 (y := y)
      refine ⟨_, rfl, _, rfl, a, xs, _, _, rfl, rfl, SqL.of (eH3 _ _ x1), x2, q, rfl, ⟨_, SqL.of (eH3 _ _ x3)⟩, ?_⟩
      have est : Odd.titer rs g (m + 1) = (Odd.row rs h).foldl (Odd.ins1 h) ((Odd.titer rs g m).1, (Odd.titer rs g m).2.dropLast) := by
        show Odd.tstep rs (Odd.titer rs g m) = _
        unfold Odd.tstep
        rw [e]
      have nw : (Odd.titer rs g m).2.dropLast.Nodup := by
        have z := G.wnd
        rw [sp] at z
        exact (List.nodup_append.mp z).1
      have G1 : Odd.Good n g ((Odd.titer rs g m).1, (Odd.titer rs g m).2.dropLast) := ⟨G.nd, G.rng, fun x m => G.wt x (List.dropLast_subset _ m), nw, G.hd, G.ptr⟩
      refine for_it (walk_list (xs := (Odd.row rs h).map V.int)) (fun j σ H3 => Ex H H3 ∧ ∃ a5, σ = [some (.ref a), some (.int g), some (.ref d), some (.ref l), some (.int h), a5] ∧
          H3 d = some (.dK (dk (((Odd.row rs h).take j).foldl (Odd.ins1 h) ((Odd.titer rs g m).1, (Odd.titer rs g m).2.dropLast)).1)) ∧ H3 l = some (.lst ((((Odd.row rs h).take j).foldl (Odd.ins1 h) ((Odd.titer rs g m).1, (Odd.titer rs g m).2.dropLast)).2.map V.int)))
        ⟨eH3, _, rfl, by rw [upd_ne ndl]; exact hT2, by rw [upd_same, ← List.map_dropLast]; rfl⟩ (fun j σ H3 _ z => SqL.of (z.1 _ _ x3)) ?_ ?_
      · rintro j x σ H3 H4 hj ⟨eH4, b5, rfl, hT3, hW3⟩ ⟨rfl, hx⟩
        rw [List.getElem?_map] at hx
        cases ep : (Odd.row rs h)[j]? with
        | none => rw [ep] at hx; cases hx
        | some p =>
          rw [ep] at hx
          cases hx
          have mp := hrow (List.mem_of_getElem? ep)
          obtain ⟨G2, _⟩ := Odd.fold_inv ((Odd.row rs h).take j) _ G1 kh fun p hp => hrow (List.mem_of_mem_take hp)
          rw [take_snoc ep, List.foldl_append]
          generalize ((Odd.row rs h).take j).foldl (Odd.ins1 h) ((Odd.titer rs g m).1, (Odd.titer rs g m).2.dropLast) = s3 at hT3 hW3 G2
          have kl := Odd.keys_len G2
          refine ⟨_, rfl, _, rfl, d, _, rfl, DGet.k (k := Sum.inl p) hT3, _, rfl, ?_⟩
          rw [valV_dk, Option.isSome_map, look_some]
          show if (!Odd.hasK s3.1 p) = true then _ else _
          by_cases c : Odd.hasK s3.1 p = true
          · rw [c]
            refine iteF ⟨eH4, _, rfl, ?_, ?_⟩
            · show H4 d = some (.dK (dk (Odd.ins1 h s3 p).1))
              unfold Odd.ins1
              rw [if_pos c]
              exact hT3
            · show H4 l = some (.lst ((Odd.ins1 h s3 p).2.map V.int))
              unfold Odd.ins1
              rw [if_pos c]
              exact hW3
          · rw [Bool.not_eq_true] at c
            rw [c]
            refine iteT ⟨_, rfl, _, rfl, _, rfl, d, _, rfl, DPut.k (k := Sum.inl p) hT3 (by rw [List.length_map, sizeLine_eq]; omega), ?_⟩
            have nv : valV (dk s3.1) (Sum.inl p) = none := by
              rw [valV_dk]
              have z := look_some p s3.1
              rw [c] at z
              cases zz : Odd.look s3.1 p with
              | none => rfl
              | some v => rw [zz] at z; cases z
            rw [putK_new _ nv]
            have hW4 : upd H4 d (.dK (dk s3.1 ++ [(Sum.inl p, V.int h)])) l = some (.lst (s3.2.map V.int)) := by rw [upd_ne ndl.symm]; exact hW3
            have wl : s3.2.length ≤ 60 := by
              have z : ∀ (l m : List Int), l.Nodup → (∀ x ∈ l, x ∈ m) → l.length ≤ m.length := by
                intro l
                induction l with
                | nil => intro m _ _; simp
                | cons a r ih =>
                  intro m nd sub
                  have q := List.nodup_cons.mp nd
                  have ma := sub a List.mem_cons_self
                  have := ih (m.erase a) q.2 fun x hx => (List.mem_erase_of_ne (fun (e : x = a) => q.1 (by rw [← e]; exact hx))).mpr (sub x (List.mem_cons_of_mem _ hx))
                  rw [List.length_erase_of_mem ma] at this
                  have : 0 < m.length := List.length_pos_of_mem ma
                  rw [List.length_cons]
                  omega
              have z2 := z _ _ G2.wnd G2.wt
              unfold Odd.keysT at z2
              rw [List.length_map] at z2
              omega
            refine ⟨_, rfl, .inl ⟨rfl, _, SqL.of hW4⟩, _, rfl, l, _, _, rfl, rfl, hW4, by rw [List.length_map, sizeLine_eq]; omega, ?_⟩
            refine ⟨Ex.mut (Ex.mut eH4 hd) hl0, _, rfl, ?_, ?_⟩
            · show _ = some (HO.dK (dk (Odd.ins1 h s3 p).1))
              unfold Odd.ins1
              rw [if_neg (by rw [c]; simp), upd_ne ndl, upd_same, show dk (s3.1 ++ [(p, h)], s3.2 ++ [p]).1 = dk s3.1 ++ [(Sum.inl p, V.int h)] by unfold dk; rw [List.map_append]; rfl]
            · show _ = some (HO.lst ((Odd.ins1 h s3 p).2.map V.int))
              unfold Odd.ins1
              rw [if_neg (by rw [c]; simp), upd_same, List.map_append]
              rfl
      · rintro σ H3 ⟨eH4, b5, rfl, hT3, hW3⟩
        rw [List.length_map, List.take_length] at hT3 hW3
        exact ⟨eH4, _, _, rfl, by rw [est]; exact hT3, by rw [est]; exact hW3, by omega⟩
end
end Od

set_option Elab.async false
set_option linter.all false
set_option maxRecDepth 100000
set_option maxHeartbeats 4000000
/-! the class Yard -/
namespace Odd
def leavesF (n : Nat) (rs : List (List Int)) : List Int := (posts n).filter fun x => decide ((row rs x).length = 1)
structure YOk (n : Nat) (ts : List (Int × Int)) (ws : List Int) (rs : List (List Int)) : Prop where
  h1 : 1 ≤ n
  h60 : n ≤ 60
  tr : IsTree n ts
  so : Srt ts
  wup : ws.Pairwise (· < ·)
  wr : ∀ x ∈ ws, 0 ≤ x ∧ x < n
  nr : Near n ts rs
end Odd
namespace Od
open PySem PySem.Spec PyProof.Rows L2
open C8 (Cal Met InsC pe_c pe_mt pe_mt0 call_isC)
section
variable {P : Program} {w : World} {K : PySem.W.Frag} {mg : Str → Option Value} {base : Heap}
theorem kFld {X : Cx} {e : Expr} {ta : TE} {f : Str} {pos : Pos} (h : X.K = K) (he : PE X e ta) (hb : attributeBase e f X.env (eval e X.env) = eval e X.env := by rfl) : PE X (.Attribute e f pos) (tFld K ta f) := by
  subst h
  exact pe_fld he hb
theorem Wd.nz (W : Wd K mg) : NoAttr K (CY K) "kept_size" := He.noat_ok (W.s.fact 74 rfl)
theorem Wd.nt (W : Wd K mg) : NoAttr K (CY K) "kept_ties" := He.noat_ok (W.s.fact 75 rfl)
theorem Wd.nw (W : Wd K mg) : NoAttr K (CY K) "kept_wired" := He.noat_ok (W.s.fact 76 rfl)
theorem Wd.nn (W : Wd K mg) : NoAttr K (CY K) "kept_near" := He.noat_ok (W.s.fact 77 rfl)
theorem y_posts {n : Nat} : ∀ i (H : Hp) x (H' : Hp), i < n → YFn (fun i => V.int ((0 : Int) + (i : Int))) i H x H' → H' = H ∧ ∃ a, (Odd.posts n)[i]? = some a ∧ x = V.int a := by
  rintro i H x H' hi ⟨rfl, rfl⟩
  refine ⟨rfl, (i : Int), ?_, congrArg V.int (Int.zero_add _)⟩
  unfold Odd.posts
  rw [List.getElem?_map, List.getElem?_range hi]
  rfl
abbrev fsY (n : Nat) (pt pw pn : Addr) : List (Str × V) := [("kept_size", .int n), ("kept_ties", .ref pt), ("kept_wired", .ref pw), ("kept_near", .ref pn)]
/-- the yard at y -/
def YA (K : PySem.W.Frag) (H : Hp) (y : Addr) (n : Nat) (ts : List (Int × Int)) (ws : List Int) (rs : List (List Int)) : Prop :=
  ∃ dx pt pw pn, H y = some (.ins (CY K) dx (fsY n pt pw pn)) ∧ TL H pt ts ∧ IL H pw ws ∧ RL H pn rs
theorem YA.mono {H H' : Hp} {y : Addr} {n : Nat} {ts : List (Int × Int)} {ws : List Int} {rs : List (List Int)} (h : YA K H y n ts ws rs) (e : Ex H H') : YA K H' y n ts ws rs := by
  obtain ⟨dx, pt, pw, pn, h1, h2, h3, h4⟩ := h
  exact ⟨dx, pt, pw, pn, e _ _ h1, h2.mono e, e _ _ h3, h4.mono e⟩
theorem TL.len {H : Hp} {a : Addr} {ts : List (Int × Int)} (h : TL H a ts) : ∃ xs : List V, H a = some (.lst xs) ∧ xs.length = ts.length := by
  obtain ⟨ks, h1, h2, h3⟩ := h
  exact ⟨_, h2, by rw [List.length_map, ← h1, List.length_map]⟩
theorem TL.dup {H : Hp} {a q : Addr} {ts : List (Int × Int)} {xs : List V} (h : TL H a ts) (hx : H a = some (.lst xs)) (hq : H q = none) : TL (upd H q (.lst xs)) q ts := by
  obtain ⟨ks, h1, h2, h3⟩ := h
  rw [hx] at h2
  cases h2
  refine ⟨ks, h1, upd_same, fun k hk => ?_⟩
  have z := h3 k hk
  rw [upd_ne (fun e => by rw [e, hq] at z; cases z)]
  exact z
/-! ### __init__ -/
def spInit (K : PySem.W.Frag) : Sp := fun vs H Q _ => ∃ (x : Addr) (dx : Addr) (n : Nat) (pt pw : Addr) (ts : List (Int × Int)) (ws : List Int), vs = [.ref x, .int n, .ref pt, .ref pw] ∧ H x = some (.ins (CY K) dx []) ∧ TL H pt ts ∧ LT H pw ws ∧
  1 ≤ n ∧ n ≤ 60 ∧ Odd.IsTree n ts ∧ (∀ z ∈ ws, 0 ≤ z ∧ z < n) ∧ ws.Nodup ∧ ws.length < 64 ∧
  ∀ H' us ms rs, (∀ a o, a ≠ x → H a = some o → H' a = some o) → us.Perm ts → ms.Perm ws → Odd.YOk n us ms rs → YA K H' x n us ms rs → Q .non H'
theorem sc_Y_init : FnScope ["self", "size", "ties", "wired"] ["self", "size", "ties", "wired"] (defScope s_Y_init) := ⟨rfl, rfl, rfl, by decide +kernel, rfl, by decide +kernel, by decide +kernel⟩
/-- how a yard is made -/
structure MkY (P : Program) (w : World) (K : PySem.W.Frag) (mg : Str → Option Value) (base : Heap) (k : Nat) : Prop where
  ex : ∃ (f : Addr) (fd : FuncData), Mk K (CY K) f ∧ FnOk P w K mg base CX0 k f fd ["self", "size", "ties", "wired"] (spInit K) ∧ KBn K fd ["self", "size", "ties", "wired"] 3 ["wired"] (fun us ws => us ++ ws) (fun vs zs => vs ++ zs)
theorem vals_append {vs ws : List V} {us zs : List Value} (h : Vals vs us) (g : Vals ws zs) : Vals (vs ++ ws) (us ++ zs) := by
  induction h with
  | nil => exact g
  | cons a _ ih => exact .cons a ih
theorem perm_tree {ts us : List (Int × Int)} (p : us.Perm ts) {n : Nat} (h : Odd.IsTree n ts) : Odd.IsTree n us := h.perm p
theorem mk_yard (W : Wd K mg) : MkY P w K mg base 5 := by
  obtain ⟨fd, F⟩ := W.s.def_ 52 (d := ⟨("Yard", some "__init__"), "__init__", "Yard.__init__", defArgs s_Y_init, defBody s_Y_init, defScope s_Y_init, [], []⟩) (by rfl)
  refine ⟨_, fd, He.mkr_ok (W.s.fact 73 rfl), F.ok sc_Y_init (fun vs H Q E ⟨x, dx, n, pt, pw, ts, ws, e, _⟩ => by rw [e]; rfl) (fun cdv A outer s H vs Q E hr ⟨x, dx, n, pt, pw, ts, ws, e, hx, tl, lt, h1, h60, tr, wr, wnd, w64, k⟩ => ?_), ?_⟩
  · subst e
    refine ⟨_, PSs.nox (pss_cons (ps_if (PW.pt (pw_or (pt_not (pt_val (pe_c (c_is_integer W) hr (by decide) (by rfl) (pa_cons (pv 1) pa_nil)))) (pw_or1 (pt_not (pt_chain op_le op_le pe_int (pv 1) (pe_glob (v := .int 60) (by rfl) W.ms.choose_spec ⟨_, rfl⟩)))))) pss_never pss_nil)
      (pss_cons (ps_if (PW.pt (pw_or (pt_not (pt_val (p_isi W.nm.list boot_list W.nm (pv 2)))) (pw_or1 (pt_cmpR op_gt (p_len W.nm (pv 2)) (pe_op op_sub (pe_glob (v := .int 60) (by rfl) W.ms.choose_spec ⟨_, rfl⟩) pe_int) (nomark _))))) pss_never pss_nil)
      (pss_cons (ps_if (pt_not (pt_val (pe_c (c_are_posts W) hr (by decide) (by rfl) (pa_cons (pv 3) (pa_cons (pv 1) pa_nil))))) pss_never pss_nil)
      (pss_cons (ps_expr (pe_c (c_check_tree W) hr (by decide) (by rfl) (pa_cons (pv 1) (pa_cons (pv 2) pa_nil))))
      (pss_cons (ps_fld (pv 0) (pv 1) rfl)
      (pss_cons (ps_fld (pv 0) (pe_callB cr_sortedPO (by rfl) W.nm.sorted boot_sorted (pa_cons (pv 2) pa_nil)) rfl)
      (pss_cons (ps_fld (pv 0) (pe_callB cr_sortedA (by rfl) W.nm.sorted boot_sorted (pa_cons (pv 3) pa_nil)) rfl)
      (pss_one (ps_fld (pv 0) (pe_c (c_near_of W) hr (by decide) (by rfl) (pa_cons (pv 1) (pa_cons (pv 2) pa_nil))) rfl))))))))), ?_⟩
    obtain ⟨xs, hxs, lxs⟩ := tl.len
    refine ⟨_, rfl, n, rfl, fun H1 e1 => ⟨true, rfl, iteF ?_⟩⟩
    refine ⟨_, rfl, _, _, rfl, rfl, true, bl_t (by omega), iteT ⟨_, _, rfl, rfl, true, bl_t (by omega), iteF ?_⟩⟩
    refine ⟨_, rfl, _, _, _, _, _, rfl, .ty _, .base (.lst (e1 _ _ hxs)), kit_ty (b := "list") (r := true) (by decide +kernel), true, rfl, iteF ?_⟩
    refine ⟨_, rfl, pt, _, rfl, .inl (SqL.of (e1 _ _ hxs)), _, _, rfl, rfl, _, _, rfl, rfl, false, ?_, iteF ?_⟩
    · have := tr.len
      exact congrArg V.bl (decide_eq_false (by omega))
    refine ⟨_, rfl, _, rfl, pw, ws, n, rfl, lt.mono e1, w64, wr, wnd, fun H2 e2 => ⟨true, rfl, iteF ?_⟩⟩
    have e12 := e1.trans e2
    refine ⟨_, rfl, _, rfl, n, pt, ts, rfl, tl.mono e12, tr, h1, h60, fun H3 e3 => ?_⟩
    have e13 := e12.trans e3
    -- the fields
    refine ⟨_, rfl, _, rfl, x, CY K, dx, _, rfl, e13 _ _ hx, W.cl, W.nz, by decide, ?_⟩
    generalize hH4 : upd H3 x (.ins (CY K) dx (putF "kept_size" (.int n) [])) = H4
    have off : ∀ {Ha : Hp} {o : HO}, (∀ a o, a ≠ x → H a = some o → Ha a = some o) → ∀ a o', a ≠ x → H a = some o' → upd Ha x o a = some o' := fun h a o' na ha => by rw [upd_ne na]; exact h a o' na ha
    have k4 : ∀ a o, a ≠ x → H a = some o → H4 a = some o := by rw [← hH4]; exact off fun a o _ h => e13 a o h
    have x4 : H4 x = some (.ins (CY K) dx [("kept_size", .int n)]) := by rw [← hH4, upd_same]; rfl
    have npt : pt ≠ x := fun e => by subst e; rw [hx] at hxs; cases hxs
    have npw : pw ≠ x := fun e => by subst e; rcases lt with h | h <;> rw [hx] at h <;> cases h
    have tlk : ∀ {Ha : Hp}, (∀ a o, a ≠ x → H a = some o → Ha a = some o) → TL Ha pt ts := fun {Ha} h => by
      obtain ⟨ks, a, b, c⟩ := tl
      refine ⟨ks, a, h _ _ npt b, fun k hk => h _ _ (fun e => ?_) (c k hk)⟩
      have z := c k hk
      rw [e, hx] at z
      cases z
    have ltk : ∀ {Ha : Hp}, (∀ a o, a ≠ x → H a = some o → Ha a = some o) → LT Ha pw ws := fun h => lt.imp (h _ _ npw) (h _ _ npw)
    -- sorted(ties)
    obtain ⟨zs, z1, z2, z3⟩ := sortedTL (tlk k4)
    refine ⟨_, rfl, pt, zs, kOf H4, rfl, SqL.of z1, z2, fun ys q so0 st hq => ?_⟩
    obtain ⟨us, pm, so, tl5⟩ := z3 ys q so0 st hq
    have e45 : Ex H4 (upd H4 q (.lst ys)) := Ex.new hq
    refine ⟨_, rfl, x, CY K, dx, _, rfl, e45 _ _ x4, W.cl, W.nt, by show 1 < 1000; decide, ?_⟩
    generalize hH5 : upd H4 q (.lst ys) = H5 at e45 tl5
    generalize hH6 : upd H5 x (.ins (CY K) dx (putF "kept_ties" (.ref q) [("kept_size", .int n)])) = H6
    have k6 : ∀ a o, a ≠ x → H a = some o → H6 a = some o := by rw [← hH6]; exact off fun a o na h => e45 a o (k4 a o na h)
    have x6 : H6 x = some (.ins (CY K) dx [("kept_size", .int n), ("kept_ties", .ref q)]) := by rw [← hH6, upd_same]; rfl
    have off2 : ∀ {Ha : Hp} {o : HO}, ∀ a o', a ≠ x → Ha a = some o' → upd Ha x o a = some o' := fun a o' na ha => by rw [upd_ne na]; exact ha
    have x5 := e45 _ _ x4
    have tl6 : TL H6 q us := by
      obtain ⟨ks, a, b, c⟩ := tl5
      rw [← hH6]
      refine ⟨ks, a, off2 _ _ (fun e => ?_) b, fun k hk => off2 _ _ (fun e => ?_) (c k hk)⟩
      · rw [e, x5] at b; cases b
      · have z := c k hk
        rw [e, x5] at z
        cases z
    refine ⟨_, rfl, pw, ws, rfl, (ltk k6).sq, w64, fun ms q2 pm2 le2 hq2 => ?_⟩
    have e67 : Ex H6 (upd H6 q2 (.lst (ms.map V.int))) := Ex.new hq2
    refine ⟨_, rfl, x, CY K, dx, _, rfl, e67 _ _ x6, W.cl, W.nw, by show 2 < 1000; decide, ?_⟩
    have w7 : upd H6 q2 (.lst (ms.map V.int)) q2 = some (.lst (ms.map V.int)) := upd_same
    generalize hH7 : upd H6 q2 (.lst (ms.map V.int)) = H7 at e67 w7
    have x7 := e67 _ _ x6
    generalize hH8 : upd H7 x (.ins (CY K) dx (putF "kept_wired" (.ref q2) [("kept_size", .int n), ("kept_ties", .ref q)])) = H8
    have k8 : ∀ a o, a ≠ x → H a = some o → H8 a = some o := by rw [← hH8]; exact off fun a o na h => e67 a o (k6 a o na h)
    have x8 : H8 x = some (.ins (CY K) dx [("kept_size", .int n), ("kept_ties", .ref q), ("kept_wired", .ref q2)]) := by rw [← hH8, upd_same]; rfl
    have keepTL : ∀ {Ha : Hp} {o : HO} {dd fs p} {vs : List (Int × Int)}, Ha x = some (.ins (CY K) dd fs) → TL Ha p vs → TL (upd Ha x o) p vs := fun {Ha o dd fs p vs} hxa h => by
      obtain ⟨ks, a, b, c⟩ := h
      refine ⟨ks, a, off2 _ _ (fun e => ?_) b, fun k hk => off2 _ _ (fun e => ?_) (c k hk)⟩
      · rw [e, hxa] at b; cases b
      · have z := c k hk
        rw [e, hxa] at z
        cases z
    have tl8 : TL H8 q us := by rw [← hH8]; exact keepTL x7 (tl6.mono e67)
    have w8 : H8 q2 = some (.lst (ms.map V.int)) := by
      rw [← hH8]
      exact off2 _ _ (fun e => by rw [e, x7] at w7; cases w7) w7
    refine ⟨_, rfl, _, rfl, n, pt, ts, rfl, tlk k8, tr, h1, h60, fun q3 rs H9 hq3 e89 rl nr => ?_⟩
    have x9 := e89 _ _ x8
    refine ⟨_, rfl, x, CY K, dx, _, rfl, x9, W.cl, W.nn, by show 3 < 1000; decide, ?_⟩
    have T2 := tr.perm pm
    have nr2 : Odd.Near n us rs := ⟨nr.1, fun i r hr => ⟨(nr.2 i r hr).1, fun y => by rw [(nr.2 i r hr).2 y, pm.mem_iff]⟩⟩
    have mup : ms.Pairwise (· < ·) := Odd.up_strict le2 (pm2.nodup_iff.mpr wnd)
    refine k _ us ms rs (off fun a o na h => e89 a o (k8 a o na h)) pm pm2 ⟨h1, h60, T2, so, mup, fun z hz => wr z (pm2.mem_iff.mp hz), nr2⟩ ⟨dx, q, q2, q3, ?_, keepTL x9 (tl8.mono e89), ?_, ?_⟩
    · rw [upd_same]; rfl
    · have w9 := e89 _ _ w8
      exact off2 _ _ (fun e => by rw [e, x9] at w9; cases w9) w9
    · obtain ⟨ks, a, b, c⟩ := rl
      refine ⟨ks, a, off2 _ _ (fun e => by rw [e, x9] at b; cases b) b, fun k hk => off2 _ _ (fun e => ?_) (c k hk)⟩
      have z := c k hk
      rw [e, x9] at z
      cases z
  · obtain ⟨oc, od, dV, kV, doc, pm, an, cdv, ct, osl, rfl, lk, hcd, hD, hK⟩ := F.ex
    rcases hD with ⟨_, rfl⟩ | ⟨e, _⟩
    · refine ⟨fun s us ws X l1 l2 => .of_eq ?_, fun r1 r2 => vals_append r1 r2⟩
      match us, l1, ws, l2 with
      | [a, b, c], _, [d], _ => rfl
    · exact absurd rfl e

/-! ### what a yard tells -/
def spSize (K : PySem.W.Frag) : Sp := fun vs H Q _ => ∃ y n ts ws rs, vs = [.ref y] ∧ YA K H y n ts ws rs ∧ Q (.int n) H
theorem sc_Y_size : FnScope ["self"] ["self"] (defScope s_Y_size) := ⟨rfl, rfl, rfl, by decide +kernel, rfl, by decide +kernel, by decide +kernel⟩
theorem m_size (W : Wd K mg) : Met P w K mg base 1 (CY K) "size" (spSize K) [] := by
  refine W.met 53 78 sc_Y_size (fun vs H Q E ⟨y, n, ts, ws, rs, e, _⟩ => by rw [e]; rfl) (fun f cdv A outer s H vs Q E hr ⟨y, n, ts, ws, rs, e, ⟨dx, pt, pw, pn, h1, h2, h3, h4⟩, k⟩ => ?_) (fun _ _ _ _ _ _ us hl => match us, hl with | [_], _ => rfl)
  subst e
  refine ⟨_, pss_one (ps_ret (pe_fld (pv 0) rfl)), ?_⟩
  exact ⟨_, rfl, y, CY K, dx, _, _, rfl, h1, W.cl, W.nz, rfl, k⟩
def spTies (K : PySem.W.Frag) : Sp := fun vs H Q _ => ∃ y n ts ws rs, vs = [.ref y] ∧ YA K H y n ts ws rs ∧ ∀ q H', H q = none → Ex H H' → TL H' q ts → Q (.ref q) H'
theorem sc_Y_ties : FnScope ["self"] ["self"] (defScope s_Y_ties) := ⟨rfl, rfl, rfl, by decide +kernel, rfl, by decide +kernel, by decide +kernel⟩
theorem m_ties (W : Wd K mg) : Met P w K mg base 1 (CY K) "ties" (spTies K) [] := by
  refine W.met 54 79 sc_Y_ties (fun vs H Q E ⟨y, n, ts, ws, rs, e, _⟩ => by rw [e]; rfl) (fun f cdv A outer s H vs Q E hr ⟨y, n, ts, ws, rs, e, ⟨dx, pt, pw, pn, h1, h2, h3, h4⟩, k⟩ => ?_) (fun _ _ _ _ _ _ us hl => match us, hl with | [_], _ => rfl)
  subst e
  refine ⟨_, pss_one (ps_ret (pe_callTy call_list_of (by rfl) W.nm.list boot_list (pa_cons (pe_fld (pv 0) rfl) pa_nil))), ?_⟩
  obtain ⟨xs, hxs, _⟩ := h2.len
  exact ⟨_, rfl, y, CY K, dx, _, _, rfl, h1, W.cl, W.nt, rfl, pt, xs, rfl, .inl (SqL.of hxs), fun q hq => k q _ hq (Ex.new hq) (h2.dup hxs hq)⟩
def spWired (K : PySem.W.Frag) : Sp := fun vs H Q _ => ∃ y n ts ws rs, vs = [.ref y] ∧ YA K H y n ts ws rs ∧ ∀ q H', H q = none → Ex H H' → IL H' q ws → Q (.ref q) H'
theorem sc_Y_wired : FnScope ["self"] ["self"] (defScope s_Y_wired) := ⟨rfl, rfl, rfl, by decide +kernel, rfl, by decide +kernel, by decide +kernel⟩
theorem m_wired (W : Wd K mg) : Met P w K mg base 1 (CY K) "wired" (spWired K) [] := by
  refine W.met 55 80 sc_Y_wired (fun vs H Q E ⟨y, n, ts, ws, rs, e, _⟩ => by rw [e]; rfl) (fun f cdv A outer s H vs Q E hr ⟨y, n, ts, ws, rs, e, ⟨dx, pt, pw, pn, h1, h2, h3, h4⟩, k⟩ => ?_) (fun _ _ _ _ _ _ us hl => match us, hl with | [_], _ => rfl)
  subst e
  refine ⟨_, pss_one (ps_ret (pe_callTy call_list_of (by rfl) W.nm.list boot_list (pa_cons (pe_fld (pv 0) rfl) pa_nil))), ?_⟩
  exact ⟨_, rfl, y, CY K, dx, _, _, rfl, h1, W.cl, W.nw, rfl, pw, _, rfl, .inl (SqL.of h3), fun q hq => k q _ hq (Ex.new hq) upd_same⟩
def spNeighbours (K : PySem.W.Frag) : Sp := fun vs H Q _ => ∃ y n ts ws rs x, vs = [.ref y, .int x] ∧ YA K H y n ts ws rs ∧ Odd.YOk n ts ws rs ∧ 0 ≤ x ∧ x < n ∧ ∀ q H', H q = none → Ex H H' → IL H' q (Odd.row rs x) → Q (.ref q) H'
theorem sc_Y_neighbours : FnScope ["self", "post"] ["self", "post"] (defScope s_Y_neighbours) := ⟨rfl, rfl, rfl, by decide +kernel, rfl, by decide +kernel, by decide +kernel⟩
theorem m_neighbours (W : Wd K mg) : Met P w K mg base 3 (CY K) "neighbours" (spNeighbours K) [] := by
  refine W.met 56 81 sc_Y_neighbours (fun vs H Q E ⟨y, n, ts, ws, rs, x, e, _⟩ => by rw [e]; rfl) (fun f cdv A outer s H vs Q E hr ⟨y, n, ts, ws, rs, x, e, ⟨dx, pt, pw, pn, h1, h2, h3, h4⟩, ok, x0, x1, k⟩ => ?_) (fun _ _ _ _ _ _ us hl => match us, hl with | [_, _], _ => rfl)
  subst e
  refine ⟨_, pss_cons (ps_if (pt_not (pt_val (pe_c (c_is_post W) hr (by decide) (by rfl) (pa_cons (pv 1) (pa_cons (pe_fld (pv 0) rfl) pa_nil))))) pss_never pss_nil)
    (pss_one (ps_ret (pe_callTy call_list_of (by rfl) W.nm.list boot_list (pa_cons (pe_ix ix_list (pe_fld (pv 0) rfl) (pv 1) (fun _ _ => rfl)) pa_nil)))), ?_⟩
  refine ⟨_, rfl, _, rfl, y, CY K, dx, _, _, rfl, h1, W.cl, W.nz, rfl, x, n, rfl, x0, x1, fun H1 e1 => ⟨true, rfl, iteF ?_⟩⟩
  obtain ⟨xs, q, r1, r2, r3⟩ := row_of h4 ok.nr x0 x1
  exact ⟨_, rfl, y, CY K, dx, _, _, rfl, e1 _ _ h1, W.cl, W.nn, rfl, _, rfl, pn, xs, _, _, rfl, rfl, SqL.of (e1 _ _ r1), r2, q, _, rfl, .inl (SqL.of (e1 _ _ r3)), fun q2 hq2 => k q2 _ (e1.free hq2) (e1.trans (Ex.new hq2)) upd_same⟩
def spLeaves (K : PySem.W.Frag) : Sp := fun vs H Q _ => ∃ y n ts ws rs, vs = [.ref y] ∧ YA K H y n ts ws rs ∧ Odd.YOk n ts ws rs ∧ ∀ q H', H q = none → Ex H H' → IL H' q (Odd.leavesF n rs) → Q (.ref q) H'
theorem sc_Y_leaves : FnScope ["self", "post"] ["self"] (defScope s_Y_leaves) := ⟨rfl, rfl, rfl, by decide +kernel, rfl, by decide +kernel, by decide +kernel⟩
theorem m_leaves (W : Wd K mg) : Met P w K mg base 1 (CY K) "leaves" (spLeaves K) [] := by
  refine W.met 57 82 sc_Y_leaves (fun vs H Q E ⟨y, n, ts, ws, rs, e, _⟩ => by rw [e]; rfl) (fun f cdv A outer s H vs Q E hr ⟨y, n, ts, ws, rs, e, ⟨dx, pt, pw, pn, h1, h2, h3, h4⟩, ok, k⟩ => ?_) (fun _ _ _ _ _ _ us hl => match us, hl with | [_], _ => rfl)
  subst e
  have nd := sc_Y_leaves.nd
  refine ⟨_, pss_one (ps_ret (pe_lc (own := [("post", 1)]) (g := gName 1) rfl nd (pi_range1 (by rfl) W.nm.range (pa_cons (pe_fld (pv 0) rfl) pa_nil)) (blkOk_by (N := ["self", "post"]) (sc := defScope s_Y_leaves) (by decide +kernel))
      (fun _ _ _ _ _ => pg_name (i := 1) nd rfl (Or.inl rfl)) (fun _ _ _ _ _ => pts_one (pt_cmpR op_eq (pk_len (K := K) rfl W.nm (pe_ix (kIxL (K := K) rfl) (kFld (K := K) rfl (pv 0)) (pv 1) (fun _ _ => rfl))) pe_int (nomark _))) (fun _ _ _ _ _ => pv 1))), ?_⟩
  have hn := ok.h60
  refine ⟨_, rfl, y, CY K, dx, _, _, rfl, h1, W.cl, W.nz, rfl, _, rfl, by omega, by omega, fun D hD => lcS walk_range (Odd.posts n) V.int (fun x => decide ((Odd.row rs x).length = 1)) V.int y_posts Odd.posts_len (by show n ≤ _; omega) hD (fun _ _ => trivial) (fun _ => rfl) (fun x hx H2 e2 Q2 q2 => ?_) (fun x hx _ H2 e2 Q2 q2 => ⟨_, rfl, q2 _ (Ex.rfl' _)⟩) (fun H2 e2 h2' => k D H2 hD e2 h2')⟩
  obtain ⟨x0, x1⟩ := Odd.mem_posts.mp hx
  obtain ⟨xs, q, r1, r2, r3⟩ := row_of h4 ok.nr x0 x1
  refine ⟨_, rfl, y, CY K, dx, _, _, rfl, e2 _ _ h1, W.cl, W.nn, rfl, _, rfl, pn, xs, _, _, rfl, rfl, SqL.of (e2 _ _ r1), r2, q, _, rfl, .inl (SqL.of (e2 _ _ r3)), rfl, _, rfl, ?_⟩
  rw [List.length_map]
  have z := q2 H2 (Ex.rfl' _)
  have ee : decide (V.int ((Odd.row rs x).length : Nat) = V.int 1) = decide ((Odd.row rs x).length = 1) := by
    by_cases c : (Odd.row rs x).length = 1
    · rw [c]; rfl
    · rw [decide_eq_false c, decide_eq_false (fun h => c (by injection h with h; omega))]
  rw [ee]
  exact z
/-! ### path -/
def spPath (K : PySem.W.Frag) : Sp := fun vs H Q _ => ∃ y n ts ws rs a b, vs = [.ref y, .int a, .int b] ∧ YA K H y n ts ws rs ∧ Odd.YOk n ts ws rs ∧ 0 ≤ a ∧ a < n ∧ 0 ≤ b ∧ b < n ∧ ∀ q H', H q = none → Ex H H' → IL H' q (Odd.pathF rs a b) → Q (.ref q) H'
theorem sc_Y_path : FnScope ["self", "post", "other", "toward", "found"] ["self", "post", "other"] (defScope s_Y_path) := ⟨rfl, rfl, rfl, by decide +kernel, rfl, by decide +kernel, by decide +kernel⟩
theorem m_path (W : Wd K mg) : Met P w K mg base 3 (CY K) "path" (spPath K) [] := by
  refine W.met 58 83 sc_Y_path (fun vs H Q E ⟨y, n, ts, ws, rs, a, b, e, _⟩ => by rw [e]; rfl) (fun f cdv A outer s H vs Q E hr ⟨y, n, ts, ws, rs, a, b, e, ⟨dx, pt, pw, pn, h1, h2, h3, h4⟩, ok, a0, a1, b0, b1, k⟩ => ?_) (fun _ _ _ _ _ _ us hl => match us, hl with | [_, _, _], _ => rfl)
  subst e
  have nd := sc_Y_path.nd
  have hu := hu_of hr
  refine ⟨_, pss_cons (ps_if (pt_not (pt_val (pe_c (c_is_post W) hr (by decide) (by rfl) (pa_cons (pv 1) (pa_cons (pe_fld (pv 0) rfl) pa_nil))))) pss_never pss_nil)
    (pss_cons (ps_if (pt_not (pt_val (pe_c (c_is_post W) hr (by decide) (by rfl) (pa_cons (pv 2) (pa_cons (pe_fld (pv 0) rfl) pa_nil))))) pss_never pss_nil)
    (pss_cons (ps_set (i := 3) nd rfl (Or.inl rfl) (pe_c (c_toward_of W) hr (by decide) (by rfl) (pa_cons (pe_fld (pv 0) rfl) (pa_cons (pv 2) pa_nil))))
    (pss_cons (ps_set (i := 4) nd rfl (Or.inl rfl) (pe_lst (pa_cons (pv 1) pa_nil)))
    (pss_cons (ps_while PassesOwn.never (pt_cmpR op_ne (pe_ix ix_list (pv 4) (pe_un un_neg pe_int) (fun _ _ => rfl)) (pv 2) (nomark _))
      (pss_one (ps_expr (pe_bm PySem.F.plainAttrs_list PySem.F.slot_list_append PySem.F.type_list_append mt_append (pv 4) (pa_cons (pe_dget hu (pv 3) (pe_ix ix_list (pv 4) (pe_un un_neg pe_int) (fun _ _ => rfl)) (fun _ _ => rfl)) pa_nil)))))
    (pss_one (ps_ret (pv 4))))))), ?_⟩
  refine ⟨_, rfl, _, rfl, y, CY K, dx, _, _, rfl, h1, W.cl, W.nz, rfl, a, n, rfl, a0, a1, fun H1 e1 => ⟨true, rfl, iteF ?_⟩⟩
  refine ⟨_, rfl, _, rfl, y, CY K, dx, _, _, rfl, e1 _ _ h1, W.cl, W.nz, rfl, b, n, rfl, b0, b1, fun H2 e2 => ⟨true, rfl, iteF ?_⟩⟩
  have e12 := e1.trans e2
  refine ⟨_, rfl, y, CY K, dx, _, _, rfl, e12 _ _ h1, W.cl, W.nn, rfl, _, rfl, pn, b, n, ts, rs, rfl, h4.mono e12, ok.tr, ok.nr, ok.h60, b0, b1, fun d H3 hd e3 hdd => ?_⟩
  have e13 := e12.trans e3
  refine ⟨_, rfl, by show 1 ≤ sizeLine; decide, fun l hl => ?_⟩
  have hl0 := e13.free hl
  have ndl : d ≠ l := ne_of_none hdd hl
  obtain ⟨t1, t2, t3, t4, t5⟩ := Odd.toward_good ok.tr ok.nr ok.h60 b0 b1
  have h60 := ok.h60
  refine while_n 61 (fun m σ H1 => Ex H H1 ∧ σ = [some (.ref y), some (.int a), some (.int b), some (.ref d), some (.ref l)] ∧ H1 d = some (.dK (dk (Odd.toward rs b))) ∧ ∃ L x, H1 l = some (.lst ((L ++ [x]).map V.int)) ∧ L.length = m ∧ x ∈ Odd.keysT (Odd.toward rs b) ∧
      Odd.idx (Odd.toward rs b) x + m ≤ 60 ∧ L ++ Odd.pwalk (Odd.toward rs b) b (100 - m) x = Odd.pathF rs a b)
    ⟨e13.trans (Ex.new hl), rfl, by rw [upd_ne ndl]; exact hdd, [], a, upd_same, rfl, t2 a a0 a1, by have := Odd.idx_lt (t2 a a0 a1); omega, rfl⟩ ?_
  rintro m σ H4 ⟨e4, rfl, hd4, L, x, hl4, lL, kx, ix, pe⟩ R rt rf
  have la : atI ((L ++ [x]).map V.int) (-1) = some (.int x) := by rw [List.map_append]; exact atI_last _ _
  refine ⟨_, rfl, _, rfl, l, _, _, _, rfl, rfl, SqL.of hl4, la, _, rfl, rfl, _, rfl, ?_⟩
  by_cases c : x = b
  · rw [decide_eq_true (by rw [c])]
    refine rf _ ⟨_, rfl, k l _ hl0 e4 ?_⟩
    rw [c, Odd.pwalk_end] at pe
    rw [← pe, ← c]
    exact hl4
  · rw [decide_eq_false (fun h => c (V.int.inj h))]
    refine rt _ (by omega) ?_
    obtain ⟨v, v1, v2, v3⟩ := Odd.look_step t1 t3 t4 kx c
    refine ⟨_, rfl, .inl ⟨rfl, _, SqL.of hl4⟩, _, rfl, _, rfl, _, rfl, l, _, _, _, rfl, rfl, SqL.of hl4, la, d, .int v, rfl, ?_, l, _, _, rfl, rfl, hl4, ?_, ?_⟩
    · have z := DGet.k (k := Sum.inl x) hd4
      rw [valV_dk, v1] at z
      exact z
    · rw [List.length_map, List.length_append, lL, sizeLine_eq]
      show m + 1 < _
      omega
    · refine ⟨Ex.mut e4 hl0, rfl, by rw [upd_ne ndl]; exact hd4, L ++ [x], v, by rw [upd_same, List.map_append (l₁ := L ++ [x])]; rfl, by rw [List.length_append, lL]; rfl, v2, by omega, ?_⟩
      rw [← pe, List.append_assoc, show 100 - m = (100 - (m + 1)) + 1 by omega]
      show L ++ ([x] ++ _) = L ++ (if x = b then [x] else x :: Odd.pwalk (Odd.toward rs b) b (100 - (m + 1)) ((Odd.look (Odd.toward rs b) x).getD 0))
      rw [if_neg c, v1]
      rfl
/-! ### == -/
def spEq (K : PySem.W.Frag) : Sp := fun vs H Q _ => ∃ y z n ts ws rs rs', vs = [.ref y, .ref z] ∧ YA K H y n ts ws rs ∧ YA K H z n ts ws rs' ∧ ∀ H', Ex H H' → Q (.bl true) H'
theorem sc_Y_eq : FnScope ["self", "other", "same"] ["self", "other"] (defScope s_Y_eq) := ⟨rfl, rfl, rfl, by decide +kernel, rfl, by decide +kernel, by decide +kernel⟩
theorem m_eq (W : Wd K mg) : Met P w K mg base 1 (CY K) "__eq__" (spEq K) [] := by
  refine W.met 59 84 sc_Y_eq (fun vs H Q E ⟨y, z, n, ts, ws, rs, rs', e, _⟩ => by rw [e]; rfl) (fun f cdv A outer s H vs Q E hr ⟨y, z, n, ts, ws, rs, rs', e, ⟨dx, pt, pw, pn, h1, h2, h3, h4⟩, ⟨dx', pt', pw', pn', g1, g2, g3, g4⟩, k⟩ => ?_) (fun _ _ _ _ _ _ us hl => match us, hl with | [_, _], _ => rfl)
  subst e
  have nd := sc_Y_eq.nd
  refine ⟨_, pss_cons (ps_if (pt_not (pt_val (pe_callB (call_isC W.ins) (by rfl) W.nm.isinstance boot_isinstance (pa_cons (pv 1) (pa_cons (pe_glob (v := .ref (CY K)) (by rfl) (W.g "Yard" (List.mem_of_getElem? (i := 52) rfl)) rfl) pa_nil))))) (pss_one (ps_ret pe_bl)) pss_nil)
    (pss_cons (ps_set (i := 2) nd rfl (Or.inl rfl) (pe_and (pe_cmpR op_eq (pe_fld (pv 0) rfl) (pe_fld (pv 1) rfl) (nomark _)) (pe_one (pe_cmpR (op_eqD hr.units) (pe_fld (pv 0) rfl) (pe_fld (pv 1) rfl) (nomark _)))))
    (pss_one (ps_ret (pe_and (pv 2) (pe_one (pe_cmpR (op_eqD hr.units) (pe_fld (pv 0) rfl) (pe_fld (pv 1) rfl) (nomark _))))))), ?_⟩
  refine ⟨_, rfl, z, dx', _, rfl, g1, true, rfl, iteF ?_⟩
  refine ⟨_, rfl, y, CY K, dx, _, _, rfl, h1, W.cl, W.nz, rfl, _, rfl, z, CY K, dx', _, _, rfl, g1, W.cl, W.nz, rfl, rfl, true, bl_t rfl, iteT ?_⟩
  refine ⟨_, rfl, y, CY K, dx, _, _, rfl, h1, W.cl, W.nt, rfl, _, rfl, z, CY K, dx', _, _, rfl, g1, W.cl, W.nt, rfl, dT ts, dT ts, h2.dp, g2.dp, sh_pairs ts, sh_pairs ts, ?_⟩
  rw [eqv_same (sh_pairs ts)]
  refine ⟨_, rfl, true, rfl, iteT ?_⟩
  refine ⟨_, rfl, y, CY K, dx, _, _, rfl, h1, W.cl, W.nw, rfl, _, rfl, z, CY K, dx', _, _, rfl, g1, W.cl, W.nw, rfl, dI ws, dI ws, dp_ints (SqL.of h3), dp_ints (SqL.of g3), sh_ints ws, sh_ints ws, ?_⟩
  rw [eqv_same (sh_ints ws)]
  exact k _ (Ex.rfl' _)
end
end Od

set_option Elab.async false
set_option linter.all false
set_option maxRecDepth 100000
set_option maxHeartbeats 4000000
/-! more comprehensions: a test that isn't told, elements that aren't told, targets that are pairs -/
namespace Od
open PySem PySem.Spec PyProof.Rows L2
/-- how a step changes the heap -/
structure ER (E : Hp → Hp → Prop) : Prop where
  refl : ∀ H, E H H
  trans : ∀ {H H1 H2}, E H H1 → E H1 H2 → E H H2
  put : ∀ {H H' : Hp} {p : Addr} {o : HO}, E H H' → H p = none → E H (upd H' p o)
theorem er_ex : ER Ex := ⟨Ex.rfl', Ex.trans, Ex.mut⟩
theorem er_b (B : Addr) : ER (ExB B) := ⟨fun H a o _ h => h, ExB.trans, fun {H H' p o} e hp a oo na ha => by rw [upd_ne (fun z => by rw [z, hp] at ha; cases ha)]; exact e a oo na ha⟩
section
variable {α : Type} {J : It} {n : Nat} {G : Hp → Prop} {Y : Nat → Hp → V → Hp → Prop} {j j2 : Nat} {tt : TT} {te : TE} {vs : List Nat} {σ : L2.St} {H1 : Hp} {D : Addr} {Qd : Hp → Prop} {E : Hp → Hp → Prop}
/-- the test may say what it likes -/
theorem lcAny (er : ER E) (hkD : ∀ H H' o, E H H' → H D = some o → H' D = some o) (w : Walk J n G Y) (as : List α) (inj : α → V) (v : α → V) (hY : ∀ i H x H', i < n → Y i H x H' → H' = H ∧ ∃ a, as[i]? = some a ∧ x = inj a) (hl : as.length = n) (hn : n ≤ 100000) (hD : H1 D = none) (hG : ∀ H, E H1 H → G H)
    (hw : ∀ x, wipe ((wipe σ vs).set j (some x)) vs = wipe σ vs)
    (ht : ∀ a ∈ as, ∀ H, E H1 H → ∀ Q : Bool → Hp → Prop, (∀ b H3, E H H3 → Q b H3) → tt ((wipe σ vs).set j (some (inj a))) H Q)
    (he : ∀ a ∈ as, ∀ H, E H1 H → ∀ Q : VK, (∀ H3, E H H3 → Q (v a) H3) → te ((wipe σ vs).set j (some (inj a))) H Q)
    (hd : ∀ H (l : List α), E H1 H → l.Sublist as → H D = some (.lst (l.map v)) → Qd H) :
    ∃ W : Nat → Nat → Hp → Prop, (∃ m, W 0 m (upd H1 D (.lst []))) ∧ ∀ i m H, W i m H →
      (J.stop i H ∧ Qd H) ∨ (J.go i H ∧ ∃ Nx : Hp → Prop, (∀ H', Nx H' → ∃ m', m' < m ∧ W (i + 1) m' H') ∧ ∀ x H', J.yld i H x H' → gName j x (wipe σ vs) H' fun σ2 H2 => wipe σ2 vs = wipe σ vs ∧ tt σ2 H2 fun b H3 =>
        if b = true then te σ2 H3 fun y H4 => ∃ acc, H4 D = some (.lst acc) ∧ acc.length < sizeLine ∧ Nx (upd H4 D (.lst (acc ++ [y]))) else Nx H3) := by
  refine lc_it w (fun i H => E H1 H ∧ ∃ l : List α, l.Sublist (as.take i) ∧ H D = some (.lst (l.map v))) ⟨er.put (er.refl _) hD, [], List.nil_sublist _, upd_same⟩ (fun i H _ p => hG H p.1) ?_ (fun H p => ?_)
  · rintro i x H H' hi ⟨e, l, sl, d⟩ y
    obtain ⟨rfl, a, ha, rfl⟩ := hY i H x H' hi y
    have hm : a ∈ as := List.mem_of_getElem? ha
    refine ⟨hw _, ht a hm H' e _ fun b H3 e3 => ?_⟩
    have hlen : (l.map v).length < sizeLine := by
      have z := sl.length_le
      rw [List.length_take] at z
      rw [List.length_map, sizeLine_eq]
      omega
    cases b with
    | true =>
      rw [if_pos rfl]
      refine he a hm H3 (er.trans e e3) _ fun H4 e4 => ⟨_, hkD _ _ _ e4 (hkD _ _ _ e3 d), hlen, er.put (er.trans (er.trans e e3) e4) hD, l ++ [a], ?_, ?_⟩
      · rw [take_snoc ha]
        exact sl.append (List.Sublist.refl _)
      · rw [upd_same, List.map_append]
        rfl
    | false =>
      rw [if_neg (by simp)]
      refine ⟨er.trans e e3, l, ?_, hkD _ _ _ e3 d⟩
      rw [take_snoc ha]
      exact sl.trans (List.sublist_append_left _ _)
  · obtain ⟨e, l, sl, d⟩ := p
    rw [← hl, List.take_length] at sl
    exact hd H l e sl d
/-- the elements may be what they like, of a kind -/
theorem lcEl (er : ER E) (hkD : ∀ H H' o, E H H' → H D = some o → H' D = some o) (w : Walk J n G Y) (as : List α) (inj : α → V) (Pd : α → V → Prop) (hY : ∀ i H x H', i < n → Y i H x H' → H' = H ∧ ∃ a, as[i]? = some a ∧ x = inj a) (hl : as.length = n) (hn : n ≤ 100000) (hD : H1 D = none) (hG : ∀ H, E H1 H → G H)
    (hw : ∀ x, wipe ((wipe σ vs).set j (some x)) vs = wipe σ vs)
    (he : ∀ a ∈ as, ∀ H, E H1 H → ∀ Q : VK, (∀ v H3, E H H3 → Pd a v → Q v H3) → te ((wipe σ vs).set j (some (inj a))) H Q)
    (hd : ∀ H (l : List V), E H1 H → l.length = n → (∀ v ∈ l, ∃ a, Pd a v) → H D = some (.lst l) → Qd H) :
    ∃ W : Nat → Nat → Hp → Prop, (∃ m, W 0 m (upd H1 D (.lst []))) ∧ ∀ i m H, W i m H →
      (J.stop i H ∧ Qd H) ∨ (J.go i H ∧ ∃ Nx : Hp → Prop, (∀ H', Nx H' → ∃ m', m' < m ∧ W (i + 1) m' H') ∧ ∀ x H', J.yld i H x H' → gName j x (wipe σ vs) H' fun σ2 H2 => wipe σ2 vs = wipe σ vs ∧ tYes σ2 H2 fun b H3 =>
        if b = true then te σ2 H3 fun y H4 => ∃ acc, H4 D = some (.lst acc) ∧ acc.length < sizeLine ∧ Nx (upd H4 D (.lst (acc ++ [y]))) else Nx H3) := by
  refine lc_it w (fun i H => E H1 H ∧ ∃ l : List V, l.length = i ∧ (∀ v ∈ l, ∃ a, Pd a v) ∧ H D = some (.lst l)) ⟨er.put (er.refl _) hD, [], rfl, by simp, upd_same⟩ (fun i H _ p => hG H p.1) ?_ (fun H p => ?_)
  · rintro i x H H' hi ⟨e, l, sl, pl, d⟩ y
    obtain ⟨rfl, a, ha, rfl⟩ := hY i H x H' hi y
    have hm : a ∈ as := List.mem_of_getElem? ha
    refine ⟨hw _, ?_⟩
    unfold tYes
    dsimp only
    rw [if_pos rfl]
    refine he a hm H' e _ fun v H3 e3 pv => ⟨l, hkD _ _ _ e3 d, by rw [sl, sizeLine_eq]; omega, er.put (er.trans e e3) hD, l ++ [v], by rw [List.length_append, sl]; rfl, fun z hz => ?_, upd_same⟩
    rcases List.mem_append.mp hz with hz | hz
    · exact pl z hz
    · rw [List.mem_singleton.mp hz]
      exact ⟨a, pv⟩
  · obtain ⟨e, l, sl, pl, d⟩ := p
    exact hd H l e sl pl d
/-- the target a pair, the items tuples: elements that are plain values -/
theorem lcT (w : Walk J n G Y) (as : List α) (in1 in2 : α → V) (v : α → V) (hY : ∀ i H x H', i < n → Y i H x H' → Ex H H' ∧ ∃ a q, as[i]? = some a ∧ x = .ref q ∧ H' q = some (.tup [in1 a, in2 a])) (hl : as.length = n) (hn : n ≤ 100000) (hD : H1 D = none) (hG : ∀ H, Ex H1 H → G H)
    (hw : ∀ x y, wipe (((wipe σ vs).set j (some x)).set j2 (some y)) vs = wipe σ vs)
    (he : ∀ a ∈ as, ∀ H, Ex H1 H → ∀ Q : VK, (∀ H3, Ex H H3 → Q (v a) H3) → te (((wipe σ vs).set j (some (in1 a))).set j2 (some (in2 a))) H Q)
    (hd : ∀ H, Ex H1 H → H D = some (.lst (as.map v)) → Qd H) {K : PySem.W.Frag} :
    ∃ W : Nat → Nat → Hp → Prop, (∃ m, W 0 m (upd H1 D (.lst []))) ∧ ∀ i m H, W i m H →
      (J.stop i H ∧ Qd H) ∨ (J.go i H ∧ ∃ Nx : Hp → Prop, (∀ H', Nx H' → ∃ m', m' < m ∧ W (i + 1) m' H') ∧ ∀ x H', J.yld i H x H' → gTup K 2 (gCons (gName j) (gCons (gName j2) gNil)) x (wipe σ vs) H' fun σ2 H2 => wipe σ2 vs = wipe σ vs ∧ tYes σ2 H2 fun b H3 =>
        if b = true then te σ2 H3 fun y H4 => ∃ acc, H4 D = some (.lst acc) ∧ acc.length < sizeLine ∧ Nx (upd H4 D (.lst (acc ++ [y]))) else Nx H3) := by
  refine lc_it w (fun i H => Ex H1 H ∧ H D = some (.lst ((as.take i).map v))) ⟨Ex.new hD, upd_same⟩ (fun i H _ p => hG H p.1) ?_ (fun H p => hd H p.1 (by rw [p.2, ← hl, List.take_length]))
  rintro i x H H' hi ⟨e, d⟩ y
  obtain ⟨e2, a, q, ha, rfl, hq⟩ := hY i H x H' hi y
  have hm : a ∈ as := List.mem_of_getElem? ha
  refine ⟨q, _, rfl, SqT.of hq, rfl, _, _, rfl, _, _, rfl, rfl, hw _ _, ?_⟩
  unfold tYes
  dsimp only
  rw [if_pos rfl]
  refine he a hm H' (e.trans e2) _ fun H3 e3 => ⟨_, e3 D _ (e2 D _ d), ?_, Ex.mut ((e.trans e2).trans e3) hD, ?_⟩
  · rw [List.length_map, sizeLine_eq, List.length_take]
    omega
  · rw [upd_same, take_snoc ha, List.map_append]
    rfl
end
section
variable {X : Cx} {K : PySem.W.Frag}
theorem kTupG {es : List Expr} {k : Nat} {t : TGs} {pos : Pos} (h : X.K = K) (hc : X.calm = true) (hp : PGs X es t) (hn : (assignEach es X.env).length = 2 := by rfl) (hst : (assignEach es X.env).findIdx? (·.1) = none := by rfl) : PG X (.Tuple es k pos) (gTup K 2 t) := by
  subst h
  exact pg_tup hc hp hn hst
end
/-- ints in lists -/
theorem inV_int (x : Int) : ∀ l : List Int, inV (.int x) (l.map V.int) = decide (x ∈ l)
  | [] => rfl
  | y :: r => by
    have ih := inV_int x r
    unfold inV at ih ⊢
    rw [List.map_cons, List.any_cons, ih]
    have e : eqV (.int y) (.int x) = decide (y = x) := by
      show (y == x) = decide (y = x)
      rfl
    rw [e]
    by_cases c : y = x
    · subst c; simp
    · rw [decide_eq_false c, Bool.false_or]
      by_cases d : x ∈ r
      · rw [decide_eq_true d, decide_eq_true (List.mem_cons_of_mem _ d)]
      · rw [decide_eq_false d, decide_eq_false (fun m => (List.mem_cons.mp m).elim (fun e => c e.symm) d)]
theorem flat_ints (l : List Int) : (l.map V.int).all flatV = true := by
  rw [List.all_eq_true]
  intro v hv
  obtain ⟨i, _, rfl⟩ := List.mem_map.mp hv
  rfl
theorem dvi (i j : Int) : decide (V.int i = V.int j) = decide (i = j) := by
  by_cases c : i = j
  · rw [c, decide_eq_true rfl, decide_eq_true rfl]
  · rw [decide_eq_false c, decide_eq_false (fun h => c (V.int.inj h))]
theorem eqvAll_ints : ∀ a b : List Int, PyData.eqvAll (a.map PyData.int) (b.map PyData.int) = decide (a = b)
  | [], [] => by simp [PyData.eqvAll]
  | [], b :: s => by simp [PyData.eqvAll]
  | a :: r, [] => by simp [PyData.eqvAll]
  | a :: r, b :: s => by
    rw [List.map_cons, List.map_cons]
    have ih := eqvAll_ints r s
    simp only [PyData.eqvAll, PyData.eqv, ih]
    by_cases c : a = b <;> by_cases d : r = s <;> simp [c, d]
theorem eqv_ints (a b : List Int) : PyData.eqv (dI a) (dI b) = decide (a = b) := by
  have := eqvAll_ints a b
  simpa [PyData.eqv] using this
end Od

set_option Elab.async false
set_option linter.all false
set_option maxRecDepth 100000
set_option maxHeartbeats 4000000
/-! neighbours_beyond, fork_of, unlike, is_free -/
namespace Odd
def beyond (rs : List (List Int)) (x m : Int) : List Int := (row rs x).filter fun y => !decide (y = m)
def longF (rs : List (List Int)) (m : Int) : List Int := (row rs m).filter fun x => !(beyond rs x m).isEmpty
def forkAt (rs : List (List Int)) (m : Int) : Bool := decide (2 < (row rs m).length) && decide (1 < (longF rs m).length)
def forkB (n : Nat) (rs : List (List Int)) : Bool := (posts n).any (forkAt rs)
def unlikeAt (rs : List (List Int)) (ws : List Int) (l o : Int) : Bool := decide (l < o) && (decide (row rs o = row rs l) && (!decide (decide (l ∈ ws) = decide (o ∈ ws))))
def unlikeB (n : Nat) (rs : List (List Int)) (ws : List Int) : Bool := (leavesF n rs).any fun l => (leavesF n rs).any fun o => unlikeAt rs ws l o
def freeB (n : Nat) (rs : List (List Int)) (ws : List Int) : Bool := forkB n rs || unlikeB n rs ws
theorem third {l : List Int} (nd : l.Nodup) (h : 2 < l.length) (a b : Int) : ∃ x r, l.filter (fun x => !decide (x = a) && !decide (x = b)) = x :: r := by
  match l, nd, h with
  | x :: y :: z :: r, nd, _ =>
    have q := List.nodup_cons.mp nd
    have q2 := List.nodup_cons.mp q.2
    have xy : x ≠ y := fun e => q.1 (by simp [e])
    have xz : x ≠ z := fun e => q.1 (by simp [e])
    have yz : y ≠ z := fun e => q2.1 (by simp [e])
    have ex : ∃ u, u ∈ x :: y :: z :: r ∧ u ≠ a ∧ u ≠ b := by
      by_cases c1 : x ≠ a ∧ x ≠ b
      · exact ⟨x, by simp, c1⟩
      · by_cases c2 : y ≠ a ∧ y ≠ b
        · exact ⟨y, by simp, c2⟩
        · exact ⟨z, by simp, by omega, by omega⟩
    obtain ⟨u, mu, n1, n2⟩ := ex
    have m : u ∈ (x :: y :: z :: r).filter (fun x => !decide (x = a) && !decide (x = b)) := List.mem_filter.mpr ⟨mu, by simp [n1, n2]⟩
    cases e : (x :: y :: z :: r).filter (fun x => !decide (x = a) && !decide (x = b)) with
    | nil => rw [e] at m; cases m
    | cons c d => exact ⟨c, d, rfl⟩
theorem mem_leaves {n : Nat} {rs : List (List Int)} {x : Int} (h : x ∈ leavesF n rs) : 0 ≤ x ∧ x < n := mem_posts.mp (List.mem_filter.mp h).1
theorem leaves_len {n : Nat} {rs : List (List Int)} : (leavesF n rs).length ≤ n := by
  have := List.length_filter_le (fun x => decide ((row rs x).length = 1)) (posts n)
  rw [posts_len] at this
  exact this
theorem any_take {α : Type} {l : List α} {f : α → Bool} (h : ∀ (i : Nat) (a : α), l[i]? = some a → f a = false) : l.any f = false := by
  rw [List.any_eq_false]
  intro a ha
  obtain ⟨i, hi⟩ := List.getElem?_of_mem ha
  rw [h i a hi]
  simp
theorem any_mem {α : Type} {l : List α} {f : α → Bool} {a : α} (h : a ∈ l) (fa : f a = true) : l.any f = true := List.any_eq_true.mpr ⟨a, h, fa⟩
end Odd
namespace Od
open PySem PySem.Spec PyProof.Rows L2
open C8 (Cal Met InsC pe_c pe_mt pe_mt0 call_isC)
section
variable {P : Program} {w : World} {K : PySem.W.Frag} {mg : Str → Option Value} {base : Heap}
theorem kNeD {X : Cx} (h : X.K = K) (hu : X.A.units + 64 < cLine) : OpR X (compareOp .NotEq) (rNeD K) := h ▸ op_neD hu
theorem kEqD {X : Cx} (h : X.K = K) (hu : X.A.units + 64 < cLine) : OpR X (compareOp .Eq) (rEqD K) := h ▸ op_eqD hu
theorem at0 {a : V} {r : List V} : atI (a :: r) 0 = some a := atI_nat (j := 0) rfl
theorem at1 {a b : V} {r : List V} : atI (a :: b :: r) 1 = some b := atI_nat (j := 1) rfl
theorem ie_ints (l : List Int) : (l.map PyData.int).isEmpty = l.isEmpty := by cases l <;> rfl
def spBeyond (K : PySem.W.Frag) : Sp := fun vs H Q _ => ∃ y n ts ws rs x m, vs = [.ref y, .int x, .int m] ∧ YA K H y n ts ws rs ∧ Odd.YOk n ts ws rs ∧ 0 ≤ x ∧ x < n ∧ ∀ q H', H q = none → Ex H H' → IL H' q (Odd.beyond rs x m) → Q (.ref q) H'
theorem sc_neighbours_beyond : FnScope ["yard", "post", "middle", "other"] ["yard", "post", "middle"] (defScope s_neighbours_beyond) := ⟨rfl, rfl, rfl, by decide +kernel, rfl, by decide +kernel, by decide +kernel⟩
theorem c_neighbours_beyond (W : Wd K mg) : Cal P w K mg base 4 "neighbours_beyond" (spBeyond K) [] := by
  refine W.cal 4 sc_neighbours_beyond (fun vs H Q E ⟨y, n, ts, ws, rs, x, m, e, _⟩ => by rw [e]; rfl) (fun f cdv A outer s H vs Q E hr ⟨y, n, ts, ws, rs, x, m, e, ya, ok, x0, x1, k⟩ => ?_) (fun _ _ _ _ _ _ us hl => match us, hl with | [_, _, _], _ => rfl)
  subst e
  have nd := sc_neighbours_beyond.nd
  refine ⟨_, pss_one (ps_ret (pe_lc (own := [("other", 3)]) (g := gName 3) rfl nd (pi_list (pe_mt (m_neighbours W) hr (by decide) (pv 0) (pa_cons (pv 1) pa_nil))) (blkOk_by (N := ["yard", "post", "middle", "other"]) (sc := defScope s_neighbours_beyond) (by decide +kernel))
      (fun _ _ _ _ _ => pg_name (i := 3) nd rfl (Or.inl rfl)) (fun _ _ _ _ _ => pts_one (pt_cmpR op_ne (pv 3) (pv 2) (nomark _))) (fun _ _ _ _ _ => pv 3))), ?_⟩
  obtain ⟨dx, pt, pw, pn, hy, _⟩ := id ya
  refine ⟨_, rfl, y, dx, _, rfl, hy, rfl, _, rfl, y, n, ts, ws, rs, x, rfl, ya, ok, x0, x1, fun q H1 hq e1 il => ?_⟩
  have rl := Odd.row_len ok.tr ok.nr x0 x1
  have h60 := ok.h60
  refine ⟨q, rfl, ⟨_, SqL.of il⟩, fun D hD => lcS walk_list (Odd.row rs x) V.int (fun z => !decide (z = m)) V.int y_map (by rw [List.length_map]) (by rw [List.length_map]; omega) hD (fun H2 e2 => SqL.of (e2 _ _ il)) (fun _ => rfl) (fun z hz H2 e2 Q2 q2 => ?_) (fun z hz _ H2 e2 Q2 q2 => ⟨_, rfl, q2 _ (Ex.rfl' _)⟩) (fun H2 e2 h2 => k D H2 (e1.free hD) (e1.trans e2) h2)⟩
  refine ⟨_, rfl, _, rfl, rfl, _, rfl, ?_⟩
  rw [dvi]
  exact q2 _ (Ex.rfl' _)
theorem beyond_len {n : Nat} {ts : List (Int × Int)} {ws : List Int} {rs : List (List Int)} (ok : Odd.YOk n ts ws rs) {x m : Int} (x0 : 0 ≤ x) (x1 : x < n) : (Odd.beyond rs x m).length ≤ 60 := by
  have a := List.length_filter_le (fun y => !decide (y = m)) (Odd.row rs x)
  have b := Odd.row_len ok.tr ok.nr x0 x1
  have c := ok.h60
  unfold Odd.beyond
  omega
def spFork (K : PySem.W.Frag) : Sp := fun vs H Q _ => ∃ y n ts ws rs, vs = [.ref y] ∧ YA K H y n ts ws rs ∧ Odd.YOk n ts ws rs ∧ (Odd.forkB n rs = false → ∀ H', Ex H H' → Q .non H') ∧ (Odd.forkB n rs = true → ∀ q H', Ex H H' → Q (.ref q) H')
theorem sc_fork_of : FnScope ["yard", "middle", "near", "long", "one", "other", "short", "end", "tip", "post"] ["yard"] (defScope s_fork_of) := ⟨rfl, rfl, rfl, by decide +kernel, rfl, by decide +kernel, by decide +kernel⟩
theorem c_fork_of (W : Wd K mg) : Cal P w K mg base 5 "fork_of" (spFork K) [] := by
  refine W.cal 5 sc_fork_of (fun vs H Q E ⟨y, n, ts, ws, rs, e, _⟩ => by rw [e]; rfl) (fun f cdv A outer s H vs Q E hr ⟨y, n, ts, ws, rs, e, ya, ok, k0, k1⟩ => ?_) (fun _ _ _ _ _ _ us hl => match us, hl with | [_], _ => rfl)
  subst e
  have nd := sc_fork_of.nd
  refine ⟨_, pss_cons (ps_for PassesOwn.never rfl (pi_range1 (by rfl) W.nm.range (pa_cons (pe_mt0 (m_size W) hr (by decide) (pv 0)) pa_nil)) (pg_name (i := 1) nd rfl (Or.inr rfl))
      (pss_cons (ps_set (i := 2) nd rfl (Or.inl rfl) (pe_mt (m_neighbours W) hr (by decide) (pv 0) (pa_cons (pv 1) pa_nil)))
      (pss_cons (ps_setLc (i := 3) (own := [("post", 9)]) (g := gName 9) rfl nd rfl rfl (sw_true rfl rfl rfl (by decide +kernel)) (pi_list (pv 2)) (blkOk_by (N := ["yard", "middle", "near", "long", "one", "other", "short", "end", "tip", "post"]) (sc := defScope s_fork_of) (by decide +kernel))
        (fun _ _ _ _ _ => pg_name (i := 9) nd rfl (Or.inl rfl)) (fun _ _ _ _ _ => pts_one (pt_cmpR (kNeD (K := K) rfl hr.units) (pe_c (c_neighbours_beyond W) hr (by decide) (by rfl) (pa_cons (pv 0) (pa_cons (pv 9) (pa_cons (pv 1) pa_nil)))) (pe_lst pa_nil) (nomark _))) (fun _ _ _ _ _ => pv 9))
      (pss_one (ps_if (PW.pt (pw_and (pt_cmpR op_gt (p_len W.nm (pv 2)) pe_int (nomark _)) (pw_and1 (pt_cmpR op_gt (p_len W.nm (pv 3)) pe_int (nomark _)))))
        (pss_cons (ps_asg (pe_tup (pa_cons (pe_ix ix_list (pv 3) pe_int (fun _ _ => rfl)) (pa_cons (pe_ix ix_list (pv 3) pe_int (fun _ _ => rfl)) pa_nil))) (pg_tup rfl (pgs_cons (pg_name (i := 4) nd rfl (Or.inr rfl)) (pgs_cons (pg_name (i := 5) nd rfl (Or.inr rfl)) pgs_nil))))
        (pss_cons (ps_set (i := 6) nd rfl (Or.inl rfl) (pe_ix ix_list (pe_lc (own := [("post", 9)]) (g := gName 9) rfl nd (pi_list (pv 2)) (blkOk_by (N := ["yard", "middle", "near", "long", "one", "other", "short", "end", "tip", "post"]) (sc := defScope s_fork_of) (by decide +kernel))
          (fun _ _ _ _ _ => pg_name (i := 9) nd rfl (Or.inl rfl)) (fun _ _ _ _ _ => pts_one (PW.pt (pw_and (pt_cmpR op_ne (pv 9) (pv 4) (nomark _)) (pw_and1 (pt_cmpR op_ne (pv 9) (pv 5) (nomark _)))))) (fun _ _ _ _ _ => pv 9)) pe_int (fun _ _ => rfl)))
        (pss_cons (ps_par (i := 7) (j := 8) (by rfl) nd rfl rfl (by decide) rfl rfl (pa_cons (pe_ix ix_list (pe_c (c_neighbours_beyond W) hr (by decide) (by rfl) (pa_cons (pv 0) (pa_cons (pv 4) (pa_cons (pv 1) pa_nil)))) pe_int (fun _ _ => rfl)) (pa_cons (pe_ix ix_list (pe_c (c_neighbours_beyond W) hr (by decide) (by rfl) (pa_cons (pv 0) (pa_cons (pv 5) (pa_cons (pv 1) pa_nil)))) pe_int (fun _ _ => rfl)) pa_nil)) (by rfl))
        (pss_one (ps_ret (pe_lst (pa_cons (pv 1) (pa_cons (pv 6) (pa_cons (pv 4) (pa_cons (pv 7) (pa_cons (pv 5) (pa_cons (pv 8) pa_nil))))))))))))
        pss_nil)))))
    (pss_one (ps_ret pe_non)), ?_⟩
  obtain ⟨dx, pt, pw, pn, hy, _⟩ := id ya
  have h60 := ok.h60
  have yak := fun {H' : Hp} (e : Ex H H') => ya.mono e
  refine ⟨_, rfl, y, dx, _, rfl, hy, rfl, y, n, ts, ws, rs, rfl, ya, _, rfl, by omega, by omega, ?_⟩
  refine for_it walk_range (fun i σ H1 => Ex H H1 ∧ (∀ (j : Nat) a, j < i → (Odd.posts n)[j]? = some a → Odd.forkAt rs a = false) ∧ ∃ a1 a2 a3 a4 a5 a6 a7 a8, σ = [some (.ref y), a1, a2, a3, a4, a5, a6, a7, a8, none])
    ⟨Ex.rfl' _, fun j a h => absurd h (Nat.not_lt_zero j), none, none, none, none, none, none, none, none, rfl⟩ (fun _ _ _ _ _ => trivial) ?_ ?_
  · rintro i x σ H1 H2 hi ⟨e1, no, a1, a2, a3, a4, a5, a6, a7, a8, rfl⟩ yy
    obtain ⟨rfl, m, hm, rfl⟩ := y_posts (n := n) i H1 x H2 hi yy
    obtain ⟨m0, m1⟩ := Odd.mem_posts.mp (List.mem_of_getElem? hm)
    refine ⟨_, rfl, y, dx, _, rfl, e1 _ _ hy, rfl, _, rfl, y, n, ts, ws, rs, m, rfl, yak e1, ok, m0, m1, fun q1 H3 hq1 e3 il1 => ?_⟩
    have e13 := e1.trans e3
    have rl := Odd.row_len ok.tr ok.nr m0 m1
    have rr := fun {z : Int} => Odd.row_rng ok.tr ok.nr m0 m1 (y := z)
    refine ⟨_, rfl, q1, rfl, ⟨_, SqL.of il1⟩, fun D hD => lcS walk_list (Odd.row rs m) V.int (fun z => !(Odd.beyond rs z m).isEmpty) V.int y_map (by rw [List.length_map]) (by rw [List.length_map]; omega) hD (fun H2 e2 => SqL.of (e2 _ _ il1)) (fun _ => rfl) (fun z hz H4 e4 Q2 q2 => ?_) (fun z hz _ H2 e2 Q2 q2 => ⟨_, rfl, q2 _ (Ex.rfl' _)⟩) (fun H4 e4 h4 => ?_)⟩
    · obtain ⟨z0, z1⟩ := rr hz
      refine ⟨_, rfl, _, rfl, _, rfl, y, n, ts, ws, rs, z, m, rfl, yak (e13.trans e4), ok, z0, z1, fun q2' H5 hq2 e5 il2 => ⟨by show 0 ≤ sizeLine; decide, fun l hl => ?_⟩⟩
      have e6 : Ex H5 (upd H5 l (.lst [])) := Ex.new hl
      refine ⟨dI _, .list [], dp_ints (SqL.of (e6 _ _ il2)), .lst (SqL.of upd_same) .nil, sh_ints _, sh_nil, _, rfl, ?_⟩
      rw [eqv_nil, ie_ints]
      exact q2 _ (e5.trans e6)
    · have e14 := e13.trans e4
      have il4 := e4 _ _ il1
      refine ⟨_, rfl, q1, _, rfl, .inl (SqL.of il4), _, _, rfl, rfl, _, rfl, ?_⟩
      rw [List.length_map]
      have lef : (((Odd.row rs m).filter fun z => !(Odd.beyond rs z m).isEmpty).map V.int).length = (Odd.longF rs m).length := by rw [List.length_map]; rfl
      have nxt : Odd.forkAt rs m = false → ∀ (j : Nat) a, j < i + 1 → (Odd.posts n)[j]? = some a → Odd.forkAt rs a = false := fun hf j a hj ha => by
        rcases Nat.lt_succ_iff_lt_or_eq.mp hj with z | z
        · exact no j a z ha
        · subst z; rw [hm] at ha; cases ha; exact hf
      by_cases c1 : 2 < (Odd.row rs m).length
      · rw [decide_eq_true (show ((Odd.row rs m).length : Int) > 2 by omega)]
        refine iteT ⟨_, rfl, D, _, rfl, .inl (SqL.of h4), _, _, rfl, rfl, _, rfl, ?_⟩
        rw [lef]
        by_cases c2 : 1 < (Odd.longF rs m).length
        · rw [decide_eq_true (show ((Odd.longF rs m).length : Int) > 1 by omega)]
          refine iteT ?_
          have h4' : H4 D = some (.lst ((Odd.longF rs m).map V.int)) := h4
          cases el : Odd.longF rs m with
          | nil => rw [el] at c2; simp at c2
          | cons one r =>
            cases er : r with
            | nil => rw [el, er] at c2; simp at c2
            | cons other r2 =>
              rw [er] at el
              rw [el] at h4'
              have m1' : one ∈ Odd.longF rs m := by rw [el]; simp
              have m2' : other ∈ Odd.longF rs m := by rw [el]; simp
              unfold Odd.longF at m1' m2'
              obtain ⟨p1, p2⟩ := List.mem_filter.mp m1'
              obtain ⟨p3, p4⟩ := List.mem_filter.mp m2'
              obtain ⟨o0, o1⟩ := rr p1
              obtain ⟨o2, o3⟩ := rr p3
              refine ⟨_, rfl, D, _, _, _, rfl, rfl, SqL.of h4', at0, _, rfl, D, _, _, _, rfl, rfl, SqL.of h4', at1, by show 2 ≤ sizeLine; decide, fun u hu => ?_⟩
              have e5 : Ex H4 (upd H4 u (.tup [.int one, .int other])) := Ex.new hu
              refine ⟨u, _, rfl, SqT.of upd_same, rfl, _, _, rfl, _, _, rfl, rfl, ?_⟩
              have il5 := e5 _ _ il4
              refine ⟨_, rfl, q1, rfl, ⟨_, SqL.of il5⟩, fun D2 hD2 => lcS walk_list (Odd.row rs m) V.int (fun z => !decide (z = one) && !decide (z = other)) V.int y_map (by rw [List.length_map]) (by rw [List.length_map]; omega) hD2 (fun H2 e2 => SqL.of (e2 _ _ il5)) (fun _ => rfl) (fun z hz H6 e6 Q2 q2 => ?_) (fun z hz _ H2 e2 Q2 q2 => ⟨_, rfl, q2 _ (Ex.rfl' _)⟩) (fun H6 e6 h6 => ?_)⟩
              · refine ⟨_, rfl, _, rfl, rfl, _, rfl, ?_⟩
                rw [dvi]
                have q2 := q2 H6 (Ex.rfl' _)
                by_cases d1 : z = one
                · rw [decide_eq_true d1] at q2 ⊢
                  exact iteF q2
                · rw [decide_eq_false d1] at q2 ⊢
                  refine iteT ⟨_, rfl, _, rfl, rfl, _, rfl, ?_⟩
                  rw [dvi]
                  exact q2
              · obtain ⟨sh, sr, es⟩ := Odd.third (Odd.up_nodup (Odd.row_up ok.nr m0 m1)) c1 one other
                rw [es] at h6
                have e16 := (e14.trans e5).trans e6
                refine ⟨D2, _, _, _, rfl, rfl, SqL.of h6, at0, ?_⟩
                refine ⟨_, rfl, _, rfl, _, rfl, y, n, ts, ws, rs, one, m, rfl, yak e16, ok, o0, o1, fun q3 H7 hq3 e7 il7 => ?_⟩
                cases eb : Odd.beyond rs one m with
                | nil => rw [eb] at p2; cases p2
                | cons tip1 b1 =>
                  rw [eb] at il7
                  refine ⟨q3, _, _, _, rfl, rfl, SqL.of il7, at0, ?_⟩
                  refine ⟨_, rfl, _, rfl, _, rfl, y, n, ts, ws, rs, other, m, rfl, yak (e16.trans e7), ok, o2, o3, fun q4 H8 hq4 e8 il8 => ?_⟩
                  cases eb2 : Odd.beyond rs other m with
                  | nil => rw [eb2] at p4; cases p4
                  | cons tip2 b2 =>
                    rw [eb2] at il8
                    refine ⟨q4, _, _, _, rfl, rfl, SqL.of il8, at0, _, _, rfl, ?_⟩
                    refine ⟨_, rfl, _, rfl, _, rfl, _, rfl, _, rfl, _, rfl, by show 6 ≤ sizeLine; decide, fun l hl => k1 ?_ l _ (((e16.trans e7).trans e8).trans (Ex.new hl))⟩
                    refine Odd.any_mem (List.mem_of_getElem? hm) ?_
                    unfold Odd.forkAt
                    rw [decide_eq_true c1, decide_eq_true c2]
                    rfl
        · rw [decide_eq_false (show ¬ ((Odd.longF rs m).length : Int) > 1 by omega)]
          refine iteF ⟨e14, nxt ?_, _, _, _, _, _, _, _, _, rfl⟩
          unfold Odd.forkAt
          rw [decide_eq_false c2, Bool.and_false]
      · rw [decide_eq_false (show ¬ ((Odd.row rs m).length : Int) > 2 by omega)]
        refine iteF (iteF ⟨e14, nxt ?_, _, _, _, _, _, _, _, _, rfl⟩)
        unfold Odd.forkAt
        rw [decide_eq_false c1, Bool.false_and]
  · rintro σ H1 ⟨e1, no, a1, a2, a3, a4, a5, a6, a7, a8, rfl⟩
    refine k0 (Odd.any_take fun i a ha => no i a ?_ ha) _ e1
    have := (List.getElem?_eq_some_iff.mp ha).1
    rw [Odd.posts_len] at this
    exact this
end
end Od

set_option Elab.async false
set_option linter.all false
set_option maxRecDepth 100000
set_option maxHeartbeats 4000000
/-! unlike, is_free -/
namespace Od
open PySem PySem.Spec PyProof.Rows L2
open C8 (Cal Met InsC pe_c pe_mt pe_mt0 call_isC)
section
variable {P : Program} {w : World} {K : PySem.W.Frag} {mg : Str → Option Value} {base : Heap}
theorem dbl (a b : Bool) : decide (V.bl a = V.bl b) = decide (a = b) := by
  cases a <;> cases b <;> rfl
def spUnlike (K : PySem.W.Frag) : Sp := fun vs H Q _ => ∃ y n ts ws rs, vs = [.ref y] ∧ YA K H y n ts ws rs ∧ Odd.YOk n ts ws rs ∧ (Odd.unlikeB n rs ws = false → ∀ H', Ex H H' → Q .non H') ∧ (Odd.unlikeB n rs ws = true → ∀ q H', Ex H H' → Q (.ref q) H')
theorem sc_unlike : FnScope ["yard", "wired", "leaves", "leaf", "near", "other"] ["yard"] (defScope s_unlike) := ⟨rfl, rfl, rfl, by decide +kernel, rfl, by decide +kernel, by decide +kernel⟩
theorem c_unlike (W : Wd K mg) : Cal P w K mg base 4 "unlike" (spUnlike K) [] := by
  refine W.cal 7 sc_unlike (fun vs H Q E ⟨y, n, ts, ws, rs, e, _⟩ => by rw [e]; rfl) (fun f cdv A outer s H vs Q E hr ⟨y, n, ts, ws, rs, e, ya, ok, k0, k1⟩ => ?_) (fun _ _ _ _ _ _ us hl => match us, hl with | [_], _ => rfl)
  subst e
  have nd := sc_unlike.nd
  refine ⟨_, pss_cons (ps_set (i := 1) nd rfl (Or.inl rfl) (pe_mt0 (m_wired W) hr (by decide) (pv 0)))
    (pss_cons (ps_set (i := 2) nd rfl (Or.inl rfl) (pe_mt0 (m_leaves W) hr (by decide) (pv 0)))
    (pss_cons (ps_for PassesOwn.never rfl (pi_list (pv 2)) (pg_name (i := 3) nd rfl (Or.inl rfl))
      (pss_cons (ps_set (i := 4) nd rfl (Or.inl rfl) (pe_mt (m_neighbours W) hr (by decide) (pv 0) (pa_cons (pv 3) pa_nil)))
      (pss_one (ps_for PassesOwn.never rfl (pi_list (pv 2)) (pg_name (i := 5) nd rfl (Or.inl rfl))
        (pss_one (ps_if (PW.pt (pw_and (pt_cmpR op_gt (pv 5) (pv 3) (nomark _)) (pw_and (pt_cmpR (op_eqD hr.units) (pe_mt (m_neighbours W) hr (by decide) (pv 0) (pa_cons (pv 5) pa_nil)) (pv 4) (nomark _))
            (pw_and1 (pt_cmpR op_ne (pe_cmpR op_in_seq (pv 3) (pv 1) rfl) (pe_cmpR op_in_seq (pv 5) (pv 1) rfl) (nomark _))))))
          (pss_one (ps_ret (pe_tup (pa_cons (pv 3) (pa_cons (pv 5) pa_nil))))) pss_nil))))))
    (pss_one (ps_ret pe_non)))), ?_⟩
  obtain ⟨dx, pt, pw, pn, hy, _⟩ := id ya
  have h60 := ok.h60
  have yak := fun {H' : Hp} (e : Ex H H') => ya.mono e
  have ll := Odd.leaves_len (n := n) (rs := rs)
  refine ⟨_, rfl, y, dx, _, rfl, hy, rfl, y, n, ts, ws, rs, rfl, ya, fun q1 H1 hq1 e1 wl => ?_⟩
  refine ⟨_, rfl, y, dx, _, rfl, e1 _ _ hy, rfl, y, n, ts, ws, rs, rfl, yak e1, ok, fun q2 H2 hq2 e2 lv => ?_⟩
  have e12 := e1.trans e2
  have wl2 := e2 _ _ wl
  refine ⟨_, rfl, q2, rfl, ⟨_, SqL.of lv⟩, for_it (walk_list (xs := (Odd.leavesF n rs).map V.int)) (fun i σ H3 => Ex H H3 ∧ H3 q1 = some (.lst (ws.map V.int)) ∧ H3 q2 = some (.lst ((Odd.leavesF n rs).map V.int)) ∧
      (∀ (j : Nat) a, j < i → (Odd.leavesF n rs)[j]? = some a → ((Odd.leavesF n rs).any fun o => Odd.unlikeAt rs ws a o) = false) ∧ ∃ a3 a4 a5, σ = [some (.ref y), some (.ref q1), some (.ref q2), a3, a4, a5])
    ⟨e12, wl2, lv, fun j a h => absurd h (Nat.not_lt_zero j), none, none, none, rfl⟩ (fun i σ H3 _ h => SqL.of h.2.2.1) ?_ ?_⟩
  · rintro i x σ H3 H4 hi ⟨e3, w3, l3, no, a3, a4, a5, rfl⟩ ⟨rfl, hx⟩
    rw [List.getElem?_map] at hx
    cases el : (Odd.leavesF n rs)[i]? with
    | none => rw [el] at hx; cases hx
    | some l =>
      rw [el] at hx
      cases hx
      have ml := List.mem_of_getElem? el
      obtain ⟨l0, l1⟩ := Odd.mem_leaves ml
      refine ⟨_, rfl, y, dx, _, rfl, e3 _ _ hy, rfl, _, rfl, y, n, ts, ws, rs, l, rfl, yak e3, ok, l0, l1, fun q4 H5 hq4 e5 nl => ?_⟩
      refine ⟨_, rfl, q2, rfl, ⟨_, SqL.of (e5 _ _ l3)⟩, for_it (walk_list (xs := (Odd.leavesF n rs).map V.int)) (fun j σ H6 => Ex H5 H6 ∧ (∀ (k : Nat) a, k < j → (Odd.leavesF n rs)[k]? = some a → Odd.unlikeAt rs ws l a = false) ∧ ∃ a5, σ = [some (.ref y), some (.ref q1), some (.ref q2), some (.int l), some (.ref q4), a5])
        ⟨Ex.rfl' _, fun j a h => absurd h (Nat.not_lt_zero j), _, rfl⟩ (fun j σ H6 _ h => SqL.of (h.1 _ _ (e5 _ _ l3))) ?_ ?_⟩
      · rintro j x σ H6 H7 hj ⟨e6, no2, b5, rfl⟩ ⟨rfl, hx⟩
        rw [List.getElem?_map] at hx
        cases eo : (Odd.leavesF n rs)[j]? with
        | none => rw [eo] at hx; cases hx
        | some o =>
          rw [eo] at hx
          cases hx
          have mo := List.mem_of_getElem? eo
          obtain ⟨o0, o1⟩ := Odd.mem_leaves mo
          have e36 := e3.trans (e5.trans e6)
          have nxt : Odd.unlikeAt rs ws l o = false → ∀ (k : Nat) a, k < j + 1 → (Odd.leavesF n rs)[k]? = some a → Odd.unlikeAt rs ws l a = false := fun hf k a hk ha => by
            rcases Nat.lt_succ_iff_lt_or_eq.mp hk with z | z
            · exact no2 k a z ha
            · subst z; rw [eo] at ha; cases ha; exact hf
          refine ⟨_, rfl, _, rfl, _, _, rfl, rfl, _, rfl, ?_⟩
          by_cases c1 : l < o
          · rw [decide_eq_true (show o > l from c1)]
            refine iteT ⟨_, rfl, y, dx, _, rfl, e36 _ _ hy, rfl, _, rfl, y, n, ts, ws, rs, o, rfl, yak e36, ok, o0, o1, fun q8 H8 hq8 e8 nl2 => ⟨_, rfl, dI _, dI _, dp_ints (SqL.of nl2), dp_ints (SqL.of (e8 _ _ (e6 _ _ nl))), sh_ints _, sh_ints _, _, rfl, ?_⟩⟩
            rw [eqv_ints]
            by_cases c2 : Odd.row rs o = Odd.row rs l
            · rw [decide_eq_true c2]
              have w8 := e8 _ _ (e6 _ _ (e5 _ _ w3))
              refine iteT ⟨_, rfl, _, rfl, q1, _, rfl, .inl (SqL.of w8), rfl, flat_ints _, _, rfl, _, rfl, q1, _, rfl, .inl (SqL.of w8), rfl, flat_ints _, rfl, _, rfl, ?_⟩
              rw [if_neg (by simp), if_neg (by simp), inV_int, inV_int, dbl]
              by_cases c3 : decide (l ∈ ws) = decide (o ∈ ws)
              · rw [decide_eq_true c3]
                refine iteF ⟨e6.trans e8, nxt ?_, _, rfl⟩
                unfold Odd.unlikeAt
                rw [decide_eq_true c3, Bool.not_true, Bool.and_false, Bool.and_false]
              · rw [decide_eq_false c3]
                refine iteT ⟨_, rfl, _, rfl, by show 2 ≤ sizeLine; decide, fun t ht => k1 ?_ t _ ((e36.trans e8).trans (Ex.new ht))⟩
                refine Odd.any_mem ml (Odd.any_mem mo ?_)
                unfold Odd.unlikeAt
                rw [decide_eq_true c1, decide_eq_true c2, decide_eq_false c3]
                rfl
            · rw [decide_eq_false c2]
              refine iteF (iteF ⟨e6.trans e8, nxt ?_, _, rfl⟩)
              unfold Odd.unlikeAt
              rw [decide_eq_false c2, Bool.false_and, Bool.and_false]
          · rw [decide_eq_false (show ¬ o > l from c1)]
            refine iteF (iteF ⟨e6, nxt ?_, _, rfl⟩)
            unfold Odd.unlikeAt
            rw [decide_eq_false c1, Bool.false_and]
      · rintro σ H6 ⟨e6, no2, b5, rfl⟩
        refine ⟨e3.trans (e5.trans e6), e6 _ _ (e5 _ _ w3), e6 _ _ (e5 _ _ l3), fun j a hj ha => ?_, _, _, _, rfl⟩
        rcases Nat.lt_succ_iff_lt_or_eq.mp hj with z | z
        · exact no j a z ha
        · subst z
          rw [el] at ha
          cases ha
          exact Odd.any_take fun k a hk => no2 k a (by rw [List.length_map]; exact (List.getElem?_eq_some_iff.mp hk).1) hk
  · rintro σ H3 ⟨e3, w3, l3, no, a3, a4, a5, rfl⟩
    refine k0 (Odd.any_take fun i a ha => no i a ?_ ha) _ e3
    rw [List.length_map]
    exact (List.getElem?_eq_some_iff.mp ha).1
def spIsFree (K : PySem.W.Frag) : Sp := fun vs H Q _ => ∃ y n ts ws rs, vs = [.ref y] ∧ YA K H y n ts ws rs ∧ Odd.YOk n ts ws rs ∧ ∀ H', Ex H H' → Q (.bl (Odd.freeB n rs ws)) H'
theorem sc_is_free : FnScope ["yard"] ["yard"] (defScope s_is_free) := ⟨rfl, rfl, rfl, by decide +kernel, rfl, by decide +kernel, by decide +kernel⟩
theorem c_is_free (W : Wd K mg) : Cal P w K mg base 6 "is_free" (spIsFree K) [] := by
  refine W.cal 8 sc_is_free (fun vs H Q E ⟨y, n, ts, ws, rs, e, _⟩ => by rw [e]; rfl) (fun f cdv A outer s H vs Q E hr ⟨y, n, ts, ws, rs, e, ya, ok, k⟩ => ?_) (fun _ _ _ _ _ _ us hl => match us, hl with | [_], _ => rfl)
  subst e
  refine ⟨_, pss_one (ps_ret (pe_or (pe_cmpR op_notN (pe_c (c_fork_of W) hr (by decide) (by rfl) (pa_cons (pv 0) pa_nil)) pe_non (nomark _)) (pe_one (pe_cmpR op_notN (pe_c (c_unlike W) hr (by decide) (by rfl) (pa_cons (pv 0) pa_nil)) pe_non (nomark _))))), ?_⟩
  refine ⟨_, rfl, y, n, ts, ws, rs, rfl, ya, ok, fun h0 H1 e1 => ⟨rfl, _, rfl, ?_⟩, fun h1 q H1 e1 => ⟨rfl, _, rfl, ?_⟩⟩
  · refine iteF ?_
    refine ⟨_, rfl, y, n, ts, ws, rs, rfl, ya.mono e1, ok, fun g0 H2 e2 => ⟨rfl, ?_⟩, fun g1 q H2 e2 => ⟨rfl, ?_⟩⟩
    · have z := k _ (e1.trans e2)
      unfold Odd.freeB at z
      rw [h0, g0] at z
      exact z
    · have z := k _ (e1.trans e2)
      unfold Odd.freeB at z
      rw [h0, g1] at z
      exact z
  · have z := k _ e1
    unfold Odd.freeB at z
    rw [h1, Bool.true_or] at z
    exact iteT z
end
end Od

set_option Elab.async false
set_option linter.all false
set_option maxRecDepth 100000
set_option maxHeartbeats 4000000
/-! broom_of, path_of -/
namespace Odd
def coreF (n : Nat) (rs : List (List Int)) : List Int := (posts n).filter fun x => !decide (x ∈ leavesF n rs)
def cnb (n : Nat) (rs : List (List Int)) (x : Int) : List Int := (row rs x).filter fun z => decide (z ∈ coreF n rs)
def endsF (n : Nat) (rs : List (List Int)) : List Int := (coreF n rs).filter fun x => decide ((cnb n rs x).length = 1)
def ones (n : Nat) : List Int := (List.range (n - 1)).map fun i : Nat => 1 + (i : Int)
def sideF (n : Nat) (rs : List (List Int)) (e : Int) : List Int := (leavesF n rs).filter fun x => decide (e ∈ row rs x)
def broomF (n : Nat) (rs : List (List Int)) : List Int × List Int × List Int :=
  if n < 3 then ([0], ones n, []) else if (coreF n rs).length = 1 then (coreF n rs, leavesF n rs, []) else
    (pathF rs ((endsF n rs).getD 0 0) ((endsF n rs).getD 1 0), sideF n rs ((endsF n rs).getD 0 0), sideF n rs ((endsF n rs).getD 1 0))
def partsF (n : Nat) (rs : List (List Int)) : List (List Int) := ([(broomF n rs).2.1] ++ ((broomF n rs).1.map fun x => [x]) ++ [(broomF n rs).2.2]).filter fun l => !l.isEmpty
section
variable {n : Nat} {ts : List (Int × Int)} {ws : List Int} {rs : List (List Int)}
theorem mem_core {x : Int} : x ∈ coreF n rs ↔ (0 ≤ x ∧ x < n ∧ (row rs x).length ≠ 1) := by
  unfold coreF leavesF
  rw [List.mem_filter, mem_posts]
  constructor
  · rintro ⟨⟨a, b⟩, c⟩
    refine ⟨a, b, fun e => ?_⟩
    have : x ∈ (posts n).filter fun x => decide ((row rs x).length = 1) := List.mem_filter.mpr ⟨mem_posts.mpr ⟨a, b⟩, decide_eq_true e⟩
    rw [decide_eq_true this] at c
    cases c
  · rintro ⟨a, b, c⟩
    refine ⟨⟨a, b⟩, ?_⟩
    have : x ∉ (posts n).filter fun x => decide ((row rs x).length = 1) := fun m => c (of_decide_eq_true (List.mem_filter.mp m).2)
    rw [decide_eq_false this]
    rfl
theorem core_nodup : (coreF n rs).Nodup := (posts_nodup (n := n)).filter _
theorem core_len : (coreF n rs).length ≤ n := by
  have := List.length_filter_le (fun x => !decide (x ∈ leavesF n rs)) (posts n)
  rw [posts_len] at this
  exact this
theorem ends_two (ok : YOk n ts ws rs) (h3 : ¬ n < 3) (h : (coreF n rs).length ≠ 1) : ∃ a b r, endsF n rs = a :: b :: r ∧ (0 ≤ a ∧ a < n) ∧ (0 ≤ b ∧ b < n) := by
  obtain ⟨x, x0, x1, x2⟩ := core_some ok.tr ok.nr (by omega)
  have mx : x ∈ coreF n rs := mem_core.mpr ⟨x0, x1, x2⟩
  have two : ∃ x y, x ∈ coreF n rs ∧ y ∈ coreF n rs ∧ x ≠ y := by
    have nd := core_nodup (n := n) (rs := rs)
    match e : coreF n rs, mx with
    | [c], _ => rw [e] at h; exact absurd rfl h
    | c :: d :: r, _ =>
      rw [e] at nd
      exact ⟨c, d, by simp, by simp, fun z => (List.nodup_cons.mp nd).1 (by simp [z])⟩
  obtain ⟨u, v, mu, mv, ne⟩ := two
  obtain ⟨u0, u1, u2⟩ := mem_core.mp mu
  obtain ⟨v0, v1, v2⟩ := mem_core.mp mv
  obtain ⟨a, b, nab, ⟨a0, a1, fa, ea⟩, ⟨b0, b1, fb, eb⟩⟩ := two_ends ok.tr ok.nr (f := fun z => decide (z ∈ coreF n rs)) (fun z z0 z1 => by
    rw [decide_eq_true_iff, mem_core]
    exact ⟨fun h => h.2.2, fun h => ⟨z0, z1, h⟩⟩) u0 u1 v0 v1 (decide_eq_true mu) (decide_eq_true mv) ne
  have ma : a ∈ endsF n rs := List.mem_filter.mpr ⟨of_decide_eq_true fa, decide_eq_true ea⟩
  have mb : b ∈ endsF n rs := List.mem_filter.mpr ⟨of_decide_eq_true fb, decide_eq_true eb⟩
  have l2 := two_len ma mb nab
  have rng : ∀ z ∈ endsF n rs, 0 ≤ z ∧ z < n := fun z hz => by
    have := mem_core.mp (List.mem_filter.mp hz).1
    exact ⟨this.1, this.2.1⟩
  match e : endsF n rs, l2 with
  | c :: d :: r, _ =>
    rw [e] at rng
    exact ⟨c, d, r, rfl, rng c (by simp), rng d (by simp)⟩
theorem pwalk_len {tw : List (Int × Int)} {b : Int} : ∀ f x, (pwalk tw b f x).length ≤ f + 1
  | 0, x => Nat.le_refl _
  | f + 1, x => by
    unfold pwalk
    by_cases c : x = b
    · rw [if_pos c]; simp
    · rw [if_neg c, List.length_cons]
      have := pwalk_len (tw := tw) (b := b) f ((look tw x).getD 0)
      omega
theorem pathF_len {a b : Int} : (pathF rs a b).length ≤ 101 := pwalk_len 100 a
theorem pwalk_ne {tw : List (Int × Int)} {b : Int} : ∀ f x, pwalk tw b f x ≠ []
  | 0, x => by simp [pwalk]
  | f + 1, x => by
    unfold pwalk
    by_cases c : x = b
    · rw [if_pos c]; simp
    · rw [if_neg c]; simp
theorem broom_len (ok : YOk n ts ws rs) : (broomF n rs).1.length ≤ 101 ∧ (broomF n rs).2.1.length ≤ 101 ∧ (broomF n rs).2.2.length ≤ 101 := by
  have h60 := ok.h60
  have c := core_len (n := n) (rs := rs)
  have l := leaves_len (n := n) (rs := rs)
  have side : ∀ e, (sideF n rs e).length ≤ n := fun e => by
    have := List.length_filter_le (fun x => decide (e ∈ row rs x)) (leavesF n rs)
    unfold sideF
    omega
  unfold broomF
  by_cases h3 : n < 3
  · rw [if_pos h3]
    refine ⟨by simp, ?_, by simp⟩
    unfold ones
    rw [List.length_map, List.length_range]
    omega
  · rw [if_neg h3]
    by_cases h1 : (coreF n rs).length = 1
    · rw [if_pos h1]
      exact ⟨by show (coreF n rs).length ≤ 101; omega, by show (leavesF n rs).length ≤ 101; omega, by simp⟩
    · rw [if_neg h1]
      exact ⟨pathF_len, by have := side ((endsF n rs).getD 0 0); show (sideF n rs _).length ≤ 101; omega, by have := side ((endsF n rs).getD 1 0); show (sideF n rs _).length ≤ 101; omega⟩
theorem broom_ne (ok : YOk n ts ws rs) : (broomF n rs).1 ≠ [] := by
  unfold broomF
  by_cases h3 : n < 3
  · rw [if_pos h3]; simp
  · rw [if_neg h3]
    by_cases h1 : (coreF n rs).length = 1
    · rw [if_pos h1]
      intro e
      have e : coreF n rs = [] := e
      rw [e] at h1
      simp at h1
    · rw [if_neg h1]
      exact pwalk_ne _ _
theorem parts_len (ok : YOk n ts ws rs) : 1 ≤ (partsF n rs).length ∧ (partsF n rs).length ≤ 103 ∧ ∀ p ∈ partsF n rs, p ≠ [] ∧ p.length ≤ 101 := by
  obtain ⟨a, b, c⟩ := broom_len ok
  refine ⟨?_, ?_, fun p hp => ?_⟩
  · have ne := broom_ne ok
    cases e : (broomF n rs).1 with
    | nil => exact absurd e ne
    | cons x r =>
      have m : [x] ∈ partsF n rs := List.mem_filter.mpr ⟨by rw [e]; simp, rfl⟩
      exact List.length_pos_of_mem m
  · have := List.length_filter_le (fun l : List Int => !l.isEmpty) ([(broomF n rs).2.1] ++ ((broomF n rs).1.map fun x => [x]) ++ [(broomF n rs).2.2])
    unfold partsF
    rw [List.length_append, List.length_append, List.length_map] at this
    simp only [List.length_singleton] at this
    omega
  · unfold partsF at hp
    obtain ⟨m, f⟩ := List.mem_filter.mp hp
    refine ⟨fun e => by subst e; simp at f, ?_⟩
    rcases List.mem_append.mp m with m | m
    · rcases List.mem_append.mp m with m | m
      · rw [List.mem_singleton.mp m]; exact b
      · obtain ⟨x, _, e⟩ := List.mem_map.mp m
        rw [← e]
        simp
    · rw [List.mem_singleton.mp m]; exact c
end
end Odd
namespace Od
open PySem PySem.Spec PyProof.Rows L2
open C8 (Cal Met InsC pe_c pe_mt pe_mt0 call_isC)
section
variable {P : Program} {w : World} {K : PySem.W.Frag} {mg : Str → Option Value} {base : Heap}
theorem kPiList {X : Cx} {tg l : Expr} {tl : TE} (h : X.K = K) (hl : PE X l tl) : PI X tg l (iList K tl) := by
  subst h
  exact pi_list hl
def spBroom (K : PySem.W.Frag) : Sp := fun vs H Q _ => ∃ y n ts ws rs, vs = [.ref y] ∧ YA K H y n ts ws rs ∧ Odd.YOk n ts ws rs ∧
  ∀ q qa qb qc H', Ex H H' → H' q = some (.tup [.ref qa, .ref qb, .ref qc]) → IL H' qa (Odd.broomF n rs).1 → IL H' qb (Odd.broomF n rs).2.1 → IL H' qc (Odd.broomF n rs).2.2 → Q (.ref q) H'
theorem sc_broom_of : FnScope ["yard", "leaves", "core", "ends", "left", "right", "post", "other"] ["yard"] (defScope s_broom_of) := ⟨rfl, rfl, rfl, by decide +kernel, rfl, by decide +kernel, by decide +kernel⟩
def scB : Scope := { kind := .function, names := [(".0", .local), ("post", .local), ("len", .globalImplicit), ("core", .cell), ("yard", .cell)], isGenerator := false, isCoroutine := false }
theorem c_broom_of (W : Wd K mg) : Cal P w K mg base 4 "broom_of" (spBroom K) [] := by
  refine W.cal 6 sc_broom_of (fun vs H Q E ⟨y, n, ts, ws, rs, e, _⟩ => by rw [e]; rfl) (fun f cdv A outer s H vs Q E hr ⟨y, n, ts, ws, rs, e, ya, ok, k⟩ => ?_) (fun _ _ _ _ _ _ us hl => match us, hl with | [_], _ => rfl)
  subst e
  have nd := sc_broom_of.nd
  refine ⟨_, pss_cons (ps_if (pt_cmpR op_lt (pe_mt0 (m_size W) hr (by decide) (pv 0)) pe_int (nomark _))
      (pss_one (ps_ret (pe_tup (pa_cons (pe_lst (pa_cons pe_int pa_nil)) (pa_cons (pe_listRg rfl (by rfl) W.nm.list (prg_2 (by rfl) W.nm.range pe_int (pe_mt0 (m_size W) hr (by decide) (pv 0)))) (pa_cons (pe_lst pa_nil) pa_nil)))))) pss_nil)
    (pss_cons (ps_set (i := 1) nd rfl (Or.inr rfl) (pe_mt0 (m_leaves W) hr (by decide) (pv 0)))
    (pss_cons (ps_set (i := 2) nd rfl (Or.inr rfl) (pe_lc (own := [("post", 6)]) (g := gName 6) rfl nd (pi_range1 (by rfl) W.nm.range (pa_cons (pe_mt0 (m_size W) hr (by decide) (pv 0)) pa_nil)) (blkOk_by (N := ["yard", "leaves", "core", "ends", "left", "right", "post", "other"]) (sc := defScope s_broom_of) (by decide +kernel))
        (fun _ _ _ _ _ => pg_name (i := 6) nd rfl (Or.inl rfl)) (fun _ _ _ _ _ => pts_one (pt_cmpR (kNotInSeq (K := K) rfl) (pv 6) (pv 1) rfl)) (fun _ _ _ _ _ => pv 6)))
    (pss_cons (ps_if (pt_cmpR op_eq (p_len W.nm (pv 2)) pe_int (nomark _)) (pss_one (ps_ret (pe_tup (pa_cons (pv 2) (pa_cons (pv 1) (pa_cons (pe_lst pa_nil) pa_nil)))))) pss_nil)
    (pss_cons (ps_set (i := 3) nd rfl (Or.inr rfl) (pe_lc (own := [("post", 6)]) (g := gName 6) rfl nd (pi_list (pv 2)) (blkOk_by (N := ["yard", "leaves", "core", "ends", "left", "right", "post", "other"]) (sc := defScope s_broom_of) (by decide +kernel))
        (fun _ _ _ _ _ => pg_name (i := 6) nd rfl (Or.inl rfl))
        (fun _ _ _ _ _ => pts_one (pt_cmpR op_eq (pk_len (K := K) rfl W.nm (pe_lc (own := [("other", 7)]) (g := gName 7) rfl nd (kPiList (K := K) rfl (pe_mt (m_neighbours W) hr (by decide) (pv 0) (pa_cons (pv 6) pa_nil))) (blkOk_by (N := ["yard", "leaves", "core", "ends", "left", "right", "post", "other"]) (sc := scB) (by decide +kernel))
          (fun _ _ _ _ _ => pg_name (i := 7) nd rfl (Or.inl rfl)) (fun _ _ _ _ _ => pts_one (pt_cmpR (kInSeq (K := K) rfl) (pv 7) (pv 2) rfl)) (fun _ _ _ _ _ => pv 7))) pe_int (nomark _)))
        (fun _ _ _ _ _ => pv 6)))
    (pss_cons (ps_setLc (i := 4) (own := [("post", 6)]) (g := gName 6) rfl nd rfl rfl (sw_true rfl rfl rfl (by decide +kernel)) (pi_list (pv 1)) (blkOk_by (N := ["yard", "leaves", "core", "ends", "left", "right", "post", "other"]) (sc := defScope s_broom_of) (by decide +kernel))
        (fun _ _ _ _ _ => pg_name (i := 6) nd rfl (Or.inl rfl)) (fun _ _ _ _ _ => pts_one (pt_cmpR (kInSeq (K := K) rfl) (pe_ix (kIxL (K := K) rfl) (pv 3) pe_int (fun _ _ => rfl)) (pe_mt (m_neighbours W) hr (by decide) (pv 0) (pa_cons (pv 6) pa_nil)) rfl)) (fun _ _ _ _ _ => pv 6))
    (pss_cons (ps_setLc (i := 5) (own := [("post", 6)]) (g := gName 6) rfl nd rfl rfl (sw_true rfl rfl rfl (by decide +kernel)) (pi_list (pv 1)) (blkOk_by (N := ["yard", "leaves", "core", "ends", "left", "right", "post", "other"]) (sc := defScope s_broom_of) (by decide +kernel))
        (fun _ _ _ _ _ => pg_name (i := 6) nd rfl (Or.inl rfl)) (fun _ _ _ _ _ => pts_one (pt_cmpR (kInSeq (K := K) rfl) (pe_ix (kIxL (K := K) rfl) (pv 3) pe_int (fun _ _ => rfl)) (pe_mt (m_neighbours W) hr (by decide) (pv 0) (pa_cons (pv 6) pa_nil)) rfl)) (fun _ _ _ _ _ => pv 6))
    (pss_one (ps_ret (pe_tup (pa_cons (pe_mt (m_path W) hr (by decide) (pv 0) (pa_cons (pe_ix ix_list (pv 3) pe_int (fun _ _ => rfl)) (pa_cons (pe_ix ix_list (pv 3) pe_int (fun _ _ => rfl)) pa_nil))) (pa_cons (pv 4) (pa_cons (pv 5) pa_nil)))))))))))), ?_⟩
  obtain ⟨dx, pt, pw, pn, hy, _⟩ := id ya
  have h60 := ok.h60
  have h1 := ok.h1
  have yak := fun {H' : Hp} (e : Ex H H') => ya.mono e
  have ll := Odd.leaves_len (n := n) (rs := rs)
  have cl := Odd.core_len (n := n) (rs := rs)
  refine ⟨_, rfl, y, dx, _, rfl, hy, rfl, y, n, ts, ws, rs, rfl, ya, _, _, rfl, rfl, _, rfl, ?_⟩
  by_cases h3 : n < 3
  · rw [decide_eq_true (show (n : Int) < 3 by omega)]
    refine iteT ⟨by show 1 ≤ sizeLine; decide, fun la hla => ?_⟩
    have e1 : Ex H (upd H la (.lst [.int 0])) := Ex.new hla
    refine ⟨_, rfl, y, dx, _, rfl, e1 _ _ hy, rfl, y, n, ts, ws, rs, rfl, yak e1, 1, n, rfl, rfl, RgOk.of_le (by decide) (by omega) (by decide) (by omega), fun lb hlb => ?_⟩
    have e2 := e1.trans (Ex.new (o := .lst (rgV 1 (n : Int))) hlb)
    refine ⟨by show 0 ≤ sizeLine; decide, fun lc hlc => ⟨by show 3 ≤ sizeLine; decide, fun t ht => ?_⟩⟩
    have e3 := e2.trans (Ex.new (o := .lst []) hlc)
    have eb : (Odd.broomF n rs) = ([0], Odd.ones n, []) := by unfold Odd.broomF; rw [if_pos h3]
    have a1 : upd H la (.lst [.int 0]) la = some (.lst [.int 0]) := upd_same
    have b1 : upd (upd H la (.lst [.int 0])) lb (.lst (rgV 1 (n : Int))) lb = some (.lst (rgV 1 (n : Int))) := upd_same
    generalize upd H la (.lst [.int 0]) = Ha at *
    generalize hHb : upd Ha lb (.lst (rgV 1 (n : Int))) = Hb at *
    have a2 : Hb la = some (.lst [.int 0]) := by rw [← hHb, upd_ne (ne_of_none a1 hlb)]; exact a1
    have c3 : upd Hb lc (.lst []) lc = some (.lst []) := upd_same
    have f3 := Ex.new (H := Hb) (o := .lst []) hlc
    have a3 := f3 _ _ a2
    have b3 := f3 _ _ b1
    have f4 := Ex.new (o := .tup [.ref la, .ref lb, .ref lc]) ht
    refine k t la lb lc _ (e3.trans f4) upd_same ?_ ?_ ?_
    · rw [eb]; exact f4 _ _ a3
    · rw [eb]
      have z := f4 _ _ b3
      have er : rgV 1 (n : Int) = (Odd.ones n).map V.int := by
        unfold rgV Odd.ones
        rw [show ((n : Int) - 1).toNat = n - 1 by omega, List.map_map]
        rfl
      rw [er] at z
      exact z
    · rw [eb]; exact f4 _ _ c3
  · rw [decide_eq_false (show ¬ (n : Int) < 3 by omega)]
    refine iteF ?_
    refine ⟨_, rfl, y, dx, _, rfl, hy, rfl, y, n, ts, ws, rs, rfl, ya, ok, fun ql H1 hql e1 lv => ?_⟩
    refine ⟨_, rfl, y, dx, _, rfl, e1 _ _ hy, rfl, y, n, ts, ws, rs, rfl, yak e1, _, rfl, by omega, by omega, fun D hD => lcS walk_range (Odd.posts n) V.int (fun x => !decide (x ∈ Odd.leavesF n rs)) V.int y_posts Odd.posts_len (by show n ≤ _; omega) hD (fun _ _ => trivial) (fun _ => rfl) (fun x hx H2 e2 Q2 q2 => ?_) (fun x hx _ H2 e2 Q2 q2 => ⟨_, rfl, q2 _ (Ex.rfl' _)⟩) (fun H2 e2 h2 => ?_)⟩
    · refine ⟨_, rfl, _, rfl, ql, _, rfl, .inl (SqL.of (e2 _ _ lv)), rfl, flat_ints _, _, rfl, ?_⟩
      rw [if_pos rfl, inV_int]
      exact q2 _ (Ex.rfl' _)
    have h2' : H2 D = some (.lst ((Odd.coreF n rs).map V.int)) := h2
    have e12 := e1.trans e2
    have lv2 := e2 _ _ lv
    refine ⟨_, rfl, D, _, rfl, .inl (SqL.of h2'), rfl, _, rfl, ?_⟩
    rw [dvi, List.length_map]
    by_cases c1 : (Odd.coreF n rs).length = 1
    · rw [decide_eq_true (show ((Odd.coreF n rs).length : Int) = 1 by omega)]
      refine iteT ⟨_, rfl, _, rfl, by show 0 ≤ sizeLine; decide, fun lc hlc => ⟨by show 3 ≤ sizeLine; decide, fun t ht => ?_⟩⟩
      have eb : (Odd.broomF n rs) = (Odd.coreF n rs, Odd.leavesF n rs, []) := by unfold Odd.broomF; rw [if_neg h3, if_pos c1]
      have f3 := Ex.new (H := H2) (o := .lst []) hlc
      have f4 := Ex.new (o := .tup [.ref D, .ref ql, .ref lc]) ht
      refine k t D ql lc _ ((e12.trans f3).trans f4) upd_same ?_ ?_ ?_
      · rw [eb]; exact f4 _ _ (f3 _ _ h2')
      · rw [eb]; exact f4 _ _ (f3 _ _ lv2)
      · rw [eb]; exact f4 _ _ upd_same
    · rw [decide_eq_false (show ¬ ((Odd.coreF n rs).length : Int) = 1 by omega)]
      refine iteF ?_
      refine ⟨_, rfl, D, rfl, ⟨_, SqL.of h2'⟩, fun D3 hD3 => lcS walk_list (Odd.coreF n rs) V.int (fun x => decide ((Odd.cnb n rs x).length = 1)) V.int y_map (by rw [List.length_map]) (by rw [List.length_map]; omega) hD3 (fun H3 e3 => SqL.of (e3 _ _ h2')) (fun _ => rfl) (fun x hx H3 e3 Q3 q3 => ?_) (fun x hx _ H3 e3 Q3 q3 => ⟨_, rfl, q3 _ (Ex.rfl' _)⟩) (fun H3 e3 h3' => ?_)⟩
      · obtain ⟨x0, x1, _⟩ := Odd.mem_core.mp hx
        have e13 := e12.trans e3
        refine ⟨_, rfl, y, dx, _, rfl, e13 _ _ hy, rfl, _, rfl, y, n, ts, ws, rs, x, rfl, yak e13, ok, x0, x1, fun q4 H4 hq4 e4 rl4 => ?_⟩
        have rl := Odd.row_len ok.tr ok.nr x0 x1
        have c4 := e4 _ _ (e3 _ _ h2')
        refine ⟨q4, rfl, ⟨_, SqL.of rl4⟩, fun D5 hD5 => lcS walk_list (Odd.row rs x) V.int (fun z => decide (z ∈ Odd.coreF n rs)) V.int y_map (by rw [List.length_map]) (by rw [List.length_map]; omega) hD5 (fun H5 e5 => SqL.of (e5 _ _ rl4)) (fun _ => rfl) (fun z hz H5 e5 Q5 q5 => ?_) (fun z hz _ H5 e5 Q5 q5 => ⟨_, rfl, q5 _ (Ex.rfl' _)⟩) (fun H5 e5 h5 => ?_)⟩
        · refine ⟨_, rfl, _, rfl, D, _, rfl, .inl (SqL.of (e5 _ _ c4)), rfl, flat_ints _, _, rfl, ?_⟩
          rw [if_neg (by simp), inV_int]
          exact q5 _ (Ex.rfl' _)
        · refine ⟨D5, _, rfl, .inl (SqL.of h5), rfl, _, rfl, ?_⟩
          rw [dvi, List.length_map]
          have q := q3 H5 (e4.trans e5)
          have ee : decide ((((Odd.row rs x).filter fun z => decide (z ∈ Odd.coreF n rs)).length : Int) = 1) = decide ((Odd.cnb n rs x).length = 1) := by
            unfold Odd.cnb
            by_cases c : ((Odd.row rs x).filter fun z => decide (z ∈ Odd.coreF n rs)).length = 1
            · rw [c]; rfl
            · rw [decide_eq_false c, decide_eq_false (by omega)]
          rw [ee]
          exact q
      obtain ⟨ea, eb, er, ee, ⟨a0, a1⟩, ⟨b0, b1⟩⟩ := Odd.ends_two ok h3 c1
      have h3e : H3 D3 = some (.lst ((ea :: eb :: er).map V.int)) := by rw [← ee]; exact h3'
      have e13 := e12.trans e3
      have lv3 := e3 _ _ lv2
      have g0 : (Odd.endsF n rs).getD 0 0 = ea := by rw [ee]; rfl
      have g1 : (Odd.endsF n rs).getD 1 0 = eb := by rw [ee]; rfl
      refine ⟨_, rfl, ql, rfl, ⟨_, SqL.of lv3⟩, fun D4 hD4 => lcS walk_list (Odd.leavesF n rs) V.int (fun x => decide (ea ∈ Odd.row rs x)) V.int y_map (by rw [List.length_map]) (by rw [List.length_map]; omega) hD4 (fun H4 e4 => SqL.of (e4 _ _ lv3)) (fun _ => rfl) (fun x hx H4 e4 Q4 q4 => ?_) (fun x hx _ H4 e4 Q4 q4 => ⟨_, rfl, q4 _ (Ex.rfl' _)⟩) (fun H4 e4 h4 => ?_)⟩
      · obtain ⟨x0, x1⟩ := Odd.mem_leaves hx
        have e14 := e13.trans e4
        refine ⟨_, rfl, D3, _, _, _, rfl, rfl, SqL.of (e4 _ _ h3e), at0, _, rfl, y, dx, _, rfl, e14 _ _ hy, rfl, _, rfl, y, n, ts, ws, rs, x, rfl, yak e14, ok, x0, x1, fun q5 H5 hq5 e5 rl5 => ⟨q5, _, rfl, .inl (SqL.of rl5), rfl, flat_ints _, _, rfl, ?_⟩⟩
        rw [if_neg (by simp), inV_int]
        exact q4 _ e5
      have e14 := e13.trans e4
      have h4e := e4 _ _ h3e
      have lv4 := e4 _ _ lv3
      refine ⟨_, rfl, ql, rfl, ⟨_, SqL.of lv4⟩, fun D5 hD5 => lcS walk_list (Odd.leavesF n rs) V.int (fun x => decide (eb ∈ Odd.row rs x)) V.int y_map (by rw [List.length_map]) (by rw [List.length_map]; omega) hD5 (fun H5 e5 => SqL.of (e5 _ _ lv4)) (fun _ => rfl) (fun x hx H5 e5 Q5 q5 => ?_) (fun x hx _ H5 e5 Q5 q5 => ⟨_, rfl, q5 _ (Ex.rfl' _)⟩) (fun H5 e5 h5 => ?_)⟩
      · obtain ⟨x0, x1⟩ := Odd.mem_leaves hx
        have e15 := e14.trans e5
        refine ⟨_, rfl, D3, _, _, _, rfl, rfl, SqL.of (e5 _ _ h4e), at1, _, rfl, y, dx, _, rfl, e15 _ _ hy, rfl, _, rfl, y, n, ts, ws, rs, x, rfl, yak e15, ok, x0, x1, fun q6 H6 hq6 e6 rl6 => ⟨q6, _, rfl, .inl (SqL.of rl6), rfl, flat_ints _, _, rfl, ?_⟩⟩
        rw [if_neg (by simp), inV_int]
        exact q5 _ e6
      have e15 := e14.trans e5
      have h5e := e5 _ _ h4e
      refine ⟨_, rfl, y, dx, _, rfl, e15 _ _ hy, rfl, _, rfl, D3, _, _, _, rfl, rfl, SqL.of h5e, at0, _, rfl, D3, _, _, _, rfl, rfl, SqL.of h5e, at1, y, n, ts, ws, rs, ea, eb, rfl, yak e15, ok, a0, a1, b0, b1, fun q6 H6 hq6 e6 pl => ⟨_, rfl, _, rfl, by show 3 ≤ sizeLine; decide, fun t ht => ?_⟩⟩
      have f7 := Ex.new (o := .tup [.ref q6, .ref D4, .ref D5]) ht
      have ebf : (Odd.broomF n rs) = (Odd.pathF rs ea eb, Odd.sideF n rs ea, Odd.sideF n rs eb) := by unfold Odd.broomF; rw [if_neg h3, if_neg c1, g0, g1]
      refine k t q6 D4 D5 _ ((e15.trans e6).trans f7) upd_same ?_ ?_ ?_
      · rw [ebf]; exact f7 _ _ pl
      · rw [ebf]; exact f7 _ _ (e6 _ _ (e5 _ _ h4))
      · rw [ebf]; exact f7 _ _ (e6 _ _ h5)
end
end Od

set_option Elab.async false
set_option linter.all false
set_option maxRecDepth 100000
set_option maxHeartbeats 4000000
/-! path_of, laid, straight, borders -/
namespace Od
open PySem PySem.Spec PyProof.Rows L2
open C8 (Cal Met InsC pe_c pe_mt pe_mt0 call_isC)
section
variable {P : Program} {w : World} {K : PySem.W.Frag} {mg : Str → Option Value} {base : Heap}
theorem kNeD' {X : Cx} (h : X.K = K) (hu : X.A.units + 64 < cLine) : OpR X (compareOp .NotEq) (rNeD K) := h ▸ op_neD hu
theorem rl_ks {H : Hp} {a : Addr} {rs : List (List Int)} (h : RL H a rs) : ∃ ks : List (Addr × List Int), ks.map (·.2) = rs ∧ H a = some (.lst (ks.map fun k => V.ref k.1)) ∧ ∀ k ∈ ks, H k.1 = some (.lst (k.2.map V.int)) := h
theorem ones_paired {H : Hp} : ∀ {l : List Int} {qs : List Addr}, Paired (fun (a : Int) q => ∃ o, H q = some o ∧ o = HO.lst [V.int a]) l qs → ∃ ks : List (Addr × List Int), ks.map (·.2) = l.map (fun x => [x]) ∧ ks.map (fun k => V.ref k.1) = qs.map V.ref ∧ ∀ k ∈ ks, H k.1 = some (.lst (k.2.map V.int)) := by
  intro l qs h
  induction h with
  | nil => exact ⟨[], rfl, rfl, by simp⟩
  | @cons a q as qs r t ih =>
    obtain ⟨o, ho, rfl⟩ := r
    obtain ⟨ks, e1, e2, e3⟩ := ih
    refine ⟨(q, [a]) :: ks, by rw [List.map_cons, e1]; rfl, by rw [List.map_cons, e2]; rfl, fun k hk => ?_⟩
    rcases List.mem_cons.mp hk with e | hk
    · rw [e]; exact ho
    · exact e3 k hk
def spPathOf (K : PySem.W.Frag) : Sp := fun vs H Q _ => ∃ y n ts ws rs, vs = [.ref y] ∧ YA K H y n ts ws rs ∧ Odd.YOk n ts ws rs ∧ Odd.freeB n rs ws = false ∧ ∀ q H', Ex H H' → RL H' q (Odd.partsF n rs) → Q (.ref q) H'
theorem sc_path_of : FnScope ["yard", "core", "left", "right", "parts", "post", "part"] ["yard"] (defScope s_path_of) := ⟨rfl, rfl, rfl, by decide +kernel, rfl, by decide +kernel, by decide +kernel⟩
theorem c_path_of (W : Wd K mg) : Cal P w K mg base 7 "path_of" (spPathOf K) [] := by
  refine W.cal 9 sc_path_of (fun vs H Q E ⟨y, n, ts, ws, rs, e, _⟩ => by rw [e]; rfl) (fun f cdv A outer s H vs Q E hr ⟨y, n, ts, ws, rs, e, ya, ok, fr, k⟩ => ?_) (fun _ _ _ _ _ _ us hl => match us, hl with | [_], _ => rfl)
  subst e
  have nd := sc_path_of.nd
  refine ⟨_, pss_cons (ps_if (pt_val (pe_c (c_is_free W) hr (by decide) (by rfl) (pa_cons (pv 0) pa_nil))) pss_never pss_nil)
    (pss_cons (ps_asg (pe_c (c_broom_of W) hr (by decide) (by rfl) (pa_cons (pv 0) pa_nil)) (pg_tup rfl (pgs_cons (pg_name (i := 1) nd rfl (Or.inl rfl)) (pgs_cons (pg_name (i := 2) nd rfl (Or.inl rfl)) (pgs_cons (pg_name (i := 3) nd rfl (Or.inl rfl)) pgs_nil)))))
    (pss_cons (ps_set (i := 4) nd rfl (Or.inl rfl) (pe_lst (pa_cons (pv 2) (StX.pa_star (pe_lc (own := [("post", 5)]) (g := gName 5) (tt := tYes) rfl nd (pi_list (pv 1)) (blkOk_by (N := ["yard", "core", "left", "right", "parts", "post", "part"]) (sc := defScope s_path_of) (by decide +kernel))
        (fun _ _ _ _ _ => pg_name (i := 5) nd rfl (Or.inl rfl)) (fun _ _ _ _ _ => pts_nil) (fun _ _ _ _ _ => pe_lst (pa_cons (pv 5) pa_nil))) (pa_cons (pv 3) pa_nil)))))
    (pss_one (ps_ret (pe_lc (own := [("part", 6)]) (g := gName 6) rfl nd (pi_list (pv 4)) (blkOk_by (N := ["yard", "core", "left", "right", "parts", "post", "part"]) (sc := defScope s_path_of) (by decide +kernel))
        (fun _ _ _ _ _ => pg_name (i := 6) nd rfl (Or.inl rfl)) (fun _ _ _ _ _ => pts_one (pt_cmpR (kNeD (K := K) rfl hr.units) (pv 6) (pe_lst pa_nil) (nomark _))) (fun _ _ _ _ _ => pv 6)))))), ?_⟩
  obtain ⟨b1, b2, b3⟩ := Odd.broom_len ok
  refine ⟨_, rfl, y, n, ts, ws, rs, rfl, ya, ok, fun H1 e1 => ⟨_, rfl, ?_⟩⟩
  rw [fr]
  refine iteF ?_
  refine ⟨_, rfl, y, n, ts, ws, rs, rfl, ya.mono e1, ok, fun q qa qb qc H2 e2 hq ha hb hc => ?_⟩
  refine ⟨q, _, rfl, SqT.of hq, rfl, _, _, rfl, _, _, rfl, _, _, rfl, rfl, ?_⟩
  have e12 := e1.trans e2
  refine ⟨_, rfl, _, rfl, qa, rfl, ⟨_, SqL.of ha⟩, fun D hD => lcO1 walk_list (Odd.broomF n rs).1 V.int (fun a o => o = HO.lst [V.int a]) y_map (by rw [List.length_map]) (by rw [List.length_map]; omega) hD (fun H3 e3 => SqL.of (e3 _ _ ha)) (fun _ => rfl) (fun z hz H3 e3 Q3 q3 => ?_) (fun H3 qs e3 h3 h4 h5 h6 => ?_)⟩
  · exact ⟨_, rfl, by show 1 ≤ sizeLine; decide, fun l hl => q3 l _ _ hl (Ex.new hl) upd_same rfl⟩
  obtain ⟨ks, k1, k2, k3⟩ := ones_paired h6
  have ha3 := e3 _ _ ha
  have hb3 := e3 _ _ hb
  have hc3 := e3 _ _ hc
  have klen : ks.length ≤ 101 := by
    have := congrArg List.length k1
    rw [List.length_map, List.length_map] at this
    omega
  rw [← k2] at h3
  refine ⟨D, _, rfl, .inr (SqL.of h3), _, rfl, ?_, fun p hp => ?_⟩
  · show (_ :: (_ ++ [_])).length ≤ sizeLine
    rw [List.length_cons, List.length_append, List.length_map, sizeLine_eq, List.length_singleton]
    omega
  have e4 : Ex H3 (upd H3 p (.lst (V.ref qb :: ((ks.map fun k => V.ref k.1) ++ [V.ref qc])))) := Ex.new hp
  let kk : List (Addr × List Int) := [(qb, (Odd.broomF n rs).2.1)] ++ ks ++ [(qc, (Odd.broomF n rs).2.2)]
  have hp4 : upd H3 p (.lst (V.ref qb :: ((ks.map fun k => V.ref k.1) ++ [V.ref qc]))) p = some (.lst (kk.map fun k => V.ref k.1)) := by
    rw [upd_same]
    show _ = some (HO.lst (List.map (fun k : Addr × List Int => V.ref k.1) ([(qb, (Odd.broomF n rs).2.1)] ++ ks ++ [(qc, (Odd.broomF n rs).2.2)])))
    rw [List.map_append, List.map_append]
    rfl
  generalize upd H3 p (.lst (V.ref qb :: ((ks.map fun k => V.ref k.1) ++ [V.ref qc]))) = H4 at e4 hp4
  have kin : ∀ k ∈ kk, H4 k.1 = some (.lst (k.2.map V.int)) := by
    intro k hk
    rcases List.mem_append.mp hk with hk | hk
    · rcases List.mem_append.mp hk with hk | hk
      · rw [List.mem_singleton.mp hk]; exact e4 _ _ hb3
      · exact e4 _ _ (k3 k hk)
    · rw [List.mem_singleton.mp hk]; exact e4 _ _ hc3
  have kkl : kk.length ≤ 103 := by
    show ([_] ++ ks ++ [_]).length ≤ 103
    rw [List.length_append, List.length_append, List.length_singleton, List.length_singleton]
    omega
  refine ⟨_, rfl, p, rfl, ⟨_, SqL.of hp4⟩, fun D2 hD2 => lcS walk_list kk (fun k => V.ref k.1) (fun k => !k.2.isEmpty) (fun k => V.ref k.1) y_map (by rw [List.length_map]) (by rw [List.length_map]; omega) hD2 (fun H5 e5 => SqL.of (e5 _ _ hp4)) (fun _ => rfl) (fun z hz H5 e5 Q5 q5 => ?_) (fun z hz _ H5 e5 Q5 q5 => ⟨_, rfl, q5 _ (Ex.rfl' _)⟩) (fun H5 e5 h5 => ?_)⟩
  · refine ⟨_, rfl, by show 0 ≤ sizeLine; decide, fun l hl => ?_⟩
    have e6 : Ex H5 (upd H5 l (.lst [])) := Ex.new hl
    refine ⟨dI z.2, .list [], dp_ints (SqL.of (e6 _ _ (e5 _ _ (kin z hz)))), .lst (SqL.of upd_same) .nil, sh_ints _, sh_nil, _, rfl, ?_⟩
    rw [eqv_nil, ie_ints]
    exact q5 _ e6
  · refine k D2 H5 (((e12.trans e3).trans e4).trans e5) ⟨kk.filter (fun k => !k.2.isEmpty), ?_, h5, fun k hk => e5 _ _ (kin k (List.mem_filter.mp hk).1)⟩
    unfold Odd.partsF
    rw [← k1]
    show _ = List.filter _ (([(qb, (Odd.broomF n rs).2.1)] : List (Addr × List Int)).map (·.2) ++ ks.map (·.2) ++ ([(qc, (Odd.broomF n rs).2.2)] : List (Addr × List Int)).map (·.2))
    rw [← List.map_append, ← List.map_append, List.filter_map]
    rfl
def spLaid (K : PySem.W.Frag) : Sp := fun vs H Q _ => ∃ y n ts ws rs p ps, vs = [.ref y, .ref p] ∧ YA K H y n ts ws rs ∧ Odd.YOk n ts ws rs ∧ Odd.freeB n rs ws = false ∧ IL H p ps ∧ ∀ q l H', Ex H H' → IL H' q l → l.length = (Odd.partsF n rs).length → Q (.ref q) H'
theorem sc_laid : FnScope ["yard", "position", "part", "post"] ["yard", "position"] (defScope s_laid) := ⟨rfl, rfl, rfl, by decide +kernel, rfl, by decide +kernel, by decide +kernel⟩
def scL : Scope := { kind := .function, names := [(".0", .local), ("part", .local), ("len", .globalImplicit), ("position", .cell)], isGenerator := false, isCoroutine := false }
theorem c_laid (W : Wd K mg) : Cal P w K mg base 8 "laid" (spLaid K) [] := by
  refine W.cal 10 sc_laid (fun vs H Q E ⟨y, n, ts, ws, rs, p, ps, e, _⟩ => by rw [e]; rfl) (fun f cdv A outer s H vs Q E hr ⟨y, n, ts, ws, rs, p, ps, e, ya, ok, fr, pl, k⟩ => ?_) (fun _ _ _ _ _ _ us hl => match us, hl with | [_, _], _ => rfl)
  subst e
  have nd := sc_laid.nd
  refine ⟨_, pss_one (ps_ret (pe_lc (own := [("part", 2)]) (g := gName 2) (tt := tYes) rfl nd (pi_list (pe_c (c_path_of W) hr (by decide) (by rfl) (pa_cons (pv 0) pa_nil))) (blkOk_by (N := ["yard", "position", "part", "post"]) (sc := defScope s_laid) (by decide +kernel))
      (fun _ _ _ _ _ => pg_name (i := 2) nd rfl (Or.inl rfl)) (fun _ _ _ _ _ => pts_nil)
      (fun _ _ _ _ _ => pe_op op_mod (pk_len (K := K) rfl W.nm (pe_lc (own := [("post", 3)]) (g := gName 3) rfl nd (kPiList (K := K) rfl (pv 2)) (blkOk_by (N := ["yard", "position", "part", "post"]) (sc := scL) (by decide +kernel))
        (fun _ _ _ _ _ => pg_name (i := 3) nd rfl (Or.inl rfl)) (fun _ _ _ _ _ => pts_one (pt_cmpR (kInSeq (K := K) rfl) (pv 3) (pv 1) rfl)) (fun _ _ _ _ _ => pv 3))) pe_int))), ?_⟩
  refine ⟨_, rfl, y, n, ts, ws, rs, rfl, ya, ok, fr, fun q H1 e1 rl => ?_⟩
  obtain ⟨ks, k1, k2, k3⟩ := rl
  obtain ⟨l1, l2, l3⟩ := Odd.parts_len ok
  have kl : ks.length = (Odd.partsF n rs).length := by rw [← k1, List.length_map]
  have pl1 := e1 _ _ pl
  refine ⟨q, rfl, ⟨_, SqL.of k2⟩, fun D hD => lcS1 walk_list ks (fun k => V.ref k.1) (fun k => V.int ((((k.2.filter fun z => decide (z ∈ ps)).length : Nat) : Int) % 2)) y_map (by rw [List.length_map]) (by rw [List.length_map]; omega) hD (fun H2 e2 => SqL.of (e2 _ _ k2)) (fun _ => rfl) (fun z hz H2 e2 Q2 q2 => ?_) (fun H2 e2 h2 => ?_)⟩
  · have hz2 := e2 _ _ (k3 z hz)
    have zl := (l3 z.2 (by rw [← k1]; exact List.mem_map_of_mem hz)).2
    refine ⟨_, rfl, z.1, rfl, ⟨_, SqL.of hz2⟩, fun D3 hD3 => lcS walk_list z.2 V.int (fun u => decide (u ∈ ps)) V.int y_map (by rw [List.length_map]) (by rw [List.length_map]; omega) hD3 (fun H3 e3 => SqL.of (e3 _ _ hz2)) (fun _ => rfl) (fun u hu H3 e3 Q3 q3 => ?_) (fun u hu _ H3 e3 Q3 q3 => ⟨_, rfl, q3 _ (Ex.rfl' _)⟩) (fun H3 e3 h3 => ?_)⟩
    · refine ⟨_, rfl, _, rfl, p, _, rfl, .inl (SqL.of (e3 _ _ (e2 _ _ pl1))), rfl, flat_ints _, _, rfl, ?_⟩
      rw [if_neg (by simp), inV_int]
      exact q3 _ (Ex.rfl' _)
    · refine ⟨D3, _, rfl, .inl (SqL.of h3), _, _, rfl, rfl, by show (0 : Int) < 2; decide, ?_⟩
      rw [List.length_map]
      exact q2 _ e3
  · exact k D (ks.map fun k => (((k.2.filter fun z => decide (z ∈ ps)).length : Nat) : Int) % 2) H2 (e1.trans e2) (by show H2 D = _; rw [h2, List.map_map]; rfl) (by rw [List.length_map, kl])
end
end Od

set_option Elab.async false
set_option linter.all false
set_option maxRecDepth 100000
set_option maxHeartbeats 4000000
/-! straight, borders -/
namespace Od
open PySem PySem.Spec PyProof.Rows L2
open C8 (Cal Met InsC pe_c pe_mt pe_mt0 call_isC)
section
variable {P : Program} {w : World} {K : PySem.W.Frag} {mg : Str → Option Value} {base : Heap}
theorem int_at {l : List Int} {i : Int} (h0 : 0 ≤ i) (h1 : i < l.length) : ∃ v, atI (l.map V.int) i = some (.int v) := ⟨_, lab_at h0 h1⟩
theorem ixN_at {n : Nat} {i : Int} (h0 : 0 ≤ i) (h1 : i < n) : ixN n i = some i.toNat := by
  unfold ixN
  rw [if_pos h0, if_pos h1]
theorem cut_len (xs : List V) (m : Nat) (h : m ≤ xs.length) : cutV xs none (some (m : Int)) = xs.take m := by
  unfold cutV
  rw [HT.sIx_none, HT.sIx_nat, List.drop_zero, Nat.sub_zero, Nat.min_eq_left h]
def spStraight (K : PySem.W.Frag) : Sp := fun vs H Q _ => ∃ y n ts ws rs, vs = [.ref y] ∧ YA K H y n ts ws rs ∧ Odd.YOk n ts ws rs ∧ Odd.freeB n rs ws = false ∧ ∀ q p b l H', Ex H H' → H' q = some (.tup [.ref p, .bl b]) → IL H' p l → l.length = (Odd.partsF n rs).length → Q (.ref q) H'
theorem sc_straight : FnScope ["yard", "wired", "odd", "many", "bits", "at", "seen", "part"] ["yard"] (defScope s_straight) := ⟨rfl, rfl, rfl, by decide +kernel, rfl, by decide +kernel, by decide +kernel⟩
theorem c_straight (W : Wd K mg) : Cal P w K mg base 8 "straight" (spStraight K) [] := by
  refine W.cal 11 sc_straight (fun vs H Q E ⟨y, n, ts, ws, rs, e, _⟩ => by rw [e]; rfl) (fun f cdv A outer s H vs Q E hr ⟨y, n, ts, ws, rs, e, ya, ok, fr, k⟩ => ?_) (fun _ _ _ _ _ _ us hl => match us, hl with | [_], _ => rfl)
  subst e
  have nd := sc_straight.nd
  refine ⟨_, pss_cons (ps_set (i := 1) nd rfl (Or.inr rfl) (pe_mt0 (m_wired W) hr (by decide) (pv 0)))
    (pss_cons (ps_setLc (i := 2) (own := [("part", 7)]) (g := gName 7) (tt := tYes) rfl nd rfl rfl (sw_true rfl rfl rfl (by decide +kernel)) (pi_list (pe_c (c_path_of W) hr (by decide) (by rfl) (pa_cons (pv 0) pa_nil))) (blkOk_by (N := ["yard", "wired", "odd", "many", "bits", "at", "seen", "part"]) (sc := defScope s_straight) (by decide +kernel))
      (fun _ _ _ _ _ => pg_name (i := 7) nd rfl (Or.inl rfl)) (fun _ _ _ _ _ => pts_nil) (fun _ _ _ _ _ => p_int1 W.nm (pe_cmpR (kInSeq (K := K) rfl) (pe_ix (kIxL (K := K) rfl) (pv 7) pe_int (fun _ _ => rfl)) (pv 1) rfl)))
    (pss_cons (ps_set (i := 3) nd rfl (Or.inl rfl) (p_len W.nm (pv 2)))
    (pss_cons (ps_set (i := 4) nd rfl (Or.inl rfl) (pe_op op_rep (pe_lst (pa_cons pe_int pa_nil)) (pe_op op_add (pv 3) pe_int)))
    (pss_cons (ps_for PassesOwn.never rfl (pi_range3 (by rfl) W.nm.range (pa_cons (pe_op op_sub (pv 3) pe_int) (pa_cons pe_int (pa_cons (pe_un un_neg pe_int) pa_nil)))) (pg_name (i := 5) nd rfl (Or.inl rfl))
      (pss_one (ps_asg (pe_op op_mod (pe_op op_add (pe_ix ix_list (pv 2) (pv 5) (fun _ _ => rfl)) (pe_ix ix_list (pv 4) (pe_op op_add (pv 5) pe_int) (fun _ _ => rfl))) pe_int) (pg_sub (pv 4) (pe_op op_sub (pv 5) pe_int) set_list))))
    (pss_cons (ps_set (i := 6) nd rfl (Or.inl rfl) pe_int)
    (pss_cons (ps_if (pt_cmpR op_gt (pv 3) pe_int (nomark _)) (pss_one (ps_set (i := 6) nd rfl (Or.inl rfl) (pe_ix ix_list (pv 4) pe_int (fun _ _ => rfl)))) pss_nil)
    (pss_one (ps_ret (pe_tup (pa_cons (pe_slice sl_list (pv 4) po_none (po_some (pv 3))) (pa_cons (pe_cmpR op_ne (pv 6) (pe_ix ix_list (pv 2) pe_int (fun _ _ => rfl)) (nomark _)) pa_nil)))))))))))
    , ?_⟩
  obtain ⟨dx, pt, pw, pn, hy, _⟩ := id ya
  obtain ⟨l1, l2, l3⟩ := Odd.parts_len ok
  refine ⟨_, rfl, y, dx, _, rfl, hy, rfl, y, n, ts, ws, rs, rfl, ya, fun qw H1 hqw e1 wl => ?_⟩
  refine ⟨_, rfl, y, n, ts, ws, rs, rfl, ya.mono e1, ok, fr, fun q H2 e2 rl => ?_⟩
  obtain ⟨ks, k1, k2, k3⟩ := rl
  have kl : ks.length = (Odd.partsF n rs).length := by rw [← k1, List.length_map]
  have wl2 := e2 _ _ wl
  refine ⟨q, rfl, ⟨_, SqL.of k2⟩, fun D hD => lcS1 walk_list ks (fun k => V.ref k.1) (fun k => V.int (if decide (k.2.headD 0 ∈ ws) = true then 1 else 0)) y_map (by rw [List.length_map]) (by rw [List.length_map]; omega) hD (fun H3 e3 => SqL.of (e3 _ _ k2)) (fun _ => rfl) (fun z hz H3 e3 Q3 q3 => ?_) (fun H3 e3 h3 => ?_)⟩
  · have hz2 := e3 _ _ (k3 z hz)
    have zn := (l3 z.2 (by rw [← k1]; exact List.mem_map_of_mem hz)).1
    cases ez : z.2 with
    | nil => exact absurd ez zn
    | cons a r =>
      rw [ez] at hz2
      refine ⟨_, rfl, z.1, _, _, _, rfl, rfl, SqL.of hz2, at0, _, rfl, qw, _, rfl, .inl (SqL.of (e3 _ _ wl2)), rfl, flat_ints _, .inr ⟨_, rfl, ?_⟩⟩
      rw [if_neg (show ¬ false = true by simp), inV_int]
      have q := q3 H3 (Ex.rfl' _)
      rw [ez] at q
      exact q
  let od : List Int := ks.map fun k => if decide (k.2.headD 0 ∈ ws) = true then 1 else 0
  have ol : od.length = (Odd.partsF n rs).length := by show (List.map _ ks).length = _; rw [List.length_map, kl]
  have h3' : H3 D = some (.lst (od.map V.int)) := by
    rw [h3]
    show some (HO.lst _) = some (HO.lst (List.map V.int (List.map _ ks)))
    rw [List.map_map]
    rfl
  generalize od = od at ol h3'
  generalize hm : (Odd.partsF n rs).length = m at l1 l2 ol k
  have e13 := (e1.trans e2).trans e3
  refine ⟨_, rfl, D, _, rfl, .inl (SqL.of h3'), ?_⟩
  rw [List.length_map, ol]
  refine ⟨by show 1 ≤ sizeLine; decide, fun l0 hl0 => ?_⟩
  have e4 : Ex H3 (upd H3 l0 (.lst [.int 0])) := Ex.new hl0
  refine ⟨_, rfl, _, _, rfl, rfl, l0, _, _, rfl, rfl, upd_same, by omega, by omega, by show 1 * _ ≤ _; rw [sizeLine_eq]; omega, fun pb hpb => ?_⟩
  have eb : (List.replicate ((m : Int) + 1).toNat [V.int 0]).flatten = (List.replicate (m + 1) (0 : Int)).map V.int := by
    rw [show ((m : Int) + 1).toNat = m + 1 by omega]
    generalize m + 1 = z
    induction z with
    | zero => rfl
    | succ z ih => rw [List.replicate_succ, List.flatten_cons, ih, List.replicate_succ]; rfl
  rw [eb]
  have hpb0 : H pb = none := (e13.trans e4).free hpb
  have od5 := (Ex.new (o := .lst ((List.replicate (m + 1) (0 : Int)).map V.int)) hpb) _ _ (e4 _ _ h3')
  refine ⟨_, rfl, _, _, rfl, rfl, _, rfl, _, _, _, _, rfl, RgC.neg (by omega) (by omega) (by decide) (by decide), ?_⟩
  have tn : ((m : Int) - 1 - 0).toNat = m - 1 := by omega
  rw [tn]
  have ndD : pb ≠ D := fun e => by rw [e, e4 _ _ h3'] at hpb; cases hpb
  refine for_it walk_rangeC (fun i σ H5 => Ex H H5 ∧ H5 D = some (.lst (od.map V.int)) ∧ ∃ a5 lb, σ = [some (.ref y), some (.ref qw), some (.ref D), some (.int m), some (.ref pb), a5, none, none] ∧ H5 pb = some (.lst (List.map V.int lb)) ∧ lb.length = m + 1)
    ⟨(e13.trans e4).trans (Ex.new hpb), od5, none, List.replicate (m + 1) 0, rfl, upd_same, List.length_replicate⟩ (fun _ _ _ _ _ => trivial) ?_ ?_
  · rintro i x σ H5 H6 hi ⟨e5, o5, a5, lb, rfl, hb, ll⟩ ⟨rfl, rfl⟩
    obtain ⟨v1, g1⟩ := int_at (l := od) (i := (m : Int) - 1 + (i : Int) * -1) (by omega) (by omega)
    obtain ⟨v2, g2⟩ := int_at (l := lb) (i := (m : Int) - 1 + (i : Int) * -1 + 1) (by omega) (by omega)
    refine ⟨_, rfl, _, rfl, D, _, _, _, rfl, rfl, SqL.of o5, g1, _, rfl, _, rfl, _, _, rfl, rfl, pb, _, _, _, rfl, rfl, SqL.of hb, g2, _, _, rfl, rfl, _, _, rfl, rfl, by show (0 : Int) < 2; decide, ?_⟩
    refine ⟨_, rfl, _, rfl, _, _, rfl, rfl, pb, _, _, _, rfl, rfl, hb, ixN_at (by omega) (by rw [List.length_map]; omega), ?_⟩
    refine ⟨Ex.mut e5 hpb0, by rw [upd_ne ndD.symm]; exact o5, _, lb.set ((m : Int) - 1 + (i : Int) * -1 - 1).toNat ((v1 + v2) % 2), rfl, ?_, by rw [List.length_set]; exact ll⟩
    rw [upd_same, List.map_set]
  · rintro σ H5 ⟨e5, o5, a5, lb, rfl, hb, ll⟩
    have fin : ∀ v : Int, ∀ H6, Ex H5 H6 → tRet (tTup (tCons (tSl (rSlL K) (tVar 4) tNoPart (tPart (tVar 3))) (tCons (tOp rNe (tVar 6) (tOp (rIxL K) (tVar 2) (tC (V.int 0)))) tNil))) { nx := fun _ H' => Q .non H', rt := Q } [some (.ref y), some (.ref qw), some (.ref D), some (.int m), some (.ref pb), a5, some (.int v), none] H6 := by
      intro v H6 e6
      refine ⟨_, rfl, _, rfl, _, rfl, pb, _, rfl, SqL.of (e6 _ _ hb), fun p hp => ?_⟩
      rw [cut_len _ m (by rw [List.length_map]; omega)]
      have e7 : Ex H6 (upd H6 p (.lst ((lb.map V.int).take m))) := Ex.new hp
      obtain ⟨v3, g3⟩ := int_at (l := od) (i := 0) (by omega) (by omega)
      refine ⟨_, rfl, _, rfl, D, _, _, _, rfl, rfl, SqL.of (e7 _ _ (e6 _ _ o5)), g3, rfl, by show 2 ≤ sizeLine; decide, fun t ht => ?_⟩
      have f8 := Ex.new (o := .tup [.ref p, .bl (!decide (V.int v = V.int v3))]) ht
      refine k t p _ (lb.take m) _ (((e5.trans e6).trans e7).trans f8) upd_same (f8 _ _ ?_) (by rw [List.length_take]; omega)
      rw [upd_same, List.map_take]
    refine ⟨_, rfl, _, _, rfl, rfl, _, rfl, ?_⟩
    by_cases c : 1 < m
    · rw [decide_eq_true (show (m : Int) > 1 by omega)]
      obtain ⟨v4, g4⟩ := int_at (l := lb) (i := 1) (by omega) (by omega)
      exact iteT ⟨_, rfl, pb, _, _, _, rfl, rfl, SqL.of hb, g4, fin v4 H5 (Ex.rfl' _)⟩
    · rw [decide_eq_false (show ¬ (m : Int) > 1 by omega)]
      exact iteF (fin 0 H5 (Ex.rfl' _))
end
end Od

set_option Elab.async false
set_option linter.all false
set_option maxRecDepth 100000
set_option maxHeartbeats 4000000
/-! borders, sees_odd, ready, is_still, sign, class_of -/
namespace Od
open PySem PySem.Spec PyProof.Rows L2
open C8 (Cal Met InsC pe_c pe_mt pe_mt0 call_isC)
section
variable {P : Program} {w : World} {K : PySem.W.Frag} {mg : Str → Option Value} {base : Heap}
theorem y_zip {la lb : List Int} : ∀ i (H : Hp) x (H' : Hp), i < min la.length lb.length → YPair (fun i => (la.map V.int)[i]?) (fun i => (lb.map V.int)[i]?) i H x H' → Ex H H' ∧ ∃ (a : Int × Int) (q : Addr), (la.zip lb)[i]? = some a ∧ x = .ref q ∧ H' q = some (.tup [(fun a : Int × Int => V.int a.1) a, (fun a : Int × Int => V.int a.2) a]) := by
  rintro i H x H' hi ⟨T, u, v, rfl, hT, rfl, hu, hv⟩
  have h1 : i < la.length := by omega
  have h2 : i < lb.length := by omega
  have hu : (la.map V.int)[i]? = some u := hu
  have hv : (lb.map V.int)[i]? = some v := hv
  rw [List.getElem?_map, List.getElem?_eq_getElem h1] at hu
  rw [List.getElem?_map, List.getElem?_eq_getElem h2] at hv
  cases hu
  cases hv
  refine ⟨Ex.new hT, (la[i], lb[i]), T, ?_, rfl, upd_same⟩
  rw [List.getElem?_zip_eq_some]
  exact ⟨List.getElem?_eq_getElem h1, List.getElem?_eq_getElem h2⟩
def spBorders (K : PySem.W.Frag) : Sp := fun vs H Q _ => ∃ y n ts ws rs p ps, vs = [.ref y, .ref p] ∧ YA K H y n ts ws rs ∧ Odd.YOk n ts ws rs ∧ Odd.freeB n rs ws = false ∧ IL H p ps ∧ ∀ q l H', Ex H H' → IL H' q l → l.length ≤ 200 → Q (.ref q) H'
theorem sc_borders : FnScope ["yard", "position", "bits", "hooked", "many", "line", "one", "other", "place"] ["yard", "position"] (defScope s_borders) := ⟨rfl, rfl, rfl, by decide +kernel, rfl, by decide +kernel, by decide +kernel⟩
theorem c_borders (W : Wd K mg) : Cal P w K mg base 9 "borders" (spBorders K) [] := by
  refine W.cal 12 sc_borders (fun vs H Q E ⟨y, n, ts, ws, rs, p, ps, e, _⟩ => by rw [e]; rfl) (fun f cdv A outer s H vs Q E hr ⟨y, n, ts, ws, rs, p, ps, e, ya, ok, fr, pl, k⟩ => ?_) (fun _ _ _ _ _ _ us hl => match us, hl with | [_, _], _ => rfl)
  subst e
  have nd := sc_borders.nd
  refine ⟨_, pss_cons (ps_asg (pe_c (c_straight W) hr (by decide) (by rfl) (pa_cons (pv 0) pa_nil)) (pg_tup rfl (pgs_cons (pg_name (i := 2) nd rfl (Or.inl rfl)) (pgs_cons (pg_name (i := 3) nd rfl (Or.inl rfl)) pgs_nil))))
    (pss_cons (ps_set (i := 4) nd rfl (Or.inl rfl) (p_len W.nm (pv 2)))
    (pss_cons (ps_set (i := 5) nd rfl (Or.inr rfl) (pe_lst (pa_cons (p_int1 W.nm (pv 3)) (StX.pa_star (pe_lc (own := [("one", 6), ("other", 7)]) (g := gTup K 2 (gCons (gName 6) (gCons (gName 7) gNil))) (tt := tYes) rfl nd (pi_zip (by rfl) W.nm.zip (pa_cons (pe_c (c_laid W) hr (by decide) (by rfl) (pa_cons (pv 0) (pa_cons (pv 1) pa_nil))) (pa_cons (pv 2) pa_nil)))
        (blkOk_by (N := ["yard", "position", "bits", "hooked", "many", "line", "one", "other", "place"]) (sc := defScope s_borders) (by decide +kernel))
        (fun _ _ _ _ _ => kTupG (K := K) rfl rfl (pgs_cons (pg_name (i := 6) nd rfl (Or.inl rfl)) (pgs_cons (pg_name (i := 7) nd rfl (Or.inl rfl)) pgs_nil))) (fun _ _ _ _ _ => pts_nil) (fun _ _ _ _ _ => pe_op op_mod (pe_op op_add (pv 6) (pv 7)) pe_int)) (pa_cons pe_int pa_nil)))))
    (pss_one (ps_ret (pe_lc (own := [("place", 8)]) (g := gName 8) rfl nd (pi_range1 (by rfl) W.nm.range (pa_cons (pe_op op_add (pv 4) pe_int) pa_nil)) (blkOk_by (N := ["yard", "position", "bits", "hooked", "many", "line", "one", "other", "place"]) (sc := defScope s_borders) (by decide +kernel))
        (fun _ _ _ _ _ => pg_name (i := 8) nd rfl (Or.inl rfl)) (fun _ _ _ _ _ => pts_one (pt_cmpR op_ne (pe_ix (kIxL (K := K) rfl) (pv 5) (pv 8) (fun _ _ => rfl)) (pe_ix (kIxL (K := K) rfl) (pv 5) (pe_op op_add (pv 8) pe_int) (fun _ _ => rfl)) (nomark _))) (fun _ _ _ _ _ => pv 8)))))), ?_⟩
  obtain ⟨l1, l2, l3⟩ := Odd.parts_len ok
  refine ⟨_, rfl, y, n, ts, ws, rs, rfl, ya, ok, fr, fun q pb b lb H1 e1 hq hb lbl => ?_⟩
  refine ⟨q, _, rfl, SqT.of hq, rfl, _, _, rfl, _, _, rfl, rfl, ?_⟩
  refine ⟨_, rfl, pb, _, rfl, .inl (SqL.of hb), ?_⟩
  rw [List.length_map, lbl]
  generalize hm : (Odd.partsF n rs).length = m at l1 l2 lbl
  refine ⟨_, rfl, .inr ⟨b, rfl, ?_⟩⟩
  refine ⟨_, rfl, _, rfl, y, n, ts, ws, rs, p, ps, rfl, ya.mono e1, ok, fr, e1 _ _ pl, fun ql la H2 e2 hl lal => ?_⟩
  rw [hm] at lal
  have hb2 := e2 _ _ hb
  refine ⟨_, rfl, ql, pb, _, _, rfl, SqL.of hl, SqL.of hb2, fun D hD => lcT (K := K) (walk_zip (xs := la.map V.int) (ys := lb.map V.int) (n := min la.length lb.length) (by rw [List.length_map, List.length_map])) (la.zip lb) (fun a => V.int a.1) (fun a => V.int a.2) (fun a => V.int ((a.1 + a.2) % 2)) y_zip (by rw [List.length_zip]) (by omega) hD (fun H3 e3 => ⟨SqL.of (e3 _ _ hl), SqL.of (e3 _ _ hb2)⟩) (fun _ _ => rfl) (fun a ha H3 e3 Q3 q3 => ?_) (fun H3 e3 h3 => ?_)⟩
  · exact ⟨_, rfl, _, rfl, _, _, rfl, rfl, _, _, rfl, rfl, by show (0 : Int) < 2; decide, q3 _ (Ex.rfl' _)⟩
  refine ⟨D, _, rfl, .inr (SqL.of h3), ?_, fun pl' hpl => ?_⟩
  · show (_ :: (_ ++ [_])).length ≤ sizeLine
    rw [List.length_cons, List.length_append, List.length_map, List.length_zip, List.length_singleton, sizeLine_eq]
    omega
  have e4 := Ex.new (o := .lst (V.int (if b = true then 1 else 0) :: ((la.zip lb).map (fun a => V.int ((a.1 + a.2) % 2)) ++ [V.int 0]))) hpl
  let ln : List Int := (if b = true then 1 else 0) :: ((la.zip lb).map (fun a => (a.1 + a.2) % 2) ++ [0])
  have lnl : ln.length = m + 2 := by
    show (_ :: (_ ++ [_])).length = _
    rw [List.length_cons, List.length_append, List.length_map, List.length_zip, List.length_singleton]
    omega
  have hln : upd H3 pl' (.lst (V.int (if b = true then 1 else 0) :: ((la.zip lb).map (fun a => V.int ((a.1 + a.2) % 2)) ++ [V.int 0]))) pl' = some (.lst (ln.map V.int)) := by
    rw [upd_same]
    show _ = some (HO.lst (List.map V.int (_ :: (List.map _ _ ++ [0]))))
    rw [List.map_cons, List.map_append, List.map_map]
    rfl
  have e14 := ((e1.trans e2).trans e3).trans e4
  generalize upd H3 pl' (.lst (V.int (if b = true then 1 else 0) :: ((la.zip lb).map (fun a => V.int ((a.1 + a.2) % 2)) ++ [V.int 0]))) = H4 at e4 hln e14
  generalize ln = ln at lnl hln
  refine ⟨_, rfl, _, _, rfl, rfl, _, rfl, by omega, by omega, ?_⟩
  rw [show ((m : Int) + 1).toNat = m + 1 by omega]
  intro D5 hD5
  refine lcAny er_ex (fun H H' o e h => e _ _ h) walk_range (Odd.posts (m + 1)) V.int V.int y_posts Odd.posts_len (by omega) hD5 (fun _ _ => trivial) (fun _ => rfl) (fun x hx H5 e5 Q5 q5 => ?_) (fun x hx H5 e5 Q5 q5 => ⟨_, rfl, q5 _ (Ex.rfl' _)⟩) (fun H5 l e5 sl h5 => ?_)
  · obtain ⟨x0, x1⟩ := Odd.mem_posts.mp hx
    obtain ⟨v1, g1⟩ := int_at (l := ln) (i := x) (by omega) (by omega)
    obtain ⟨v2, g2⟩ := int_at (l := ln) (i := x + 1) (by omega) (by omega)
    exact ⟨_, rfl, _, rfl, pl', _, _, _, rfl, rfl, SqL.of (e5 _ _ hln), g1, _, rfl, _, rfl, _, _, rfl, rfl, pl', _, _, _, rfl, rfl, SqL.of (e5 _ _ hln), g2, rfl, _, rfl, q5 _ _ (Ex.rfl' _)⟩
  · refine k D5 l H5 (e14.trans e5) h5 ?_
    have := sl.length_le
    rw [Odd.posts_len] at this
    omega
/-! ### positions -/
def spSeesOdd (K : PySem.W.Frag) : Sp := fun vs H Q _ => ∃ y n ts ws rs p ps x, vs = [.ref y, .ref p, .int x] ∧ YA K H y n ts ws rs ∧ Odd.YOk n ts ws rs ∧ IL H p ps ∧ 0 ≤ x ∧ x < n ∧ ∀ b H', Ex H H' → Q (.bl b) H'
theorem sc_sees_odd : FnScope ["yard", "position", "post", "many", "other"] ["yard", "position", "post"] (defScope s_sees_odd) := ⟨rfl, rfl, rfl, by decide +kernel, rfl, by decide +kernel, by decide +kernel⟩
theorem c_sees_odd (W : Wd K mg) : Cal P w K mg base 4 "sees_odd" (spSeesOdd K) [] := by
  refine W.cal 13 sc_sees_odd (fun vs H Q E ⟨y, n, ts, ws, rs, p, ps, x, e, _⟩ => by rw [e]; rfl) (fun f cdv A outer s H vs Q E hr ⟨y, n, ts, ws, rs, p, ps, x, e, ya, ok, pl, x0, x1, k⟩ => ?_) (fun _ _ _ _ _ _ us hl => match us, hl with | [_, _, _], _ => rfl)
  subst e
  have nd := sc_sees_odd.nd
  refine ⟨_, pss_cons (ps_set (i := 3) nd rfl (Or.inl rfl) (p_len W.nm (pe_lc (own := [("other", 4)]) (g := gName 4) rfl nd (pi_list (pe_mt (m_neighbours W) hr (by decide) (pv 0) (pa_cons (pv 2) pa_nil))) (blkOk_by (N := ["yard", "position", "post", "many", "other"]) (sc := defScope s_sees_odd) (by decide +kernel))
      (fun _ _ _ _ _ => pg_name (i := 4) nd rfl (Or.inl rfl)) (fun _ _ _ _ _ => pts_one (pt_cmpR (kInSeq (K := K) rfl) (pv 4) (pv 1) rfl)) (fun _ _ _ _ _ => pv 4))))
    (pss_one (ps_ret (pe_cmpR op_eq (pe_op op_mod (pe_op op_add (pv 3) (p_int1 W.nm (pe_cmpR op_in_seq (pv 2) (pe_mt0 (m_wired W) hr (by decide) (pv 0)) rfl))) pe_int) pe_int (nomark _)))), ?_⟩
  obtain ⟨dx, pt, pw, pn, hy, _⟩ := id ya
  have h60 := ok.h60
  have rl := Odd.row_len ok.tr ok.nr x0 x1
  refine ⟨_, rfl, y, dx, _, rfl, hy, rfl, _, rfl, y, n, ts, ws, rs, x, rfl, ya, ok, x0, x1, fun q H1 hq e1 il => ?_⟩
  refine ⟨q, rfl, ⟨_, SqL.of il⟩, fun D hD => lcAny er_ex (fun H H' o e h => e _ _ h) walk_list (Odd.row rs x) V.int V.int y_map (by rw [List.length_map]) (by rw [List.length_map]; omega) hD (fun H2 e2 => SqL.of (e2 _ _ il)) (fun _ => rfl) (fun z hz H2 e2 Q2 q2 => ?_) (fun z hz H2 e2 Q2 q2 => ⟨_, rfl, q2 _ (Ex.rfl' _)⟩) (fun H2 l e2 sl h2 => ?_)⟩
  · exact ⟨_, rfl, _, rfl, p, _, rfl, .inl (SqL.of (e2 _ _ (e1 _ _ pl))), rfl, flat_ints _, _, rfl, q2 _ _ (Ex.rfl' _)⟩
  · have e12 := e1.trans e2
    refine ⟨D, _, rfl, .inl (SqL.of h2), _, rfl, _, rfl, _, rfl, y, dx, _, rfl, e12 _ _ hy, rfl, y, n, ts, ws, rs, rfl, ya.mono e12, fun q3 H3 hq3 e3 il3 => ?_⟩
    exact ⟨q3, _, rfl, .inl (SqL.of il3), rfl, flat_ints _, .inr ⟨_, rfl, _, _, rfl, rfl, _, _, rfl, rfl, by show (0 : Int) < 2; decide, rfl, k _ _ (e12.trans e3)⟩⟩
def spReady (K : PySem.W.Frag) : Sp := fun vs H Q _ => ∃ y n ts ws rs p ps, vs = [.ref y, .ref p] ∧ YA K H y n ts ws rs ∧ Odd.YOk n ts ws rs ∧ IL H p ps ∧ ∀ q l H', Ex H H' → IL H' q l → Q (.ref q) H'
theorem sc_ready : FnScope ["yard", "position", "post"] ["yard", "position"] (defScope s_ready) := ⟨rfl, rfl, rfl, by decide +kernel, rfl, by decide +kernel, by decide +kernel⟩
theorem c_ready (W : Wd K mg) : Cal P w K mg base 5 "ready" (spReady K) [] := by
  refine W.cal 14 sc_ready (fun vs H Q E ⟨y, n, ts, ws, rs, p, ps, e, _⟩ => by rw [e]; rfl) (fun f cdv A outer s H vs Q E hr ⟨y, n, ts, ws, rs, p, ps, e, ya, ok, pl, k⟩ => ?_) (fun _ _ _ _ _ _ us hl => match us, hl with | [_, _], _ => rfl)
  subst e
  have nd := sc_ready.nd
  refine ⟨_, pss_one (ps_ret (pe_lc (own := [("post", 2)]) (g := gName 2) rfl nd (pi_range1 (by rfl) W.nm.range (pa_cons (pe_mt0 (m_size W) hr (by decide) (pv 0)) pa_nil)) (blkOk_by (N := ["yard", "position", "post"]) (sc := defScope s_ready) (by decide +kernel))
      (fun _ _ _ _ _ => pg_name (i := 2) nd rfl (Or.inl rfl)) (fun _ _ _ _ _ => pts_one (pt_val (pe_c (c_sees_odd W) hr (by decide) (by rfl) (pa_cons (pv 0) (pa_cons (pv 1) (pa_cons (pv 2) pa_nil)))))) (fun _ _ _ _ _ => pv 2))), ?_⟩
  obtain ⟨dx, pt, pw, pn, hy, _⟩ := id ya
  have h60 := ok.h60
  refine ⟨_, rfl, y, dx, _, rfl, hy, rfl, y, n, ts, ws, rs, rfl, ya, _, rfl, by omega, by omega, fun D hD => lcAny er_ex (fun H H' o e h => e _ _ h) walk_range (Odd.posts n) V.int V.int y_posts Odd.posts_len (by show n ≤ _; omega) hD (fun _ _ => trivial) (fun _ => rfl) (fun x hx H2 e2 Q2 q2 => ?_) (fun x hx H2 e2 Q2 q2 => ⟨_, rfl, q2 _ (Ex.rfl' _)⟩) (fun H2 l e2 sl h2 => k D l H2 e2 h2)⟩
  obtain ⟨x0, x1⟩ := Odd.mem_posts.mp hx
  exact ⟨_, rfl, _, rfl, _, rfl, y, n, ts, ws, rs, p, ps, x, rfl, ya.mono e2, ok, e2 _ _ pl, x0, x1, fun b H3 e3 => ⟨b, rfl, q2 _ _ e3⟩⟩
def spIsStill (K : PySem.W.Frag) : Sp := fun vs H Q _ => ∃ y n ts ws rs p ps, vs = [.ref y, .ref p] ∧ YA K H y n ts ws rs ∧ Odd.YOk n ts ws rs ∧ IL H p ps ∧ ∀ b H', Ex H H' → Q (.bl b) H'
theorem sc_is_still : FnScope ["yard", "position"] ["yard", "position"] (defScope s_is_still) := ⟨rfl, rfl, rfl, by decide +kernel, rfl, by decide +kernel, by decide +kernel⟩
theorem c_is_still (W : Wd K mg) : Cal P w K mg base 6 "is_still" (spIsStill K) [] := by
  refine W.cal 15 sc_is_still (fun vs H Q E ⟨y, n, ts, ws, rs, p, ps, e, _⟩ => by rw [e]; rfl) (fun f cdv A outer s H vs Q E hr ⟨y, n, ts, ws, rs, p, ps, e, ya, ok, pl, k⟩ => ?_) (fun _ _ _ _ _ _ us hl => match us, hl with | [_, _], _ => rfl)
  subst e
  refine ⟨_, pss_one (ps_ret (pe_cmpR (op_eqD hr.units) (pe_c (c_ready W) hr (by decide) (by rfl) (pa_cons (pv 0) (pa_cons (pv 1) pa_nil))) (pe_lst pa_nil) (nomark _))), ?_⟩
  refine ⟨_, rfl, _, rfl, y, n, ts, ws, rs, p, ps, rfl, ya, ok, pl, fun q l H1 e1 il => ⟨by show 0 ≤ sizeLine; decide, fun z hz => ?_⟩⟩
  have e2 : Ex H1 (upd H1 z (.lst [])) := Ex.new hz
  exact ⟨dI l, .list [], dp_ints (SqL.of (e2 _ _ il)), .lst (SqL.of upd_same) .nil, sh_ints _, sh_nil, k _ _ (e1.trans e2)⟩
def spSign (K : PySem.W.Frag) : Sp := fun vs H Q _ => ∃ y n ts ws rs p ps, vs = [.ref y, .ref p] ∧ YA K H y n ts ws rs ∧ Odd.YOk n ts ws rs ∧ IL H p ps ∧ ∀ i H', Ex H H' → 0 ≤ i → i < 2 → Q (.int i) H'
theorem sc_sign : FnScope ["yard", "position", "inside", "wired", "tie", "post"] ["yard", "position"] (defScope s_sign) := ⟨rfl, rfl, rfl, by decide +kernel, rfl, by decide +kernel, by decide +kernel⟩
theorem c_sign (W : Wd K mg) : Cal P w K mg base 2 "sign" (spSign K) [] := by
  refine W.cal 16 sc_sign (fun vs H Q E ⟨y, n, ts, ws, rs, p, ps, e, _⟩ => by rw [e]; rfl) (fun f cdv A outer s H vs Q E hr ⟨y, n, ts, ws, rs, p, ps, e, ya, ok, pl, k⟩ => ?_) (fun _ _ _ _ _ _ us hl => match us, hl with | [_, _], _ => rfl)
  subst e
  have nd := sc_sign.nd
  refine ⟨_, pss_cons (ps_setLc (i := 2) (own := [("tie", 4)]) (g := gName 4) rfl nd rfl rfl (sw_true rfl rfl rfl (by decide +kernel)) (pi_list (pe_mt0 (m_ties W) hr (by decide) (pv 0))) (blkOk_by (N := ["yard", "position", "inside", "wired", "tie", "post"]) (sc := defScope s_sign) (by decide +kernel))
      (fun _ _ _ _ _ => pg_name (i := 4) nd rfl (Or.inl rfl)) (fun _ _ _ _ _ => pts_one (PW.pt (pw_and (pt_cmpR (kInSeq (K := K) rfl) (pe_ix (kIxT (K := K) rfl) (pv 4) pe_int (fun _ _ => rfl)) (pv 1) rfl) (pw_and1 (pt_cmpR (kInSeq (K := K) rfl) (pe_ix (kIxT (K := K) rfl) (pv 4) pe_int (fun _ _ => rfl)) (pv 1) rfl))))) (fun _ _ _ _ _ => pv 4))
    (pss_cons (ps_setLc (i := 3) (own := [("post", 5)]) (g := gName 5) rfl nd rfl rfl (sw_true rfl rfl rfl (by decide +kernel)) (pi_list (pe_mt0 (m_wired W) hr (by decide) (pv 0))) (blkOk_by (N := ["yard", "position", "inside", "wired", "tie", "post"]) (sc := defScope s_sign) (by decide +kernel))
      (fun _ _ _ _ _ => pg_name (i := 5) nd rfl (Or.inl rfl)) (fun _ _ _ _ _ => pts_one (pt_cmpR (kInSeq (K := K) rfl) (pv 5) (pv 1) rfl)) (fun _ _ _ _ _ => pv 5))
    (pss_one (ps_ret (pe_op op_mod (pe_op op_add (pe_op op_sub (p_len W.nm (pv 1)) (p_len W.nm (pv 2))) (p_len W.nm (pv 3))) pe_int)))), ?_⟩
  obtain ⟨dx, pt, pw, pn, hy, _⟩ := id ya
  have h60 := ok.h60
  refine ⟨_, rfl, y, dx, _, rfl, hy, rfl, y, n, ts, ws, rs, rfl, ya, fun q H1 hq e1 tl => ?_⟩
  obtain ⟨ks, k1, k2, k3⟩ := id tl
  have tlen := ok.tr.len
  have klen : ks.length = ts.length := by rw [← k1, List.length_map]
  refine ⟨q, rfl, ⟨_, SqL.of k2⟩, fun D hD => lcAny er_ex (fun H H' o e h => e _ _ h) walk_list ks (fun k => V.ref k.1) (fun k => V.ref k.1) y_map (by rw [List.length_map]) (by rw [List.length_map]; omega) hD (fun H2 e2 => SqL.of (e2 _ _ k2)) (fun _ => rfl) (fun z hz H2 e2 Q2 q2 => ?_) (fun z hz H2 e2 Q2 q2 => ⟨_, rfl, q2 _ (Ex.rfl' _)⟩) (fun H2 l e2 sl h2 => ?_)⟩
  · have hz2 := e2 _ _ (k3 z hz)
    have pl2 := e2 _ _ (e1 _ _ pl)
    refine ⟨_, rfl, z.1, _, _, _, rfl, rfl, SqT.of hz2, at0, _, rfl, p, _, rfl, .inl (SqL.of pl2), rfl, flat_ints _, _, rfl, ?_⟩
    rw [if_neg (by simp)]
    cases inV (V.int z.2.1) (ps.map V.int) with
    | false => exact iteF (q2 _ _ (Ex.rfl' _))
    | true => exact iteT ⟨_, rfl, z.1, _, _, _, rfl, rfl, SqT.of hz2, at1, _, rfl, p, _, rfl, .inl (SqL.of pl2), rfl, flat_ints _, _, rfl, q2 _ _ (Ex.rfl' _)⟩
  · have e12 := e1.trans e2
    refine ⟨_, rfl, y, dx, _, rfl, e12 _ _ hy, rfl, y, n, ts, ws, rs, rfl, ya.mono e12, fun q3 H3 hq3 e3 wl => ?_⟩
    have wlen : ws.length ≤ 60 := by
      have := Odd.up_len ws 0 n ok.wup ok.wr
      omega
    refine ⟨q3, rfl, ⟨_, SqL.of wl⟩, fun D4 hD4 => lcAny er_ex (fun H H' o e h => e _ _ h) walk_list ws V.int V.int y_map (by rw [List.length_map]) (by rw [List.length_map]; omega) hD4 (fun H4 e4 => SqL.of (e4 _ _ wl)) (fun _ => rfl) (fun z hz H4 e4 Q4 q4 => ?_) (fun z hz H4 e4 Q4 q4 => ⟨_, rfl, q4 _ (Ex.rfl' _)⟩) (fun H4 l4 e4 sl4 h4 => ?_)⟩
    · exact ⟨_, rfl, _, rfl, p, _, rfl, .inl (SqL.of (e4 _ _ (e3 _ _ (e12 _ _ pl)))), rfl, flat_ints _, _, rfl, q4 _ _ (Ex.rfl' _)⟩
    · have h2' := e4 _ _ (e3 _ _ h2)
      refine ⟨_, rfl, p, _, rfl, .inl (SqL.of (e4 _ _ (e3 _ _ (e12 _ _ pl)))), _, rfl, D, _, rfl, .inl (SqL.of h2'), _, _, rfl, rfl, _, rfl, D4, _, rfl, .inl (SqL.of h4), _, _, rfl, rfl, _, _, rfl, rfl, by show (0 : Int) < 2; decide, ?_⟩
      exact k _ _ ((e12.trans e3).trans e4) (Int.emod_nonneg _ (by decide)) (Int.emod_lt_of_pos _ (by decide))
/-! ### class_of -/
def spClassOf (K : PySem.W.Frag) : Sp := fun vs H Q _ => ∃ y n ts ws rs p ps, vs = [.ref y, .ref p] ∧ YA K H y n ts ws rs ∧ Odd.YOk n ts ws rs ∧ IL H p ps ∧
  ∀ q H', Ex H H' → (H' q = some (.tup [.str "still"]) ∨ ∃ i : Int, 0 ≤ i ∧ i ≤ 200 ∧ (H' q = some (.tup [.str "sign", .int i]) ∨ H' q = some (.tup [.str "borders", .int i]))) → Q (.ref q) H'
theorem sc_class_of : FnScope ["yard", "position"] ["yard", "position"] (defScope s_class_of) := ⟨rfl, rfl, rfl, by decide +kernel, rfl, by decide +kernel, by decide +kernel⟩
theorem c_class_of (W : Wd K mg) : Cal P w K mg base 10 "class_of" (spClassOf K) [] := by
  refine W.cal 17 sc_class_of (fun vs H Q E ⟨y, n, ts, ws, rs, p, ps, e, _⟩ => by rw [e]; rfl) (fun f cdv A outer s H vs Q E hr ⟨y, n, ts, ws, rs, p, ps, e, ya, ok, pl, k⟩ => ?_) (fun _ _ _ _ _ _ us hl => match us, hl with | [_, _], _ => rfl)
  subst e
  refine ⟨_, pss_cons (ps_if (pt_val (pe_c (c_is_still W) hr (by decide) (by rfl) (pa_cons (pv 0) (pa_cons (pv 1) pa_nil)))) (pss_one (ps_ret (pe_tup (pa_cons pe_str pa_nil)))) pss_nil)
    (pss_cons (ps_if (pt_val (pe_c (c_is_free W) hr (by decide) (by rfl) (pa_cons (pv 0) pa_nil))) (pss_one (ps_ret (pe_tup (pa_cons pe_str (pa_cons (pe_c (c_sign W) hr (by decide) (by rfl) (pa_cons (pv 0) (pa_cons (pv 1) pa_nil))) pa_nil))))) pss_nil)
    (pss_one (ps_ret (pe_tup (pa_cons pe_str (pa_cons (p_len W.nm (pe_c (c_borders W) hr (by decide) (by rfl) (pa_cons (pv 0) (pa_cons (pv 1) pa_nil)))) pa_nil)))))), ?_⟩
  refine ⟨_, rfl, _, rfl, y, n, ts, ws, rs, p, ps, rfl, ya, ok, pl, fun b H1 e1 => ⟨b, rfl, ?_⟩⟩
  cases b with
  | true => exact iteT ⟨by show 1 ≤ sizeLine; decide, fun t ht => k t _ (e1.trans (Ex.new ht)) (.inl upd_same)⟩
  | false =>
    refine iteF ⟨_, rfl, y, n, ts, ws, rs, rfl, ya.mono e1, ok, fun H2 e2 => ⟨_, rfl, ?_⟩⟩
    have e12 := e1.trans e2
    cases hf : Odd.freeB n rs ws with
    | true => exact iteT ⟨_, rfl, _, rfl, y, n, ts, ws, rs, p, ps, rfl, ya.mono e12, ok, e12 _ _ pl, fun i H3 e3 i0 i1 => ⟨by show 2 ≤ sizeLine; decide, fun t ht => k t _ ((e12.trans e3).trans (Ex.new ht)) (.inr ⟨i, i0, by omega, .inl upd_same⟩)⟩⟩
    | false => exact iteF ⟨_, rfl, _, rfl, y, n, ts, ws, rs, p, ps, rfl, ya.mono e12, ok, hf, e12 _ _ pl, fun q l H3 e3 il ll => ⟨q, _, rfl, .inl (SqL.of il), by show 2 ≤ sizeLine; decide, fun t ht => k t _ ((e12.trans e3).trans (Ex.new ht)) (.inr ⟨_, Int.natCast_nonneg _, by rw [List.length_map]; omega, .inr upd_same⟩)⟩⟩
end
end Od

set_option Elab.async false
set_option linter.all false
set_option maxRecDepth 100000
set_option maxHeartbeats 4000000
/-! texts of numbers, posts, ties, yards, deeds: plain -/
namespace Od
open PySem PySem.Spec PyProof.Rows L2
abbrev tL (x : Str) : List Nat := x.cps.toList
abbrev nS (i : Int) : Str := Str.ofString (toString i)
def Sm (i : Int) : Prop := 0 ≤ i ∧ i < 10 ^ 40
theorem Sm.of60 {i : Int} (h0 : 0 ≤ i) (h1 : i < 1000) : Sm i := by
  have e : (1000 : Int) ≤ 10 ^ 40 := by decide
  exact ⟨h0, by omega⟩
theorem tl_nS {i : Int} (h : 0 ≤ i) : tL (nS i) = TL.numL i.toNat := by
  have z := TL.tl_num i.toNat
  rw [Int.toNat_of_nonneg h] at z
  exact z
theorem numL_pos (n : Nat) : 1 ≤ (TL.numL n).length := by
  have := TL.numL_ne n
  cases e : TL.numL n with
  | nil => exact absurd e this
  | cons a r => simp
theorem nS_len {i : Int} (h : Sm i) : 1 ≤ (nS i).length ∧ (nS i).length ≤ 40 := by
  rw [TL.len_tl, show TL.tl (nS i) = tL (nS i) from rfl, tl_nS h.1]
  refine ⟨numL_pos _, TL.numL_len (by decide) ?_⟩
  have h1 := h.2
  have h0 := h.1
  have e : ((10 : Int) ^ 40) = ((10 ^ 40 : Nat) : Int) := by decide
  rw [e] at h1
  omega
theorem log_small {i : Int} (h : Sm i) : i.natAbs.log2 < 1920 := by
  have h1 := h.2
  have h0 := h.1
  by_cases z : i.natAbs = 0
  · rw [z]; decide
  · refine (Nat.log2_lt z).mpr ?_
    have e : ((10 : Int) ^ 40) = ((10 ^ 40 : Nat) : Int) := by decide
    rw [e] at h1
    have b : (10 ^ 40 : Nat) < 2 ^ 140 := by decide
    have c : (2 : Nat) ^ 140 ≤ 2 ^ 1920 := Nat.pow_le_pow_right (by decide) (by decide)
    have d : i.natAbs < 10 ^ 40 := by omega
    exact Nat.lt_of_lt_of_le (Nat.lt_trans d b) c
theorem dig_nS {i : Int} (h : 0 ≤ i) : ∀ c ∈ tL (nS i), 48 ≤ c ∧ c ≤ 57 := by
  rw [tl_nS h]
  exact fun c hc => TL.numL_digits i.toNat c hc
theorem free_nS {i : Int} (h : 0 ≤ i) {s : Nat} (hs : s < 48 ∨ 57 < s) : s ∉ tL (nS i) := fun m => by
  have := dig_nS h s m
  omega
/-- the first sign of a number that isn't 0 -/
theorem head_num : ∀ n : Nat, 0 < n → ∃ c r, TL.numL n = c :: r ∧ c ≠ 48 := by
  intro n
  induction n using Nat.strongRecOn with
  | _ n ih =>
    intro hn
    by_cases h : n < 10
    · exact ⟨48 + n, [], TL.numL_lt h, by omega⟩
    · obtain ⟨c, r, e, ne⟩ := ih (n / 10) (by omega) (by omega)
      exact ⟨c, r ++ [48 + n % 10], by rw [TL.numL_step (by omega), e]; rfl, ne⟩
theorem head_nS {i : Int} (h : 0 ≤ i) : ∃ c r, tL (nS i) = c :: r ∧ (c = 48 → i = 0) := by
  rw [tl_nS h]
  by_cases z : i = 0
  · subst z
    exact ⟨48, [], TL.numL_lt (n := 0) (by decide), fun _ => rfl⟩
  · obtain ⟨c, r, e, ne⟩ := head_num i.toNat (by omega)
    exact ⟨c, r, e, fun h => absurd h ne⟩
theorem int_nS {i : Int} (h : Sm i) : PySem.intText? (nS i) = some i := by
  have l := (nS_len h).2
  have z := TL.int_num (n := i.toNat) (by
    rw [TL.len_tl, show TL.tl (nS i) = tL (nS i) from rfl, tl_nS h.1] at l
    omega)
  rw [Int.toNat_of_nonneg h.1] at z
  exact z
theorem nS_zero : nS 0 = ("0" : Str) := by decide +kernel
/-! ### joined texts -/
abbrev jn (s : Str) (l : List Str) : Str := Txt.join s l
theorem jn_nil (s : Str) : jn s [] = Str.empty := rfl
theorem jn_one (s a : Str) : jn s [a] = a := by
  unfold jn
  rw [TL.join_eq]
  rfl
theorem tl_jn (s : Str) (l : List Str) : tL (jn s l) = TL.joinL (tL s) (l.map tL) := by
  unfold jn
  rw [TL.join_eq]
  exact TL.tl_join s l
theorem jn_cons (s a b : Str) (l : List Str) : jn s (a :: b :: l) = a ++ (s ++ jn s (b :: l)) := by
  refine TL.ext_tl ?_
  rw [show TL.tl (jn s (a :: b :: l)) = tL (jn s (a :: b :: l)) from rfl, tl_jn, TL.tl_append, TL.tl_append, show TL.tl (jn s (b :: l)) = tL (jn s (b :: l)) from rfl, tl_jn]
  rfl
theorem app_assoc (a b c : Str) : (a ++ b) ++ c = a ++ (b ++ c) := by
  refine TL.ext_tl ?_
  rw [TL.tl_append, TL.tl_append, TL.tl_append, TL.tl_append, List.append_assoc]
theorem app_empty (a : Str) : a ++ Str.empty = a := by
  refine TL.ext_tl ?_
  rw [TL.tl_append]
  show _ ++ [] = _
  rw [List.append_nil]
theorem len_app (a b : Str) : (a ++ b).length = a.length + b.length := by
  rw [TL.len_tl, TL.len_tl, TL.len_tl, TL.tl_append, List.length_append]
theorem jn_len (s : Str) : ∀ l : List Str, (jn s l).length ≤ (l.map (·.length)).sum + l.length * s.length
  | [] => by rw [jn_nil]; exact Nat.zero_le _
  | [a] => by rw [jn_one]; simp
  | a :: b :: l => by
    have ih := jn_len s (b :: l)
    rw [jn_cons, len_app, len_app, List.map_cons, List.sum_cons, List.length_cons, Nat.add_mul]
    omega
theorem sum_len (B : Nat) : ∀ l : List Str, (∀ a ∈ l, a.length ≤ B) → (l.map (·.length)).sum ≤ l.length * B
  | [], _ => by simp
  | a :: l, h => by
    have ih := sum_len B l fun x hx => h x (List.mem_cons_of_mem _ hx)
    have := h a List.mem_cons_self
    rw [List.map_cons, List.sum_cons, List.length_cons, Nat.add_mul]
    omega
theorem jn_bound {s : Str} {l : List Str} {B : Nat} (hs : s.length ≤ 2) (hl : l.length ≤ 70) (h : ∀ a ∈ l, a.length ≤ B) : (l.map (·.length)).sum + l.length * s.length ≤ 70 * B + 140 := by
  have z := sum_len B l h
  have a : l.length * B ≤ 70 * B := Nat.mul_le_mul_right B hl
  have b : l.length * s.length ≤ 70 * 2 := Nat.mul_le_mul hl hs
  omega
theorem split_sp {l : List Str} (ne : l ≠ []) (h : ∀ a ∈ l, 32 ∉ tL a) : Txt.split (jn (" " : Str) l) (" " : Str) = l :=
  TL.split_join (s := 32) (S := []) (by decide +kernel) (by decide +kernel) ne h
theorem split_dash {l : List Str} (ne : l ≠ []) (h : ∀ a ∈ l, 45 ∉ tL a) : Txt.split (jn ("-" : Str) l) ("-" : Str) = l :=
  TL.split_join (s := 45) (S := []) (by decide +kernel) (by decide +kernel) ne h
theorem split_semi {l : List Str} (ne : l ≠ []) (h : ∀ a ∈ l, 59 ∉ tL a) : Txt.split (jn ("; " : Str) l) ("; " : Str) = l :=
  TL.split_join (s := 59) (S := [32]) (by decide +kernel) (by decide +kernel) ne h
/-- a sign of a joined text is one of its parts' or of the separator -/
theorem mem_jn {s : Str} {c : Nat} : ∀ {l : List Str}, c ∈ tL (jn s l) → c ∈ tL s ∨ ∃ a ∈ l, c ∈ tL a
  | [], h => by rw [jn_nil] at h; exact absurd h (by show c ∉ ([] : List Nat); simp)
  | [a], h => by rw [jn_one] at h; exact .inr ⟨a, by simp, h⟩
  | a :: b :: l, h => by
    rw [jn_cons] at h
    have h : c ∈ TL.tl (a ++ (s ++ jn s (b :: l))) := h
    rw [TL.tl_append, TL.tl_append] at h
    rcases List.mem_append.mp h with h | h
    · exact .inr ⟨a, by simp, h⟩
    · rcases List.mem_append.mp h with h | h
      · exact .inl h
      · rcases mem_jn h with h | ⟨x, m, h⟩
        · exact .inl h
        · exact .inr ⟨x, List.mem_cons_of_mem _ m, h⟩
theorem jn_head {s a : Str} {l : List Str} {c : Nat} {r : List Nat} (h : tL a = c :: r) : ∃ r', tL (jn s (a :: l)) = c :: r' := by
  cases l with
  | nil => rw [jn_one]; exact ⟨r, h⟩
  | cons b l =>
    rw [jn_cons, show tL (a ++ (s ++ jn s (b :: l))) = TL.tl (a ++ (s ++ jn s (b :: l))) from rfl, TL.tl_append, show TL.tl a = tL a from rfl, h]
    exact ⟨_, rfl⟩
theorem ne_of_head {x y : Str} {c d : Nat} {r u : List Nat} (h1 : tL x = c :: r) (h2 : tL y = d :: u) (ne : c ≠ d) : x ≠ y := fun e => by
  subst e
  rw [h1] at h2
  injection h2 with h2
  exact ne h2
theorem ne_of_mem {x y : Str} {c : Nat} (h1 : c ∈ tL x) (h2 : c ∉ tL y) : x ≠ y := fun e => h2 (e ▸ h1)
theorem pos_of_head {x : Str} {c : Nat} {r : List Nat} (h : tL x = c :: r) : x.length = r.length + 1 := by
  rw [TL.len_tl, show TL.tl x = tL x from rfl, h, List.length_cons]
/-! ### posts -/
def showP (l : List Int) : Str := if l = [] then ("-" : Str) else jn (" " : Str) (l.map nS)
theorem showP_ne {l : List Int} (ne : l ≠ []) (h : ∀ x ∈ l, Sm x) : showP l ≠ ("-" : Str) ∧ showP l = jn (" " : Str) (l.map nS) ∧ (jn (" " : Str) (l.map nS)).length ≠ 0 := by
  have e : showP l = jn (" " : Str) (l.map nS) := if_neg ne
  rw [e]
  cases l with
  | nil => exact absurd rfl ne
  | cons a r =>
    obtain ⟨c, r', h1, _⟩ := head_nS (h a (by simp)).1
    have hc : 48 ≤ c := (dig_nS (h a (by simp)).1 c (by rw [h1]; simp)).1
    obtain ⟨r2, h2⟩ := jn_head (s := (" " : Str)) (l := r.map nS) h1
    refine ⟨ne_of_head h2 (y := ("-" : Str)) (d := 45) (u := []) (by decide +kernel) (by omega), rfl, ?_⟩
    have := pos_of_head h2
    rw [List.map_cons, this]
    omega
theorem showP_split {l : List Int} (ne : l ≠ []) (h : ∀ x ∈ l, Sm x) : Txt.split (jn (" " : Str) (l.map nS)) (" " : Str) = l.map nS := by
  refine split_sp (fun e => ne (List.map_eq_nil_iff.mp e)) fun a ha => ?_
  obtain ⟨x, hx, rfl⟩ := List.mem_map.mp ha
  exact free_nS (h x hx).1 (by decide)
theorem nS_bound {l : List Int} (h : ∀ x ∈ l, Sm x) : ∀ a ∈ l.map nS, a.length ≤ 40 := fun a ha => by
  obtain ⟨x, hx, rfl⟩ := List.mem_map.mp ha
  exact (nS_len (h x hx)).2
theorem showP_len {l : List Int} (hl : l.length ≤ 70) (h : ∀ x ∈ l, Sm x) : (showP l).length ≤ 3000 := by
  unfold showP
  by_cases c : l = []
  · rw [if_pos c]; decide +kernel
  · rw [if_neg c]
    have a := jn_len (" " : Str) (l.map nS)
    have b := jn_bound (s := (" " : Str)) (l := l.map nS) (B := 40) (by decide +kernel) (by rw [List.length_map]; exact hl) (nS_bound h)
    omega
theorem showP_signs {l : List Int} (h : ∀ x ∈ l, Sm x) {c : Nat} (m : c ∈ tL (showP l)) : c = 32 ∨ c = 45 ∨ (48 ≤ c ∧ c ≤ 57) := by
  unfold showP at m
  by_cases e : l = []
  · rw [if_pos e] at m
    have : c ∈ [45] := m
    simp at this
    omega
  · rw [if_neg e] at m
    rcases mem_jn m with z | ⟨a, ha, z⟩
    · have : c ∈ [32] := z
      simp at this
      omega
    · obtain ⟨x, hx, rfl⟩ := List.mem_map.mp ha
      exact .inr (.inr (dig_nS (h x hx).1 c z))
/-! ### ties -/
abbrev tieS (t : Int × Int) : Str := (nS t.1 ++ ("-" : Str)) ++ nS t.2
def showT (l : List (Int × Int)) : Str := if l = [] then ("-" : Str) else jn (" " : Str) (l.map tieS)
theorem tie_jn (t : Int × Int) : tieS t = jn ("-" : Str) [nS t.1, nS t.2] := by
  rw [jn_cons, jn_one]
  exact app_assoc _ _ _
theorem tie_split {t : Int × Int} (h1 : 0 ≤ t.1) (h2 : 0 ≤ t.2) : Txt.split (tieS t) ("-" : Str) = [nS t.1, nS t.2] := by
  rw [tie_jn]
  refine split_dash (by simp) fun a ha => ?_
  rcases List.mem_cons.mp ha with e | ha
  · rw [e]; exact free_nS h1 (by decide)
  · rw [List.mem_singleton.mp ha]; exact free_nS h2 (by decide)
theorem tie_signs {t : Int × Int} (h1 : 0 ≤ t.1) (h2 : 0 ≤ t.2) {c : Nat} (m : c ∈ tL (tieS t)) : c = 45 ∨ (48 ≤ c ∧ c ≤ 57) := by
  have m : c ∈ TL.tl ((nS t.1 ++ ("-" : Str)) ++ nS t.2) := m
  rw [TL.tl_append, TL.tl_append] at m
  rcases List.mem_append.mp m with m | m
  · rcases List.mem_append.mp m with m | m
    · exact .inr (dig_nS h1 c m)
    · have : c ∈ [45] := m
      simp at this
      exact .inl this
  · exact .inr (dig_nS h2 c m)
def Ts (l : List (Int × Int)) : Prop := ∀ t ∈ l, Sm t.1 ∧ Sm t.2
theorem tie_len {t : Int × Int} (h1 : Sm t.1) (h2 : Sm t.2) : (tieS t).length ≤ 81 := by
  unfold tieS
  rw [len_app, len_app]
  have a := (nS_len h1).2
  have b := (nS_len h2).2
  have c : ("-" : Str).length = 1 := by decide +kernel
  omega
theorem showT_ne {l : List (Int × Int)} (ne : l ≠ []) (h : Ts l) : showT l ≠ ("-" : Str) ∧ showT l = jn (" " : Str) (l.map tieS) ∧ (jn (" " : Str) (l.map tieS)).length ≠ 0 := by
  have e : showT l = jn (" " : Str) (l.map tieS) := if_neg ne
  rw [e]
  cases l with
  | nil => exact absurd rfl ne
  | cons a r =>
    obtain ⟨c, r', h1, _⟩ := head_nS (h a (by simp)).1.1
    have hc : 48 ≤ c := (dig_nS (h a (by simp)).1.1 c (by rw [h1]; simp)).1
    have h1' : ∃ r'', tL (tieS a) = c :: r'' := by
      rw [show tL (tieS a) = TL.tl ((nS a.1 ++ ("-" : Str)) ++ nS a.2) from rfl, TL.tl_append, TL.tl_append, show TL.tl (nS a.1) = tL (nS a.1) from rfl, h1]
      exact ⟨_, rfl⟩
    obtain ⟨r'', h1''⟩ := h1'
    obtain ⟨r2, h2⟩ := jn_head (s := (" " : Str)) (l := r.map tieS) h1''
    refine ⟨ne_of_head h2 (y := ("-" : Str)) (d := 45) (u := []) (by decide +kernel) (by omega), rfl, ?_⟩
    have := pos_of_head h2
    rw [List.map_cons, this]
    omega
theorem showT_split {l : List (Int × Int)} (ne : l ≠ []) (h : Ts l) : Txt.split (jn (" " : Str) (l.map tieS)) (" " : Str) = l.map tieS := by
  refine split_sp (fun e => ne (List.map_eq_nil_iff.mp e)) fun a ha m => ?_
  obtain ⟨x, hx, rfl⟩ := List.mem_map.mp ha
  have := tie_signs (h x hx).1.1 (h x hx).2.1 m
  omega
theorem tieS_bound {l : List (Int × Int)} (h : Ts l) : ∀ a ∈ l.map tieS, a.length ≤ 81 := fun a ha => by
  obtain ⟨x, hx, rfl⟩ := List.mem_map.mp ha
  exact tie_len (h x hx).1 (h x hx).2
theorem showT_len {l : List (Int × Int)} (hl : l.length ≤ 70) (h : Ts l) : (showT l).length ≤ 6000 := by
  unfold showT
  by_cases c : l = []
  · rw [if_pos c]; decide +kernel
  · rw [if_neg c]
    have a := jn_len (" " : Str) (l.map tieS)
    have b := jn_bound (s := (" " : Str)) (l := l.map tieS) (B := 81) (by decide +kernel) (by rw [List.length_map]; exact hl) (tieS_bound h)
    omega
theorem showT_signs {l : List (Int × Int)} (h : Ts l) {c : Nat} (m : c ∈ tL (showT l)) : c = 32 ∨ c = 45 ∨ (48 ≤ c ∧ c ≤ 57) := by
  unfold showT at m
  by_cases e : l = []
  · rw [if_pos e] at m
    have : c ∈ [45] := m
    simp at this
    omega
  · rw [if_neg e] at m
    rcases mem_jn m with z | ⟨a, ha, z⟩
    · have : c ∈ [32] := z
      simp at this
      omega
    · obtain ⟨x, hx, rfl⟩ := List.mem_map.mp ha
      exact .inr (tie_signs (h x hx).1.1 (h x hx).2.1 z)
/-! ### yards -/
def yText (n : Nat) (ts : List (Int × Int)) (ws : List Int) : Str := jn ("; " : Str) [nS (n : Int), showT ts, showP ws]
theorem y_split {n : Nat} {ts : List (Int × Int)} {ws : List Int} (h : Ts ts) (g : ∀ x ∈ ws, Sm x) : Txt.split (yText n ts ws) ("; " : Str) = [nS (n : Int), showT ts, showP ws] := by
  refine split_semi (by simp) fun a ha m => ?_
  rcases List.mem_cons.mp ha with e | ha
  · rw [e] at m
    exact free_nS (Int.natCast_nonneg n) (by decide) m
  · rcases List.mem_cons.mp ha with e | ha
    · rw [e] at m
      have := showT_signs h m
      omega
    · rw [List.mem_singleton.mp ha] at m
      have := showP_signs g m
      omega
theorem y_len {n : Nat} {ts : List (Int × Int)} {ws : List Int} (hn : n < 1000) (h : Ts ts) (g : ∀ x ∈ ws, Sm x) (lt : ts.length ≤ 70) (lw : ws.length ≤ 70) : ([nS (n : Int), showT ts, showP ws].map (·.length)).sum + 3 * ("; " : Str).length ≤ 10000 ∧ (yText n ts ws).length ≤ 10000 := by
  have a := (nS_len (Sm.of60 (Int.natCast_nonneg n) (by omega))).2
  have b := showT_len lt h
  have c := showP_len lw g
  have d : ("; " : Str).length = 2 := by decide +kernel
  have e : ([nS (n : Int), showT ts, showP ws].map (·.length)).sum = (nS (n : Int)).length + ((showT ts).length + ((showP ws).length + 0)) := rfl
  have f := jn_len ("; " : Str) [nS (n : Int), showT ts, showP ws]
  rw [e] at f ⊢
  have f' : (yText n ts ws).length ≤ _ := f
  rw [show [nS (n : Int), showT ts, showP ws].length = 3 from rfl] at f'
  omega
end Od

set_option Elab.async false
set_option linter.all false
set_option maxRecDepth 100000
set_option maxHeartbeats 4000000
/-! read_number, read_numbers, show_posts, read_posts, show_ties, read_tie, show_yard -/
namespace Od
open PySem PySem.Spec PyProof.Rows L2
open C8 (Cal Met InsC pe_c pe_mt pe_mt0 call_isC)
section
variable {P : Program} {w : World} {K : PySem.W.Frag} {mg : Str → Option Value} {base : Heap}
theorem digits_eq : tL ("0123456789" : Str) = [48, 49, 50, 51, 52, 53, 54, 55, 56, 57] := by decide +kernel
theorem in_digits {c : Nat} (h : 48 ≤ c ∧ c ≤ 57) : c ∈ ("0123456789" : Str).cps.toList := by
  have e := digits_eq
  unfold tL at e
  rw [e]
  simp
  omega
theorem str0 : ("0" : Str) = ⟨#[48]⟩ := by decide +kernel
theorem dstr (a b : Str) : decide (V.str a = V.str b) = decide (a = b) := by
  by_cases c : a = b
  · rw [c, decide_eq_true rfl, decide_eq_true rfl]
  · rw [decide_eq_false c, decide_eq_false (fun h => c (V.str.inj h))]
def spReadNumber : Sp := fun vs H Q _ => ∃ i : Int, vs = [.str (nS i)] ∧ Sm i ∧ ∀ H', Ex H H' → Q (.int i) H'
theorem sc_read_number : FnScope ["text", "sign"] ["text"] (defScope s_read_number) := ⟨rfl, rfl, rfl, by decide +kernel, rfl, by decide +kernel, by decide +kernel⟩
theorem c_read_number (W : Wd K mg) : Cal P w K mg base 1 "read_number" spReadNumber [] := by
  refine W.cal 25 sc_read_number (fun vs H Q E ⟨i, e, _⟩ => by rw [e]; rfl) (fun f cdv A outer s H vs Q E hr ⟨i, e, sm, k⟩ => ?_) (fun _ _ _ _ _ _ us hl => match us, hl with | [_], _ => rfl)
  subst e
  have nd := sc_read_number.nd
  refine ⟨_, pss_cons (ps_if (PW.pt (pw_or (pt_not (pt_chain op_le op_le pe_int (pe_callB call_len_str (by rfl) W.nm.len boot_len (pa_cons (pv 0) pa_nil)) (pe_glob (v := .int 40) (by rfl) W.md.choose_spec ⟨_, rfl⟩)))
      (pw_or1 (pt_not (pt_val (pe_callB (cr_all rfl) (by rfl) W.nm.all boot_all (pa_cons (pe_lc (own := [("sign", 1)]) (g := gName 1) (tt := tYes) rfl nd (pi_str (pv 0)) (blkOk_by (N := ["text", "sign"]) (sc := defScope s_read_number) (by decide +kernel))
        (fun _ _ _ _ _ => pg_name (i := 1) nd rfl (Or.inl rfl)) (fun _ _ _ _ _ => pts_nil) (fun _ _ _ _ _ => pe_cmpR op_in_sign (pv 1) (pe_glob (v := .str "0123456789") (by rfl) W.dg.choose_spec ⟨_, rfl⟩) rfl)) pa_nil))))))) pss_never pss_nil)
    (pss_cons (ps_if (PW.pt (pw_and (pt_cmpR op_eq (pe_ix ix_str (pv 0) pe_int (fun _ _ => rfl)) pe_str (nomark _)) (pw_and1 (pt_cmpR op_ne (pv 0) pe_str (nomark _))))) pss_never pss_nil)
    (pss_one (ps_ret (pe_callTy call_int_str (by rfl) W.nm.int boot_int (pa_cons (pv 0) pa_nil))))), ?_⟩
  obtain ⟨l1, l2⟩ := nS_len sm
  have lz : (nS i).length ≤ sizeLine := by rw [sizeLine_eq]; omega
  refine ⟨_, rfl, _, rfl, lz, _, _, rfl, rfl, true, bl_t (by omega), iteT ⟨_, _, rfl, rfl, true, bl_t (by omega), iteF ?_⟩⟩
  refine ⟨_, rfl, _, rfl, fun D hD => lcS1 walk_str (nS i).cps.toList (fun c => V.str ⟨#[c]⟩) (fun _ => V.bl true) y_str (by rw [Array.length_toList]) (by have : (nS i).cps.size = (nS i).length := rfl; omega) hD (fun _ _ => trivial) (fun _ => rfl) (fun c hc H2 e2 Q2 q2 => ?_) (fun H2 e2 h2 => ?_)⟩
  · refine ⟨_, rfl, c, _, rfl, rfl, ?_⟩
    rw [decide_eq_true (in_digits (dig_nS sm.1 c hc))]
    exact q2 _ (Ex.rfl' _)
  · refine ⟨D, (nS i).cps.toList.map fun _ => true, rfl, SqL.of (by rw [h2, List.map_map]; rfl), true, by rw [all_true], iteF ?_⟩
    obtain ⟨c, r, e1, e0⟩ := head_nS sm.1
    have fin : Q (.int i) H2 := k _ e2
    refine ⟨_, rfl, _, _, c, rfl, rfl, lz, atI_nat (j := 0) (by show (tL (nS i))[0]? = _; rw [e1]; rfl), rfl, _, rfl, ?_⟩
    rw [dstr, str0]
    by_cases c48 : c = 48
    · have i0 := e0 c48
      rw [decide_eq_true (by rw [c48])]
      refine iteT ⟨_, rfl, rfl, _, rfl, ?_⟩
      rw [dstr, decide_eq_true (show nS i = (⟨#[48]⟩ : Str) by rw [i0, nS_zero, str0])]
      refine iteF ⟨_, rfl, _, _, rfl, int_nS (i := i) sm, by omega, fin⟩
    · rw [decide_eq_false (fun h => c48 (by injection h with h; injection h with h; injection h with h))]
      exact iteF (iteF ⟨_, rfl, _, _, rfl, int_nS (i := i) sm, by omega, fin⟩)
/-! ### numbers -/
def spReadNumbers : Sp := fun vs H Q _ => ∃ ns : List Int, vs = [.str (showP ns)] ∧ ns.length ≤ 70 ∧ (∀ x ∈ ns, Sm x) ∧ ∀ q H', H q = none → Ex H H' → IL H' q ns → Q (.ref q) H'
theorem sc_read_numbers : FnScope ["text", "word"] ["text"] (defScope s_read_numbers) := ⟨rfl, rfl, rfl, by decide +kernel, rfl, by decide +kernel, by decide +kernel⟩
theorem y_strs {ns : List Int} : ∀ i (H : Hp) x (H' : Hp), i < ((ns.map nS).map V.str).length → YAt ((ns.map nS).map V.str) i H x H' → H' = H ∧ ∃ a, ns[i]? = some a ∧ x = (fun a => V.str (nS a)) a := by
  intro i H x H' hi y
  rw [List.map_map] at hi y
  exact y_map (as := ns) (inj := V.str ∘ nS) i H x H' hi y
theorem c_read_numbers (W : Wd K mg) : Cal P w K mg base 2 "read_numbers" spReadNumbers [] := by
  refine W.cal 26 sc_read_numbers (fun vs H Q E ⟨ns, e, _⟩ => by rw [e]; rfl) (fun f cdv A outer s H vs Q E hr ⟨ns, e, l70, sm, k⟩ => ?_) (fun _ _ _ _ _ _ us hl => match us, hl with | [_], _ => rfl)
  subst e
  have nd := sc_read_numbers.nd
  refine ⟨_, pss_cons (ps_if (pt_cmpR op_eq (pv 0) pe_str (nomark _)) (pss_one (ps_ret (pe_lst pa_nil))) pss_nil)
    (pss_one (ps_ret (pe_lc (own := [("word", 1)]) (g := gName 1) (tt := tYes) rfl nd (pi_list (pe_split (pv 0) pe_str)) (blkOk_by (N := ["text", "word"]) (sc := defScope s_read_numbers) (by decide +kernel))
      (fun _ _ _ _ _ => pg_name (i := 1) nd rfl (Or.inl rfl)) (fun _ _ _ _ _ => pts_nil) (fun _ _ _ _ _ => pe_c (c_read_number W) hr (by decide) (by rfl) (pa_cons (pv 1) pa_nil))))), ?_⟩
  refine ⟨_, rfl, rfl, _, rfl, ?_⟩
  rw [dstr]
  by_cases c : ns = []
  · subst c
    rw [decide_eq_true (show showP [] = ("-" : Str) from rfl)]
    exact iteT ⟨by show 0 ≤ sizeLine; decide, fun l hl => k l _ hl (Ex.new hl) upd_same⟩
  · obtain ⟨n1, n2, n3⟩ := showP_ne c sm
    rw [decide_eq_false n1]
    have ll := showP_len l70 sm
    refine iteF ⟨_, rfl, ⟨_, rfl⟩, showP ns, _, rfl, rfl, by decide +kernel, by rw [sizeLine_eq]; omega, fun p hp => ?_⟩
    rw [n2, showP_split c sm]
    have hl : (upd H p (.lst ((ns.map nS).map V.str))) p = some (.lst ((ns.map nS).map V.str)) := upd_same
    have e1 : Ex H (upd H p (.lst ((ns.map nS).map V.str))) := Ex.new hp
    generalize upd H p (.lst ((ns.map nS).map V.str)) = H1 at hl e1
    refine ⟨p, rfl, ⟨_, SqL.of hl⟩, fun D hD => lcS1 walk_list ns (fun a => V.str (nS a)) V.int y_strs (by rw [List.length_map, List.length_map]) (by rw [List.length_map, List.length_map]; omega) hD (fun H2 e2 => SqL.of (e2 _ _ hl)) (fun _ => rfl) (fun x hx H2 e2 Q2 q2 => ?_) (fun H2 e2 h2 => k D H2 (e1.free hD) (e1.trans e2) h2)⟩
    exact ⟨_, rfl, x, rfl, sm x hx, q2⟩
/-! ### posts -/
def spShowPosts : Sp := fun vs H Q _ => ∃ (p : Addr) (ns : List Int), vs = [.ref p] ∧ IL H p ns ∧ ns.length ≤ 70 ∧ (∀ x ∈ ns, Sm x) ∧ ∀ H', Ex H H' → Q (.str (showP ns)) H'
theorem sc_show_posts : FnScope ["posts", "post"] ["posts"] (defScope s_show_posts) := ⟨rfl, rfl, rfl, by decide +kernel, rfl, by decide +kernel, by decide +kernel⟩
theorem c_show_posts (W : Wd K mg) : Cal P w K mg base 1 "show_posts" spShowPosts [] := by
  refine W.cal 27 sc_show_posts (fun vs H Q E ⟨p, ns, e, _⟩ => by rw [e]; rfl) (fun f cdv A outer s H vs Q E hr ⟨p, ns, e, il, l70, sm, k⟩ => ?_) (fun _ _ _ _ _ _ us hl => match us, hl with | [_], _ => rfl)
  subst e
  have nd := sc_show_posts.nd
  refine ⟨_, pss_one (ps_ret (pe_ifExp (pt_cmpR (op_neD hr.units) (pv 0) (pe_lst pa_nil) (nomark _)) (pe_join pe_str (pe_lc (own := [("post", 1)]) (g := gName 1) (tt := tYes) rfl nd (pi_list (pv 0)) (blkOk_by (N := ["posts", "post"]) (sc := defScope s_show_posts) (by decide +kernel))
      (fun _ _ _ _ _ => pg_name (i := 1) nd rfl (Or.inl rfl)) (fun _ _ _ _ _ => pts_nil) (fun _ _ _ _ _ => pe_callTy call_str_int (by rfl) W.nm.str boot_str (pa_cons (pv 1) pa_nil)))) pe_str)), ?_⟩
  refine ⟨_, rfl, by show 0 ≤ sizeLine; decide, fun l hl => ?_⟩
  have e1 : Ex H (upd H l (.lst [])) := Ex.new hl
  refine ⟨dI ns, .list [], dp_ints (SqL.of (e1 _ _ il)), .lst (SqL.of upd_same) .nil, sh_ints _, sh_nil, _, rfl, ?_⟩
  rw [eqv_nil, ie_ints]
  generalize upd H l (.lst []) = H1 at e1
  have il1 := e1 _ _ il
  by_cases ne : ns = []
  · rw [show (!ns.isEmpty) = false by rw [ne]; rfl]
    refine iteF ?_
    have z := k _ e1
    rw [ne] at z
    exact z
  · rw [show (!ns.isEmpty) = true by cases ns with | nil => exact absurd rfl ne | cons => rfl]
    obtain ⟨n1, n2, n3⟩ := showP_ne ne sm
    refine iteT ⟨⟨_, rfl⟩, _, rfl, p, rfl, ⟨_, SqL.of il1⟩, fun D hD => lcS1 walk_list ns V.int (fun a => V.str (nS a)) y_map (by rw [List.length_map]) (by rw [List.length_map]; omega) hD (fun H2 e2 => SqL.of (e2 _ _ il1)) (fun _ => rfl) (fun x hx H2 e2 Q2 q2 => ?_) (fun H2 e2 h2 => ?_)⟩
    · exact ⟨_, rfl, x, rfl, log_small (sm x hx), q2 _ (Ex.rfl' _)⟩
    · refine ⟨_, D, ns.map nS, rfl, rfl, .inl (SqL.of (by rw [h2, List.map_map]; rfl)), ?_, ?_⟩
      · have z := jn_bound (s := (" " : Str)) (l := ns.map nS) (B := 40) (by decide +kernel) (by rw [List.length_map]; exact l70) (nS_bound sm)
        omega
      · have z := k _ (e1.trans e2)
        rw [n2] at z
        exact z
def spReadPosts : Sp := fun vs H Q _ => ∃ ns : List Int, vs = [.str (showP ns)] ∧ ns.length ≤ 60 ∧ (∀ x ∈ ns, 0 ≤ x ∧ x < 60) ∧ ns.Pairwise (· < ·) ∧ ∀ q H', H q = none → Ex H H' → IL H' q ns → Q (.ref q) H'
theorem sc_read_posts : FnScope ["text", "found"] ["text"] (defScope s_read_posts) := ⟨rfl, rfl, rfl, by decide +kernel, rfl, by decide +kernel, by decide +kernel⟩
theorem c_read_posts (W : Wd K mg) : Cal P w K mg base 5 "read_posts" spReadPosts [] := by
  refine W.cal 28 sc_read_posts (fun vs H Q E ⟨ns, e, _⟩ => by rw [e]; rfl) (fun f cdv A outer s H vs Q E hr ⟨ns, e, l60, rg, up, k⟩ => ?_) (fun _ _ _ _ _ _ us hl => match us, hl with | [_], _ => rfl)
  subst e
  have nd := sc_read_posts.nd
  refine ⟨_, pss_cons (ps_if (pt_not (pt_val (p_isi W.nm.str boot_str W.nm (pv 0)))) pss_never pss_nil)
    (pss_cons (ps_set (i := 1) nd rfl (Or.inl rfl) (pe_c (c_read_numbers W) hr (by decide) (by rfl) (pa_cons (pv 0) pa_nil)))
    (pss_cons (ps_if (pt_not (pt_val (pe_c (c_is_set W) hr (by decide) (by rfl) (pa_cons (pv 1) (pa_cons (pe_glob (v := .int 60) (by rfl) W.ms.choose_spec ⟨_, rfl⟩) pa_nil))))) pss_never pss_nil)
    (pss_one (ps_ret (pv 1))))), ?_⟩
  have sm : ∀ x ∈ ns, Sm x := fun x hx => Sm.of60 (rg x hx).1 (by have := (rg x hx).2; omega)
  refine ⟨_, rfl, _, _, _, _, _, rfl, .ty _, .base (.str _), kit_ty (b := "str") (r := true) (by decide +kernel), true, rfl, iteF ?_⟩
  refine ⟨_, rfl, ns, rfl, by omega, sm, fun q H1 hq e1 il => ?_⟩
  exact ⟨_, rfl, q, ns, 60, rfl, il, by omega, rg, up, fun H2 e2 => ⟨true, rfl, iteF ⟨_, rfl, k q H2 hq (e1.trans e2) (e2 _ _ il)⟩⟩⟩
/-! ### ties -/
theorem walk_ties {p : Addr} {ks : List (Addr × (Int × Int))} : Walk (Itl K p) ks.length (fun H => H p = some (.lst (ks.map fun k => V.ref k.1)) ∧ ∀ k ∈ ks, H k.1 = some (.tup [.int k.2.1, .int k.2.2]))
    (fun i H x H' => Ex H H' ∧ ∃ (a : Int × Int) (q : Addr), (ks.map (·.2))[i]? = some a ∧ x = .ref q ∧ H' q = some (.tup [(fun a : Int × Int => V.int a.1) a, (fun a : Int × Int => V.int a.2) a])) := by
  have w := walk_list (K := K) (a := p) (xs := ks.map fun k => V.ref k.1)
  rw [List.length_map] at w
  refine w.mono (fun H h => SqL.of h.1) fun i H x H' hi g y => ?_
  obtain ⟨rfl, hx⟩ := y
  obtain ⟨q, t, rfl, ht, hq⟩ := ks_get (ks := ks) rfl g.2 hx
  exact ⟨Ex.rfl' _, t, q, ht, rfl, hq⟩
def spShowTies : Sp := fun vs H Q _ => ∃ (p : Addr) (ts : List (Int × Int)), vs = [.ref p] ∧ TL H p ts ∧ ts.length ≤ 70 ∧ Ts ts ∧ ∀ H', Ex H H' → Q (.str (showT ts)) H'
theorem sc_show_ties : FnScope ["ties", "post", "other"] ["ties"] (defScope s_show_ties) := ⟨rfl, rfl, rfl, by decide +kernel, rfl, by decide +kernel, by decide +kernel⟩
theorem ie_pairs (l : List (Int × Int)) : (l.map dP).isEmpty = l.isEmpty := by cases l <;> rfl
theorem c_show_ties (W : Wd K mg) : Cal P w K mg base 1 "show_ties" spShowTies [] := by
  refine W.cal 29 sc_show_ties (fun vs H Q E ⟨p, ts, e, _⟩ => by rw [e]; rfl) (fun f cdv A outer s H vs Q E hr ⟨p, ts, e, tl, l70, sm, k⟩ => ?_) (fun _ _ _ _ _ _ us hl => match us, hl with | [_], _ => rfl)
  subst e
  have nd := sc_show_ties.nd
  refine ⟨_, pss_one (ps_ret (pe_ifExp (pt_cmpR (op_neD hr.units) (pv 0) (pe_lst pa_nil) (nomark _)) (pe_join pe_str (pe_lc (own := [("post", 1), ("other", 2)]) (g := gTup K 2 (gCons (gName 1) (gCons (gName 2) gNil))) (tt := tYes) rfl nd (pi_list (pv 0)) (blkOk_by (N := ["ties", "post", "other"]) (sc := defScope s_show_ties) (by decide +kernel))
      (fun _ _ _ _ _ => kTupG (K := K) rfl rfl (pgs_cons (pg_name (i := 1) nd rfl (Or.inl rfl)) (pgs_cons (pg_name (i := 2) nd rfl (Or.inl rfl)) pgs_nil))) (fun _ _ _ _ _ => pts_nil)
      (fun _ _ _ _ _ => pe_op op_add_str (pe_op op_add_str (pe_callTy call_str_int (by rfl) W.nm.str boot_str (pa_cons (pv 1) pa_nil)) pe_str) (pe_callTy call_str_int (by rfl) W.nm.str boot_str (pa_cons (pv 2) pa_nil))))) pe_str)), ?_⟩
  refine ⟨_, rfl, by show 0 ≤ sizeLine; decide, fun l hl => ?_⟩
  have e1 : Ex H (upd H l (.lst [])) := Ex.new hl
  refine ⟨dT ts, .list [], (tl.mono e1).dp, .lst (SqL.of upd_same) .nil, sh_pairs _, sh_nil, _, rfl, ?_⟩
  rw [eqv_nil, ie_pairs]
  generalize upd H l (.lst []) = H1 at e1
  obtain ⟨ks, k1, k2, k3⟩ := tl.mono e1
  by_cases ne : ts = []
  · rw [show (!ts.isEmpty) = false by rw [ne]; rfl]
    refine iteF ?_
    have z := k _ e1
    rw [ne] at z
    exact z
  · rw [show (!ts.isEmpty) = true by cases ts with | nil => exact absurd rfl ne | cons => rfl]
    obtain ⟨n1, n2, n3⟩ := showT_ne ne sm
    have kl : ks.length = ts.length := by rw [← k1, List.length_map]
    refine iteT ⟨⟨_, rfl⟩, _, rfl, p, rfl, ⟨_, SqL.of k2⟩, fun D hD => lcT (K := K) (walk_ties (ks := ks)) (ks.map (·.2)) (fun a : Int × Int => V.int a.1) (fun a : Int × Int => V.int a.2) (fun a => V.str (tieS a)) (fun i H x H' hi y => y) (by rw [List.length_map]) (by omega) hD (fun H2 e2 => ⟨e2 _ _ k2, fun k hk => e2 _ _ (k3 k hk)⟩) (fun _ _ => rfl) (fun x hx H2 e2 Q2 q2 => ?_) (fun H2 e2 h2 => ?_)⟩
    · rw [k1] at hx
      obtain ⟨s1, s2⟩ := sm x hx
      have a1 := (nS_len s1).2
      have a2 := (nS_len s2).2
      have a3 : ("-" : Str).length = 1 := by decide +kernel
      refine ⟨_, rfl, x.1, rfl, log_small s1, _, _, rfl, rfl, by show (nS x.1).length + ("-" : Str).length ≤ sizeLine; rw [sizeLine_eq]; omega, _, rfl, x.2, rfl, log_small s2, _, _, rfl, rfl, by show (nS x.1 ++ ("-" : Str)).length + (nS x.2).length ≤ sizeLine; rw [len_app, sizeLine_eq]; omega, q2 _ (Ex.rfl' _)⟩
    · rw [k1] at h2
      refine ⟨_, D, ts.map tieS, rfl, rfl, .inl (SqL.of (by rw [h2, List.map_map]; rfl)), ?_, ?_⟩
      · have z := jn_bound (s := (" " : Str)) (l := ts.map tieS) (B := 81) (by decide +kernel) (by rw [List.length_map]; exact l70) (tieS_bound sm)
        omega
      · have z := k _ (e1.trans e2)
        rw [n2] at z
        exact z
def spReadTie : Sp := fun vs H Q _ => ∃ t : Int × Int, vs = [.str (tieS t)] ∧ Sm t.1 ∧ Sm t.2 ∧ ∀ q H', H q = none → Ex H H' → H' q = some (.tup [.int t.1, .int t.2]) → Q (.ref q) H'
theorem sc_read_tie : FnScope ["text", "parts"] ["text"] (defScope s_read_tie) := ⟨rfl, rfl, rfl, by decide +kernel, rfl, by decide +kernel, by decide +kernel⟩
theorem c_read_tie (W : Wd K mg) : Cal P w K mg base 2 "read_tie" spReadTie [] := by
  refine W.cal 30 sc_read_tie (fun vs H Q E ⟨t, e, _⟩ => by rw [e]; rfl) (fun f cdv A outer s H vs Q E hr ⟨t, e, s1, s2, k⟩ => ?_) (fun _ _ _ _ _ _ us hl => match us, hl with | [_], _ => rfl)
  subst e
  have nd := sc_read_tie.nd
  refine ⟨_, pss_cons (ps_set (i := 1) nd rfl (Or.inl rfl) (pe_split (pv 0) pe_str))
    (pss_cons (ps_if (pt_cmpR op_ne (p_len W.nm (pv 1)) pe_int (nomark _)) pss_never pss_nil)
    (pss_one (ps_ret (pe_tup (pa_cons (pe_c (c_read_number W) hr (by decide) (by rfl) (pa_cons (pe_ix ix_list (pv 1) pe_int (fun _ _ => rfl)) pa_nil)) (pa_cons (pe_c (c_read_number W) hr (by decide) (by rfl) (pa_cons (pe_ix ix_list (pv 1) pe_int (fun _ _ => rfl)) pa_nil)) pa_nil)))))), ?_⟩
  have tl := tie_len s1 s2
  refine ⟨_, rfl, ⟨_, rfl⟩, tieS t, _, rfl, rfl, by decide +kernel, by rw [sizeLine_eq]; omega, fun p hp => ?_⟩
  rw [tie_split s1.1 s2.1]
  have hl : (upd H p (.lst ([nS t.1, nS t.2].map V.str))) p = some (.lst [V.str (nS t.1), V.str (nS t.2)]) := upd_same
  have e1 : Ex H (upd H p (.lst ([nS t.1, nS t.2].map V.str))) := Ex.new hp
  generalize upd H p (.lst ([nS t.1, nS t.2].map V.str)) = H1 at hl e1
  refine ⟨_, rfl, p, _, rfl, .inl (SqL.of hl), rfl, false, rfl, iteF ?_⟩
  refine ⟨_, rfl, p, _, _, _, rfl, rfl, SqL.of hl, at0, t.1, rfl, s1, fun H2 e2 => ?_⟩
  refine ⟨_, rfl, p, _, _, _, rfl, rfl, SqL.of (e2 _ _ hl), at1, t.2, rfl, s2, fun H3 e3 => ⟨by show 2 ≤ sizeLine; decide, fun q hq => ?_⟩⟩
  have e13 := (e1.trans e2).trans e3
  exact k q _ (e13.free hq) (e13.trans (Ex.new hq)) upd_same
end
end Od

set_option Elab.async false
set_option linter.all false
set_option maxRecDepth 100000
set_option maxHeartbeats 4000000
/-! show_yard, read_yard -/
namespace Od
open PySem PySem.Spec PyProof.Rows L2
open C8 (Cal Met InsC pe_c pe_mt pe_mt0 call_isC)
section
variable {P : Program} {w : World} {K : PySem.W.Frag} {mg : Str → Option Value} {base : Heap}
theorem ok_ts {n : Nat} {ts : List (Int × Int)} {ws : List Int} {rs : List (List Int)} (ok : Odd.YOk n ts ws rs) : Ts ts ∧ ts.length ≤ 70 := by
  have h60 := ok.h60
  refine ⟨fun t ht => ?_, ?_⟩
  · obtain ⟨a, b, c⟩ := ok.tr.tie ht
    exact ⟨Sm.of60 a (by omega), Sm.of60 (by omega) (by omega)⟩
  · have := ok.tr.len
    omega
theorem ok_ws {n : Nat} {ts : List (Int × Int)} {ws : List Int} {rs : List (List Int)} (ok : Odd.YOk n ts ws rs) : (∀ x ∈ ws, Sm x) ∧ ws.length ≤ 60 := by
  have h60 := ok.h60
  refine ⟨fun x hx => ?_, ?_⟩
  · obtain ⟨a, b⟩ := ok.wr x hx
    exact Sm.of60 a (by omega)
  · have := Odd.up_len ws 0 n ok.wup ok.wr
    omega
def spShowYard (K : PySem.W.Frag) : Sp := fun vs H Q _ => ∃ y n ts ws rs, vs = [.ref y] ∧ YA K H y n ts ws rs ∧ Odd.YOk n ts ws rs ∧ ∀ H', Ex H H' → Q (.str (yText n ts ws)) H'
theorem sc_show_yard : FnScope ["yard"] ["yard"] (defScope s_show_yard) := ⟨rfl, rfl, rfl, by decide +kernel, rfl, by decide +kernel, by decide +kernel⟩
theorem c_show_yard (W : Wd K mg) : Cal P w K mg base 2 "show_yard" (spShowYard K) [] := by
  refine W.cal 31 sc_show_yard (fun vs H Q E ⟨y, n, ts, ws, rs, e, _⟩ => by rw [e]; rfl) (fun f cdv A outer s H vs Q E hr ⟨y, n, ts, ws, rs, e, ya, ok, k⟩ => ?_) (fun _ _ _ _ _ _ us hl => match us, hl with | [_], _ => rfl)
  subst e
  refine ⟨_, pss_one (ps_ret (pe_join pe_str (pe_lst (pa_cons (pe_callTy call_str_int (by rfl) W.nm.str boot_str (pa_cons (pe_mt0 (m_size W) hr (by decide) (pv 0)) pa_nil))
    (pa_cons (pe_c (c_show_ties W) hr (by decide) (by rfl) (pa_cons (pe_mt0 (m_ties W) hr (by decide) (pv 0)) pa_nil))
    (pa_cons (pe_c (c_show_posts W) hr (by decide) (by rfl) (pa_cons (pe_mt0 (m_wired W) hr (by decide) (pv 0)) pa_nil)) pa_nil)))))), ?_⟩
  obtain ⟨dx, pt, pw, pn, hy, _⟩ := id ya
  obtain ⟨t1, t2⟩ := ok_ts ok
  obtain ⟨w1, w2⟩ := ok_ws ok
  have h60 := ok.h60
  have sn : Sm (n : Int) := Sm.of60 (Int.natCast_nonneg n) (by omega)
  refine ⟨⟨_, rfl⟩, _, rfl, y, dx, _, rfl, hy, rfl, y, n, ts, ws, rs, rfl, ya, n, rfl, log_small sn, ?_⟩
  refine ⟨_, rfl, y, dx, _, rfl, hy, rfl, y, n, ts, ws, rs, rfl, ya, fun q1 H1 hq1 e1 tl => ⟨q1, ts, rfl, tl, t2, t1, fun H2 e2 => ?_⟩⟩
  have e12 := e1.trans e2
  refine ⟨_, rfl, y, dx, _, rfl, e12 _ _ hy, rfl, y, n, ts, ws, rs, rfl, ya.mono e12, fun q3 H3 hq3 e3 wl => ⟨q3, ws, rfl, wl, by omega, w1, fun H4 e4 => ?_⟩⟩
  refine ⟨by show 3 ≤ sizeLine; decide, fun l hl => ?_⟩
  refine ⟨_, l, [nS (n : Int), showT ts, showP ws], rfl, rfl, .inl (SqL.of upd_same), ?_, k _ ((e12.trans (e3.trans e4)).trans (Ex.new hl))⟩
  have z := (y_len (n := n) (by omega) t1 w1 t2 (by omega)).1
  have e : [nS (n : Int), showT ts, showP ws].length = 3 := rfl
  rw [e]
  omega
theorem cps {b : Bool} {FA FB : VK → Prop} {Q : VK} (G : VK → Prop) (h1 : b = true → ∀ Q, G Q → FA Q) (h2 : b = false → ∀ Q, G Q → FB Q) (g : G Q) : if b = true then FA Q else FB Q := by
  cases b with
  | true => rw [if_pos rfl]; exact h1 rfl Q g
  | false => rw [if_neg (by simp)]; exact h2 rfl Q g
/-! ### how a yard is made -/
theorem make_rd {H2 : Hp} {x dx pt pw : Addr} {n : Nat} {ts : List (Int × Int)} {ws : List Int} {R : Hp → Prop} (hx : H2 x = none) (hdx : H2 dx = none) (ne : dx ≠ x) (tl : TL H2 pt ts) (lt : LT H2 pw ws) (h1 : 1 ≤ n) (h60 : n ≤ 60) (tr : Odd.IsTree n ts) (wr : ∀ z ∈ ws, 0 ≤ z ∧ z < n) (wn : ws.Nodup) (w64 : ws.length < 64)
    (k : ∀ H' us ms rs, Ex H2 H' → us.Perm ts → ms.Perm ws → Odd.YOk n us ms rs → YA K H' x n us ms rs → R H') :
    spInit K [.ref x, .int n, .ref pt, .ref pw] (upd (upd H2 dx (.own x)) x (.ins (CY K) dx [])) (fun v H3 => v = .non ∧ R H3) C8.E0 := by
  have e1 : Ex H2 (upd (upd H2 dx (.own x)) x (.ins (CY K) dx [])) := (Ex.new hdx).trans (Ex.new (by rw [upd_ne ne.symm]; exact hx))
  refine ⟨x, dx, n, pt, pw, ts, ws, rfl, upd_same, tl.mono e1, lt.mono e1, h1, h60, tr, wr, wn, w64, fun H' us ms rs kp pu pm ok ya => ⟨rfl, k H' us ms rs (fun a o ha => kp a o (fun e => by rw [e, hx] at ha; cases ha) (e1 a o ha)) pu pm ok ya⟩⟩
theorem tup_paired {H : Hp} : ∀ {l : List (Int × Int)} {qs : List Addr}, Paired (fun (a : Int × Int) q => ∃ o, H q = some o ∧ o = HO.tup [V.int a.1, V.int a.2]) l qs → ∃ ks : List (Addr × (Int × Int)), ks.map (·.2) = l ∧ ks.map (fun k => V.ref k.1) = qs.map V.ref ∧ ∀ k ∈ ks, H k.1 = some (.tup [.int k.2.1, .int k.2.2]) := by
  intro l qs h
  induction h with
  | nil => exact ⟨[], rfl, rfl, by simp⟩
  | @cons a q as qs r t ih =>
    obtain ⟨o, ho, rfl⟩ := r
    obtain ⟨ks, e1, e2, e3⟩ := ih
    refine ⟨(q, a) :: ks, by rw [List.map_cons, e1], by rw [List.map_cons, e2]; rfl, fun k hk => ?_⟩
    rcases List.mem_cons.mp hk with e | hk
    · rw [e]; exact ho
    · exact e3 k hk
theorem y_tstrs {ts : List (Int × Int)} : ∀ i (H : Hp) x (H' : Hp), i < ((ts.map tieS).map V.str).length → YAt ((ts.map tieS).map V.str) i H x H' → H' = H ∧ ∃ a, ts[i]? = some a ∧ x = (fun a => V.str (tieS a)) a := by
  intro i H x H' hi y
  rw [List.map_map] at hi y
  exact y_map (as := ts) (inj := V.str ∘ tieS) i H x H' hi y
def spReadYard (K : PySem.W.Frag) : Sp := fun vs H Q _ => ∃ n ts ws rs, vs = [.str (yText n ts ws)] ∧ Odd.YOk n ts ws rs ∧ ∀ x H' rs', H x = none → Ex H H' → YA K H' x n ts ws rs' → Odd.YOk n ts ws rs' → Q (.ref x) H'
theorem sc_read_yard : FnScope ["text", "parts", "ties", "yard", "word"] ["text"] (defScope s_read_yard) := ⟨rfl, rfl, rfl, by decide +kernel, rfl, by decide +kernel, by decide +kernel⟩
theorem c_read_yard (W : Wd K mg) : Cal P w K mg base 7 "read_yard" (spReadYard K) [] := by
  refine W.cal 32 sc_read_yard (fun vs H Q E ⟨n, ts, ws, rs, e, _⟩ => by rw [e]; rfl) (fun f cdv A outer s H vs Q E hr ⟨n, ts, ws, rs, e, ok, k⟩ => ?_) (fun _ _ _ _ _ _ us hl => match us, hl with | [_], _ => rfl)
  subst e
  have nd := sc_read_yard.nd
  obtain ⟨fY, fdY, MY, FY, BY⟩ := (mk_yard (P := P) (w := w) (base := base) W).ex
  refine ⟨_, pss_cons (ps_if (pt_not (pt_val (p_isi W.nm.str boot_str W.nm (pv 0)))) pss_never pss_nil)
    (pss_cons (ps_set (i := 1) nd rfl (Or.inl rfl) (pe_split (pv 0) pe_str))
    (pss_cons (ps_if (pt_cmpR op_ne (p_len W.nm (pv 1)) pe_int (nomark _)) pss_never pss_nil)
    (pss_cons (ps_set (i := 2) nd rfl (Or.inl rfl) (pe_ifExp (pt_cmpR op_eq (pe_ix ix_list (pv 1) pe_int (fun _ _ => rfl)) pe_str (nomark _)) (pe_lst pa_nil)
      (pe_lc (own := [("word", 4)]) (g := gName 4) (tt := tYes) rfl nd (pi_list (pe_split (pe_ix ix_list (pv 1) pe_int (fun _ _ => rfl)) pe_str)) (blkOk_by (N := ["text", "parts", "ties", "yard", "word"]) (sc := defScope s_read_yard) (by decide +kernel))
        (fun _ _ _ _ _ => pg_name (i := 4) nd rfl (Or.inl rfl)) (fun _ _ _ _ _ => pts_nil) (fun _ _ _ _ _ => pe_c (c_read_tie W) hr (by decide) (by rfl) (pa_cons (pv 4) pa_nil)))))
    (pss_cons (ps_try_thru0 (pss_one (ps_set (i := 3) nd rfl (Or.inl rfl) (pe_makeK (E := C8.E0) MY FY (hr.mono (by decide)) (by rfl) (W.g "Yard" (List.mem_of_getElem? (i := 52) rfl)) BY C8.pass0 (pa_cons (pe_c (c_read_number W) hr (by decide) (by rfl) (pa_cons (pe_ix ix_list (pv 1) pe_int (fun _ _ => rfl)) pa_nil)) (pa_cons (pv 2) pa_nil))
        (pk_cons (pe_c (c_read_numbers W) hr (by decide) (by rfl) (pa_cons (pe_ix ix_list (pv 1) pe_int (fun _ _ => rfl)) pa_nil)) pk_nil)))))
    (pss_cons (ps_if (pt_cmpR op_ne (pe_c (c_show_yard W) hr (by decide) (by rfl) (pa_cons (pv 3) pa_nil)) (pv 0) (nomark _)) pss_never pss_nil)
    (pss_one (ps_ret (pv 3)))))))), ?_⟩
  obtain ⟨t1, t2⟩ := ok_ts ok
  obtain ⟨w1, w2⟩ := ok_ws ok
  have h60 := ok.h60
  have sn : Sm (n : Int) := Sm.of60 (Int.natCast_nonneg n) (by omega)
  have yl := (y_len (n := n) (by omega) t1 w1 t2 (by omega : ws.length ≤ 70)).2
  refine ⟨_, rfl, _, _, _, _, _, rfl, .ty _, .base (.str _), kit_ty (b := "str") (r := true) (by decide +kernel), true, rfl, iteF ?_⟩
  refine ⟨_, rfl, ⟨_, rfl⟩, yText n ts ws, _, rfl, rfl, by decide +kernel, by rw [sizeLine_eq]; omega, fun p hp => ?_⟩
  rw [y_split t1 w1]
  have hl : (upd H p (.lst ([nS (n : Int), showT ts, showP ws].map V.str))) p = some (.lst [V.str (nS (n : Int)), V.str (showT ts), V.str (showP ws)]) := upd_same
  have e1 : Ex H (upd H p (.lst ([nS (n : Int), showT ts, showP ws].map V.str))) := Ex.new hp
  generalize upd H p (.lst ([nS (n : Int), showT ts, showP ws].map V.str)) = H1 at hl e1
  have g2 : atI [V.str (nS (n : Int)), V.str (showT ts), V.str (showP ws)] 2 = some (V.str (showP ws)) := atI_nat (j := 2) rfl
  refine ⟨_, rfl, p, _, rfl, .inl (SqL.of hl), rfl, false, rfl, iteF ?_⟩
  refine ⟨_, rfl, p, _, _, _, rfl, rfl, SqL.of hl, at1, rfl, _, rfl, ?_⟩
  rw [dstr]
  -- the rest, from the ties on
  refine cps (fun Q => ∀ (pt : Addr) (H2 : Hp), Ex H1 H2 → TL H2 pt ts → Q (.ref pt) H2) (fun hb Q2 rest => ?_) (fun hb Q2 rest => ?_) (fun pt H2 e2 tl => ?_)
  · have c : ts = [] := by
      by_cases c : ts = []
      · exact c
      · exact absurd (of_decide_eq_true hb) (showT_ne c t1).1
    exact ⟨by show 0 ≤ sizeLine; decide, fun l hl' => rest l _ (Ex.new hl') ⟨[], by rw [c]; rfl, upd_same, by simp⟩⟩
  · have c : ts ≠ [] := fun c => by rw [c] at hb; exact absurd hb (by decide)
    · obtain ⟨n1, n2, n3⟩ := showT_ne c t1
      have ll := showT_len t2 t1
      refine ⟨_, rfl, p, _, _, _, rfl, rfl, SqL.of hl, at1, ⟨_, rfl⟩, showT ts, _, rfl, rfl, by decide +kernel, by rw [sizeLine_eq]; omega, fun p2 hp2 => ?_⟩
      rw [n2, showT_split c t1]
      have hl2 : (upd H1 p2 (.lst ((ts.map tieS).map V.str))) p2 = some (.lst ((ts.map tieS).map V.str)) := upd_same
      have e2 : Ex H1 (upd H1 p2 (.lst ((ts.map tieS).map V.str))) := Ex.new hp2
      generalize upd H1 p2 (.lst ((ts.map tieS).map V.str)) = H2 at hl2 e2
      refine ⟨p2, rfl, ⟨_, SqL.of hl2⟩, fun D hD => lcO1 walk_list ts (fun a => V.str (tieS a)) (fun a o => o = HO.tup [V.int a.1, V.int a.2]) y_tstrs (by rw [List.length_map, List.length_map]) (by rw [List.length_map, List.length_map]; omega) hD (fun H3 e3 => SqL.of (e3 _ _ hl2)) (fun _ => rfl) (fun t ht H3 e3 Q3 q3 => ?_) (fun H3 qs e3 h3 h4 h5 h6 => ?_)⟩
      · exact ⟨_, rfl, t, rfl, (t1 t ht).1, (t1 t ht).2, fun q H4 hq e4 h4 => q3 q _ H4 hq e4 h4 rfl⟩
      · obtain ⟨ks, k1, k2, k3⟩ := tup_paired h6
        exact rest D H3 (e2.trans e3) ⟨ks, k1, by rw [h3, k2], k3⟩
  · refine ⟨_, rfl, p, _, _, _, rfl, rfl, SqL.of (e2 _ _ hl), at0, n, rfl, sn, fun H3 e3 => ?_⟩
    have e23 := e2.trans e3
    refine ⟨_, rfl, _, rfl, p, _, _, _, rfl, rfl, SqL.of (e23 _ _ hl), g2, ws, rfl, by omega, w1, fun pw H4 hpw e4 wl => ⟨rfl, rfl, fun x dx hx hdx nex => ?_⟩⟩
    have e24 := e23.trans e4
    refine make_rd hx hdx nex ((tl.mono e3).mono e4) (.inl wl) ok.h1 ok.h60 ok.tr ok.wr (lt_nodup ok.wup) (by omega) fun H5 us ms rs' e5 pu pm ok' ya => ?_
    have eu : us = ts := Odd.srt_uniq pu ok'.so ok.so
    have em : ms = ws := up_unique pm (lt_le ok'.wup) (lt_le ok.wup)
    subst eu em
    refine ⟨_, rfl, x, n, us, ms, rs', rfl, ya, ok', fun H6 e6 => ⟨_, rfl, rfl, _, rfl, ?_⟩⟩
    rw [dstr, decide_eq_true rfl]
    exact iteF ⟨_, rfl, k x H6 rs' ((e1.trans e24).free hx) (((e1.trans e24).trans e5).trans e6) (ya.mono e6) ok'⟩
end
end Od

set_option Elab.async false
set_option linter.all false
set_option maxRecDepth 100000
set_option maxHeartbeats 4000000
/-! deeds and classes: is_number, are_numbers, is_deed, show_deed, read_deed, show_class -/
namespace Od
open PySem PySem.Spec PyProof.Rows L2
open C8 (Cal Met InsC pe_c pe_mt pe_mt0 call_isC)
inductive Deed where
  | flip (ns : List Int)
  | grow (k : Int) (b : Bool)
  | one (w : Str) (k : Int)
def DA (H : Hp) (t : Addr) : Deed → Prop
  | .flip ns => ∃ p, H t = some (.tup [.str "flip", .ref p]) ∧ IL H p ns
  | .grow k b => H t = some (.tup [.str "grow", .int k, .bl b])
  | .one w k => H t = some (.tup [.str w, .int k])
def Wo (w : Str) : Prop := w = ("press" : Str) ∨ w = ("fell" : Str) ∨ w = ("wire" : Str)
def DOk : Deed → Prop
  | .flip ns => ns ≠ [] ∧ ns.length ≤ 69 ∧ (∀ x ∈ ns, Sm x) ∧ ns.Pairwise (· < ·)
  | .grow k _ => Sm k
  | .one w k => Wo w ∧ Sm k
def dText : Deed → Str
  | .flip ns => ("flip " : Str) ++ showP ns
  | .grow k b => (("grow " : Str) ++ nS k) ++ (if b = true then (" wired" : Str) else Str.empty)
  | .one w k => (w ++ (" " : Str)) ++ nS k
def dParts : Deed → List Str
  | .flip ns => ("flip" : Str) :: ns.map nS
  | .grow k true => [("grow" : Str), nS k, ("wired" : Str)]
  | .grow k false => [("grow" : Str), nS k]
  | .one w k => [w, nS k]
theorem DA.mono {H H' : Hp} {t : Addr} {d : Deed} (h : DA H t d) (e : Ex H H') : DA H' t d := by
  cases d with
  | flip ns => obtain ⟨p, a, b⟩ := h; exact ⟨p, e _ _ a, e _ _ b⟩
  | grow k b => exact e _ _ h
  | one w k => exact e _ _ h
theorem d_jn {d : Deed} (ok : DOk d) : dText d = jn (" " : Str) (dParts d) := by
  cases d with
  | flip ns =>
    obtain ⟨ne, _, sm, _⟩ := ok
    show ("flip " : Str) ++ showP ns = jn (" " : Str) (("flip" : Str) :: ns.map nS)
    rw [(showP_ne ne sm).2.1]
    cases ns with
    | nil => exact absurd rfl ne
    | cons a r =>
      rw [List.map_cons, jn_cons, ← app_assoc]
      congr 1
  | grow k b =>
    cases b with
    | true =>
      show (("grow " : Str) ++ nS k) ++ (" wired" : Str) = jn (" " : Str) [("grow" : Str), nS k, ("wired" : Str)]
      rw [jn_cons, jn_cons, jn_one, ← app_assoc, ← app_assoc]
      have a : ("grow " : Str) = ("grow" : Str) ++ (" " : Str) := by decide +kernel
      have b : (" wired" : Str) = (" " : Str) ++ ("wired" : Str) := by decide +kernel
      rw [a, b, app_assoc, app_assoc]
    | false =>
      show (("grow " : Str) ++ nS k) ++ Str.empty = jn (" " : Str) [("grow" : Str), nS k]
      rw [app_empty, jn_cons, jn_one, ← app_assoc]
      congr 1
  | one w k =>
    show (w ++ (" " : Str)) ++ nS k = jn (" " : Str) [w, nS k]
    rw [jn_cons, jn_one, app_assoc]
theorem wo_free {w : Str} (h : Wo w) : 32 ∉ tL w := by
  rcases h with rfl | rfl | rfl <;> decide +kernel
theorem d_free {d : Deed} (ok : DOk d) : ∀ a ∈ dParts d, 32 ∉ tL a := by
  have fl : 32 ∉ tL ("flip" : Str) := by decide +kernel
  have gr : 32 ∉ tL ("grow" : Str) := by decide +kernel
  have wi : 32 ∉ tL ("wired" : Str) := by decide +kernel
  have nf : ∀ {k : Int}, Sm k → 32 ∉ tL (nS k) := fun h => free_nS h.1 (by decide)
  intro a ha
  cases d with
  | flip ns =>
    rcases List.mem_cons.mp ha with e | ha
    · rw [e]; exact fl
    · obtain ⟨x, hx, rfl⟩ := List.mem_map.mp ha
      exact nf (ok.2.2.1 x hx)
  | grow k b =>
    have ok : Sm k := ok
    cases b with
    | true =>
      rcases List.mem_cons.mp ha with e | ha
      · rw [e]; exact gr
      · rcases List.mem_cons.mp ha with e | ha
        · rw [e]; exact nf ok
        · rw [List.mem_singleton.mp ha]; exact wi
    | false =>
      rcases List.mem_cons.mp ha with e | ha
      · rw [e]; exact gr
      · rw [List.mem_singleton.mp ha]; exact nf ok
  | one w k =>
    rcases List.mem_cons.mp ha with e | ha
    · rw [e]; exact wo_free ok.1
    · rw [List.mem_singleton.mp ha]; exact nf ok.2
theorem d_split {d : Deed} (ok : DOk d) : Txt.split (dText d) (" " : Str) = dParts d := by
  rw [d_jn ok]
  refine split_sp ?_ (d_free ok)
  cases d with
  | flip ns => exact List.cons_ne_nil _ _
  | grow k b => cases b <;> exact List.cons_ne_nil _ _
  | one w k => exact List.cons_ne_nil _ _
theorem wo_len {w : Str} (h : Wo w) : w.length ≤ 5 := by
  rcases h with rfl | rfl | rfl <;> decide +kernel
theorem d_len {d : Deed} (ok : DOk d) : (dText d).length ≤ 4000 := by
  cases d with
  | flip ns =>
    have a := showP_len (l := ns) (by have := ok.2.1; omega) ok.2.2.1
    show (("flip " : Str) ++ showP ns).length ≤ 4000
    rw [len_app]
    have : ("flip " : Str).length = 5 := by decide +kernel
    omega
  | grow k b =>
    have a := (nS_len (show Sm k from ok)).2
    show ((("grow " : Str) ++ nS k) ++ (if b = true then (" wired" : Str) else Str.empty)).length ≤ 4000
    rw [len_app, len_app]
    have : ("grow " : Str).length = 5 := by decide +kernel
    have c : (if b = true then (" wired" : Str) else Str.empty).length ≤ 6 := by cases b <;> decide +kernel
    omega
  | one w k =>
    have a := (nS_len ok.2).2
    have b := wo_len ok.1
    show ((w ++ (" " : Str)) ++ nS k).length ≤ 4000
    rw [len_app, len_app]
    have : (" " : Str).length = 1 := by decide +kernel
    omega
/-! ### classes -/
abbrev Part := Str ⊕ Int
def pV : Part → V
  | .inl s => .str s
  | .inr i => .int i
def pT : Part → Str
  | .inl s => s
  | .inr i => nS i
def POk : Part → Prop
  | .inl s => s.length ≤ 40
  | .inr i => Sm i
theorem pT_len {c : Part} (h : POk c) : (pT c).length ≤ 40 := by
  cases c with
  | inl s => exact h
  | inr i => exact (nS_len h).2
def cText (cs : List Part) : Str := jn (" " : Str) (cs.map pT)
section
variable {P : Program} {w : World} {K : PySem.W.Frag} {mg : Str → Option Value} {base : Heap}
theorem call_str_part {X : Cx} : CallR X (.type "str") (fun xs H Q => ∃ c : Part, xs = [pV c] ∧ POk c ∧ Q (.str (pT c)) H) := by
  rintro pins s σ H xs us Q I r ⟨c, rfl, ok, q⟩
  cases c with
  | inl a => exact SkE.call_str_str pins s σ H [.str a] us Q I r ⟨a, rfl, q⟩
  | inr i => exact call_str_int pins s σ H [.int i] us Q I r ⟨i, rfl, log_small ok, q⟩
def spShowClass : Sp := fun vs H Q _ => ∃ (q : Addr) (cs : List Part), vs = [.ref q] ∧ H q = some (.tup (cs.map pV)) ∧ cs.length ≤ 3 ∧ (∀ c ∈ cs, POk c) ∧ ∀ H', Ex H H' → Q (.str (cText cs)) H'
theorem sc_show_class : FnScope ["found", "part"] ["found"] (defScope s_show_class) := ⟨rfl, rfl, rfl, by decide +kernel, rfl, by decide +kernel, by decide +kernel⟩
theorem c_show_class (W : Wd K mg) : Cal P w K mg base 1 "show_class" spShowClass [] := by
  refine W.cal 35 sc_show_class (fun vs H Q E ⟨q, cs, e, _⟩ => by rw [e]; rfl) (fun f cdv A outer s H vs Q E hr ⟨q, cs, e, hq, l3, ok, k⟩ => ?_) (fun _ _ _ _ _ _ us hl => match us, hl with | [_], _ => rfl)
  subst e
  have nd := sc_show_class.nd
  refine ⟨_, pss_one (ps_ret (pe_join pe_str (pe_lc (own := [("part", 1)]) (g := gName 1) (tt := tYes) rfl nd (pi_tup (pv 0)) (blkOk_by (N := ["found", "part"]) (sc := defScope s_show_class) (by decide +kernel))
      (fun _ _ _ _ _ => pg_name (i := 1) nd rfl (Or.inl rfl)) (fun _ _ _ _ _ => pts_nil) (fun _ _ _ _ _ => pe_callTy call_str_part (by rfl) W.nm.str boot_str (pa_cons (pv 1) pa_nil))))), ?_⟩
  refine ⟨⟨_, rfl⟩, _, rfl, q, rfl, ⟨_, SqT.of hq⟩, fun D hD => lcS1 walk_tup cs pV (fun c => V.str (pT c)) y_map (by rw [List.length_map]) (by rw [List.length_map]; omega) hD (fun H2 e2 => SqT.of (e2 _ _ hq)) (fun _ => rfl) (fun c hc H2 e2 Q2 q2 => ⟨_, rfl, c, rfl, ok c hc, q2 _ (Ex.rfl' _)⟩) (fun H2 e2 h2 => ?_)⟩
  refine ⟨_, D, cs.map pT, rfl, rfl, .inl (SqL.of (by rw [h2, List.map_map]; rfl)), ?_, k _ e2⟩
  have z := jn_bound (s := (" " : Str)) (l := cs.map pT) (B := 40) (by decide +kernel) (by rw [List.length_map]; omega) (fun a ha => by obtain ⟨c, hc, rfl⟩ := List.mem_map.mp ha; exact pT_len (ok c hc))
  omega
/-! ### numbers -/
def spIsNumber : Sp := fun vs H Q _ => ∃ i : Int, vs = [.int i] ∧ 0 ≤ i ∧ ∀ H', Ex H H' → Q (.bl true) H'
theorem sc_is_number : FnScope ["thing"] ["thing"] (defScope s_is_number) := ⟨rfl, rfl, rfl, by decide +kernel, rfl, by decide +kernel, by decide +kernel⟩
theorem c_is_number (W : Wd K mg) : Cal P w K mg base 2 "is_number" spIsNumber [] := by
  refine W.cal 22 sc_is_number (fun vs H Q E ⟨i, e, _⟩ => by rw [e]; rfl) (fun f cdv A outer s H vs Q E hr ⟨i, e, h0, k⟩ => ?_) (fun _ _ _ _ _ _ us hl => match us, hl with | [_], _ => rfl)
  subst e
  refine ⟨_, pss_one (ps_ret (pe_and (pe_c (c_is_integer W) hr (by decide) (by rfl) (pa_cons (pv 0) pa_nil)) (pe_one (pe_cmpR op_ge (pv 0) pe_int (nomark _))))), ?_⟩
  exact ⟨_, rfl, i, rfl, fun H1 e1 => ⟨true, rfl, iteT ⟨_, rfl, _, _, rfl, rfl, q_t (Q := Q) h0 (k _ e1)⟩⟩⟩
theorem cut_from1 (xs : List V) : cutV xs (some 1) none = xs.drop 1 := by
  unfold cutV
  have e : HT.sIx xs.length 0 (some 1) = min 1 xs.length := HT.sIx_nat xs.length 0 1
  rw [e, HT.sIx_none]
  cases xs with
  | nil => rfl
  | cons a r =>
    have e2 : min 1 (a :: r).length = 1 := by rw [List.length_cons]; omega
    rw [e2]
    show (r.take ((a :: r).length - 1)) = r
    rw [List.length_cons, Nat.add_sub_cancel, List.take_length]
theorem zip_up : ∀ {l : List Int}, l.Pairwise (· < ·) → ∀ p ∈ l.zip (l.drop 1), p.1 < p.2
  | [], _, p, h => by simp at h
  | [a], _, p, h => by simp at h
  | a :: b :: r, up, p, h => by
    have q := List.pairwise_cons.mp up
    have h : p ∈ (a, b) :: (b :: r).zip ((b :: r).drop 1) := h
    rcases List.mem_cons.mp h with e | h
    · rw [e]; exact q.1 b (by simp)
    · exact zip_up q.2 p h
def spAreNumbers : Sp := fun vs H Q _ => ∃ (p : Addr) (ns : List Int), vs = [.ref p] ∧ IL H p ns ∧ ns ≠ [] ∧ ns.length ≤ 70 ∧ (∀ x ∈ ns, 0 ≤ x) ∧ ns.Pairwise (· < ·) ∧ ∀ H', Ex H H' → Q (.bl true) H'
theorem sc_are_numbers : FnScope ["thing", "one", "other"] ["thing"] (defScope s_are_numbers) := ⟨rfl, rfl, rfl, by decide +kernel, rfl, by decide +kernel, by decide +kernel⟩
theorem all_of {α : Type} {l : List α} {f : α → Bool} (h : ∀ a ∈ l, f a = true) : (l.map f).all id = true := by
  rw [List.all_eq_true]
  intro b hb
  obtain ⟨a, ha, rfl⟩ := List.mem_map.mp hb
  exact h a ha
theorem c_are_numbers (W : Wd K mg) : Cal P w K mg base 3 "are_numbers" spAreNumbers [] := by
  refine W.cal 23 sc_are_numbers (fun vs H Q E ⟨p, ns, e, _⟩ => by rw [e]; rfl) (fun f cdv A outer s H vs Q E hr ⟨p, ns, e, il, ne, l70, h0, up, k⟩ => ?_) (fun _ _ _ _ _ _ us hl => match us, hl with | [_], _ => rfl)
  subst e
  have nd := sc_are_numbers.nd
  refine ⟨_, pss_cons (ps_if (PW.pt (pw_or (pt_not (pt_val (p_isi W.nm.list boot_list W.nm (pv 0)))) (pw_or (pt_cmpR (op_eqD hr.units) (pv 0) (pe_lst pa_nil) (nomark _))
      (pw_or1 (pt_not (pt_val (pe_callB (cr_all rfl) (by rfl) W.nm.all boot_all (pa_cons (pe_lc (own := [("one", 1)]) (g := gName 1) (tt := tYes) rfl nd (pi_list (pv 0)) (blkOk_by (N := ["thing", "one", "other"]) (sc := defScope s_are_numbers) (by decide +kernel))
        (fun _ _ _ _ _ => pg_name (i := 1) nd rfl (Or.inl rfl)) (fun _ _ _ _ _ => pts_nil) (fun _ _ _ _ _ => pe_c (c_is_number W) hr (by decide) (by rfl) (pa_cons (pv 1) pa_nil))) pa_nil)))))))) (pss_one (ps_ret pe_bl)) pss_nil)
    (pss_one (ps_ret (pe_callB (cr_all rfl) (by rfl) W.nm.all boot_all (pa_cons (pe_lc (own := [("one", 1), ("other", 2)]) (g := gTup K 2 (gCons (gName 1) (gCons (gName 2) gNil))) (tt := tYes) rfl nd (pi_zip (by rfl) W.nm.zip (pa_cons (pv 0) (pa_cons (pe_slice sl_list (pv 0) (po_some pe_int) po_none) pa_nil))) (blkOk_by (N := ["thing", "one", "other"]) (sc := defScope s_are_numbers) (by decide +kernel))
        (fun _ _ _ _ _ => kTupG (K := K) rfl rfl (pgs_cons (pg_name (i := 1) nd rfl (Or.inl rfl)) (pgs_cons (pg_name (i := 2) nd rfl (Or.inl rfl)) pgs_nil))) (fun _ _ _ _ _ => pts_nil) (fun _ _ _ _ _ => pe_cmpR op_lt (pv 1) (pv 2) (nomark _))) pa_nil)))), ?_⟩
  refine ⟨_, rfl, _, _, _, _, _, rfl, .ty _, .base (.lst il), kit_ty (b := "list") (r := true) (by decide +kernel), true, rfl, iteF ?_⟩
  refine ⟨_, rfl, by show 0 ≤ sizeLine; decide, fun l hl => ?_⟩
  have e1 : Ex H (upd H l (.lst [])) := Ex.new hl
  refine ⟨dI ns, .list [], dp_ints (SqL.of (e1 _ _ il)), .lst (SqL.of upd_same) .nil, sh_ints _, sh_nil, _, rfl, ?_⟩
  rw [eqv_nil, ie_ints, show ns.isEmpty = false by cases ns with | nil => exact absurd rfl ne | cons => rfl]
  generalize upd H l (.lst []) = H1 at e1
  have il1 := e1 _ _ il
  refine iteF ⟨_, rfl, p, rfl, ⟨_, SqL.of il1⟩, fun D hD => lcS1 walk_list ns V.int (fun _ => V.bl true) y_map (by rw [List.length_map]) (by rw [List.length_map]; omega) hD (fun H2 e2 => SqL.of (e2 _ _ il1)) (fun _ => rfl) (fun x hx H2 e2 Q2 q2 => ⟨_, rfl, x, rfl, h0 x hx, q2⟩) (fun H2 e2 h2 => ?_)⟩
  refine ⟨D, ns.map fun _ => true, rfl, SqL.of (by rw [h2, List.map_map]; rfl), true, by rw [all_true], iteF ?_⟩
  have e12 := e1.trans e2
  have il2 := e2 _ _ il1
  refine ⟨_, rfl, _, rfl, _, rfl, p, _, rfl, SqL.of il2, fun p3 hp3 => ?_⟩
  rw [cut_from1, ← List.map_drop]
  have e3 : Ex H2 (upd H2 p3 (.lst ((ns.drop 1).map V.int))) := Ex.new hp3
  have h3 : (upd H2 p3 (.lst ((ns.drop 1).map V.int))) p3 = some (.lst ((ns.drop 1).map V.int)) := upd_same
  generalize upd H2 p3 (.lst ((ns.drop 1).map V.int)) = H3 at e3 h3
  have il3 := e3 _ _ il2
  refine ⟨p, p3, _, _, rfl, SqL.of il3, SqL.of h3, fun D4 hD4 => lcT (K := K) (walk_zip (xs := ns.map V.int) (ys := (ns.drop 1).map V.int) (n := min ns.length (ns.drop 1).length) (by rw [List.length_map, List.length_map])) (ns.zip (ns.drop 1)) (fun a => V.int a.1) (fun a => V.int a.2) (fun a => V.bl (decide (a.1 < a.2))) y_zip (by rw [List.length_zip]) (by omega) hD4 (fun H4 e4 => ⟨SqL.of (e4 _ _ il3), SqL.of (e4 _ _ h3)⟩) (fun _ _ => rfl) (fun a ha H4 e4 Q4 q4 => ?_) (fun H4 e4 h4 => ?_)⟩
  · exact ⟨_, rfl, _, rfl, _, _, rfl, rfl, q4 _ (Ex.rfl' _)⟩
  · refine ⟨D4, (ns.zip (ns.drop 1)).map fun a => decide (a.1 < a.2), rfl, SqL.of (by rw [h4, List.map_map]; rfl), ?_⟩
    rw [all_of fun a ha => decide_eq_true (zip_up up a ha)]
    exact k _ ((e12.trans e3).trans e4)
end
end Od

set_option Elab.async false
set_option linter.all false
set_option maxRecDepth 100000
set_option maxHeartbeats 4000000
/-! is_deed, show_deed, read_deed -/
namespace Od
open PySem PySem.Spec PyProof.Rows L2
open C8 (Cal Met InsC pe_c pe_mt pe_mt0 call_isC)
section
variable {P : Program} {w : World} {K : PySem.W.Frag} {mg : Str → Option Value} {base : Heap}
theorem at2 {a b c : V} {r : List V} : atI (a :: b :: c :: r) 2 = some c := atI_nat (j := 2) rfl
theorem wo_nf {w : Str} (h : Wo w) : w ≠ ("flip" : Str) ∧ w ≠ ("grow" : Str) := by
  rcases h with rfl | rfl | rfl <;> decide +kernel
def spIsDeed : Sp := fun vs H Q _ => ∃ (t : Addr) (d : Deed), vs = [.ref t] ∧ DA H t d ∧ DOk d ∧ ∀ H', Ex H H' → Q (.bl true) H'
theorem sc_is_deed : FnScope ["thing"] ["thing"] (defScope s_is_deed) := ⟨rfl, rfl, rfl, by decide +kernel, rfl, by decide +kernel, by decide +kernel⟩
theorem c_is_deed (W : Wd K mg) : Cal P w K mg base 4 "is_deed" spIsDeed [] := by
  refine W.cal 24 sc_is_deed (fun vs H Q E ⟨t, d, e, _⟩ => by rw [e]; rfl) (fun f cdv A outer s H vs Q E hr ⟨t, d, e, da, ok, k⟩ => ?_) (fun _ _ _ _ _ _ us hl => match us, hl with | [_], _ => rfl)
  subst e
  refine ⟨_, pss_cons (ps_if (PW.pt (pw_or (pt_not (pt_val (p_isi W.nm.tuple boot_tuple W.nm (pv 0)))) (pw_or (pt_cmpR op_lt (p_len W.nm (pv 0)) pe_int (nomark _)) (pw_or1 (pt_not (pt_val (p_isi W.nm.str boot_str W.nm (pe_ix ix_tup (pv 0) pe_int (fun _ _ => rfl))))))))) (pss_one (ps_ret pe_bl)) pss_nil)
    (pss_cons (ps_if (pt_cmpR op_eq (pe_ix ix_tup (pv 0) pe_int (fun _ _ => rfl)) pe_str (nomark _)) (pss_one (ps_ret (pe_and (pe_cmpR op_eq (p_len W.nm (pv 0)) pe_int (nomark _)) (pe_one (pe_c (c_are_numbers W) hr (by decide) (by rfl) (pa_cons (pe_ix ix_tup (pv 0) pe_int (fun _ _ => rfl)) pa_nil)))))) pss_nil)
    (pss_cons (ps_if (pt_cmpR op_eq (pe_ix ix_tup (pv 0) pe_int (fun _ _ => rfl)) pe_str (nomark _)) (pss_one (ps_ret (pe_and (pe_cmpR op_eq (p_len W.nm (pv 0)) pe_int (nomark _)) (pe_and (pe_c (c_is_number W) hr (by decide) (by rfl) (pa_cons (pe_ix ix_tup (pv 0) pe_int (fun _ _ => rfl)) pa_nil)) (pe_one (p_isi W.nm.bool boot_bool W.nm (pe_ix ix_tup (pv 0) pe_int (fun _ _ => rfl)))))))) pss_nil)
    (pss_one (ps_ret (pe_and (pe_cmpR op_in_seq (pe_ix ix_tup (pv 0) pe_int (fun _ _ => rfl)) (pe_tup (pa_cons pe_str (pa_cons pe_str (pa_cons pe_str pa_nil)))) rfl) (pe_and (pe_cmpR op_eq (p_len W.nm (pv 0)) pe_int (nomark _)) (pe_one (pe_c (c_is_number W) hr (by decide) (by rfl) (pa_cons (pe_ix ix_tup (pv 0) pe_int (fun _ _ => rfl)) pa_nil))))))))), ?_⟩
  cases d with
  | flip ns =>
    obtain ⟨p, ht, il⟩ := da
    obtain ⟨ne, l70, sm, up⟩ := ok
    refine ⟨_, rfl, _, _, _, _, _, rfl, .ty _, .base (.tup ht), kit_ty (b := "tuple") (r := true) (by decide +kernel), true, rfl, iteF ?_⟩
    refine ⟨_, rfl, t, _, rfl, .inr (SqT.of ht), _, _, rfl, rfl, false, rfl, iteF ?_⟩
    refine ⟨_, rfl, t, _, _, _, rfl, rfl, SqT.of ht, at0, _, _, _, _, _, rfl, .ty _, .base (.str _), kit_ty (b := "str") (r := true) (by decide +kernel), true, rfl, iteF ?_⟩
    refine ⟨_, rfl, t, _, _, _, rfl, rfl, SqT.of ht, at0, rfl, true, by decide +kernel, iteT ?_⟩
    exact ⟨_, rfl, t, _, rfl, .inr (SqT.of ht), rfl, true, rfl, iteT ⟨_, rfl, t, _, _, _, rfl, rfl, SqT.of ht, at1, p, ns, rfl, il, ne, by omega, fun x hx => (sm x hx).1, up, k⟩⟩
  | grow i b =>
    have ht : H t = some (.tup [.str "grow", .int i, .bl b]) := da
    have ok : Sm i := ok
    refine ⟨_, rfl, _, _, _, _, _, rfl, .ty _, .base (.tup ht), kit_ty (b := "tuple") (r := true) (by decide +kernel), true, rfl, iteF ?_⟩
    refine ⟨_, rfl, t, _, rfl, .inr (SqT.of ht), _, _, rfl, rfl, false, rfl, iteF ?_⟩
    refine ⟨_, rfl, t, _, _, _, rfl, rfl, SqT.of ht, at0, _, _, _, _, _, rfl, .ty _, .base (.str _), kit_ty (b := "str") (r := true) (by decide +kernel), true, rfl, iteF ?_⟩
    refine ⟨_, rfl, t, _, _, _, rfl, rfl, SqT.of ht, at0, rfl, false, by decide +kernel, iteF ?_⟩
    refine ⟨_, rfl, t, _, _, _, rfl, rfl, SqT.of ht, at0, rfl, true, by decide +kernel, iteT ?_⟩
    refine ⟨_, rfl, t, _, rfl, .inr (SqT.of ht), rfl, true, rfl, iteT ⟨_, rfl, t, _, _, _, rfl, rfl, SqT.of ht, at1, i, rfl, ok.1, fun H1 e1 => ⟨true, rfl, iteT ?_⟩⟩⟩
    exact ⟨_, rfl, t, _, _, _, rfl, rfl, SqT.of (e1 _ _ ht), at2, _, _, _, _, _, rfl, .ty _, .base (.bl _), kit_ty (b := "bool") (r := true) (by decide +kernel), k _ e1⟩
  | one wd i =>
    have ht : H t = some (.tup [.str wd, .int i]) := da
    obtain ⟨wo, sm⟩ := ok
    obtain ⟨w1, w2⟩ := wo_nf wo
    refine ⟨_, rfl, _, _, _, _, _, rfl, .ty _, .base (.tup ht), kit_ty (b := "tuple") (r := true) (by decide +kernel), true, rfl, iteF ?_⟩
    refine ⟨_, rfl, t, _, rfl, .inr (SqT.of ht), _, _, rfl, rfl, false, rfl, iteF ?_⟩
    refine ⟨_, rfl, t, _, _, _, rfl, rfl, SqT.of ht, at0, _, _, _, _, _, rfl, .ty _, .base (.str _), kit_ty (b := "str") (r := true) (by decide +kernel), true, rfl, iteF ?_⟩
    refine ⟨_, rfl, t, _, _, _, rfl, rfl, SqT.of ht, at0, rfl, false, by rw [dstr, decide_eq_false w1], iteF ?_⟩
    refine ⟨_, rfl, t, _, _, _, rfl, rfl, SqT.of ht, at0, rfl, false, by rw [dstr, decide_eq_false w2], iteF ?_⟩
    refine ⟨_, rfl, t, _, _, _, rfl, rfl, SqT.of ht, at0, by show 3 ≤ sizeLine; decide, fun u hu => ?_⟩
    have e1 : Ex H (upd H u (.tup [.str "press", .str "fell", .str "wire"])) := Ex.new hu
    have hin : inV (V.str wd) [V.str "press", V.str "fell", V.str "wire"] = true := by
      rcases wo with rfl | rfl | rfl <;> decide +kernel
    refine ⟨u, _, rfl, .inr (SqT.of upd_same), rfl, rfl, true, ?_, iteT ?_⟩
    · rw [if_neg (by simp), hin]
    have ht1 := e1 _ _ ht
    exact ⟨_, rfl, t, _, rfl, .inr (SqT.of ht1), rfl, true, rfl, iteT ⟨_, rfl, t, _, _, _, rfl, rfl, SqT.of ht1, at1, i, rfl, sm.1, fun H2 e2 => k _ (e1.trans e2)⟩⟩
/-! ### show_deed -/
def spShowDeed : Sp := fun vs H Q _ => ∃ (t : Addr) (d : Deed), vs = [.ref t] ∧ DA H t d ∧ DOk d ∧ ∀ H', Ex H H' → Q (.str (dText d)) H'
theorem sc_show_deed : FnScope ["deed"] ["deed"] (defScope s_show_deed) := ⟨rfl, rfl, rfl, by decide +kernel, rfl, by decide +kernel, by decide +kernel⟩
theorem c_show_deed (W : Wd K mg) : Cal P w K mg base 2 "show_deed" spShowDeed [] := by
  refine W.cal 33 sc_show_deed (fun vs H Q E ⟨t, d, e, _⟩ => by rw [e]; rfl) (fun f cdv A outer s H vs Q E hr ⟨t, d, e, da, ok, k⟩ => ?_) (fun _ _ _ _ _ _ us hl => match us, hl with | [_], _ => rfl)
  subst e
  refine ⟨_, pss_cons (ps_if (pt_cmpR op_eq (pe_ix ix_tup (pv 0) pe_int (fun _ _ => rfl)) pe_str (nomark _)) (pss_one (ps_ret (pe_op op_add_str pe_str (pe_c (c_show_posts W) hr (by decide) (by rfl) (pa_cons (pe_ix ix_tup (pv 0) pe_int (fun _ _ => rfl)) pa_nil))))) pss_nil)
    (pss_cons (ps_if (pt_cmpR op_eq (pe_ix ix_tup (pv 0) pe_int (fun _ _ => rfl)) pe_str (nomark _)) (pss_one (ps_ret (pe_op op_add_str (pe_op op_add_str pe_str (pe_callTy call_str_int (by rfl) W.nm.str boot_str (pa_cons (pe_ix ix_tup (pv 0) pe_int (fun _ _ => rfl)) pa_nil))) (pe_op op_mul_str pe_str (p_int1 W.nm (pe_ix ix_tup (pv 0) pe_int (fun _ _ => rfl))))))) pss_nil)
    (pss_one (ps_ret (pe_op op_add_str (pe_op op_add_str (pe_ix ix_tup (pv 0) pe_int (fun _ _ => rfl)) pe_str) (pe_callTy call_str_int (by rfl) W.nm.str boot_str (pa_cons (pe_ix ix_tup (pv 0) pe_int (fun _ _ => rfl)) pa_nil)))))), ?_⟩
  have dl := d_len ok
  cases d with
  | flip ns =>
    obtain ⟨p, ht, il⟩ := da
    have l70 := ok.2.1
    refine ⟨_, rfl, t, _, _, _, rfl, rfl, SqT.of ht, at0, rfl, true, by decide +kernel, iteT ?_⟩
    refine ⟨_, rfl, t, _, _, _, rfl, rfl, SqT.of ht, at1, p, ns, rfl, il, by omega, ok.2.2.1, fun H1 e1 => ⟨_, _, rfl, rfl, ?_, k _ e1⟩⟩
    have z : (("flip " : Str) ++ showP ns).length ≤ 4000 := dl
    rw [len_app] at z
    rw [sizeLine_eq]
    omega
  | grow i b =>
    have ht : H t = some (.tup [.str "grow", .int i, .bl b]) := da
    have sm : Sm i := ok
    have nl := (nS_len sm).2
    have gl : ("grow " : Str).length = 5 := by decide +kernel
    have wl : (" wired" : Str).length = 6 := by decide +kernel
    have el : Str.empty.length = 0 := rfl
    refine ⟨_, rfl, t, _, _, _, rfl, rfl, SqT.of ht, at0, rfl, false, by decide +kernel, iteF ?_⟩
    refine ⟨_, rfl, t, _, _, _, rfl, rfl, SqT.of ht, at0, rfl, true, by decide +kernel, iteT ?_⟩
    refine ⟨_, rfl, t, _, _, _, rfl, rfl, SqT.of ht, at1, i, rfl, log_small sm, _, _, rfl, rfl, by show ("grow " : Str).length + (nS i).length ≤ sizeLine; rw [sizeLine_eq]; omega, ?_⟩
    refine ⟨_, rfl, t, _, _, _, rfl, rfl, SqT.of ht, at2, .inr ⟨b, rfl, ?_⟩⟩
    cases b with
    | true =>
      refine ⟨_, 1, rfl, rfl, Nat.le_refl _, by rw [wl, sizeLine_eq]; omega, _, _, rfl, rfl, ?_, k _ (Ex.rfl' _)⟩
      show (("grow " : Str) ++ nS i).length + (" wired" : Str).length ≤ sizeLine
      rw [len_app, sizeLine_eq]
      omega
    | false =>
      refine ⟨_, 0, rfl, rfl, Nat.zero_le _, by rw [wl, sizeLine_eq]; omega, _, _, rfl, rfl, ?_, k _ (Ex.rfl' _)⟩
      show (("grow " : Str) ++ nS i).length + Str.empty.length ≤ sizeLine
      rw [len_app, sizeLine_eq]
      omega
  | one wd i =>
    have ht : H t = some (.tup [.str wd, .int i]) := da
    obtain ⟨wo, sm⟩ := ok
    obtain ⟨w1, w2⟩ := wo_nf wo
    have nl := (nS_len sm).2
    have wl := wo_len wo
    have sl : (" " : Str).length = 1 := by decide +kernel
    refine ⟨_, rfl, t, _, _, _, rfl, rfl, SqT.of ht, at0, rfl, false, by rw [dstr, decide_eq_false w1], iteF ?_⟩
    refine ⟨_, rfl, t, _, _, _, rfl, rfl, SqT.of ht, at0, rfl, false, by rw [dstr, decide_eq_false w2], iteF ?_⟩
    refine ⟨_, rfl, t, _, _, _, rfl, rfl, SqT.of ht, at0, _, _, rfl, rfl, by rw [sl, sizeLine_eq]; omega, _, rfl, t, _, _, _, rfl, rfl, SqT.of ht, at1, i, rfl, log_small sm, _, _, rfl, rfl, ?_, k _ (Ex.rfl' _)⟩
    show (wd ++ (" " : Str)).length + (nS i).length ≤ sizeLine
    rw [len_app, sizeLine_eq]
    omega
/-! ### read_deed -/
def spReadDeed : Sp := fun vs H Q _ => ∃ d : Deed, vs = [.str (dText d)] ∧ DOk d ∧ ∀ t H', H t = none → Ex H H' → DA H' t d → (∀ p, H' t = some (.tup [.str "flip", .ref p]) → H p = none) → Q (.ref t) H'
theorem sc_read_deed : FnScope ["text", "word", "rest", "numbers", "deed", "one"] ["text"] (defScope s_read_deed) := ⟨rfl, rfl, rfl, by decide +kernel, rfl, by decide +kernel, by decide +kernel⟩
theorem c_read_deed (W : Wd K mg) : Cal P w K mg base 5 "read_deed" spReadDeed [] := by
  refine W.cal 34 sc_read_deed (fun vs H Q E ⟨d, e, _⟩ => by rw [e]; rfl) (fun f cdv A outer s H vs Q E hr ⟨d, e, ok, k⟩ => ?_) (fun _ _ _ _ _ _ us hl => match us, hl with | [_], _ => rfl)
  subst e
  have nd := sc_read_deed.nd
  refine ⟨_, pss_cons (ps_if (pt_not (pt_val (p_isi W.nm.str boot_str W.nm (pv 0)))) pss_never pss_nil)
    (pss_cons (ps_asg (pe_split (pv 0) pe_str) (pg_star (i := 1) (j := 2) rfl nd rfl rfl rfl rfl))
    (pss_cons (ps_if (PW.pt (pw_and (pt_cmpR op_eq (pv 1) pe_str (nomark _)) (pw_and (pt_cmpR op_eq (p_len W.nm (pv 2)) pe_int (nomark _)) (pw_and1 (pt_cmpR op_eq (pe_ix ix_list (pv 2) pe_int (fun _ _ => rfl)) pe_str (nomark _))))))
      (pss_one (ps_ret (pe_tup (pa_cons pe_str (pa_cons (pe_c (c_read_number W) hr (by decide) (by rfl) (pa_cons (pe_ix ix_list (pv 2) pe_int (fun _ _ => rfl)) pa_nil)) (pa_cons pe_bl pa_nil)))))) pss_nil)
    (pss_cons (ps_setLc (i := 3) (own := [("one", 5)]) (g := gName 5) (tt := tYes) rfl nd rfl rfl (sw_true rfl rfl rfl (by decide +kernel)) (pi_list (pv 2)) (blkOk_by (N := ["text", "word", "rest", "numbers", "deed", "one"]) (sc := defScope s_read_deed) (by decide +kernel))
      (fun _ _ _ _ _ => pg_name (i := 5) nd rfl (Or.inl rfl)) (fun _ _ _ _ _ => pts_nil) (fun _ _ _ _ _ => pe_c (c_read_number W) hr (by decide) (by rfl) (pa_cons (pv 5) pa_nil)))
    (pss_cons (ps_if (pt_cmpR op_eq (pv 1) pe_str (nomark _)) (pss_one (ps_set (i := 4) nd rfl (Or.inl rfl) (pe_tup (pa_cons pe_str (pa_cons (pv 3) pa_nil)))))
      (pss_one (ps_if (pt_cmpR op_eq (pv 1) pe_str (nomark _)) (pss_one (ps_set (i := 4) nd rfl (Or.inl rfl) (pe_tup (pa_cons pe_str (StX.pa_star (pv 3) (pa_cons pe_bl pa_nil))))))
        (pss_one (ps_set (i := 4) nd rfl (Or.inl rfl) (pe_tup (pa_cons (pv 1) (StX.pa_star (pv 3) pa_nil))))))))
    (pss_cons (ps_if (pt_not (pt_val (pe_c (c_is_deed W) hr (by decide) (by rfl) (pa_cons (pv 4) pa_nil)))) pss_never pss_nil)
    (pss_one (ps_ret (pv 4)))))))), ?_⟩
  have dl := d_len ok
  refine ⟨_, rfl, _, _, _, _, _, rfl, .ty _, .base (.str _), kit_ty (b := "str") (r := true) (by decide +kernel), true, rfl, iteF ?_⟩
  refine ⟨_, rfl, ⟨_, rfl⟩, dText d, _, rfl, rfl, by decide +kernel, by rw [sizeLine_eq]; omega, fun p hp => ?_⟩
  rw [d_split ok]
  have e1 : Ex H (upd H p (.lst ((dParts d).map V.str))) := Ex.new hp
  have hl : (upd H p (.lst ((dParts d).map V.str))) p = some (.lst ((dParts d).map V.str)) := upd_same
  generalize upd H p (.lst ((dParts d).map V.str)) = H1 at hl e1
  cases d with
  | flip ns =>
    obtain ⟨ne, l70, sm, up⟩ := id ok
    refine ⟨p, _, _, rfl, SqL.of hl, by rw [List.length_map, List.length_map]; omega, fun r hr2 => ?_⟩
    have e2 : Ex H1 (upd H1 r (.lst ((ns.map nS).map V.str))) := Ex.new hr2
    have hr3 : (upd H1 r (.lst ((ns.map nS).map V.str))) r = some (.lst ((ns.map nS).map V.str)) := upd_same
    generalize upd H1 r (.lst ((ns.map nS).map V.str)) = H2 at e2 hr3
    refine ⟨_, rfl, rfl, false, by decide +kernel, iteF (iteF ?_)⟩
    refine ⟨_, rfl, r, rfl, ⟨_, SqL.of hr3⟩, fun D hD => lcS1 walk_list ns (fun a => V.str (nS a)) V.int y_strs (by rw [List.length_map, List.length_map]) (by rw [List.length_map, List.length_map]; omega) hD (fun H3 e3 => SqL.of (e3 _ _ hr3)) (fun _ => rfl) (fun x hx H3 e3 Q3 q3 => ⟨_, rfl, x, rfl, sm x hx, q3⟩) (fun H3 e3 h3 => ?_)⟩
    refine ⟨_, rfl, rfl, true, by decide +kernel, iteT ⟨_, rfl, by show 2 ≤ sizeLine; decide, fun t ht => ?_⟩⟩
    have e4 : Ex H3 (upd H3 t (.tup [.str "flip", .ref D])) := Ex.new ht
    have e12 := e1.trans e2
    have e13 := e12.trans e3
    refine ⟨_, rfl, t, .flip ns, rfl, ⟨D, upd_same, e4 _ _ h3⟩, ok, fun H5 e5 => ⟨true, rfl, iteF ⟨_, rfl, k t H5 (e13.free ht) ((e13.trans e4).trans e5) ⟨D, e5 _ _ upd_same, e5 _ _ (e4 _ _ h3)⟩ fun q hq => ?_⟩⟩⟩
    have z := e5 _ _ (upd_same (H := H3) (a := t) (o := .tup [.str "flip", .ref D]))
    rw [z] at hq
    injection hq with hq
    injection hq with hq
    injection hq with _ hq
    injection hq with hq
    injection hq with hq
    rw [← hq]
    exact e12.free hD
  | grow i b =>
    have sm : Sm i := ok
    cases b with
    | true =>
      refine ⟨p, _, _, rfl, SqL.of hl, by show 2 ≤ 16000; decide, fun r hr2 => ?_⟩
      have e2 : Ex H1 (upd H1 r (.lst [.str (nS i), .str "wired"])) := Ex.new hr2
      have hr3 : (upd H1 r (.lst [.str (nS i), .str "wired"])) r = some (.lst [.str (nS i), .str "wired"]) := upd_same
      show tSeq _ _ _ _ (upd H1 r (.lst [.str (nS i), .str "wired"]))
      generalize upd H1 r (.lst [.str (nS i), .str "wired"]) = H2 at e2 hr3
      refine ⟨_, rfl, rfl, true, by decide +kernel, iteT ⟨_, rfl, r, _, rfl, .inl (SqL.of hr3), rfl, true, rfl, iteT ⟨_, rfl, r, _, _, _, rfl, rfl, SqL.of hr3, at1, rfl, true, by decide +kernel, iteT ?_⟩⟩⟩
      refine ⟨_, rfl, r, _, _, _, rfl, rfl, SqL.of hr3, at0, i, rfl, sm, fun H3 e3 => ⟨by show 3 ≤ sizeLine; decide, fun t ht => ?_⟩⟩
      have e13 := (e1.trans e2).trans e3
      refine k t _ (e13.free ht) (e13.trans (Ex.new ht)) upd_same fun q hq => ?_
      rw [upd_same] at hq
      injection hq with hq
      injection hq with hq
      injection hq with _ hq
      injection hq with _ hq
      cases hq
    | false =>
      refine ⟨p, _, _, rfl, SqL.of hl, by show 1 ≤ 16000; decide, fun r hr2 => ?_⟩
      have e2 : Ex H1 (upd H1 r (.lst [.str (nS i)])) := Ex.new hr2
      have hr3 : (upd H1 r (.lst [.str (nS i)])) r = some (.lst [.str (nS i)]) := upd_same
      show tSeq _ _ _ _ (upd H1 r (.lst [.str (nS i)]))
      generalize upd H1 r (.lst [.str (nS i)]) = H2 at e2 hr3
      refine ⟨_, rfl, rfl, true, by decide +kernel, iteT ⟨_, rfl, r, _, rfl, .inl (SqL.of hr3), rfl, false, rfl, iteF (iteF ?_)⟩⟩
      refine ⟨_, rfl, r, rfl, ⟨_, SqL.of hr3⟩, fun D hD => lcS1 walk_list [i] (fun a => V.str (nS a)) V.int (y_strs (ns := [i])) rfl (by show 1 ≤ 100000; decide) hD (fun H3 e3 => SqL.of (e3 _ _ hr3)) (fun _ => rfl) (fun x hx H3 e3 Q3 q3 => ⟨_, rfl, x, rfl, by rw [List.mem_singleton.mp hx]; exact sm, q3⟩) (fun H3 e3 h3 => ?_)⟩
      refine ⟨_, rfl, rfl, false, by decide +kernel, iteF ⟨_, rfl, rfl, true, by decide +kernel, iteT ⟨_, rfl, D, _, rfl, .inr (SqL.of h3), by show 3 ≤ sizeLine; decide, fun t ht => ?_⟩⟩⟩
      have e4 : Ex H3 (upd H3 t (.tup [.str "grow", .int i, .bl false])) := Ex.new ht
      have e13 := (e1.trans e2).trans e3
      refine ⟨_, rfl, t, .grow i false, rfl, upd_same, ok, fun H5 e5 => ⟨true, rfl, iteF ⟨_, rfl, k t H5 (e13.free ht) ((e13.trans e4).trans e5) (e5 _ _ upd_same) fun q hq => ?_⟩⟩⟩
      have z := e5 _ _ (upd_same (H := H3) (a := t) (o := .tup [.str "grow", .int i, .bl false]))
      have z : H5 t = some (.tup [.str "grow", .int i, .bl false]) := z
      rw [z] at hq
      injection hq with hq
      injection hq with hq
      injection hq with _ hq
      injection hq with _ hq
      cases hq
  | one wd i =>
    obtain ⟨wo, sm⟩ := id ok
    obtain ⟨w1, w2⟩ := wo_nf wo
    refine ⟨p, _, _, rfl, SqL.of hl, by show 1 ≤ 16000; decide, fun r hr2 => ?_⟩
    have e2 : Ex H1 (upd H1 r (.lst [.str (nS i)])) := Ex.new hr2
    have hr3 : (upd H1 r (.lst [.str (nS i)])) r = some (.lst [.str (nS i)]) := upd_same
    show tSeq _ _ _ _ (upd H1 r (.lst [.str (nS i)]))
    generalize upd H1 r (.lst [.str (nS i)]) = H2 at e2 hr3
    refine ⟨_, rfl, rfl, false, by rw [dstr, decide_eq_false w2], iteF (iteF ?_)⟩
    refine ⟨_, rfl, r, rfl, ⟨_, SqL.of hr3⟩, fun D hD => lcS1 walk_list [i] (fun a => V.str (nS a)) V.int (y_strs (ns := [i])) rfl (by show 1 ≤ 100000; decide) hD (fun H3 e3 => SqL.of (e3 _ _ hr3)) (fun _ => rfl) (fun x hx H3 e3 Q3 q3 => ⟨_, rfl, x, rfl, by rw [List.mem_singleton.mp hx]; exact sm, q3⟩) (fun H3 e3 h3 => ?_)⟩
    refine ⟨_, rfl, rfl, false, by rw [dstr, decide_eq_false w1], iteF ⟨_, rfl, rfl, false, by rw [dstr, decide_eq_false w2], iteF ⟨_, rfl, _, rfl, D, _, rfl, .inr (SqL.of h3), by show 2 ≤ sizeLine; decide, fun t ht => ?_⟩⟩⟩
    have e4 : Ex H3 (upd H3 t (.tup [.str wd, .int i])) := Ex.new ht
    have e13 := (e1.trans e2).trans e3
    refine ⟨_, rfl, t, .one wd i, rfl, upd_same, ok, fun H5 e5 => ⟨true, rfl, iteF ⟨_, rfl, k t H5 (e13.free ht) ((e13.trans e4).trans e5) (e5 _ _ upd_same) fun q hq => ?_⟩⟩⟩
    have z := e5 _ _ (upd_same (H := H3) (a := t) (o := .tup [.str wd, .int i]))
    have z : H5 t = some (.tup [.str wd, .int i]) := z
    rw [z] at hq
    injection hq with hq
    injection hq with hq
    injection hq with _ hq
    injection hq with hq
    cases hq
end
end Od

set_option Elab.async false
set_option linter.all false
set_option maxRecDepth 100000
set_option maxHeartbeats 4000000
/-! the law's bag, take, parents -/
namespace Od
open PySem PySem.Spec PyProof.Rows L2
open C8 (Cal Met InsC pe_c pe_mt pe_mt0 call_isC)
theorem seq_cps {s1 rest : TS} {D : Ends} {σ : L2.St} {H : Hp} (Ps : L2.St → Hp → Prop) (h1 : ∀ D' : Ends, (∀ σ' H', Ps σ' H' → D'.nx σ' H') → s1 D' σ H) (h2 : ∀ σ' H', Ps σ' H' → rest D σ' H') : tSeq s1 rest D σ H := h1 _ h2
/-! ### the bag -/
def BagB (H : Hp) (B pc : Addr) : Prop := ∃ x y z : Int, H B = some (.lst [.int x, .int y, .int z, .ref pc]) ∧ 0 ≤ x ∧ 0 ≤ y ∧ y < 2147483647 ∧ 0 ≤ z
def BagH (H : Hp) (B : Addr) : Prop := ∃ (pc : Addr) (cs : List Int), BagB H B pc ∧ H pc = some (.lst (cs.map V.int)) ∧ pc ≠ B ∧ ∀ c ∈ cs, 0 ≤ c
def BE (B : Addr) (H H' : Hp) : Prop := ExB B H H' ∧ ∀ pc, BagB H B pc → BagB H' B pc
theorem er_be (B : Addr) : ER (BE B) := ⟨fun H => ⟨(er_b B).refl H, fun _ h => h⟩, fun a b => ⟨a.1.trans b.1, fun pc h => b.2 pc (a.2 pc h)⟩,
  fun {H H' p o} e hp => ⟨(er_b B).put e.1 hp, fun pc h => by
    obtain ⟨x, y, z, h1, h2⟩ := e.2 pc h
    obtain ⟨x0, y0, z0, g1, _⟩ := h
    exact ⟨x, y, z, by rw [upd_ne (fun ee => by rw [← ee, g1] at hp; cases hp)]; exact h1, h2⟩⟩⟩
theorem BE.trans {B : Addr} {H H1 H2 : Hp} (a : BE B H H1) (b : BE B H1 H2) : BE B H H2 := (er_be B).trans a b
theorem BE.rfl' (B : Addr) (H : Hp) : BE B H H := (er_be B).refl H
theorem Ex.be {H H' : Hp} (e : Ex H H') (B : Addr) : BE B H H' := ⟨e.b B, fun pc ⟨x, y, z, h1, h2⟩ => ⟨x, y, z, e _ _ h1, h2⟩⟩
theorem BagH.mono {H H' : Hp} {B : Addr} (h : BagH H B) (e : BE B H H') : BagH H' B := by
  obtain ⟨pc, cs, b, hc, ne, c0⟩ := h
  exact ⟨pc, cs, e.2 pc b, e.1 _ _ ne hc, ne, c0⟩
theorem BagH.neB {H : Hp} {B a : Addr} {o : HO} (h : BagH H B) (ha : H a = some o) (no : ∀ x y z pc, o ≠ .lst [.int x, .int y, .int z, .ref pc]) : a ≠ B := by
  obtain ⟨pc, cs, ⟨x, y, z, b, _⟩, _⟩ := h
  intro e
  rw [e, b] at ha
  exact no x y z pc (Option.some.inj ha).symm
theorem BagH.free {H H' : Hp} {B p : Addr} (h : BagH H B) (e : BE B H H') (hp : H' p = none) : H p = none := by
  obtain ⟨pc, cs, ⟨x, y, z, b, _⟩, _⟩ := h.mono e
  exact e.1.free (fun ee => by rw [ee, b] at hp; cases hp) hp
theorem BagH.tup {H H' : Hp} {B a : Addr} {xs : List V} (h : BagH H B) (e : BE B H H') (ha : H a = some (.tup xs)) : H' a = some (.tup xs) := e.1 _ _ (h.neB ha (fun _ _ _ _ z => by cases z)) ha
theorem BagH.refs {H H' : Hp} {B a : Addr} {xs : List Addr} (h : BagH H B) (e : BE B H H') (ha : H a = some (.lst (xs.map V.ref))) : H' a = some (.lst (xs.map V.ref)) :=
  e.1 _ _ (h.neB ha (fun x y z pc ee => by
    injection ee with ee
    cases xs with
    | nil => cases ee
    | cons a r => injection ee with e1 e2; cases e1)) ha
theorem int_list {ns : List Int} {x y z : Int} {pc : Addr} : HO.lst (ns.map V.int) ≠ .lst [.int x, .int y, .int z, .ref pc] := fun ee => by
  injection ee with ee
  have m : V.ref pc ∈ ns.map V.int := by rw [ee]; simp
  obtain ⟨i, _, e⟩ := List.mem_map.mp m
  cases e
theorem BagH.ints {H H' : Hp} {B a : Addr} {ns : List Int} (h : BagH H B) (e : BE B H H') (ha : H a = some (.lst (ns.map V.int))) : H' a = some (.lst (ns.map V.int)) := e.1 _ _ (h.neB ha (fun _ _ _ _ => int_list)) ha
theorem BagH.tl {H H' : Hp} {B a : Addr} {ts : List (Int × Int)} (h : BagH H B) (e : BE B H H') (t : TL H a ts) : TL H' a ts := by
  obtain ⟨ks, k1, k2, k3⟩ := t
  have k2' : H a = some (.lst ((ks.map (·.1)).map V.ref)) := by rw [k2, List.map_map]; rfl
  have z := h.refs e k2'
  rw [List.map_map] at z
  exact ⟨ks, k1, z, fun k hk => h.tup e (k3 k hk)⟩
theorem BagH.rl {H H' : Hp} {B a : Addr} {rs : List (List Int)} (h : BagH H B) (e : BE B H H') (t : RL H a rs) : RL H' a rs := by
  obtain ⟨ks, k1, k2, k3⟩ := t
  have k2' : H a = some (.lst ((ks.map (·.1)).map V.ref)) := by rw [k2, List.map_map]; rfl
  have z := h.refs e k2'
  rw [List.map_map] at z
  exact ⟨ks, k1, z, fun k hk => h.ints e (k3 k hk)⟩
theorem BagH.ya {H H' : Hp} {K : PySem.W.Frag} {B y : Addr} {n : Nat} {ts : List (Int × Int)} {ws : List Int} {rs : List (List Int)} (h : BagH H B) (e : BE B H H') (t : YA K H y n ts ws rs) : YA K H' y n ts ws rs := by
  obtain ⟨dx, pt, pw, pn, h1, h2, h3, h4⟩ := t
  exact ⟨dx, pt, pw, pn, e.1 _ _ (h.neB h1 (fun _ _ _ _ z => by cases z)) h1, h.tl e h2, h.ints e h3, h.rl e h4⟩
theorem BE.put {B : Addr} {H H' : Hp} {p : Addr} {o : HO} (e : BE B H H') (hp : H p = none) : BE B H (upd H' p o) := (er_be B).put e hp
section
variable {P : Program} {w : World} {K : PySem.W.Frag} {mg : Str → Option Value} {base : Heap}
theorem cut_take (xs : List V) (m : Nat) : cutV xs none (some (m : Int)) = xs.take m := by
  unfold cutV
  rw [HT.sIx_none, HT.sIx_nat, List.drop_zero, Nat.sub_zero, List.take_eq_take_iff]
  omega
def spBag (K : PySem.W.Frag) : Sp := fun vs H Q _ => ∃ (a : Addr) (ns : List Int), vs = [.ref a] ∧ SqL K H a (ns.map V.int) ∧ ∀ B H', H B = none → Ex H H' → BagH H' B → Q (.ref B) H'
theorem sc_l_bag : FnScope ["_law_script", "_law_cell"] ["_law_script"] (defScope s_l_bag) := ⟨rfl, rfl, rfl, by decide +kernel, rfl, by decide +kernel, by decide +kernel⟩
theorem c_l_bag (W : Wd K mg) : Cal P w K mg base 1 "_law_bag" (spBag K) [] := by
  refine W.cal 36 sc_l_bag (fun vs H Q E ⟨a, ns, e, _⟩ => by rw [e]; rfl) (fun f cdv A outer s H vs Q E hr ⟨a, ns, e, sq, k⟩ => ?_) (fun _ _ _ _ _ _ us hl => match us, hl with | [_], _ => rfl)
  subst e
  have nd := sc_l_bag.nd
  refine ⟨_, pss_one (ps_ret (pe_lst (pa_cons pe_int (pa_cons pe_int (pa_cons pe_int (pa_cons (pe_lc (own := [("_law_cell", 1)]) (g := gName 1) (tt := tYes) rfl nd (pi_list (pe_slice sl_list (pv 0) po_none (po_some pe_int))) (blkOk_by (N := ["_law_script", "_law_cell"]) (sc := defScope s_l_bag) (by decide +kernel))
      (fun _ _ _ _ _ => pg_name (i := 1) nd rfl (Or.inl rfl)) (fun _ _ _ _ _ => pts_nil) (fun _ _ _ _ _ => pe_callB call_abs (by rfl) W.nm.abs boot_abs (pa_cons (pv 1) pa_nil))) pa_nil)))))), ?_⟩
  refine ⟨_, rfl, _, rfl, a, _, rfl, sq, fun p hp => ?_⟩
  rw [show (some (63 : Int)) = some ((63 : Nat) : Int) from rfl, cut_take, ← List.map_take]
  have e1 : Ex H (upd H p (.lst ((ns.take 63).map V.int))) := Ex.new hp
  have hl : (upd H p (.lst ((ns.take 63).map V.int))) p = some (.lst ((ns.take 63).map V.int)) := upd_same
  generalize upd H p (.lst ((ns.take 63).map V.int)) = H1 at e1 hl
  have l63 : (ns.take 63).length ≤ 63 := by rw [List.length_take]; omega
  refine ⟨p, rfl, ⟨_, SqL.of hl⟩, fun D hD => lcS1 walk_list (ns.take 63) V.int (fun i => V.int (if i < 0 then -i else i)) y_map (by rw [List.length_map]) (by rw [List.length_map]; omega) hD (fun H2 e2 => SqL.of (e2 _ _ hl)) (fun _ => rfl) (fun x hx H2 e2 Q2 q2 => ⟨_, rfl, x, rfl, q2 _ (Ex.rfl' _)⟩) (fun H2 e2 h2 => ?_)⟩
  refine ⟨by show 4 ≤ sizeLine; decide, fun B hB => ?_⟩
  have e12 := e1.trans e2
  have e3 := Ex.new (o := .lst [.int 0, .int 1234567891, .int 0, .ref D]) hB
  refine k B _ (e12.free hB) (e12.trans e3) ⟨D, (ns.take 63).map fun i => if i < 0 then -i else i, ⟨0, 1234567891, 0, upd_same, by decide, by decide, by decide, by decide⟩, ?_, ?_, ?_⟩
  · rw [List.map_map]
    exact e3 _ _ h2
  · exact ne_of_none h2 hB
  · intro c hc
    obtain ⟨i, _, rfl⟩ := List.mem_map.mp hc
    split <;> omega
def spTake : Sp := fun vs H Q _ => ∃ (B : Addr) (m : Int), vs = [.ref B, .int m] ∧ BagH H B ∧ 1 ≤ m ∧ m ≤ 10 ^ 40 ∧ ∀ r H', BE B H H' → 0 ≤ r → r < m → Q (.int r) H'
theorem sc_l_take : FnScope ["_law_bag_here", "_law_many", "_law_cell", "_law_value", "_law_first", "_law_second"] ["_law_bag_here", "_law_many"] (defScope s_l_take) := ⟨rfl, rfl, rfl, by decide +kernel, rfl, by decide +kernel, by decide +kernel⟩
theorem at3 {a b c d : V} {r : List V} : atI (a :: b :: c :: d :: r) 3 = some d := atI_nat (j := 3) rfl
theorem many_small {m : Int} (h0 : 1 ≤ m) (h : m ≤ 10 ^ 40) : m.natAbs < 2 ^ 140 := by
  have e : ((10 : Int) ^ 40) = ((10 ^ 40 : Nat) : Int) := by decide
  rw [e] at h
  have b : (10 ^ 40 : Nat) < 2 ^ 140 := by decide
  omega
theorem c_l_take (W : Wd K mg) : Cal P w K mg base 1 "_law_take" spTake [] := by
  refine W.cal 37 sc_l_take (fun vs H Q E ⟨B, m, e, _⟩ => by rw [e]; rfl) (fun f cdv A outer s H vs Q E hr ⟨B, m, e, bag, m1, m2, k⟩ => ?_) (fun _ _ _ _ _ _ us hl => match us, hl with | [_, _], _ => rfl)
  subst e
  have nd := sc_l_take.nd
  refine ⟨_, pss_cons (ps_if (pt_cmpR op_eq (pe_ix ix_list (pv 0) pe_int (fun _ _ => rfl)) pe_int (nomark _))
      (pss_cons (ps_set (i := 2) nd rfl (Or.inl rfl) pe_int)
      (pss_cons (ps_if (pt_cmpR op_lt (pe_ix ix_list (pv 0) pe_int (fun _ _ => rfl)) (p_len W.nm (pe_ix ix_list (pv 0) pe_int (fun _ _ => rfl))) (nomark _))
        (pss_one (ps_set (i := 2) nd rfl (Or.inl rfl) (pe_ix ix_list (pe_ix ix_list (pv 0) pe_int (fun _ _ => rfl)) (pe_ix ix_list (pv 0) pe_int (fun _ _ => rfl)) (fun _ _ => rfl)))) pss_nil)
      (pss_cons (ps_augS (pv 0) pe_int get_list pe_int ip_add set_list)
      (pss_cons (ps_if (pt_cmpR op_ge (pv 2) pe_int (nomark _)) (pss_one (ps_asg (pv 2) (pg_sub (pv 0) pe_int set_list))) pss_nil)
      (pss_one (ps_asg (pe_op op_mod (pe_op op_add (pe_op op_add (pe_op op_mul (pe_ix ix_list (pv 0) pe_int (fun _ _ => rfl)) pe_int) (pe_op op_mod (pv 2) pe_int)) (pe_op op_mul pe_int (pe_ix ix_list (pv 0) pe_int (fun _ _ => rfl)))) pe_int) (pg_sub (pv 0) pe_int set_list))))))) pss_nil)
    (pss_cons (ps_if (pt_cmpR op_gt (pe_ix ix_list (pv 0) pe_int (fun _ _ => rfl)) pe_int (nomark _))
      (pss_cons (ps_set (i := 3) nd rfl (Or.inl rfl) (pe_op op_mod (pe_ix ix_list (pv 0) pe_int (fun _ _ => rfl)) (pv 1)))
      (pss_cons (ps_asg (pe_op op_fdivW (pe_ix ix_list (pv 0) pe_int (fun _ _ => rfl)) (pv 1)) (pg_sub (pv 0) pe_int set_list))
      (pss_one (ps_ret (pv 3))))) pss_nil)
    (pss_cons (ps_set (i := 4) nd rfl (Or.inl rfl) (pe_op op_mod (pe_op op_mul (pe_op op_add (pe_ix ix_list (pv 0) pe_int (fun _ _ => rfl)) pe_int) pe_int) pe_int))
    (pss_cons (ps_set (i := 5) nd rfl (Or.inl rfl) (pe_op op_mod (pe_op op_mul (pe_op op_mod (pe_op op_mul (pv 4) (pv 4)) pe_int) pe_int) pe_int))
    (pss_cons (ps_if (pt_cmpR op_gt (pv 1) pe_int (nomark _)) (pss_one (ps_ret (pe_op op_mod (pe_op op_add (pe_op op_mul (pv 5) pe_int) (pv 4)) (pv 1)))) pss_nil)
    (pss_one (ps_ret (pe_op op_mod (pe_op op_fdiv (pv 5) pe_int) (pv 1)))))))), ?_⟩
  obtain ⟨pc, cs, ⟨x, y, z, hB, x0, y0, y1, z0⟩, hc, npc, c0⟩ := id bag
  -- the bag at B, changed
  have set_be : ∀ {H1 : Hp} {x' y' z' : Int}, BE B H H1 → 0 ≤ x' → 0 ≤ y' → y' < 2147483647 → 0 ≤ z' → BE B H (upd H1 B (.lst [.int x', .int y', .int z', .ref pc])) := fun {H1 x' y' z'} e a1 a2 a3 a4 => by
    refine ⟨fun a o na ha => by rw [upd_ne na]; exact e.1 a o na ha, fun pc2 hb => ?_⟩
    obtain ⟨x2, y2, z2, g, _⟩ := hb
    rw [hB] at g
    injection g with g
    injection g with g
    injection g with _ g
    injection g with _ g
    injection g with _ g
    injection g with g _
    injection g with g
    subst g
    exact ⟨x', y', z', upd_same, a1, a2, a3, a4⟩
  refine seq_cps (fun σ' H' => BE B H H' ∧ ∃ c x' y' z', σ' = [some (.ref B), some (.int m), c, none, none, none] ∧ H' B = some (.lst [.int x', .int y', .int z', .ref pc]) ∧ 0 ≤ x' ∧ 0 ≤ y' ∧ y' < 2147483647 ∧ 0 ≤ z') (fun D hD => ?_) (fun σ' H' h => ?_)
  · refine ⟨_, rfl, B, _, _, _, rfl, rfl, SqL.of hB, at0, rfl, _, rfl, ?_⟩
    rw [dvi]
    by_cases cx : x = 0
    · rw [decide_eq_true cx]
      refine iteT ?_
      refine seq_cps (fun σ' H' => H' = H ∧ σ' = [some (.ref B), some (.int m), some (.int 0), none, none, none]) (fun D2 hD2 => hD2 _ _ ⟨rfl, rfl⟩) (fun σ' H' h => ?_)
      obtain ⟨rfl, rfl⟩ := h
      refine seq_cps (fun σ' H2 => H2 = H' ∧ ∃ c : Int, 0 ≤ c ∧ σ' = [some (.ref B), some (.int m), some (.int c), none, none, none]) (fun D2 hD2 => ?_) (fun σ' H2 h => ?_)
      · refine ⟨_, rfl, B, _, _, _, rfl, rfl, SqL.of hB, at2, _, rfl, B, _, _, _, rfl, rfl, SqL.of hB, at3, pc, _, rfl, .inl (SqL.of hc), _, _, rfl, rfl, _, rfl, ?_⟩
        rw [List.length_map]
        by_cases cz : z < (cs.length : Int)
        · rw [decide_eq_true cz]
          have la := lab_at (l := cs) z0 cz
          refine iteT ⟨_, rfl, B, _, _, _, rfl, rfl, SqL.of hB, at3, _, rfl, B, _, _, _, rfl, rfl, SqL.of hB, at2, pc, _, _, _, rfl, rfl, SqL.of hc, la, hD2 _ _ ⟨rfl, _, ?_, rfl⟩⟩
          have hl : z.toNat < cs.length := by omega
          unfold Odd.lab
          rw [List.getD_eq_getElem?_getD, List.getElem?_eq_getElem hl]
          exact c0 _ (List.getElem_mem hl)
        · rw [decide_eq_false cz]
          exact iteF (hD2 _ _ ⟨rfl, 0, by decide, rfl⟩)
      · obtain ⟨eH, c, cc0, rfl⟩ := h
        rw [eH]
        refine seq_cps (fun σ1 H1 => BE B H' H1 ∧ H1 B = some (.lst [.int x, .int y, .int (z + 1), .ref pc]) ∧ σ1 = [some (.ref B), some (.int m), some (.int c), none, none, none])
          (fun D3 hD3 => ⟨_, rfl, B, _, 2, _, rfl, rfl, SqL.of hB, rfl, _, _, rfl, rfl, B, _, 2, 2, rfl, rfl, hB, rfl, hD3 _ _ ⟨set_be (BE.rfl' B H') x0 y0 y1 (show (0 : Int) ≤ z + 1 by omega), upd_same, rfl⟩⟩) (fun σ1 H1 h1 => ?_)
        obtain ⟨be1, b1, rfl⟩ := h1
        refine seq_cps (fun σ2 H2 => BE B H' H2 ∧ ∃ x2 : Int, 0 ≤ x2 ∧ H2 B = some (.lst [.int x2, .int y, .int (z + 1), .ref pc]) ∧ σ2 = [some (.ref B), some (.int m), some (.int c), none, none, none]) (fun D3 hD3 => ?_) (fun σ2 H2 h2 => ?_)
        · refine ⟨_, rfl, _, _, rfl, rfl, _, rfl, ?_⟩
          by_cases big : c ≥ 1000000000000000000
          · rw [decide_eq_true big]
            exact iteT ⟨_, rfl, _, rfl, B, _, 0, 0, rfl, rfl, b1, rfl, hD3 _ _ ⟨set_be be1 cc0 y0 y1 (by omega), c, cc0, upd_same, rfl⟩⟩
          · rw [decide_eq_false big]
            exact iteF (hD3 _ _ ⟨be1, x, x0, b1, rfl⟩)
        · obtain ⟨be2, x2, x20, b2, rfl⟩ := h2
          refine ⟨_, rfl, B, _, _, _, rfl, rfl, SqL.of b2, at1, _, _, rfl, rfl, .inl ⟨by omega, by omega⟩, _, rfl, _, _, rfl, rfl, by show (0 : Int) < 2147483647; decide, _, _, rfl, rfl, _, rfl, B, _, _, _, rfl, rfl, SqL.of b2, at2, _, _, rfl, rfl, .inl ⟨by decide, by decide⟩, _, _, rfl, rfl, _, _, rfl, rfl, by show (0 : Int) < 2147483647; decide, ?_⟩
          refine ⟨_, rfl, B, _, 1, 1, rfl, rfl, b2, rfl, hD _ _ ⟨set_be be2 x20 (Int.emod_nonneg _ (by decide)) (Int.emod_lt_of_pos _ (by decide)) (by omega : 0 ≤ z + 1), _, _, _, _, rfl, upd_same, x20, Int.emod_nonneg _ (by decide), Int.emod_lt_of_pos _ (by decide), by omega⟩⟩
    · rw [decide_eq_false cx]
      exact iteF (hD _ _ ⟨BE.rfl' B H, _, x, y, z, rfl, hB, x0, y0, y1, z0⟩)
  · obtain ⟨be, c, x', y', z', rfl, hB', x0', y0', y1', z0'⟩ := h
    refine ⟨_, rfl, B, _, _, _, rfl, rfl, SqL.of hB', at0, _, _, rfl, rfl, _, rfl, ?_⟩
    by_cases cx : x' > 0
    · rw [decide_eq_true cx]
      refine iteT ⟨_, rfl, B, _, _, _, rfl, rfl, SqL.of hB', at0, _, rfl, _, _, rfl, rfl, by show (0 : Int) < m; omega, ?_⟩
      refine ⟨_, rfl, B, _, _, _, rfl, rfl, SqL.of hB', at0, _, rfl, _, _, rfl, rfl, wide_div (by omega) (many_small m1 m2) (by decide) (by decide), ?_⟩
      refine ⟨_, rfl, B, _, 0, 0, rfl, rfl, hB', rfl, _, rfl, ?_⟩
      exact k _ _ (set_be be (Int.ediv_nonneg x0' (by omega)) y0' y1' z0') (Int.emod_nonneg _ (by omega)) (Int.emod_lt_of_pos _ (by omega))
    · rw [decide_eq_false cx]
      refine iteF ?_
      refine ⟨_, rfl, B, _, _, _, rfl, rfl, SqL.of hB', at1, _, _, rfl, rfl, _, _, rfl, rfl, .inl ⟨by omega, by omega⟩, _, _, rfl, rfl, by show (0 : Int) < 1000000007; decide, ?_⟩
      have f0 := Int.emod_nonneg ((y' + 1) * 39373) (b := 1000000007) (by decide)
      have f1 := Int.emod_lt_of_pos ((y' + 1) * 39373) (b := 1000000007) (by decide)
      generalize (y' + 1) * 39373 % 1000000007 = fi at f0 f1
      have s0 := Int.emod_nonneg (fi * fi) (b := 998244353) (by decide)
      have s1 := Int.emod_lt_of_pos (fi * fi) (b := 998244353) (by decide)
      refine ⟨_, rfl, _, rfl, _, _, rfl, rfl, .inl ⟨by omega, by omega⟩, _, _, rfl, rfl, by show (0 : Int) < 998244353; decide, _, _, rfl, rfl, .inl ⟨by omega, by omega⟩, _, _, rfl, rfl, by show (0 : Int) < 998244353; decide, ?_⟩
      generalize fi * fi % 998244353 = g at s0 s1
      have t0 := Int.emod_nonneg (g * 30011) (b := 998244353) (by decide)
      have t1 := Int.emod_lt_of_pos (g * 30011) (b := 998244353) (by decide)
      generalize g * 30011 % 998244353 = se at t0 t1
      refine ⟨_, rfl, _, _, rfl, rfl, _, rfl, ?_⟩
      by_cases cm : m > 1000000
      · rw [decide_eq_true cm]
        exact iteT ⟨_, rfl, _, _, rfl, rfl, .inl ⟨by omega, by omega⟩, _, rfl, _, _, rfl, rfl, _, rfl, _, _, rfl, rfl, by show (0 : Int) < m; omega, k _ _ be (Int.emod_nonneg _ (by omega)) (Int.emod_lt_of_pos _ (by omega))⟩
      · rw [decide_eq_false cm]
        exact iteF ⟨_, rfl, _, _, rfl, rfl, ⟨by decide, by decide⟩, _, rfl, _, _, rfl, rfl, by show (0 : Int) < m; omega, k _ _ be (Int.emod_nonneg _ (by omega)) (Int.emod_lt_of_pos _ (by omega))⟩
end
end Od

set_option Elab.async false
set_option linter.all false
set_option maxRecDepth 100000
set_option maxHeartbeats 4000000
/-! parents -/
namespace Od
open PySem PySem.Spec PyProof.Rows L2
open C8 (Cal Met InsC pe_c pe_mt pe_mt0 call_isC)
section
variable {P : Program} {w : World} {K : PySem.W.Frag} {mg : Str → Option Value} {base : Heap}
theorem BagH.new {H H1 : Hp} {B p : Addr} {o : HO} (h : BagH H B) (e : BE B H H1) (hp : H1 p = none) : BE B H (upd H1 p o) := e.put (h.free e hp)
theorem m40 : (70 : Int) ≤ 10 ^ 40 := by decide
def Par (ps : List Int) : Prop := ∀ (j : Nat) (v : Int), ps[j]? = some v → 0 ≤ v ∧ v ≤ j
def spParents : Sp := fun vs H Q _ => ∃ (B : Addr) (n : Nat), vs = [.ref B, .int n] ∧ BagH H B ∧ 1 ≤ n ∧ n ≤ 60 ∧ ∀ q ps H', H q = none → BE B H H' → IL H' q ps → ps.length = n - 1 → Par ps → Q (.ref q) H'
theorem sc_l_parents : FnScope ["_law_bag_here", "_law_size", "_law_way", "_law_core", "_law_found", "_law_k"] ["_law_bag_here", "_law_size"] (defScope s_l_parents) := ⟨rfl, rfl, rfl, by decide +kernel, rfl, by decide +kernel, by decide +kernel⟩
theorem par_snoc {ps : List Int} {v : Int} (h : Par ps) (h0 : 0 ≤ v) (h1 : v ≤ ps.length) : Par (ps ++ [v]) := by
  intro j u hu
  by_cases c : j < ps.length
  · rw [List.getElem?_append_left c] at hu
    exact h j u hu
  · rw [List.getElem?_append_right (by omega)] at hu
    have z : j - ps.length = 0 := by
      cases e : j - ps.length with
      | zero => rfl
      | succ k => rw [e] at hu; simp at hu
    rw [z] at hu
    cases hu
    exact ⟨h0, by omega⟩
theorem five_at {k : Nat} (h : k < 5) : ∃ v : Int, atI [V.int 0, V.int 0, V.int 2, V.int 0, V.int 4] (k : Int) = some (.int v) ∧ 0 ≤ v ∧ v ≤ k := by
  rcases (by omega : k = 0 ∨ k = 1 ∨ k = 2 ∨ k = 3 ∨ k = 4) with rfl | rfl | rfl | rfl | rfl
  · exact ⟨0, atI_nat (j := 0) rfl, by decide, by decide⟩
  · exact ⟨0, atI_nat (j := 1) rfl, by decide, by decide⟩
  · exact ⟨2, atI_nat (j := 2) rfl, by decide, by decide⟩
  · exact ⟨0, atI_nat (j := 3) rfl, by decide, by decide⟩
  · exact ⟨4, atI_nat (j := 4) rfl, by decide, by decide⟩
theorem two_at {r a b : Int} (h0 : 0 ≤ r) (h : r < 2) : ∃ v, atI [V.int a, V.int b] r = some (.int v) ∧ (v = a ∨ v = b) ∧ (r = 0 → v = a) ∧ (r = 1 → v = b) := by
  rcases (by omega : r = 0 ∨ r = 1) with rfl | rfl
  · exact ⟨a, at0, .inl rfl, fun _ => rfl, fun h => by omega⟩
  · exact ⟨b, at1, .inr rfl, fun h => by omega, fun _ => rfl⟩
theorem c_l_parents (W : Wd K mg) : Cal P w K mg base 2 "_law_parents" spParents [] := by
  refine W.cal 38 sc_l_parents (fun vs H Q E ⟨B, n, e, _⟩ => by rw [e]; rfl) (fun f cdv A outer s H vs Q E hr ⟨B, n, e, bag, n1, n60, k⟩ => ?_) (fun _ _ _ _ _ _ us hl => match us, hl with | [_, _], _ => rfl)
  subst e
  have nd := sc_l_parents.nd
  refine ⟨_, pss_cons (ps_set (i := 2) nd rfl (Or.inl rfl) (pe_c (c_l_take W) hr (by decide) (by rfl) (pa_cons (pv 0) (pa_cons pe_int pa_nil))))
    (pss_cons (ps_set (i := 3) nd rfl (Or.inl rfl) (pe_op op_add pe_int (pe_c (c_l_take W) hr (by decide) (by rfl) (pa_cons (pv 0) (pa_cons (pv 1) pa_nil)))))
    (pss_cons (ps_set (i := 4) nd rfl (Or.inl rfl) (pe_lst pa_nil))
    (pss_cons (ps_for PassesOwn.never rfl (pi_range2 (by rfl) W.nm.range (pa_cons pe_int (pa_cons (pv 1) pa_nil))) (pg_name (i := 5) nd rfl (Or.inl rfl))
      (pss_one (ps_if (pt_cmpR op_eq (pv 2) pe_int (nomark _)) (pss_one (ps_expr (pe_bm PySem.F.plainAttrs_list PySem.F.slot_list_append PySem.F.type_list_append mt_append (pv 4) (pa_cons (pe_op op_sub (pv 5) pe_int) pa_nil)))) 
        (pss_one (ps_if (pt_cmpR op_eq (pv 2) pe_int (nomark _)) (pss_one (ps_expr (pe_bm PySem.F.plainAttrs_list PySem.F.slot_list_append PySem.F.type_list_append mt_append (pv 4) (pa_cons (pe_int) pa_nil)))) 
        (pss_one (ps_if (pt_cmpR op_eq (pv 2) pe_int (nomark _)) (pss_one (ps_expr (pe_bm PySem.F.plainAttrs_list PySem.F.slot_list_append PySem.F.type_list_append mt_append (pv 4) (pa_cons (pe_ix ix_list (pe_lst (pa_cons (pe_ix ix_list (pe_lst (pa_cons pe_int (pa_cons (pe_op op_sub (pv 3) pe_int) pa_nil))) (pe_c (c_l_take W) hr (by decide) (by rfl) (pa_cons (pv 0) (pa_cons (pe_int) pa_nil))) (fun _ _ => rfl)) (pa_cons (pe_op op_sub (pv 5) pe_int) pa_nil))) (p_int1 W.nm (pe_cmpR op_lt (pv 5) (pv 3) (nomark _))) (fun _ _ => rfl)) pa_nil)))) 
        (pss_one (ps_if (PW.pt (pw_and (pt_cmpR op_eq (pv 2) pe_int (nomark _)) (pw_and1 (pt_cmpR op_lt (pv 5) pe_int (nomark _))))) (pss_one (ps_expr (pe_bm PySem.F.plainAttrs_list PySem.F.slot_list_append PySem.F.type_list_append mt_append (pv 4) (pa_cons (pe_ix ix_list (pe_lst (pa_cons pe_int (pa_cons pe_int (pa_cons pe_int (pa_cons pe_int (pa_cons pe_int pa_nil)))))) (pe_op op_sub (pv 5) pe_int) (fun _ _ => rfl)) pa_nil)))) 
        (pss_one (ps_if (pt_cmpR op_eq (pv 2) pe_int (nomark _)) (pss_one (ps_expr (pe_bm PySem.F.plainAttrs_list PySem.F.slot_list_append PySem.F.type_list_append mt_append (pv 4) (pa_cons (pe_callB (call_max2 rfl) (by rfl) W.nm.max boot_max (pa_cons pe_int (pa_cons (pe_op op_sub (pe_op op_sub (pv 5) pe_int) (pe_c (c_l_take W) hr (by decide) (by rfl) (pa_cons (pv 0) (pa_cons (pe_int) pa_nil)))) pa_nil))) pa_nil)))) 
        (pss_one (ps_expr (pe_bm PySem.F.plainAttrs_list PySem.F.slot_list_append PySem.F.type_list_append mt_append (pv 4) (pa_cons (pe_c (c_l_take W) hr (by decide) (by rfl) (pa_cons (pv 0) (pa_cons (pv 5) pa_nil))) pa_nil)))))))))))))))
    (pss_one (ps_ret (pv 4)))))), ?_⟩
  have big := m40
  refine ⟨_, rfl, B, 6, rfl, bag, by decide, by omega, fun way H1 b1 w0 w1 => ?_⟩
  refine ⟨_, rfl, _, rfl, B, n, rfl, bag.mono b1, by omega, by omega, fun r H2 b2 r0 r1 => ⟨_, _, rfl, rfl, ?_⟩⟩
  have b12 := b1.trans b2
  refine ⟨by show 0 ≤ sizeLine; decide, fun F hF => ?_⟩
  have hF0 := bag.free b12 hF
  have b3 : BE B H (upd H2 F (.lst [])) := bag.new b12 hF
  refine ⟨_, rfl, 1, n, rfl, ⟨by decide, by decide, by omega, by omega⟩, ?_⟩
  refine for_it walk_range (fun i σ H3 => BE B H H3 ∧ ∃ a5 ps, σ = [some (.ref B), some (.int n), some (.int way), some (.int (1 + r)), some (.ref F), a5] ∧ H3 F = some (.lst (List.map V.int ps)) ∧ ps.length = i ∧ Par ps)
    ⟨b3, none, [], rfl, upd_same, rfl, fun j v h => by simp at h⟩ (fun _ _ _ _ _ => trivial) ?_ ?_
  · rintro i x σ H3 H4 hi ⟨be, a5, ps, rfl, hp, pl, pr⟩ ⟨rfl, rfl⟩
    have hin : (1 : Int) + i < n := by omega
    have bag3 := bag.mono be
    -- what is appended
    have fin : ∀ (v : Int) (H5 : Hp), BE B H4 H5 → 0 ≤ v → v ≤ i → rAppend (.ref F) [.int v] H5 fun _ H6 => BE B H H6 ∧ ∃ a5 ps, [some (V.ref B), some (.int n), some (.int way), some (.int (1 + r)), some (.ref F), some (.int (1 + (i : Int)))] = [some (.ref B), some (.int n), some (.int way), some (.int (1 + r)), some (.ref F), a5] ∧ H6 F = some (.lst (List.map V.int ps)) ∧ ps.length = i + 1 ∧ Par ps := by
      intro v H5 b5 v0 v1
      have hp5 := bag3.ints b5 hp
      refine ⟨F, _, .int v, rfl, rfl, hp5, by rw [List.length_map, sizeLine_eq]; omega, (be.trans b5).put hF0, _, ps ++ [v], rfl, ?_, by rw [List.length_append, pl]; rfl, par_snoc pr v0 (by omega)⟩
      rw [upd_same, List.map_append]
      rfl
    have sq := fun {H5 : Hp} (b5 : BE B H4 H5) => bag3.ints b5 hp
    refine ⟨_, rfl, rfl, _, rfl, ?_⟩
    rw [dvi]
    by_cases c1 : way = 1
    · rw [decide_eq_true c1]
      exact iteT ⟨_, rfl, .inl ⟨rfl, _, SqL.of hp⟩, _, rfl, _, _, rfl, rfl, fin _ H4 (BE.rfl' B H4) (by omega) (by omega)⟩
    · rw [decide_eq_false c1]
      refine iteF ⟨_, rfl, rfl, _, rfl, ?_⟩
      rw [dvi]
      by_cases c2 : way = 2
      · rw [decide_eq_true c2]
        exact iteT ⟨_, rfl, .inl ⟨rfl, _, SqL.of hp⟩, fin _ H4 (BE.rfl' B H4) (by decide) (by omega)⟩
      · rw [decide_eq_false c2]
        refine iteF ⟨_, rfl, rfl, _, rfl, ?_⟩
        rw [dvi]
        by_cases c3 : way = 3
        · rw [decide_eq_true c3]
          refine iteT ⟨_, rfl, .inl ⟨rfl, _, SqL.of hp⟩, _, rfl, _, _, rfl, rfl, by show 2 ≤ sizeLine; decide, fun l hl => ?_⟩
          have f1 := (Ex.new (o := .lst [.int 0, .int (1 + r - 1)]) hl).be B
          refine ⟨_, rfl, B, 2, rfl, bag3.mono f1, by decide, by omega, fun u H5 b5 u0 u1 => ?_⟩
          obtain ⟨v, v1, v2, _⟩ := two_at (a := 0) (b := 1 + r - 1) u0 u1
          have l5 := (bag3.mono f1).ints (ns := [0, 1 + r - 1]) b5 upd_same
          refine ⟨l, _, _, _, rfl, rfl, SqL.of l5, v1, _, rfl, _, _, rfl, rfl, by show 2 ≤ sizeLine; decide, fun l2 hl2 => ?_⟩
          have f2 := (f1.trans b5).trans ((Ex.new (o := .lst [.int v, .int (1 + (i : Int) - 1)]) hl2).be B)
          refine ⟨_, rfl, _, rfl, _, _, rfl, rfl, .inr ⟨_, rfl, ?_⟩⟩
          by_cases d : (1 : Int) + i < 1 + r
          · rw [decide_eq_true d]
            exact ⟨l2, _, _, _, rfl, rfl, SqL.of upd_same, at1, fin _ _ f2 (by omega) (by omega)⟩
          · rw [decide_eq_false d]
            exact ⟨l2, _, _, _, rfl, rfl, SqL.of upd_same, at0, fin _ _ f2 (by omega) (by omega)⟩
        · rw [decide_eq_false c3]
          refine iteF ⟨_, rfl, rfl, _, rfl, ?_⟩
          rw [dvi]
          by_cases c4 : way = 4 ∧ (1 : Int) + i < 6
          · rw [decide_eq_true c4.1]
            refine iteT ⟨_, rfl, _, _, rfl, rfl, _, rfl, ?_⟩
            rw [decide_eq_true c4.2]
            obtain ⟨v, v1, v2, v3⟩ := five_at (k := i) (by omega)
            refine iteT ⟨_, rfl, .inl ⟨rfl, _, SqL.of hp⟩, by show 5 ≤ sizeLine; decide, fun l hl => ?_⟩
            have f1 := (Ex.new (o := .lst [.int 0, .int 0, .int 2, .int 0, .int 4]) hl).be B
            refine ⟨_, rfl, _, _, rfl, rfl, l, _, _, _, rfl, rfl, SqL.of upd_same, ?_, fin v _ f1 v2 (by omega)⟩
            rw [show (1 : Int) + (i : Int) - 1 = (i : Int) by omega]
            exact v1
          · have go : ∀ (A1 A2 : Prop), A2 → (if decide (way = 4) = true then (∃ v, [some (V.ref B), some (.int n), some (.int way), some (.int (1 + r)), some (.ref F), some (.int (1 + (i : Int)))][5]? = some (some v) ∧ ∃ i_1 j, v = .int i_1 ∧ V.int 6 = .int j ∧ ∃ k, V.bl (decide (i_1 < j)) = .bl k ∧ if k = true then A1 else A2) else if false = true then A1 else A2) := by
              intro A1 A2 h
              by_cases c : way = 4
              · rw [decide_eq_true c]
                refine iteT ⟨_, rfl, _, _, rfl, rfl, _, rfl, ?_⟩
                rw [decide_eq_false (fun h => c4 ⟨c, h⟩)]
                exact iteF h
              · rw [decide_eq_false c]
                exact iteF (iteF h)
            refine go _ _ ?_
            refine ⟨_, rfl, rfl, _, rfl, ?_⟩
            rw [dvi]
            by_cases c5 : way = 5
            · rw [decide_eq_true c5]
              refine iteT ⟨_, rfl, .inl ⟨rfl, _, SqL.of hp⟩, _, rfl, _, _, rfl, rfl, _, rfl, B, 2, rfl, bag3, by decide, by omega, fun u H5 b5 u0 u1 => ⟨_, _, rfl, rfl, _, _, rfl, ?_⟩⟩
              by_cases d : (1 : Int) + i - 1 - u > 0
              · rw [if_pos d]
                exact fin _ _ b5 (by omega) (by omega)
              · rw [if_neg d]
                exact fin _ _ b5 (by decide) (by omega)
            · rw [decide_eq_false c5]
              exact iteF ⟨_, rfl, .inl ⟨rfl, _, SqL.of hp⟩, _, rfl, _, rfl, B, 1 + (i : Int), rfl, bag3, by omega, by omega, fun u H5 b5 u0 u1 => fin _ _ b5 u0 (by omega)⟩
  · rintro σ H3 ⟨be, a5, ps, rfl, hp, pl, pr⟩
    exact ⟨_, rfl, k F ps H3 hF0 be hp (by omega) pr⟩
end
end Od

set_option Elab.async false
set_option linter.all false
set_option maxRecDepth 100000
set_option maxHeartbeats 4000000
/-! ties, some -/
namespace Od
open PySem PySem.Spec PyProof.Rows L2
open C8 (Cal Met InsC pe_c pe_mt pe_mt0 call_isC)
theorem insert_perm {l : List Int} {i : Nat} {v : Int} : (l.take i ++ [v] ++ l.drop i).Perm (l ++ [v]) := by
  have h : (l.take i ++ [v] ++ l.drop i).Perm (v :: (l.take i ++ l.drop i)) := by
    rw [List.append_assoc]
    exact List.perm_middle
  rw [List.take_append_drop] at h
  exact h.trans (List.perm_append_singleton v l).symm
theorem posts_succ (n : Nat) : Odd.posts (n + 1) = Odd.posts n ++ [(n : Int)] := by
  unfold Odd.posts
  rw [List.range_succ, List.map_append]
  rfl
theorem sort_two {a b : Int} {ms : List Int} (ne : a ≠ b) (p : ms.Perm [a, b]) (le : ms.Pairwise (· ≤ ·)) : ms = [(Odd.mkt a b).1, (Odd.mkt a b).2] := by
  rcases Int.lt_or_le a b with h | h
  · have e : Odd.mkt a b = (a, b) := by unfold Odd.mkt; rw [if_pos h]
    rw [e]
    exact up_unique p le (by simp; omega)
  · have e : Odd.mkt a b = (b, a) := by unfold Odd.mkt; rw [if_neg (by omega)]
    rw [e]
    exact up_unique (p.trans (List.Perm.swap _ _ [])) le (by simp; omega)
/-- the tree of an order and of parents -/
theorem tr_of {n : Nat} {od ps : List Int} (h1 : 1 ≤ n) (po : od.Perm (Odd.posts n)) (pl : ps.length = n - 1) (pr : Par ps) : Odd.Tr n (fun i => od.getD i 0) (fun k => if k = 0 then 0 else (ps.getD (k - 1) 0).toNat) := by
  have ol : od.length = n := by rw [po.length_eq, Odd.posts_len]
  have at_o : ∀ i, (h : i < n) → od.getD i 0 = od[i]'(by omega) := fun i h => by rw [List.getD_eq_getElem?_getD, List.getElem?_eq_getElem (by omega)]; rfl
  have nd : od.Nodup := po.nodup_iff.mpr Odd.posts_nodup
  have mem : ∀ i, (h : i < n) → 0 ≤ od.getD i 0 ∧ od.getD i 0 < n := fun i h => by
    rw [at_o i h]
    exact Odd.mem_posts.mp (po.mem_iff.mp (List.getElem_mem _))
  refine ⟨fun i h => (mem i h).1, fun i h => (mem i h).2, fun i j hi hj e => ?_, fun x x0 x1 => ?_, rfl, fun k k1 kn => ?_⟩
  · rw [at_o i hi, at_o j hj] at e
    exact (List.getElem_inj nd).mp e
  · have m := po.mem_iff.mpr (Odd.mem_posts.mpr ⟨x0, x1⟩)
    obtain ⟨i, hi, e⟩ := List.getElem_of_mem m
    exact ⟨i, by omega, by show od.getD i 0 = x; rw [at_o i (by omega)]; exact e⟩
  · show (if k = 0 then 0 else (ps.getD (k - 1) 0).toNat) < k
    rw [if_neg (by omega)]
    have hk : k - 1 < ps.length := by omega
    have z := pr (k - 1) (ps[k - 1]) (List.getElem?_eq_getElem hk)
    rw [List.getD_eq_getElem?_getD, List.getElem?_eq_getElem hk]
    show (ps[k - 1]).toNat < k
    omega
section
variable {P : Program} {w : World} {K : PySem.W.Frag} {mg : Str → Option Value} {base : Heap}
def spTies' : Sp := fun vs H Q _ => ∃ (B : Addr) (n : Nat), vs = [.ref B, .int n] ∧ BagH H B ∧ 1 ≤ n ∧ n ≤ 60 ∧ ∀ q us H', H q = none → BE B H H' → TL H' q us → Odd.IsTree n us → Q (.ref q) H'
theorem sc_l_ties : FnScope ["_law_bag_here", "_law_size", "_law_parents_here", "_law_order", "_law_mixed", "_law_k", "_law_found", "_law_ends"] ["_law_bag_here", "_law_size"] (defScope s_l_ties) := ⟨rfl, rfl, rfl, by decide +kernel, rfl, by decide +kernel, by decide +kernel⟩
theorem c_l_ties (W : Wd K mg) : Cal P w K mg base 3 "_law_ties" spTies' [] := by
  refine W.cal 39 sc_l_ties (fun vs H Q E ⟨B, n, e, _⟩ => by rw [e]; rfl) (fun f cdv A outer s H vs Q E hr ⟨B, n, e, bag, n1, n60, k⟩ => ?_) (fun _ _ _ _ _ _ us hl => match us, hl with | [_, _], _ => rfl)
  subst e
  have nd := sc_l_ties.nd
  refine ⟨_, pss_cons (ps_set (i := 2) nd rfl (Or.inl rfl) (pe_c (c_l_parents W) hr (by decide) (by rfl) (pa_cons (pv 0) (pa_cons (pv 1) pa_nil))))
    (pss_cons (ps_set (i := 3) nd rfl (Or.inl rfl) (pe_lst pa_nil))
    (pss_cons (ps_set (i := 4) nd rfl (Or.inl rfl) (pe_cmpR op_gt (pe_c (c_l_take W) hr (by decide) (by rfl) (pa_cons (pv 0) (pa_cons pe_int pa_nil))) pe_int (nomark _)))
    (pss_cons (ps_for PassesOwn.never rfl (pi_range1 (by rfl) W.nm.range (pa_cons (pv 1) pa_nil)) (pg_name (i := 5) nd rfl (Or.inl rfl))
      (pss_one (ps_expr (pe_bm PySem.F.plainAttrs_list PySem.F.slot_list_insert PySem.F.type_list_insert mt_insert (pv 3)
        (pa_cons (pe_ix ix_list (pe_lst (pa_cons (pv 5) (pa_cons (pe_c (c_l_take W) hr (by decide) (by rfl) (pa_cons (pv 0) (pa_cons (pe_op op_add (pv 5) pe_int) pa_nil))) pa_nil))) (p_int1 W.nm (pv 4)) (fun _ _ => rfl)) (pa_cons (pv 5) pa_nil))))))
    (pss_cons (ps_set (i := 6) nd rfl (Or.inl rfl) (pe_lst pa_nil))
    (pss_cons (ps_for PassesOwn.never rfl (pi_range2 (by rfl) W.nm.range (pa_cons pe_int (pa_cons (pv 1) pa_nil))) (pg_name (i := 5) nd rfl (Or.inl rfl))
      (pss_cons (ps_set (i := 7) nd rfl (Or.inl rfl) (pe_callB cr_sortedA (by rfl) W.nm.sorted boot_sorted (pa_cons (pe_lst (pa_cons (pe_ix ix_list (pv 3) (pv 5) (fun _ _ => rfl)) (pa_cons (pe_ix ix_list (pv 3) (pe_ix ix_list (pv 2) (pe_op op_sub (pv 5) pe_int) (fun _ _ => rfl)) (fun _ _ => rfl)) pa_nil))) pa_nil)))
        (pss_one (ps_expr (pe_bm PySem.F.plainAttrs_list PySem.F.slot_list_append PySem.F.type_list_append mt_append (pv 6) (pa_cons (pe_tup (pa_cons (pe_ix ix_list (pv 7) pe_int (fun _ _ => rfl)) (pa_cons (pe_ix ix_list (pv 7) pe_int (fun _ _ => rfl)) pa_nil))) pa_nil))))))
    (pss_one (ps_ret (pe_stepL (pe_callB cr_sortedPO (by rfl) W.nm.sorted boot_sorted (pa_cons (pv 6) pa_nil)) (pe_ix ix_list (pe_lst (pa_cons pe_int (pa_cons (pe_un un_neg pe_int) pa_nil))) (pe_c (c_l_take W) hr (by decide) (by rfl) (pa_cons (pv 0) (pa_cons pe_int pa_nil))) (fun _ _ => rfl)))))))))), ?_⟩
  have big := m40
  refine ⟨_, rfl, _, rfl, B, n, rfl, bag, n1, n60, fun qp ps H1 hqp b1 ilp pl pr => ?_⟩
  refine ⟨by show 0 ≤ sizeLine; decide, fun Or1 hOr => ?_⟩
  have hOr0 := bag.free b1 hOr
  have b2 : BE B H (upd H1 Or1 (.lst [])) := bag.new b1 hOr
  have hor2 : (upd H1 Or1 (.lst [])) Or1 = some (.lst []) := upd_same
  have ilp2 : (upd H1 Or1 (.lst [])) qp = some (.lst (ps.map V.int)) := by rw [upd_ne (ne_of_none ilp hOr)]; exact ilp
  have nqo : Or1 ≠ qp := (ne_of_none ilp hOr).symm
  generalize upd H1 Or1 (.lst []) = H2 at b2 hor2 ilp2
  refine ⟨_, rfl, B, 3, rfl, bag.mono b2, by decide, by omega, fun mx H3 b3 mx0 mx1 => ⟨_, _, rfl, rfl, ?_⟩⟩
  have bag2 := bag.mono b2
  have b23 := b2.trans b3
  refine ⟨_, rfl, _, rfl, by omega, by omega, ?_⟩
  obtain ⟨mixed, hmx⟩ : ∃ b, b = decide (0 < mx) := ⟨_, rfl⟩
  refine for_it walk_range (fun i σ H4 => BE B H H4 ∧ H4 qp = some (.lst (ps.map V.int)) ∧ ∃ a5 od, σ = [some (.ref B), some (.int n), some (.ref qp), some (.ref Or1), some (.bl mixed), a5, none, none] ∧ H4 Or1 = some (.lst (List.map V.int od)) ∧ od.Perm (Odd.posts i))
    ⟨b23, bag2.ints b3 ilp2, none, [], by rw [hmx]; rfl, bag2.ints (ns := []) b3 hor2, List.Perm.nil⟩ (fun _ _ _ _ _ => trivial) ?_ ?_
  · rintro i x σ H4 H5 hi ⟨be, ip, a5, od, rfl, ho, po⟩ ⟨rfl, rfl⟩
    have bag4 := bag.mono be
    have odl : od.length = i := by rw [po.length_eq, Odd.posts_len]
    have hin : (0 : Int) + i < n := by have : i < n := hi; omega
    refine ⟨_, rfl, .inl ⟨rfl, _, SqL.of ho⟩, _, rfl, _, rfl, _, rfl, _, _, rfl, rfl, B, (0 : Int) + i + 1, rfl, bag4, by omega, by omega, fun u H6 b6 u0 u1 => ?_⟩
    refine ⟨by show 2 ≤ sizeLine; decide, fun l hl => ?_⟩
    have b7 : BE B H5 (upd H6 l (.lst [.int (0 + (i : Int)), .int u])) := bag4.new b6 hl
    have hl7 : (upd H6 l (.lst [.int (0 + (i : Int)), .int u])) l = some (.lst [.int (0 + (i : Int)), .int u]) := upd_same
    refine ⟨_, rfl, .inr ⟨mixed, rfl, ?_⟩⟩
    obtain ⟨v, v1, v2, _⟩ := two_at (r := if mixed = true then 1 else 0) (a := 0 + (i : Int)) (b := u) (by split <;> decide) (by split <;> decide)
    have vr : 0 ≤ v ∧ v ≤ i := by rcases v2 with e | e <;> omega
    refine ⟨l, _, _, _, rfl, rfl, SqL.of hl7, v1, _, rfl, Or1, _, v, _, rfl, rfl, bag4.ints b7 ho, by rw [List.length_map, odl, sizeLine_eq]; omega, vr.1, by omega, ?_⟩
    have hOrB : Or1 ≠ B := fun e => by
      obtain ⟨pc, cs, ⟨x, y, z, g, _⟩, _⟩ := bag
      rw [← e, hOr0] at g
      cases g
    refine ⟨be.trans b7 |>.put hOr0, ?_, _, od.take v.toNat ++ [(0 : Int) + i] ++ od.drop v.toNat, rfl, ?_, ?_⟩
    · rw [upd_ne nqo.symm]
      exact bag4.ints b7 ip
    · rw [upd_same, List.map_append, List.map_append, List.map_take, List.map_drop]
      rfl
    · refine insert_perm.trans ?_
      rw [posts_succ, Int.zero_add]
      exact po.append_right _
  · rintro σ H4 ⟨be, ip, a5, od, rfl, ho, po⟩
    have po : od.Perm (Odd.posts n) := po
    have bag4 := bag.mono be
    have odl : od.length = n := by rw [po.length_eq, Odd.posts_len]
    refine ⟨by show 0 ≤ sizeLine; decide, fun F hF => ?_⟩
    have hF0 := bag.free be hF
    have be5 : BE B H (upd H4 F (.lst [])) := bag.new be hF
    have ex5 : Ex H4 (upd H4 F (.lst [])) := Ex.new hF
    have hF5 : (upd H4 F (.lst [])) F = some (.lst []) := upd_same
    have nFq : F ≠ qp := (ne_of_none ip hF).symm
    have nFo : F ≠ Or1 := (ne_of_none ho hF).symm
    generalize upd H4 F (.lst []) = H5 at be5 ex5 hF5
    have ip5 := ex5 _ _ ip
    have ho5 := ex5 _ _ ho
    refine ⟨_, rfl, 1, n, rfl, ⟨by decide, by decide, by omega, by omega⟩, ?_⟩
    have T := tr_of n1 po pl pr
    refine for_it walk_range (fun i σ H6 => BE B H H6 ∧ H6 qp = some (.lst (ps.map V.int)) ∧ H6 Or1 = some (.lst (od.map V.int)) ∧ ∃ a5 a7, ∃ ks : List (Addr × (Int × Int)), σ = [some (.ref B), some (.int n), some (.ref qp), some (.ref Or1), some (.bl mixed), a5, some (.ref F), a7] ∧
        H6 F = some (.lst (ks.map fun k => V.ref k.1)) ∧ (∀ k ∈ ks, H6 k.1 = some (.tup [.int k.2.1, .int k.2.2])) ∧ ks.map (·.2) = (List.range i).map fun j => Odd.mkt (od.getD (j + 1) 0) (od.getD (ps.getD j 0).toNat 0))
      ⟨be5, ip5, ho5, _, none, [], rfl, hF5, by simp, rfl⟩ (fun _ _ _ _ _ => trivial) ?_ ?_
    · rintro i x σ H6 H7 hi ⟨be6, ip6, ho6, a5, a7, ks, rfl, hf6, hk6, ek⟩ ⟨rfl, rfl⟩
      have hin : (1 : Int) + i < n := by omega
      have hps : i < ps.length := by omega
      have pv := pr i _ (List.getElem?_eq_getElem hps)
      have o1 := lab_at (l := od) (x := (1 : Int) + i) (by omega) (by omega)
      have o2 := lab_at (l := ps) (x := (1 : Int) + i - 1) (by omega) (by omega)
      have lp : Odd.lab ps ((1 : Int) + i - 1) = ps[i] := by
        unfold Odd.lab
        rw [show ((1 : Int) + (i : Int) - 1).toNat = i by omega, List.getD_eq_getElem?_getD, List.getElem?_eq_getElem hps]
        rfl
      rw [lp] at o2
      have o3 := lab_at (l := od) (x := ps[i]) pv.1 (by omega)
      have e1 : Odd.lab od ((1 : Int) + i) = od.getD (i + 1) 0 := by
        unfold Odd.lab
        rw [show ((1 : Int) + (i : Int)).toNat = i + 1 by omega]
      have e3 : Odd.lab od ps[i] = od.getD (ps.getD i 0).toNat 0 := by
        unfold Odd.lab
        rw [List.getD_eq_getElem?_getD (l := ps), List.getElem?_eq_getElem hps]
        rfl
      rw [e1] at o1
      rw [e3] at o3
      refine ⟨_, rfl, _, rfl, Or1, _, _, _, rfl, rfl, SqL.of ho6, o1, _, rfl, _, rfl, _, rfl, _, _, rfl, rfl, qp, _, _, _, rfl, rfl, SqL.of ip6, o2, Or1, _, _, _, rfl, rfl, SqL.of ho6, o3, by show 2 ≤ sizeLine; decide, fun l hl => ?_⟩
      have f8 := Ex.new (o := .lst ([od.getD (i + 1) 0, od.getD (ps.getD i 0).toNat 0].map V.int)) hl
      refine ⟨l, [od.getD (i + 1) 0, od.getD (ps.getD i 0).toNat 0], rfl, .inl (SqL.of upd_same), by show 2 < 64; decide, fun ms p2 pm le hp2 => ?_⟩
      have ne : od.getD (i + 1) 0 ≠ od.getD (ps.getD i 0).toNat 0 := fun e => by
        have z := T.inj (i + 1) (ps.getD i 0).toNat (by omega) ?_ e
        · rw [List.getD_eq_getElem?_getD, List.getElem?_eq_getElem hps] at z
          have z : i + 1 = (ps[i]).toNat := z
          omega
        · rw [List.getD_eq_getElem?_getD, List.getElem?_eq_getElem hps]
          show (ps[i]).toNat < n
          omega
      have em := sort_two ne pm le
      subst em
      have f9 := f8.trans (Ex.new (o := .lst ([(Odd.mkt (od.getD (i + 1) 0) (od.getD (ps.getD i 0).toNat 0)).1, (Odd.mkt (od.getD (i + 1) 0) (od.getD (ps.getD i 0).toNat 0)).2].map V.int)) hp2)
      generalize hmt : Odd.mkt (od.getD (i + 1) 0) (od.getD (ps.getD i 0).toNat 0) = mt at f9
      refine ⟨_, rfl, .inl ⟨rfl, _, SqL.of (f9 _ _ hf6)⟩, _, rfl, p2, _, _, _, rfl, rfl, SqL.of upd_same, at0, _, rfl, p2, _, _, _, rfl, rfl, SqL.of upd_same, at1, by show 2 ≤ sizeLine; decide, fun t ht => ?_⟩
      have f10 := f9.trans (Ex.new (o := .tup [.int mt.1, .int mt.2]) ht)
      have kl : ks.length = i := by
        have := congrArg List.length ek
        rw [List.length_map, List.length_map, List.length_range] at this
        exact this
      have ht0 : ∀ {a o}, H7 a = some o → a ≠ t := fun ha => ne_of_none (f9 _ _ ha) ht
      refine ⟨F, _, .ref t, rfl, rfl, f10 _ _ hf6, by rw [List.length_map, kl, sizeLine_eq]; omega, (be6.trans (f10.be B)).put hF0, ?_, ?_, _, _, ks ++ [(t, mt)], rfl, ?_, fun z hz => ?_, ?_⟩
      · rw [upd_ne nFq.symm]; exact f10 _ _ ip6
      · rw [upd_ne nFo.symm]; exact f10 _ _ ho6
      · rw [upd_same, List.map_append]; rfl
      · have nz : z.1 ≠ F := by
          rcases List.mem_append.mp hz with hz | hz
          · intro e; have := hk6 z hz; rw [e, hf6] at this; cases this
          · rw [List.mem_singleton.mp hz]; exact (ht0 hf6).symm
        rw [upd_ne nz]
        rcases List.mem_append.mp hz with hz | hz
        · exact f10 _ _ (hk6 z hz)
        · rw [List.mem_singleton.mp hz]; exact upd_same
      · rw [List.map_append, ek, List.range_succ, List.map_append, ← hmt]
        rfl
    · rintro σ H6 ⟨be6, ip6, ho6, a5, a7, ks, rfl, hf6, hk6, ek⟩
      have tl6 : TL H6 F (ks.map (·.2)) := ⟨ks, rfl, hf6, hk6⟩
      have tree : Odd.IsTree n (ks.map (·.2)) := by
        refine ⟨_, _, T, ?_⟩
        rw [ek, show ((n : Int) - 1).toNat = n - 1 by omega]
        unfold Odd.edges
        refine List.Perm.of_eq (List.map_congr_left fun j _ => ?_)
        show _ = Odd.mkt (od.getD (j + 1) 0) (od.getD (if j + 1 = 0 then 0 else (ps.getD (j + 1 - 1) 0).toNat) 0)
        rw [if_neg (Nat.succ_ne_zero j), Nat.add_sub_cancel]
      obtain ⟨xs0, s1, s2, s3⟩ := sortedTL tl6
      refine ⟨_, rfl, F, xs0, kOf H6, rfl, SqL.of s1, s2, fun ys q so0 st hq => ?_⟩
      obtain ⟨us, pu, so, tlu⟩ := s3 ys q so0 st hq
      have f7 := Ex.new (o := .lst ys) hq
      have hqy : (upd H6 q (.lst ys)) q = some (.lst ys) := upd_same
      generalize upd H6 q (.lst ys) = H7 at f7 hqy tlu
      refine ⟨_, rfl, by show 2 ≤ sizeLine; decide, fun l hl => ?_⟩
      have f8 := Ex.new (o := .lst [.int 1, .int (-1)]) hl
      have hl8 : (upd H7 l (.lst [.int 1, .int (-1)])) l = some (.lst ([1, -1].map V.int)) := upd_same
      show tCall _ _ _ _ _ (upd H7 l (.lst [.int 1, .int (-1)])) _
      generalize upd H7 l (.lst [.int 1, .int (-1)]) = H8 at f8 hl8
      have bag8 := bag.mono (be6.trans ((f7.trans f8).be B))
      refine ⟨_, rfl, B, 2, rfl, bag8, by decide, by omega, fun u H9 b9 u0 u1 => ?_⟩
      obtain ⟨v, v1, v2, _⟩ := two_at (a := 1) (b := -1) u0 u1
      have b69 := be6.trans (((f7.trans f8).be B).trans b9)
      have tl9 := bag8.tl b9 (tlu.mono f8)
      have treeU := tree.perm pu
      obtain ⟨kz, z1, z2, z3⟩ := tl9
      refine ⟨l, _, _, _, rfl, rfl, SqL.of (bag8.ints b9 hl8), v1, v, rfl, q, kz.map fun k => V.ref k.1, rfl, SqL.of z2, ?_⟩
      rcases v2 with rfl | rfl
      · refine .inl ⟨rfl, fun p hp => k p us _ (bag.free b69 hp) (bag.new b69 hp) ⟨kz, z1, upd_same, fun k hk => ?_⟩ treeU⟩
        have := z3 k hk
        rw [upd_ne (fun e => by rw [e, hp] at this; cases this)]
        exact this
      · refine .inr ⟨rfl, fun p hp => k p us.reverse _ (bag.free b69 hp) (bag.new b69 hp) ⟨kz.reverse, by rw [List.map_reverse, z1], by rw [upd_same, List.map_reverse], fun k hk => ?_⟩ (treeU.perm (List.reverse_perm us))⟩
        have := z3 k (List.mem_reverse.mp hk)
        rw [upd_ne (fun e => by rw [e, hp] at this; cases this)]
        exact this
end
end Od

set_option Elab.async false
set_option linter.all false
set_option maxRecDepth 100000
set_option maxHeartbeats 4000000
/-! some, wires, scene, yard -/
namespace Od
open PySem PySem.Spec PyProof.Rows L2
open C8 (Cal Met InsC pe_c pe_mt pe_mt0 call_isC)
section
variable {P : Program} {w : World} {K : PySem.W.Frag} {mg : Str → Option Value} {base : Heap}
theorem six_at {r : Int} (h0 : 0 ≤ r) (h : r < 6) : ∃ v, atI [V.int 0, V.int 4, V.int 0, V.int 1, V.int 2, V.int 3] r = some (.int v) := by
  rcases (by omega : r = 0 ∨ r = 1 ∨ r = 2 ∨ r = 3 ∨ r = 4 ∨ r = 5) with rfl | rfl | rfl | rfl | rfl | rfl
  · exact ⟨_, atI_nat (j := 0) rfl⟩
  · exact ⟨_, atI_nat (j := 1) rfl⟩
  · exact ⟨_, atI_nat (j := 2) rfl⟩
  · exact ⟨_, atI_nat (j := 3) rfl⟩
  · exact ⟨_, atI_nat (j := 4) rfl⟩
  · exact ⟨_, atI_nat (j := 5) rfl⟩
def UpR (n : Nat) (l : List Int) : Prop := l.Pairwise (· < ·) ∧ ∀ x ∈ l, 0 ≤ x ∧ x < n
theorem up_sub {n : Nat} {l : List Int} (h : l.Sublist (Odd.posts n)) : UpR n l := ⟨Odd.posts_up.sublist h, fun x hx => Odd.mem_posts.mp (h.subset hx)⟩
theorem UpR.len {n : Nat} {l : List Int} (h : UpR n l) : l.length ≤ n := by
  have := Odd.up_len l 0 n h.1 h.2
  omega
def spSome : Sp := fun vs H Q _ => ∃ (B : Addr) (n : Nat), vs = [.ref B, .int n] ∧ BagH H B ∧ 1 ≤ n ∧ n ≤ 60 ∧ ∀ q l H', H q = none → BE B H H' → IL H' q l → UpR n l → Q (.ref q) H'
theorem sc_l_some : FnScope ["_law_bag_here", "_law_size", "_law_way", "_law_part", "_law_post"] ["_law_bag_here", "_law_size"] (defScope s_l_some) := ⟨rfl, rfl, rfl, by decide +kernel, rfl, by decide +kernel, by decide +kernel⟩
theorem c_l_some (W : Wd K mg) : Cal P w K mg base 2 "_law_some" spSome [] := by
  refine W.cal 40 sc_l_some (fun vs H Q E ⟨B, n, e, _⟩ => by rw [e]; rfl) (fun f cdv A outer s H vs Q E hr ⟨B, n, e, bag, n1, n60, k⟩ => ?_) (fun _ _ _ _ _ _ us hl => match us, hl with | [_, _], _ => rfl)
  subst e
  have nd := sc_l_some.nd
  refine ⟨_, pss_cons (ps_set (i := 2) nd rfl (Or.inl rfl) (pe_c (c_l_take W) hr (by decide) (by rfl) (pa_cons (pv 0) (pa_cons pe_int pa_nil))))
    (pss_cons (ps_if (pt_cmpR op_eq (pv 2) pe_int (nomark _)) (pss_one (ps_ret (pe_lst (pa_cons (pe_c (c_l_take W) hr (by decide) (by rfl) (pa_cons (pv 0) (pa_cons (pv 1) pa_nil))) pa_nil)))) pss_nil)
    (pss_cons (ps_set (i := 3) nd rfl (Or.inr rfl) (pe_ix ix_list (pe_lst (pa_cons pe_int (pa_cons pe_int (pa_cons pe_int (pa_cons pe_int (pa_cons pe_int (pa_cons pe_int pa_nil))))))) (pv 2) (fun _ _ => rfl)))
    (pss_one (ps_ret (pe_lc (own := [("_law_post", 4)]) (g := gName 4) rfl nd (pi_range1 (by rfl) W.nm.range (pa_cons (pv 1) pa_nil)) (blkOk_by (N := ["_law_bag_here", "_law_size", "_law_way", "_law_part", "_law_post"]) (sc := defScope s_l_some) (by decide +kernel))
      (fun _ _ _ _ _ => pg_name (i := 4) nd rfl (Or.inl rfl)) (fun _ _ _ _ _ => pts_one (pt_cmpR op_lt (pe_c (c_l_take W) hr (by decide) (by rfl) (pa_cons (pv 0) (pa_cons pe_int pa_nil))) (pv 3) (nomark _))) (fun _ _ _ _ _ => pv 4)))))), ?_⟩
  have big := m40
  refine ⟨_, rfl, B, 6, rfl, bag, by decide, by omega, fun way H1 b1 w0 w1 => ?_⟩
  have bag1 := bag.mono b1
  refine ⟨_, rfl, rfl, _, rfl, ?_⟩
  rw [dvi]
  by_cases c : way = 2
  · rw [decide_eq_true c]
    refine iteT ⟨_, rfl, _, rfl, B, n, rfl, bag1, by omega, by omega, fun r H2 b2 r0 r1 => ⟨by show 1 ≤ sizeLine; decide, fun l hl => ?_⟩⟩
    exact k l [r] _ (bag.free (b1.trans b2) hl) (bag.new (b1.trans b2) hl) upd_same ⟨by simp, fun x hx => by rw [List.mem_singleton.mp hx]; exact ⟨r0, r1⟩⟩
  · rw [decide_eq_false c]
    refine iteF ⟨by show 6 ≤ sizeLine; decide, fun l hl => ?_⟩
    have b2 := bag.new (o := .lst [.int 0, .int 4, .int 0, .int 1, .int 2, .int 3]) b1 hl
    obtain ⟨v, v1⟩ := six_at w0 w1
    refine ⟨_, rfl, l, _, _, _, rfl, rfl, SqL.of upd_same, v1, ?_⟩
    generalize upd H1 l (.lst [.int 0, .int 4, .int 0, .int 1, .int 2, .int 3]) = H2 at b2
    have bag2 := bag.mono b2
    refine ⟨_, rfl, _, rfl, by omega, by omega, fun D hD => lcAny (er_be B) (D := D) ?_ walk_range (Odd.posts n) V.int V.int y_posts Odd.posts_len (by show n ≤ _; omega) hD (fun _ _ => trivial) (fun _ => rfl) (fun x hx H3 e3 Q3 q3 => ?_) (fun x hx H3 e3 Q3 q3 => ⟨_, rfl, q3 _ (BE.rfl' B _)⟩) (fun H3 l3 e3 sl h3 => ?_)⟩
    · have nDB : D ≠ B := fun e => by
        obtain ⟨pc, cs, ⟨x, y, z, g, _⟩, _⟩ := bag2
        rw [← e, hD] at g
        cases g
      exact fun Ha Hb o e h => e.1 D o nDB h
    · exact ⟨_, rfl, B, 4, rfl, bag2.mono e3, by decide, by omega, fun r H4 b4 r0 r1 => ⟨_, rfl, _, _, rfl, rfl, _, rfl, q3 _ _ b4⟩⟩
    · exact k D l3 H3 (bag.free b2 hD) (b2.trans e3) h3 (up_sub sl)
/-! ### wires -/
def spWires : Sp := fun vs H Q _ => ∃ (B : Addr) (n : Nat) (pn : Addr) (ts : List (Int × Int)) (rs : List (List Int)), vs = [.ref B, .int n, .ref pn] ∧ BagH H B ∧ 1 ≤ n ∧ n ≤ 60 ∧ RL H pn rs ∧ Odd.IsTree n ts ∧ Odd.Near n ts rs ∧
  ∀ q l H', H q = none → BE B H H' → IL H' q l → UpR n l → Q (.ref q) H'
theorem row_sym {n : Nat} {ts : List (Int × Int)} {rs : List (List Int)} (T : Odd.IsTree n ts) (N : Odd.Near n ts rs) {x y : Int} (x0 : 0 ≤ x) (x1 : x < n) (h : y ∈ Odd.row rs x) : x ∈ Odd.row rs y := by
  obtain ⟨y0, y1⟩ := Odd.row_rng T N x0 x1 h
  obtain ⟨m, ne⟩ := (Odd.row_mem N x0 x1).mp h
  exact (Odd.row_mem N y0 y1).mpr ⟨by rw [Odd.mkt_comm]; exact m, ne.symm⟩
theorem sc_l_wires : FnScope ["_law_bag_here", "_law_size", "_law_near_here", "_law_found", "_law_kept", "_law_post", "_law_first", "_law_other"] ["_law_bag_here", "_law_size", "_law_near_here"] (defScope s_l_wires) := ⟨rfl, rfl, rfl, by decide +kernel, rfl, by decide +kernel, by decide +kernel⟩
theorem flat_rep {xs : List V} {b : Bool} : (List.replicate (if b = true then (1 : Int) else 0).toNat xs).flatten = if b = true then xs else [] := by
  cases b
  · rfl
  · show (List.replicate 1 xs).flatten = xs
    simp
theorem c_l_wires (W : Wd K mg) : Cal P w K mg base 3 "_law_wires" spWires [] := by
  refine W.cal 42 sc_l_wires (fun vs H Q E ⟨B, n, pn, ts, rs, e, _⟩ => by rw [e]; rfl) (fun f cdv A outer s H vs Q E hr ⟨B, n, pn, ts, rs, e, bag, n1, n60, rl, T, N, k⟩ => ?_) (fun _ _ _ _ _ _ us hl => match us, hl with | [_, _, _], _ => rfl)
  subst e
  have nd := sc_l_wires.nd
  refine ⟨_, pss_cons (ps_set (i := 3) nd rfl (Or.inl rfl) (pe_op op_rep (pe_c (c_l_some W) hr (by decide) (by rfl) (pa_cons (pv 0) (pa_cons (pv 1) pa_nil))) (p_int1 W.nm (pe_cmpR op_gt (pe_c (c_l_take W) hr (by decide) (by rfl) (pa_cons (pv 0) (pa_cons pe_int pa_nil))) pe_int (nomark _)))))
    (pss_cons (ps_if (pt_cmpR op_eq (pe_c (c_l_take W) hr (by decide) (by rfl) (pa_cons (pv 0) (pa_cons pe_int pa_nil))) pe_int (nomark _))
      (pss_cons (ps_set (i := 4) nd rfl (Or.inl rfl) (pe_lst pa_nil))
      (pss_cons (ps_for PassesOwn.never rfl (pi_range1 (by rfl) W.nm.range (pa_cons (pv 1) pa_nil)) (pg_name (i := 5) nd rfl (Or.inl rfl))
        (pss_cons (ps_set (i := 6) nd rfl (Or.inl rfl) (pv 5))
        (pss_cons (ps_if (pt_cmpR op_eq (p_len W.nm (pe_ix ix_list (pv 2) (pv 5) (fun _ _ => rfl))) pe_int (nomark _))
          (pss_one (ps_set (i := 6) nd rfl (Or.inl rfl) (pe_ix ix_list (pe_lc (own := [("_law_other", 7)]) (g := gName 7) rfl nd (pi_list (pe_ix ix_list (pv 2) (pe_ix ix_list (pe_ix ix_list (pv 2) (pv 5) (fun _ _ => rfl)) pe_int (fun _ _ => rfl)) (fun _ _ => rfl))) (blkOk_by (N := ["_law_bag_here", "_law_size", "_law_near_here", "_law_found", "_law_kept", "_law_post", "_law_first", "_law_other"]) (sc := defScope s_l_wires) (by decide +kernel))
            (fun _ _ _ _ _ => pg_name (i := 7) nd rfl (Or.inl rfl)) (fun _ _ _ _ _ => pts_one (pt_cmpR op_eq (pk_len (K := K) rfl W.nm (pe_ix (kIxL (K := K) rfl) (pv 2) (pv 7) (fun _ _ => rfl))) pe_int (nomark _))) (fun _ _ _ _ _ => pv 7)) pe_int (fun _ _ => rfl)))) pss_nil)
        (pss_one (ps_if (pt_cmpR op_in_seq (pv 6) (pv 3) rfl) (pss_one (ps_expr (pe_bm PySem.F.plainAttrs_list PySem.F.slot_list_append PySem.F.type_list_append mt_append (pv 4) (pa_cons (pv 5) pa_nil)))) pss_nil)))))
      (pss_one (ps_set (i := 3) nd rfl (Or.inl rfl) (pv 4))))) pss_nil)
    (pss_one (ps_ret (pv 3)))), ?_⟩
  have big := m40
  refine ⟨_, rfl, _, rfl, B, n, rfl, bag, n1, n60, fun qs l H1 hqs b1 il up => ?_⟩
  have bag1 := bag.mono b1
  refine ⟨_, rfl, B, 3, rfl, bag1, by decide, by omega, fun u H2 b2 u0 u1 => ⟨_, _, rfl, rfl, .inr ⟨_, rfl, ?_⟩⟩⟩
  have b12 := b1.trans b2
  have il2 := bag1.ints b2 il
  have ln := up.len
  generalize decide (u > 0) = ub
  refine ⟨qs, _, _, rfl, rfl, il2, by split <;> decide, by split <;> decide, ?_, fun F hF => ?_⟩
  · have : (if ub = true then (1 : Int) else 0).toNat ≤ 1 := by split <;> decide
    have z := Nat.mul_le_mul (Nat.le_refl ((l.map V.int).length)) this
    rw [sizeLine_eq]
    rw [List.length_map] at z ⊢
    omega
  rw [flat_rep]
  have hF0 := bag.free b12 hF
  obtain ⟨lf, hlf, upf⟩ : ∃ lf : List Int, (if ub = true then l.map V.int else []) = lf.map V.int ∧ UpR n lf := by
    cases ub
    · exact ⟨[], rfl, by simp, by simp⟩
    · exact ⟨l, rfl, up⟩
  rw [hlf]
  have b3 := bag.new (o := .lst (lf.map V.int)) b12 hF
  have hF3 : (upd H2 F (.lst (lf.map V.int))) F = some (.lst (lf.map V.int)) := upd_same
  generalize upd H2 F (.lst (lf.map V.int)) = H3 at b3 hF3
  have bag3 := bag.mono b3
  refine ⟨_, rfl, B, 2, rfl, bag3, by decide, by omega, fun r H4 b4 r0 r1 => ⟨rfl, _, rfl, ?_⟩⟩
  have b34 := b3.trans b4
  have hF4 := bag3.ints b4 hF3
  rw [dvi]
  by_cases c : r = 0
  · rw [decide_eq_true c]
    refine iteT ⟨by show 0 ≤ sizeLine; decide, fun G hG => ?_⟩
    have hG0 := bag.free b34 hG
    have b5 := bag.new (o := .lst []) b34 hG
    have e5 : Ex H4 (upd H4 G (.lst [])) := Ex.new hG
    have hG5 : (upd H4 G (.lst [])) G = some (.lst []) := upd_same
    generalize upd H4 G (.lst []) = H5 at b5 e5 hG5
    have rl5 := bag.rl b5 rl
    refine ⟨_, rfl, _, rfl, by omega, by omega, ?_⟩
    refine for_it walk_range (fun i σ H6 => Ex H4 H6 ∧ ∃ a5 a6 lk, σ = [some (.ref B), some (.int n), some (.ref pn), some (.ref F), some (.ref G), a5, a6, none] ∧ H6 G = some (.lst (List.map V.int lk)) ∧ lk.Sublist (Odd.posts i))
      ⟨e5, none, none, [], rfl, hG5, List.nil_sublist _⟩ (fun _ _ _ _ _ => trivial) ?_ ?_
    · rintro i x σ H6 H7 hi ⟨e6, a5, a6, lk, rfl, hg, sl⟩ ⟨rfl, rfl⟩
      have hin : i < n := hi
      have x0 : (0 : Int) ≤ 0 + i := by omega
      have x1 : (0 : Int) + i < n := by omega
      have rl7 := (bag.rl b34 rl).mono e6
      obtain ⟨xs, q, r1', r2', r3'⟩ := row_of rl7 N x0 x1
      have b7 := b34.trans (e6.be B)
      -- the last if
      have last : ∀ (v6 : Int) (H8 : Hp), Ex H7 H8 → ∀ D : Ends, (∀ σ H9, (Ex H4 H9 ∧ ∃ a5 a6 lk, σ = [some (V.ref B), some (.int n), some (.ref pn), some (.ref F), some (.ref G), a5, a6, none] ∧ H9 G = some (.lst (List.map V.int lk)) ∧ lk.Sublist (Odd.posts (i + 1))) → D.nx σ H9) →
          tIfS (tTest (tOp (rIn K false) (tVar 6) (tVar 3))) (tDrop (tBM K "list" rAppend (tVar 4) (tCons (tVar 5) tNil))) tNext D [some (.ref B), some (.int n), some (.ref pn), some (.ref F), some (.ref G), some (.int (0 + (i : Int))), some (.int v6), none] H8 := by
        intro v6 H8 e8 D hD
        have e48 := e6.trans e8
        have hF8 := e48 _ _ hF4
        have hg8 := e8 _ _ hg
        refine ⟨_, rfl, _, rfl, F, _, rfl, .inl (SqL.of hF8), rfl, flat_ints _, _, rfl, ?_⟩
        rw [if_neg (by simp), inV_int]
        have sl2 : lk.Sublist (Odd.posts (i + 1)) := by rw [posts_succ]; exact sl.trans (List.sublist_append_left _ _)
        have ll := sl.length_le
        rw [Odd.posts_len] at ll
        by_cases d : v6 ∈ lf
        · rw [decide_eq_true d]
          refine iteT ⟨_, rfl, .inl ⟨rfl, _, SqL.of hg8⟩, _, rfl, G, _, _, rfl, rfl, hg8, by rw [List.length_map, sizeLine_eq]; omega, hD _ _ ⟨Ex.mut e48 hG, _, _, lk ++ [(0 : Int) + i], rfl, by rw [upd_same, List.map_append]; rfl, ?_⟩⟩
          rw [posts_succ, Int.zero_add]
          exact sl.append (List.Sublist.refl _)
        · rw [decide_eq_false d]
          exact iteF (hD _ _ ⟨e48, _, _, lk, rfl, hg8, sl2⟩)
      refine seq_cps (fun σ' H' => H' = H7 ∧ σ' = [some (.ref B), some (.int n), some (.ref pn), some (.ref F), some (.ref G), some (.int (0 + (i : Int))), some (.int (0 + (i : Int))), none]) (fun D2 hD2 => ⟨_, rfl, hD2 _ _ ⟨rfl, rfl⟩⟩) (fun σ0 H0 h => ?_)
      obtain ⟨e0, rfl⟩ := h
      rw [e0]
      refine seq_cps (fun σ' H' => Ex H7 H' ∧ ∃ v6, σ' = [some (.ref B), some (.int n), some (.ref pn), some (.ref F), some (.ref G), some (.int (0 + (i : Int))), some (.int v6), none]) (fun D2 hD2 => ?_) (fun σ' H' h => ?_)
      · refine ⟨_, rfl, _, rfl, pn, xs, _, _, rfl, rfl, SqL.of r1', r2', q, _, rfl, .inl (SqL.of r3'), rfl, _, rfl, ?_⟩
        rw [dvi, List.length_map]
        by_cases d : (Odd.row rs (0 + (i : Int))).length = 1
        · rw [decide_eq_true (show ((Odd.row rs (0 + (i : Int))).length : Int) = 1 by omega)]
          match ea : Odd.row rs (0 + (i : Int)), d with
          | [a], _ =>
            have ma : a ∈ Odd.row rs (0 + (i : Int)) := by rw [ea]; simp
            obtain ⟨a0, a1⟩ := Odd.row_rng T N x0 x1 ma
            obtain ⟨xs2, q2, s1, s2, s3⟩ := row_of rl7 N a0 a1
            have back := row_sym T N x0 x1 ma
            have rla := Odd.row_len T N a0 a1
            refine iteT ⟨_, rfl, _, rfl, _, rfl, pn, xs, _, _, rfl, rfl, SqL.of r1', r2', q, _, _, _, rfl, rfl, SqL.of r3', by rw [ea]; exact at0, pn, xs2, _, _, rfl, rfl, SqL.of s1, s2, q2, rfl, ⟨_, SqL.of s3⟩, fun D hD => lcS walk_list (Odd.row rs a) V.int (fun z => decide ((Odd.row rs z).length = 1)) V.int y_map (by rw [List.length_map]) (by rw [List.length_map]; omega) hD (fun H8 e8 => SqL.of (e8 _ _ s3)) (fun _ => rfl) (fun z hz H8 e8 Q8 q8 => ?_) (fun z hz _ H8 e8 Q8 q8 => ⟨_, rfl, q8 _ (Ex.rfl' _)⟩) (fun H8 e8 h8 => ?_)⟩
            · obtain ⟨z0, z1⟩ := Odd.row_rng T N a0 a1 hz
              obtain ⟨xs3, q3, t1, t2, t3⟩ := row_of (rl7.mono e8) N z0 z1
              refine ⟨_, rfl, _, rfl, pn, xs3, _, _, rfl, rfl, SqL.of t1, t2, q3, _, rfl, .inl (SqL.of t3), rfl, _, rfl, ?_⟩
              rw [dvi, List.length_map]
              have q9 := q8 H8 (Ex.rfl' _)
              have ee : decide (((Odd.row rs z).length : Int) = 1) = decide ((Odd.row rs z).length = 1) := by
                by_cases c : (Odd.row rs z).length = 1
                · rw [c]; rfl
                · rw [decide_eq_false c, decide_eq_false (by omega)]
              rw [ee]
              exact q9
            · have mm : (0 + (i : Int)) ∈ (Odd.row rs a).filter fun z => decide ((Odd.row rs z).length = 1) := List.mem_filter.mpr ⟨back, by rw [ea]; rfl⟩
              cases ef : (Odd.row rs a).filter fun z => decide ((Odd.row rs z).length = 1) with
              | nil => rw [ef] at mm; cases mm
              | cons v r9 =>
                rw [ef] at h8
                exact ⟨D, _, _, _, rfl, rfl, SqL.of h8, at0, hD2 _ _ ⟨e8, v, rfl⟩⟩
        · rw [decide_eq_false (show ¬ ((Odd.row rs (0 + (i : Int))).length : Int) = 1 by omega)]
          exact iteF (hD2 _ _ ⟨Ex.rfl' _, _, rfl⟩)
      · obtain ⟨e8, v6, rfl⟩ := h
        refine last v6 H' e8 _ ?_
        exact fun σ H9 h9 => h9
    · rintro σ H6 ⟨e6, a5, a6, lk, rfl, hg, sl⟩
      exact ⟨_, rfl, _, rfl, k G lk H6 hG0 (b34.trans (e6.be B)) hg (up_sub sl)⟩
  · rw [decide_eq_false c]
    exact iteF ⟨_, rfl, k F lf H4 hF0 b34 hF4 upf⟩
end
end Od

set_option Elab.async false
set_option linter.all false
set_option maxRecDepth 100000
set_option maxHeartbeats 4000000
/-! scene, yard, words, yard_text, deed_text, class_text -/
namespace Od
open PySem PySem.Spec PyProof.Rows L2
open C8 (Cal Met InsC pe_c pe_mt pe_mt0 call_isC)
section
variable {P : Program} {w : World} {K : PySem.W.Frag} {mg : Str → Option Value} {base : Heap}
/-- a scene at q -/
def Sc (H : Hp) (q : Addr) (n : Nat) (us : List (Int × Int)) (ws : List Int) : Prop := ∃ pt pn pw, H q = some (.tup [.int n, .ref pt, .ref pn, .ref pw]) ∧ TL H pt us ∧ IL H pw ws
theorem Sc.mono {H H' : Hp} {q : Addr} {n : Nat} {us : List (Int × Int)} {ws : List Int} (h : Sc H q n us ws) (e : Ex H H') : Sc H' q n us ws := by
  obtain ⟨pt, pn, pw, h1, h2, h3⟩ := h
  exact ⟨pt, pn, pw, e _ _ h1, h2.mono e, e _ _ h3⟩
theorem BagH.sc {H H' : Hp} {B q : Addr} {n : Nat} {us : List (Int × Int)} {ws : List Int} (bag : BagH H B) (e : BE B H H') (h : Sc H q n us ws) : Sc H' q n us ws := by
  obtain ⟨pt, pn, pw, h1, h2, h3⟩ := h
  exact ⟨pt, pn, pw, bag.tup e h1, bag.tl e h2, bag.ints e h3⟩
def spScene : Sp := fun vs H Q _ => ∃ B, vs = [.ref B, .int 60] ∧ BagH H B ∧ ∀ q n us ws H', H q = none → BE B H H' → Sc H' q n us ws → Odd.IsTree n us → 1 ≤ n → n ≤ 60 → UpR n ws → Q (.ref q) H'
theorem sc_l_scene : FnScope ["_law_bag_here", "_law_most", "_law_size", "_law_ties_here", "_law_near_here"] ["_law_bag_here", "_law_most"] (defScope s_l_scene) := ⟨rfl, rfl, rfl, by decide +kernel, rfl, by decide +kernel, by decide +kernel⟩
theorem c_l_scene (W : Wd K mg) : Cal P w K mg base 4 "_law_scene" spScene [] := by
  refine W.cal 44 sc_l_scene (fun vs H Q E ⟨B, e, _⟩ => by rw [e]; rfl) (fun f cdv A outer s H vs Q E hr ⟨B, e, bag, k⟩ => ?_) (fun _ _ _ _ _ _ us hl => match us, hl with | [_, _], _ => rfl)
  subst e
  have nd := sc_l_scene.nd
  refine ⟨_, pss_cons (ps_set (i := 2) nd rfl (Or.inl rfl) (pe_op op_add pe_int (pe_c (c_l_take W) hr (by decide) (by rfl) (pa_cons (pv 0) (pa_cons (pv 1) pa_nil)))))
    (pss_cons (ps_set (i := 3) nd rfl (Or.inl rfl) (pe_c (c_l_ties W) hr (by decide) (by rfl) (pa_cons (pv 0) (pa_cons (pv 2) pa_nil))))
    (pss_cons (ps_set (i := 4) nd rfl (Or.inl rfl) (pe_c (c_l_near W) hr (by decide) (by rfl) (pa_cons (pv 2) (pa_cons (pv 3) pa_nil))))
    (pss_one (ps_ret (pe_tup (pa_cons (pv 2) (pa_cons (pv 3) (pa_cons (pv 4) (pa_cons (pe_c (c_l_wires W) hr (by decide) (by rfl) (pa_cons (pv 0) (pa_cons (pv 2) (pa_cons (pv 4) pa_nil)))) pa_nil))))))))), ?_⟩
  have big := m40
  refine seq_cps (fun σ' H' => ∃ n : Nat, 1 ≤ n ∧ n ≤ 60 ∧ BE B H H' ∧ σ' = [some (.ref B), some (.int 60), some (.int n), none, none]) (fun D hD => ?_) (fun σ' H1 h => ?_)
  · refine ⟨_, rfl, _, rfl, B, 60, rfl, bag, by decide, by omega, fun r H1 b1 r0 r1 => ⟨_, _, rfl, rfl, hD _ _ ⟨(1 + r).toNat, by omega, by omega, b1, ?_⟩⟩⟩
    show [some (V.ref B), some (.int 60), some (.int (1 + r)), none, none] = _
    rw [Int.toNat_of_nonneg (by omega)]
  · obtain ⟨n, n1, n60, b1, rfl⟩ := h
    have bag1 := bag.mono b1
    refine ⟨_, rfl, _, rfl, B, n, rfl, bag1, n1, n60, fun pt us H2 hpt b2 tl T => ?_⟩
    refine ⟨_, rfl, _, rfl, n, pt, us, rfl, tl, T, n1, n60, fun pn rs H3 hpn e3 rl N => ?_⟩
    have b23 := b2.trans (e3.be B)
    have bag3 := bag1.mono b23
    refine ⟨_, rfl, _, rfl, _, rfl, _, rfl, _, rfl, _, rfl, B, n, pn, us, rs, rfl, bag3, n1, n60, rl, T, N, fun pw ws H4 hpw b4 il up => ⟨by show 4 ≤ sizeLine; decide, fun q hq => ?_⟩⟩
    have b14 := b1.trans (b23.trans b4)
    have f5 := Ex.new (o := .tup [.int n, .ref pt, .ref pn, .ref pw]) hq
    exact k q n us ws _ (bag.free b14 hq) (bag.new b14 hq) ⟨pt, pn, pw, upd_same, (bag3.tl b4 (tl.mono e3)).mono f5, f5 _ _ il⟩ T n1 n60 up
/-! ### the yard of a scene -/
def spLYard (K : PySem.W.Frag) : Sp := fun vs H Q _ => ∃ q n us ws, vs = [.ref q] ∧ Sc H q n us ws ∧ Odd.IsTree n us ∧ 1 ≤ n ∧ n ≤ 60 ∧ UpR n ws ∧ ∀ y ts rs H', H y = none → Ex H H' → ts.Perm us → Odd.YOk n ts ws rs → YA K H' y n ts ws rs → Q (.ref y) H'
theorem sc_l_yard : FnScope ["_law_scene_here"] ["_law_scene_here"] (defScope s_l_yard) := ⟨rfl, rfl, rfl, by decide +kernel, rfl, by decide +kernel, by decide +kernel⟩
theorem up_one {n : Nat} {ws ms : List Int} {ts : List (Int × Int)} {rs : List (List Int)} (up : UpR n ws) (p : ms.Perm ws) (ok : Odd.YOk n ts ms rs) : ms = ws := up_unique p (lt_le ok.wup) (lt_le up.1)
theorem c_l_yard (W : Wd K mg) : Cal P w K mg base 7 "_law_yard" (spLYard K) [] := by
  refine W.cal 45 sc_l_yard (fun vs H Q E ⟨q, n, us, ws, e, _⟩ => by rw [e]; rfl) (fun f cdv A outer s H vs Q E hr ⟨q, n, us, ws, e, ⟨pt, pn, pw, hq, tl, il⟩, T, n1, n60, up, k⟩ => ?_) (fun _ _ _ _ _ _ us hl => match us, hl with | [_], _ => rfl)
  subst e
  obtain ⟨fY, fdY, MY, FY, BY⟩ := (mk_yard (P := P) (w := w) (base := base) W).ex
  refine ⟨_, pss_one (ps_ret (pe_makeK (E := C8.E0) MY FY hr (by rfl) (W.g "Yard" (List.mem_of_getElem? (i := 52) rfl)) BY C8.pass0 (pa_cons (pe_ix ix_tup (pv 0) pe_int (fun _ _ => rfl)) (pa_cons (pe_callTy call_list_of (by rfl) W.nm.list boot_list (pa_cons (pe_ix ix_tup (pv 0) pe_int (fun _ _ => rfl)) pa_nil)) pa_nil))
      (pk_cons (pe_callTy call_list_of (by rfl) W.nm.list boot_list (pa_cons (pe_ix ix_tup (pv 0) pe_int (fun _ _ => rfl)) pa_nil)) pk_nil))), ?_⟩
  obtain ⟨xs, hxs, _⟩ := tl.len
  have ll := up.len
  refine ⟨_, rfl, q, _, _, _, rfl, rfl, SqT.of hq, at0, _, rfl, q, _, _, _, rfl, rfl, SqT.of hq, at1, pt, xs, rfl, .inl (SqL.of hxs), fun l hl => ?_⟩
  have f1 := Ex.new (o := .lst xs) hl
  have tl1 := tl.dup hxs hl
  refine ⟨_, rfl, q, _, _, _, rfl, rfl, SqT.of (f1 _ _ hq), at3, pw, _, rfl, .inl (SqL.of (f1 _ _ il)), fun l2 hl2 => ⟨rfl, rfl, fun x dx hx hdx nex => ?_⟩⟩
  have f2 := Ex.new (o := .lst (ws.map V.int)) hl2
  refine make_rd hx hdx nex (tl1.mono f2) (.inl upd_same) n1 n60 T up.2 (lt_nodup up.1) (by omega) fun H5 ts ms rs e5 pu pm ok ya => ?_
  have em := up_one up pm ok
  subst em
  exact k x ts rs H5 ((f1.trans f2).free hx) ((f1.trans f2).trans e5) pu ok ya
/-! ### words -/
def spWords : Sp := fun vs H Q _ => ∃ (p : Addr) (ns : List Int), vs = [.ref p] ∧ IL H p ns ∧ ns.length ≤ 70 ∧ (∀ x ∈ ns, Sm x) ∧ ∀ H', Ex H H' → Q (.str (showP ns)) H'
theorem sc_l_words : FnScope ["_law_posts", "_law_post"] ["_law_posts"] (defScope s_l_words) := ⟨rfl, rfl, rfl, by decide +kernel, rfl, by decide +kernel, by decide +kernel⟩
theorem ne0 {a : Nat} (h : a ≠ 0) : ((a : Int) != 0) = true := by
  have : (a : Int) ≠ 0 := by omega
  simpa using this
theorem c_l_words (W : Wd K mg) : Cal P w K mg base 1 "_law_words" spWords [] := by
  refine W.cal 46 sc_l_words (fun vs H Q E ⟨p, ns, e, _⟩ => by rw [e]; rfl) (fun f cdv A outer s H vs Q E hr ⟨p, ns, e, il, l70, sm, k⟩ => ?_) (fun _ _ _ _ _ _ us hl => match us, hl with | [_], _ => rfl)
  subst e
  have nd := sc_l_words.nd
  refine ⟨_, pss_one (ps_ret (pe_orT (pe_join pe_str (pe_lc (own := [("_law_post", 1)]) (g := gName 1) (tt := tYes) rfl nd (pi_list (pv 0)) (blkOk_by (N := ["_law_posts", "_law_post"]) (sc := defScope s_l_words) (by decide +kernel))
      (fun _ _ _ _ _ => pg_name (i := 1) nd rfl (Or.inl rfl)) (fun _ _ _ _ _ => pts_nil) (fun _ _ _ _ _ => pe_callTy call_str_int (by rfl) W.nm.str boot_str (pa_cons (pv 1) pa_nil)))) (pe_one pe_str))), ?_⟩
  refine ⟨⟨_, rfl⟩, _, rfl, p, rfl, ⟨_, SqL.of il⟩, fun D hD => lcS1 walk_list ns V.int (fun a => V.str (nS a)) y_map (by rw [List.length_map]) (by rw [List.length_map]; omega) hD (fun H2 e2 => SqL.of (e2 _ _ il)) (fun _ => rfl) (fun x hx H2 e2 Q2 q2 => ⟨_, rfl, x, rfl, log_small (sm x hx), q2 _ (Ex.rfl' _)⟩) (fun H2 e2 h2 => ?_)⟩
  have z := jn_bound (s := (" " : Str)) (l := ns.map nS) (B := 40) (by decide +kernel) (by rw [List.length_map]; exact l70) (nS_bound sm)
  have zl := jn_len (" " : Str) (ns.map nS)
  refine ⟨_, D, ns.map nS, rfl, rfl, .inl (SqL.of (by rw [h2, List.map_map]; rfl)), by omega, ?_⟩
  by_cases c : ns = []
  · subst c
    exact ⟨false, ⟨by show Str.empty.length ≤ sizeLine; exact Nat.zero_le _, rfl⟩, iteF (k _ e2)⟩
  · obtain ⟨n1, n2, n3⟩ := showP_ne c sm
    refine ⟨true, ⟨by show (jn (" " : Str) (ns.map nS)).length ≤ sizeLine; rw [sizeLine_eq]; omega, (ne0 n3).symm⟩, iteT ?_⟩
    have q := k _ e2
    rw [n2] at q
    exact q
/-! ### yard_text -/
def spLYardText : Sp := fun vs H Q _ => ∃ q n us ts ws, vs = [.ref q] ∧ Sc H q n us ws ∧ ts.Perm us ∧ Odd.Srt ts ∧ Ts ts ∧ ts.length ≤ 70 ∧ n ≤ 60 ∧ UpR n ws ∧ ∀ H', Ex H H' → Q (.str (yText n ts ws)) H'
theorem sc_l_yard_text : FnScope ["_law_scene_here", "_law_rows", "_law_one", "_law_other"] ["_law_scene_here"] (defScope s_l_yard_text) := ⟨rfl, rfl, rfl, by decide +kernel, rfl, by decide +kernel, by decide +kernel⟩
theorem c_l_yard_text (W : Wd K mg) : Cal P w K mg base 2 "_law_yard_text" spLYardText [] := by
  refine W.cal 47 sc_l_yard_text (fun vs H Q E ⟨q, n, us, ts, ws, e, _⟩ => by rw [e]; rfl) (fun f cdv A outer s H vs Q E hr ⟨q, n, us, ts, ws, e, ⟨pt, pn, pw, hq, tl, il⟩, pu, so, tS, t70, n60, up, k⟩ => ?_) (fun _ _ _ _ _ _ us hl => match us, hl with | [_], _ => rfl)
  subst e
  have nd := sc_l_yard_text.nd
  refine ⟨_, pss_cons (ps_setLc (i := 1) (own := [("_law_one", 2), ("_law_other", 3)]) (g := gTup K 2 (gCons (gName 2) (gCons (gName 3) gNil))) (tt := tYes) rfl nd rfl rfl (sw_true rfl rfl rfl (by decide +kernel)) (pi_list (pe_callB cr_sortedPO (by rfl) W.nm.sorted boot_sorted (pa_cons (pe_ix ix_tup (pv 0) pe_int (fun _ _ => rfl)) pa_nil))) (blkOk_by (N := ["_law_scene_here", "_law_rows", "_law_one", "_law_other"]) (sc := defScope s_l_yard_text) (by decide +kernel))
      (fun _ _ _ _ _ => kTupG (K := K) rfl rfl (pgs_cons (pg_name (i := 2) nd rfl (Or.inl rfl)) (pgs_cons (pg_name (i := 3) nd rfl (Or.inl rfl)) pgs_nil))) (fun _ _ _ _ _ => pts_nil)
      (fun _ _ _ _ _ => pe_op op_add_str (pe_op op_add_str (pe_callTy call_str_int (by rfl) W.nm.str boot_str (pa_cons (pv 2) pa_nil)) pe_str) (pe_callTy call_str_int (by rfl) W.nm.str boot_str (pa_cons (pv 3) pa_nil))))
    (pss_one (ps_ret (pe_join pe_str (pe_lst (pa_cons (pe_callTy call_str_int (by rfl) W.nm.str boot_str (pa_cons (pe_ix ix_tup (pv 0) pe_int (fun _ _ => rfl)) pa_nil)) (pa_cons (pe_orT (pe_join pe_str (pv 1)) (pe_one pe_str))
      (pa_cons (pe_c (c_l_words W) hr (by decide) (by rfl) (pa_cons (pe_callB cr_sortedA (by rfl) W.nm.sorted boot_sorted (pa_cons (pe_ix ix_tup (pv 0) pe_int (fun _ _ => rfl)) pa_nil)) pa_nil)) pa_nil))))))), ?_⟩
  obtain ⟨xs0, s1, s2, s3⟩ := sortedTL tl
  refine ⟨_, rfl, q, _, _, _, rfl, rfl, SqT.of hq, at1, pt, xs0, kOf H, rfl, SqL.of s1, s2, fun ys q1 so0 st hq1 => ?_⟩
  obtain ⟨us2, pu2, so2, tl2⟩ := s3 ys q1 so0 st hq1
  have eu : us2 = ts := Odd.srt_uniq (pu2.trans pu.symm) so2 so
  subst eu
  have e1 := Ex.new (o := .lst ys) hq1
  generalize upd H q1 (.lst ys) = H1 at tl2 e1
  obtain ⟨ks, k1, k2, k3⟩ := tl2
  have kl : ks.length = us2.length := by rw [← k1, List.length_map]
  have wl := up.len
  have sw : ∀ x ∈ ws, Sm x := fun x hx => Sm.of60 (up.2 x hx).1 (by have := (up.2 x hx).2; omega)
  have sn : Sm (n : Int) := Sm.of60 (Int.natCast_nonneg n) (by omega)
  refine ⟨q1, rfl, ⟨_, SqL.of k2⟩, fun D hD => lcT (K := K) (walk_ties (ks := ks)) (ks.map (·.2)) (fun a : Int × Int => V.int a.1) (fun a : Int × Int => V.int a.2) (fun a => V.str (tieS a)) (fun i H x H' hi y => y) (by rw [List.length_map]) (by omega) hD (fun H2 e2 => ⟨e2 _ _ k2, fun k hk => e2 _ _ (k3 k hk)⟩) (fun _ _ => rfl) (fun x hx H2 e2 Q2 q2 => ?_) (fun H2 e2 h2 => ?_)⟩
  · rw [k1] at hx
    obtain ⟨s1, s2⟩ := tS x hx
    have a1 := (nS_len s1).2
    have a2 := (nS_len s2).2
    have a3 : ("-" : Str).length = 1 := by decide +kernel
    exact ⟨_, rfl, x.1, rfl, log_small s1, _, _, rfl, rfl, by show (nS x.1).length + ("-" : Str).length ≤ sizeLine; rw [sizeLine_eq]; omega, _, rfl, x.2, rfl, log_small s2, _, _, rfl, rfl, by show (nS x.1 ++ ("-" : Str)).length + (nS x.2).length ≤ sizeLine; rw [len_app, sizeLine_eq]; omega, q2 _ (Ex.rfl' _)⟩
  · rw [k1] at h2
    have e12 := e1.trans e2
    have h2' : H2 D = some (.lst ((us2.map tieS).map V.str)) := by rw [h2, List.map_map]; rfl
    have z := jn_bound (s := (" " : Str)) (l := us2.map tieS) (B := 81) (by decide +kernel) (by rw [List.length_map]; exact t70) (tieS_bound tS)
    have zl := jn_len (" " : Str) (us2.map tieS)
    refine ⟨⟨_, rfl⟩, _, rfl, q, _, _, _, rfl, rfl, SqT.of (e12 _ _ hq), at0, n, rfl, log_small sn, ?_⟩
    refine ⟨⟨_, rfl⟩, _, rfl, _, D, us2.map tieS, rfl, rfl, .inl (SqL.of h2'), by omega, ?_⟩
    by_cases c : us2 = []
    · refine ⟨false, ⟨?_, ?_⟩, iteF ?_⟩
      · rw [c]; exact Nat.zero_le _
      · rw [c]; rfl
      have e0 : V.str "-" = V.str (showT us2) := by rw [c]; rfl
      rw [e0]
      refine ⟨_, rfl, q, _, _, _, rfl, rfl, SqT.of (e12 _ _ hq), at3, pw, ws, rfl, .inl (SqL.of (e12 _ _ il)), by omega, fun ms p3 pm le hp3 => ?_⟩
      have em : ms = ws := up_unique pm le (lt_le up.1)
      subst em
      have e3 := Ex.new (o := .lst (ms.map V.int)) hp3
      refine ⟨p3, ms, rfl, upd_same, by omega, sw, fun H4 e4 => ⟨by show 3 ≤ sizeLine; decide, fun l hl => ?_⟩⟩
      have yl := (y_len (n := n) (by omega) tS sw t70 (by omega : ms.length ≤ 70)).1
      refine ⟨_, l, [nS (n : Int), showT us2, showP ms], rfl, rfl, .inl (SqL.of upd_same), ?_, k _ ((e12.trans (e3.trans e4)).trans (Ex.new hl))⟩
      have e : [nS (n : Int), showT us2, showP ms].length = 3 := rfl
      rw [e]
      omega
    · obtain ⟨n1, n2, n3⟩ := showT_ne c tS
      refine ⟨true, ⟨by show (jn (" " : Str) (us2.map tieS)).length ≤ sizeLine; rw [sizeLine_eq]; omega, (ne0 n3).symm⟩, iteT ?_⟩
      have e0 : V.str (Txt.join (" " : Str) (us2.map tieS)) = V.str (showT us2) := congrArg V.str n2.symm
      rw [e0]
      refine ⟨_, rfl, q, _, _, _, rfl, rfl, SqT.of (e12 _ _ hq), at3, pw, ws, rfl, .inl (SqL.of (e12 _ _ il)), by omega, fun ms p3 pm le hp3 => ?_⟩
      have em : ms = ws := up_unique pm le (lt_le up.1)
      subst em
      have e3 := Ex.new (o := .lst (ms.map V.int)) hp3
      refine ⟨p3, ms, rfl, upd_same, by omega, sw, fun H4 e4 => ⟨by show 3 ≤ sizeLine; decide, fun l hl => ?_⟩⟩
      have yl := (y_len (n := n) (by omega) tS sw t70 (by omega : ms.length ≤ 70)).1
      refine ⟨_, l, [nS (n : Int), showT us2, showP ms], rfl, rfl, .inl (SqL.of upd_same), ?_, k _ ((e12.trans (e3.trans e4)).trans (Ex.new hl))⟩
      have e : [nS (n : Int), showT us2, showP ms].length = 3 := rfl
      rw [e]
      omega
/-! ### deed_text -/
def spLDeedText : Sp := fun vs H Q _ => ∃ (t : Addr) (d : Deed), vs = [.ref t] ∧ DA H t d ∧ DOk d ∧ ∀ H', Ex H H' → Q (.str (dText d)) H'
theorem sc_l_deed_text : FnScope ["_law_deed"] ["_law_deed"] (defScope s_l_deed_text) := ⟨rfl, rfl, rfl, by decide +kernel, rfl, by decide +kernel, by decide +kernel⟩
theorem grow_sp : ("grow" : Str) ++ (" " : Str) = ("grow " : Str) := by decide +kernel
theorem c_l_deed_text (W : Wd K mg) : Cal P w K mg base 2 "_law_deed_text" spLDeedText [] := by
  refine W.cal 48 sc_l_deed_text (fun vs H Q E ⟨t, d, e, _⟩ => by rw [e]; rfl) (fun f cdv A outer s H vs Q E hr ⟨t, d, e, da, ok, k⟩ => ?_) (fun _ _ _ _ _ _ us hl => match us, hl with | [_], _ => rfl)
  subst e
  refine ⟨_, pss_cons (ps_if (pt_cmpR op_eq (pe_ix ix_tup (pv 0) pe_int (fun _ _ => rfl)) pe_str (nomark _)) (pss_one (ps_ret (pe_op op_add_str pe_str (pe_c (c_l_words W) hr (by decide) (by rfl) (pa_cons (pe_ix ix_tup (pv 0) pe_int (fun _ _ => rfl)) pa_nil))))) pss_nil)
    (pss_one (ps_ret (pe_op op_add_str (pe_op op_add_str (pe_op op_add_str (pe_ix ix_tup (pv 0) pe_int (fun _ _ => rfl)) pe_str) (pe_callTy call_str_int (by rfl) W.nm.str boot_str (pa_cons (pe_ix ix_tup (pv 0) pe_int (fun _ _ => rfl)) pa_nil)))
      (pe_op op_mul_str pe_str (p_int1 W.nm (pe_and (pe_cmpR op_eq (pe_ix ix_tup (pv 0) pe_int (fun _ _ => rfl)) pe_str (nomark _)) (pe_one (pe_ix ix_tup (pv 0) pe_int (fun _ _ => rfl))))))))), ?_⟩
  have dl := d_len ok
  have sl : (" " : Str).length = 1 := by decide +kernel
  have wl : (" wired" : Str).length = 6 := by decide +kernel
  have el : Str.empty.length = 0 := rfl
  cases d with
  | flip ns =>
    obtain ⟨p, ht, il⟩ := da
    have l70 := ok.2.1
    refine ⟨_, rfl, t, _, _, _, rfl, rfl, SqT.of ht, at0, rfl, true, by decide +kernel, iteT ?_⟩
    refine ⟨_, rfl, t, _, _, _, rfl, rfl, SqT.of ht, at1, p, ns, rfl, il, by omega, ok.2.2.1, fun H1 e1 => ⟨_, _, rfl, rfl, ?_, k _ e1⟩⟩
    have z : (("flip " : Str) ++ showP ns).length ≤ 4000 := dl
    rw [len_app] at z
    rw [sizeLine_eq]
    omega
  | grow i b =>
    have ht : H t = some (.tup [.str "grow", .int i, .bl b]) := da
    have sm : Sm i := ok
    have nl := (nS_len sm).2
    have gl : ("grow" : Str).length = 4 := by decide +kernel
    refine ⟨_, rfl, t, _, _, _, rfl, rfl, SqT.of ht, at0, rfl, false, by decide +kernel, iteF ?_⟩
    refine ⟨_, rfl, t, _, _, _, rfl, rfl, SqT.of ht, at0, _, _, rfl, rfl, by show ("grow" : Str).length + (" " : Str).length ≤ sizeLine; rw [sizeLine_eq]; omega, ?_⟩
    refine ⟨_, rfl, t, _, _, _, rfl, rfl, SqT.of ht, at1, i, rfl, log_small sm, _, _, rfl, rfl, by show (("grow" : Str) ++ (" " : Str)).length + (nS i).length ≤ sizeLine; rw [len_app, sizeLine_eq]; omega, ?_⟩
    refine ⟨_, rfl, t, _, _, _, rfl, rfl, SqT.of ht, at0, rfl, true, by decide +kernel, iteT ⟨_, rfl, t, _, _, _, rfl, rfl, SqT.of ht, at2, .inr ⟨b, rfl, ?_⟩⟩⟩
    have q := k H (Ex.rfl' _)
    have ed : dText (.grow i b) = ((("grow" : Str) ++ (" " : Str)) ++ nS i) ++ (if b = true then (" wired" : Str) else Str.empty) := by rw [grow_sp]; rfl
    rw [ed] at q
    cases b with
    | true =>
      refine ⟨_, 1, rfl, rfl, Nat.le_refl _, by rw [wl, sizeLine_eq]; omega, _, _, rfl, rfl, ?_, q⟩
      show ((("grow" : Str) ++ (" " : Str)) ++ nS i).length + (" wired" : Str).length ≤ sizeLine
      rw [len_app, len_app, sizeLine_eq]
      omega
    | false =>
      refine ⟨_, 0, rfl, rfl, Nat.zero_le _, by rw [wl, sizeLine_eq]; omega, _, _, rfl, rfl, ?_, q⟩
      show ((("grow" : Str) ++ (" " : Str)) ++ nS i).length + Str.empty.length ≤ sizeLine
      rw [len_app, len_app, sizeLine_eq]
      omega
  | one wd i =>
    have ht : H t = some (.tup [.str wd, .int i]) := da
    obtain ⟨wo, sm⟩ := ok
    obtain ⟨w1, w2⟩ := wo_nf wo
    have nl := (nS_len sm).2
    have wdl := wo_len wo
    refine ⟨_, rfl, t, _, _, _, rfl, rfl, SqT.of ht, at0, rfl, false, by rw [dstr, decide_eq_false w1], iteF ?_⟩
    refine ⟨_, rfl, t, _, _, _, rfl, rfl, SqT.of ht, at0, _, _, rfl, rfl, by rw [sl, sizeLine_eq]; omega, ?_⟩
    refine ⟨_, rfl, t, _, _, _, rfl, rfl, SqT.of ht, at1, i, rfl, log_small sm, _, _, rfl, rfl, by show (wd ++ (" " : Str)).length + (nS i).length ≤ sizeLine; rw [len_app, sizeLine_eq]; omega, ?_⟩
    refine ⟨_, rfl, t, _, _, _, rfl, rfl, SqT.of ht, at0, rfl, false, by rw [dstr, decide_eq_false w2], iteF (.inr ⟨false, rfl, ?_⟩)⟩
    have q := k H (Ex.rfl' _)
    have ed : dText (.one wd i) = ((wd ++ (" " : Str)) ++ nS i) ++ Str.empty := by rw [app_empty]; rfl
    rw [ed] at q
    refine ⟨_, 0, rfl, rfl, Nat.zero_le _, by rw [wl, sizeLine_eq]; omega, _, _, rfl, rfl, ?_, q⟩
    show ((wd ++ (" " : Str)) ++ nS i).length + Str.empty.length ≤ sizeLine
    rw [len_app, len_app, sizeLine_eq]
    omega
end
end Od

set_option Elab.async false
set_option linter.all false
set_option maxRecDepth 100000
set_option maxHeartbeats 4000000
/-! any_deed, class_text -/
namespace Od
open PySem PySem.Spec PyProof.Rows L2
open C8 (Cal Met InsC pe_c pe_mt pe_mt0 call_isC)
section
variable {P : Program} {w : World} {K : PySem.W.Frag} {mg : Str → Option Value} {base : Heap}
theorem four_at {r a b c d : Int} (h0 : 0 ≤ r) (h : r < 4) : ∃ v, atI [V.int a, V.int b, V.int c, V.int d] r = some (.int v) ∧ (v = a ∨ v = b ∨ v = c ∨ v = d) := by
  rcases (by omega : r = 0 ∨ r = 1 ∨ r = 2 ∨ r = 3) with rfl | rfl | rfl | rfl
  · exact ⟨a, at0, .inl rfl⟩
  · exact ⟨b, at1, .inr (.inl rfl)⟩
  · exact ⟨c, at2, .inr (.inr (.inl rfl))⟩
  · exact ⟨d, at3, .inr (.inr (.inr rfl))⟩
theorem word_at {r : Int} (h0 : 0 ≤ r) (h : r < 5) : ∃ z : Str, atI [V.str "press", V.str "fell", V.str "wire", V.str "flip", V.str "grow"] r = some (.str z) ∧ (Wo z ∨ z = ("flip" : Str) ∨ z = ("grow" : Str)) := by
  rcases (by omega : r = 0 ∨ r = 1 ∨ r = 2 ∨ r = 3 ∨ r = 4) with rfl | rfl | rfl | rfl | rfl
  · exact ⟨_, atI_nat (j := 0) rfl, .inl (.inl rfl)⟩
  · exact ⟨_, atI_nat (j := 1) rfl, .inl (.inr (.inl rfl))⟩
  · exact ⟨_, atI_nat (j := 2) rfl, .inl (.inr (.inr rfl))⟩
  · exact ⟨_, atI_nat (j := 3) rfl, .inr (.inl rfl)⟩
  · exact ⟨_, atI_nat (j := 4) rfl, .inr (.inr rfl)⟩
theorem ints_of {l : List V} {C : Int → Prop} (h : ∀ v ∈ l, ∃ i, v = V.int i ∧ C i) : ∃ is : List Int, l = is.map V.int ∧ ∀ i ∈ is, C i := by
  induction l with
  | nil => exact ⟨[], rfl, by simp⟩
  | cons a r ih =>
    obtain ⟨is, e, c⟩ := ih fun v hv => h v (List.mem_cons_of_mem _ hv)
    obtain ⟨i, rfl, ci⟩ := h a List.mem_cons_self
    refine ⟨i :: is, by rw [List.map_cons, e], fun j hj => ?_⟩
    rcases List.mem_cons.mp hj with e | hj
    · rw [e]; exact ci
    · exact c j hj
def spAnyDeed : Sp := fun vs H Q _ => ∃ B, vs = [.ref B] ∧ BagH H B ∧ ∀ t d H', BE B H H' → DA H' t d → DOk d → Q (.ref t) H'
theorem sc_l_any_deed : FnScope ["_law_bag_here", "_law_some_here", "_law_post", "_law_bound", "_law_group", "_law_word", "_law_k"] ["_law_bag_here"] (defScope s_l_any_deed) := ⟨rfl, rfl, rfl, by decide +kernel, rfl, by decide +kernel, by decide +kernel⟩
theorem c_l_any_deed (W : Wd K mg) : Cal P w K mg base 2 "_law_any_deed" spAnyDeed [] := by
  refine W.cal 49 sc_l_any_deed (fun vs H Q E ⟨B, e, _⟩ => by rw [e]; rfl) (fun f cdv A outer s H vs Q E hr ⟨B, e, bag, k⟩ => ?_) (fun _ _ _ _ _ _ us hl => match us, hl with | [_], _ => rfl)
  subst e
  have nd := sc_l_any_deed.nd
  refine ⟨_, pss_cons (ps_set (i := 1) nd rfl (Or.inl rfl) (pe_lst (pa_cons (pe_c (c_l_take W) hr (by decide) (by rfl) (pa_cons (pv 0) (pa_cons pe_int pa_nil))) (pa_cons (pe_c (c_l_take W) hr (by decide) (by rfl) (pa_cons (pv 0) (pa_cons (pe_op op_pow pe_int pe_int) pa_nil))) (pa_cons (pe_op op_sub (pe_op op_pow pe_int pe_int) pe_int) (pa_cons pe_int pa_nil))))))
    (pss_cons (ps_set (i := 2) nd rfl (Or.inl rfl) (pe_ix ix_list (pv 1) (pe_c (c_l_take W) hr (by decide) (by rfl) (pa_cons (pv 0) (pa_cons pe_int pa_nil))) (fun _ _ => rfl)))
    (pss_cons (ps_set (i := 3) nd rfl (Or.inr rfl) (pe_ix ix_list (pe_lst (pa_cons pe_int (pa_cons (pe_op op_pow pe_int pe_int) pa_nil))) (pe_c (c_l_take W) hr (by decide) (by rfl) (pa_cons (pv 0) (pa_cons pe_int pa_nil))) (fun _ _ => rfl)))
    (pss_cons (ps_set (i := 4) nd rfl (Or.inl rfl) (pe_callB (cr_sortedSet rfl) (by rfl) W.nm.sorted boot_sorted (pa_cons (pe_callTy (cr_setOf rfl) (by rfl) W.nm.set boot_set (pa_cons (pe_op op_cat (pe_lst (pa_cons (pv 2) pa_nil))
        (pe_lc (own := [("_law_k", 6)]) (g := gName 6) (tt := tYes) rfl nd (pi_range1 (by rfl) W.nm.range (pa_cons (pe_c (c_l_take W) hr (by decide) (by rfl) (pa_cons (pv 0) (pa_cons pe_int pa_nil))) pa_nil)) (blkOk_by (N := ["_law_bag_here", "_law_some_here", "_law_post", "_law_bound", "_law_group", "_law_word", "_law_k"]) (sc := defScope s_l_any_deed) (by decide +kernel))
          (fun _ _ _ _ _ => pg_name (i := 6) nd rfl (Or.inl rfl)) (fun _ _ _ _ _ => pts_nil) (fun _ _ _ _ _ => pe_c (c_l_take W) hr (by decide) (by rfl) (pa_cons (pv 0) (pa_cons (pv 3) pa_nil))))) pa_nil)) pa_nil)))
    (pss_cons (ps_set (i := 5) nd rfl (Or.inl rfl) (pe_ix ix_list (pe_lst (pa_cons pe_str (pa_cons pe_str (pa_cons pe_str (pa_cons pe_str (pa_cons pe_str pa_nil)))))) (pe_c (c_l_take W) hr (by decide) (by rfl) (pa_cons (pv 0) (pa_cons pe_int pa_nil))) (fun _ _ => rfl)))
    (pss_cons (ps_if (pt_cmpR op_eq (pv 5) pe_str (nomark _)) (pss_one (ps_ret (pe_tup (pa_cons pe_str (pa_cons (pv 4) pa_nil))))) pss_nil)
    (pss_one (ps_ret (pe_ifExp (pt_cmpR op_eq (pv 5) pe_str (nomark _)) (pe_tup (pa_cons pe_str (pa_cons (pv 2) (pa_cons (pe_cmpR op_eq (pe_c (c_l_take W) hr (by decide) (by rfl) (pa_cons (pv 0) (pa_cons pe_int pa_nil))) pe_int (nomark _)) pa_nil)))) (pe_tup (pa_cons (pv 5) (pa_cons (pv 2) pa_nil))))))))))), ?_⟩
  have big := m40
  have bigT : (10 : Int) ^ 40 = 10000000000000000000000000000000000000000 := by decide
  have big2 : (10 : Int) ^ 20 = 100000000000000000000 := by decide
  -- the list of four, the post
  refine seq_cps (fun σ' H' => BE B H H' ∧ ∃ l a b, Sm a ∧ Sm b ∧ σ' = [some (.ref B), some (.ref l), none, none, none, none, none] ∧ H' l = some (.lst ([a, b, 10 ^ 40 - 1, 0].map V.int))) (fun D hD => ?_) (fun σ' H1 h => ?_)
  · refine ⟨_, rfl, B, 60, rfl, bag, by decide, by omega, fun a H1 b1 a0 a1 => ?_⟩
    refine ⟨_, rfl, _, _, rfl, rfl, ⟨by decide, by decide, by decide⟩, B, (10 : Int) ^ 40, rfl, bag.mono b1, by omega, Int.le_refl _, fun b H2 b2 c0 c1 => ?_⟩
    refine ⟨_, _, rfl, rfl, ⟨by decide, by decide, by decide⟩, _, _, rfl, rfl, by show 4 ≤ sizeLine; decide, fun l hl => ?_⟩
    exact hD _ _ ⟨bag.new (b1.trans b2) hl, l, a, b, Sm.of60 a0 (by omega), ⟨c0, c1⟩, rfl, upd_same⟩
  obtain ⟨b1, l, a, b, sa, sb, rfl, hl⟩ := h
  have bag1 := bag.mono b1
  refine seq_cps (fun σ' H' => BE B H H' ∧ ∃ po, Sm po ∧ σ' = [some (.ref B), some (.ref l), some (.int po), none, none, none, none]) (fun D hD => ?_) (fun σ' H2 h => ?_)
  · refine ⟨_, rfl, _, rfl, B, 4, rfl, bag1, by decide, by omega, fun r H2 b2 r0 r1 => ?_⟩
    obtain ⟨v, v1, v2⟩ := four_at (a := a) (b := b) (c := 10 ^ 40 - 1) (d := 0) r0 r1
    refine ⟨l, _, _, _, rfl, rfl, SqL.of (bag1.ints b2 hl), v1, hD _ _ ⟨b1.trans b2, v, ?_, rfl⟩⟩
    rcases v2 with e | e | e | e
    · rw [e]; exact sa
    · rw [e]; exact sb
    · rw [e]; exact ⟨by omega, by omega⟩
    · rw [e]; exact ⟨by decide, by omega⟩
  obtain ⟨b2, po, sp, rfl⟩ := h
  have bag2 := bag.mono b2
  refine seq_cps (fun σ' H' => BE B H H' ∧ ∃ bo : Int, 1 ≤ bo ∧ bo ≤ 10 ^ 20 ∧ σ' = [some (.ref B), some (.ref l), some (.int po), some (.int bo), none, none, none]) (fun D hD => ?_) (fun σ' H3 h => ?_)
  · refine ⟨_, _, rfl, rfl, ⟨by decide, by decide, by decide⟩, by show 2 ≤ sizeLine; decide, fun l2 hl2 => ?_⟩
    have b3 := bag.new (o := .lst ([70, (10 : Int) ^ 20].map V.int)) b2 hl2
    refine ⟨_, rfl, B, 2, rfl, bag.mono b3, by decide, by omega, fun r H4 b4 r0 r1 => ?_⟩
    obtain ⟨v, v1, v2, _⟩ := two_at (a := 70) (b := (10 : Int) ^ 20) r0 r1
    exact ⟨l2, _, _, _, rfl, rfl, SqL.of ((bag.mono b3).ints (ns := [70, (10 : Int) ^ 20]) b4 upd_same), v1, hD _ _ ⟨b3.trans b4, v, by rcases v2 with e | e <;> omega, by rcases v2 with e | e <;> omega, rfl⟩⟩
  obtain ⟨b3, bo, bo1, bo2, rfl⟩ := h
  have bag3 := bag.mono b3
  refine seq_cps (fun σ' H' => BE B H H' ∧ ∃ (g : Addr) (ns : List Int), DOk (.flip ns) ∧ IL H' g ns ∧ σ' = [some (.ref B), some (.ref l), some (.int po), some (.int bo), some (.ref g), none, none]) (fun D hD => ?_) (fun σ' H4 h => ?_)
  · refine ⟨_, rfl, by show 1 ≤ sizeLine; decide, fun l2 hl2 => ?_⟩
    have b4 := bag.new (o := .lst ([po].map V.int)) b3 hl2
    have hl4 : (upd H3 l2 (.lst ([po].map V.int))) l2 = some (.lst ([po].map V.int)) := upd_same
    show tLc _ _ _ _ _ _ (upd H3 l2 (.lst ([po].map V.int))) _
    generalize upd H3 l2 (.lst ([po].map V.int)) = H4 at b4 hl4
    have bag4 := bag.mono b4
    refine ⟨_, rfl, B, 60, rfl, bag4, by decide, by omega, fun cn H5 b5 c0 c1 => ⟨_, rfl, by omega, by omega, ?_⟩⟩
    obtain ⟨m, hm⟩ : ∃ m : Nat, cn.toNat = m := ⟨_, rfl⟩
    rw [hm]
    have b45 := b4.trans b5
    have bag5 := bag.mono b45
    intro D5 hD5
    have nDB : D5 ≠ B := fun e => by
      obtain ⟨pc, cs, ⟨x, y, z, g, _⟩, _⟩ := bag5
      rw [← e, hD5] at g
      cases g
    refine lcEl (er_be B) (D := D5) (fun Ha Hb o e h => e.1 D5 o nDB h) walk_range (Odd.posts m) V.int (fun _ v => ∃ i : Int, v = .int i ∧ 0 ≤ i ∧ i < 10 ^ 20) y_posts Odd.posts_len (by omega) hD5 (fun _ _ => trivial) (fun _ => rfl) (fun x hx H6 e6 Q6 q6 => ?_) (fun H6 l6 e6 ll6 pl6 h6 => ?_)
    · exact ⟨_, rfl, _, rfl, B, bo, rfl, bag5.mono e6, bo1, by omega, fun r H7 b7 r0 r1 => q6 _ _ b7 ⟨r, rfl, r0, by omega⟩⟩
    · obtain ⟨is, rfl, ci⟩ := ints_of (C := fun i => 0 ≤ i ∧ i < 10 ^ 20) (fun v hv => by obtain ⟨_, h⟩ := pl6 v hv; exact h)
      rw [List.length_map] at ll6
      have b46 := b45.trans e6
      have hl6 := bag4.ints (b5.trans e6) hl4
      refine ⟨l2, D5, _, _, rfl, rfl, hl6, h6, by rw [List.length_map, List.length_map, sizeLine_eq, List.length_singleton]; omega, fun p hp => ?_⟩
      rw [← List.map_append]
      have f7 := Ex.new (o := .lst (([po] ++ is).map V.int)) hp
      have hp7 : (upd H6 p (.lst (([po] ++ is).map V.int))) p = some (.lst (([po] ++ is).map V.int)) := upd_same
      generalize upd H6 p (.lst (([po] ++ is).map V.int)) = H7 at f7 hp7
      have nl : ([po] ++ is).length = m + 1 := by rw [List.length_append, List.length_singleton]; omega
      refine ⟨p, [po] ++ is, rfl, .inl (SqL.of hp7), by omega, fun p2 c hp2 hc _ => ?_⟩
      have f8 := Ex.new (o := SetO w p2 (fun j => decide (j ∈ [po] ++ is)) c) hp2
      refine ⟨p2, _, c, rfl, upd_same, by omega, fun ns p3 up mem len hp3 => ?_⟩
      have f9 := Ex.new (o := .lst (ns.map V.int)) hp3
      refine hD _ _ ⟨b46.trans ((f7.trans (f8.trans f9)).be B), p3, ns, ⟨?_, by omega, fun x hx => ?_, up⟩, upd_same, rfl⟩
      · intro e
        have : po ∈ ns := (mem po).mpr (decide_eq_true (by simp))
        rw [e] at this
        cases this
      · have hx := of_decide_eq_true ((mem x).mp hx)
        rcases List.mem_append.mp hx with hx | hx
        · rw [List.mem_singleton.mp hx]; exact sp
        · obtain ⟨x0, x1⟩ := ci x hx
          exact ⟨x0, by omega⟩
  obtain ⟨b4, g, ns, fo, il, rfl⟩ := h
  have bag4 := bag.mono b4
  refine seq_cps (fun σ' H' => BE B H H' ∧ IL H' g ns ∧ ∃ z : Str, (Wo z ∨ z = ("flip" : Str) ∨ z = ("grow" : Str)) ∧ σ' = [some (.ref B), some (.ref l), some (.int po), some (.int bo), some (.ref g), some (.str z), none]) (fun D hD => ?_) (fun σ' H5 h => ?_)
  · refine ⟨by show 5 ≤ sizeLine; decide, fun l2 hl2 => ?_⟩
    have f5 := Ex.new (o := .lst [V.str "press", V.str "fell", V.str "wire", V.str "flip", V.str "grow"]) hl2
    have hl5 : (upd H4 l2 (.lst [V.str "press", V.str "fell", V.str "wire", V.str "flip", V.str "grow"])) l2 = some (.lst [V.str "press", V.str "fell", V.str "wire", V.str "flip", V.str "grow"]) := upd_same
    have b5 := b4.trans (f5.be B)
    have bag5 := bag.mono b5
    refine ⟨_, rfl, B, 5, rfl, bag5, by decide, by omega, fun r H6 b6 r0 r1 => ?_⟩
    obtain ⟨z, z1, z2⟩ := word_at r0 r1
    refine ⟨l2, _, _, _, rfl, rfl, SqL.of (b6.1 _ _ (bag5.neB hl5 (fun x y z pc e => by injection e with e; injection e with e; cases e)) hl5), z1, hD _ _ ⟨b5.trans b6, bag5.ints b6 (f5 _ _ il), z, z2, rfl⟩⟩
  obtain ⟨b5, il5, z, hz, rfl⟩ := h
  have bag5 := bag.mono b5
  refine ⟨_, rfl, rfl, _, rfl, ?_⟩
  rw [dstr]
  by_cases c1 : z = ("flip" : Str)
  · rw [decide_eq_true c1]
    refine iteT ⟨_, rfl, by show 2 ≤ sizeLine; decide, fun t ht => ?_⟩
    have f6 := Ex.new (o := .tup [.str "flip", .ref g]) ht
    exact k t (.flip ns) _ (b5.trans (f6.be B)) ⟨g, upd_same, f6 _ _ il5⟩ fo
  · rw [decide_eq_false c1]
    refine iteF ⟨_, rfl, rfl, _, rfl, ?_⟩
    rw [dstr]
    by_cases c2 : z = ("grow" : Str)
    · rw [decide_eq_true c2]
      refine iteT ⟨_, rfl, _, rfl, B, 2, rfl, bag5, by decide, by omega, fun r H6 b6 r0 r1 => ⟨rfl, by show 3 ≤ sizeLine; decide, fun t ht => ?_⟩⟩
      have f7 := Ex.new (o := .tup [.str "grow", .int po, .bl (decide (V.int r = V.int 0))]) ht
      exact k t (.grow po (decide (V.int r = V.int 0))) _ ((b5.trans b6).trans (f7.be B)) upd_same sp
    · rw [decide_eq_false c2]
      refine iteF ⟨_, rfl, _, rfl, by show 2 ≤ sizeLine; decide, fun t ht => ?_⟩
      have f7 := Ex.new (o := .tup [.str z, .int po]) ht
      have wo : Wo z := by
        rcases hz with h | h | h
        · exact h
        · exact absurd h c1
        · exact absurd h c2
      exact k t (.one z po) _ (b5.trans (f7.be B)) upd_same ⟨wo, sp⟩
/-! ### class_text -/
def spClassText : Sp := fun vs H Q _ => ∃ (q : Addr) (z : Str) (cs : List Part), vs = [.ref q] ∧ H q = some (.tup (V.str z :: cs.map pV)) ∧ z.length ≤ 40 ∧ cs.length ≤ 1 ∧ (∀ c ∈ cs, POk c) ∧ ∀ H', Ex H H' → Q (.str (cText (.inl z :: cs))) H'
theorem sc_l_class_text : FnScope ["_law_kind", "_law_part"] ["_law_kind"] (defScope s_l_class_text) := ⟨rfl, rfl, rfl, by decide +kernel, rfl, by decide +kernel, by decide +kernel⟩
theorem empty_lit : ("" : Str) = Str.empty := by decide +kernel
theorem class_eq {z : Str} {cs : List Part} (h : cs.length ≤ 1) : z ++ jn ("" : Str) (cs.map fun c => (" " : Str) ++ pT c) = cText (.inl z :: cs) := by
  match cs, h with
  | [], _ =>
    show z ++ Str.empty = jn (" " : Str) [z]
    rw [app_empty, jn_one]
  | [c], _ =>
    show z ++ jn ("" : Str) [(" " : Str) ++ pT c] = jn (" " : Str) [z, pT c]
    rw [jn_one, jn_cons, jn_one]
theorem c_l_class_text (W : Wd K mg) : Cal P w K mg base 1 "_law_class_text" spClassText [] := by
  refine W.cal 50 sc_l_class_text (fun vs H Q E ⟨q, z, cs, e, _⟩ => by rw [e]; rfl) (fun f cdv A outer s H vs Q E hr ⟨q, z, cs, e, hq, zl, l1, ok, k⟩ => ?_) (fun _ _ _ _ _ _ us hl => match us, hl with | [_], _ => rfl)
  subst e
  have nd := sc_l_class_text.nd
  refine ⟨_, pss_one (ps_ret (pe_op op_add_str (pe_ix ix_tup (pv 0) pe_int (fun _ _ => rfl)) (pe_join pe_str (pe_lc (own := [("_law_part", 1)]) (g := gName 1) (tt := tYes) rfl nd (pi_tup (pe_slice sl_tup (pv 0) (po_some pe_int) po_none)) (blkOk_by (N := ["_law_kind", "_law_part"]) (sc := defScope s_l_class_text) (by decide +kernel))
      (fun _ _ _ _ _ => pg_name (i := 1) nd rfl (Or.inl rfl)) (fun _ _ _ _ _ => pts_nil) (fun _ _ _ _ _ => pe_op op_add_str pe_str (pe_callTy call_str_part (by rfl) W.nm.str boot_str (pa_cons (pv 1) pa_nil))))))), ?_⟩
  refine ⟨_, rfl, q, _, _, _, rfl, rfl, SqT.of hq, at0, ⟨_, rfl⟩, _, rfl, _, rfl, q, _, rfl, SqT.of hq, ?_, fun p hp => ?_⟩
  · rintro ⟨h, _⟩
    have e : HT.sIx (V.str z :: cs.map pV).length 0 (some 1) = min 1 (V.str z :: cs.map pV).length := HT.sIx_nat _ 0 1
    rw [e, List.length_cons] at h
    omega
  rw [cut_from1]
  have f1 := Ex.new (o := .tup ((V.str z :: cs.map pV).drop 1)) hp
  have hp1 : (upd H p (.tup ((V.str z :: cs.map pV).drop 1))) p = some (.tup (cs.map pV)) := upd_same
  generalize upd H p (.tup ((V.str z :: cs.map pV).drop 1)) = H1 at f1 hp1
  have sl : (" " : Str).length = 1 := by decide +kernel
  refine ⟨p, rfl, ⟨_, SqT.of hp1⟩, fun D hD => lcS1 walk_tup cs pV (fun c => V.str ((" " : Str) ++ pT c)) y_map (by rw [List.length_map]) (by rw [List.length_map]; omega) hD (fun H2 e2 => SqT.of (e2 _ _ hp1)) (fun _ => rfl) (fun c hc H2 e2 Q2 q2 => ?_) (fun H2 e2 h2 => ?_)⟩
  · have := pT_len (ok c hc)
    exact ⟨_, rfl, c, rfl, ok c hc, _, _, rfl, rfl, by rw [sl, sizeLine_eq]; omega, q2 _ (Ex.rfl' _)⟩
  · have bd : ∀ a ∈ cs.map (fun c => (" " : Str) ++ pT c), a.length ≤ 41 := fun a ha => by
      obtain ⟨c, hc, rfl⟩ := List.mem_map.mp ha
      have := pT_len (ok c hc)
      rw [len_app, sl]
      omega
    have zb := jn_bound (s := ("" : Str)) (l := cs.map fun c => (" " : Str) ++ pT c) (B := 41) (by decide +kernel) (by rw [List.length_map]; omega) bd
    have zl := jn_len ("" : Str) (cs.map fun c => (" " : Str) ++ pT c)
    refine ⟨_, D, cs.map fun c => (" " : Str) ++ pT c, rfl, rfl, .inl (SqL.of (by rw [h2, List.map_map]; rfl)), by omega, _, _, rfl, rfl, ?_, ?_⟩
    · show z.length + (jn ("" : Str) (cs.map fun c => (" " : Str) ++ pT c)).length ≤ sizeLine
      rw [sizeLine_eq]
      omega
    · have q := k _ (f1.trans e2)
      rw [← class_eq l1] at q
      exact q
end
end Od

set_option Elab.async false
set_option linter.all false
set_option maxRecDepth 100000
set_option maxHeartbeats 4000000
/-! data that is compared and shown; alike -/
namespace Od
open PySem PySem.Spec PyProof.Rows L2
open C8 (Cal Met InsC pe_c pe_mt pe_mt0 call_isC)
def dD : Deed → PyData
  | .flip ns => .tuple [.str "flip", dI ns]
  | .grow k b => .tuple [.str "grow", .int k, .bool b]
  | .one w k => .tuple [.str w, .int k]
/-- what may be compared and shown -/
structure Rp (d : PyData) : Prop where
  lay : d.canLay0 = true
  dep : d.depth ≤ 4
  sh : d.showable = true
  lv : d.leavesShort 40 = true
  bk : d.bulk ≤ 1000
theorem Rp.shaped {d : PyData} (h : Rp d) : SeqAt.shaped d = true := by
  have := h.dep
  unfold SeqAt.shaped
  rw [h.lay, decide_eq_true (by omega)]
  rfl
theorem Rp.len {d : PyData} (h : Rp d) : d.shown.length ≤ sizeLine := by
  have a := PyData.shown_le_bulk 40 (by decide) d h.lv
  have b := Nat.mul_le_mul_left 42 h.bk
  rw [sizeLine_eq]
  omega
theorem Rp.nd {d : PyData} (h : Rp d) : d.hasDict = false := PyData.hasDict_of_canLay d h.lay
theorem shown_int {i : Int} (h : Sm i) : (PyData.shown (.int i)).length ≤ 40 := by
  have z := (nS_len h).2
  simp only [PyData.shown]
  exact z
theorem ints_show : ∀ {ns : List Int}, (∀ x ∈ ns, Sm x) → PyData.showableAll (ns.map PyData.int) = true ∧ PyData.leavesShortAll 40 (ns.map PyData.int) = true
  | [], _ => ⟨rfl, rfl⟩
  | x :: r, h => by
    obtain ⟨a, b⟩ := ints_show (ns := r) fun y hy => h y (List.mem_cons_of_mem _ hy)
    have s := h x List.mem_cons_self
    refine ⟨?_, ?_⟩
    · simp only [List.map_cons, PyData.showableAll, PyData.showable, a, Bool.and_true]
      exact decide_eq_true (log_small s)
    · simp only [List.map_cons, PyData.leavesShortAll, PyData.leavesShort, b, Bool.and_true]
      exact decide_eq_true (shown_int s)
theorem ints_bulk : ∀ ns : List Int, PyData.bulkAll (ns.map PyData.int) = ns.length
  | [] => rfl
  | x :: r => by
    simp only [List.map_cons, PyData.bulkAll, PyData.bulk, ints_bulk r, List.length_cons]
    omega
theorem rp_ints {ns : List Int} (h : ∀ x ∈ ns, Sm x) (l : ns.length ≤ 100) : Rp (dI ns) := by
  obtain ⟨a, b⟩ := ints_show h
  refine ⟨?_, ?_, ?_, ?_, ?_⟩
  · simp [PyData.canLay0, can_ints]
  · simp [PyData.depth, dep_ints]
  · simpa [PyData.showable] using a
  · simpa [PyData.leavesShort] using b
  · simp only [PyData.bulk, ints_bulk]
    omega
theorem str_short : ("flip" : Str).cps.toList.all (fun c => decide (c < 16 ^ 8)) = true ∧ ("grow" : Str).cps.toList.all (fun c => decide (c < 16 ^ 8)) = true ∧ ("press" : Str).cps.toList.all (fun c => decide (c < 16 ^ 8)) = true ∧
    ("fell" : Str).cps.toList.all (fun c => decide (c < 16 ^ 8)) = true ∧ ("wire" : Str).cps.toList.all (fun c => decide (c < 16 ^ 8)) = true := by decide +kernel
theorem str_size : ("flip" : Str).cps.size ≤ 5 ∧ ("grow" : Str).cps.size ≤ 5 := by decide +kernel
theorem str_ok : PyData.strOk ("flip" : Str) = true ∧ PyData.strOk ("grow" : Str) = true := by decide +kernel
theorem wo_ok {w : Str} (h : Wo w) : PyData.strOk w = true := by
  rcases h with rfl | rfl | rfl <;> decide +kernel
theorem wo_short {w : Str} (h : Wo w) : w.cps.toList.all (fun c => decide (c < 16 ^ 8)) = true ∧ w.cps.size ≤ 5 := by
  refine ⟨?_, wo_len h⟩
  obtain ⟨_, _, a, b, c⟩ := str_short
  rcases h with rfl | rfl | rfl
  · exact a
  · exact b
  · exact c
theorem rp_deed {d : Deed} (ok : DOk d) : Rp (dD d) := by
  obtain ⟨s1, s2, _⟩ := str_short
  obtain ⟨z1, z2⟩ := str_size
  cases d with
  | flip ns =>
    have h := rp_ints ok.2.2.1 (by have := ok.2.1; omega)
    obtain ⟨a, b, c, d, e⟩ := h
    have l := ok.2.1
    refine ⟨?_, ?_, ?_, ?_, ?_⟩
    · simp only [dD, PyData.canLay0, PyData.canLayAll0, can_ints, Bool.and_true, str_ok.1]
    · simp only [dD, PyData.depth, PyData.depthAll, dep_ints]; omega
    · simp only [dD, PyData.showable, PyData.showableAll, (ints_show ok.2.2.1).1, Bool.and_true]
    · simp only [dD, PyData.leavesShort, PyData.leavesShortAll, (ints_show ok.2.2.1).2, Bool.and_true]
      exact s1
    · simp only [dD, PyData.bulk, PyData.bulkAll, ints_bulk]
      omega
  | grow k b =>
    have s : Sm k := ok
    refine ⟨?_, ?_, ?_, ?_, ?_⟩
    · simp only [dD, PyData.canLay0, PyData.canLayAll0, Bool.and_true, str_ok.2]
    · simp only [dD, PyData.depth, PyData.depthAll]; omega
    · simp only [dD, PyData.showable, PyData.showableAll, Bool.and_true, Bool.true_and]
      exact decide_eq_true (log_small s)
    · simp only [dD, PyData.leavesShort, PyData.leavesShortAll, Bool.and_true, s2, Bool.true_and]
      exact decide_eq_true (shown_int s)
    · simp only [dD, PyData.bulk, PyData.bulkAll]
      omega
  | one w k =>
    obtain ⟨wo, s⟩ := ok
    obtain ⟨w1, w2⟩ := wo_short wo
    refine ⟨?_, ?_, ?_, ?_, ?_⟩
    · simp only [dD, PyData.canLay0, PyData.canLayAll0, Bool.and_true, wo_ok wo]
    · simp only [dD, PyData.depth, PyData.depthAll]; omega
    · simp only [dD, PyData.showable, PyData.showableAll, Bool.and_true, Bool.true_and]
      exact decide_eq_true (log_small s)
    · simp only [dD, PyData.leavesShort, PyData.leavesShortAll, Bool.and_true, w1, Bool.true_and]
      exact decide_eq_true (shown_int s)
    · simp only [dD, PyData.bulk, PyData.bulkAll]
      omega
theorem deed_bulk {d : Deed} (ok : DOk d) : (dD d).bulk ≤ 100 := by
  obtain ⟨z1, z2⟩ := str_size
  cases d with
  | flip ns =>
    have l := ok.2.1
    simp only [dD, PyData.bulk, PyData.bulkAll, ints_bulk]
    omega
  | grow k b =>
    simp only [dD, PyData.bulk, PyData.bulkAll]
    omega
  | one w k =>
    have w2 := (wo_short ok.1).2
    simp only [dD, PyData.bulk, PyData.bulkAll]
    omega
theorem rp_handed {ps : List Int} {d : Deed} (h : ∀ x ∈ ps, Sm x) (l : ps.length ≤ 100) (ok : DOk d) : Rp (.list [dI ps, dD d]) := by
  obtain ⟨a1, a2, a3, a4, a5⟩ := rp_ints h l
  obtain ⟨b1, b2, b3, b4, b5⟩ := rp_deed ok
  have b6 := deed_bulk ok
  have d1 : (dI ps).depth ≤ 1 := by simp [PyData.depth, dep_ints]
  have d2 : (dD d).depth ≤ 2 := by
    cases d with
    | flip ns => simp only [dD, PyData.depth, PyData.depthAll, dep_ints]; omega
    | grow k b => simp only [dD, PyData.depth, PyData.depthAll]; omega
    | one w k => simp only [dD, PyData.depth, PyData.depthAll]; omega
  have e6 : (dI ps).bulk = ps.length := by simp only [PyData.bulk, ints_bulk]
  refine ⟨?_, ?_, ?_, ?_, ?_⟩
  · simp only [PyData.canLay0, PyData.canLayAll0] at a1 ⊢
    simp only [a1, b1, Bool.and_true]
  · have e : PyData.depth (.list [dI ps, dD d]) = 1 + max (dI ps).depth (max (dD d).depth 0) := by
      first
        | rfl
        | (simp only [PyData.depth, PyData.depthAll]; done)
        | (simp only [PyData.depth, PyData.depthAll]; omega)
    omega
  · show PyData.showableAll [dI ps, dD d] = true
    unfold PyData.showableAll PyData.showableAll PyData.showableAll
    rw [a3, b3]
    rfl
  · show PyData.leavesShortAll 40 [dI ps, dD d] = true
    unfold PyData.leavesShortAll PyData.leavesShortAll PyData.leavesShortAll
    rw [a4, b4]
    rfl
  · show PyData.bulkAll [dI ps, dD d] ≤ 1000
    unfold PyData.bulkAll PyData.bulkAll PyData.bulkAll
    omega
theorem dp_deed {K : PySem.W.Frag} {H : Hp} {t : Addr} {d : Deed} (h : DA H t d) : Dp K H (.ref t) (dD d) := by
  cases d with
  | flip ns =>
    obtain ⟨p, h1, h2⟩ := h
    exact .tup (SqT.of h1) (.cons (.str _) (.cons (dp_ints (SqL.of h2)) .nil))
  | grow k b => exact .tup (SqT.of (show H t = some (.tup [.str "grow", .int k, .bl b]) from h)) (.cons (.str _) (.cons (.int _) (.cons (.bl _) .nil)))
  | one w k => exact .tup (SqT.of (show H t = some (.tup [.str w, .int k]) from h)) (.cons (.str _) (.cons (.int _) .nil))
section
variable {P : Program} {w : World} {K : PySem.W.Frag} {mg : Str → Option Value} {base : Heap}
/-- a def that is called where nothing guards -/
structure CalG (P : Program) (w : World) (K : PySem.W.Frag) (mg : Str → Option Value) (base : Heap) (k : Nat) (x : Str) (sp : Sp) : Prop where
  ex : ∃ (f : Addr) (fd : FuncData) (ps : List Str), FnG P w K mg base k f fd ps sp ∧ mg x = some (.ref f) ∧ PySem.W.keepIn K (.ref f) = true ∧ Binds K fd ps []
theorem pe_cG {X : Cx} {j k : Nat} {x : Str} {sp : Sp} {p pos : Pos} {e : Expr} {es : List Expr} {t : TA} (c : CalG X.prog X.w X.K X.mg X.base k x sp) (hr : Room j X.A) (hk : k ≤ j) (hgd : X.A.guards = some []) (hg : Gl X x) (ha : PA X (e :: es) t)
    (hdb : (x == ("__debug__" : Str)) = false := by decide) (he : starEach (e :: es) X.env = (false, eval e X.env) :: starEach es X.env := by rfl) (hpl : (backTo pos (starEach es X.env)).any (·.1) = false := by rfl) :
    PE X (.Call (.Name x p) (e :: es) [] pos) (tCall sp [] C8.E0 t) := by
  obtain ⟨f, fd, ps, F, hm, kp, b⟩ := c.ex
  exact pe_callG F (hr.mono hk) hgd hg hm kp b ha hdb he hpl
def spAlike (K : PySem.W.Frag) : Sp := fun vs H Q _ => ∃ a b d, vs = [.ref a, .ref b] ∧ Dp K H (.ref a) d ∧ Dp K H (.ref b) d ∧ Rp d ∧ Q (.bl true) H
theorem sc_l_alike : FnScope ["_law_found", "_law_due"] ["_law_found", "_law_due"] (defScope s_l_alike) := ⟨rfl, rfl, rfl, by decide +kernel, rfl, by decide +kernel, by decide +kernel⟩
theorem fun_of {x q : Str} {st : Stmt} {f : Addr} {fd : FuncData} (F : FunD K x q (defArgs st) (defBody st) (defScope st) [] [] f fd) : L2.Fun K x q st f fd := by
  obtain ⟨oc, od, dV, kV, doc, pm, an, cdv, ct, osl, h1, h2, h3, hD, hK⟩ := F.ex
  rcases hD with ⟨_, e⟩ | ⟨e, _⟩
  · subst e
    exact ⟨⟨oc, od, kV, doc, pm, an, cdv, ct, osl, h1, h2, h3⟩, F.kp⟩
  · exact absurd rfl e
theorem c_l_alike (W : Wd K mg) : CalG P w K mg base 1 "_law_alike" (spAlike K) := by
  obtain ⟨fd, F⟩ := W.s.def_ 43 (d := ⟨("_law_alike", none), "_law_alike", "_law_alike", defArgs s_l_alike, defBody s_l_alike, defScope s_l_alike, [], []⟩) (by rfl)
  refine ⟨He.fAd K ("_law_alike", none), fd, ["_law_found", "_law_due"], fn_ofG (fun_of F) sc_l_alike (fun vs H Q E ⟨a, b, d, e, _⟩ => by rw [e]; rfl) (fun cdv A outer s H vs Q E hr hgd ⟨a, b, d, e, h1, h2, rp, q⟩ => ?_), W.g "_law_alike" (List.mem_of_getElem? (i := 43) rfl), F.kp, F.bindsN (fun _ _ _ _ _ _ us hl => match us, hl with | [_, _], _ => rfl)⟩
  subst e
  have hgd' : (A.deeper (envOfC "_law_alike" (defScope s_l_alike) s.heap.objs.size (He.fAd K ("_law_alike", none)) cdv)).guards = some [] := hgd
  refine ⟨_, pss_one (ps_ret (pe_and (pe_cmpR (op_eqD hr.units) (pv 0) (pv 1) (nomark _)) (pe_one (pe_cmpR op_eq (pe_callB (call_reprD hgd' hr.units) (by rfl) W.nm.repr (by decide +kernel) (pa_cons (pv 0) pa_nil)) (pe_callB (call_reprD hgd' hr.units) (by rfl) W.nm.repr (by decide +kernel) (pa_cons (pv 1) pa_nil)) (nomark _))))), ?_⟩
  have dp := rp.dep
  refine ⟨_, rfl, _, rfl, d, d, h1, h2, rp.shaped, rp.shaped, ?_⟩
  rw [eqv_same rp.shaped]
  refine ⟨true, rfl, iteT ⟨_, rfl, a, d, rfl, h1, rp.sh, rp.nd, by omega, rp.len, _, rfl, b, d, rfl, h2, rp.sh, rp.nd, by omega, rp.len, rfl, ?_⟩⟩
  rw [decide_eq_true rfl]
  exact q
end
end Od

set_option Elab.async false
set_option linter.all false
set_option maxRecDepth 100000
set_option maxHeartbeats 8000000
/-! the law itself -/
namespace Od
open PySem PySem.Spec PyProof.Rows L2
open C8 (Cal Met InsC pe_c pe_mt pe_mt0 call_isC)
section
variable {P : Program} {w : World} {K : PySem.W.Frag} {mg : Str → Option Value} {base : Heap}
def spLaw (K : PySem.W.Frag) : Sp := fun vs H Q _ => ∃ (a : Addr) (ns : List Int), vs = [.ref a] ∧ SqL K H a (ns.map V.int) ∧ ∀ H', Q (.bl true) H'
theorem sc_law : FnScope ["_law_script", "_law_bag_here", "_law_turn", "_law_scene_here", "_law_yard_here", "_law_text", "_law_posts", "_law_deed", "_law_handed", "_law_shown", "_law_again", "_law_found", "_law_told", "_law_kind"] ["_law_script"] (defScope s_law) := ⟨rfl, rfl, rfl, by decide +kernel, rfl, by decide +kernel, by decide +kernel⟩
theorem part_cls {H : Hp} {q : Addr} (h : H q = some (.tup [.str "still"]) ∨ ∃ i : Int, 0 ≤ i ∧ i ≤ 200 ∧ (H q = some (.tup [.str "sign", .int i]) ∨ H q = some (.tup [.str "borders", .int i]))) :
    ∃ (z : Str) (cs : List Part), H q = some (.tup (V.str z :: cs.map pV)) ∧ z.length ≤ 40 ∧ cs.length ≤ 1 ∧ ∀ c ∈ cs, POk c := by
  have l1 : ("still" : Str).length ≤ 40 := by decide +kernel
  have l2 : ("sign" : Str).length ≤ 40 := by decide +kernel
  have l3 : ("borders" : Str).length ≤ 40 := by decide +kernel
  rcases h with h | ⟨i, i0, i1, h | h⟩
  · exact ⟨"still", [], h, l1, Nat.zero_le _, by simp⟩
  · exact ⟨"sign", [.inr i], h, l2, Nat.le_refl _, fun c hc => by rw [List.mem_singleton.mp hc]; exact Sm.of60 i0 (by omega)⟩
  · exact ⟨"borders", [.inr i], h, l3, Nat.le_refl _, fun c hc => by rw [List.mem_singleton.mp hc]; exact Sm.of60 i0 (by omega)⟩
theorem ok_law (W : Wd K mg) {f : Addr} {fd : FuncData} (F : FunD K "law" "law" (defArgs s_law) (defBody s_law) (defScope s_law) [] [] f fd) : FnG P w K mg base 11 f fd ["_law_script"] (spLaw K) := by
  refine fn_ofG (fun_of F) sc_law (fun vs H Q E ⟨a, ns, e, _⟩ => by rw [e]; rfl) (fun cdv A outer s H vs Q E hr hgd0 ⟨a, ns, e, sq, k⟩ => ?_)
  subst e
  have nd := sc_law.nd
  have hgd : (A.deeper (envOfC "law" (defScope s_law) s.heap.objs.size f cdv)).guards = some [] := hgd0
  obtain ⟨fY, fdY, MY, FY, BY⟩ := (mk_yard (P := P) (w := w) (base := base) W).ex
  obtain ⟨fE, fdE, psE, dsE, clE, mE, FE, bE, vE⟩ := (m_eq (P := P) (w := w) (base := base) W).ex
  cases vE
  refine ⟨_, pss_cons (ps_set (i := 1) nd rfl (Or.inl rfl) (pe_c (c_l_bag W) hr (by decide) (by rfl) (pa_cons (pv 0) pa_nil)))
    (pss_cons (ps_for PassesOwn.never rfl (pi_range1 (by rfl) W.nm.range (pa_cons pe_int pa_nil)) (pg_name (i := 2) nd rfl (Or.inl rfl))
      (pss_cons (ps_set (i := 3) nd rfl (Or.inl rfl) (pe_c (c_l_scene W) hr (by decide) (by rfl) (pa_cons (pv 1) (pa_cons pe_int pa_nil))))
      (pss_cons (ps_par (i := 4) (j := 5) (by rfl) nd rfl rfl (by decide) rfl rfl (pa_cons (pe_c (c_l_yard W) hr (by decide) (by rfl) (pa_cons (pv 3) pa_nil)) (pa_cons (pe_c (c_l_yard_text W) hr (by decide) (by rfl) (pa_cons (pv 3) pa_nil)) pa_nil)) (by rfl))
      (pss_cons (ps_if (PW.pt (pw_or (pt_cmpR op_ne (pe_c (c_show_yard W) hr (by decide) (by rfl) (pa_cons (pv 4) pa_nil)) (pv 5) (nomark _)) (pw_or1 (pt_cmpR (op_neOwn FE (hr.mono (by decide)) mE bE W.ne W.ob) (pe_c (c_read_yard W) hr (by decide) (by rfl) (pa_cons (pv 5) pa_nil)) (pv 4) (nomark _))))) (pss_one (ps_ret pe_bl)) pss_nil)
      (pss_cons (ps_if (pt_cmpR op_ne (pe_c (c_show_yard W) hr (by decide) (by rfl) (pa_cons (pe_makeK (E := C8.E0) MY FY (hr.mono (by decide)) (by rfl) (W.g "Yard" (List.mem_of_getElem? (i := 52) rfl)) BY C8.pass0
            (pa_cons (pe_ix ix_tup (pv 3) pe_int (fun _ _ => rfl)) (pa_cons (pe_stepL (pe_callTy call_list_of (by rfl) W.nm.list boot_list (pa_cons (pe_ix ix_tup (pv 3) pe_int (fun _ _ => rfl)) pa_nil)) (pe_un un_neg pe_int)) pa_nil))
            (pk_cons (pe_callTy call_tuple_of (by rfl) W.nm.tuple boot_tuple (pa_cons (pe_stepL (pe_ix ix_tup (pv 3) pe_int (fun _ _ => rfl)) (pe_un un_neg pe_int)) pa_nil)) pk_nil)) pa_nil)) (pv 5) (nomark _)) (pss_one (ps_ret pe_bl)) pss_nil)
      (pss_cons (ps_par (i := 6) (j := 7) (by rfl) nd rfl rfl (by decide) rfl rfl (pa_cons (pe_c (c_l_some W) hr (by decide) (by rfl) (pa_cons (pv 1) (pa_cons (pe_ix ix_tup (pv 3) pe_int (fun _ _ => rfl)) pa_nil))) (pa_cons (pe_c (c_l_any_deed W) hr (by decide) (by rfl) (pa_cons (pv 1) pa_nil)) pa_nil)) (by rfl))
      (pss_cons (ps_set (i := 8) nd rfl (Or.inl rfl) (pe_lst (pa_cons (pe_callTy call_list_of (by rfl) W.nm.list boot_list (pa_cons (pv 6) pa_nil)) (pa_cons (pv 7) pa_nil))))
      (pss_cons (ps_set (i := 9) nd rfl (Or.inl rfl) (pe_callB (call_reprD hgd hr.units) (by rfl) W.nm.repr (by decide +kernel) (pa_cons (pv 8) pa_nil)))
      (pss_cons (ps_for PassesOwn.never rfl (pi_range1 (by rfl) W.nm.range (pa_cons pe_int pa_nil)) (pg_name (i := 10) nd rfl (Or.inl rfl))
        (pss_cons (ps_if (PW.pt (pw_or (pt_cmpR op_ne (pe_c (c_show_posts W) hr (by decide) (by rfl) (pa_cons (pe_ix ix_list (pv 8) pe_int (fun _ _ => rfl)) pa_nil)) (pe_c (c_l_words W) hr (by decide) (by rfl) (pa_cons (pv 6) pa_nil)) (nomark _))
            (pw_or1 (pt_cmpR op_ne (pe_c (c_show_deed W) hr (by decide) (by rfl) (pa_cons (pe_ix ix_list (pv 8) pe_int (fun _ _ => rfl)) pa_nil)) (pe_c (c_l_deed_text W) hr (by decide) (by rfl) (pa_cons (pv 7) pa_nil)) (nomark _))))) (pss_one (ps_ret pe_bl)) pss_nil)
        (pss_cons (ps_set (i := 11) nd rfl (Or.inl rfl) (pe_c (c_read_posts W) hr (by decide) (by rfl) (pa_cons (pe_c (c_l_words W) hr (by decide) (by rfl) (pa_cons (pv 6) pa_nil)) pa_nil)))
        (pss_cons (ps_set (i := 12) nd rfl (Or.inl rfl) (pe_c (c_read_deed W) hr (by decide) (by rfl) (pa_cons (pe_c (c_l_deed_text W) hr (by decide) (by rfl) (pa_cons (pv 7) pa_nil)) pa_nil)))
        (pss_cons (ps_if (PW.pt (pw_or (pt_not (pt_val (pe_cG (c_l_alike W) hr (by decide) hgd (by rfl) (pa_cons (pv 11) (pa_cons (pv 6) pa_nil))))) (pw_or (pt_not (pt_val (pe_cG (c_l_alike W) hr (by decide) hgd (by rfl) (pa_cons (pv 12) (pa_cons (pv 7) pa_nil)))))
            (pw_or1 (pt_cmpR op_ne (pe_callB (call_reprD hgd hr.units) (by rfl) W.nm.repr (by decide +kernel) (pa_cons (pv 8) pa_nil)) (pv 9) (nomark _)))))) (pss_one (ps_ret pe_bl)) pss_nil)
        (pss_cons (ps_expr (pe_bm PySem.F.plainAttrs_list PySem.F.slot_list_append PySem.F.type_list_append mt_append (pv 11) (pa_cons pe_int pa_nil)))
        (pss_one (ps_if (pt_cmpR op_eq (pe_ix ix_tup (pv 12) pe_int (fun _ _ => rfl)) pe_str (nomark _)) (pss_one (ps_expr (pe_bm PySem.F.plainAttrs_list PySem.F.slot_list_append PySem.F.type_list_append mt_append (pe_ix ix_tup (pv 12) pe_int (fun _ _ => rfl)) (pa_cons pe_int pa_nil)))) pss_nil))))))))
      (pss_cons (ps_set (i := 13) nd rfl (Or.inl rfl) (pe_c (c_class_of W) hr (by decide) (by rfl) (pa_cons (pv 4) (pa_cons (pv 6) pa_nil))))
      (pss_one (ps_if (pt_cmpR op_ne (pe_c (c_show_class W) hr (by decide) (by rfl) (pa_cons (pv 13) pa_nil)) (pe_c (c_l_class_text W) hr (by decide) (by rfl) (pa_cons (pv 13) pa_nil)) (nomark _)) (pss_one (ps_ret pe_bl)) pss_nil))))))))))))
    (pss_one (ps_ret (pe_and (pe_cmpR (op_eqD hr.units) (pe_c (c_read_posts W) hr (by decide) (by rfl) (pa_cons pe_str pa_nil)) (pe_lst pa_nil) (nomark _)) (pe_one (pe_cmpR op_eq (pe_c (c_show_class W) hr (by decide) (by rfl) (pa_cons (pe_tup (pa_cons pe_str pa_nil)) pa_nil)) pe_str (nomark _))))))), ?_⟩
  refine ⟨_, rfl, a, ns, rfl, sq, fun B H1 hB e1 bag1 => ?_⟩
  refine ⟨3, rfl, by decide, by decide, ?_⟩
  refine for_it walk_range (fun i σ H2 => BagH H2 B ∧ ∃ a2 a3 a4 a5 a6 a7 a8 a9 a10 a11 a12 a13, σ = [some (.ref a), some (.ref B), a2, a3, a4, a5, a6, a7, a8, a9, a10, a11, a12, a13])
    ⟨bag1, none, none, none, none, none, none, none, none, none, none, none, none, rfl⟩ (fun _ _ _ _ _ => trivial) ?_ ?_
  · rintro it x σ H2 H2' hi ⟨bag2, a2, a3, a4, a5, a6, a7, a8, a9, a10, a11, a12, a13, rfl⟩ ⟨rfl, rfl⟩
    -- the scene
    refine ⟨_, rfl, B, rfl, bag2, fun sq0 n us ws H3 hsq b3 sc T n1 n60 up => ?_⟩
    have bag3 := bag2.mono b3
    -- the yard and its text
    refine ⟨_, rfl, sq0, n, us, ws, rfl, sc, T, n1, n60, up, fun y ts rs H4 hy e4 pu ok ya => ?_⟩
    obtain ⟨tS, t70⟩ := ok_ts ok
    obtain ⟨wS, w60⟩ := ok_ws ok
    refine ⟨_, rfl, sq0, n, us, ts, ws, rfl, sc.mono e4, pu, ok.so, tS, t70, n60, up, fun H5 e5 => ⟨_, _, rfl, ?_⟩⟩
    -- the first test
    have ya5 := ya.mono e5
    refine ⟨_, rfl, y, n, ts, ws, rs, rfl, ya5, ok, fun H6 e6 => ⟨_, rfl, rfl, _, rfl, ?_⟩⟩
    rw [dstr, decide_eq_true rfl]
    refine iteF ⟨_, rfl, n, ts, ws, rs, rfl, ok, fun x7 H7 rs7 hx7 e7 ya7 ok7 => ?_⟩
    have ya57 := ya5.mono (e6.trans e7)
    obtain ⟨dxa, pta, pwa, pna, hya, _⟩ := id ya7
    obtain ⟨dxb, ptb, pwb, pnb, hyb, _⟩ := id ya57
    refine ⟨_, rfl, x7, y, dxa, dxb, _, _, rfl, rfl, hya, hyb, x7, y, n, ts, ws, rs7, rs, rfl, ya7, ya57, fun H8 e8 => ⟨true, rfl, _, rfl, iteF ?_⟩⟩
    -- the second test: made of reversed parts
    have e48 := e5.trans (e6.trans (e7.trans e8))
    obtain ⟨pt, pn, pw, hs8, tl8, il8⟩ := (sc.mono e4).mono e48
    obtain ⟨xs, hxs, _⟩ := tl8.len
    refine ⟨_, rfl, sq0, _, _, _, rfl, rfl, SqT.of hs8, at0, _, rfl, sq0, _, _, _, rfl, rfl, SqT.of hs8, at1, pt, xs, rfl, .inl (SqL.of hxs), fun l hl => ?_⟩
    have f9 := Ex.new (o := .lst xs) hl
    have tl9 := tl8.dup hxs hl
    have hl9 : (upd H8 l (.lst xs)) l = some (.lst xs) := upd_same
    refine ⟨_, rfl, _, rfl, l, xs, rfl, SqL.of hl9, .inr ⟨rfl, fun l2 hl2 => ?_⟩⟩
    have f10 := Ex.new (o := .lst xs.reverse) hl2
    obtain ⟨kz, z1, z2, z3⟩ := tl9
    have ez : xs = kz.map fun k => V.ref k.1 := by rw [hl9] at z2; injection z2 with z2; injection z2
    have tl10 : TL (upd (upd H8 l (.lst xs)) l2 (.lst xs.reverse)) l2 us.reverse := ⟨kz.reverse, by rw [List.map_reverse, z1], by rw [upd_same, ez, List.map_reverse], fun k hk => f10 _ _ (z3 k (List.mem_reverse.mp hk))⟩
    have e810 := f9.trans f10
    generalize upd (upd H8 l (.lst xs)) l2 (.lst xs.reverse) = H10 at f10 tl10 e810
    refine ⟨_, rfl, sq0, _, _, _, rfl, rfl, SqT.of (e810 _ _ hs8), at3, _, rfl, _, rfl, pw, _, rfl, SqL.of (e810 _ _ il8), .inr ⟨rfl, fun l3 hl3 => ?_⟩⟩
    have f11 := Ex.new (o := .lst (ws.map V.int).reverse) hl3
    refine ⟨l3, _, rfl, .inl ⟨SqL.of upd_same, fun l4 hl4 => ⟨rfl, rfl, fun xm dxm hxm hdxm nexm => ?_⟩⟩⟩
    have f12 := Ex.new (o := .tup (ws.map V.int).reverse) hl4
    have wl := up.len
    refine make_rd (ws := ws.reverse) (ts := us.reverse) hxm hdxm nexm ((tl10.mono f11).mono f12) (Or.inr (by rw [upd_same, List.map_reverse])) n1 n60 (T.perm (List.reverse_perm us)) (fun z hz => up.2 z (List.mem_reverse.mp hz)) ((List.reverse_perm ws).nodup_iff.mpr (lt_nodup up.1)) (by rw [List.length_reverse]; omega) fun H13 ts2 ms rs2 e13 pu2 pm2 ok2 ya2 => ?_
    have ets : ts2 = ts := Odd.srt_uniq ((pu2.trans (List.reverse_perm us)).trans pu.symm) ok2.so ok.so
    have ems : ms = ws := up_one up (pm2.trans (List.reverse_perm ws)) ok2
    subst ets ems
    refine ⟨xm, n, ts2, ms, rs2, rfl, ya2, ok2, fun H14 e14 => ⟨_, rfl, rfl, _, rfl, ?_⟩⟩
    rw [dstr, decide_eq_true rfl]
    refine iteF ?_
    have e814 := ((e810.trans (f11.trans f12)).trans e13).trans e14
    have e314 : Ex H3 H14 := (e4.trans e48).trans e814
    have bag14 := bag3.mono (e314.be B)
    have ya14 := ya57.mono (e8.trans e814)
    -- posts and deed
    refine ⟨_, rfl, _, rfl, sq0, _, _, _, rfl, rfl, SqT.of (e814 _ _ hs8), at0, B, n, rfl, bag14, n1, n60, fun qp ps H15 hqp b15 ilp upp => ?_⟩
    have bag15 := bag14.mono b15
    refine ⟨_, rfl, B, rfl, bag15, fun td d H16 b16 da ok16 => ⟨_, _, rfl, ?_⟩⟩
    have ilp16 := bag15.ints b16 ilp
    have ya16 := bag15.ya b16 (bag14.ya b15 ya14)
    have bag16 := bag15.mono b16
    have pl := upp.len
    have smp : ∀ x ∈ ps, Sm x := fun x hx => Sm.of60 (upp.2 x hx).1 (by have := (upp.2 x hx).2; omega)
    -- handed, shown
    refine ⟨_, rfl, qp, _, rfl, .inl (SqL.of ilp16), fun lp hlp => ⟨_, rfl, by show 2 ≤ sizeLine; decide, fun lh hlh => ?_⟩⟩
    have f17 := Ex.new (o := .lst (ps.map V.int)) hlp
    have il17 : (upd H16 lp (.lst (ps.map V.int))) lp = some (.lst (ps.map V.int)) := upd_same
    generalize upd H16 lp (.lst (ps.map V.int)) = H17 at f17 il17 hlh
    have f18 := Ex.new (o := .lst [.ref lp, .ref td]) hlh
    have hh18 : (upd H17 lh (.lst [.ref lp, .ref td])) lh = some (.lst [.ref lp, .ref td]) := upd_same
    have da18 := (da.mono f17).mono f18
    have il18 := f18 _ _ il17
    have ilp18 := (f17.trans f18) _ _ ilp16
    have ya18 := ya16.mono (f17.trans f18)
    have bag18 := bag16.mono ((f17.trans f18).be B)
    generalize hH18 : upd H17 lh (.lst [.ref lp, .ref td]) = H18 at f18 hh18 da18 il18 ilp18 ya18 bag18
    have rph := rp_handed smp (by omega : ps.length ≤ 100) ok16
    have dph : ∀ {Hx : Hp}, Ex H18 Hx → Dp K Hx (.ref lh) (.list [dI ps, dD d]) := fun e => .lst (SqL.of (e _ _ hh18)) (.cons (dp_ints (SqL.of (e _ _ il18))) (.cons (dp_deed (da18.mono e)) .nil))
    refine ⟨_, rfl, lh, .list [dI ps, dD d], rfl, dph (Ex.rfl' H18), rph.sh, rph.nd, by have := rph.dep; omega, rph.len, ?_⟩
    -- twice
    refine ⟨2, rfl, by decide, by decide, ?_⟩
    refine for_it walk_range (fun j σ H19 => Ex H18 H19 ∧ ∃ a10 a11 a12, σ = [some (.ref a), some (.ref B), some (.int (0 + (it : Int))), some (.ref sq0), some (.ref y), some (.str (yText n ts2 ms)), some (.ref qp), some (.ref td), some (.ref lh), some (.str (PyData.shown (.list [dI ps, dD d]))), a10, a11, a12, a13])
      ⟨Ex.rfl' _, _, _, _, rfl⟩ (fun _ _ _ _ _ => trivial) ?_ ?_
    · rintro j x σ H19 H19' hj ⟨e19, b10, b11, b12, rfl⟩ ⟨rfl, rfl⟩
      have hh19 := e19 _ _ hh18
      refine ⟨_, rfl, lh, _, _, _, rfl, rfl, SqL.of hh19, at0, lp, ps, rfl, e19 _ _ il18, by omega, smp, fun H20 e20 => ?_⟩
      have e1920 := e19.trans e20
      refine ⟨_, rfl, qp, ps, rfl, e1920 _ _ ilp18, by omega, smp, fun H21 e21 => ⟨rfl, _, rfl, ?_⟩⟩
      rw [dstr, decide_eq_true rfl]
      have e21' := e1920.trans e21
      refine iteF ⟨_, rfl, lh, _, _, _, rfl, rfl, SqL.of (e21' _ _ hh18), at1, td, d, rfl, da18.mono e21', ok16, fun H22 e22 => ?_⟩
      have e22' := e21'.trans e22
      refine ⟨_, rfl, td, d, rfl, da18.mono e22', ok16, fun H23 e23 => ⟨rfl, _, rfl, ?_⟩⟩
      rw [dstr, decide_eq_true rfl]
      have e23' := e22'.trans e23
      -- read back
      refine iteF ⟨_, rfl, qp, ps, rfl, e23' _ _ ilp18, by omega, smp, fun H24 e24 => ?_⟩
      have e24' := e23'.trans e24
      refine ⟨ps, rfl, by omega, fun x hx => ⟨(upp.2 x hx).1, by have := (upp.2 x hx).2; omega⟩, upp.1, fun qf H25 hqf e25 ilf => ?_⟩
      have e25' := e24'.trans e25
      refine ⟨_, rfl, td, d, rfl, da18.mono e25', ok16, fun H26 e26 => ?_⟩
      have e26' := e25'.trans e26
      refine ⟨d, rfl, ok16, fun tt H27 htt e27 da27 fr27 => ?_⟩
      have e27' := e26'.trans e27
      have ilf27 := (e26.trans e27) _ _ ilf
      -- alike
      refine ⟨_, rfl, _, rfl, qf, qp, dI ps, rfl, dp_ints (SqL.of ilf27), dp_ints (SqL.of (e27' _ _ ilp18)), rp_ints smp (by omega), true, rfl, iteF ?_⟩
      refine ⟨_, rfl, _, rfl, tt, td, dD d, rfl, dp_deed da27, dp_deed (da18.mono e27'), rp_deed ok16, true, rfl, iteF ?_⟩
      refine ⟨_, rfl, lh, .list [dI ps, dD d], rfl, dph e27', rph.sh, rph.nd, by have := rph.dep; omega, rph.len, _, rfl, rfl, _, rfl, ?_⟩
      rw [dstr, decide_eq_true rfl]
      refine iteF ?_
      -- the readings are changed
      have hqf18 : H18 qf = none := e24'.free hqf
      refine ⟨_, rfl, .inl ⟨rfl, _, SqL.of ilf27⟩, qf, _, _, rfl, rfl, ilf27, by rw [List.length_map, sizeLine_eq]; omega, ?_⟩
      have e28 : Ex H18 (upd H27 qf (.lst (ps.map V.int ++ [.int 99]))) := Ex.mut e27' hqf18
      have ntq : ∀ {xs : List V}, H27 tt = some (.tup xs) → tt ≠ qf := fun h e => by rw [e, ilf27] at h; cases h
      cases d with
      | flip nn =>
        obtain ⟨p, h1, h2⟩ := da27
        have h1' : (upd H27 qf (.lst (ps.map V.int ++ [.int 99]))) tt = some (.tup [.str "flip", .ref p]) := by rw [upd_ne (ntq h1)]; exact h1
        have hp26 := fr27 p h1
        have npq : p ≠ qf := fun e => by rw [e, e26 _ _ ilf] at hp26; cases hp26
        have h2' : (upd H27 qf (.lst (ps.map V.int ++ [.int 99]))) p = some (.lst (nn.map V.int)) := by rw [upd_ne npq]; exact h2
        have l70 := ok16.2.1
        refine ⟨_, rfl, tt, _, _, _, rfl, rfl, SqT.of h1', at0, rfl, true, by decide +kernel, iteT ?_⟩
        refine ⟨_, rfl, tt, _, _, _, rfl, rfl, SqT.of h1', at1, .inl ⟨rfl, _, SqL.of h2'⟩, p, _, _, rfl, rfl, h2', by rw [List.length_map, sizeLine_eq]; omega, ?_⟩
        exact ⟨Ex.mut e28 (e26'.free hp26), _, _, _, rfl⟩
      | grow i b =>
        have h1 : H27 tt = some (.tup [.str "grow", .int i, .bl b]) := da27
        have h1' : (upd H27 qf (.lst (ps.map V.int ++ [.int 99]))) tt = some (.tup [.str "grow", .int i, .bl b]) := by rw [upd_ne (ntq h1)]; exact h1
        exact ⟨_, rfl, tt, _, _, _, rfl, rfl, SqT.of h1', at0, rfl, false, by decide +kernel, iteF ⟨e28, _, _, _, rfl⟩⟩
      | one wd i =>
        have h1 : H27 tt = some (.tup [.str wd, .int i]) := da27
        have h1' : (upd H27 qf (.lst (ps.map V.int ++ [.int 99]))) tt = some (.tup [.str wd, .int i]) := by rw [upd_ne (ntq h1)]; exact h1
        exact ⟨_, rfl, tt, _, _, _, rfl, rfl, SqT.of h1', at0, rfl, false, by rw [dstr, decide_eq_false (wo_nf ok16.1).1], iteF ⟨e28, _, _, _, rfl⟩⟩
    · -- the class
      rintro σ H19 ⟨e19, b10, b11, b12, rfl⟩
      refine ⟨_, rfl, _, rfl, y, n, ts2, ms, rs, qp, ps, rfl, ya18.mono e19, ok, e19 _ _ ilp18, fun q20 H20 e20 cl => ?_⟩
      obtain ⟨z, cs, hq20, zl, l1, okc⟩ := part_cls cl
      refine ⟨_, rfl, q20, .inl z :: cs, rfl, hq20, by rw [List.length_cons]; omega, fun c hc => ?_, fun H21 e21 => ?_⟩
      · rcases List.mem_cons.mp hc with e | hc
        · rw [e]; exact zl
        · exact okc c hc
      refine ⟨_, rfl, q20, z, cs, rfl, e21 _ _ hq20, zl, l1, okc, fun H22 e22 => ⟨rfl, _, rfl, ?_⟩⟩
      rw [dstr, decide_eq_true rfl]
      exact iteF ⟨bag18.mono ((e19.trans (e20.trans (e21.trans e22))).be B), _, _, _, _, _, _, _, _, _, _, _, _, rfl⟩
  · rintro σ H2 ⟨bag2, a2, a3, a4, a5, a6, a7, a8, a9, a10, a11, a12, a13, rfl⟩
    refine ⟨[], rfl, by decide, by simp, by simp, fun q H3 hq e3 il => ⟨by show 0 ≤ sizeLine; decide, fun l hl => ?_⟩⟩
    have f4 := Ex.new (o := .lst []) hl
    refine ⟨dI [], .list [], dp_ints (SqL.of (f4 _ _ il)), .lst (SqL.of upd_same) .nil, sh_ints _, sh_nil, ?_⟩
    rw [eqv_nil]
    have l1 : ("still" : Str).length ≤ 40 := by decide +kernel
    refine ⟨true, rfl, iteT ⟨by show 1 ≤ sizeLine; decide, fun t ht => ⟨t, [.inl "still"], rfl, upd_same, by decide, fun c hc => by rw [List.mem_singleton.mp hc]; exact l1, fun H5 e5 => ⟨rfl, ?_⟩⟩⟩⟩
    rw [dstr, decide_eq_true (show cText [.inl "still"] = ("still" : Str) from jn_one _ _)]
    exact k _
end
end Od

set_option Elab.async false
set_option linter.all false
set_option maxRecDepth 100000
set_option maxHeartbeats 0
/-! the end: the names' facts, the law's walk -/
namespace Od
open PySem PySem.Spec PyProof.Rows L2
theorem and6 {a b c d e f : Bool} (h : (a && (b && (c && (d && (e && f))))) = true) : a = true ∧ b = true ∧ c = true ∧ d = true ∧ e = true ∧ f = true := by
  cases a <;> cases b <;> cases c <;> cases d <;> cases e <;> cases f <;> first | exact ⟨rfl, rfl, rfl, rfl, rfl, rfl⟩ | exact absurd h (by decide)
theorem wd_of {K : PySem.W.Frag} {h : Heap} {mg : Str → Option Value} {w : World} (X : K.In h) (G : h.Ns mainGlobals mg) (c : He.SaysX fa fn [] [] ex w h K) : Wd K mg := by
  have c1 : He.SaysD fa fn K := c.t.d
  obtain ⟨x1, x2, x3, x4, x5, x6⟩ := and6 c.more
  have fr := fun (i : Nat) {x : Str} (e : fa[i]? = some (.free x)) => He.free_ok X G (c1.fact i e)
  have cl : Cls K (He.ga K "Yard") := He.cls_ok (c1.fact 72 rfl)
  refine ⟨c1, ⟨fr 53 rfl, fr 54 rfl, fr 55 rfl, fr 56 rfl, fr 57 rfl, fr 58 rfl, fr 59 rfl, fr 60 rfl, fr 61 rfl, fr 62 rfl, fr 63 rfl, fr 64 rfl, fr 65 rfl, fr 66 rfl, fr 67 rfl, fr 68 rfl⟩, fun x hx => ?_, He.int_ok X G (c1.fact 69 rfl), He.int_ok X G (c1.fact 70 rfl), He.str_ok X G (c1.fact 71 rfl),
    of_decide_eq_true x1, of_decide_eq_true x5, cl, ⟨cl, of_decide_eq_true x2, of_decide_eq_true x3, of_decide_eq_true x4, of_decide_eq_true x5, of_decide_eq_true x6⟩⟩
  exact He.glo_ok X G (c1.facts hx)
end Od
open PySem PySem.W PySem.Calls PyProof.Rows
theorem PySem.Challenge.cw_oddposts_k95_whole_texts_there_and_back_holds : PySem.Challenge.rw_oddposts_k95_whole_texts_there_and_back.Holds := by
  w_on; o_law
  refine HandSHeadRun.head_any (r := OpenLaw.row PySem.Challenge.rw_oddposts_k95_whole_texts_there_and_back) (q := view (OpenLaw.row PySem.Challenge.rw_oddposts_k95_whole_texts_there_and_back).prog [71]) (H := Od.hk) (ob := Od.ob) (M := 4000) (loose := Od.loose) (d := HandSHeadRun.topDef (OpenLaw.row PySem.Challenge.rw_oddposts_k95_whole_texts_there_and_back).prog 71) (kwd := []) Od.ob_eq
    (by kernel_rfl) (fun s => by kernel_rfl) Od.run (by kernel_rfl) (by kernel_rfl) (by kernel_rfl) (by rfl) (by first | assumption | decide +kernel) (by decide +kernel) ⟨rfl, rfl, rfl, rfl, rfl, by decide +kernel⟩ ?hw ?hc
  case hw => w_witness2
  case hc =>
    refine Od.walk_ofG (l := PySem.Challenge.rw_oddposts_k95_whole_texts_there_and_back) (n := 63) (k := 11) (x := "_law_script") rfl (by decide) (by kernel_rfl) ⟨rfl, by decide, by decide⟩ ?F
    intro w mg fa h Y G hmg0
    obtain ⟨K, KX, c⟩ := Y
    have hmg : mg ("law" : PySem.Str) = some (.ref fa) := by
      have e : (HandSHeadRun.topDef (OpenLaw.row PySem.Challenge.rw_oddposts_k95_whole_texts_there_and_back).prog 71).name = ("law" : PySem.Str) := by kernel_rfl
      rw [← e]
      exact hmg0
    have W := Od.wd_of KX G c
    obtain ⟨fd, F⟩ := W.s.def_ 51 (d := ⟨("law", none), "law", "law", L2.defArgs Od.s_law, L2.defBody Od.s_law, L2.defScope Od.s_law, [], []⟩) (by rfl)
    have e := hmg.symm.trans (W.g "law" (List.mem_of_getElem? (i := 51) rfl))
    cases e
    have b := L2.FunD.bindsA (ps := ["_law_script"]) F fun _ _ _ _ _ _ us hl => match us, hl with | [_], _ => rfl
    exact ⟨K, fd, Od.spLaw K, KX, fun s u => b s [u] rfl, fun H a ns hl _ hS => ⟨a, ns, rfl, hS, fun _ => rfl⟩, fun base hK hn => Od.ok_law (Od.wd_of hK hn ⟨c.t, c.more, c.hd, c.out, fun p hp => absurd hp (by simp)⟩) F⟩

