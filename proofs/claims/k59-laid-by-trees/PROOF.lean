import PyProof.Rows.All
import Wide.All
import OpenK.AllK
import Wide.FinOn
import KE.SortData
import HandS.ForMost
import HandS.ForExc
import HandS.Conv
import HandS.IsInst
import HandS.Deep
import HandS.TupAny
import HandS.Zip
import HandS.SetFor
import HandS.Strs
import HandS.SetKeys
import HandS.SortInts
import HandS.TupSets
import HandS.More
import HandS.Flow
import HandS.Defaults
import HandS.WordsExc
import HandS.Lambda
import HandS.HotCalls
import HandS.ExcIs
import HandS.Walk
import HandS.DictSub
import HandS.Comp
import KE.KStateDown
import KE.KNestM
import HandS.Head0
import HandS.Head1
import HandS.Head2
import HandS.HeadEnd
import HandS.HeadHook1
import HandS.HeadHook2
import HandS.HeadWalk
import PySem.Challenge.RW_holefloor_k59_whole_laid_by_trees
section
set_option Elab.async false
set_option linter.all false
set_option maxRecDepth 100000
set_option maxHeartbeats 4000000
namespace HF
open PySem PySem.Spec PyProof.Rows L2
/-! ### the text -/
def top (i : Nat) : Stmt := PySem.Challenge.pw_holefloor_k59_whole_laid_by_trees.main.body.getD i (.Pass ⟨0, 0, 0, 0⟩)
abbrev s_is_whole : Stmt := top 18
abbrev s_is_row : Stmt := top 19
abbrev s_are_whole : Stmt := top 20
abbrev s_is_rising : Stmt := top 21
abbrev s_partner : Stmt := top 24
abbrev s_place_of : Stmt := top 25
abbrev s_ends_of : Stmt := top 26
abbrev s_ends_at : Stmt := top 27
abbrev s_parts_by : Stmt := top 28
abbrev s_parts_of : Stmt := top 29
abbrev s_is_one_part : Stmt := top 30
abbrev s_begun : Stmt := top 32
abbrev s_row_of : Stmt := top 33
abbrev s_order_of : Stmt := top 34
abbrev s_follower : Stmt := top 35
abbrev s_is_corner : Stmt := top 37
abbrev s_corner_place : Stmt := top 38
abbrev s_put_behind : Stmt := top 39
abbrev s_put_in : Stmt := top 40
abbrev s_onward : Stmt := top 42
abbrev s_face_of : Stmt := top 43
abbrev s_lone_faces : Stmt := top 44
abbrev s_faces : Stmt := top 45
abbrev s_is_tree : Stmt := top 47
abbrev s_in_common : Stmt := top 48
abbrev s_is_pair : Stmt := top 49
abbrev s_tree_shows : Stmt := top 50
abbrev s_corners_at : Stmt := top 51
abbrev s_with_tie : Stmt := top 52
abbrev s_in_one : Stmt := top 53
abbrev s_renamed : Stmt := top 54
abbrev s_laid : Stmt := top 55
abbrev s__law_pen : Stmt := top 57
abbrev s__law_draw : Stmt := top 58
abbrev s__law_web : Stmt := top 59
abbrev s__law_one : Stmt := top 60
abbrev s__law_whole : Stmt := top 61
abbrev s__law_word : Stmt := top 62
abbrev s__law_told : Stmt := top 63
abbrev s__law_partner : Stmt := top 64
abbrev s__law_faces : Stmt := top 65
abbrev s__law_parts : Stmt := top 66
abbrev s__law_holes : Stmt := top 67
abbrev s__law_is_order : Stmt := top 68
abbrev s__law_ties : Stmt := top 69
abbrev s__law_tree : Stmt := top 70
abbrev s__law_drawn_tree : Stmt := top 71
abbrev s__law_right : Stmt := top 72
abbrev s_law : Stmt := top 73
theorem sc_is_whole : FnScope ["thing"] ["thing"] (defScope s_is_whole) := ⟨rfl, rfl, rfl, by decide +kernel, rfl, by decide +kernel, by decide +kernel⟩
theorem sc_is_row : FnScope ["thing"] ["thing"] (defScope s_is_row) := ⟨rfl, rfl, rfl, by decide +kernel, rfl, by decide +kernel, by decide +kernel⟩
theorem sc_are_whole : FnScope ["things", "thing"] ["things"] (defScope s_are_whole) := ⟨rfl, rfl, rfl, by decide +kernel, rfl, by decide +kernel, by decide +kernel⟩
theorem sc_is_rising : FnScope ["things", "most", "one", "other"] ["things", "most"] (defScope s_is_rising) := ⟨rfl, rfl, rfl, by decide +kernel, rfl, by decide +kernel, by decide +kernel⟩
theorem sc_partner : FnScope ["end"] ["end"] (defScope s_partner) := ⟨rfl, rfl, rfl, by decide +kernel, rfl, by decide +kernel, by decide +kernel⟩
theorem sc_place_of : FnScope ["web", "end"] ["web", "end"] (defScope s_place_of) := ⟨rfl, rfl, rfl, by decide +kernel, rfl, by decide +kernel, by decide +kernel⟩
theorem sc_ends_of : FnScope ["web"] ["web"] (defScope s_ends_of) := ⟨rfl, rfl, rfl, by decide +kernel, rfl, by decide +kernel, by decide +kernel⟩
theorem sc_ends_at : FnScope ["web", "place", "end"] ["web", "place"] (defScope s_ends_at) := ⟨rfl, rfl, rfl, by decide +kernel, rfl, by decide +kernel, by decide +kernel⟩
theorem sc_parts_by : FnScope ["many", "ties", "label", "a", "b", "low", "high", "place", "parts", "first"] ["many", "ties"] (defScope s_parts_by) := ⟨rfl, rfl, rfl, by decide +kernel, rfl, by decide +kernel, by decide +kernel⟩
theorem sc_parts_of : FnScope ["web"] ["web"] (defScope s_parts_of) := ⟨rfl, rfl, rfl, by decide +kernel, rfl, by decide +kernel, by decide +kernel⟩
theorem sc_is_one_part : FnScope ["web"] ["web"] (defScope s_is_one_part) := ⟨rfl, rfl, rfl, by decide +kernel, rfl, by decide +kernel, by decide +kernel⟩
theorem sc_begun : FnScope ["row", "at"] ["row"] (defScope s_begun) := ⟨rfl, rfl, rfl, by decide +kernel, rfl, by decide +kernel, by decide +kernel⟩
theorem sc_row_of : FnScope ["row", "ends"] ["row", "ends"] (defScope s_row_of) := ⟨rfl, rfl, rfl, by decide +kernel, rfl, by decide +kernel, by decide +kernel⟩
theorem sc_order_of : FnScope ["web", "rows", "place", "row"] ["web", "rows"] (defScope s_order_of) := ⟨rfl, rfl, rfl, by decide +kernel, rfl, by decide +kernel, by decide +kernel⟩
theorem sc_follower : FnScope ["web", "order", "end", "row"] ["web", "order", "end"] (defScope s_follower) := ⟨rfl, rfl, rfl, by decide +kernel, rfl, by decide +kernel, by decide +kernel⟩
theorem sc_is_corner : FnScope ["web", "order", "corner"] ["web", "order", "corner"] (defScope s_is_corner) := ⟨rfl, rfl, rfl, by decide +kernel, rfl, by decide +kernel, by decide +kernel⟩
theorem sc_corner_place : FnScope ["web", "corner"] ["web", "corner"] (defScope s_corner_place) := ⟨rfl, rfl, rfl, by decide +kernel, rfl, by decide +kernel, by decide +kernel⟩
theorem sc_put_behind : FnScope ["row", "corner", "end", "at"] ["row", "corner", "end"] (defScope s_put_behind) := ⟨rfl, rfl, rfl, by decide +kernel, rfl, by decide +kernel, by decide +kernel⟩
theorem sc_put_in : FnScope ["web", "order", "one", "other", "many", "ties", "rows", "begin", "end", "row"] ["web", "order", "one", "other"] (defScope s_put_in) := ⟨rfl, rfl, rfl, by decide +kernel, rfl, by decide +kernel, by decide +kernel⟩
theorem sc_onward : FnScope ["web", "order", "end"] ["web", "order", "end"] (defScope s_onward) := ⟨rfl, rfl, rfl, by decide +kernel, rfl, by decide +kernel, by decide +kernel⟩
theorem sc_face_of : FnScope ["web", "order", "end", "walk", "at", "first"] ["web", "order", "end"] (defScope s_face_of) := ⟨rfl, rfl, rfl, by decide +kernel, rfl, by decide +kernel, by decide +kernel⟩
theorem sc_lone_faces : FnScope ["order", "row"] ["order"] (defScope s_lone_faces) := ⟨rfl, rfl, rfl, by decide +kernel, rfl, by decide +kernel, by decide +kernel⟩
theorem sc_faces : FnScope ["web", "order", "found", "met", "end", "face", "one"] ["web", "order"] (defScope s_faces) := ⟨rfl, rfl, rfl, by decide +kernel, rfl, by decide +kernel, by decide +kernel⟩
theorem sc_is_tree : FnScope ["web", "tree", "tie"] ["web", "tree"] (defScope s_is_tree) := ⟨rfl, rfl, rfl, by decide +kernel, rfl, by decide +kernel, by decide +kernel⟩
theorem sc_in_common : FnScope ["web", "i", "j", "place"] ["web", "i", "j"] (defScope s_in_common) := ⟨rfl, rfl, rfl, by decide +kernel, rfl, by decide +kernel, by decide +kernel⟩
theorem sc_is_pair : FnScope ["web", "pair"] ["web", "pair"] (defScope s_is_pair) := ⟨rfl, rfl, rfl, by decide +kernel, rfl, by decide +kernel, by decide +kernel⟩
theorem sc_tree_shows : FnScope ["web", "paper", "used", "pair"] ["web", "paper"] (defScope s_tree_shows) := ⟨rfl, rfl, rfl, by decide +kernel, rfl, by decide +kernel, by decide +kernel⟩
theorem sc_corners_at : FnScope ["order", "place"] ["order", "place"] (defScope s_corners_at) := ⟨rfl, rfl, rfl, by decide +kernel, rfl, by decide +kernel, by decide +kernel⟩
theorem sc_with_tie : FnScope ["floor", "pair", "web", "order"] ["floor", "pair"] (defScope s_with_tie) := ⟨rfl, rfl, rfl, by decide +kernel, rfl, by decide +kernel, by decide +kernel⟩
theorem sc_in_one : FnScope ["floor", "pair", "web", "order", "one", "other", "found"] ["floor", "pair"] (defScope s_in_one) := ⟨rfl, rfl, rfl, by decide +kernel, rfl, by decide +kernel, by decide +kernel⟩
theorem sc_renamed : FnScope ["web", "order", "names", "rows", "row", "end"] ["web", "order", "names"] (defScope s_renamed) := ⟨rfl, rfl, rfl, by decide +kernel, rfl, by decide +kernel, by decide +kernel⟩
theorem sc_laid : FnScope ["web", "paper", "tree", "pairs", "floor", "names", "tie", "pair", "place"] ["web", "paper"] (defScope s_laid) := ⟨rfl, rfl, rfl, by decide +kernel, rfl, by decide +kernel, by decide +kernel⟩
theorem sc__law_pen : FnScope ["_law_script", "_law_cell"] ["_law_script"] (defScope s__law_pen) := ⟨rfl, rfl, rfl, by decide +kernel, rfl, by decide +kernel, by decide +kernel⟩
theorem sc__law_draw : FnScope ["_law_pen_here", "_law_many", "_law_digit", "_law_at", "_law_cell", "_law_number"] ["_law_pen_here", "_law_many"] (defScope s__law_draw) := ⟨rfl, rfl, rfl, by decide +kernel, rfl, by decide +kernel, by decide +kernel⟩
theorem sc__law_web : FnScope ["_law_pen_here", "_law_places", "_law_ties_here", "_law_many", "_law_way", "_law_count", "_law_found", "_law_k", "_law_a", "_law_b"] ["_law_pen_here", "_law_places", "_law_ties_here"] (defScope s__law_web) := ⟨rfl, rfl, rfl, by decide +kernel, rfl, by decide +kernel, by decide +kernel⟩
theorem sc__law_one : FnScope ["_law_pen_here", "_law_places", "_law_ties_here", "_law_many", "_law_more", "_law_shape", "_law_found", "_law_k", "_law_other", "_law_a", "_law_b"] ["_law_pen_here", "_law_places", "_law_ties_here"] (defScope s__law_one) := ⟨rfl, rfl, rfl, by decide +kernel, rfl, by decide +kernel, by decide +kernel⟩
theorem sc__law_whole : FnScope ["_law_found"] ["_law_found"] (defScope s__law_whole) := ⟨rfl, rfl, rfl, by decide +kernel, rfl, by decide +kernel, by decide +kernel⟩
theorem sc__law_word : FnScope ["_law_e", "_law_some", "_law_found", "_law_word_here", "_law_one_here"] ["_law_e"] (defScope s__law_word) := ⟨rfl, rfl, rfl, by decide +kernel, rfl, by decide +kernel, by decide +kernel⟩
theorem sc__law_told : FnScope ["_law_asked", "_law_found", "_law_e"] ["_law_asked"] (defScope s__law_told) := ⟨rfl, rfl, rfl, by decide +kernel, rfl, by decide +kernel, by decide +kernel⟩
theorem sc__law_partner : FnScope ["_law_end"] ["_law_end"] (defScope s__law_partner) := ⟨rfl, rfl, rfl, by decide +kernel, rfl, by decide +kernel, by decide +kernel⟩
theorem sc__law_faces : FnScope ["_law_order", "_law_behind", "_law_row", "_law_k", "_law_found", "_law_met", "_law_end", "_law_walk", "_law_at"] ["_law_order"] (defScope s__law_faces) := ⟨rfl, rfl, rfl, by decide +kernel, rfl, by decide +kernel, by decide +kernel⟩
theorem sc__law_parts : FnScope ["_law_web_here", "_law_marks", "_law_a", "_law_b", "_law_low", "_law_high", "_law_place", "_law_found", "_law_first"] ["_law_web_here"] (defScope s__law_parts) := ⟨rfl, rfl, rfl, by decide +kernel, rfl, by decide +kernel, by decide +kernel⟩
theorem sc__law_holes : FnScope ["_law_web_here", "_law_order", "_law_twice"] ["_law_web_here", "_law_order"] (defScope s__law_holes) := ⟨rfl, rfl, rfl, by decide +kernel, rfl, by decide +kernel, by decide +kernel⟩
theorem sc__law_is_order : FnScope ["_law_web_here", "_law_found", "_law_place", "_law_due", "_law_row", "_law_k", "_law_end"] ["_law_web_here", "_law_found"] (defScope s__law_is_order) := ⟨rfl, rfl, rfl, by decide +kernel, rfl, by decide +kernel, by decide +kernel⟩
theorem sc__law_ties : FnScope ["_law_web_here", "_law_things", "_law_thing"] ["_law_web_here", "_law_things"] (defScope s__law_ties) := ⟨rfl, rfl, rfl, by decide +kernel, rfl, by decide +kernel, by decide +kernel⟩
theorem sc__law_tree : FnScope ["_law_web_here", "_law_paper", "_law_tree_here", "_law_pairs", "_law_used", "_law_pair", "_law_tie", "_law_place"] ["_law_web_here", "_law_paper"] (defScope s__law_tree) := ⟨rfl, rfl, rfl, by decide +kernel, rfl, by decide +kernel, by decide +kernel⟩
theorem sc__law_drawn_tree : FnScope ["_law_pen_here", "_law_web_here", "_law_order", "_law_tie", "_law_tree_here", "_law_left", "_law_pairs", "_law_one_here", "_law_some", "_law_other", "_law_k"] ["_law_pen_here", "_law_web_here"] (defScope s__law_drawn_tree) := ⟨rfl, rfl, rfl, by decide +kernel, rfl, by decide +kernel, by decide +kernel⟩
theorem sc__law_right : FnScope ["_law_web_here", "_law_paper", "_law_found"] ["_law_web_here", "_law_paper"] (defScope s__law_right) := ⟨rfl, rfl, rfl, by decide +kernel, rfl, by decide +kernel, by decide +kernel⟩
theorem sc_law : FnScope ["_law_script", "_law_pen_here", "_law_web_here", "_law_first", "_law_second", "_law_papers", "_law_paper", "_law_held", "_law_other"] ["_law_script"] (defScope s_law) := ⟨rfl, rfl, rfl, by decide +kernel, rfl, by decide +kernel, by decide +kernel⟩

abbrev FnP (K : PySem.W.Frag) (x : Str) (st : Stmt) (f : Addr) (fd : FuncData) : Prop := FunD K x x (defArgs st) (defBody st) (defScope st) [] [] f fd
/-- one def as the top has made it -/
structure DefT (K : PySem.W.Frag) (mg : Str → Option Value) (x : Str) (st : Stmt) (ps : List Str) : Type where
  f : Addr
  fd : FuncData
  F : FnP K x st f fd
  g : mg x = some (.ref f)
  b : Binds K fd ps []
section
variable {P : Program} {w : World} {K : PySem.W.Frag} {mg : Str → Option Value} {base : Heap}
theorem DefT.ok {x : Str} {st : Stmt} {ps N : List Str} {k : Nat} {sp : Sp} (D : DefT K mg x st ps) (S : FnScope N ps (defScope st)) (len : ∀ vs H Q E, sp vs H Q E → vs.length = ps.length)
    (hb : ∀ (cdv : Value) (A : Around) (outer : List Env) (s : Shared) (H : Hp) (vs : List V) (Q : VK) (E : XK), Room k (A.deeper (envOfC x (defScope st) s.heap.objs.size D.f cdv)) → sp vs H Q E →
      ∃ t, PSs (cxOf CX0 P w K mg base N x (defScope st) D.f cdv A outer s H E).nox (defBody st) t ∧ t { nx := fun _ H' => Q .non H', rt := Q } (start N vs) H) : FnOk P w K mg base CX0 (k + 1) D.f D.fd ps sp :=
  D.F.ok S len fun cdv A outer s H vs Q E hr h => by
    obtain ⟨t, a, q⟩ := hb cdv A outer s H vs Q E hr h
    exact ⟨t, a.nox, q⟩
end

/-- what the top has written -/
structure Tx (K : PySem.W.Frag) (mg : Str → Option Value) : Type where
  d_is_whole : DefT K mg "is_whole" s_is_whole ["thing"]
  d_is_row : DefT K mg "is_row" s_is_row ["thing"]
  d_are_whole : DefT K mg "are_whole" s_are_whole ["things"]
  d_is_rising : DefT K mg "is_rising" s_is_rising ["things", "most"]
  d_partner : DefT K mg "partner" s_partner ["end"]
  d_place_of : DefT K mg "place_of" s_place_of ["web", "end"]
  d_ends_of : DefT K mg "ends_of" s_ends_of ["web"]
  d_ends_at : DefT K mg "ends_at" s_ends_at ["web", "place"]
  d_parts_by : DefT K mg "parts_by" s_parts_by ["many", "ties"]
  d_parts_of : DefT K mg "parts_of" s_parts_of ["web"]
  d_is_one_part : DefT K mg "is_one_part" s_is_one_part ["web"]
  d_begun : DefT K mg "begun" s_begun ["row"]
  d_row_of : DefT K mg "row_of" s_row_of ["row", "ends"]
  d_order_of : DefT K mg "order_of" s_order_of ["web", "rows"]
  d_follower : DefT K mg "follower" s_follower ["web", "order", "end"]
  d_is_corner : DefT K mg "is_corner" s_is_corner ["web", "order", "corner"]
  d_corner_place : DefT K mg "corner_place" s_corner_place ["web", "corner"]
  d_put_behind : DefT K mg "put_behind" s_put_behind ["row", "corner", "end"]
  d_put_in : DefT K mg "put_in" s_put_in ["web", "order", "one", "other"]
  d_onward : DefT K mg "onward" s_onward ["web", "order", "end"]
  d_face_of : DefT K mg "face_of" s_face_of ["web", "order", "end"]
  d_lone_faces : DefT K mg "lone_faces" s_lone_faces ["order"]
  d_faces : DefT K mg "faces" s_faces ["web", "order"]
  d_is_tree : DefT K mg "is_tree" s_is_tree ["web", "tree"]
  d_in_common : DefT K mg "in_common" s_in_common ["web", "i", "j"]
  d_is_pair : DefT K mg "is_pair" s_is_pair ["web", "pair"]
  d_tree_shows : DefT K mg "tree_shows" s_tree_shows ["web", "paper"]
  d_corners_at : DefT K mg "corners_at" s_corners_at ["order", "place"]
  d_with_tie : DefT K mg "with_tie" s_with_tie ["floor", "pair"]
  d_in_one : DefT K mg "in_one" s_in_one ["floor", "pair"]
  d_renamed : DefT K mg "renamed" s_renamed ["web", "order", "names"]
  d_laid : DefT K mg "laid" s_laid ["web", "paper"]
  d__law_pen : DefT K mg "_law_pen" s__law_pen ["_law_script"]
  d__law_draw : DefT K mg "_law_draw" s__law_draw ["_law_pen_here", "_law_many"]
  d__law_web : DefT K mg "_law_web" s__law_web ["_law_pen_here", "_law_places", "_law_ties_here"]
  d__law_one : DefT K mg "_law_one" s__law_one ["_law_pen_here", "_law_places", "_law_ties_here"]
  d__law_whole : DefT K mg "_law_whole" s__law_whole ["_law_found"]
  d__law_word : DefT K mg "_law_word" s__law_word ["_law_e"]
  d__law_told : DefT K mg "_law_told" s__law_told ["_law_asked"]
  d__law_partner : DefT K mg "_law_partner" s__law_partner ["_law_end"]
  d__law_faces : DefT K mg "_law_faces" s__law_faces ["_law_order"]
  d__law_parts : DefT K mg "_law_parts" s__law_parts ["_law_web_here"]
  d__law_holes : DefT K mg "_law_holes" s__law_holes ["_law_web_here", "_law_order"]
  d__law_is_order : DefT K mg "_law_is_order" s__law_is_order ["_law_web_here", "_law_found"]
  d__law_ties : DefT K mg "_law_ties" s__law_ties ["_law_web_here", "_law_things"]
  d__law_tree : DefT K mg "_law_tree" s__law_tree ["_law_web_here", "_law_paper"]
  d__law_drawn_tree : DefT K mg "_law_drawn_tree" s__law_drawn_tree ["_law_pen_here", "_law_web_here"]
  d__law_right : DefT K mg "_law_right" s__law_right ["_law_web_here", "_law_paper"]
  d_law : DefT K mg "law" s_law ["_law_script"]
  n_abs : mg "abs" = none
  n_isinstance : mg "isinstance" = none
  n_sorted : mg "sorted" = none
  n_int : mg "int" = none
  n_ValueError : mg "ValueError" = none
  n_max : mg "max" = none
  n_enumerate : mg "enumerate" = none
  n_zip : mg "zip" = none
  n_len : mg "len" = none
  n_list : mg "list" = none
  n_all : mg "all" = none
  n_tuple : mg "tuple" = none
  n_min : mg "min" = none
  n_bool : mg "bool" = none
  n_set : mg "set" = none
  n_range : mg "range" = none
  most : ∃ t, mg "MOST_TIES" = some (.int 24 t)
  c_FloorError : ∃ C, mg "FloorError" = some (.ref C)
end HF
end

section
set_option linter.all false
namespace HF
/-! ### cyclic neighbours in a row -/
/-- y comes behind x in the row, read round -/
def Nx (c : List Nat) (x y : Nat) : Prop := ∃ l r, c = l ++ x :: r ∧ (r ++ (l ++ [x])).head? = some y

theorem nx_mem {c : List Nat} {x y : Nat} (h : Nx c x y) : x ∈ c ∧ y ∈ c := by
  obtain ⟨l, r, rfl, h⟩ := h
  refine ⟨by simp, ?_⟩
  have := List.mem_of_mem_head? h
  simp only [List.mem_append, List.mem_cons, List.not_mem_nil, or_false] at this ⊢
  rcases this with h | h | h
  · exact .inr (.inr h)
  · exact .inl h
  · exact .inr (.inl h)

theorem nx_rot {a b : List Nat} {x y : Nat} (h : Nx (a ++ b) x y) : Nx (b ++ a) x y := by
  obtain ⟨l, r, e, h⟩ := h
  rcases List.append_eq_append_iff.mp e with ⟨a', e1, e2⟩ | ⟨c', e1, e2⟩
  · -- l = a ++ a', b = a' ++ x :: r
    subst e1
    subst e2
    refine ⟨a', r ++ a, by simp, ?_⟩
    rw [← h]
    simp
  · cases c' with
    | nil =>
      simp only [List.nil_append] at e2
      simp only [List.append_nil] at e1
      subst e1
      subst e2
      refine ⟨[], r ++ a, by simp, ?_⟩
      rw [← h]
      simp
    | cons z c'' =>
      simp only [List.cons_append, List.cons.injEq] at e2
      obtain ⟨rfl, rfl⟩ := e2
      subst e1
      refine ⟨b ++ l, c'', by simp, ?_⟩
      rw [← h]
      simp

theorem split_unique {x : Nat} : ∀ {l r l' r' : List Nat}, (l ++ x :: r).Nodup → l ++ x :: r = l' ++ x :: r' → l = l' ∧ r = r'
  | [], r, [], r', _, e => by simpa using e
  | [], r, z :: l', r', nd, e => by
    simp only [List.nil_append, List.cons_append, List.cons.injEq] at e
    obtain ⟨rfl, rfl⟩ := e
    simp at nd
  | z :: l, r, [], r', nd, e => by
    simp only [List.nil_append, List.cons_append, List.cons.injEq] at e
    obtain ⟨rfl, rfl⟩ := e
    simp at nd
  | z :: l, r, z' :: l', r', nd, e => by
    simp only [List.cons_append, List.cons.injEq] at e
    obtain ⟨rfl, e⟩ := e
    simp only [List.cons_append, List.nodup_cons] at nd
    obtain ⟨rfl, rfl⟩ := split_unique nd.2 e
    exact ⟨rfl, rfl⟩

theorem nx_fun {c : List Nat} {x y y' : Nat} (nd : c.Nodup) (h : Nx c x y) (h' : Nx c x y') : y = y' := by
  obtain ⟨l, r, rfl, h⟩ := h
  obtain ⟨l', r', e, h'⟩ := h'
  obtain ⟨rfl, rfl⟩ := split_unique nd e
  rw [h] at h'
  exact Option.some.inj h'

theorem nx_ins_at {l r : List Nat} {x e : Nat} : Nx (l ++ x :: e :: r) x e := ⟨l, e :: r, rfl, rfl⟩
theorem nx_ins_new {l r : List Nat} {x e f : Nat} (nd : (l ++ x :: r).Nodup) (h : Nx (l ++ x :: r) x f) : Nx (l ++ x :: e :: r) e f := by
  obtain ⟨l', r', q, h⟩ := h
  obtain ⟨rfl, rfl⟩ := split_unique nd q
  refine ⟨l ++ [x], r, by simp, ?_⟩
  cases r with
  | nil =>
    cases l <;> simpa using h
  | cons z r => simpa using h
theorem nx_ins_old {l r : List Nat} {x e z y : Nat} (hz : z ≠ x) (h : Nx (l ++ x :: r) z y) : Nx (l ++ x :: e :: r) z y := by
  obtain ⟨l', r', q, h⟩ := h
  rcases List.append_eq_append_iff.mp q with ⟨a', e1, e2⟩ | ⟨c', e1, e2⟩
  · cases a' with
    | nil =>
      simp only [List.nil_append, List.cons.injEq] at e2
      exact absurd e2.1.symm hz
    | cons u a' =>
      simp only [List.cons_append, List.cons.injEq] at e2
      obtain ⟨rfl, rfl⟩ := e2
      subst e1
      refine ⟨l ++ x :: e :: a', r', by simp, ?_⟩
      cases r' with
      | nil => cases l <;> simpa using h
      | cons v r' => simpa using h
  · cases c' with
    | nil =>
      simp only [List.nil_append, List.cons.injEq] at e2
      exact absurd e2.1 hz
    | cons u c' =>
      simp only [List.cons_append, List.cons.injEq] at e2
      obtain ⟨rfl, rfl⟩ := e2
      subst e1
      refine ⟨l', c' ++ x :: e :: r, by simp, ?_⟩
      cases c' with
      | nil => simpa using h
      | cons v c' => simpa using h
theorem nx_one {e : Nat} : Nx [e] e e := ⟨[], [], rfl, rfl⟩

/-! ### chains -/
def Ch (S : Nat → Nat → Prop) : List Nat → Prop
  | [] => True
  | [_] => True
  | x :: y :: r => S x y ∧ Ch S (y :: r)
theorem ch_join {S : Nat → Nat → Prop} : ∀ {a : List Nat} {x : Nat} {b : List Nat}, Ch S (a ++ [x]) → Ch S (x :: b) → Ch S (a ++ x :: b)
  | [], _, _, _, h => h
  | [z], x, b, h1, h2 => ⟨h1.1, h2⟩
  | z :: z' :: a, x, b, h1, h2 => ⟨h1.1, ch_join (a := z' :: a) h1.2 h2⟩
theorem ch_left {S : Nat → Nat → Prop} : ∀ {a b : List Nat}, Ch S (a ++ b) → Ch S a
  | [], _, _ => True.intro
  | [_], _, _ => True.intro
  | _ :: z' :: a, b, h => ⟨h.1, ch_left (a := z' :: a) h.2⟩
theorem ch_tail {S : Nat → Nat → Prop} {x : Nat} : ∀ {b : List Nat}, Ch S (x :: b) → Ch S b
  | [], _ => True.intro
  | _ :: _, h => h.2
theorem ch_right {S : Nat → Nat → Prop} : ∀ {a b : List Nat}, Ch S (a ++ b) → Ch S b
  | [], _, h => h
  | _ :: a, b, h => ch_right (a := a) (ch_tail h)
theorem ch_mono {S T : Nat → Nat → Prop} : ∀ {a : List Nat} {z : Nat}, Ch S (a ++ [z]) → (∀ x y, x ∈ a → S x y → T x y) → Ch T (a ++ [z])
  | [], _, _, _ => True.intro
  | [u], z, h, m => ⟨m u z (by simp) h.1, True.intro⟩
  | u :: v :: a, z, h, m => ⟨m u v (by simp) h.1, ch_mono (a := v :: a) h.2 fun x y hx => m x y (List.mem_cons_of_mem _ hx)⟩

/-- a closed walk; the empty one too -/
def Cyc (S : Nat → Nat → Prop) (c : List Nat) : Prop := Ch S (c ++ c.take 1)
theorem cyc_nil {S : Nat → Nat → Prop} : Cyc S [] := True.intro
theorem cyc_snoc {S : Nat → Nat → Prop} {u : List Nat} {e h : Nat} (hh : (u ++ [e]).head? = some h) : Cyc S (u ++ [e]) ↔ Ch S (u ++ [e]) ∧ S e h := by
  cases u with
  | nil =>
    simp at hh
    subst hh
    show (S e e ∧ True) ↔ (True ∧ S e e)
    simp
  | cons z u =>
    simp at hh
    subst hh
    have e1 : (z :: u ++ [e]).take 1 = [z] := rfl
    unfold Cyc
    rw [e1]
    constructor
    · intro h
      refine ⟨ch_left h, ?_⟩
      have e2 : z :: u ++ [e] ++ [z] = (z :: u) ++ ([e, z]) := by simp
      rw [e2] at h
      exact (ch_right h).1
    · rintro ⟨h1, h2⟩
      have e2 : z :: u ++ [e] ++ [z] = (z :: u) ++ (e :: [z]) := by simp
      rw [e2]
      exact ch_join h1 ⟨h2, True.intro⟩
theorem cyc_rot {S : Nat → Nat → Prop} {a b : List Nat} (h : Cyc S (a ++ b)) : Cyc S (b ++ a) := by
  cases a with
  | nil => simpa using h
  | cons x a =>
    cases b with
    | nil => simpa using h
    | cons y b =>
      unfold Cyc at h ⊢
      have e1 : x :: a ++ y :: b ++ (x :: a ++ y :: b).take 1 = (x :: a) ++ y :: (b ++ [x]) := by simp
      have e2 : y :: b ++ x :: a ++ (y :: b ++ x :: a).take 1 = (y :: b) ++ x :: (a ++ [y]) := by simp
      rw [e1] at h
      rw [e2]
      refine ch_join ?_ ?_
      · have := ch_right h
        simpa using this
      · have e3 : (x :: a) ++ y :: (b ++ [x]) = (x :: a ++ [y]) ++ (b ++ [x]) := by simp
        rw [e3] at h
        have := ch_left h
        simpa using this
/-- in a closed walk each has the next one in it -/
theorem cyc_next {S : Nat → Nat → Prop} {c : List Nat} (h : Cyc S c) {x : Nat} (hx : x ∈ c) : ∃ y ∈ c, S x y := by
  obtain ⟨a, b, rfl⟩ := List.append_of_mem hx
  have h2 : Cyc S ((x :: b) ++ a) := cyc_rot h
  cases hb : b ++ a with
  | nil =>
    rw [List.cons_append, hb] at h2
    exact ⟨x, by simp, h2.1⟩
  | cons y r =>
    rw [List.cons_append, hb] at h2
    refine ⟨y, ?_, h2.1⟩
    have q : y ∈ b ++ a := by rw [hb]; simp
    rcases List.mem_append.mp q with h | h
    · exact List.mem_append.mpr (.inr (List.mem_cons_of_mem _ h))
    · exact List.mem_append.mpr (.inl h)
/-- and the one ahead -/
theorem cyc_prev {S : Nat → Nat → Prop} {c : List Nat} (h : Cyc S c) {x : Nat} (hx : x ∈ c) : ∃ y ∈ c, S y x := by
  obtain ⟨a, b, rfl⟩ := List.append_of_mem hx
  have h2 : Cyc S ((x :: b) ++ a) := cyc_rot h
  have key : ∀ (d : List Nat), Cyc S (x :: d) → ∃ y ∈ x :: d, S y x := by
    intro d hd
    have e : x :: d = (x :: d).dropLast ++ [(x :: d).getLast (by simp)] := (List.dropLast_concat_getLast (by simp)).symm
    have hm : (x :: d).getLast (by simp) ∈ x :: d := List.getLast_mem _
    rw [e] at hd
    have := (cyc_snoc (h := x) (by rw [← e]; rfl)).mp hd
    exact ⟨_, hm, this.2⟩
  obtain ⟨y, hy, s⟩ := key (b ++ a) h2
  refine ⟨y, ?_, s⟩
  simp only [List.mem_append, List.mem_cons] at hy ⊢
  rcases hy with h | h | h
  · exact .inr (.inl h)
  · exact .inr (.inr h)
  · exact .inl h
theorem cyc_mono {S T : Nat → Nat → Prop} {c : List Nat} (h : Cyc S c) (m : ∀ x y, x ∈ c → S x y → T x y) : Cyc T c := by
  cases c with
  | nil => exact cyc_nil
  | cons z c =>
    have h' : Ch S (z :: c ++ [z]) := h
    exact ch_mono h' m
end HF

namespace HF
/-! ### rows and faces -/
def Sg (R : List (List Nat)) (x y : Nat) : Prop := ∃ row ∈ R, Nx row x y
def St (pi : Nat → Nat) (R : List (List Nat)) (x y : Nat) : Prop := Sg R (pi x) y

structure IsF (pi : Nat → Nat) (R : List (List Nat)) (L : List Nat) (F : List (List Nat)) : Prop where
  cyc : ∀ c ∈ F, Cyc (St pi R) c
  rp : R.flatten.Perm L
  fp : F.flatten.Perm L
  nd : L.Nodup
  emp : F.count [] = R.count []
  inv : ∀ x, pi (pi x) = x
  cl : ∀ x ∈ L, pi x ∈ L

theorem row_unique {R : List (List Nat)} (nd : R.flatten.Nodup) : ∀ {r1 r2 : List Nat} {x : Nat}, r1 ∈ R → r2 ∈ R → x ∈ r1 → x ∈ r2 → r1 = r2 := by
  induction R with
  | nil => intro r1 r2 x h; cases h
  | cons r R ih =>
    intro r1 r2 x h1 h2 m1 m2
    rw [List.flatten_cons, List.nodup_append] at nd
    obtain ⟨n1, n2, n3⟩ := nd
    have far : ∀ {q}, q ∈ R → x ∈ q → x ∈ r → False := fun hq mq mr => n3 x mr x (List.mem_flatten.mpr ⟨_, hq, mq⟩) rfl
    rcases List.mem_cons.mp h1 with e1 | e1 <;> rcases List.mem_cons.mp h2 with e2 | e2
    · rw [e1, e2]
    · exact (far e2 m2 (e1 ▸ m1)).elim
    · exact (far e1 m1 (e2 ▸ m2)).elim
    · exact ih n2 e1 e2 m1 m2

theorem row_nodup {R : List (List Nat)} (nd : R.flatten.Nodup) {r : List Nat} (h : r ∈ R) : r.Nodup := by
  induction R with
  | nil => cases h
  | cons q R ih =>
    rw [List.flatten_cons, List.nodup_append] at nd
    rcases List.mem_cons.mp h with e | e
    · rw [e]; exact nd.1
    · exact ih nd.2.1 e

theorem sg_fun {R : List (List Nat)} (nd : R.flatten.Nodup) {x y y' : Nat} (h : Sg R x y) (h' : Sg R x y') : y = y' := by
  obtain ⟨r, hr, n⟩ := h
  obtain ⟨r', hr', n'⟩ := h'
  have e := row_unique nd hr hr' (nx_mem n).1 (nx_mem n').1
  subst e
  exact nx_fun (row_nodup nd hr) n n'

section
variable {pi : Nat → Nat} {R R' : List (List Nat)} {L : List Nat} {F G : List (List Nat)} {e : Nat}

theorem IsF.perm (h : IsF pi R L F) (p : F.Perm G) : IsF pi R L G where
  cyc := fun c hc => h.cyc c (p.mem_iff.mpr hc)
  rp := h.rp
  fp := (p.flatten.symm).trans h.fp
  nd := h.nd
  emp := by rw [← h.emp]; exact (p.count_eq []).symm
  inv := h.inv
  cl := h.cl

theorem IsF.fnd (h : IsF pi R L F) : F.flatten.Nodup := h.fp.nodup_iff.mpr h.nd
theorem IsF.rnd (h : IsF pi R L F) : R.flatten.Nodup := h.rp.nodup_iff.mpr h.nd

theorem IsF.rot {a b : List Nat} {rest : List (List Nat)} (h : IsF pi R L ((a ++ b) :: rest)) : IsF pi R L ((b ++ a) :: rest) where
  cyc := fun c hc => by
    rcases List.mem_cons.mp hc with e | e
    · rw [e]; exact cyc_rot (h.cyc _ List.mem_cons_self)
    · exact h.cyc c (List.mem_cons_of_mem _ e)
  rp := h.rp
  fp := by
    refine List.Perm.trans ?_ h.fp
    rw [List.flatten_cons, List.flatten_cons]
    exact List.Perm.append_right _ List.perm_append_comm
  nd := h.nd
  emp := by
    rw [← h.emp, List.count_cons, List.count_cons]
    congr 1
    have : ((b ++ a == []) : Bool) = (a ++ b == []) := by
      cases a <;> cases b <;> rfl
    rw [this]
  inv := h.inv
  cl := h.cl

theorem IsF.disj {c : List Nat} {rest : List (List Nat)} (h : IsF pi R L (c :: rest)) {x : Nat} (hx : x ∈ c) {d : List Nat} (hd : d ∈ rest) (hx' : x ∈ d) : False := by
  have nd := h.fnd
  rw [List.flatten_cons, List.nodup_append] at nd
  exact nd.2.2 x hx x (List.mem_flatten.mpr ⟨d, hd, hx'⟩) rfl

/-- an end is put behind another one (some x), or to a place that has none -/
inductive Ins (R : List (List Nat)) (e : Nat) : Option Nat → List (List Nat) → Prop
  | lone (P Q : List (List Nat)) : R = P ++ [] :: Q → Ins R e none (P ++ [e] :: Q)
  | real (P Q : List (List Nat)) (l r : List Nat) (x : Nat) : R = P ++ (l ++ x :: r) :: Q → Ins R e (some x) (P ++ (l ++ x :: e :: r) :: Q)

theorem Ins.flat {k : Option Nat} (h : Ins R e k R') : R'.flatten.Perm (e :: R.flatten) := by
  cases h with
  | lone P Q q =>
    subst q
    simp only [List.flatten_append, List.flatten_cons, List.nil_append, List.singleton_append]
    exact List.perm_middle
  | real P Q l r x q =>
    subst q
    simp only [List.flatten_append, List.flatten_cons]
    have e1 : P.flatten ++ (l ++ x :: e :: r ++ Q.flatten) = (P.flatten ++ (l ++ [x])) ++ e :: (r ++ Q.flatten) := by simp
    have e2 : P.flatten ++ (l ++ x :: r ++ Q.flatten) = (P.flatten ++ (l ++ [x])) ++ (r ++ Q.flatten) := by simp
    rw [e1, e2]
    exact List.perm_middle

theorem count_mid (P Q : List (List Nat)) (r : List Nat) : (P ++ r :: Q).count [] = P.count [] + Q.count [] + (if r = [] then 1 else 0) := by
  rw [List.count_append, List.count_cons]
  have : (if (r == ([] : List Nat)) = true then 1 else 0) = if r = [] then 1 else 0 := by
    cases r <;> simp
  rw [this]
  omega

theorem ins_face (h : IsF pi R L F) {k : Option Nat} (i : Ins R e k R') (he : e ∉ L) (pe : pi e = e) :
    ∃ c rest A, F.Perm (c :: rest) ∧ (∀ x, k = some x → pi x ∈ c) ∧ (k = none → c = []) ∧ A.Perm c ∧ IsF pi R' (e :: L) ((A ++ [e]) :: rest) := by
  have rp' : R'.flatten.Perm (e :: L) := i.flat.trans (h.rp.cons e)
  have nd' : (e :: L).Nodup := List.nodup_cons.mpr ⟨he, h.nd⟩
  have cl' : ∀ x ∈ e :: L, pi x ∈ e :: L := fun x hx => by
    rcases List.mem_cons.mp hx with q | q
    · rw [q, pe]; exact List.mem_cons_self
    · exact List.mem_cons_of_mem _ (h.cl x q)
  have nin : ∀ {d}, d ∈ F → ∀ x ∈ d, x ≠ e := fun hd x hx q => he (h.fp.mem_iff.mp (List.mem_flatten.mpr ⟨_, hd, q ▸ hx⟩))
  cases i with
  | lone P Q q =>
    subst q
    have hc : 0 < F.count [] := by rw [h.emp, count_mid]; simp
    have hm : ([] : List Nat) ∈ F := List.count_pos_iff.mp hc
    obtain ⟨rest, pm⟩ : ∃ rest, F.Perm ([] :: rest) := ⟨F.erase [], List.perm_cons_erase hm⟩
    have mono : ∀ x y, St pi (P ++ [] :: Q) x y → St pi (P ++ [e] :: Q) x y := by
      rintro x y ⟨row, hr, n⟩
      rcases List.mem_append.mp hr with q | q
      · exact ⟨row, List.mem_append_left _ q, n⟩
      · rcases List.mem_cons.mp q with q | q
        · rw [q] at n
          exact absurd (nx_mem n).1 (by simp)
        · exact ⟨row, List.mem_append_right _ (List.mem_cons_of_mem _ q), n⟩
    refine ⟨[], rest, [], pm, (fun x hx => nomatch hx), fun _ => rfl, .refl _, ?_, rp', ?_, nd', ?_, h.inv, cl'⟩
    · intro d hd
      rcases List.mem_cons.mp hd with q | q
      · rw [q]
        refine (cyc_snoc (u := []) (h := e) rfl).mpr ⟨True.intro, [e], List.mem_append_right _ List.mem_cons_self, ?_⟩
        rw [pe]
        exact nx_one
      · exact cyc_mono (h.cyc d (pm.mem_iff.mpr (List.mem_cons_of_mem _ q))) fun x y _ s => mono x y s
    · have e1 := pm.flatten.symm.trans h.fp
      rw [List.flatten_cons] at e1 ⊢
      exact e1.cons e
    · have e1 := h.emp
      rw [pm.count_eq, List.count_cons, count_mid] at e1
      rw [List.count_cons, count_mid]
      simp at e1 ⊢
      omega
  | real P Q l r x q =>
    subst q
    have hrow : (l ++ x :: r) ∈ P ++ (l ++ x :: r) :: Q := List.mem_append_right _ List.mem_cons_self
    have hx : x ∈ L := h.rp.mem_iff.mp (List.mem_flatten.mpr ⟨_, hrow, by simp⟩)
    have hpx := h.cl x hx
    obtain ⟨c, hc, hpc⟩ := List.mem_flatten.mp (h.fp.mem_iff.mpr hpx)
    obtain ⟨rest, pm⟩ : ∃ rest, F.Perm (c :: rest) := ⟨F.erase c, List.perm_cons_erase hc⟩
    obtain ⟨u, v, ec⟩ := List.append_of_mem hpc
    have h1 := h.perm pm
    have ec2 : c = (u ++ [pi x]) ++ v := by rw [ec]; simp
    rw [ec2] at h1
    have h2 := h1.rot
    have eA : v ++ (u ++ [pi x]) = (v ++ u) ++ [pi x] := by simp
    rw [eA] at h2
    have ndA : ((v ++ u) ++ [pi x]).Nodup := row_nodup h2.fnd List.mem_cons_self
    obtain ⟨f, hf⟩ : ∃ f, ((v ++ u) ++ [pi x]).head? = some f := by
      cases hvu : (v ++ u) ++ [pi x] with
      | nil => simp at hvu
      | cons f _ => exact ⟨f, rfl⟩
    obtain ⟨c1, c2⟩ := (cyc_snoc hf).mp (h2.cyc _ List.mem_cons_self)
    have hrow' : (l ++ x :: e :: r) ∈ P ++ (l ++ x :: e :: r) :: Q := List.mem_append_right _ List.mem_cons_self
    have mono : ∀ z y, z ≠ pi x → St pi (P ++ (l ++ x :: r) :: Q) z y → St pi (P ++ (l ++ x :: e :: r) :: Q) z y := by
      rintro z y hz ⟨row, hr, n⟩
      have hz' : pi z ≠ x := fun q => hz (by rw [← q, h.inv])
      rcases List.mem_append.mp hr with q | q
      · exact ⟨row, List.mem_append_left _ q, n⟩
      · rcases List.mem_cons.mp q with q | q
        · rw [q] at n
          exact ⟨_, hrow', nx_ins_old hz' n⟩
        · exact ⟨row, List.mem_append_right _ (List.mem_cons_of_mem _ q), n⟩
    have toE : St pi (P ++ (l ++ x :: e :: r) :: Q) (pi x) e := ⟨_, hrow', by rw [h.inv]; exact nx_ins_at⟩
    have fromE : St pi (P ++ (l ++ x :: e :: r) :: Q) e f := by
      obtain ⟨row, hr, n⟩ := c2
      rw [h.inv] at n
      have er := row_unique h.rnd hr hrow (nx_mem n).1 (by simp)
      rw [er] at n
      refine ⟨_, hrow', ?_⟩
      rw [pe]
      exact nx_ins_new (row_nodup h.rnd hrow) n
    have pA : (v ++ u ++ [pi x]).Perm c := by
      rw [ec2, ← eA]
      exact List.perm_append_comm
    refine ⟨c, rest, v ++ u ++ [pi x], pm, fun y hy => by cases hy; exact hpc, (fun q => by cases q), pA, ?_, rp', ?_, nd', ?_, h.inv, cl'⟩
    · intro d hd
      rcases List.mem_cons.mp hd with q | q
      · rw [q]
        have hf' : (v ++ u ++ [pi x] ++ [e]).head? = some f := by
          rw [List.head?_append, hf]
          rfl
        refine (cyc_snoc hf').mpr ⟨?_, fromE⟩
        have e3 : v ++ u ++ [pi x] ++ [e] = (v ++ u) ++ pi x :: [e] := by simp
        rw [e3]
        refine ch_join (ch_mono c1 fun z y hz s => mono z y (fun q => ?_) s) ⟨toE, True.intro⟩
        rw [q] at hz
        rw [List.nodup_append] at ndA
        exact ndA.2.2 _ hz _ (by simp) rfl
      · refine cyc_mono (h.cyc d (pm.mem_iff.mpr (List.mem_cons_of_mem _ q))) fun z y hz s => mono z y (fun q2 => ?_) s
        rw [q2] at hz
        exact (h.perm pm).disj hpc q hz
    · have e1 := pm.flatten.symm.trans h.fp
      rw [List.flatten_cons] at e1 ⊢
      have e2 : (v ++ u ++ [pi x] ++ [e] ++ rest.flatten).Perm (e :: (v ++ u ++ [pi x] ++ rest.flatten)) := by
        rw [List.append_assoc _ [e]]
        exact List.perm_middle
      exact e2.trans (((pA.append_right _).trans e1).cons e)
    · have e1 := h.emp
      rw [pm.count_eq, List.count_cons, count_mid, ec] at e1
      rw [List.count_cons, count_mid]
      simp at e1 ⊢
      omega
end

/-! ### two ends become partners -/
def sw (pi : Nat → Nat) (e e' x : Nat) : Nat := if x = e then e' else if x = e' then e else pi x

section
variable {pi : Nat → Nat} {R : List (List Nat)} {L : List Nat} {F : List (List Nat)} {e e' : Nat}
theorem sw_inv (inv : ∀ x, pi (pi x) = x) (p1 : pi e = e) (p2 : pi e' = e') : ∀ x, sw pi e e' (sw pi e e' x) = x := by
  intro x
  unfold sw
  by_cases h1 : x = e
  · subst h1
    simp
  · by_cases h2 : x = e'
    · subst h2
      simp [h1]
    · simp only [if_neg h1, if_neg h2]
      have n1 : pi x ≠ e := fun q => h1 (by rw [← inv x, q, p1])
      have n2 : pi x ≠ e' := fun q => h2 (by rw [← inv x, q, p2])
      rw [if_neg n1, if_neg n2, inv]
theorem sw_cl (cl : ∀ x ∈ L, pi x ∈ L) (h1 : e ∈ L) (h2 : e' ∈ L) : ∀ x ∈ L, sw pi e e' x ∈ L := by
  intro x hx
  unfold sw
  split
  · exact h2
  · split
    · exact h1
    · exact cl x hx
theorem st_sw_old {z y : Nat} (h1 : z ≠ e) (h2 : z ≠ e') (s : St pi R z y) : St (sw pi e e') R z y := by
  unfold St sw
  rw [if_neg h1, if_neg h2]
  exact s
theorem st_sw_e {y : Nat} (p2 : pi e' = e') (s : St pi R e' y) : St (sw pi e e') R e y := by
  unfold St sw
  rw [if_pos rfl]
  unfold St at s
  rw [p2] at s
  exact s
theorem st_sw_e' {y : Nat} (ne : e' ≠ e) (p1 : pi e = e) (s : St pi R e y) : St (sw pi e e') R e' y := by
  unfold St sw
  rw [if_neg ne, if_pos rfl]
  unfold St at s
  rw [p1] at s
  exact s

theorem head_snoc (u : List Nat) (e : Nat) : ∃ h, (u ++ [e]).head? = some h := by
  cases u with
  | nil => exact ⟨e, rfl⟩
  | cons z u => exact ⟨z, rfl⟩

/-- one face comes apart -/
theorem sw_split {U V : List Nat} {rest : List (List Nat)} (h : IsF pi R L ((U ++ [e] ++ (V ++ [e'])) :: rest)) (p1 : pi e = e) (p2 : pi e' = e') :
    IsF (sw pi e e') R L ((U ++ [e]) :: (V ++ [e']) :: rest) := by
  have ndc : (U ++ [e] ++ (V ++ [e'])).Nodup := row_nodup h.fnd List.mem_cons_self
  have hcyc := h.cyc _ List.mem_cons_self
  obtain ⟨hu, eu⟩ := head_snoc U e
  obtain ⟨hv, ev⟩ := head_snoc V e'
  have nd2 := ndc
  rw [List.nodup_append] at nd2
  obtain ⟨n1, n2, n3⟩ := nd2
  have nd1 := n1
  have nd2' := n2
  rw [List.nodup_append] at n1 n2
  have eU : e ∉ U := fun q => n1.2.2 e q e (by simp) rfl
  have e'V : e' ∉ V := fun q => n2.2.2 e' q e' (by simp) rfl
  have e'U : e' ∉ U := fun q => n3 e' (by simp [q]) e' (by simp) rfl
  have eV : e ∉ V := fun q => n3 e (by simp) e (by simp [q]) rfl
  have ne : e' ≠ e := fun q => n3 e (by simp) e' (by simp) q.symm
  have eq1 : U ++ [e] ++ (V ++ [e']) = (U ++ [e] ++ V) ++ [e'] := by simp
  rw [eq1] at hcyc
  have eh : (U ++ [e] ++ V ++ [e']).head? = some hu := by
    rw [← eq1, List.head?_append, eu]
    rfl
  obtain ⟨c1, c2⟩ := (cyc_snoc eh).mp hcyc
  have c3 : Ch (St pi R) (U ++ [e]) := by
    have q : U ++ [e] ++ V ++ [e'] = (U ++ [e]) ++ (V ++ [e']) := by simp
    rw [q] at c1
    exact ch_left c1
  have c4 : Ch (St pi R) (e :: (V ++ [e'])) := by
    have q : U ++ [e] ++ V ++ [e'] = U ++ (e :: (V ++ [e'])) := by simp
    rw [q] at c1
    exact ch_right c1
  have c5 : St pi R e hv := by
    cases V with
    | nil =>
      simp at ev
      rw [← ev]
      exact c4.1
    | cons z V =>
      simp at ev
      rw [← ev]
      exact c4.1
  have oldm : ∀ {d : List Nat}, e ∉ d → e' ∉ d → ∀ x y, x ∈ d → St pi R x y → St (sw pi e e') R x y := fun h1 h2 x y hx s => st_sw_old (fun q => h1 (q ▸ hx)) (fun q => h2 (q ▸ hx)) s
  refine ⟨fun d hd => ?_, h.rp, ?_, h.nd, ?_, sw_inv h.inv p1 p2, sw_cl h.cl ?_ ?_⟩
  · rcases List.mem_cons.mp hd with q | q
    · rw [q]
      exact (cyc_snoc eu).mpr ⟨ch_mono c3 (oldm eU e'U), st_sw_e p2 c2⟩
    · rcases List.mem_cons.mp q with q | q
      · rw [q]
        exact (cyc_snoc ev).mpr ⟨ch_mono (ch_tail c4) (oldm eV e'V), st_sw_e' ne p1 c5⟩
      · exact cyc_mono (h.cyc d (List.mem_cons_of_mem _ q)) (oldm (fun z => h.disj (by simp) q z) (fun z => h.disj (by simp) q z))
  · have q := h.fp
    simp only [List.flatten_cons, List.append_assoc] at q ⊢
    exact q
  · rw [← h.emp]
    simp [List.count_cons]
  · exact h.fp.mem_iff.mp (List.mem_flatten.mpr ⟨_, List.mem_cons_self, by simp⟩)
  · exact h.fp.mem_iff.mp (List.mem_flatten.mpr ⟨_, List.mem_cons_self, by simp⟩)

/-- two faces become one -/
theorem sw_merge {U V : List Nat} {rest : List (List Nat)} (h : IsF pi R L ((U ++ [e]) :: (V ++ [e']) :: rest)) (p1 : pi e = e) (p2 : pi e' = e') :
    IsF (sw pi e e') R L ((U ++ [e] ++ (V ++ [e'])) :: rest) := by
  have hc1 := h.cyc _ List.mem_cons_self
  have hc2 := h.cyc _ (List.mem_cons_of_mem _ List.mem_cons_self)
  have nd1 : (U ++ [e]).Nodup := row_nodup h.fnd List.mem_cons_self
  have nd2 : (V ++ [e']).Nodup := row_nodup h.fnd (List.mem_cons_of_mem _ List.mem_cons_self)
  rw [List.nodup_append] at nd1 nd2
  have dj : ∀ x, x ∈ U ++ [e] → x ∈ V ++ [e'] → False := fun x h1 h2 => h.disj h1 List.mem_cons_self h2
  have eU : e ∉ U := fun q => nd1.2.2 e q e (by simp) rfl
  have e'V : e' ∉ V := fun q => nd2.2.2 e' q e' (by simp) rfl
  have e'U : e' ∉ U := fun q => dj e' (by simp [q]) (by simp)
  have eV : e ∉ V := fun q => dj e (by simp) (by simp [q])
  have ne : e' ≠ e := fun q => dj e (by simp) (by rw [← q]; simp)
  obtain ⟨hu, eu⟩ := head_snoc U e
  obtain ⟨hv, ev⟩ := head_snoc V e'
  obtain ⟨a1, a2⟩ := (cyc_snoc eu).mp hc1
  obtain ⟨b1, b2⟩ := (cyc_snoc ev).mp hc2
  have oldm : ∀ {d : List Nat}, e ∉ d → e' ∉ d → ∀ x y, x ∈ d → St pi R x y → St (sw pi e e') R x y := fun h1 h2 x y hx s => st_sw_old (fun q => h1 (q ▸ hx)) (fun q => h2 (q ▸ hx)) s
  refine ⟨fun d hd => ?_, h.rp, ?_, h.nd, ?_, sw_inv h.inv p1 p2, sw_cl h.cl ?_ ?_⟩
  · rcases List.mem_cons.mp hd with q | q
    · rw [q]
      have eq1 : U ++ [e] ++ (V ++ [e']) = (U ++ [e] ++ V) ++ [e'] := by simp
      have eh : (U ++ [e] ++ V ++ [e']).head? = some hu := by
        rw [← eq1, List.head?_append, eu]
        rfl
      rw [eq1]
      refine (cyc_snoc eh).mpr ⟨?_, st_sw_e' ne p1 a2⟩
      have eq2 : U ++ [e] ++ V ++ [e'] = U ++ e :: (V ++ [e']) := by simp
      rw [eq2]
      refine ch_join (ch_mono a1 (oldm eU e'U)) ?_
      have b3 := ch_mono b1 (oldm eV e'V)
      cases hV : V ++ [e'] with
      | nil => exact True.intro
      | cons z r =>
        rw [hV] at b3 ev
        simp at ev
        subst ev
        exact ⟨st_sw_e p2 b2, b3⟩
    · exact cyc_mono (h.cyc d (List.mem_cons_of_mem _ (List.mem_cons_of_mem _ q))) (oldm (fun z => h.disj (by simp) (List.mem_cons_of_mem _ q) z)
        (fun z => ((h.perm (List.Perm.swap _ _ _)).disj (by simp) (List.mem_cons_of_mem _ q) z)))
  · have q := h.fp
    simp only [List.flatten_cons, List.append_assoc] at q ⊢
    exact q
  · rw [← h.emp]
    simp [List.count_cons]
  · exact h.fp.mem_iff.mp (List.mem_flatten.mpr ⟨_, List.mem_cons_self, by simp⟩)
  · exact h.fp.mem_iff.mp (List.mem_flatten.mpr ⟨_, List.mem_cons_of_mem _ List.mem_cons_self, by simp⟩)

/-- a face that has e, begun behind it -/
theorem IsF.behind {c : List Nat} {rest : List (List Nat)} (h : IsF pi R L (c :: rest)) {x : Nat} (hx : x ∈ c) : ∃ U, (U ++ [x]).Perm c ∧ IsF pi R L ((U ++ [x]) :: rest) := by
  obtain ⟨u, v, ec⟩ := List.append_of_mem hx
  have ec2 : c = (u ++ [x]) ++ v := by rw [ec]; simp
  subst ec2
  have h2 := h.rot
  refine ⟨v ++ u, ?_, ?_⟩
  · rw [List.append_assoc]
    exact List.perm_append_comm
  · rw [List.append_assoc]
    exact h2
end
end HF

namespace HF
/-- the faces bear one label each -/
def Lc (lam : Nat → Nat) (F : List (List Nat)) : Prop := ∀ c ∈ F, ∀ x ∈ c, ∀ y ∈ c, lam x = lam y
theorem Lc.perm {lam : Nat → Nat} {F G : List (List Nat)} (h : Lc lam F) (p : F.Perm G) : Lc lam G := fun c hc => h c (p.mem_iff.mpr hc)

section
variable {pi : Nat → Nat} {R R1 R2 : List (List Nat)} {L : List Nat} {F : List (List Nat)} {e e' : Nat} {k k' : Option Nat}
theorem ins_face' (h : IsF pi R L F) (i : Ins R e k R1) (he : e ∉ L) (pe : pi e = e) :
    ∃ F1, IsF pi R1 (e :: L) F1 ∧ F1.length = F.length ∧ ∀ lam, Lc lam F → (∀ x, k = some x → lam (pi x) = lam e) → Lc lam F1 := by
  obtain ⟨c, rest, A, pm, h1, h2, pA, hf⟩ := ins_face h i he pe
  refine ⟨_, hf, by rw [pm.length_eq]; rfl, fun lam hl hk d hd => ?_⟩
  have hl' := hl.perm pm
  rcases List.mem_cons.mp hd with q | q
  · subst q
    cases k with
    | none =>
      have ec := h2 rfl
      subst ec
      have eA := pA.eq_nil
      subst eA
      intro x hx y hy
      simp at hx hy
      rw [hx, hy]
    | some z =>
      have hz := h1 z rfl
      have key : ∀ x ∈ A ++ [e], lam x = lam e := fun x hx => by
        rcases List.mem_append.mp hx with q | q
        · rw [← hk z rfl]
          exact hl' c List.mem_cons_self x (pA.mem_iff.mp q) _ hz
        · simp at q
          rw [q]
      intro x hx y hy
      rw [key x hx, key y hy]
  · exact hl' d (List.mem_cons_of_mem _ q)

theorem two_ins (h : IsF pi R L F) (i1 : Ins R e k R1) (i2 : Ins R1 e' k' R2) (he : e ∉ L) (he' : e' ∉ e :: L) (p1 : pi e = e) (p2 : pi e' = e') :
    ∃ F2, IsF pi R2 (e' :: e :: L) F2 ∧ F2.length = F.length ∧ ∀ lam, Lc lam F → (∀ x, k = some x → lam (pi x) = lam e) → (∀ x, k' = some x → lam (pi x) = lam e') → Lc lam F2 := by
  obtain ⟨F1, a1, a2, a3⟩ := ins_face' h i1 he p1
  obtain ⟨F2, b1, b2, b3⟩ := ins_face' a1 i2 he' p2
  exact ⟨F2, b1, b2.trans a2, fun lam hl h1 h2 => b3 lam (a3 lam hl h1) h2⟩

/-- in one face: it comes apart -/
theorem join_same {c : List Nat} {rest : List (List Nat)} (h : IsF pi R L (c :: rest)) (hc : e ∈ c) (hc' : e' ∈ c) (ne : e ≠ e') (p1 : pi e = e) (p2 : pi e' = e') :
    ∃ d1 d2, IsF (sw pi e e') R L (d1 :: d2 :: rest) ∧ e ∈ d1 ∧ e' ∈ d2 := by
  obtain ⟨U, pU, hU⟩ := h.behind hc'
  have hm : e ∈ U ++ [e'] := pU.mem_iff.mpr hc
  rcases List.mem_append.mp hm with q | q
  · obtain ⟨a, b, rfl⟩ := List.append_of_mem q
    have eq : a ++ e :: b ++ [e'] = a ++ [e] ++ (b ++ [e']) := by simp
    rw [eq] at hU
    exact ⟨_, _, sw_split hU p1 p2, by simp, by simp⟩
  · simp at q
    exact absurd q ne
/-- in two: they become one -/
theorem join_two {c c' : List Nat} {rest : List (List Nat)} (h : IsF pi R L (c :: c' :: rest)) (hc : e ∈ c) (hc' : e' ∈ c') (p1 : pi e = e) (p2 : pi e' = e') :
    ∃ d, IsF (sw pi e e') R L (d :: rest) := by
  obtain ⟨U, pU, hU⟩ := h.behind hc
  have h2 := hU.perm (List.Perm.swap _ _ _)
  obtain ⟨V, pV, hV⟩ := h2.behind hc'
  exact ⟨_, sw_merge (hV.perm (List.Perm.swap _ _ _)) p1 p2⟩

theorem putin_any (h : IsF pi R L F) (i1 : Ins R e k R1) (i2 : Ins R1 e' k' R2) (he : e ∉ L) (he' : e' ∉ e :: L) (p1 : pi e = e) (p2 : pi e' = e') :
    ∃ F', IsF (sw pi e e') R2 (e' :: e :: L) F' ∧ F'.length ≤ F.length + 1 := by
  obtain ⟨F2, hf, hl, _⟩ := two_ins h i1 i2 he he' p1 p2
  have ne : e ≠ e' := fun q => he' (q ▸ List.mem_cons_self)
  obtain ⟨c, hc, ec⟩ := List.mem_flatten.mp (hf.fp.mem_iff.mpr (List.mem_cons_of_mem _ List.mem_cons_self : e ∈ e' :: e :: L))
  obtain ⟨c', hc', ec'⟩ := List.mem_flatten.mp (hf.fp.mem_iff.mpr (List.mem_cons_self : e' ∈ e' :: e :: L))
  have pm := List.perm_cons_erase hc
  have hl2 := pm.length_eq
  by_cases q : e' ∈ c
  · obtain ⟨d1, d2, hd, _⟩ := join_same (hf.perm pm) ec q ne p1 p2
    refine ⟨_, hd, ?_⟩
    simp only [List.length_cons] at hl2 ⊢
    omega
  · have hc2 : c' ∈ F2.erase c := by
      rcases List.mem_cons.mp (pm.mem_iff.mp hc') with z | z
      · exact absurd (z ▸ ec') q
      · exact z
    have pm2 := pm.trans ((List.perm_cons_erase hc2).cons c)
    obtain ⟨d, hd⟩ := join_two (hf.perm pm2) ec ec' p1 p2
    refine ⟨_, hd, ?_⟩
    have := pm2.length_eq
    simp only [List.length_cons] at this ⊢
    omega

theorem putin_merge (h : IsF pi R L F) (i1 : Ins R e k R1) (i2 : Ins R1 e' k' R2) (he : e ∉ L) (he' : e' ∉ e :: L) (p1 : pi e = e) (p2 : pi e' = e')
    (lam : Nat → Nat) (hl : Lc lam F) (h1 : ∀ x, k = some x → lam (pi x) = lam e) (h2 : ∀ x, k' = some x → lam (pi x) = lam e') (hne : lam e ≠ lam e') :
    ∃ F', IsF (sw pi e e') R2 (e' :: e :: L) F' ∧ F'.length + 1 = F.length := by
  obtain ⟨F2, hf, hlen, hL⟩ := two_ins h i1 i2 he he' p1 p2
  have hL2 := hL lam hl h1 h2
  obtain ⟨c, hc, ec⟩ := List.mem_flatten.mp (hf.fp.mem_iff.mpr (List.mem_cons_of_mem _ List.mem_cons_self : e ∈ e' :: e :: L))
  obtain ⟨c', hc', ec'⟩ := List.mem_flatten.mp (hf.fp.mem_iff.mpr (List.mem_cons_self : e' ∈ e' :: e :: L))
  have pm := List.perm_cons_erase hc
  have hc2 : c' ∈ F2.erase c := by
    rcases List.mem_cons.mp (pm.mem_iff.mp hc') with z | z
    · exact absurd (hL2 c hc e ec e' (z ▸ ec')) hne
    · exact z
  have pm2 := pm.trans ((List.perm_cons_erase hc2).cons c)
  obtain ⟨d, hd⟩ := join_two (hf.perm pm2) ec ec' p1 p2
  refine ⟨_, hd, ?_⟩
  have := pm2.length_eq
  simp only [List.length_cons] at this ⊢
  omega

theorem putin_split (h : IsF pi R L F) (hone : F.length = 1) (i1 : Ins R e k R1) (i2 : Ins R1 e' k' R2) (he : e ∉ L) (he' : e' ∉ e :: L) (p1 : pi e = e) (p2 : pi e' = e') :
    ∃ d1 d2, IsF (sw pi e e') R2 (e' :: e :: L) [d1, d2] ∧ e ∈ d1 ∧ e' ∈ d2 := by
  obtain ⟨F2, hf, hlen, _⟩ := two_ins h i1 i2 he he' p1 p2
  rw [hone] at hlen
  obtain ⟨c, rfl⟩ := List.length_eq_one_iff.mp hlen
  have ne : e ≠ e' := fun q => he' (q ▸ List.mem_cons_self)
  have ec : e ∈ c := by
    have := hf.fp.mem_iff.mpr (List.mem_cons_of_mem _ List.mem_cons_self : e ∈ e' :: e :: L)
    simpa using this
  have ec' : e' ∈ c := by
    have := hf.fp.mem_iff.mpr (List.mem_cons_self : e' ∈ e' :: e :: L)
    simpa using this
  exact join_same hf ec ec' ne p1 p2
end

/-! ### how many faces there are hangs on the rows alone -/
theorem inj_len {α β : Type} (Rel : α → β → Prop) : ∀ (F : List α) (G : List β), F.Nodup → (∀ c ∈ F, ∃ g ∈ G, Rel c g) → (∀ c ∈ F, ∀ c' ∈ F, ∀ g ∈ G, Rel c g → Rel c' g → c = c') → F.length ≤ G.length
  | [], _, _, _, _ => Nat.zero_le _
  | c :: F, G, nd, h1, h2 => by
    obtain ⟨g, hg, r⟩ := h1 c List.mem_cons_self
    obtain ⟨a, b, rfl⟩ := List.append_of_mem hg
    rw [List.nodup_cons] at nd
    have := inj_len Rel F (a ++ b) nd.2 (fun c' hc' => by
      obtain ⟨g', hg', r'⟩ := h1 c' (List.mem_cons_of_mem _ hc')
      rcases List.mem_append.mp hg' with q | q
      · exact ⟨g', List.mem_append_left _ q, r'⟩
      · rcases List.mem_cons.mp q with q | q
        · subst q
          have := h2 c List.mem_cons_self c' (List.mem_cons_of_mem _ hc') g' hg r r'
          exact absurd (this ▸ hc') nd.1
        · exact ⟨g', List.mem_append_right _ q, r'⟩)
      (fun c1 hc1 c2 hc2 g' hg' => h2 c1 (List.mem_cons_of_mem _ hc1) c2 (List.mem_cons_of_mem _ hc2) g' (by
        rcases List.mem_append.mp hg' with q | q
        · exact List.mem_append_left _ q
        · exact List.mem_append_right _ (List.mem_cons_of_mem _ q)))
    simp only [List.length_cons, List.length_append] at this ⊢
    omega

theorem ch_closed {S : Nat → Nat → Prop} {P : Nat → Prop} (st : ∀ x y, P x → S x y → P y) : ∀ {c : List Nat} {x : Nat}, Ch S (x :: c) → P x → ∀ y ∈ c, P y
  | [], _, _, _, y, hy => by cases hy
  | z :: c, x, h, p, y, hy => by
    have pz := st x z p h.1
    rcases List.mem_cons.mp hy with q | q
    · rw [q]; exact pz
    · exact ch_closed st h.2 pz y q
theorem cyc_closed {S : Nat → Nat → Prop} {P : Nat → Prop} (st : ∀ x y, P x → S x y → P y) {c : List Nat} (h : Cyc S c) {x : Nat} (hx : x ∈ c) (p : P x) : ∀ y ∈ c, P y := by
  obtain ⟨a, b, rfl⟩ := List.append_of_mem hx
  have h2 : Cyc S ((x :: b) ++ a) := cyc_rot h
  intro y hy
  have hy' : y = x ∨ y ∈ b ++ a := by
    simp only [List.mem_append, List.mem_cons] at hy ⊢
    rcases hy with h | h | h
    · exact .inr (.inr h)
    · exact .inl h
    · exact .inr (.inl h)
  rcases hy' with q | q
  · rw [q]; exact p
  · exact ch_closed st (ch_left (show Ch S (x :: (b ++ a) ++ [x]) from h2)) p y q

theorem face_le {pi : Nat → Nat} {R : List (List Nat)} {L : List Nat} {F G : List (List Nat)} (h : IsF pi R L F) (g : IsF pi R L G) :
    (F.filter (fun c => !c.isEmpty)).length ≤ (G.filter (fun c => !c.isEmpty)).length := by
  refine inj_len (fun c g => ∃ x, x ∈ c ∧ x ∈ g) _ _ ?_ ?_ ?_
  · -- nonempty faces are distinct
    have : ∀ (F : List (List Nat)), F.flatten.Nodup → (F.filter (fun c => !c.isEmpty)).Nodup := by
      intro F
      induction F with
      | nil => intro _; exact List.nodup_nil
      | cons c F ih =>
        intro nd
        rw [List.flatten_cons, List.nodup_append] at nd
        cases c with
        | nil => exact ih nd.2.1
        | cons z c =>
          show ((z :: c) :: F.filter _).Nodup
          refine List.nodup_cons.mpr ⟨fun q => ?_, ih nd.2.1⟩
          have q2 := (List.mem_filter.mp q).1
          exact nd.2.2 z List.mem_cons_self z (List.mem_flatten.mpr ⟨_, q2, List.mem_cons_self⟩) rfl
    exact this F h.fnd
  · intro c hc
    obtain ⟨hc, ne⟩ := List.mem_filter.mp hc
    cases c with
    | nil => cases ne
    | cons x c =>
      have hx : x ∈ L := h.fp.mem_iff.mp (List.mem_flatten.mpr ⟨_, hc, List.mem_cons_self⟩)
      obtain ⟨d, hd, hxd⟩ := List.mem_flatten.mp (g.fp.mem_iff.mpr hx)
      refine ⟨d, List.mem_filter.mpr ⟨hd, ?_⟩, x, List.mem_cons_self, hxd⟩
      cases d with
      | nil => cases hxd
      | cons _ _ => rfl
  · rintro c hc c' hc' d hd ⟨x, hx, hxd⟩ ⟨y, hy, hyd⟩
    obtain ⟨hc, _⟩ := List.mem_filter.mp hc
    obtain ⟨hc', _⟩ := List.mem_filter.mp hc'
    obtain ⟨hd, _⟩ := List.mem_filter.mp hd
    -- c is closed
    have cl : ∀ a b, a ∈ c → St pi R a b → b ∈ c := fun a b ha s => by
      obtain ⟨b', hb', s'⟩ := cyc_next (h.cyc c hc) ha
      rw [sg_fun h.rnd s s']
      exact hb'
    have := cyc_closed (P := fun z => z ∈ c) cl (g.cyc d hd) hxd hx y hyd
    exact row_unique h.fnd hc hc' this hy

theorem face_count {pi : Nat → Nat} {R : List (List Nat)} {L : List Nat} {F G : List (List Nat)} (h : IsF pi R L F) (g : IsF pi R L G) : F.length = G.length := by
  have key : ∀ F : List (List Nat), F.length = (F.filter (fun c => !c.isEmpty)).length + F.count [] := by
    intro F
    induction F with
    | nil => rfl
    | cons c F ih =>
      cases c with
      | nil => simp at ih ⊢; omega
      | cons z c => simp at ih ⊢; omega
  rw [key F, key G, h.emp, g.emp]
  have := face_le h g
  have := face_le g h
  omega
end HF

namespace HF
abbrev Web := Nat × List (Nat × Nat)
abbrev Ord := List (List Nat)
def partner (e : Nat) : Nat := e + 1 - 2 * (e % 2)
def tieAt (w : Web) (k : Nat) : Nat × Nat := w.2.getD k (0, 0)
def endOf (t : Nat × Nat) (j : Nat) : Nat := if j = 0 then t.1 else t.2
def place (w : Web) (e : Nat) : Nat := endOf (tieAt w (e / 2)) (e % 2)
theorem partner_even (m : Nat) : partner (2 * m) = 2 * m + 1 := by unfold partner; omega
theorem partner_odd (m : Nat) : partner (2 * m + 1) = 2 * m := by unfold partner; omega
theorem partner_inv (x : Nat) : partner (partner x) = x := by unfold partner; omega
theorem partner_lt {x m : Nat} (h : x < 2 * m) : partner x < 2 * m := by unfold partner; omega
theorem partner_half (x : Nat) : partner x / 2 = x / 2 := by unfold partner; omega

def pim (m : Nat) (x : Nat) : Nat := if x < 2 * m then partner x else x
theorem pim_inv (m x : Nat) : pim m (pim m x) = x := by
  unfold pim
  by_cases h : x < 2 * m
  · rw [if_pos h, if_pos (partner_lt h), partner_inv]
  · rw [if_neg h, if_neg h]
theorem pim_cl (m : Nat) : ∀ x ∈ List.range (2 * m), pim m x ∈ List.range (2 * m) := fun x hx => by
  have h := List.mem_range.mp hx
  unfold pim
  rw [if_pos h]
  exact List.mem_range.mpr (partner_lt h)
theorem pim_lt {m x : Nat} (h : x < 2 * m) : pim m x = partner x := if_pos h
theorem pim_ge {m x : Nat} (h : 2 * m ≤ x) : pim m x = x := if_neg (by omega)
theorem sw_pim (m : Nat) : sw (pim m) (2 * m) (2 * m + 1) = pim (m + 1) := by
  funext x
  unfold sw
  by_cases h1 : x = 2 * m
  · subst h1
    rw [if_pos rfl, pim_lt (by omega), partner_even]
  · rw [if_neg h1]
    by_cases h2 : x = 2 * m + 1
    · subst h2
      rw [if_pos rfl, pim_lt (by omega), partner_odd]
    · rw [if_neg h2]
      unfold pim
      by_cases h : x < 2 * m
      · rw [if_pos h, if_pos (by omega)]
      · rw [if_neg h, if_neg (by omega)]
theorem range_two (m : Nat) : ((2 * m + 1) :: (2 * m) :: List.range (2 * m)).Perm (List.range (2 * (m + 1))) := by
  rw [show 2 * (m + 1) = 2 * m + 1 + 1 by omega, List.range_succ, List.range_succ]
  have h1 : (List.range (2 * m) ++ [2 * m] ++ [2 * m + 1]).Perm ((2 * m + 1) :: (List.range (2 * m) ++ [2 * m])) := List.perm_append_singleton _ _
  have h2 : (List.range (2 * m) ++ [2 * m]).Perm ((2 * m) :: List.range (2 * m)) := List.perm_append_singleton _ _
  exact (h1.trans (h2.cons _)).symm

/-! ### a row begun with its least end -/
def minL : List Nat → Nat
  | [] => 0
  | x :: r => r.foldl min x
theorem foldl_min : ∀ (r : List Nat) (x : Nat), (r.foldl min x = x ∨ r.foldl min x ∈ r) ∧ r.foldl min x ≤ x ∧ ∀ y ∈ r, r.foldl min x ≤ y
  | [], x => ⟨.inl rfl, Nat.le_refl _, fun y h => nomatch h⟩
  | z :: r, x => by
    obtain ⟨h1, h2, h3⟩ := foldl_min r (min x z)
    simp only [List.foldl_cons]
    refine ⟨?_, Nat.le_trans h2 (Nat.min_le_left _ _), fun y hy => ?_⟩
    · rcases h1 with h1 | h1
      · rw [h1]
        by_cases q : x ≤ z
        · exact .inl (Nat.min_eq_left q)
        · exact .inr (by rw [Nat.min_eq_right (by omega)]; simp)
      · exact .inr (List.mem_cons_of_mem _ h1)
    · rcases List.mem_cons.mp hy with q | q
      · rw [q]; exact Nat.le_trans h2 (Nat.min_le_right _ _)
      · exact h3 y q
theorem minL_mem {r : List Nat} (h : r ≠ []) : minL r ∈ r := by
  cases r with
  | nil => exact absurd rfl h
  | cons x r =>
    rcases (foldl_min r x).1 with q | q
    · show r.foldl min x ∈ _
      rw [q]; simp
    · exact List.mem_cons_of_mem _ q
theorem minL_le {r : List Nat} {y : Nat} (h : y ∈ r) : minL r ≤ y := by
  cases r with
  | nil => cases h
  | cons x r =>
    obtain ⟨h1, h2, h3⟩ := foldl_min r x
    rcases List.mem_cons.mp h with q | q
    · rw [q]; exact h2
    · exact h3 y q
theorem minL_unique {r : List Nat} {m : Nat} (h : m ∈ r) (hl : ∀ y ∈ r, m ≤ y) : m = minL r :=
  Nat.le_antisymm (hl _ (minL_mem (List.ne_nil_of_mem h))) (minL_le h)
def begun (r : List Nat) : List Nat := if r = [] then [] else r.drop (r.idxOf (minL r)) ++ r.take (r.idxOf (minL r))
theorem begun_rot (r : List Nat) : ∃ a b, r = a ++ b ∧ begun r = b ++ a := by
  unfold begun
  by_cases h : r = []
  · subst h
    exact ⟨[], [], rfl, rfl⟩
  · rw [if_neg h]
    exact ⟨_, _, (List.take_append_drop _ r).symm, rfl⟩
theorem begun_perm (r : List Nat) : (begun r).Perm r := by
  obtain ⟨a, b, e1, e2⟩ := begun_rot r
  rw [e2, e1]
  exact List.perm_append_comm
theorem begun_nil {r : List Nat} : begun r = [] ↔ r = [] := by
  constructor
  · intro h
    exact (h ▸ begun_perm r).symm.eq_nil
  · intro h
    subst h
    rfl
theorem begun_nx {r : List Nat} {x y : Nat} (h : Nx r x y) : Nx (begun r) x y := by
  obtain ⟨a, b, e1, e2⟩ := begun_rot r
  rw [e1] at h
  rw [e2]
  exact nx_rot h
theorem begun_head {r : List Nat} (h : r ≠ []) : (begun r).head? = some (minL r) := by
  unfold begun
  rw [if_neg h]
  have hm := minL_mem h
  have hl := List.idxOf_lt_length_of_mem hm
  rw [List.drop_eq_getElem_cons hl]
  simp [List.getElem_idxOf]
theorem begun_flat (R : List (List Nat)) : (R.map begun).flatten.Perm R.flatten := by
  induction R with
  | nil => exact .refl _
  | cons r R ih =>
    simp only [List.map_cons, List.flatten_cons]
    exact (begun_perm r).append ih
theorem begun_count (R : List (List Nat)) : (R.map begun).count [] = R.count [] := by
  induction R with
  | nil => rfl
  | cons r R ih =>
    simp only [List.map_cons, List.count_cons, ih]
    congr 1
    by_cases h : r = []
    · subst h
      rfl
    · have h2 : begun r ≠ [] := fun q => h (begun_nil.mp q)
      simp [h, h2]
theorem IsF.begun {pi : Nat → Nat} {R : List (List Nat)} {L : List Nat} {F : List (List Nat)} (h : IsF pi R L F) : IsF pi (R.map HF.begun) L F where
  cyc := fun c hc => cyc_mono (h.cyc c hc) fun x y _ s => by
    obtain ⟨row, hr, n⟩ := s
    exact ⟨_, List.mem_map.mpr ⟨row, hr, rfl⟩, begun_nx n⟩
  rp := (begun_flat R).trans h.rp
  fp := h.fp
  nd := h.nd
  emp := by rw [begun_count]; exact h.emp
  inv := h.inv
  cl := h.cl

/-! ### floors -/
structure FloorOK (w : Web) (o : Ord) : Prop where
  len : o.length = w.1
  ties : ∀ t ∈ w.2, t.1 < w.1 ∧ t.2 < w.1
  flat : o.flatten.Perm (List.range (2 * w.2.length))
  at_ : ∀ p row e, o[p]? = some row → e ∈ row → place w e = p
def Faces (w : Web) (o : Ord) (F : List (List Nat)) : Prop := IsF (pim w.2.length) o (List.range (2 * w.2.length)) F

theorem tieAt_mem {w : Web} {k : Nat} (h : k < w.2.length) : tieAt w k ∈ w.2 := by
  unfold tieAt
  rw [List.getD_eq_getElem?_getD, List.getElem?_eq_getElem h]
  exact List.getElem_mem h
theorem endOf_lt {t : Nat × Nat} {n j : Nat} (h : t.1 < n ∧ t.2 < n) : endOf t j < n := by
  unfold endOf
  split
  · exact h.1
  · exact h.2
theorem FloorOK.place_lt {w : Web} {o : Ord} (h : FloorOK w o) {e : Nat} (he : e < 2 * w.2.length) : place w e < w.1 :=
  endOf_lt (h.ties _ (tieAt_mem (by omega)))
theorem FloorOK.row {w : Web} {o : Ord} (h : FloorOK w o) {e : Nat} (he : e < 2 * w.2.length) : ∃ row, o[place w e]? = some row ∧ e ∈ row := by
  obtain ⟨row, hr, hm⟩ := List.mem_flatten.mp (h.flat.mem_iff.mpr (List.mem_range.mpr he))
  obtain ⟨p, hp⟩ := List.mem_iff_getElem?.mp hr
  have := h.at_ p row e hp hm
  rw [this]
  exact ⟨row, hp, hm⟩
theorem FloorOK.lt {w : Web} {o : Ord} (h : FloorOK w o) {p : Nat} {row : List Nat} (hr : o[p]? = some row) {e : Nat} (he : e ∈ row) : e < 2 * w.2.length :=
  List.mem_range.mp (h.flat.mem_iff.mp (List.mem_flatten.mpr ⟨row, List.mem_of_getElem? hr, he⟩))
theorem FloorOK.nodup {w : Web} {o : Ord} (h : FloorOK w o) : o.flatten.Nodup := h.flat.nodup_iff.mpr List.nodup_range

/-! ### a tie is put in -/
inductive Cor where
  | e (x : Nat)
  | p (q : Nat)
  deriving DecidableEq
def cplace (w : Web) : Cor → Nat
  | .e x => place w x
  | .p q => q
def insB (row : List Nat) (c : Cor) (e : Nat) : List Nat := match c with
  | .e x => if x ∈ row then row.take (row.idxOf x + 1) ++ e :: row.drop (row.idxOf x + 1) else row ++ [e]
  | .p _ => row ++ [e]
def put1 (o : Ord) (a : Nat) (c : Cor) (e : Nat) : Ord := o.set a (insB (o.getD a []) c e)
def putRows (w : Web) (o : Ord) (c d : Cor) : Ord := put1 (put1 o (cplace w c) c (2 * w.2.length)) (cplace w d) d (2 * w.2.length + 1)
def putIn (w : Web) (o : Ord) (c d : Cor) : Web × Ord :=
  ((w.1, w.2 ++ [(cplace w c, cplace w d)]), (putRows w o c d).map begun)
/-- a corner of the floor -/
def CorOK (w : Web) (o : Ord) : Cor → Prop
  | .e x => x < 2 * w.2.length
  | .p q => o[q]? = some []

theorem split_at {α : Type} {l : List α} {i : Nat} {x : α} (h : l[i]? = some x) : ∃ a b, l = a ++ x :: b ∧ a.length = i := by
  obtain ⟨hi, e⟩ := List.getElem?_eq_some_iff.mp h
  refine ⟨l.take i, l.drop (i + 1), ?_, by rw [List.length_take]; omega⟩
  rw [← e, List.getElem_cons_drop, List.take_append_drop]
theorem set_mid {α : Type} (a : List α) (x y : α) (b : List α) : (a ++ x :: b).set a.length y = a ++ y :: b := by
  rw [List.set_append_right _ _ (Nat.le_refl _), Nat.sub_self]
  rfl
theorem insB_e {row : List Nat} {x : Nat} (h : x ∈ row) : ∃ l r, row = l ++ x :: r ∧ ∀ e, insB row (.e x) e = l ++ x :: e :: r := by
  have hl := List.idxOf_lt_length_of_mem h
  refine ⟨row.take (row.idxOf x), row.drop (row.idxOf x + 1), ?_, fun e => ?_⟩
  · have : row[row.idxOf x] :: row.drop (row.idxOf x + 1) = row.drop (row.idxOf x) := List.getElem_cons_drop hl
    rw [List.getElem_idxOf] at this
    rw [this, List.take_append_drop]
  · show (if x ∈ row then _ else _) = _
    rw [if_pos h, List.take_add_one, List.getElem?_eq_getElem hl]
    simp [List.getElem_idxOf]
/-- what a corner says of the row -/
def CorIn (row : List Nat) : Cor → Prop
  | .e x => x ∈ row
  | .p _ => True
theorem put1_ins {o : Ord} {a : Nat} {row : List Nat} {c : Cor} {e : Nat} (h : o[a]? = some row) (hc : CorIn row c) : ∃ k, Ins o e k (put1 o a c e) ∧ (∀ x, k = some x → x ∈ row ∧ ∀ z, c = .e z → x = z) := by
  obtain ⟨P, Q, q, hl⟩ := split_at h
  have eg : o.getD a [] = row := by rw [List.getD_eq_getElem?_getD, h]; rfl
  unfold put1
  rw [eg]
  have es : ∀ y, o.set a y = P ++ y :: Q := fun y => by rw [q, ← hl]; exact set_mid _ _ _ _
  rw [es]
  cases c with
  | e x =>
    obtain ⟨l, r, e1, e2⟩ := insB_e (row := row) (x := x) hc
    rw [e2]
    exact ⟨some x, .real P Q l r x (by rw [q, e1]), fun y hy => by cases hy; exact ⟨hc, fun z hz => by cases hz; rfl⟩⟩
  | p s =>
    show ∃ k, Ins o e k (P ++ (row ++ [e]) :: Q) ∧ _
    rcases List.eq_nil_or_concat row with z | ⟨l, x, z⟩
    · subst z
      exact ⟨none, .lone P Q q, fun y hy => by cases hy⟩
    · have z2 : row = l ++ [x] := by rw [z]; simp
      subst z2
      have e3 : l ++ [x] ++ [e] = l ++ x :: e :: [] := by simp
      rw [e3]
      refine ⟨some x, .real P Q l [] x q, fun y hy => ?_⟩
      cases hy
      exact ⟨by simp, fun z hz => by cases hz⟩
theorem put1_len {o : Ord} {a : Nat} {c : Cor} {e : Nat} : (put1 o a c e).length = o.length := by unfold put1; rw [List.length_set]
theorem insB_mem {row : List Nat} {c : Cor} {e z : Nat} (h : z ∈ insB row c e) : z = e ∨ z ∈ row := by
  have key : ∀ i, z ∈ row.take i ++ e :: row.drop i → z = e ∨ z ∈ row := fun i hz => by
    rcases List.mem_append.mp hz with q | q
    · exact .inr (List.mem_of_mem_take q)
    · rcases List.mem_cons.mp q with q | q
      · exact .inl q
      · exact .inr (List.mem_of_mem_drop q)
  have key2 : z ∈ row ++ [e] → z = e ∨ z ∈ row := fun hz => by
    rcases List.mem_append.mp hz with q | q
    · exact .inr q
    · simp at q
      exact .inl q
  cases c with
  | e x =>
    have h' : z ∈ (if x ∈ row then row.take (row.idxOf x + 1) ++ e :: row.drop (row.idxOf x + 1) else row ++ [e]) := h
    by_cases hx : x ∈ row
    · rw [if_pos hx] at h'
      exact key _ h'
    · rw [if_neg hx] at h'
      exact key2 h'
  | p s => exact key2 h
theorem put1_at {o : Ord} {a p : Nat} {c : Cor} {e z : Nat} {row : List Nat} (h : (put1 o a c e)[p]? = some row) (hz : z ∈ row) : (z = e ∧ p = a) ∨ ∃ row', o[p]? = some row' ∧ z ∈ row' := by
  unfold put1 at h
  rw [List.getElem?_set] at h
  by_cases q : a = p
  · subst q
    rw [if_pos rfl] at h
    by_cases ha : a < o.length
    · rw [if_pos ha] at h
      cases h
      rcases insB_mem hz with q | q
      · exact .inl ⟨q, rfl⟩
      · refine .inr ⟨o[a], List.getElem?_eq_getElem ha, ?_⟩
        rw [List.getD_eq_getElem?_getD, List.getElem?_eq_getElem ha] at q
        exact q
    · rw [if_neg ha] at h
      cases h
  · rw [if_neg q] at h
    exact .inr ⟨row, h, hz⟩
theorem put1_row {o : Ord} {a p : Nat} {c : Cor} {e z : Nat} {row : List Nat} (h : o[p]? = some row) (hz : z ∈ row) : ∃ row', (put1 o a c e)[p]? = some row' ∧ z ∈ row' := by
  have hp : p < o.length := (List.getElem?_eq_some_iff.mp h).1
  unfold put1
  rw [List.getElem?_set]
  by_cases q : a = p
  · subst q
    rw [if_pos rfl, if_pos hp]
    refine ⟨_, rfl, ?_⟩
    have eg : o.getD a [] = row := by rw [List.getD_eq_getElem?_getD, h]; rfl
    rw [eg]
    have key : ∀ i, z ∈ row.take i ++ e :: row.drop i := fun i => by
      have : z ∈ row.take i ++ row.drop i := by rw [List.take_append_drop]; exact hz
      rcases List.mem_append.mp this with q | q
      · exact List.mem_append_left _ q
      · exact List.mem_append_right _ (List.mem_cons_of_mem _ q)
    cases c with
    | e x =>
      show z ∈ (if x ∈ row then _ else _)
      split
      · exact key _
      · exact List.mem_append_left _ hz
    | p s => exact List.mem_append_left _ hz
  · rw [if_neg q]
    exact ⟨row, h, hz⟩
theorem put1_new {o : Ord} {a : Nat} {c : Cor} {e : Nat} (h : a < o.length) : ∃ row', (put1 o a c e)[a]? = some row' ∧ e ∈ row' := by
  unfold put1
  rw [List.getElem?_set, if_pos rfl, if_pos h]
  refine ⟨_, rfl, ?_⟩
  cases c with
  | e x =>
    show e ∈ (if x ∈ _ then _ else _)
    split <;> simp
  | p s =>
    show e ∈ _ ++ [e]
    simp

theorem place_old {w : Web} {t : Nat × Nat} {e : Nat} (h : e < 2 * w.2.length) : place (w.1, w.2 ++ [t]) e = place w e := by
  unfold place tieAt
  show endOf ((w.2 ++ [t]).getD (e / 2) (0, 0)) (e % 2) = _
  rw [List.getD_eq_getElem?_getD, List.getD_eq_getElem?_getD, List.getElem?_append_left (by omega)]
theorem place_new0 {w : Web} {t : Nat × Nat} : place (w.1, w.2 ++ [t]) (2 * w.2.length) = t.1 := by
  unfold place tieAt
  show endOf ((w.2 ++ [t]).getD (2 * w.2.length / 2) (0, 0)) (2 * w.2.length % 2) = _
  rw [show 2 * w.2.length / 2 = w.2.length by omega, show 2 * w.2.length % 2 = 0 by omega, List.getD_eq_getElem?_getD, List.getElem?_append_right (Nat.le_refl _), Nat.sub_self]
  rfl
theorem place_new1 {w : Web} {t : Nat × Nat} : place (w.1, w.2 ++ [t]) (2 * w.2.length + 1) = t.2 := by
  unfold place tieAt
  show endOf ((w.2 ++ [t]).getD ((2 * w.2.length + 1) / 2) (0, 0)) ((2 * w.2.length + 1) % 2) = _
  rw [show (2 * w.2.length + 1) / 2 = w.2.length by omega, show (2 * w.2.length + 1) % 2 = 1 by omega, List.getD_eq_getElem?_getD, List.getElem?_append_right (Nat.le_refl _), Nat.sub_self]
  rfl

theorem cplace_lt {w : Web} {o : Ord} (h : FloorOK w o) {c : Cor} (hc : CorOK w o c) : cplace w c < w.1 := by
  cases c with
  | e x => exact h.place_lt hc
  | p q =>
    have : q < o.length := (List.getElem?_eq_some_iff.mp hc).1
    rw [h.len] at this
    exact this
/-- the row at a corner's place -/
theorem cor_row {w : Web} {o : Ord} (h : FloorOK w o) {c : Cor} (hc : CorOK w o c) : ∃ row, o[cplace w c]? = some row ∧ CorIn row c := by
  cases c with
  | e x => exact h.row hc
  | p q => exact ⟨[], hc, True.intro⟩

/-- the two steps of putting a tie in -/
theorem put_steps {w : Web} {o : Ord} (h : FloorOK w o) {c d : Cor} (hc : CorOK w o c) (hd : CorOK w o d) :
    ∃ k k' R1, Ins o (2 * w.2.length) k R1 ∧ Ins R1 (2 * w.2.length + 1) k' (putRows w o c d) ∧
      (∀ x, k = some x → x < 2 * w.2.length ∧ place w x = cplace w c ∧ ∀ z, c = .e z → x = z) ∧
      (∀ x, k' = some x → ((x < 2 * w.2.length ∧ place w x = cplace w d) ∨ (x = 2 * w.2.length ∧ cplace w c = cplace w d)) ∧ ∀ z, d = .e z → x = z) := by
  obtain ⟨r1, h1, i1⟩ := cor_row h hc
  obtain ⟨k, hk, hk2⟩ := put1_ins (e := 2 * w.2.length) h1 i1
  have h2 : ∃ r2, (put1 o (cplace w c) c (2 * w.2.length))[cplace w d]? = some r2 ∧ CorIn r2 d := by
    obtain ⟨r2, h2, i2⟩ := cor_row h hd
    cases d with
    | e x => exact put1_row h2 i2
    | p q =>
      have : cplace w (.p q) < (put1 o (cplace w c) c (2 * w.2.length)).length := by rw [put1_len]; exact (List.getElem?_eq_some_iff.mp h2).1
      exact ⟨_, List.getElem?_eq_getElem this, True.intro⟩
  obtain ⟨r2, h2, i2⟩ := h2
  obtain ⟨k', hk', hk2'⟩ := put1_ins (e := 2 * w.2.length + 1) h2 i2
  refine ⟨k, k', _, hk, hk', fun x hx => ?_, fun x hx => ?_⟩
  · obtain ⟨m, u⟩ := hk2 x hx
    exact ⟨h.lt h1 m, h.at_ _ _ _ h1 m, u⟩
  · obtain ⟨m, u⟩ := hk2' x hx
    refine ⟨?_, u⟩
    rcases put1_at h2 m with ⟨q1, q2⟩ | ⟨row', q1, q2⟩
    · exact .inr ⟨q1, q2.symm⟩
    · exact .inl ⟨h.lt q1 q2, h.at_ _ _ _ q1 q2⟩

theorem map_get {α β : Type} {f : α → β} {l : List α} {i : Nat} {y : β} (h : (l.map f)[i]? = some y) : ∃ x, l[i]? = some x ∧ f x = y := by
  rw [List.getElem?_map] at h
  cases q : l[i]? with
  | none => rw [q] at h; cases h
  | some x => rw [q] at h; cases h; exact ⟨x, rfl, rfl⟩

theorem putIn_ok {w : Web} {o : Ord} (h : FloorOK w o) {c d : Cor} (hc : CorOK w o c) (hd : CorOK w o d) : FloorOK (putIn w o c d).1 (putIn w o c d).2 := by
  obtain ⟨k, k', R1, i1, i2, _, _⟩ := put_steps h hc hd
  refine ⟨?_, ?_, ?_, ?_⟩
  · show ((putRows w o c d).map begun).length = w.1
    rw [List.length_map]
    show (put1 _ _ _ _).length = _
    rw [put1_len, put1_len, h.len]
  · intro t ht
    rcases List.mem_append.mp (show t ∈ w.2 ++ [(cplace w c, cplace w d)] from ht) with q | q
    · exact h.ties t q
    · simp at q
      subst q
      exact ⟨cplace_lt h hc, cplace_lt h hd⟩
  · show ((putRows w o c d).map begun).flatten.Perm (List.range (2 * (w.2 ++ [_]).length))
    rw [List.length_append]
    refine (begun_flat _).trans (i2.flat.trans (((i1.flat.trans (h.flat.cons _)).cons _).trans ?_))
    exact range_two _
  · intro p row e hp he
    obtain ⟨row0, hr0, er⟩ := map_get (show ((putRows w o c d).map begun)[p]? = some row from hp)
    have he0 : e ∈ row0 := (begun_perm row0).mem_iff.mp (er ▸ he)
    show place (w.1, w.2 ++ [(cplace w c, cplace w d)]) e = p
    rcases put1_at hr0 he0 with ⟨q1, q2⟩ | ⟨row1, q1, q2⟩
    · rw [q1, q2]; exact place_new1
    · rcases put1_at q1 q2 with ⟨q3, q4⟩ | ⟨row2, q3, q4⟩
      · rw [q3, q4]; exact place_new0
      · rw [place_old (h.lt q3 q4)]
        exact h.at_ _ _ _ q3 q4

section
variable {w : Web} {o : Ord} {F : List (List Nat)} {c d : Cor}
theorem put_faces {G : List (List Nat)} (hG : IsF (sw (pim w.2.length) (2 * w.2.length) (2 * w.2.length + 1)) (putRows w o c d) ((2 * w.2.length + 1) :: (2 * w.2.length) :: List.range (2 * w.2.length)) G) : Faces (putIn w o c d).1 (putIn w o c d).2 G := by
  have h1 := hG.begun
  rw [sw_pim] at h1
  show IsF (pim (w.2 ++ [_]).length) ((putRows w o c d).map begun) (List.range (2 * (w.2 ++ [_]).length)) G
  rw [List.length_append]
  have pr := range_two w.2.length
  exact ⟨h1.cyc, h1.rp.trans pr, h1.fp.trans pr, pr.nodup_iff.mp h1.nd, h1.emp, h1.inv, pim_cl _⟩
theorem put_any (h : FloorOK w o) (hc : CorOK w o c) (hd : CorOK w o d) (hF : Faces w o F) : ∃ G, Faces (putIn w o c d).1 (putIn w o c d).2 G ∧ G.length ≤ F.length + 1 := by
  obtain ⟨k, k', R1, i1, i2, _, _⟩ := put_steps h hc hd
  obtain ⟨G, g1, g2⟩ := putin_any hF i1 i2 (by simp) (by simp) (pim_ge (Nat.le_refl _)) (pim_ge (by omega))
  exact ⟨G, put_faces g1, g2⟩
theorem put_split (h : FloorOK w o) (hc : CorOK w o c) (hd : CorOK w o d) (hF : Faces w o F) (h1 : F.length = 1) :
    ∃ d1 d2, Faces (putIn w o c d).1 (putIn w o c d).2 [d1, d2] ∧ 2 * w.2.length ∈ d1 ∧ 2 * w.2.length + 1 ∈ d2 := by
  obtain ⟨k, k', R1, i1, i2, _, _⟩ := put_steps h hc hd
  obtain ⟨d1, d2, g1, g2, g3⟩ := putin_split hF h1 i1 i2 (by simp) (by simp) (pim_ge (Nat.le_refl _)) (pim_ge (by omega))
  exact ⟨d1, d2, put_faces g1, g2, g3⟩
/-- corners in unlike faces -/
theorem put_merge (h : FloorOK w o) (hc : CorOK w o c) (hd : CorOK w o d) (hF : Faces w o F) (lam : Nat → Nat) (hl : Lc lam F) (la lb : Nat) (hne : la ≠ lb)
    (h1 : ∀ x, x < 2 * w.2.length → place w x = cplace w c → (∀ z, c = .e z → x = z) → lam (partner x) = la)
    (h2 : ∀ x, x < 2 * w.2.length → place w x = cplace w d → (∀ z, d = .e z → x = z) → lam (partner x) = lb)
    (h3 : cplace w c = cplace w d → d ≠ .p (cplace w d)) (h4 : ∀ q, d = .p q → q = cplace w d) :
    ∃ G, Faces (putIn w o c d).1 (putIn w o c d).2 G ∧ G.length + 1 = F.length := by
  obtain ⟨k, k', R1, i1, i2, s1, s2⟩ := put_steps h hc hd
  -- the labels with those of the new ends
  let lam2 : Nat → Nat := fun x => if x = 2 * w.2.length then la else if x = 2 * w.2.length + 1 then lb else lam x
  have old : ∀ x, x < 2 * w.2.length → lam2 x = lam x := fun x hx => by
    show (if x = 2 * w.2.length then la else if x = 2 * w.2.length + 1 then lb else lam x) = lam x
    rw [if_neg (by omega), if_neg (by omega)]
  have inF : ∀ f ∈ F, ∀ x ∈ f, x < 2 * w.2.length := fun f hf x hx => List.mem_range.mp (hF.fp.mem_iff.mp (List.mem_flatten.mpr ⟨f, hf, hx⟩))
  have hl2 : Lc lam2 F := fun f hf x hx y hy => by
    rw [old x (inF f hf x hx), old y (inF f hf y hy)]
    exact hl f hf x hx y hy
  have e1 : lam2 (2 * w.2.length) = la := if_pos rfl
  have e2 : lam2 (2 * w.2.length + 1) = lb := by
    show (if 2 * w.2.length + 1 = 2 * w.2.length then la else if 2 * w.2.length + 1 = 2 * w.2.length + 1 then lb else lam _) = lb
    rw [if_neg (by omega), if_pos rfl]
  obtain ⟨G, g1, g2⟩ := putin_merge hF i1 i2 (by simp) (by simp) (pim_ge (Nat.le_refl _)) (pim_ge (by omega)) lam2 hl2
    (fun x hx => by
      obtain ⟨a1, a2, a3⟩ := s1 x hx
      rw [pim_lt a1, old _ (partner_lt a1), e1]
      exact h1 x a1 a2 a3)
    (fun x hx => by
      obtain ⟨a1, a3⟩ := s2 x hx
      rcases a1 with ⟨a1, a2⟩ | ⟨a1, a2⟩
      · rw [pim_lt a1, old _ (partner_lt a1), e2]
        exact h2 x a1 a2 a3
      · exfalso
        cases d with
        | e z =>
          have := a3 z rfl
          have hz : z < 2 * w.2.length := hd
          omega
        | p q =>
          have eq := h4 q rfl
          exact h3 a2 (by rw [← eq]))
    (by rw [e1, e2]; exact hne)
  exact ⟨G, put_faces g1, g2⟩
end
end HF

namespace HF
/-! ### labels, parts -/
def dd : List Nat → List Nat
  | [] => []
  | x :: r => if x ∈ r then dd r else x :: dd r
theorem mem_dd : ∀ {l : List Nat} {x : Nat}, x ∈ dd l ↔ x ∈ l
  | [], x => Iff.rfl
  | y :: r, x => by
    unfold dd
    by_cases h : y ∈ r
    · rw [if_pos h, mem_dd]
      constructor
      · exact List.mem_cons_of_mem _
      · intro q
        rcases List.mem_cons.mp q with e | e
        · rw [e]; exact h
        · exact e
    · rw [if_neg h, List.mem_cons, List.mem_cons, mem_dd]
theorem dd_nodup : ∀ l : List Nat, (dd l).Nodup
  | [] => List.nodup_nil
  | y :: r => by
    unfold dd
    by_cases h : y ∈ r
    · rw [if_pos h]; exact dd_nodup r
    · rw [if_neg h]
      exact List.nodup_cons.mpr ⟨fun q => h (mem_dd.mp q), dd_nodup r⟩
theorem same_len {a b : List Nat} (ha : a.Nodup) (hb : b.Nodup) (h : ∀ x, x ∈ a ↔ x ∈ b) : a.length = b.length :=
  ((List.perm_ext_iff_of_nodup ha hb).mpr h).length_eq
theorem dd_len {l m : List Nat} (hm : m.Nodup) (h : ∀ x, x ∈ m ↔ x ∈ l) : m.length = (dd l).length :=
  same_len hm (dd_nodup l) fun x => (h x).trans mem_dd.symm

def relab (l : List Nat) (t : Nat × Nat) : List Nat :=
  l.map fun x => if x = max (l.getD t.1 0) (l.getD t.2 0) then min (l.getD t.1 0) (l.getD t.2 0) else x
def labels (n : Nat) (ts : List (Nat × Nat)) : List Nat := ts.foldl relab (List.range n)
def nparts (n : Nat) (ts : List (Nat × Nat)) : Nat := (dd (labels n ts)).length
theorem labels_snoc (n : Nat) (ts : List (Nat × Nat)) (t : Nat × Nat) : labels n (ts ++ [t]) = relab (labels n ts) t := by
  unfold labels
  rw [List.foldl_append]
  rfl
theorem relab_len (l : List Nat) (t : Nat × Nat) : (relab l t).length = l.length := List.length_map _
theorem labels_len (n : Nat) (ts : List (Nat × Nat)) : (labels n ts).length = n := by
  have : ∀ (ts : List (Nat × Nat)) (l : List Nat), (ts.foldl relab l).length = l.length := by
    intro ts
    induction ts with
    | nil => intro l; rfl
    | cons t ts ih => intro l; rw [List.foldl_cons, ih, relab_len]
  unfold labels
  rw [this, List.length_range]
/-- the label of a place -/
def lab (n : Nat) (ts : List (Nat × Nat)) (a : Nat) : Nat := (labels n ts).getD a 0
theorem relab_getD (l : List Nat) (t : Nat × Nat) {a : Nat} (h : a < l.length) :
    (relab l t).getD a 0 = if l.getD a 0 = max (l.getD t.1 0) (l.getD t.2 0) then min (l.getD t.1 0) (l.getD t.2 0) else l.getD a 0 := by
  unfold relab
  rw [List.getD_eq_getElem?_getD, List.getElem?_map, List.getElem?_eq_getElem h]
  have e : l.getD a 0 = l[a] := by rw [List.getD_eq_getElem?_getD, List.getElem?_eq_getElem h]; rfl
  rw [e]
  rfl
theorem lab_snoc {n : Nat} {ts : List (Nat × Nat)} {t : Nat × Nat} {a : Nat} (h : a < n) :
    lab n (ts ++ [t]) a = if lab n ts a = max (lab n ts t.1) (lab n ts t.2) then min (lab n ts t.1) (lab n ts t.2) else lab n ts a := by
  unfold lab
  rw [labels_snoc]
  exact relab_getD _ _ (by rw [labels_len]; exact h)
def InR (n : Nat) (ts : List (Nat × Nat)) : Prop := ∀ t ∈ ts, t.1 < n ∧ t.2 < n

/-- places that hang together -/
inductive Conn (ts : List (Nat × Nat)) : Nat → Nat → Prop
  | refl (a : Nat) : Conn ts a a
  | tie (t : Nat × Nat) : t ∈ ts → Conn ts t.1 t.2
  | symm {a b : Nat} : Conn ts a b → Conn ts b a
  | trans {a b c : Nat} : Conn ts a b → Conn ts b c → Conn ts a c
theorem Conn.mono {ts us : List (Nat × Nat)} (h : ∀ t ∈ ts, t ∈ us) {a b : Nat} (c : Conn ts a b) : Conn us a b := by
  induction c with
  | refl a => exact .refl a
  | tie t ht => exact .tie t (h t ht)
  | symm _ ih => exact ih.symm
  | trans _ _ i1 i2 => exact i1.trans i2
theorem Conn.sub {ts us : List (Nat × Nat)} (h : ∀ t ∈ ts, Conn us t.1 t.2) {a b : Nat} (c : Conn ts a b) : Conn us a b := by
  induction c with
  | refl a => exact .refl a
  | tie t ht => exact h t ht
  | symm _ ih => exact ih.symm
  | trans _ _ i1 i2 => exact i1.trans i2

theorem snoc_ind {α : Type} {P : List α → Prop} (h0 : P []) (h1 : ∀ l x, P l → P (l ++ [x])) : ∀ l, P l := by
  intro l
  have : ∀ l : List α, P l.reverse := by
    intro l
    induction l with
    | nil => exact h0
    | cons x l ih => rw [List.reverse_cons]; exact h1 _ _ ih
  rw [← List.reverse_reverse l]
  exact this _

theorem range_getD {n a : Nat} (h : a < n) : (List.range n).getD a 0 = a := by
  rw [List.getD_eq_getElem?_getD, List.getElem?_range h]
  rfl
theorem lab_conn {n : Nat} : ∀ ts : List (Nat × Nat), InR n ts → ∀ a b, a < n → b < n → (lab n ts a = lab n ts b → Conn ts a b) := by
  refine snoc_ind ?_ ?_
  · intro _ a b ha hb h
    unfold lab labels at h
    simp only [List.foldl_nil] at h
    rw [range_getD ha, range_getD hb] at h
    rw [h]
    exact .refl b
  · intro ts t ih hin a b ha hb h
    have hin' : InR n ts := fun u hu => hin u (List.mem_append_left _ hu)
    have ht := hin t (by simp)
    rw [lab_snoc ha, lab_snoc hb] at h
    have m : ∀ {x y}, Conn ts x y → Conn (ts ++ [t]) x y := fun c => c.mono fun u hu => List.mem_append_left _ hu
    have T : Conn (ts ++ [t]) t.1 t.2 := .tie t (by simp)
    have to1 : ∀ x, x < n → (lab n ts x = lab n ts t.1 ∨ lab n ts x = lab n ts t.2) → Conn (ts ++ [t]) x t.1 := fun x hx q => by
      rcases q with q | q
      · exact m (ih hin' x t.1 hx ht.1 q)
      · exact (m (ih hin' x t.2 hx ht.2 q)).trans T.symm
    by_cases ea : lab n ts a = max (lab n ts t.1) (lab n ts t.2)
    · rw [if_pos ea] at h
      have qa := to1 a ha (by omega)
      by_cases eb : lab n ts b = max (lab n ts t.1) (lab n ts t.2)
      · exact qa.trans (to1 b hb (by omega)).symm
      · rw [if_neg eb] at h
        exact qa.trans (to1 b hb (by omega)).symm
    · rw [if_neg ea] at h
      by_cases eb : lab n ts b = max (lab n ts t.1) (lab n ts t.2)
      · rw [if_pos eb] at h
        exact (to1 a ha (by omega)).trans (to1 b hb (by omega)).symm
      · rw [if_neg eb] at h
        exact m (ih hin' a b ha hb h)
theorem lab_tie {n : Nat} : ∀ ts : List (Nat × Nat), InR n ts → ∀ t ∈ ts, lab n ts t.1 = lab n ts t.2 := by
  refine snoc_ind ?_ ?_
  · intro _ t ht
    cases ht
  · intro ts t ih hin u hu
    have hin' : InR n ts := fun u hu => hin u (List.mem_append_left _ hu)
    obtain ⟨h1, h2⟩ := hin u hu
    rw [lab_snoc h1, lab_snoc h2]
    rcases List.mem_append.mp hu with q | q
    · rw [ih hin' u q]
    · simp at q
      subst q
      split <;> split <;> omega
theorem conn_lab {n : Nat} {ts : List (Nat × Nat)} (hin : InR n ts) {a b : Nat} (c : Conn ts a b) : lab n ts a = lab n ts b := by
  induction c with
  | refl a => rfl
  | tie t ht => exact lab_tie ts hin t ht
  | symm _ ih => exact ih.symm
  | trans _ _ i1 i2 => exact i1.trans i2

theorem lab_mem {n : Nat} {ts : List (Nat × Nat)} {a : Nat} (h : a < n) : lab n ts a ∈ labels n ts := by
  unfold lab
  have : a < (labels n ts).length := by rw [labels_len]; exact h
  rw [List.getD_eq_getElem?_getD, List.getElem?_eq_getElem this]
  exact List.getElem_mem this
theorem mem_lab {n : Nat} {ts : List (Nat × Nat)} {x : Nat} (h : x ∈ labels n ts) : ∃ a, a < n ∧ lab n ts a = x := by
  obtain ⟨a, ha⟩ := List.mem_iff_getElem?.mp h
  have hl := (List.getElem?_eq_some_iff.mp ha).1
  rw [labels_len] at hl
  refine ⟨a, hl, ?_⟩
  unfold lab
  rw [List.getD_eq_getElem?_getD, ha]
  rfl

theorem nparts_one {n : Nat} {ts : List (Nat × Nat)} (hin : InR n ts) (hn : 0 < n) : nparts n ts = 1 ↔ ∀ a b, a < n → b < n → Conn ts a b := by
  unfold nparts
  constructor
  · intro h a b ha hb
    obtain ⟨x, hx⟩ := List.length_eq_one_iff.mp h
    have key : ∀ c, c < n → lab n ts c = x := fun c hc => by
      have := mem_dd.mpr (lab_mem (ts := ts) hc)
      rw [hx] at this
      simpa using this
    exact lab_conn ts hin a b ha hb (by rw [key a ha, key b hb])
  · intro h
    have e : [lab n ts 0].length = (dd (labels n ts)).length := by
      refine dd_len (by simp) fun x => ?_
      constructor
      · intro q
        simp at q
        rw [q]
        exact lab_mem hn
      · intro q
        obtain ⟨a, ha, e⟩ := mem_lab q
        rw [← e, conn_lab hin (h a 0 ha hn)]
        simp
    rw [← e]
    rfl
theorem nparts_pos {n : Nat} {ts : List (Nat × Nat)} (hn : 0 < n) : 0 < nparts n ts := by
  unfold nparts
  exact List.length_pos_of_mem (mem_dd.mpr (lab_mem hn))

theorem nparts_nil (n : Nat) : nparts n [] = n := by
  unfold nparts labels
  have := dd_len (l := List.range n) (m := List.range n) List.nodup_range fun x => Iff.rfl
  simp only [List.foldl_nil]
  rw [← this, List.length_range]
theorem nparts_eq {n : Nat} {ts : List (Nat × Nat)} {t : Nat × Nat} (h : lab n ts t.1 = lab n ts t.2) : nparts n (ts ++ [t]) = nparts n ts := by
  have e : labels n (ts ++ [t]) = labels n ts := by
    rw [labels_snoc]
    unfold relab
    have : ∀ x ∈ labels n ts, (fun x => if x = max ((labels n ts).getD t.1 0) ((labels n ts).getD t.2 0) then min ((labels n ts).getD t.1 0) ((labels n ts).getD t.2 0) else x) x = x := fun x _ => by
      have h' : (labels n ts).getD t.1 0 = (labels n ts).getD t.2 0 := h
      simp only
      split
      · omega
      · rfl
    exact (List.map_congr_left this).trans (List.map_id' _)
  unfold nparts
  rw [e]
theorem nparts_less {n : Nat} {ts : List (Nat × Nat)} {t : Nat × Nat} (ht : t.1 < n ∧ t.2 < n) (h : lab n ts t.1 ≠ lab n ts t.2) : nparts n (ts ++ [t]) + 1 = nparts n ts := by
  unfold nparts
  have e : (max (lab n ts t.1) (lab n ts t.2) :: dd (labels n (ts ++ [t]))).length = (dd (labels n ts)).length := by
    refine dd_len (List.nodup_cons.mpr ⟨fun q => ?_, dd_nodup _⟩) fun x => ?_
    · obtain ⟨a, ha, e⟩ := mem_lab (mem_dd.mp q)
      rw [lab_snoc ha] at e
      split at e <;> omega
    · constructor
      · intro q
        rcases List.mem_cons.mp q with q | q
        · rw [q]
          by_cases c : lab n ts t.1 ≤ lab n ts t.2
          · rw [Nat.max_eq_right c]; exact lab_mem ht.2
          · rw [Nat.max_eq_left (by omega)]; exact lab_mem ht.1
        · obtain ⟨a, ha, e⟩ := mem_lab (mem_dd.mp q)
          rw [lab_snoc ha] at e
          split at e
          · rw [← e]
            by_cases c : lab n ts t.1 ≤ lab n ts t.2
            · rw [Nat.min_eq_left c]; exact lab_mem ht.1
            · rw [Nat.min_eq_right (by omega)]; exact lab_mem ht.2
          · rw [← e]; exact lab_mem ha
      · intro q
        by_cases c : x = max (lab n ts t.1) (lab n ts t.2)
        · rw [c]; exact List.mem_cons_self
        · obtain ⟨a, ha, e⟩ := mem_lab q
          refine List.mem_cons_of_mem _ (mem_dd.mpr ?_)
          have e2 : lab n (ts ++ [t]) a = x := by
            rw [lab_snoc ha, if_neg (by rw [e]; exact c), e]
          rw [← e2]
          exact lab_mem ha
  rw [← e]
  rfl
theorem nparts_step {n : Nat} {ts : List (Nat × Nat)} {t : Nat × Nat} (ht : t.1 < n ∧ t.2 < n) : nparts n ts ≤ nparts n (ts ++ [t]) + 1 := by
  by_cases h : lab n ts t.1 = lab n ts t.2
  · rw [nparts_eq h]; omega
  · rw [nparts_less ht h]; omega
theorem nparts_app {n : Nat} {ts : List (Nat × Nat)} : ∀ us : List (Nat × Nat), InR n us → nparts n ts ≤ nparts n (ts ++ us) + us.length := by
  refine snoc_ind ?_ ?_
  · intro _; simp
  · intro us t ih hin
    have h1 := ih fun u hu => hin u (List.mem_append_left _ hu)
    have h2 := nparts_step (ts := ts ++ us) (hin t (by simp))
    rw [List.append_assoc] at h2
    rw [List.length_append, List.length_singleton]
    omega
/-- a tree's ties each lead between parts -/
theorem tree_step {n : Nat} {ts us : List (Nat × Nat)} {t : Nat × Nat} (hin : InR n (ts ++ t :: us)) (hl : (ts ++ t :: us).length + 1 = n) (h1 : nparts n (ts ++ t :: us) = 1) : lab n ts t.1 ≠ lab n ts t.2 := by
  intro h
  have e1 := nparts_eq h
  have e2 := nparts_app (n := n) (ts := []) ts fun u hu => hin u (List.mem_append_left _ hu)
  have e3 := nparts_app (n := n) (ts := ts ++ [t]) us fun u hu => hin u (by simp [hu])
  rw [nparts_nil, List.nil_append] at e2
  have e4 : ts ++ [t] ++ us = ts ++ t :: us := by simp
  rw [e4, h1] at e3
  rw [List.length_append, List.length_cons] at hl
  omega
end HF

namespace HF
abbrev Floor := Web × Ord
/-! ### papers -/
def common (w : Web) (i j : Nat) : List Nat := [(tieAt w i).1, (tieAt w i).2].filter fun p => decide (p = (tieAt w j).1 ∨ p = (tieAt w j).2)
def isTree (w : Web) (t : List Nat) : Prop := t.Pairwise (· < ·) ∧ (∀ x ∈ t, x < w.2.length) ∧ t.length + 1 = w.1 ∧ nparts w.1 (t.map (tieAt w)) = 1
def isPair (w : Web) (p : Nat × Nat) : Prop := p.1 < p.2 ∧ p.2 < w.2.length ∧ common w p.1 p.2 ≠ []
def pairsOK (w : Web) : List Nat → List (Nat × Nat) → Prop
  | _, [] => True
  | used, p :: ps => (isPair w p ∧ p.1 ∉ used ∧ p.2 ∉ used) ∧ pairsOK w (used ++ [p.1, p.2]) ps
def shows (w : Web) (t : List Nat) (ps : List (Nat × Nat)) : Prop := nparts w.1 w.2 = 1 ∧ isTree w t ∧ pairsOK w t ps

/-! ### corners -/
def cornersAt (o : Ord) (p : Nat) : List Cor := if o.getD p [] = [] then [.p p] else (o.getD p []).map .e
def firstC (o : Ord) (p : Nat) : Cor := (cornersAt o p).headD (.p p)
def withTie (fl : Floor) (t : Nat × Nat) : Floor := putIn fl.1 fl.2 (firstC fl.2 t.1) (firstC fl.2 t.2)
open Classical in
/-- how many faces a floor has -/
noncomputable def nfaces (w : Web) (o : Ord) : Nat := if h : ∃ F, Faces w o F then h.choose.length else 0
theorem nfaces_eq {w : Web} {o : Ord} {F : List (List Nat)} (h : Faces w o F) : nfaces w o = F.length := by
  have ex : ∃ F, Faces w o F := ⟨F, h⟩
  unfold nfaces
  rw [dif_pos ex]
  exact face_count ex.choose_spec h
noncomputable def inOne (fl : Floor) (t : Nat × Nat) : Option Floor :=
  ((cornersAt fl.2 t.1).flatMap fun c => (cornersAt fl.2 t.2).map fun d => putIn fl.1 fl.2 c d).find? fun f => nfaces f.1 f.2 == 1

section
variable {w : Web} {o : Ord}
theorem FloorOK.get (h : FloorOK w o) {p : Nat} (hp : p < w.1) : o[p]? = some (o.getD p []) := by
  have : p < o.length := by rw [h.len]; exact hp
  rw [List.getD_eq_getElem?_getD, List.getElem?_eq_getElem this]
  rfl
theorem corners_ok (h : FloorOK w o) {p : Nat} (hp : p < w.1) {c : Cor} (hc : c ∈ cornersAt o p) : CorOK w o c ∧ cplace w c = p := by
  have hg := h.get hp
  unfold cornersAt at hc
  by_cases q : o.getD p [] = []
  · rw [if_pos q] at hc
    simp at hc
    subst hc
    rw [q] at hg
    exact ⟨hg, rfl⟩
  · rw [if_neg q] at hc
    obtain ⟨x, hx, rfl⟩ := List.mem_map.mp hc
    exact ⟨h.lt hg hx, h.at_ _ _ _ hg hx⟩
theorem corners_ne (o : Ord) (p : Nat) : cornersAt o p ≠ [] := by
  unfold cornersAt
  split
  · simp
  · rename_i h
    intro q
    exact h (List.map_eq_nil_iff.mp q)
theorem firstC_mem (o : Ord) (p : Nat) : firstC o p ∈ cornersAt o p := by
  unfold firstC
  cases h : cornersAt o p with
  | nil => exact absurd h (corners_ne o p)
  | cons c r => exact List.mem_cons_self
theorem firstC_ok (h : FloorOK w o) {p : Nat} (hp : p < w.1) : CorOK w o (firstC o p) ∧ cplace w (firstC o p) = p := corners_ok h hp (firstC_mem o p)
theorem withTie_web (h : FloorOK w o) {t : Nat × Nat} (ht : t.1 < w.1 ∧ t.2 < w.1) : (withTie (w, o) t).1 = (w.1, w.2 ++ [t]) := by
  show (w.1, w.2 ++ [(cplace w (firstC o t.1), cplace w (firstC o t.2))]) = _
  rw [(firstC_ok h ht.1).2, (firstC_ok h ht.2).2]
theorem withTie_ok (h : FloorOK w o) {t : Nat × Nat} (ht : t.1 < w.1 ∧ t.2 < w.1) : FloorOK (withTie (w, o) t).1 (withTie (w, o) t).2 :=
  putIn_ok h (firstC_ok h ht.1).1 (firstC_ok h ht.2).1
theorem withTie_any (h : FloorOK w o) {t : Nat × Nat} (ht : t.1 < w.1 ∧ t.2 < w.1) {F : List (List Nat)} (hF : Faces w o F) :
    ∃ G, Faces (withTie (w, o) t).1 (withTie (w, o) t).2 G ∧ G.length ≤ F.length + 1 :=
  put_any h (firstC_ok h ht.1).1 (firstC_ok h ht.2).1 hF

/-- a step along a face leads to where the partner is -/
theorem step_place (h : FloorOK w o) {x y : Nat} (hx : x < 2 * w.2.length) (s : St (pim w.2.length) o x y) : y < 2 * w.2.length ∧ place w y = place w (partner x) := by
  obtain ⟨row, hr, n⟩ := s
  rw [pim_lt hx] at n
  obtain ⟨p, hp⟩ := List.mem_iff_getElem?.mp hr
  obtain ⟨m1, m2⟩ := nx_mem n
  exact ⟨h.lt hp m2, (h.at_ _ _ _ hp m2).trans (h.at_ _ _ _ hp m1).symm⟩
theorem place_partner {ts : List (Nat × Nat)} (hin : InR w.1 w.2) {x : Nat} (hx : x < 2 * w.2.length) : lab w.1 w.2 (place w (partner x)) = lab w.1 w.2 (place w x) := by
  have hm : tieAt w (x / 2) ∈ w.2 := tieAt_mem (by omega)
  have ht := lab_tie w.2 hin _ hm
  unfold place endOf
  rw [partner_half]
  have : partner x % 2 = 1 - x % 2 := by unfold partner; omega
  rw [this]
  have h2 : x % 2 = 0 ∨ x % 2 = 1 := by omega
  rcases h2 with q | q
  · rw [q, if_neg (by omega), if_pos rfl, ht]
  · rw [q, if_pos (by omega), if_neg (by omega), ht]
theorem face_lab (h : FloorOK w o) {F : List (List Nat)} (hF : Faces w o F) : Lc (fun x => lab w.1 w.2 (place w x)) F := by
  intro c hc x hx y hy
  have lt : ∀ z ∈ c, z < 2 * w.2.length := fun z hz => List.mem_range.mp (hF.fp.mem_iff.mp (List.mem_flatten.mpr ⟨c, hc, hz⟩))
  have := cyc_closed (P := fun z => z < 2 * w.2.length ∧ lab w.1 w.2 (place w z) = lab w.1 w.2 (place w x)) (fun a b pa s => by
    obtain ⟨q1, q2⟩ := step_place h pa.1 s
    refine ⟨q1, ?_⟩
    rw [q2, place_partner (ts := []) h.ties pa.1]
    exact pa.2) (hF.cyc c hc) hx ⟨lt x hx, rfl⟩ y hy
  exact this.2.symm
/-- a tie between two parts -/
theorem withTie_merge (h : FloorOK w o) {t : Nat × Nat} (ht : t.1 < w.1 ∧ t.2 < w.1) {F : List (List Nat)} (hF : Faces w o F) (hne : lab w.1 w.2 t.1 ≠ lab w.1 w.2 t.2) :
    ∃ G, Faces (withTie (w, o) t).1 (withTie (w, o) t).2 G ∧ G.length + 1 = F.length := by
  obtain ⟨c1, c2⟩ := firstC_ok h ht.1
  obtain ⟨d1, d2⟩ := firstC_ok h ht.2
  refine put_merge h c1 d1 hF _ (face_lab h hF) (lab w.1 w.2 t.1) (lab w.1 w.2 t.2) hne (fun x hx hp _ => ?_) (fun x hx hp _ => ?_) (fun q => ?_) (fun q hq => ?_)
  · show lab _ _ (place w (partner x)) = _
    rw [place_partner (ts := []) h.ties hx, hp, c2]
  · show lab _ _ (place w (partner x)) = _
    rw [place_partner (ts := []) h.ties hx, hp, d2]
  · rw [c2, d2] at q
    rw [q] at hne
    exact absurd rfl hne
  · rw [hq]; rfl

/-- one face: the tie parts it, and a tie that meets it at a place joins both again -/
theorem inOne_some (h : FloorOK w o) {t u : Nat × Nat} (ht : t.1 < w.1 ∧ t.2 < w.1) (hu : u.1 < w.1 ∧ u.2 < w.1) (hc : ∃ p, (p = t.1 ∨ p = t.2) ∧ (p = u.1 ∨ p = u.2))
    {F : List (List Nat)} (hF : Faces w o F) (h1 : F.length = 1) :
    ∃ fl, inOne (withTie (w, o) t) u = some fl ∧ FloorOK fl.1 fl.2 ∧ fl.1 = (w.1, w.2 ++ [t, u]) ∧ ∃ G, Faces fl.1 fl.2 G ∧ G.length = 1 := by
  have hok := withTie_ok h ht
  have hw := withTie_web h ht
  obtain ⟨d1, d2, hD, m1, m2⟩ := put_split h (firstC_ok h ht.1).1 (firstC_ok h ht.2).1 hF h1
  have hD : Faces (withTie (w, o) t).1 (withTie (w, o) t).2 [d1, d2] := hD
  generalize hfl : withTie (w, o) t = fl at hok hw hD ⊢
  obtain ⟨w1, o1⟩ := fl
  simp only at hw hok hD
  subst hw
  have len1 : (w.2 ++ [t]).length = w.2.length + 1 := by simp
  have hlt : ∀ d ∈ [d1, d2], ∀ x ∈ d, x < 2 * (w.2 ++ [t]).length := fun d hd x hx => List.mem_range.mp (hD.fp.mem_iff.mp (List.mem_flatten.mpr ⟨d, hd, hx⟩))
  have pl0 : place (w.1, w.2 ++ [t]) (2 * w.2.length) = t.1 := place_new0
  have pl1 : place (w.1, w.2 ++ [t]) (2 * w.2.length + 1) = t.2 := place_new1
  have nd := hD.fnd
  have dj : ∀ x, x ∈ d1 → x ∈ d2 → False := fun x a b => hD.disj a (by simp) b
  -- both faces have ends at both of the tie's places
  have both : ∀ d, d = d1 ∨ d = d2 → ∀ p, p = t.1 ∨ p = t.2 → ∃ x ∈ d, place (w.1, w.2 ++ [t]) x = p := by
    intro d hd p hp
    have hdm : d ∈ [d1, d2] := by rcases hd with q | q <;> simp [q]
    rcases hd with q | q
    · subst q
      rcases hp with q | q
      · exact ⟨_, m1, by rw [pl0, q]⟩
      · obtain ⟨y, hy, s⟩ := cyc_next (hD.cyc d (by simp)) m1
        refine ⟨y, hy, ?_⟩
        rw [(step_place hok (hlt d hdm _ m1) s).2, partner_even, pl1, q]
    · subst q
      rcases hp with q | q
      · obtain ⟨y, hy, s⟩ := cyc_next (hD.cyc d (by simp)) m2
        refine ⟨y, hy, ?_⟩
        rw [(step_place hok (hlt d hdm _ m2) s).2, partner_odd, pl0, q]
      · exact ⟨_, m2, by rw [pl1, q]⟩
  -- no place is without ends
  have noE : ∀ p, p < w.1 → o1.getD p [] ≠ [] := fun p hp q => by
    have hg := hok.get (p := p) hp
    rw [q] at hg
    have c0 : 0 < o1.count [] := List.count_pos_iff.mpr (List.mem_of_getElem? hg)
    have e0 := hD.emp
    have n1 : d1 ≠ [] := List.ne_nil_of_mem m1
    have n2 : d2 ≠ [] := List.ne_nil_of_mem m2
    rw [List.count_cons, List.count_cons] at e0
    simp [n1, n2] at e0
    omega
  -- a corner at a place whose face has an end there
  have corner : ∀ d, d = d1 ∨ d = d2 → ∀ y ∈ d, ∃ x ∈ o1.getD (place (w.1, w.2 ++ [t]) y) [], partner x ∈ d := by
    intro d hd y hy
    have hdm : d ∈ [d1, d2] := by rcases hd with q | q <;> simp [q]
    obtain ⟨z, hz, s⟩ := cyc_prev (hD.cyc d hdm) hy
    have hzl := hlt d hdm z hz
    have sp := step_place hok hzl s
    have hpz : partner z < 2 * (w.2 ++ [t]).length := partner_lt hzl
    obtain ⟨row, hr, hm⟩ := hok.row hpz
    refine ⟨partner z, ?_, by rw [partner_inv]; exact hz⟩
    rw [sp.2, List.getD_eq_getElem?_getD, hr]
    exact hm
  -- the corners
  obtain ⟨p, hp1, hp2⟩ := hc
  have some_end : ∀ q, q < w.1 → ∃ d, (d = d1 ∨ d = d2) ∧ ∃ y ∈ d, place (w.1, w.2 ++ [t]) y = q := fun q hq => by
    have hg := hok.get (p := q) hq
    obtain ⟨y, hy⟩ := List.exists_mem_of_ne_nil _ (noE q hq)
    have hyl := hok.lt hg hy
    obtain ⟨d, hd, hyd⟩ := List.mem_flatten.mp (hD.fp.mem_iff.mpr (List.mem_range.mpr hyl))
    refine ⟨d, by simpa using hd, y, hyd, hok.at_ _ _ _ hg hy⟩
  have pick : ∃ x y da db, x ∈ o1.getD u.1 [] ∧ y ∈ o1.getD u.2 [] ∧ partner x ∈ da ∧ partner y ∈ db ∧ ((da = d1 ∧ db = d2) ∨ (da = d2 ∧ db = d1)) := by
    have other : ∀ d, d = d1 ∨ d = d2 → ∃ d', (d' = d1 ∨ d' = d2) ∧ ((d = d1 ∧ d' = d2) ∨ (d = d2 ∧ d' = d1)) := fun d hd => by
      rcases hd with q | q
      · exact ⟨d2, .inr rfl, .inl ⟨q, rfl⟩⟩
      · exact ⟨d1, .inl rfl, .inr ⟨q, rfl⟩⟩
    rcases hp2 with q | q
    · obtain ⟨db, hdb, y0, hy0, py0⟩ := some_end u.2 hu.2
      obtain ⟨da, hda, hh⟩ := other db hdb
      obtain ⟨x0, hx0, px0⟩ := both da hda p hp1
      obtain ⟨x, hx, mx⟩ := corner da hda x0 hx0
      obtain ⟨y, hy, my⟩ := corner db hdb y0 hy0
      rw [px0, q] at hx
      rw [py0] at hy
      refine ⟨x, y, da, db, hx, hy, mx, my, ?_⟩
      rcases hh with ⟨a, b⟩ | ⟨a, b⟩
      · exact .inr ⟨b, a⟩
      · exact .inl ⟨b, a⟩
    · obtain ⟨da, hda, x0, hx0, px0⟩ := some_end u.1 hu.1
      obtain ⟨db, hdb, hh⟩ := other da hda
      obtain ⟨y0, hy0, py0⟩ := both db hdb p hp1
      obtain ⟨x, hx, mx⟩ := corner da hda x0 hx0
      obtain ⟨y, hy, my⟩ := corner db hdb y0 hy0
      rw [px0] at hx
      rw [py0, q] at hy
      exact ⟨x, y, da, db, hx, hy, mx, my, hh⟩
  obtain ⟨x, y, da, db, hx, hy, mx, my, hd⟩ := pick
  have gx := hok.get (p := u.1) hu.1
  have gy := hok.get (p := u.2) hu.2
  have xl := hok.lt gx hx
  have yl := hok.lt gy hy
  have px := hok.at_ _ _ _ gx hx
  have py := hok.at_ _ _ _ gy hy
  have dj2 : ∀ z, z ∈ da → z ∈ db → False := fun z a b => by
    rcases hd with ⟨q1, q2⟩ | ⟨q1, q2⟩
    · exact dj z (q1 ▸ a) (q2 ▸ b)
    · exact dj z (q2 ▸ b) (q1 ▸ a)
  have hmem : ∀ d ∈ [d1, d2], d = da ∨ d = db := fun d hm => by
    simp at hm
    rcases hd with ⟨q1, q2⟩ | ⟨q1, q2⟩
    · rw [q1, q2]; exact hm
    · rw [q1, q2]; exact hm.symm
  have cx : CorOK (w.1, w.2 ++ [t]) o1 (.e x) := xl
  have cy : CorOK (w.1, w.2 ++ [t]) o1 (.e y) := yl
  obtain ⟨G, g1, g2⟩ := put_merge hok cx cy hD (fun z => if z ∈ da then 0 else 1) (fun d hdm a ha b hb => by
      rcases hmem d hdm with q | q
      · subst q
        simp only [if_pos ha, if_pos hb]
      · subst q
        simp only [if_neg (fun z => dj2 a z ha), if_neg (fun z => dj2 b z hb)]) 0 1 (by decide)
    (fun z _ _ hz => by
      have := hz x rfl
      subst this
      exact if_pos mx)
    (fun z _ _ hz => by
      have := hz y rfl
      subst this
      exact if_neg (fun q => dj2 _ q my))
    (fun _ q => by cases q) (fun q hq => by cases hq)
  have gl : G.length = 1 := by simpa using g2
  have one : nfaces (putIn (w.1, w.2 ++ [t]) o1 (.e x) (.e y)).1 (putIn (w.1, w.2 ++ [t]) o1 (.e x) (.e y)).2 = 1 := by rw [nfaces_eq g1, gl]
  have memE : ∀ q z, q < w.1 → z ∈ o1.getD q [] → Cor.e z ∈ cornersAt o1 q := fun q z hq hz => by
    unfold cornersAt
    rw [if_neg (noE q hq)]
    exact List.mem_map.mpr ⟨z, hz, rfl⟩
  -- the search finds one
  cases hs : inOne ((w.1, w.2 ++ [t]), o1) u with
  | none =>
    exfalso
    have := List.find?_eq_none.mp hs _ (List.mem_flatMap.mpr ⟨.e x, memE _ _ hu.1 hx, List.mem_map.mpr ⟨.e y, memE _ _ hu.2 hy, rfl⟩⟩)
    simp only [one] at this
    exact this rfl
  | some fl =>
    refine ⟨fl, rfl, ?_⟩
    have t1 := List.find?_some hs
    obtain ⟨c, hc, hm⟩ := List.mem_flatMap.mp (List.mem_of_find?_eq_some hs)
    obtain ⟨d, hd', rfl⟩ := List.mem_map.mp hm
    obtain ⟨c1, c2⟩ := corners_ok hok (p := u.1) hu.1 hc
    obtain ⟨e1, e2⟩ := corners_ok hok (p := u.2) hu.2 hd'
    refine ⟨putIn_ok hok c1 e1, ?_, ?_⟩
    · show (w.1, w.2 ++ [t] ++ [(cplace _ c, cplace _ d)]) = (w.1, w.2 ++ [t, u])
      rw [c2, e2]
      simp
    · obtain ⟨G, k1, _⟩ := put_any hok c1 e1 hD
      refine ⟨G, k1, ?_⟩
      have t2 : nfaces (putIn (w.1, w.2 ++ [t]) o1 c d).1 (putIn (w.1, w.2 ++ [t]) o1 c d).2 = 1 := by simpa using t1
      rw [← t2, nfaces_eq k1]
end
end HF

namespace HF
/-! ### the order that is laid -/
structure Stage (w : Web) (fl : Floor) (names : List Nat) : Prop where
  ok : FloorOK fl.1 fl.2
  web : fl.1 = (w.1, names.map (tieAt w))
  nd : names.Nodup
  lt : ∀ x ∈ names, x < w.2.length
def HasF (fl : Floor) (n : Nat) : Prop := ∃ F, Faces fl.1 fl.2 F ∧ F.length = n
theorem Stage.ties_len {w : Web} {fl : Floor} {names : List Nat} (s : Stage w fl names) : fl.1.2.length = names.length := by
  rw [s.web]; simp
theorem tie_lt {w : Web} (hin : InR w.1 w.2) {k : Nat} (h : k < w.2.length) : (tieAt w k).1 < w.1 ∧ (tieAt w k).2 < w.1 := hin _ (tieAt_mem h)
theorem Stage.few {w : Web} {fl : Floor} {names : List Nat} (s : Stage w fl names) {k : Nat} (hk : k < w.2.length) (hn : k ∉ names) : names.length < w.2.length := by
  have h1 : (k :: names).Nodup := List.nodup_cons.mpr ⟨hn, s.nd⟩
  have h2 := inj_len (fun (a : Nat) (b : Nat) => a = b) (k :: names) (List.range w.2.length) h1 (fun c hc => by
    refine ⟨c, List.mem_range.mpr ?_, rfl⟩
    rcases List.mem_cons.mp hc with q | q
    · rw [q]; exact hk
    · exact s.lt c q) (fun c _ c' _ g _ e1 e2 => e1.trans e2.symm)
  rw [List.length_range] at h2
  exact h2

def fl0 (n : Nat) : Floor := ((n, []), List.replicate n [])
theorem stage0 (w : Web) : Stage w (fl0 w.1) [] where
  ok := by
    refine ⟨List.length_replicate, (fun t ht => nomatch ht), ?_, fun p row e hp he => ?_⟩
    · show (List.replicate w.1 ([] : List Nat)).flatten.Perm (List.range (2 * 0))
      have : ∀ n, (List.replicate n ([] : List Nat)).flatten = [] := by
        intro n
        induction n with
        | zero => rfl
        | succ n ih => rw [List.replicate_succ, List.flatten_cons, ih]; rfl
      rw [this]
      exact .refl _
    · have : row = [] := by
        have hm := List.mem_of_getElem? (show (List.replicate w.1 ([] : List Nat))[p]? = some row from hp)
        exact (List.mem_replicate.mp hm).2
      rw [this] at he
      cases he
  web := rfl
  nd := List.nodup_nil
  lt := fun x hx => nomatch hx
theorem has0 (n : Nat) : HasF (fl0 n) n := by
  have fl : (List.replicate n ([] : List Nat)).flatten = [] := by
    induction n with
    | zero => rfl
    | succ n ih => rw [List.replicate_succ, List.flatten_cons, ih]; rfl
  refine ⟨List.replicate n [], ⟨fun c hc => ?_, ?_, ?_, List.nodup_range, rfl, pim_inv _, pim_cl _⟩, List.length_replicate⟩
  · rw [(List.mem_replicate.mp hc).2]
    exact cyc_nil
  · show (List.replicate n ([] : List Nat)).flatten.Perm _
    rw [fl]; exact .refl _
  · rw [fl]; exact .refl _

section
variable {w : Web} {fl : Floor} {names : List Nat}
theorem Stage.tie (s : Stage w fl names) (hin : InR w.1 w.2) {k : Nat} (hk : k < w.2.length) (hn : k ∉ names) : Stage w (withTie fl (tieAt w k)) (names ++ [k]) := by
  have ht := tie_lt hin hk
  obtain ⟨w1, o1⟩ := fl
  have hw := s.web
  simp only at hw
  have ht' : (tieAt w k).1 < w1.1 ∧ (tieAt w k).2 < w1.1 := by rw [hw]; exact ht
  refine ⟨withTie_ok s.ok ht', ?_, ?_, fun x hx => ?_⟩
  · rw [withTie_web s.ok ht', hw]
    simp
  · rw [List.nodup_append]
    exact ⟨s.nd, by simp, fun a ha b hb e => hn (by simp at hb; rw [← hb, ← e]; exact ha)⟩
  · rcases List.mem_append.mp hx with q | q
    · exact s.lt x q
    · simp at q
      rw [q]; exact hk
theorem Stage.any (s : Stage w fl names) (hin : InR w.1 w.2) {k : Nat} (hk : k < w.2.length) {n : Nat} (h : HasF fl n) : ∃ n', HasF (withTie fl (tieAt w k)) n' ∧ n' ≤ n + 1 := by
  have ht := tie_lt hin hk
  obtain ⟨w1, o1⟩ := fl
  have hw := s.web
  simp only at hw
  have ht' : (tieAt w k).1 < w1.1 ∧ (tieAt w k).2 < w1.1 := by rw [hw]; exact ht
  obtain ⟨F, hF, e⟩ := h
  obtain ⟨G, g1, g2⟩ := withTie_any s.ok ht' hF
  exact ⟨G.length, ⟨G, g1, rfl⟩, by omega⟩

/-! the tree -/
def treeFl (w : Web) (t : List Nat) : Floor := t.foldl (fun fl k => withTie fl (tieAt w k)) (fl0 w.1)
theorem treeFl_snoc (w : Web) (t : List Nat) (k : Nat) : treeFl w (t ++ [k]) = withTie (treeFl w t) (tieAt w k) := by
  unfold treeFl
  rw [List.foldl_append]
  rfl
theorem tree_stage (hin : InR w.1 w.2) : ∀ (t us : List Nat), isTree w (t ++ us) → Stage w (treeFl w t) t ∧ ∃ n, HasF (treeFl w t) n ∧ n + t.length = w.1 := by
  refine snoc_ind ?_ ?_
  · intro us _
    exact ⟨stage0 w, w.1, has0 w.1, rfl⟩
  · intro t k ih us h
    rw [List.append_assoc] at h
    obtain ⟨s, n, hf, hn⟩ := ih ([k] ++ us) h
    obtain ⟨h1, h2, h3, h4⟩ := h
    have hk : k < w.2.length := h2 k (by simp)
    have hkn : k ∉ t := fun q => by
      rw [List.pairwise_append] at h1
      have := h1.2.2 k q k (by simp)
      omega
    have st := s.tie hin hk hkn
    rw [treeFl_snoc]
    refine ⟨st, ?_⟩
    have hInR : InR w.1 ((t ++ ([k] ++ us)).map (tieAt w)) := fun u hu => by
      obtain ⟨x, hx, rfl⟩ := List.mem_map.mp hu
      exact tie_lt hin (h2 x hx)
    have em : (t ++ ([k] ++ us)).map (tieAt w) = t.map (tieAt w) ++ tieAt w k :: us.map (tieAt w) := by simp
    rw [em] at h4 hInR
    have hne := tree_step hInR (by rw [← em, List.length_map]; exact h3) h4
    have ht := tie_lt hin hk
    have hw := s.web
    generalize hfl : treeFl w t = fl at *
    obtain ⟨w1, o1⟩ := fl
    simp only at hw
    obtain ⟨F, hF, e⟩ := hf
    have ht' : (tieAt w k).1 < w1.1 ∧ (tieAt w k).2 < w1.1 := by rw [hw]; exact ht
    obtain ⟨G, g1, g2⟩ := withTie_merge s.ok ht' hF (by rw [hw]; exact hne)
    exact ⟨G.length, ⟨G, g1, rfl⟩, by rw [List.length_append, List.length_singleton]; omega⟩

/-! the pairs -/
noncomputable def pairFl (w : Web) (fl : Floor) (p : Nat × Nat) : Floor := (inOne (withTie fl (tieAt w p.1)) (tieAt w p.2)).getD fl
theorem mem_common {i j : Nat} (h : common w i j ≠ []) : ∃ p, (p = (tieAt w i).1 ∨ p = (tieAt w i).2) ∧ (p = (tieAt w j).1 ∨ p = (tieAt w j).2) := by
  obtain ⟨p, hp⟩ := List.exists_mem_of_ne_nil _ h
  unfold common at hp
  obtain ⟨h1, h2⟩ := List.mem_filter.mp hp
  exact ⟨p, by simpa using h1, by simpa using h2⟩
theorem Stage.pair (s : Stage w fl names) (hin : InR w.1 w.2) {p : Nat × Nat} (hp : isPair w p) (h1 : p.1 ∉ names) (h2 : p.2 ∉ names) (hf : HasF fl 1) :
    inOne (withTie fl (tieAt w p.1)) (tieAt w p.2) = some (pairFl w fl p) ∧ Stage w (pairFl w fl p) (names ++ [p.1, p.2]) ∧ HasF (pairFl w fl p) 1 := by
  obtain ⟨q1, q2, q3⟩ := hp
  have k1 : p.1 < w.2.length := by omega
  have t1 := tie_lt hin k1
  have t2 := tie_lt hin q2
  obtain ⟨w1, o1⟩ := fl
  have hw := s.web
  simp only at hw
  have t1' : (tieAt w p.1).1 < w1.1 ∧ (tieAt w p.1).2 < w1.1 := by rw [hw]; exact t1
  have t2' : (tieAt w p.2).1 < w1.1 ∧ (tieAt w p.2).2 < w1.1 := by rw [hw]; exact t2
  obtain ⟨F, hF, e⟩ := hf
  obtain ⟨fl', a1, a2, a3, G, a4, a5⟩ := inOne_some s.ok t1' t2' (mem_common q3) hF e
  have ep : pairFl w (w1, o1) p = fl' := by
    unfold pairFl
    rw [a1]
    rfl
  rw [ep]
  refine ⟨a1, ⟨a2, ?_, ?_, fun x hx => ?_⟩, G, a4, a5⟩
  · rw [a3, hw]
    simp
  · rw [List.nodup_append]
    refine ⟨s.nd, by simp; omega, fun a ha b hb e => ?_⟩
    simp at hb
    rcases hb with q | q
    · exact h1 (by rw [← q, ← e]; exact ha)
    · exact h2 (by rw [← q, ← e]; exact ha)
  · rcases List.mem_append.mp hx with q | q
    · exact s.lt x q
    · simp at q
      rcases q with q | q
      · rw [q]; exact k1
      · rw [q]; exact q2
def pnames (ps : List (Nat × Nat)) : List Nat := ps.flatMap fun p => [p.1, p.2]
theorem pnames_snoc (ps : List (Nat × Nat)) (p : Nat × Nat) : pnames (ps ++ [p]) = pnames ps ++ [p.1, p.2] := by
  unfold pnames
  rw [List.flatMap_append]
  simp
theorem pairsOK_app (w : Web) : ∀ (ps qs : List (Nat × Nat)) (used : List Nat), pairsOK w used (ps ++ qs) ↔ pairsOK w used ps ∧ pairsOK w (used ++ pnames ps) qs
  | [], qs, used => by
    show pairsOK w used qs ↔ True ∧ pairsOK w (used ++ []) qs
    simp
  | p :: ps, qs, used => by
    show _ ∧ pairsOK w (used ++ [p.1, p.2]) (ps ++ qs) ↔ (_ ∧ pairsOK w (used ++ [p.1, p.2]) ps) ∧ pairsOK w (used ++ pnames (p :: ps)) qs
    rw [pairsOK_app w ps qs]
    have : used ++ [p.1, p.2] ++ pnames ps = used ++ pnames (p :: ps) := by
      unfold pnames
      simp
    rw [this]
    exact ⟨fun ⟨a, b, c⟩ => ⟨⟨a, b⟩, c⟩, fun ⟨⟨a, b⟩, c⟩ => ⟨a, b, c⟩⟩
noncomputable def pairsFl (w : Web) (fl : Floor) (ps : List (Nat × Nat)) : Floor := ps.foldl (pairFl w) fl
theorem pairsFl_snoc (w : Web) (fl : Floor) (ps : List (Nat × Nat)) (p : Nat × Nat) : pairsFl w fl (ps ++ [p]) = pairFl w (pairsFl w fl ps) p := by
  unfold pairsFl
  rw [List.foldl_append]
  rfl
theorem pairs_stage (hin : InR w.1 w.2) (s : Stage w fl names) (hf : HasF fl 1) : ∀ (ps qs : List (Nat × Nat)), pairsOK w names (ps ++ qs) → Stage w (pairsFl w fl ps) (names ++ pnames ps) ∧ HasF (pairsFl w fl ps) 1 := by
  refine snoc_ind ?_ ?_
  · intro qs _
    refine ⟨?_, hf⟩
    show Stage w fl (names ++ [])
    rw [List.append_nil]
    exact s
  · intro ps p ih qs h
    rw [List.append_assoc] at h
    obtain ⟨s2, f2⟩ := ih ([p] ++ qs) h
    obtain ⟨_, h2⟩ := (pairsOK_app w ps ([p] ++ qs) names).mp h
    obtain ⟨⟨h3, h4, h5⟩, _⟩ := h2
    obtain ⟨_, a2, a3⟩ := s2.pair hin h3 h4 h5 f2
    rw [pairsFl_snoc, pnames_snoc, ← List.append_assoc]
    exact ⟨a2, a3⟩

/-! the others -/
def restSt (w : Web) (st : Floor × List Nat) (k : Nat) : Floor × List Nat := if k ∈ st.2 then st else (withTie st.1 (tieAt w k), st.2 ++ [k])
def restFl (w : Web) (st : Floor × List Nat) (m : Nat) : Floor × List Nat := (List.range m).foldl (restSt w) st
theorem restFl_succ (w : Web) (st : Floor × List Nat) (m : Nat) : restFl w st (m + 1) = restSt w (restFl w st m) m := by
  unfold restFl
  rw [List.range_succ, List.foldl_append]
  rfl
theorem rest_stage (hin : InR w.1 w.2) (s : Stage w fl names) {n : Nat} (hf : HasF fl n) : ∀ m, m ≤ w.2.length →
    Stage w (restFl w (fl, names) m).1 (restFl w (fl, names) m).2 ∧ (∀ k, k < m → k ∈ (restFl w (fl, names) m).2) ∧ ∃ n', HasF (restFl w (fl, names) m).1 n' ∧ n' + names.length ≤ n + (restFl w (fl, names) m).2.length
  | 0, _ => ⟨s, fun k h => absurd h (Nat.not_lt_zero k), n, hf, Nat.le_refl _⟩
  | m + 1, hm => by
    obtain ⟨s1, s2, n', f1, f2⟩ := rest_stage hin s hf m (by omega)
    rw [restFl_succ]
    unfold restSt
    by_cases q : m ∈ (restFl w (fl, names) m).2
    · rw [if_pos q]
      refine ⟨s1, fun k hk => ?_, n', f1, f2⟩
      by_cases e : k = m
      · rw [e]; exact q
      · exact s2 k (by omega)
    · rw [if_neg q]
      obtain ⟨n2, g1, g2⟩ := s1.any hin (k := m) (by omega) f1
      refine ⟨s1.tie hin (by omega) q, fun k hk => ?_, n2, g1, ?_⟩
      · by_cases e : k = m
        · rw [e]; simp
        · exact List.mem_append_left _ (s2 k (by omega))
      · rw [List.length_append, List.length_singleton]
        omega
end

/-! ### other names -/
def ren (names : List Nat) (e : Nat) : Nat := 2 * names.getD (e / 2) 0 + e % 2
def renRows (names : List Nat) (o : Ord) : Ord := o.map fun row => row.map (ren names)
def renamed (names : List Nat) (o : Ord) : Ord := (renRows names o).map begun
theorem ren_partner (names : List Nat) (x : Nat) : partner (ren names x) = ren names (partner x) := by
  unfold ren
  rw [partner_half]
  unfold partner
  omega
theorem ren_half (names : List Nat) (x : Nat) : ren names x / 2 = names.getD (x / 2) 0 ∧ ren names x % 2 = x % 2 := by
  unfold ren
  omega
theorem nx_map {c : List Nat} {x y : Nat} (f : Nat → Nat) (h : Nx c x y) : Nx (c.map f) (f x) (f y) := by
  obtain ⟨l, r, rfl, h⟩ := h
  refine ⟨l.map f, r.map f, by simp, ?_⟩
  have : r.map f ++ (l.map f ++ [f x]) = (r ++ (l ++ [x])).map f := by simp
  rw [this, List.head?_map, h]
  rfl
theorem ch_map {S T : Nat → Nat → Prop} (f : Nat → Nat) : ∀ {c : List Nat}, Ch S c → (∀ x ∈ c, ∀ y ∈ c, S x y → T (f x) (f y)) → Ch T (c.map f)
  | [], _, _ => True.intro
  | [_], _, _ => True.intro
  | x :: y :: r, h, m => ⟨m x (by simp) y (by simp) h.1, ch_map f (c := y :: r) h.2 fun a ha b hb => m a (List.mem_cons_of_mem _ ha) b (List.mem_cons_of_mem _ hb)⟩
theorem cyc_map {S T : Nat → Nat → Prop} (f : Nat → Nat) {c : List Nat} (h : Cyc S c) (m : ∀ x ∈ c, ∀ y ∈ c, S x y → T (f x) (f y)) : Cyc T (c.map f) := by
  unfold Cyc at h ⊢
  have e : c.map f ++ (c.map f).take 1 = (c ++ c.take 1).map f := by simp [List.map_take]
  rw [e]
  have mem : ∀ x ∈ c ++ c.take 1, x ∈ c := fun x hx => by
    rcases List.mem_append.mp hx with q | q
    · exact q
    · exact List.mem_of_mem_take q
  exact ch_map f h fun x hx y hy s => m x (mem x hx) y (mem y hy) s
theorem names_perm {w : Web} {names : List Nat} (nd : names.Nodup) (lt : ∀ x ∈ names, x < w.2.length) (all : ∀ k, k < w.2.length → k ∈ names) : names.Perm (List.range w.2.length) :=
  (List.perm_ext_iff_of_nodup nd List.nodup_range).mpr fun x => ⟨fun h => List.mem_range.mpr (lt x h), fun h => all x (List.mem_range.mp h)⟩
theorem names_at {names : List Nat} {i : Nat} (h : i < names.length) : names[i]? = some (names.getD i 0) := by
  rw [List.getD_eq_getElem?_getD, List.getElem?_eq_getElem h]
  rfl
theorem ren_range {m : Nat} {names : List Nat} (h : names.Perm (List.range m)) : ((List.range (2 * m)).map (ren names)).Perm (List.range (2 * m)) := by
  have hl : names.length = m := by rw [h.length_eq, List.length_range]
  have nd : names.Nodup := h.nodup_iff.mpr List.nodup_range
  have inj : ∀ x, x < 2 * m → ∀ y, y < 2 * m → ren names x = ren names y → x = y := by
    intro x hx y hy e
    have hx1 := ren_half names x
    have hy1 := ren_half names y
    rw [e] at hx1
    have e1 : names.getD (x / 2) 0 = names.getD (y / 2) 0 := by omega
    have g1 := names_at (names := names) (i := x / 2) (by omega)
    have g2 := names_at (names := names) (i := y / 2) (by omega)
    rw [e1, ← g2] at g1
    have := (List.getElem?_inj (by omega) nd).mp g1
    omega
  refine (List.perm_ext_iff_of_nodup ?_ List.nodup_range).mpr fun x => ?_
  · have : ∀ (l : List Nat), (∀ x ∈ l, x < 2 * m) → l.Nodup → (l.map (ren names)).Nodup := by
      intro l
      induction l with
      | nil => intro _ _; exact List.nodup_nil
      | cons a l ih =>
        intro hl nd
        rw [List.nodup_cons] at nd
        refine List.nodup_cons.mpr ⟨fun q => ?_, ih (fun x hx => hl x (List.mem_cons_of_mem _ hx)) nd.2⟩
        obtain ⟨b, hb, e⟩ := List.mem_map.mp q
        have := inj b (hl b (List.mem_cons_of_mem _ hb)) a (hl a List.mem_cons_self) e
        exact nd.1 (this ▸ hb)
    exact this _ (fun x hx => List.mem_range.mp hx) List.nodup_range
  · constructor
    · intro q
      obtain ⟨y, hy, rfl⟩ := List.mem_map.mp q
      have hy := List.mem_range.mp hy
      have g1 := names_at (names := names) (i := y / 2) (by omega)
      have := List.mem_range.mp (h.mem_iff.mp (List.mem_of_getElem? g1))
      refine List.mem_range.mpr ?_
      unfold ren
      omega
    · intro q
      have hx := List.mem_range.mp q
      obtain ⟨i, hi⟩ := List.mem_iff_getElem?.mp (h.mem_iff.mpr (List.mem_range.mpr (show x / 2 < m by omega)))
      have hil := (List.getElem?_eq_some_iff.mp hi).1
      refine List.mem_map.mpr ⟨2 * i + x % 2, List.mem_range.mpr (by omega), ?_⟩
      unfold ren
      have e1 : (2 * i + x % 2) / 2 = i := by omega
      have e2 : (2 * i + x % 2) % 2 = x % 2 := by omega
      have e3 : names.getD i 0 = x / 2 := by rw [List.getD_eq_getElem?_getD, hi]; rfl
      rw [e1, e2, e3]
      omega
theorem flatten_map_map (f : Nat → Nat) : ∀ o : Ord, (o.map fun row => row.map f).flatten = o.flatten.map f
  | [] => rfl
  | r :: o => by
    rw [List.map_cons, List.flatten_cons, flatten_map_map f o, List.flatten_cons, List.map_append]
theorem count_map_map (f : Nat → Nat) : ∀ o : Ord, (o.map fun row => row.map f).count [] = o.count []
  | [] => rfl
  | r :: o => by
    rw [List.map_cons, List.count_cons, List.count_cons, count_map_map f o]
    congr 1
    cases r <;> rfl

section
variable {w : Web} {fl : Floor} {names : List Nat}
theorem Stage.renamed (s : Stage w fl names) (all : ∀ k, k < w.2.length → k ∈ names) (hin : InR w.1 w.2) {n : Nat} (hf : HasF fl n) :
    FloorOK w (HF.renamed names fl.2) ∧ HasF (w, HF.renamed names fl.2) n ∧ (∀ p row, fl.2[p]? = some row → ∀ e, place w e = p ∧ e < 2 * w.2.length ↔ e ∈ row.map (ren names)) := by
  have np := names_perm s.nd s.lt all
  have nl : names.length = w.2.length := by rw [np.length_eq, List.length_range]
  have tl : fl.1.2.length = w.2.length := by rw [s.ties_len, nl]
  have rr := ren_range np
  have oldlt : ∀ p row e, fl.2[p]? = some row → e ∈ row → e < 2 * w.2.length := fun p row e hp he => by
    have := s.ok.lt hp he
    rw [tl] at this
    exact this
  have pl : ∀ e, e < 2 * w.2.length → place w (ren names e) = place fl.1 e := fun e he => by
    unfold place
    obtain ⟨e1, e2⟩ := ren_half names e
    rw [e1, e2, s.web]
    congr 1
    show tieAt w (names.getD (e / 2) 0) = (names.map (tieAt w)).getD (e / 2) (0, 0)
    have g := names_at (names := names) (i := e / 2) (by omega)
    rw [List.getD_eq_getElem?_getD (l := names.map (tieAt w)), List.getElem?_map, g]
    rfl
  have flat : (renRows names fl.2).flatten.Perm (List.range (2 * w.2.length)) := by
    unfold renRows
    rw [flatten_map_map]
    have h1 := s.ok.flat
    rw [tl] at h1
    exact (h1.map _).trans rr
  have ok : FloorOK w (HF.renamed names fl.2) := by
    refine ⟨?_, hin, (begun_flat _).trans flat, fun p row e hp he => ?_⟩
    · unfold HF.renamed renRows
      rw [List.length_map, List.length_map, s.ok.len, s.web]
    · obtain ⟨row1, hr1, q⟩ := map_get hp
      obtain ⟨row2, hr2, q2⟩ := map_get hr1
      rw [← q] at he
      have he := (begun_perm row1).mem_iff.mp he
      rw [← q2] at he
      obtain ⟨e0, he0, rfl⟩ := List.mem_map.mp he
      rw [pl e0 (oldlt p row2 e0 hr2 he0)]
      exact s.ok.at_ _ _ _ hr2 he0
  refine ⟨ok, ?_, fun p row hp e => ?_⟩
  · obtain ⟨F, hF, en⟩ := hf
    unfold Faces at hF
    rw [tl] at hF
    have mlt : ∀ c ∈ F, ∀ x ∈ c, x < 2 * w.2.length := fun c hc x hx => List.mem_range.mp (hF.fp.mem_iff.mp (List.mem_flatten.mpr ⟨c, hc, hx⟩))
    refine ⟨F.map fun c => c.map (ren names), ?_, by rw [List.length_map]; exact en⟩
    have key : IsF (pim w.2.length) (renRows names fl.2) (List.range (2 * w.2.length)) (F.map fun c => c.map (ren names)) := by
      refine ⟨fun c hc => ?_, flat, ?_, List.nodup_range, ?_, pim_inv _, pim_cl _⟩
      · obtain ⟨d, hd, rfl⟩ := List.mem_map.mp hc
        refine cyc_map _ (hF.cyc d hd) fun x hx y hy st => ?_
        obtain ⟨row, hr, nx⟩ := st
        have xl := mlt d hd x hx
        rw [pim_lt xl] at nx
        have rl : ren names x < 2 * w.2.length := by
          have := (rr.mem_iff (a := ren names x)).mp (List.mem_map.mpr ⟨x, List.mem_range.mpr xl, rfl⟩)
          exact List.mem_range.mp this
        refine ⟨row.map (ren names), List.mem_map.mpr ⟨row, hr, rfl⟩, ?_⟩
        rw [pim_lt rl, ren_partner]
        exact nx_map _ nx
      · rw [flatten_map_map]
        exact (hF.fp.map _).trans rr
      · unfold renRows
        rw [count_map_map, count_map_map]
        exact hF.emp
    exact key.begun
  · constructor
    · rintro ⟨h1, h2⟩
      have := (rr.mem_iff (a := e)).mpr (List.mem_range.mpr h2)
      obtain ⟨e0, he0, rfl⟩ := List.mem_map.mp this
      have he0 := List.mem_range.mp he0
      rw [pl e0 he0] at h1
      obtain ⟨row', hr', hm⟩ := s.ok.row (e := e0) (by rw [tl]; exact he0)
      rw [h1, hp] at hr'
      cases hr'
      exact List.mem_map.mpr ⟨e0, hm, rfl⟩
    · intro h
      obtain ⟨e0, he0, rfl⟩ := List.mem_map.mp h
      have l0 := oldlt p row e0 hp he0
      refine ⟨by rw [pl e0 l0]; exact s.ok.at_ _ _ _ hp he0, ?_⟩
      have := (rr.mem_iff (a := ren names e0)).mp (List.mem_map.mpr ⟨e0, List.mem_range.mpr l0, rfl⟩)
      exact List.mem_range.mp this
end

/-! ### all of it -/
noncomputable def laidFl (w : Web) (t : List Nat) (ps : List (Nat × Nat)) : Floor × List Nat :=
  restFl w (pairsFl w (treeFl w t) ps, t ++ pnames ps) w.2.length
noncomputable def laidM (w : Web) (t : List Nat) (ps : List (Nat × Nat)) : Ord := renamed (laidFl w t ps).2 (laidFl w t ps).1.2
theorem pnames_len : ∀ ps : List (Nat × Nat), (pnames ps).length = 2 * ps.length
  | [] => rfl
  | p :: ps => by
    show ([p.1, p.2] ++ pnames ps).length = _
    rw [List.length_append, pnames_len ps]
    simp
    omega
section
variable {w : Web} {t : List Nat} {ps : List (Nat × Nat)}
theorem tree_one (hin : InR w.1 w.2) (h : isTree w t) : Stage w (treeFl w t) t ∧ HasF (treeFl w t) 1 := by
  obtain ⟨s, n, hf, hn⟩ := tree_stage hin t [] (by rw [List.append_nil]; exact h)
  have := h.2.2.1
  have e : n = 1 := by omega
  rw [e] at hf
  exact ⟨s, hf⟩
theorem laid_stage (hin : InR w.1 w.2) (h : shows w t ps) : Stage w (laidFl w t ps).1 (laidFl w t ps).2 ∧ (∀ k, k < w.2.length → k ∈ (laidFl w t ps).2) ∧
    ∃ n, HasF (laidFl w t ps).1 n ∧ n + w.1 + 2 * ps.length ≤ w.2.length + 2 := by
  obtain ⟨_, ht, hp⟩ := h
  obtain ⟨s1, f1⟩ := tree_one hin ht
  obtain ⟨s2, f2⟩ := pairs_stage hin s1 f1 ps [] (by rw [List.append_nil]; exact hp)
  obtain ⟨s3, s4, n, f3, f4⟩ := rest_stage hin s2 f2 w.2.length (Nat.le_refl _)
  refine ⟨s3, s4, n, f3, ?_⟩
  have np := names_perm s3.nd s3.lt s4
  have e1 := np.length_eq
  rw [List.length_range] at e1
  rw [e1, List.length_append, pnames_len] at f4
  have := ht.2.2.1
  omega
theorem laid_ok (hin : InR w.1 w.2) (h : shows w t ps) : FloorOK w (laidM w t ps) ∧ ∃ n, HasF (w, laidM w t ps) n ∧ n + w.1 + 2 * ps.length ≤ w.2.length + 2 := by
  obtain ⟨s, a, n, hf, hn⟩ := laid_stage hin h
  obtain ⟨h1, h2, _⟩ := s.renamed a hin hf
  exact ⟨h1, n, h2, hn⟩
theorem laid_begun {r : List Nat} (h : r ∈ laidM w t ps) : ∃ r', r = begun r' := by
  obtain ⟨r', _, e⟩ := List.mem_map.mp h
  exact ⟨r', e.symm⟩
end
end HF
end

section
set_option Elab.async false
set_option linter.all false
set_option maxRecDepth 100000
set_option maxHeartbeats 4000000
namespace HF
open PySem PySem.Spec PyProof.Rows L2
/-! ### data in the heap -/
theorem same_upd {H : Hp} {p : Addr} {o : HO} (h : H p = none) : Same H (upd H p o) := fun b x e => by
  rw [upd_ne (ne_of_none e h)]
  exact e
/-- what H did not know may change -/
theorem same_mut {H H' : Hp} {p : Addr} {o : HO} (e : Same H H') (h : H p = none) : Same H (upd H' p o) := fun b x ha => by
  rw [upd_ne (ne_of_none ha h)]
  exact e b x ha
theorem same_sqt {K : PySem.W.Frag} {H H' : Hp} {a : Addr} {xs : List V} (e : Same H H') (h : SqT K H a xs) : SqT K H' a xs := by
  rcases h with (h | ⟨o, h⟩) | h
  · exact .inl (.inl (e _ _ h))
  · exact .inl (.inr ⟨o, e _ _ h⟩)
  · exact .inr h
theorem same_seq {K : PySem.W.Frag} {H H' : Hp} {a : Addr} {xs : List V} (e : Same H H') (h : SqL K H a xs) : SqL K H' a xs := e.seq h
mutual
theorem dp_mono {K : PySem.W.Frag} {H H' : Hp} (e : Same H H') : ∀ {v : V} {d : PyData}, Dp K H v d → Dp K H' v d
  | _, _, .non => .non
  | _, _, .bl b => .bl b
  | _, _, .int i => .int i
  | _, _, .str x => .str x
  | _, _, .lst s t => .lst (same_seq e s) (dpAll_mono e t)
  | _, _, .tup s t => .tup (same_sqt e s) (dpAll_mono e t)
theorem dpAll_mono {K : PySem.W.Frag} {H H' : Hp} (e : Same H H') : ∀ {vs : List V} {ds : List PyData}, DpAll K H vs ds → DpAll K H' vs ds
  | _, _, .nil => .nil
  | _, _, .cons h t => .cons (dp_mono e h) (dpAll_mono e t)
end
section
variable {K : PySem.W.Frag} {H H' : Hp}
theorem dp_tup {v : V} {ds : List PyData} (h : Dp K H v (.tuple ds)) : ∃ a xs, v = .ref a ∧ SqT K H a xs ∧ DpAll K H xs ds := by
  cases h with
  | tup s t => exact ⟨_, _, rfl, s, t⟩
theorem dp_lst {v : V} {ds : List PyData} (h : Dp K H v (.list ds)) : ∃ a xs, v = .ref a ∧ SqL K H a xs ∧ DpAll K H xs ds := by
  cases h with
  | lst s t => exact ⟨_, _, rfl, s, t⟩
theorem dp_int {v : V} {i : Int} (h : Dp K H v (.int i)) : v = .int i := by
  cases h
  rfl
theorem dpAll_len : ∀ {vs : List V} {ds : List PyData}, DpAll K H vs ds → vs.length = ds.length
  | _, _, .nil => rfl
  | _, _, .cons _ t => by simp only [List.length_cons, dpAll_len t]
theorem dpAll_get : ∀ {vs : List V} {ds : List PyData} {i : Nat} {d : PyData}, DpAll K H vs ds → ds[i]? = some d → ∃ v, vs[i]? = some v ∧ Dp K H v d
  | _, _, _, _, .nil, e => by simp at e
  | _, _, 0, _, .cons h _, e => by
    simp at e
    exact ⟨_, rfl, e ▸ h⟩
  | _, _, i + 1, _, .cons _ t, e => dpAll_get (i := i) t (by simpa using e)
theorem dpAll_at : ∀ {vs : List V} {ds : List PyData} {i : Nat} {v : V}, DpAll K H vs ds → vs[i]? = some v → ∃ d, ds[i]? = some d ∧ Dp K H v d
  | _, _, _, _, .nil, e => by simp at e
  | _, _, 0, _, .cons h _, e => by
    simp at e
    exact ⟨_, rfl, e ▸ h⟩
  | _, _, i + 1, _, .cons _ t, e => dpAll_at (i := i) t (by simpa using e)
theorem dpAll_app : ∀ {vs us : List V} {ds es : List PyData}, DpAll K H vs ds → DpAll K H us es → DpAll K H (vs ++ us) (ds ++ es)
  | _, _, _, _, .nil, h => h
  | _, _, _, _, .cons a t, h => .cons a (dpAll_app t h)
theorem dpAll_take : ∀ {vs : List V} {ds : List PyData} (n : Nat), DpAll K H vs ds → DpAll K H (vs.take n) (ds.take n)
  | _, _, 0, _ => .nil
  | _, _, _ + 1, .nil => .nil
  | _, _, n + 1, .cons a t => .cons a (dpAll_take n t)
theorem dpAll_drop : ∀ {vs : List V} {ds : List PyData} (n : Nat), DpAll K H vs ds → DpAll K H (vs.drop n) (ds.drop n)
  | _, _, 0, h => h
  | _, _, _ + 1, .nil => .nil
  | _, _, n + 1, .cons _ t => dpAll_drop n t
/-- a row of numbers -/
def intsV (ns : List Nat) : List V := ns.map fun (n : Nat) => V.int n
def intsD (ns : List Nat) : List PyData := ns.map fun (n : Nat) => PyData.int n
theorem dpAll_ints : ∀ (ns : List Nat), DpAll K H (intsV ns) (intsD ns)
  | [] => .nil
  | n :: ns => .cons (.int n) (dpAll_ints ns)
theorem dpAll_ints_eq : ∀ {ns : List Nat} {vs : List V}, DpAll K H vs (intsD ns) → vs = intsV ns
  | [], _, h => by cases h; rfl
  | n :: ns, _, h => by
    cases h with
    | cons a t => rw [dp_int a, dpAll_ints_eq t]; rfl
theorem intsV_cast (ns : List Nat) : intsV ns = (ns.map fun (n : Nat) => (n : Int)).map V.int := by unfold intsV; rw [List.map_map]; rfl
theorem intsV_len (ns : List Nat) : (intsV ns).length = ns.length := List.length_map _
theorem intsV_get {ns : List Nat} {i n : Nat} (h : ns[i]? = some n) : (intsV ns)[i]? = some (.int n) := by
  unfold intsV
  rw [List.getElem?_map, h]
  rfl
theorem intsV_at {ns : List Nat} {i : Nat} {v : V} (h : (intsV ns)[i]? = some v) : ∃ n : Nat, ns[i]? = some n ∧ v = .int n := by
  unfold intsV at h
  rw [List.getElem?_map] at h
  cases e : ns[i]? with
  | none => rw [e] at h; cases h
  | some n => rw [e] at h; cases h; exact ⟨n, rfl, rfl⟩
end
def tupN (ns : List Nat) : PyData := .tuple (intsD ns)
def tieD (t : Nat × Nat) : PyData := .tuple [.int t.1, .int t.2]
def tiesD (ts : List (Nat × Nat)) : PyData := .tuple (ts.map tieD)
def webD (w : Web) : PyData := .tuple [.int w.1, tiesD w.2]
def ordD (o : Ord) : PyData := .tuple (o.map tupN)
def floorD (f : Floor) : PyData := .tuple [webD f.1, ordD f.2]
def corD : Cor → PyData
  | .e x => .int x
  | .p q => .tuple [.str "place", .int q]

/-! ### numbers -/
theorem nfdiv (a b : Nat) : (a : Int).fdiv (b : Int) = ((a / b : Nat) : Int) := by
  rw [Int.fdiv_eq_ediv_of_nonneg _ (by omega)]
  rfl
theorem nfmod (a b : Nat) : (a : Int).fmod (b : Int) = ((a % b : Nat) : Int) := by
  rw [Int.fmod_eq_emod_of_nonneg _ (by omega)]
  rfl
/-! ### items of data -/
section
variable {K : PySem.W.Frag} {H : Hp} {Q : VK}
theorem ixT {v : V} {ds : List PyData} {d : PyData} {j : Nat} {z : Int} (h : Dp K H v (.tuple ds)) (hd : ds[j]? = some d) (hz : z = (j : Int)) (k : ∀ u, Dp K H u d → Q u H) : rIxT K v (.int z) H Q := by
  obtain ⟨a, xs, rfl, s, t⟩ := dp_tup h
  obtain ⟨u, hu, du⟩ := dpAll_get t hd
  exact ⟨a, xs, z, u, rfl, rfl, s, at_of hz hu, k u du⟩
theorem ixTi {v : V} {ns : List Nat} {n j : Nat} {z : Int} (h : Dp K H v (tupN ns)) (hd : ns[j]? = some n) (hz : z = (j : Int)) (k : Q (.int n) H) : rIxT K v (.int z) H Q :=
  ixT h (d := .int n) (by unfold intsD; rw [List.getElem?_map, hd]; rfl) hz fun u hu => by rw [dp_int hu]; exact k
end
end HF
end

section
set_option Elab.async false
set_option linter.all false
set_option maxRecDepth 100000
set_option maxHeartbeats 4000000
namespace HF.XR
open PySem PyProof.Rows
open AutoSeq1 MeetsSeq
/-! ### list.extend of a tuple -/
theorem extend_tup (l : Addr) (items : Array Value) (n : Nat) (b : Addr) (its : Array Value) (n2 : Nat) (dd : Option Addr) (sl : Array (Option Value)) (h0 : ¬(!items.isEmpty && Builtin.List.listTooLong (items.size + its.size)) = true) (h1 : items.size ≤ sizeLine) (h2 : items.size + its.size ≤ sizeLine + 1) :
    Meets (Builtin.«list.extend» ⟨[.ref l, .ref b], []⟩) (fun _ R s => s.heap.get? l = some { cls := .type "list", dict := none, data := .seq items n, slots := #[] } ∧
      s.heap.get? b = some { cls := .type "tuple", dict := dd, data := .seq its n2, slots := sl } ∧ R (.ok (.ret Value.none)) { s with heap := s.heap.update l (Obj.mapSeq fun x => x ++ its), toks := s.toks }) :=
  .of_wp fun prog w A R s h => by
    obtain ⟨hp, g, d, tk, os⟩ := s
    obtain ⟨hl, hb, h⟩ := h
    have f1 := idx_int
    have f2 := AutoSeq1.sub_tuple_tuple
    have f3 := AutoSeq1.sub_list_list
    have f4 := AutoSeq1.sub_tuple_list
    have f5 := AutoSeq1.sub_list_tuple
    have hz : (items ++ its).size ≤ sizeLine + 1 := by
      rw [Array.size_append]
      exact h2
    wp_walk using (wpAny_updateSeq hl rfl (hz := h1) (_hz' := hz)), wpAny_loadPart' hl, wpAny_loadPart' hb
    exact ⟨_, rfl, h⟩
end HF.XR
namespace HF
open PySem PySem.Spec PyProof.Rows L2
section
variable {X : Cx}
def rExtendT (K : PySem.W.Frag) : V → List V → Hp → VK → Prop := fun x vs H Q => ∃ (l b : Addr) (xs zs : List V), x = .ref l ∧ vs = [.ref b] ∧ H l = some (.lst xs) ∧ SqT K H b zs ∧ xs.length + zs.length ≤ sizeLine ∧ Q .non (upd H l (.lst (xs ++ zs)))
theorem mt_extendT : MtR X "list.extend" (rExtendT X.K) := by
  intro pins s σ H x vs v us Q I rx rv h
  obtain ⟨l, b, xs, zs, rfl, rfl, hH, hB, hz, q⟩ := h
  cases rx
  obtain ⟨u, rfl, ru⟩ := rv.one
  cases ru
  obtain ⟨z, its, n, r, hl, e⟩ := I.lstM hH
  obtain ⟨its2, r2, pl, hz2⟩ := I.tuple hB
  obtain ⟨⟨cls, dd, dt, sl⟩, ho, hc, n2, hd⟩ := pl
  simp only at hc hd
  subst hc hd
  have hl2 := r2.length
  have hsz : its.toArray.size + its2.toArray.size ≤ sizeLine := by
    rw [List.size_toArray, List.size_toArray]
    omega
  have hlong : ¬ (!its.toArray.isEmpty && Builtin.List.listTooLong (its.toArray.size + its2.toArray.size)) = true := by
    rw [notLongL hsz, Bool.and_false]
    exact Bool.false_ne_true
  refine call_meets PySem.F.slot_list_extend ⟨_, e, rfl⟩ PySem.F.entry_list_extend (PySem.F.args_list_extend_2 _ _)
    (XR.extend_tup l its.toArray n b its2.toArray n2 dd sl hlong (by rw [List.size_toArray]; omega) (by omega)) ⟨e, ho, ?_⟩
  refine ⟨.non, _, I.lset (its' := its ++ its2) hH e (by simp) (r.append r2) ?_, rfl, q⟩
  rw [List.length_append]
  omega
/-- tuple.index of a whole number that is there: its first place -/
theorem mt_tupIx : MtR X "tuple.index" (fun x xs H Q => ∃ (p : Addr) (ys : List Int) (z : Int) (j : Nat), x = .ref p ∧ xs = [.int z] ∧ SqT X.K H p (ys.map V.int) ∧ ys[j]? = some z ∧ (∀ m, m < j → ys[m]? ≠ some z) ∧ Q (.int (j : Nat)) H) := by
  intro pins s σ H x xs v us Q I rx rs h
  obtain ⟨p, ys, z, j, rfl, rfl, hq, hy, hno, q⟩ := h
  cases rx
  obtain ⟨u, rfl, t, rfl⟩ := vals1 rs
  obtain ⟨its, r, pl, hz⟩ := I.tuple hq
  obtain ⟨⟨cls, dd, dt, sl⟩, ho, hc, n, hd⟩ := pl
  simp only at hc hd
  subst hc hd
  have hi := ints_of_vals r
  have hl : its.toArray.size = ys.length := by rw [List.size_toArray, ← r.length, List.length_map]
  have hj : j < its.toArray.size := by rw [hl]; exact (List.getElem?_eq_some_iff.mp hy).1
  refine call_meets PySem.F.slot_tuple_index ⟨_, ho, rfl⟩ PySem.F.entry_tuple_index (PySem.F.args_tuple_index_2 _ _) (TI.tuple_indexAt p its.toArray n dd sl (.int z t) (eqk z) j hj ?_ ?_)
    ⟨ho, fun w hw => (eqk_gives hi w (by simpa using hw)).at _ _, ⟨.int (j : Nat), H, I.tok _, ⟨_, rfl⟩, q⟩⟩
  · obtain ⟨tj, hjt⟩ := hi.get j z hy
    obtain ⟨h1, h2⟩ := List.getElem?_eq_some_iff.mp hjt
    have e1 : its.toArray[j] = .int z tj := by simpa using h2
    rw [e1]
    exact beq_self_eq_true z
  · intro m hm hmj
    have hmn : m < ys.length := by omega
    obtain ⟨tm, hmt⟩ := hi.get m _ (List.getElem?_eq_getElem hmn)
    obtain ⟨h1, h2⟩ := List.getElem?_eq_some_iff.mp hmt
    have e1 : its.toArray[m] = .int ys[m] tm := by simpa using h2
    rw [e1]
    refine beq_eq_false_iff_ne.mpr fun e2 => hno m hmj ?_
    rw [List.getElem?_eq_getElem hmn, e2]
end
end HF
end

section
set_option Elab.async false
set_option linter.all false
set_option maxRecDepth 100000
set_option maxHeartbeats 4000000
namespace HF.XR
open PySem PySem.Spec PyProof.Rows L2
/-- a new set's object -/
abbrev set0 (w : World) : Obj := { cls := .type "set", dict := none, data := .set #[] 0 (.fresh 0 0 (!w.params.followText "set-order")) }
section
variable {P : Program} {w : World} {A : Around} {E : Value → Shared → Prop} {s : Shared}
set_option maxHeartbeats 8000000 in
/-- set(xs) of a list of whole numbers -/
theorem set_of_list {l : Addr} {items : Array Value} (ns : List Int) {Q : Value → Shared → Prop} (hh : A.handled = none) (hl : s.heap.IsList l items) (hit : IntsAre items.toList ns) (hb : ns.length + 1 < scanBound)
    (h : ∀ (h' : Heap) (tk c : Nat), SetR w h' s.heap.objs.size (fun j => decide (j ∈ ns)) c → (∀ b o, s.heap.get? b = some o → h'.get? b = some o) → Q (.ref s.heap.objs.size) { s with heap := h', toks := tk }) :
    wpAny (model P w) A (call (.type "set") [.ref l]) Q E s := by
  have hsz : items.size = ns.length := by
    have q := IntsAre.length hit
    rw [Array.length_toList] at q
    exact q
  obtain ⟨c0, tl, hmro⟩ := F.called_set.mro
  have m1 := F.called_set.made
  have m2 := F.called_set.sub
  refine wpAny_call (codeAny_of_tree ?_)
  show wpAny _ _ (callAny (.type "set") _) _ _ _
  refine wpAny_pure ⟨Code.quiet_builtin _ (by decide +kernel), codeAny_builtin F.entry_type_call ?_⟩
  rw [Around.under_plain (weight_type_call_type "set" [.ref l] []) rfl]
  have m3 := F.called_set.notType
  have m4 := F.called_set.canCreate
  have m5 := F.typeCall_set_1 (.ref l)
  repeat (any_goals (first | assumption | wp_step))

  refine codeAny_mono (code_set_led1 (.ref l) (E := E) (Q₁ := fun obj z => obj = .ref s.heap.objs.size ∧ z = { s with heap := s.heap.push (set0 w) }) ⟨rfl, rfl⟩) fun r z hr => ?_
  cases r with
  | error e => exact hr
  | ok fl =>
    cases fl with
    | ret obj =>
      obtain ⟨rfl, rfl⟩ := hr
      have hS : (s.heap.push (set0 w)).get? s.heap.objs.size = some (set0 w) := Heap.get?_push_size _ rfl
      have hT : Shared.TypeIs { s with heap := s.heap.push (set0 w) } (.ref s.heap.objs.size) "set" := ⟨_, hS, rfl⟩
      have i1 := F.called_set.init.lookup
      have i2 := F.called_set.init.bind (.ref s.heap.objs.size)
      repeat (any_goals (first | assumption | wp_step))

      refine codeAny_mono (codeAny_call_builtin (R := wants (fun r z2 => r = .none ∧ ∃ h' tk c, z2 = { s with heap := h', toks := tk } ∧ SetR w h' s.heap.objs.size (fun j => decide (j ∈ ns)) c ∧ (∀ b o, s.heap.get? b = some o → h'.get? b = some o)) E)
        F.called_set.init.plain F.entry_set_init (check_set_init_1 hT ?_)) fun r2 z2 hr2 => ?_
      · obtain ⟨ol, hol, hcl, nl, hdl⟩ := hl
        obtain ⟨ocls, odict, odata, oslots⟩ := ol
        simp only at hcl hdl
        subst hcl
        subst hdl
        have hol1 : (s.heap.push (set0 w)).get? l = some { cls := .type "list", dict := odict, data := .seq items nl, slots := oslots } := Heap.get?_push_of_some _ hol
        have k1 := F.sub_list_set
        have k2 := F.sub_list_frozenset
        have k3 : (Value.type "list" == Value.type "dict") = false := by decide
        have hl1 : (s.heap.push (set0 w)).IsList l items := ⟨_, hol1, rfl, nl, rfl⟩
        unfold Builtin.«set.__init__» noKeywords Builtin.Frozenset.updateFrom
        generalize hPI : pyIter = PI
        wp_walk
        subst hPI

        refine wpAny_pyIter_list hl1 ?_
        refine wpAny_bind (wpAny_runValue ?_)
        have ltS : l < s.heap.objs.size := Heap.lt_size hol
        have hh3 : A.in1.in1.in1.handled = none := by simp [hh]
        have neI : l ≠ (s.heap.push (set0 w)).objs.size := by
          rw [Heap.size_push]
          exact Nat.ne_of_lt (Nat.lt_succ_of_lt ltS)
        have nSf : s.heap.objs.size ∉ [(s.heap.push (set0 w)).objs.size, l] := by
          rw [Heap.size_push]
          simp only [List.mem_cons, List.mem_singleton, List.not_mem_nil, or_false, not_or]
          exact ⟨Nat.ne_of_lt (Nat.lt_succ_self _), Nat.ne_of_gt ltS⟩
        have val : ∀ (i : Nat) (v : Value), items[i]? = some v → ∃ k t, ns[i]? = some k ∧ v = .int k t := fun i v hv => by
          have hi : i < ns.length := by
            rw [← hsz]
            exact (Array.getElem?_eq_some_iff.mp hv).1
          obtain ⟨t, e⟩ := PyProof.Rows.IntsAre.int_at hit i v (by rw [Array.getElem?_toList]; exact hv)
          refine ⟨ns[i], t, List.getElem?_eq_getElem hi, ?_⟩
          rw [e, List.getD_eq_getElem?_getD, List.getElem?_eq_getElem hi] <;> rfl
        refine set_update_ints ((Walks.list hh3 _ l neI items).toS) s.heap.objs.size nSf ns hsz hb val (items.size - 0) 0 _ (by omega) (Nat.zero_le _) ⟨⟨_, Heap.get?_push_size _ rfl, rfl, rfl⟩, (hl1.push _)⟩ ?a0 ?aR
        case a0 => exact ⟨0, Nat.le_refl 0, setR_new_at (Heap.get?_push_of_some _ hS)⟩
        case aR =>
          intro s' c' hm _ hS'
          obtain ⟨h', g2, d', tk', os'⟩ := s'
          have eg : g2 = s.gens := hm.gens
          have ed : d' = s.drawn := hm.drawn
          have eo : os' = s.os := hm.os
          subst eg
          subst ed
          subst eo
          show wpAny _ _ _ _ _ _
          refine wpAny_pure ?_
          show wpAny _ _ (ret Value.none) _ _ _
          refine wpAny_pure ⟨rfl, h', tk', c', rfl, hS', fun b o e => ?_⟩
          have b0 : b < s.heap.objs.size := Heap.lt_size e
          have b2 : b ≠ (s.heap.push (set0 w)).objs.size := by
            rw [Heap.size_push]
            exact Nat.ne_of_lt (Nat.lt_succ_of_lt b0)
          exact hm.heap b o (by simp only [List.mem_cons, List.mem_singleton, List.not_mem_nil, or_false, not_or]; exact ⟨Nat.ne_of_lt b0, b2⟩) (Heap.get?_push_of_some _ (Heap.get?_push_of_some _ e))
      · cases r2 with
        | error e => exact hr2
        | ok fl2 =>
          cases fl2 with
          | ret r =>
            obtain ⟨rfl, h', tk, c', rfl, hS', hk'⟩ := hr2
            repeat (any_goals (first | assumption | wp_step))
            exact h _ _ _ hS' hk'
          | _ => exact hr2.elim
    | _ => exact hr.elim
/-- the items of a tuple as the new list of sorted(..) -/
theorem collect_tup {l : Addr} {vs : List Value} {Q : List Value → Shared → Prop} (hl : IsTup s.heap l vs.toArray)
    (h : Q vs { s with heap := (s.heap.push (seqObj "list" #[] 0)).update s.heap.objs.size (Obj.mapSeq (· ++ vs.toArray)) }) (hz : vs.length ≤ sizeLine) :
    wpAny (model P w) A (collect (.ref l)) Q E s := by
  obtain ⟨o, ho, hc, n, hd⟩ := id hl
  unfold collect
  refine wpAny_bind (wpAny_runValue (codeAny_builtin entry_proto_collect' ?_))
  show wpAny _ _ (do again (.builtin "list.__iadd__" ⟨[← newList [], .ref l], []⟩)) _ _ s
  refine wpAny_bind (wpAny_newList (wpAny_pure ⟨Code.quiet_builtin _ (by decide +kernel), codeAny_builtin entry_list_iadd' ?_⟩))
  show wpAny _ _ (Builtin.List.listExtendWith (.ref s.heap.objs.size) (.ref l) (.ref s.heap.objs.size)) _ _ { s with heap := s.heap.push (seqObj "list" #[] 0) }
  unfold Builtin.List.listExtendWith
  have ho2 : (s.heap.push (seqObj "list" #[] 0)).get? l = some o := Heap.get?_push_of_some _ ho
  refine wpAny_bind (wpAny_typeOf (T := "tuple") ⟨o, ho2, hc⟩ ?_)
  have ht : (Value.type "tuple" == Value.type "tuple") = true := by rfl
  rw [if_pos (by rw [ht]; simp)]
  refine wpAny_bind (listItems_at ho2 hd ?_)
  refine wpAny_bind (listItems_at (xs := #[]) (n := 0) (Heap.get?_push_size _ rfl) rfl ?_)
  rw [if_neg (by simp)]
  refine wpAny_bind (listUpdate_at (xs := #[]) (n := 0) (Heap.get?_push_size _ rfl) rfl ?_ (Nat.zero_le _) (by show (#[] ++ vs.toArray).size ≤ sizeLine + 1; simp only [Array.size_append, List.size_toArray, List.length_nil]; omega))
  refine wpAny_pure ?_
  show wpAny (model P w) A (do
      let o ← load s.heap.objs.size
      match o.data with
      | .seq xs _ => pure xs.toList
      | _ => unsupported "internal:collect") Q E { s with heap := (s.heap.push (seqObj "list" #[] 0)).update s.heap.objs.size (Obj.mapSeq (· ++ vs.toArray)) }
  refine wpAny_bind (wpAny_load (get?_update_seq (Heap.get?_push_size _ rfl) _) ?_)
  show wpAny _ _ (pure ((#[] : Array Value) ++ vs.toArray).toList) Q E _
  rw [show ((#[] : Array Value) ++ vs.toArray).toList = vs by simp]
  exact wpAny_pure h
/-- sorted(t), t a tuple of fewer than 64 whole numbers -/
theorem sorted_tupI {l : Addr} {vs : List Value} {ns : List Int} {Q : Value → Shared → Prop} (hl : IsTup s.heap l vs.toArray) (hI : IntsAre vs ns) (h64 : vs.length < 64)
    (h : ∀ (out : Array Value) (ns' : List Int), IntsAre out.toList ns' → ns'.Perm ns → ns'.Pairwise (· ≤ ·) → Q (.ref (s.heap.objs.size + 1)) { s with heap := sortedAll s.heap vs out }) :
    wpAny (model P w) A (call (.builtin "sorted") [.ref l]) Q E s := by
  have hz : vs.length ≤ sizeLine := small64 h64
  refine Calls.call_function_entry kind_sorted plain_sorted entry_sorted (args_sorted1 _) ?_
  unfold Builtin.«sorted»
  refine wpAny_bind (m := checkCount "sorted" 1 1 _) (wpAny_pure ?_)
  refine wpAny_bind (collect_tup hl ?_ hz)
  refine wpAny_bind (wpAny_newList ?_ hz)
  have hsz : ((s.heap.push (seqObj "list" #[] 0)).update s.heap.objs.size (Obj.mapSeq (· ++ vs.toArray))).objs.size = s.heap.objs.size + 1 := by
    rw [Heap.size_update, size_push']
  have hoL : (((s.heap.push (seqObj "list" #[] 0)).update s.heap.objs.size (Obj.mapSeq (· ++ vs.toArray))).push (seqObj "list" vs.toArray 0)).get? (s.heap.objs.size + 1) = some (seqObj "list" vs.toArray 0) := by
    rw [← hsz]
    exact Heap.get?_push_size _ rfl
  show wpAny _ _ _ _ _ { s with heap := ((s.heap.push (seqObj "list" #[] 0)).update s.heap.objs.size (Obj.mapSeq (· ++ vs.toArray))).push (seqObj "list" vs.toArray 0) }
  rw [hsz]
  refine wpAny_bind (wpAny_holding (wpAny_call_entry slot_list_sort ⟨_, hoL, rfl⟩ entry_list_sort (list_sort_tree hoL hI h64 fun out ns' a1 a2 a3 => ⟨_, rfl, ?_⟩) (args_list_sort _)))
  exact wpAny_pure ⟨_, rfl, h out ns' a1 a2 a3⟩
end
end HF.XR
namespace HF
open PySem PySem.Spec PyProof.Rows L2
section
variable {X : Cx}
/-- set(xs), xs a list or a tuple of whole numbers -/
def rSetI (K : PySem.W.Frag) (w : World) : List V → Hp → VK → Prop := fun vs H Q => ∃ (l : Addr) (ns : List Int), vs = [.ref l] ∧ (SqL K H l (ns.map V.int) ∨ SqT K H l (ns.map V.int)) ∧ ns.length ≤ 100 ∧
  ∀ (p : Addr) (c : Nat), H p = none → (∃ ks : List Int, ks.Nodup ∧ (∀ k, k ∈ ks ↔ k ∈ ns) ∧ ks.length = c) → Q (.ref p) (upd H p (SetO w p (fun j => decide (j ∈ ns)) c))
theorem cr_setI (hc : X.calm = true) : CallR X (.type "set") (rSetI X.K X.w) := by
  intro pins s σ H vs us Q I r h
  obtain ⟨l, ns, rfl, hs, h100, q⟩ := h
  rw [Vals.ref1 r]
  have hb : ns.length + 1 < scanBound := by unfold scanBound; omega
  have fin : ∀ (h' : Heap) (tk c : Nat), SetR X.w h' s.heap.objs.size (fun j => decide (j ∈ ns)) c → (∀ b o, s.heap.get? b = some o → h'.get? b = some o) → EP X pins σ Q (.ref s.heap.objs.size) { s with heap := h', toks := tk } := fun h' tk c R k => by
    have hn : H s.heap.objs.size = none := I.hok.fresh (Nat.le_refl _)
    refine ⟨.ref _, upd H s.heap.objs.size (SetO X.w s.heap.objs.size (fun j => decide (j ∈ ns)) c), I.laid (t' := tk) k (Nat.le_refl _) (setO_new R), rfl, q _ c hn ?_⟩
    obtain ⟨_, es, _, _, _, _, _, _, hnd, hk, _, _, hsz, _⟩ := R
    refine ⟨_, hnd, fun k => ?_, by rw [List.length_map, Array.length_toList, hsz]⟩
    rw [← hk]
    exact decide_eq_true_iff
  rcases hs with hs | hs
  · obtain ⟨its, rv, hl, _⟩ := I.list hs
    exact XR.set_of_list ns (I.ok.hd hc) hl.isList (by simpa using ints_of_vals rv) hb fun h' tk c R k => fin h' tk c R k
  · obtain ⟨its, rv, hl, _⟩ := I.tuple hs
    exact call_set_tupI ns (I.ok.hd hc) (show s.heap.IsTuple l its.toArray from hl) (by simpa using ints_of_vals rv) hb fun h' tk c R _ k => fin h' tk c R k
/-- len(s), s a set of whole numbers -/
def rLenSetO (w : World) : List V → Hp → VK → Prop := fun vs H Q => ∃ (a : Addr) (S : Int → Bool) (n : Nat), vs = [V.ref a] ∧ H a = some (SetO w a S n) ∧ ∀ (ks : List Int), ks.Nodup → (∀ k, k ∈ ks ↔ S k = true) → ks.length = n → Q (.int n) H
theorem cr_lenSetO : CallR X (.builtin "len") (rLenSetO X.w) := by
  intro pins s σ H vs us Q I r h
  obtain ⟨a, S, n, rfl, ha, q⟩ := h
  rw [Vals.ref1 r]
  obtain ⟨o, es, ep, t, ho, hex, hd, hg, hnd, hk, hsc, hf, hn, _⟩ := setO_get I ha
  refine call_len_set ho hex hd hf (by rw [hn] at hsc; rw [hn]; unfold scanBound at hsc; omega) ⟨.int n, H, I.tok _, ⟨_, by rw [hn]⟩, ?_⟩
  exact q (es.toList.map keyOf) hnd (fun k => (hk k).symm) (by rw [List.length_map]; simpa using hn)
/-- sorted(t), t a tuple of whole numbers -/
def rSortedTI (K : PySem.W.Frag) : List V → Hp → VK → Prop := fun vs H Q => ∃ (a : Addr) (ns : List Int), vs = [V.ref a] ∧ SqT K H a (ns.map V.int) ∧ ns.length < 64 ∧
  ∀ (ns' : List Int) (p : Addr), ns'.Perm ns → ns'.Pairwise (· ≤ ·) → H p = none → Q (.ref p) (upd H p (.lst (ns'.map V.int)))
theorem cr_sortedTI : CallR X (.builtin "sorted") (rSortedTI X.K) := by
  intro pins s σ H vs us Q I r h
  obtain ⟨a, ns, rfl, hs, h64, q⟩ := h
  obtain ⟨its, rv, hl, _⟩ := I.tuple hs
  rw [Vals.ref1 r]
  have hi := rv.ints
  refine XR.sorted_tupI hl hi (by rw [hi.length]; exact h64) fun out ns' h1 h2 h3 => ?_
  obtain ⟨ep, he⟩ := PyProof.Rows.sortedAll_at s.heap its out
  have hlen : (ns'.map V.int).length ≤ sizeLine := by rw [List.length_map, h2.length_eq]; exact small64 h64
  exact ⟨.ref _, upd H (s.heap.objs.size + 1) (.lst (ns'.map V.int)), I.laid (t' := s.toks) (fun _ _ => PyProof.Rows.sortedAll_old) (Nat.le_succ _) ⟨hlen, out.toList, ep, vals_of_ints h1, he⟩, rfl, q ns' _ h2 h3 (I.hok.fresh (Nat.le_succ _))⟩
/-- sorted(xs), xs a list of tuples of whole numbers, none of them empty, or of one item -/
def rSortedF (K : PySem.W.Frag) : List V → Hp → VK → Prop := fun vs H Q => ∃ (a : Addr) (xs : List V), vs = [V.ref a] ∧ SqL K H a xs ∧ xs.length ≤ 100 ∧
  ((∃ bs : List (List Int), DpAll K H xs (bs.map fun b => .tuple (b.map .int)) ∧ ∀ b ∈ bs, b ≠ []) ∨ ∃ x, xs = [x]) ∧
  ∀ (ys : List V) (p : Addr), ys.length = xs.length → H p = none → Q (.ref p) (upd H p (.lst ys))
theorem each_map_and {α β : Type} {R S : α → β → Prop} : ∀ {as : List α} {bs : List β}, PySem.W.EachIs R as bs → PySem.W.EachIs S as bs → PySem.W.EachIs (fun a b => R a b ∧ S a b) as bs
  | _, _, .nil, .nil => .nil
  | _, _, .cons a t, .cons b u => .cons ⟨a, b⟩ (each_map_and t u)
theorem each_ex {R : Value → List Int → Prop} : ∀ {us : List Value} {bs : List (List Int)}, PySem.W.EachIs (fun u b => ∃ x, RelV x u) us bs → ∃ xs, Vals xs us
  | _, _, .nil => ⟨[], .nil⟩
  | _, _, .cons ⟨x, r⟩ t => by
    obtain ⟨xs, h⟩ := each_ex (R := R) t
    exact ⟨x :: xs, .cons r h⟩
theorem vals_each : ∀ {xs : List V} {us : List Value} {bs : List (List Int)}, Vals xs us → us.length = bs.length → PySem.W.EachIs (fun u _ => ∃ x, RelV x u) us bs
  | _, _, [], .nil, _ => .nil
  | _, _, b :: bs, .cons r t, e => .cons ⟨_, r⟩ (vals_each t (by simpa using e))
  | _, _, _ :: _, .nil, e => by simp at e
  | _, _, [], .cons _ _, e => by simp at e
theorem cr_sortedF (hu : X.A.units + 64 < cLine) : CallR X (.builtin "sorted") (rSortedF X.K) := by
  intro pins s σ H vs us Q I r h
  obtain ⟨a, xs, rfl, hs, h100, hd, q⟩ := h
  obtain ⟨its, rv, hl, hz⟩ := I.list hs
  rw [Vals.ref1 r]
  have fin : ∀ out : List Value, out.length = its.length → (∃ ys, Vals ys out) → EP X pins σ Q (.ref (s.heap.objs.size + 1)) { s with heap := sortedAll s.heap its out.toArray } := fun out ho ⟨ys, ry⟩ => by
    obtain ⟨ep, he⟩ := PyProof.Rows.sortedAll_at s.heap its out.toArray
    have hlen : ys.length ≤ sizeLine := by rw [ry.length, ho, ← rv.length]; exact hz
    exact ⟨.ref _, upd H (s.heap.objs.size + 1) (.lst ys), I.laid (t' := s.toks) (fun _ _ => PyProof.Rows.sortedAll_old) (Nat.le_succ _) ⟨hlen, out, ep, ry, he⟩, rfl, q ys _ (by rw [ry.length, ho, ← rv.length]) (I.hok.fresh (Nat.le_succ _))⟩
  rcases hd with ⟨bs, hb, hne⟩ | ⟨x, rfl⟩
  · obtain ⟨as, hR⟩ := Dp.readsAll I _ _ _ hb rv
    let enc : {b : List Int // b ≠ []} → PyData := fun b => .tuple (b.1.map .int)
    let cs : List {b : List Int // b ≠ []} := bs.attach.map fun b => ⟨b.1, hne b.1 b.2⟩
    have ec : cs.map enc = bs.map fun b => PyData.tuple (b.map .int) := by
      show (bs.attach.map fun b => (⟨b.1, hne b.1 b.2⟩ : {b : List Int // b ≠ []})).map enc = _
      rw [List.map_map]
      conv => rhs; rw [← List.attach_map_subtype_val bs, List.map_map]
      rfl
    rw [← ec] at hR
    have er := PySem.W.readsAll_each enc hR
    have ln : its.length = cs.length := er.length
    have e1 : PySem.W.EachIs (fun u (_ : {b : List Int // b ≠ []}) => ∃ x, RelV x u) its cs := by
      have : ∀ {xs : List V} {us : List Value} {cs : List {b : List Int // b ≠ []}}, Vals xs us → us.length = cs.length → PySem.W.EachIs (fun u _ => ∃ x, RelV x u) us cs := by
        intro xs us
        induction us generalizing xs with
        | nil =>
          intro cs _ e
          cases cs with
          | nil => exact .nil
          | cons _ _ => simp at e
        | cons u us ih =>
          intro cs r e
          cases r with
          | cons r t =>
            cases cs with
            | nil => simp at e
            | cons c cs => exact .cons ⟨_, r⟩ (ih t (by simpa using e))
      exact this rv ln
    have dep : ∀ b : {b : List Int // b ≠ []}, (enc b).depth = 1 := fun b => by
      show (PyData.tuple (b.1.map .int)).depth = 1
      rw [PyData.depth, PySem.W.depth_ints]
    refine PySem.W.sorted_data (bs := cs) (enc := enc) hl.isList e1 er ?_ ?_ (by rw [← ln, ← rv.length]; exact hz) (fun b _ => by rw [dep]; show X.A.units + 3 < cLine; omega) fun out ho eo => ?_
    · refine PySem.W.AllAlike.of fun b b' => ?_
      show PySem.W.alike (.tuple (b.1.map .int)) (.tuple (b'.1.map .int)) = true
      rw [PySem.W.alike]
      exact PySem.W.alike_ints _ _
    · refine PySem.W.Sortable.tuples fun b => ?_
      obtain ⟨l, hl⟩ := b
      cases l with
      | nil => exact absurd rfl hl
      | cons x r => exact ⟨.int x, r.map .int, rfl⟩
    · refine fin out (by rw [ho, ln]) ?_
      have : ∀ {us : List Value} {cs : List {b : List Int // b ≠ []}}, PySem.W.EachIs (fun u _ => ∃ x, RelV x u) us cs → ∃ xs, Vals xs us := by
        intro us
        induction us with
        | nil => intro _ _; exact ⟨[], .nil⟩
        | cons u us ih =>
          intro cs h
          cases h with
          | cons a t =>
            obtain ⟨x, r⟩ := a
            obtain ⟨xs, h⟩ := ih t
            exact ⟨x :: xs, .cons r h⟩
      exact this eo
  · have hl1 : its.length = 1 := by rw [← rv.length]; rfl
    refine SrtO.sorted_ord (ltv := SrtO.ltIv) SrtO.swo_int hl.isList (by rw [← rv.length]; exact hz) (fun h2 => by omega) fun out h1 h2 => ?_
    have p := h2.perm
    obtain ⟨u, rfl⟩ := List.length_eq_one_iff.mp hl1
    have eo : out = [u] := List.perm_singleton.mp p
    subst eo
    exact fin [u] rfl ⟨[x], rv⟩
end
end HF
end

section
set_option Elab.async false
set_option linter.all false
set_option maxRecDepth 100000
set_option maxHeartbeats 4000000
namespace HF
open PySem PySem.Spec PyProof.Rows L2
/-! ### comprehensions that change nothing -/
/-- what a turn of such a comprehension has to do: hand its element, or pass -/
def LStep (g : TG) (tt : TT) (te : TE) (vs : List Nat) (σ : L2.St) (x : V) (f : Option V) (H : Hp) : Prop :=
  ∀ (k : V → Hp → Prop) (n : Hp → Prop), (∀ y H4, Same H H4 → f = some y → k y H4) → (∀ H3, Same H H3 → f = none → n H3) →
    g x (wipe σ vs) H fun σ2 H2 => wipe σ2 vs = wipe σ vs ∧ tt σ2 H2 fun b H3 => if b = true then te σ2 H3 k else n H3
section
variable {K : PySem.W.Frag} {a : Addr} {xs : List V} {g : TG} {tt : TT} {te : TE} {vs : List Nat} {σ : L2.St} {H1 : Hp} {D : Addr} {Qd : Hp → Prop}
theorem lsz {n : Nat} (h : n < 1000) : n < sizeLine := small1000 (by omega)
theorem fm_len {fs : Nat → Option V} (i : Nat) : ((List.range i).filterMap fs).length ≤ i := by
  have := List.length_filterMap_le fs (List.range i)
  rw [List.length_range] at this
  exact this
theorem fm_succ {fs : Nat → Option V} (i : Nat) : (List.range (i + 1)).filterMap fs = (List.range i).filterMap fs ++ (match fs i with | some y => [y] | none => []) := by
  rw [List.range_succ, List.filterMap_append]
  congr 1
  cases h : fs i with
  | none => simp [List.filterMap, h]
  | some y => simp [List.filterMap, h]
theorem lc_turn {fs : Nat → Option V} {i : Nat} {x : V} {H : Hp} (new : H1 D = none) (hz : i < 1000) (hp : Same H1 H ∧ H D = some (.lst ((List.range i).filterMap fs))) (step : LStep g tt te vs σ x (fs i) H) :
    g x (wipe σ vs) H fun σ2 H2 => wipe σ2 vs = wipe σ vs ∧ tt σ2 H2 fun b H3 =>
      if b = true then te σ2 H3 fun y H4 => ∃ acc, H4 D = some (.lst acc) ∧ acc.length < sizeLine ∧ (Same H1 (upd H4 D (.lst (acc ++ [y]))) ∧ (upd H4 D (.lst (acc ++ [y]))) D = some (.lst ((List.range (i + 1)).filterMap fs)))
      else (Same H1 H3 ∧ H3 D = some (.lst ((List.range (i + 1)).filterMap fs))) := by
  obtain ⟨sm, hD⟩ := hp
  refine step _ _ (fun y H4 s4 e => ?_) (fun H3 s3 e => ?_)
  · refine ⟨_, s4 _ _ hD, Nat.lt_of_le_of_lt (fm_len i) (lsz hz), same_mut (sm.trans s4) new, ?_⟩
    rw [upd_same, fm_succ, e]
  · refine ⟨sm.trans s3, ?_⟩
    rw [s3 _ _ hD, fm_succ, e, List.append_nil]
theorem lcT_pure (fs : Nat → Option V) (hq : SqT K H1 a xs) (new : H1 D = none) (hz : xs.length ≤ 999) (step : ∀ i x H, xs[i]? = some x → Same H1 H → LStep g tt te vs σ x (fs i) H)
    (fin : ∀ H, Same H1 H → H D = some (.lst ((List.range xs.length).filterMap fs)) → Qd H) :
    ∃ W : Nat → Nat → Hp → Prop, (∃ m, W 0 m (upd H1 D (.lst []))) ∧ ∀ i m H, W i m H →
      ((Itt K a).stop i H ∧ Qd H) ∨ ((Itt K a).go i H ∧ ∃ Nx : Hp → Prop, (∀ H', Nx H' → ∃ m', m' < m ∧ W (i + 1) m' H') ∧ ∀ x H', (Itt K a).yld i H x H' → g x (wipe σ vs) H' fun σ2 H2 => wipe σ2 vs = wipe σ vs ∧ tt σ2 H2 fun b H3 =>
        if b = true then te σ2 H3 fun y H4 => ∃ acc, H4 D = some (.lst acc) ∧ acc.length < sizeLine ∧ Nx (upd H4 D (.lst (acc ++ [y]))) else Nx H3) :=
  lc_tup (fun i H => Same H1 H ∧ H D = some (.lst ((List.range i).filterMap fs))) ⟨same_upd new, upd_same⟩ (fun i H _ p => same_sqt p.1 hq)
    (fun i x H hx p => lc_turn new (by have := (List.getElem?_eq_some_iff.mp hx).1; omega) p (step i x H hx p.1)) (fun H p => fin H p.1 p.2)
theorem lcL_pure (fs : Nat → Option V) (hq : SqL K H1 a xs) (new : H1 D = none) (hz : xs.length ≤ 999) (step : ∀ i x H, xs[i]? = some x → Same H1 H → LStep g tt te vs σ x (fs i) H)
    (fin : ∀ H, Same H1 H → H D = some (.lst ((List.range xs.length).filterMap fs)) → Qd H) :
    ∃ W : Nat → Nat → Hp → Prop, (∃ m, W 0 m (upd H1 D (.lst []))) ∧ ∀ i m H, W i m H →
      ((Itl K a).stop i H ∧ Qd H) ∨ ((Itl K a).go i H ∧ ∃ Nx : Hp → Prop, (∀ H', Nx H' → ∃ m', m' < m ∧ W (i + 1) m' H') ∧ ∀ x H', (Itl K a).yld i H x H' → g x (wipe σ vs) H' fun σ2 H2 => wipe σ2 vs = wipe σ vs ∧ tt σ2 H2 fun b H3 =>
        if b = true then te σ2 H3 fun y H4 => ∃ acc, H4 D = some (.lst acc) ∧ acc.length < sizeLine ∧ Nx (upd H4 D (.lst (acc ++ [y]))) else Nx H3) :=
  lc_list (fun i H => Same H1 H ∧ H D = some (.lst ((List.range i).filterMap fs))) ⟨same_upd new, upd_same⟩ (fun i H _ p => same_seq p.1 hq)
    (fun i x H hx p => lc_turn new (by have := (List.getElem?_eq_some_iff.mp hx).1; omega) p (step i x H hx p.1)) (fun H p => fin H p.1 p.2)
theorem lcR_pure {lo : Int} {n : Nat} (fs : Nat → Option V) (new : H1 D = none) (hz : n ≤ 999) (step : ∀ i H, i < n → Same H1 H → LStep g tt te vs σ (.int (lo + i)) (fs i) H)
    (fin : ∀ H, Same H1 H → H D = some (.lst ((List.range n).filterMap fs)) → Qd H) :
    ∃ W : Nat → Nat → Hp → Prop, (∃ m, W 0 m (upd H1 D (.lst []))) ∧ ∀ i m H, W i m H →
      ((Itr lo n).stop i H ∧ Qd H) ∨ ((Itr lo n).go i H ∧ ∃ Nx : Hp → Prop, (∀ H', Nx H' → ∃ m', m' < m ∧ W (i + 1) m' H') ∧ ∀ x H', (Itr lo n).yld i H x H' → g x (wipe σ vs) H' fun σ2 H2 => wipe σ2 vs = wipe σ vs ∧ tt σ2 H2 fun b H3 =>
        if b = true then te σ2 H3 fun y H4 => ∃ acc, H4 D = some (.lst acc) ∧ acc.length < sizeLine ∧ Nx (upd H4 D (.lst (acc ++ [y]))) else Nx H3) :=
  lc_range (fun i H => Same H1 H ∧ H D = some (.lst ((List.range i).filterMap fs))) ⟨same_upd new, upd_same⟩ (fun i H hi p => lc_turn new (by omega) p (step i H hi p.1)) (fun H p => fin H p.1 p.2)
end
/-- the numbers below n that pass a test -/
theorem fm_filter (c : Nat → Bool) (n : Nat) : (List.range n).filterMap (fun i => if c i = true then some (V.int (i : Nat)) else none) = intsV ((List.range n).filter c) := by
  induction n with
  | zero => rfl
  | succ n ih =>
    rw [fm_succ, ih, List.range_succ, List.filter_append]
    unfold intsV
    rw [List.map_append]
    congr 1
    by_cases h : c n = true
    · rw [if_pos h]
      simp [h]
    · rw [if_neg h]
      simp [h]
theorem fm_map {α : Type} (l : List α) (f : α → V) (n : Nat) (hn : n = l.length) : (List.range n).filterMap (fun i => (l[i]?).map f) = l.map f := by
  subst hn
  have : ∀ k, k ≤ l.length → (List.range k).filterMap (fun i => (l[i]?).map f) = (l.take k).map f := by
    intro k
    induction k with
    | zero => intro _; rfl
    | succ k ih =>
      intro hk
      rw [fm_succ, ih (by omega), List.take_add_one, List.map_append]
      congr 1
      rw [List.getElem?_eq_getElem (by omega)]
      rfl
  rw [this _ (Nat.le_refl _), List.take_length]
/-- those of a list that pass a test -/
theorem fm_sel {α : Type} (l : List α) (c : α → Bool) (f : α → V) (n : Nat) (hn : n = l.length) : (List.range n).filterMap (fun i => match l[i]? with | some x => if c x = true then some (f x) else none | none => none) = (l.filter c).map f := by
  subst hn
  have : ∀ k, k ≤ l.length → (List.range k).filterMap (fun i => match l[i]? with | some x => if c x = true then some (f x) else none | none => none) = ((l.take k).filter c).map f := by
    intro k
    induction k with
    | zero => intro _; rfl
    | succ k ih =>
      intro hk
      rw [fm_succ, ih (by omega), List.take_add_one, List.filter_append, List.map_append]
      congr 1
      rw [List.getElem?_eq_getElem (by omega)]
      by_cases h : c l[k] = true
      · simp [h]
      · simp [h]
  rw [this _ (Nat.le_refl _), List.take_length]
end HF
end

section
set_option Elab.async false
set_option linter.all false
set_option autoImplicit false
set_option maxRecDepth 100000
set_option maxHeartbeats 4000000
namespace HF
open PySem PySem.Spec PyProof.Rows L2
section
variable {X : Cx}
/-- tuple(xs) of a list; the new tuple's object is told -/
def rTupF (K : PySem.W.Frag) : List V → Hp → VK → Prop := fun xs H Q => ∃ (p : Addr) (ys : List V), xs = [.ref p] ∧ SqL K H p ys ∧ ∀ (l : Addr) (ob : Obj), H l = none → ob.dict = none → Q (.ref l) (upd H l (.frz ob (.tup ys)))
theorem cr_tupF : CallR X (.type "tuple") (rTupF X.K) := by
  intro pins s σ H xs us Q I r h
  obtain ⟨p, ys, rfl, hq, q⟩ := h
  obtain ⟨u, rfl, rx⟩ := vals1 r
  cases rx
  obtain ⟨its, r', pl, hz⟩ := I.list hq
  have hlen := r'.length
  refine call_tuple_list pl.isList (fun h' kp => ?_) (by simp only [List.size_toArray] <;> omega)
  have I1 : Inv X pins σ H { s with heap := h' } := I.kept (t' := s.toks) kp
  have at_ : (h'.push { cls := .type "tuple", data := .seq its.toArray }).get? h'.objs.size = some { cls := .type "tuple", data := .seq its.toArray } := Heap.get?_push_size _ rfl
  have I2 : Inv X pins σ (upd H h'.objs.size (.frz { cls := .type "tuple", data := .seq its.toArray } (.tup ys))) { s with heap := h'.push { cls := .type "tuple", data := .seq its.toArray } } :=
    I1.laid (t' := s.toks) (fun b o e => Heap.get?_push_of_some _ e) (Nat.le_refl _) (show ObjOk X.prog X.w _ _ _ (.frz _ (.tup ys)) from ⟨at_, hz, its, r', IsTup.new _ _⟩)
  exact ⟨.ref h'.objs.size, _, I2, rfl, q _ _ (I1.hok.fresh (Nat.le_refl _)) rfl⟩
/-- t.index(e), t such a tuple -/
def tTupIx (to te : TE) : TE := fun σ H Q => to σ H fun x H1 => ∃ (b : Addr) (ob : Obj) (ys : List Int), x = .ref b ∧ H1 b = some (.frz ob (.tup (ys.map V.int))) ∧ ob.dict = none ∧ te σ H1 fun y H2 =>
  ∃ (z : Int) (j : Nat), y = .int z ∧ H2 b = some (.frz ob (.tup (ys.map V.int))) ∧ ys[j]? = some z ∧ (∀ m, m < j → ys[m]? ≠ some z) ∧ Q (.int (j : Nat)) H2
theorem pe_tupIx {o e : Expr} {to te : TE} {apos cpos : Pos} (ho : PE X o to) (he : PE X e te)
    (hbase : attributeBase o "index" X.env (eval o X.env) = eval o X.env := by rfl)
    (hfew : ((backTo cpos (starEach [e] X.env)).all (fun x => !x.1) && (backToKw cpos (keywordEach [] X.env)).all (fun x => x.1.isSome)
      && decide (([e] : List Expr).length + ([] : List Keyword).length + (if ([] : List Keyword).isEmpty then 0 else 1) < 30)) = true := by rfl)
    (hline : (apos.endLine == cpos.line) = true := by rfl) (hs : starEach [e] X.env = (false, eval e X.env) :: starEach [] X.env := by rfl) (hplain : (backTo cpos (starEach [] X.env)).any (·.1) = false := by rfl) :
    PE X (.Call (.Attribute o "index" apos) [e] [] cpos) (tTupIx to te) := by
  refine ⟨fun pins s σ H Q I h => ?_⟩
  refine wpAny_Call_method_late hbase hfew hline rfl (thn (ho.run pins s σ H _ I h) fun v s1 ⟨x, H1, I1, r1, b, ob, ys, ex, hb, hd, q1⟩ => ?_)
  subst ex
  cases r1
  obtain ⟨hg, hok⟩ := (show ObjOk X.prog X.w H1 s1.heap b (.frz ob (.tup (ys.map V.int))) from I1.hok b _ hb)
  obtain ⟨_, its, rv, o2, h2, hc, n, hdt⟩ := (show ObjOk X.prog X.w H1 s1.heap b (.tup (ys.map V.int)) from hok)
  rw [hg] at h2
  cases h2
  refine ⟨"tuple", "tuple.index", PySem.F.plainAttrs_tuple, PySem.F.slot_tuple_index, PySem.F.type_tuple_index, ⟨ob, hg, hc⟩, fun a ea => ?_, ?_⟩
  · cases ea
    exact ⟨ob, hg, hd⟩
  · have hA := (pa_cons he pa_nil (hs := hs)).run cpos pins s1 σ H1 (fun vs H2 => ∃ y, vs = [y] ∧ ∃ (z : Int) (j : Nat), y = .int z ∧ H2 b = some (.frz ob (.tup (ys.map V.int))) ∧ ys[j]? = some z ∧ (∀ m, m < j → ys[m]? ≠ some z) ∧ Q (.int (j : Nat)) H2) I1 ?_
    · rw [hs] at hA ⊢
      refine Calls.callWith_builtin (by show (false || (backTo cpos (starEach [] X.env)).any (·.1)) = false; rw [hplain] <;> rfl) (Calls.evalArgs_plain ?_)
      refine thn hA fun us s2 ⟨vs, H2, I2, r2, q2⟩ => ?_
      obtain ⟨y, rfl, z, j, rfl, hb2, hj, hno, q⟩ := q2
      exact mt_tupIx pins s2 σ H2 (.ref b) [.int z] (.ref b) us Q I2 rfl r2 ⟨b, ys, z, j, rfl, rfl, .inl (.inr ⟨ob, hb2⟩), hj, hno, q⟩
    · show te σ H1 _
      have : (fun (y : V) (H2 : Hp) => ∃ (z : Int) (j : Nat), y = .int z ∧ H2 b = some (.frz ob (.tup (ys.map V.int))) ∧ ys[j]? = some z ∧ (∀ m, m < j → ys[m]? ≠ some z) ∧ Q (.int (j : Nat)) H2) = (fun (y : V) (H2 : Hp) => ∃ y', [y] = [y'] ∧ ∃ (z : Int) (j : Nat), y' = .int z ∧ H2 b = some (.frz ob (.tup (ys.map V.int))) ∧ ys[j]? = some z ∧ (∀ m, m < j → ys[m]? ≠ some z) ∧ Q (.int (j : Nat)) H2) := by
        funext y H2
        refine propext ⟨fun h => ⟨y, rfl, h⟩, fun ⟨y', e, h⟩ => ?_⟩
        cases e
        exact h
      rw [this] at q1
      exact q1
end
/-! ### a row of an order, an order -/
def RowAt (K : PySem.W.Frag) (H : Hp) (v : V) (r : List Nat) : Prop := ∃ b, v = .ref b ∧ SqT K H b (intsV r) ∧ (r ≠ [] → ∃ ob : Obj, H b = some (.frz ob (.tup (intsV r))) ∧ ob.dict = none)
def OrdAt (K : PySem.W.Frag) (H : Hp) (v : V) (o : Ord) : Prop := ∃ a xs, v = .ref a ∧ SqT K H a xs ∧ Paired (RowAt K H) xs o
section
variable {K : PySem.W.Frag} {H H' : Hp}
theorem row_mono (e : Same H H') {v : V} {r : List Nat} (h : RowAt K H v r) : RowAt K H' v r := by
  obtain ⟨b, rfl, s, k⟩ := h
  refine ⟨b, rfl, same_sqt e s, fun hr => ?_⟩
  obtain ⟨ob, h1, h2⟩ := k hr
  exact ⟨ob, e _ _ h1, h2⟩
theorem ord_mono (e : Same H H') {v : V} {o : Ord} (h : OrdAt K H v o) : OrdAt K H' v o := by
  obtain ⟨a, xs, rfl, s, t⟩ := h
  exact ⟨a, xs, rfl, same_sqt e s, Paired.mono (fun _ _ h => row_mono e h) t⟩
theorem row_dp {v : V} {r : List Nat} (h : RowAt K H v r) : Dp K H v (tupN r) := by
  obtain ⟨b, rfl, s, _⟩ := h
  exact .tup s (dpAll_ints r)
theorem paired_dp {xs : List V} {o : Ord} (h : Paired (RowAt K H) xs o) : DpAll K H xs (o.map tupN) := by
  induction h with
  | nil => exact .nil
  | cons a _ ih => exact .cons (row_dp a) ih
theorem ord_dp {v : V} {o : Ord} (h : OrdAt K H v o) : Dp K H v (ordD o) := by
  obtain ⟨a, xs, rfl, s, t⟩ := h
  exact .tup s (paired_dp t)
theorem paired_get {α β : Type} {F : α → β → Prop} : ∀ {xs : List α} {ys : List β} {i : Nat} {y : β}, Paired F xs ys → ys[i]? = some y → ∃ x, xs[i]? = some x ∧ F x y
  | _, _, _, _, .nil, e => by simp at e
  | _, _, 0, _, .cons h _, e => by
    simp at e
    exact ⟨_, rfl, e ▸ h⟩
  | _, _, i + 1, _, .cons _ t, e => paired_get (i := i) t (by simpa using e)
theorem paired_get' {α β : Type} {F : α → β → Prop} : ∀ {xs : List α} {ys : List β} {i : Nat} {x : α}, Paired F xs ys → xs[i]? = some x → ∃ y, ys[i]? = some y ∧ F x y
  | _, _, _, _, .nil, e => by simp at e
  | _, _, 0, _, .cons h _, e => by
    simp at e
    exact ⟨_, rfl, e ▸ h⟩
  | _, _, i + 1, _, .cons _ t, e => paired_get' (i := i) t (by simpa using e)
theorem paired_app {α β : Type} {F : α → β → Prop} : ∀ {xs : List α} {ys : List β} {x : α} {y : β}, Paired F xs ys → F x y → Paired F (xs ++ [x]) (ys ++ [y])
  | _, _, _, _, .nil, h => .cons h .nil
  | _, _, _, _, .cons a t, h => .cons a (paired_app t h)
end
end HF
end

section
set_option Elab.async false
set_option linter.all false
set_option maxRecDepth 100000
set_option maxHeartbeats 4000000
namespace HF
open PySem PySem.Spec PyProof.Rows L2
section
variable {P : Program} {w : World} {K : PySem.W.Frag} {mg : Str → Option Value} {base : Heap} (T : Tx K mg)
/-! ### looks -/
def sp_is_whole (K : PySem.W.Frag) : Sp := fun vs H Q _ => (∃ i : Int, vs = [.int i] ∧ Q (.bl true) H) ∨ (∃ v : V, vs = [v] ∧ TyX K H v (.type "tuple") ∧ Q (.bl false) H)
theorem ok_is_whole : FnOk P w K mg base CX0 1 T.d_is_whole.f T.d_is_whole.fd ["thing"] (sp_is_whole K) := by
  refine T.d_is_whole.ok sc_is_whole (fun vs H Q E h => ?_) (fun cdv A outer s H vs Q E hr h => ?_)
  · obtain ⟨i, rfl, _⟩ | ⟨i, rfl, _⟩ := h <;> rfl
  · refine ⟨_, (pss_one (ps_ret (pe_and (pe_callB call_isi (by rfl) T.n_isinstance (by decide +kernel) (pa_cons (pv 0) (pa_cons (pe_bltn (v := .ty "int") (by rfl) T.n_int (by decide +kernel) rfl) pa_nil))) (pe_one (pe_not (pe_callB call_isi (by rfl) T.n_isinstance (by decide +kernel) (pa_cons (pv 0) (pa_cons (pe_bltn (v := .ty "bool") (by rfl) T.n_bool (by decide +kernel) rfl) pa_nil)))))))), ?_⟩
    obtain ⟨i, rfl, q⟩ | ⟨v, rfl, ht, q⟩ := h
    · refine ⟨_, rfl, .int i, .ty "int", .type "int", .type "int", true, rfl, .ty _, .base (.int i), kit_ty (by decide +kernel), true, rfl, iteT ?_⟩
      refine ⟨_, rfl, .int i, .ty "bool", .type "int", .type "bool", false, rfl, .ty _, .base (.int i), kit_ty (by decide +kernel), false, rfl, q⟩
    · exact ⟨_, rfl, v, .ty "int", .type "tuple", .type "int", false, rfl, .ty _, ht, kit_ty (by decide +kernel), false, rfl, iteF q⟩
/-- a list or a tuple -/
def sp_is_row (K : PySem.W.Frag) : Sp := fun vs H Q _ => ∃ v : V, vs = [v] ∧ ((∃ a xs, v = .ref a ∧ H a = some (.lst xs)) ∨ ∃ a xs, v = .ref a ∧ H a = some (.tup xs)) ∧ ∀ H', Same H H' → Q (.bl true) H'
theorem ok_is_row : FnOk P w K mg base CX0 1 T.d_is_row.f T.d_is_row.fd ["thing"] (sp_is_row K) := by
  refine T.d_is_row.ok sc_is_row (fun vs H Q E h => ?_) (fun cdv A outer s H vs Q E hr h => ?_)
  · obtain ⟨i, rfl, _⟩ := h; rfl
  · obtain ⟨v, rfl, hv, q⟩ := h
    refine ⟨_, (pss_one (ps_ret (pe_callB call_isiT (by rfl) T.n_isinstance (by decide +kernel) (pa_cons (pv 0) (pa_cons (pe_tup (pa_cons (pe_bltn (v := .ty "list") (by rfl) T.n_list (by decide +kernel) rfl) (pa_cons (pe_bltn (v := .ty "tuple") (by rfl) T.n_tuple (by decide +kernel) rfl) pa_nil))) pa_nil))))), ?_⟩
    refine ⟨_, rfl, (by show 2 ≤ sizeLine; decide), fun p np => ?_⟩
    have sm : ∀ o, Same H (upd H p o) := fun o => same_upd np
    have pr : Paired ClsV [.ty "list", .ty "tuple"] [.type "list", .type "tuple"] := .cons (.ty _) (.cons (.ty _) .nil)
    rcases hv with ⟨a, xs, rfl, ha⟩ | ⟨a, xs, rfl, ha⟩
    · exact ⟨.ref a, p, _, .type "list", _, true, rfl, upd_same, pr, .base (.lst (sm _ _ _ ha)), kitAny_cons (b := true) (kit_ty (by decide +kernel)) (fun z => nomatch z) (fun _ => rfl), q _ (sm _)⟩
    · exact ⟨.ref a, p, _, .type "tuple", _, true, rfl, upd_same, pr, .base (.tup (sm _ _ _ ha)), kitAny_cons (b := false) (kit_ty (by decide +kernel)) (fun _ => kitAny_cons (b := true) (kit_ty (by decide +kernel)) (fun z => nomatch z) (fun _ => rfl)) (fun z => nomatch z), q _ (sm _)⟩
/-! ### webs -/
theorem partner_int (e : Nat) : (e : Int) + 1 - 2 * (e : Int).fmod 2 = ((partner e : Nat) : Int) := by
  rw [show (2 : Int) = ((2 : Nat) : Int) from rfl, nfmod]
  unfold partner
  omega
def sp_partner : Sp := fun vs H Q _ => ∃ e : Nat, vs = [.int e] ∧ Q (.int (partner e : Nat)) H
theorem ok_partner : FnOk P w K mg base CX0 1 T.d_partner.f T.d_partner.fd ["end"] sp_partner := by
  refine T.d_partner.ok sc_partner (fun vs H Q E h => ?_) (fun cdv A outer s H vs Q E hr h => ?_)
  · obtain ⟨i, rfl, _⟩ := h; rfl
  · obtain ⟨e, rfl, q⟩ := h
    refine ⟨_, (pss_one (ps_ret (pe_op op_sub (pe_op op_add (pv 0) pe_int) (pe_op op_mul pe_int (pe_op op_modN (pv 0) pe_int))))), ?_⟩
    refine ⟨_, rfl, _, _, rfl, rfl, _, rfl, _, _, rfl, rfl, (by show (2 : Int) ≠ 0; decide), _, _, rfl, rfl, .inl ⟨by decide, by decide⟩, _, _, rfl, rfl, ?_⟩
    rw [← partner_int] at q
    exact q
theorem place_tie {w : Web} {e : Nat} (h : e / 2 < w.2.length) : w.2[e / 2]? = some (tieAt w (e / 2)) := by
  unfold tieAt
  rw [List.getD_eq_getElem?_getD, List.getElem?_eq_getElem h]
  rfl
theorem tieD_at (t : Nat × Nat) (j : Nat) (h : j < 2) : [PyData.int t.1, PyData.int t.2][j]? = some (.int (endOf t j : Nat)) := by
  match j, h with
  | 0, _ => rfl
  | 1, _ => rfl
def sp_place_of (K : PySem.W.Frag) : Sp := fun vs H Q _ => ∃ (v : V) (W : Web) (e : Nat), vs = [v, .int e] ∧ Dp K H v (webD W) ∧ e / 2 < W.2.length ∧ Q (.int (place W e : Nat)) H
theorem ok_place_of : FnOk P w K mg base CX0 1 T.d_place_of.f T.d_place_of.fd ["web", "end"] (sp_place_of K) := by
  refine T.d_place_of.ok sc_place_of (fun vs H Q E h => ?_) (fun cdv A outer s H vs Q E hr h => ?_)
  · obtain ⟨v, W, e, rfl, _⟩ := h; rfl
  · obtain ⟨v, W, e, rfl, hv, he, q⟩ := h
    refine ⟨_, (pss_one (ps_ret (pe_ix ix_tup (pe_ix ix_tup (pe_ix ix_tup (pv 0) pe_int (fun _ _ => rfl)) (pe_op op_fdivN (pv 1) pe_int) (fun _ _ => rfl)) (pe_op op_modN (pv 1) pe_int) (fun _ _ => rfl)))), ?_⟩
    dsimp only [tRet, tOp, tVar, tC]
    refine ⟨_, rfl, ?_⟩
    refine ixT hv (j := 1) (d := tiesD W.2) rfl rfl fun u hu => ⟨_, rfl, _, _, rfl, rfl, ⟨by decide, by decide⟩, ?_⟩
    refine ixT hu (j := e / 2) (d := tieD (tieAt W (e / 2))) (by rw [List.getElem?_map, place_tie he]; rfl) (nfdiv e 2) fun u2 hu2 => ?_
    refine ⟨_, rfl, _, _, rfl, rfl, (by show (2 : Int) ≠ 0; decide), ?_⟩
    refine ixT hu2 (j := e % 2) (tieD_at _ _ (by omega)) (nfmod e 2) fun u3 hu3 => ?_
    rw [dp_int hu3]
    exact q
def sp_ends_of (K : PySem.W.Frag) : Sp := fun vs H Q _ => ∃ (v : V) (W : Web), vs = [v] ∧ Dp K H v (webD W) ∧ Q (.int (2 * W.2.length : Nat)) H
theorem ok_ends_of : FnOk P w K mg base CX0 1 T.d_ends_of.f T.d_ends_of.fd ["web"] (sp_ends_of K) := by
  refine T.d_ends_of.ok sc_ends_of (fun vs H Q E h => ?_) (fun cdv A outer s H vs Q E hr h => ?_)
  · obtain ⟨v, W, rfl, _⟩ := h; rfl
  · obtain ⟨v, W, rfl, hv, q⟩ := h
    refine ⟨_, (pss_one (ps_ret (pe_op op_mul pe_int (pe_callB call_len_seq (by rfl) T.n_len (by decide +kernel) (pa_cons (pe_ix ix_tup (pv 0) pe_int (fun _ _ => rfl)) pa_nil))))), ?_⟩
    dsimp only [tRet, tOp, tVar, tC, tCB, tCons, tNil]
    refine ⟨_, rfl, ?_⟩
    refine ixT hv (j := 1) (d := tiesD W.2) rfl rfl fun u hu => ?_
    obtain ⟨a, xs, rfl, s, t⟩ := dp_tup hu
    refine ⟨a, xs, rfl, .inr s, _, _, rfl, rfl, .inl ⟨by decide, by decide⟩, ?_⟩
    have e : (2 : Int) * (xs.length : Nat) = ((2 * W.2.length : Nat) : Int) := by rw [dpAll_len t, List.length_map]; omega
    rw [← e] at q
    exact q
end
end HF
end

section
set_option Elab.async false
set_option linter.all false
set_option autoImplicit false
set_option maxRecDepth 100000
set_option maxHeartbeats 4000000
namespace HF
open PySem PySem.Spec PyProof.Rows L2 RZ
section
variable {K : PySem.W.Frag} {H : Hp} {Q : VK}
theorem catT {x y : V} {ds es : List PyData} (hx : Dp K H x (.tuple ds)) (hy : Dp K H y (.tuple es)) (hz : ds.length + es.length ≤ 1000) (k : ∀ p H', Same H H' → Dp K H' p (.tuple (ds ++ es)) → Q p H') : rCatA K x y H Q := by
  obtain ⟨a, xs, rfl, s1, t1⟩ := dp_tup hx
  obtain ⟨b, ys, rfl, s2, t2⟩ := dp_tup hy
  have l1 := dpAll_len t1
  have l2 := dpAll_len t2
  refine ⟨a, b, xs, ys, rfl, rfl, s1, s2, Nat.le_of_lt (small1000 (by omega)), fun e => ?_, fun _ e => ?_, fun _ _ p np => ?_⟩
  · subst e
    cases ds with
    | nil => exact k _ _ (Same.refl _) hy
    | cons _ _ => simp at l1
  · subst e
    cases es with
    | nil => exact k _ _ (Same.refl _) (by rw [List.append_nil]; exact hx)
    | cons _ _ => simp at l2
  · have sm : Same H (upd H p (.tup (xs ++ ys))) := same_upd np
    exact k _ _ sm (.tup (.inl (.inl upd_same)) (dpAll_mono sm (dpAll_app t1 t2)))
/-- the part of a list that a slice tells -/
def cut {α : Type} (xs : List α) (lo hi : Option Int) : List α := (xs.drop (HT.sIx xs.length 0 lo)).take (HT.sIx xs.length xs.length hi - HT.sIx xs.length 0 lo)
theorem slT {x : V} {ds : List PyData} {lo hi : Option Int} (hx : Dp K H x (.tuple ds)) (k : ∀ p H', Same H H' → Dp K H' p (.tuple (cut ds lo hi)) → Q p H') : rSlA K x lo hi H Q := by
  obtain ⟨a, xs, rfl, s1, t1⟩ := dp_tup hx
  have l1 := dpAll_len t1
  refine ⟨a, xs, rfl, s1, fun e => ?_, fun _ p np => ?_⟩
  · refine k _ _ (Same.refl _) ?_
    unfold cut
    rw [← l1, e.1, e.2, List.drop_zero, Nat.sub_zero, l1, List.take_length]
    exact hx
  · have sm : Same H (upd H p (.tup (cutV xs lo hi))) := same_upd np
    refine k _ _ sm (.tup (.inl (.inl upd_same)) (dpAll_mono sm ?_))
    unfold cutV cut
    rw [l1]
    exact dpAll_take _ (dpAll_drop _ t1)
theorem tyT {a : Addr} {xs : List V} (h : SqT K H a xs) : TyX K H (.ref a) (.type "tuple") := by
  rcases h with (h | ⟨o, h⟩) | ⟨o, its, n, hk, hc, _⟩
  · exact .base (.tup h)
  · exact .fTuple h
  · exact .kTuple hk hc
theorem dpT_ty {v : V} {ds : List PyData} (h : Dp K H v (.tuple ds)) : TyX K H v (.type "tuple") := by
  obtain ⟨a, xs, rfl, s, _⟩ := dp_tup h
  exact tyT s
theorem tup_ints {v : V} {ns : List Nat} (h : Dp K H v (tupN ns)) : ∃ a, v = .ref a ∧ SqT K H a (intsV ns) := by
  obtain ⟨a, xs, rfl, s, t⟩ := dp_tup h
  rw [dpAll_ints_eq t] at s
  exact ⟨a, rfl, s⟩
theorem tupN_of {a : Addr} {ns : List Nat} (s : SqT K H a (intsV ns)) : Dp K H (.ref a) (tupN ns) := .tup s (dpAll_ints ns)
theorem yesT {te : TE} {σ : L2.St} {k : VK} {n : Hp → Prop} (h : te σ H k) : tYes σ H (fun b H3 => if b = true then te σ H3 k else n H3) := by
  show (if true = true then te σ H k else n H)
  rw [if_pos rfl]
  exact h
theorem all_true (n : Nat) : (List.range n).filterMap (fun _ => some (V.bl true)) = (List.replicate n true).map V.bl := by
  induction n with
  | zero => rfl
  | succ n ih => rw [fm_succ, ih, List.replicate_succ', List.map_append]; rfl
theorem all_rep (n : Nat) : (List.replicate n true).all id = true := by
  rw [List.all_eq_true]
  intro x hx
  rw [(List.mem_replicate.mp hx).2]
  rfl
end
section
variable {P : Program} {w : World} {K : PySem.W.Frag} {mg : Str → Option Value} {base : Heap} (T : Tx K mg)
def sp_are_whole (K : PySem.W.Frag) : Sp := fun vs H Q _ => ∃ (a : Addr) (ns : List Int), vs = [.ref a] ∧ (SqL K H a (ns.map V.int) ∨ SqT K H a (ns.map V.int)) ∧ ns.length ≤ 999 ∧ ∀ H', Same H H' → Q (.bl true) H'
theorem ok_are_whole : FnOk P w K mg base CX0 2 T.d_are_whole.f T.d_are_whole.fd ["things"] (sp_are_whole K) := by
  refine T.d_are_whole.ok sc_are_whole (fun vs H Q E h => ?_) (fun cdv A outer s H vs Q E hr h => ?_)
  · obtain ⟨a, ns, rfl, _⟩ := h; rfl
  · obtain ⟨a, ns, rfl, hS, hz, q⟩ := h
    have item : ∀ {i : Nat} {x : V}, (ns.map V.int)[i]? = some x → ∃ z, x = V.int z := fun {i x} hx => by
      rw [List.getElem?_map] at hx
      cases e : ns[i]? with
      | none => rw [e] at hx; cases hx
      | some z => rw [e] at hx; exact ⟨z, (Option.some.inj hx).symm⟩
    rcases hS with hS | hS
    · refine ⟨_, (pss_one (ps_ret (pe_callB (cr_all rfl) (by rfl) T.n_all (by decide +kernel) (pa_cons (pe_lc (own := [("thing", 1)]) (g := gName 1) (by rfl) sc_are_whole.nd (pi_list (pv 0)) (blkOk_by (own := [("thing", 1)]) (N := ["things", "thing"]) (sc := defScope s_are_whole) (by decide +kernel)) (fun _ _ _ _ _ => (pg_name (i := 1) sc_are_whole.nd rfl (by first | exact Or.inl rfl | exact Or.inr rfl))) (fun _ _ _ _ _ => pts_nil) (fun _ _ _ _ _ => (pe_call (ok_is_whole T) (hr.mono (by decide)) (by rfl) T.d_is_whole.g T.d_is_whole.F.kp T.d_is_whole.b .nil pass0 (pa_cons (pv 1) pa_nil)))) pa_nil)))), ?_⟩
      refine ⟨_, rfl, a, rfl, ⟨_, hS⟩, fun D new => lcL_pure (fun _ => some (.bl true)) hS new (by rw [List.length_map]; exact hz) (fun i x H' hx sm k n hk hn => ?_) (fun H' sm hD => ?_)⟩
      · obtain ⟨z, rfl⟩ := item hx
        exact ⟨rfl, yesT ⟨_, rfl, .inl ⟨z, rfl, hk _ _ (Same.refl _) rfl⟩⟩⟩
      · rw [all_true] at hD
        refine ⟨D, _, rfl, .inl (.inl hD), ?_⟩
        rw [all_rep]
        exact q _ sm
    · refine ⟨_, (pss_one (ps_ret (pe_callB (cr_all rfl) (by rfl) T.n_all (by decide +kernel) (pa_cons (pe_lc (own := [("thing", 1)]) (g := gName 1) (by rfl) sc_are_whole.nd (pi_tup (pv 0)) (blkOk_by (own := [("thing", 1)]) (N := ["things", "thing"]) (sc := defScope s_are_whole) (by decide +kernel)) (fun _ _ _ _ _ => (pg_name (i := 1) sc_are_whole.nd rfl (by first | exact Or.inl rfl | exact Or.inr rfl))) (fun _ _ _ _ _ => pts_nil) (fun _ _ _ _ _ => (pe_call (ok_is_whole T) (hr.mono (by decide)) (by rfl) T.d_is_whole.g T.d_is_whole.F.kp T.d_is_whole.b .nil pass0 (pa_cons (pv 1) pa_nil)))) pa_nil)))), ?_⟩
      refine ⟨_, rfl, a, rfl, ⟨_, hS⟩, fun D new => lcT_pure (fun _ => some (.bl true)) hS new (by rw [List.length_map]; exact hz) (fun i x H' hx sm k n hk hn => ?_) (fun H' sm hD => ?_)⟩
      · obtain ⟨z, rfl⟩ := item hx
        exact ⟨rfl, yesT ⟨_, rfl, .inl ⟨z, rfl, hk _ _ (Same.refl _) rfl⟩⟩⟩
      · rw [all_true] at hD
        refine ⟨D, _, rfl, .inl (.inl hD), ?_⟩
        rw [all_rep]
        exact q _ sm
/-! ### a rising tuple -/
def chk (p : Int) : List Int → Bool
  | [] => true
  | x :: r => decide (p < x) && chk x r
def rises (t : List Nat) (m : Nat) : Bool := chk (-1) (t.map (fun (n : Nat) => (n : Int)) ++ [(m : Int)])
theorem chk_iff : ∀ (t : List Nat) (p : Int) (m : Nat), chk p (t.map (fun (n : Nat) => (n : Int)) ++ [(m : Int)]) = true ↔ (∀ x ∈ t, p < (x : Int)) ∧ p < m ∧ t.Pairwise (· < ·) ∧ ∀ x ∈ t, x < m
  | [], p, m => by
    show (decide (p < (m : Int)) && true) = true ↔ _
    simp
  | y :: t, p, m => by
    show (decide (p < (y : Int)) && chk y (t.map (fun (n : Nat) => (n : Int)) ++ [(m : Int)])) = true ↔ _
    rw [Bool.and_eq_true, chk_iff t y m, decide_eq_true_eq]
    constructor
    · rintro ⟨h1, h2, h3, h4, h5⟩
      refine ⟨fun x hx => ?_, by omega, List.pairwise_cons.mpr ⟨fun x hx => by have := h2 x hx; omega, h4⟩, fun x hx => ?_⟩
      · rcases List.mem_cons.mp hx with e | e
        · rw [e]; exact h1
        · have := h2 x e; omega
      · rcases List.mem_cons.mp hx with e | e
        · rw [e]; omega
        · exact h5 x e
    · rintro ⟨h1, h2, h3, h4⟩
      obtain ⟨h5, h6⟩ := List.pairwise_cons.mp h3
      exact ⟨h1 y (by simp), fun x hx => by have := h5 x hx; omega, by have := h4 y (by simp); omega, h6, fun x hx => h4 x (List.mem_cons_of_mem _ hx)⟩
theorem rises_iff (t : List Nat) (m : Nat) : rises t m = true ↔ t.Pairwise (· < ·) ∧ ∀ x ∈ t, x < m := by
  unfold rises
  rw [chk_iff]
  constructor
  · exact fun h => h.2.2
  · exact fun h => ⟨fun x _ => by omega, by omega, h⟩
/-- by places -/
theorem chk_at : ∀ (l : List Int) (p : Int), chk p l = true ↔ ∀ (i : Nat) (x y : Int), (p :: l)[i]? = some x → l[i]? = some y → x < y
  | [], p => by simp [chk]
  | z :: l, p => by
    show (decide (p < z) && chk z l) = true ↔ _
    rw [Bool.and_eq_true, decide_eq_true_eq, chk_at l z]
    constructor
    · rintro ⟨h1, h2⟩ i x y hx hy
      cases i with
      | zero =>
        simp at hx hy
        rw [← hx, ← hy]; exact h1
      | succ i => exact h2 i x y (by simpa using hx) (by simpa using hy)
    · intro h
      exact ⟨h 0 p z rfl rfl, fun i x y hx hy => h (i + 1) x y (by simpa using hx) (by simpa using hy)⟩
def sp_is_rising (K : PySem.W.Frag) : Sp := fun vs H Q _ => ∃ (v : V) (t : List Nat) (m : Nat), vs = [v, .int m] ∧ Dp K H v (tupN t) ∧ t.length ≤ 900 ∧ ∀ H', Same H H' → Q (.bl (rises t m)) H'
theorem ok_is_rising : FnOk P w K mg base CX0 3 T.d_is_rising.f T.d_is_rising.fd ["things", "most"] (sp_is_rising K) := by
  refine T.d_is_rising.ok sc_is_rising (fun vs H Q E h => ?_) (fun cdv A outer s H vs Q E hr h => ?_)
  · obtain ⟨a, ns, m, rfl, _⟩ := h; rfl
  · obtain ⟨v, t, m, rfl, hv, hz, q⟩ := h
    obtain ⟨a, rfl, hS⟩ := tup_ints hv
    refine ⟨_, (pss_cons (ps_if (PW.pt (pw_or (pt_not (pt_val (pe_callB call_isi (by rfl) T.n_isinstance (by decide +kernel) (pa_cons (pv 0) (pa_cons (pe_bltn (v := .ty "tuple") (by rfl) T.n_tuple (by decide +kernel) rfl) pa_nil))))) (pw_or1 (pt_not (pt_val (pe_call (ok_are_whole T) (hr.mono (by decide)) (by rfl) T.d_are_whole.g T.d_are_whole.F.kp T.d_are_whole.b .nil pass0 (pa_cons (pv 0) pa_nil)))))))
  (pss_one (ps_ret pe_bl)) pss_nil)
 (pss_cons (ps_for PassesOwn.never rfl (pi_zipA (by rfl) T.n_zip (pa_cons (pe_op op_catA (pe_tup (pa_cons (pe_un un_neg pe_int) pa_nil)) (pv 0)) (pa_cons (pe_op op_catA (pv 0) (pe_tup (pa_cons (pv 1) pa_nil))) pa_nil))) (pg_tup (by rfl) (pgs_cons (pg_name (i := 2) sc_is_rising.nd rfl (by first | exact Or.inl rfl | exact Or.inr rfl)) (pgs_cons (pg_name (i := 3) sc_is_rising.nd rfl (by first | exact Or.inl rfl | exact Or.inr rfl)) pgs_nil)))
  (pss_one (ps_if (pt_cmpR op_ge (pv 2) (pv 3) (nomark _))
  (pss_one (ps_ret pe_bl)) pss_nil)))
 (pss_one (ps_ret pe_bl)))), ?_⟩
    -- isinstance, are_whole
    refine ⟨_, rfl, .ref a, .ty "tuple", .type "tuple", .type "tuple", true, rfl, .ty _, tyT hS, kit_ty (by decide +kernel), true, rfl, iteF ?_⟩
    refine ⟨_, rfl, a, t.map (fun (n : Nat) => (n : Int)), rfl, .inr (by rw [← intsV_cast]; exact hS), by rw [List.length_map]; omega, fun H1 s1 => ⟨true, rfl, iteF ?_⟩⟩
    -- zip((-1,) + things, things + (most,))
    refine ⟨1, rfl, Nat.le_of_lt (small1000 (show 1 ≤ 1000 by omega)), fun p np => ⟨_, rfl, ?_⟩⟩
    have d1 : Dp K (upd H1 p (.tup [V.int (-1)])) (.ref p) (.tuple [.int (-1)]) := .tup (.inl (.inl upd_same)) (.cons (.int _) .nil)
    have s2 : Same H (upd H1 p (.tup [V.int (-1)])) := s1.trans (same_upd np)
    refine catT d1 (dp_mono s2 hv) (by show 1 + (intsD t).length ≤ 1000; unfold intsD; rw [List.length_map]; omega) fun u1 H2 s3 du1 => ?_
    refine ⟨_, rfl, _, rfl, Nat.le_of_lt (small1000 (show 1 ≤ 1000 by omega)), fun p2 np2 => ?_⟩
    have s4 : Same H2 (upd H2 p2 (.tup [V.int (m : Nat)])) := same_upd np2
    have d2 : Dp K (upd H2 p2 (.tup [V.int (m : Nat)])) (.ref p2) (.tuple [.int (m : Nat)]) := .tup (.inl (.inl upd_same)) (.cons (.int _) .nil)
    refine catT (dp_mono ((s2.trans s3).trans s4) hv) d2 (by show (intsD t).length + 1 ≤ 1000; unfold intsD; rw [List.length_map]; omega) fun u2 H3 s5 du2 => ?_
    have sH3 : Same H H3 := ((s2.trans s3).trans s4).trans s5
    have du1' := dp_mono (s4.trans s5) du1
    have ints_eq : ∀ {ns : List Int} {xs : List V}, DpAll K H3 xs (ns.map PyData.int) → xs = ns.map V.int := by
      intro ns
      induction ns with
      | nil => intro xs h; cases h; rfl
      | cons n ns ih => intro xs h; cases h with
        | cons a t => rw [dp_int a, ih t]; rfl
    have e1 : (.int (-1) :: intsD t) = ((-1 : Int) :: t.map (fun (n : Nat) => (n : Int))).map PyData.int := by unfold intsD; rw [List.map_cons, List.map_map]; rfl
    have e2 : (intsD t ++ [PyData.int (m : Nat)]) = (t.map (fun (n : Nat) => (n : Int)) ++ [(m : Int)]).map PyData.int := by unfold intsD; rw [List.map_append, List.map_map]; rfl
    have du1'' : Dp K H3 u1 (.tuple (((-1 : Int) :: t.map (fun (n : Nat) => (n : Int))).map PyData.int)) := by rw [← e1]; exact du1'
    rw [e2] at du2
    obtain ⟨b1, xs1, rfl, q1, t1⟩ := dp_tup du1''
    obtain ⟨b2, xs2, rfl, q2, t2⟩ := dp_tup du2
    rw [ints_eq t1] at q1
    rw [ints_eq t2] at q2
    generalize hX : ((-1 : Int) :: t.map (fun (n : Nat) => (n : Int))) = X at q1
    generalize hY : (t.map (fun (n : Nat) => (n : Int)) ++ [(m : Int)]) = Y at q2
    have lXY : X.length = Y.length := by rw [← hX, ← hY]; simp
    refine ⟨b1, b2, _, _, rfl, .inr ⟨q1, q2, ?_⟩⟩
    have atI' : ∀ {l : List Int} {i : Nat} {x : V}, (l.map V.int)[i]? = some x → ∃ z, l[i]? = some z ∧ x = V.int z := fun {l i x} hx => by
      rw [List.getElem?_map] at hx
      cases e : l[i]? with
      | none => rw [e] at hx; cases hx
      | some z => rw [e] at hx; exact ⟨z, rfl, (Option.some.inj hx).symm⟩
    refine for_zipT (by rw [List.length_map, List.length_map]; exact lXY) (fun i σ H' => ∃ y2 y3, σ = [some (.ref a), some (.int (m : Nat)), y2, y3] ∧ Same H3 H' ∧ ∀ j x y, j < i → X[j]? = some x → Y[j]? = some y → x < y)
      ⟨none, none, rfl, Same.refl _, fun j x y h => absurd h (Nat.not_lt_zero j)⟩ (fun i σ H' ⟨_, _, _, sm, _⟩ => ⟨same_sqt sm q1, same_sqt sm q2⟩) ?_ ?_
    · rintro i x y T' σ H' hx hy ⟨y2, y3, rfl, sm, inv⟩ nT
      obtain ⟨zx, gx, rfl⟩ := atI' hx
      obtain ⟨zy, gy, rfl⟩ := atI' hy
      have sT : Same H3 (upd H' T' (.tup [V.int zx, V.int zy])) := sm.trans (same_upd nT)
      refine ⟨T', _, rfl, .inl (.inl upd_same), rfl, _, _, rfl, _, _, rfl, rfl, ?_⟩
      refine ⟨_, rfl, _, rfl, _, _, rfl, rfl, _, rfl, ite2 (fun e => ?_) (fun e => ?_)⟩
      · have hge : zy ≤ zx := of_decide_eq_true e
        have wide : X[i]? = some zx → (-1 :: Y)[i]? = some zx := fun g => by
          rw [← hX] at g
          rw [← hY, ← List.cons_append, List.getElem?_append_left (List.getElem?_eq_some_iff.mp g).1]
          exact g
        have ef : rises t m = false := by
          cases hb : rises t m with
          | false => rfl
          | true =>
            unfold rises at hb
            rw [hY, chk_at] at hb
            have := hb i zx zy (wide gx) gy
            omega
        rw [ef] at q
        exact q _ (sH3.trans sT)
      · have hlt : zx < zy := by
          have : ¬ zy ≤ zx := fun h => e (decide_eq_true h)
          omega
        refine ⟨_, _, rfl, sT, fun j x y hj hx2 hy2 => ?_⟩
        by_cases hji : j = i
        · subst hji
          rw [gx] at hx2
          rw [gy] at hy2
          cases hx2
          cases hy2
          exact hlt
        · exact inv j x y (by omega) hx2 hy2
    · rintro σ H' ⟨y2, y3, rfl, sm, inv⟩
      have et : rises t m = true := by
        unfold rises
        rw [hY, chk_at]
        intro i x y hx hy
        have hi : i < Y.length := (List.getElem?_eq_some_iff.mp hy).1
        have hx2 : X[i]? = some x := by
          rw [← hX]
          rw [← hY, ← List.cons_append, List.getElem?_append_left (by rw [hX, lXY]; exact hi)] at hx
          exact hx
        refine inv i x y ?_ hx2 hy
        rw [List.length_map, lXY]
        exact hi
      rw [et] at q
      exact q _ (sH3.trans sm)
end
end HF
end

section
set_option Elab.async false
set_option linter.all false
set_option autoImplicit false
set_option maxRecDepth 100000
set_option maxHeartbeats 4000000
namespace HF
open PySem PySem.Spec PyProof.Rows L2
section
variable {P : Program} {w : World} {K : PySem.W.Frag} {mg : Str → Option Value} {base : Heap} (T : Tx K mg)
def endsAt (W : Web) (p : Nat) : List Nat := (List.range (2 * W.2.length)).filter fun e => decide (place W e = p)
theorem int_eq (a b : Nat) : decide (V.int (a : Nat) = V.int (b : Nat)) = decide (a = b) := by
  by_cases h : a = b
  · subst h
    rw [decide_eq_true rfl, decide_eq_true rfl]
  · rw [decide_eq_false h, decide_eq_false]
    intro e
    injection e with e
    omega
def sp_ends_at (K : PySem.W.Frag) : Sp := fun vs H Q _ => ∃ (v : V) (W : Web) (p : Nat), vs = [v, .int p] ∧ Dp K H v (webD W) ∧ W.2.length ≤ 24 ∧ ∀ H' D, Same H H' → H D = none → H' D = some (.lst (intsV (endsAt W p))) → Q (.ref D) H'
theorem ok_ends_at : FnOk P w K mg base CX0 2 T.d_ends_at.f T.d_ends_at.fd ["web", "place"] (sp_ends_at K) := by
  refine T.d_ends_at.ok sc_ends_at (fun vs H Q E h => ?_) (fun cdv A outer s H vs Q E hr h => ?_)
  · obtain ⟨v, W, p, rfl, _⟩ := h; rfl
  · obtain ⟨v, W, p, rfl, hv, h24, q⟩ := h
    refine ⟨_, (pss_one (ps_ret (pe_lc (own := [("end", 2)]) (g := gName 2) (by rfl) sc_ends_at.nd (pi_range1 (by rfl) T.n_range (pa_cons (pe_call (ok_ends_of T) (hr.mono (by decide)) (by rfl) T.d_ends_of.g T.d_ends_of.F.kp T.d_ends_of.b .nil pass0 (pa_cons (pv 0) pa_nil)) pa_nil)) (blkOk_by (own := [("end", 2)]) (N := ["web", "place", "end"]) (sc := defScope s_ends_at) (by decide +kernel)) (fun _ _ _ _ _ => (pg_name (i := 2) sc_ends_at.nd rfl (by first | exact Or.inl rfl | exact Or.inr rfl))) (fun _ _ _ _ _ => (pts_one (pt_cmpR op_eq (pe_call (ok_place_of T) (hr.mono (by decide)) (by rfl) T.d_place_of.g T.d_place_of.F.kp T.d_place_of.b .nil pass0 (pa_cons (pv 0) (pa_cons (pv 2) pa_nil))) (pv 1) (nomark _)))) (fun _ _ _ _ _ => (pv 2))))), ?_⟩
    refine ⟨_, rfl, v, W, rfl, hv, (2 * W.2.length : Nat), rfl, by omega, by omega, fun D new => ?_⟩
    refine lcR_pure (lo := 0) (n := 2 * W.2.length) (fun i => if decide (place W i = p) = true then some (.int (i : Nat)) else none) new (by omega) (fun i H' hi sm k n hk hn => ?_) (fun H' sm hD => ?_)
    · rw [Int.zero_add]
      refine ⟨rfl, ?_⟩
      refine ⟨_, rfl, _, rfl, v, W, i, rfl, dp_mono sm hv, by omega, _, rfl, rfl, _, rfl, ?_⟩
      show if (decide (V.int (place W i : Nat) = V.int (p : Nat))) = true then _ else _
      rw [int_eq]
      refine ite2 (fun e => ⟨_, rfl, hk _ _ (Same.refl _) (if_pos e)⟩) (fun e => hn _ (Same.refl _) (if_neg e))
    · rw [fm_filter] at hD
      exact q H' D sm new hD
/-! ### parts -/
theorem min_if (x y : Nat) : (if ((y : Nat) : Int) < ((x : Nat) : Int) then ((y : Nat) : Int) else ((x : Nat) : Int)) = ((min x y : Nat) : Int) := by
  by_cases h : ((y : Nat) : Int) < ((x : Nat) : Int)
  · rw [if_pos h]; omega
  · rw [if_neg h]; omega
theorem max_if (x y : Nat) : (if ((y : Nat) : Int) > ((x : Nat) : Int) then ((y : Nat) : Int) else ((x : Nat) : Int)) = ((max x y : Nat) : Int) := by
  by_cases h : ((y : Nat) : Int) > ((x : Nat) : Int)
  · rw [if_pos h]; omega
  · rw [if_neg h]; omega
/-- the labels, the first j of them told anew -/
def mid (f : Nat → Nat) (l : List Nat) (j : Nat) : List Nat := (l.take j).map f ++ l.drop j
theorem mid_zero (f : Nat → Nat) (l : List Nat) : mid f l 0 = l := rfl
theorem mid_all (f : Nat → Nat) (l : List Nat) : mid f l l.length = l.map f := by
  unfold mid
  rw [List.take_length, List.drop_length, List.append_nil]
theorem mid_len (f : Nat → Nat) (l : List Nat) (j : Nat) : (mid f l j).length = l.length := by
  unfold mid
  rw [List.length_append, List.length_map, List.length_take, List.length_drop]
  omega
theorem mid_at {f : Nat → Nat} {l : List Nat} {j x : Nat} (h : l[j]? = some x) : (mid f l j)[j]? = some x := by
  have hj := (List.getElem?_eq_some_iff.mp h).1
  unfold mid
  rw [List.getElem?_append_right (by rw [List.length_map, List.length_take]; omega), List.length_map, List.length_take, List.getElem?_drop, ← h]
  congr 1
  omega
theorem mid_succ {f : Nat → Nat} {l : List Nat} {j x : Nat} (h : l[j]? = some x) : mid f l (j + 1) = (mid f l j).set j (f x) := by
  have hj := (List.getElem?_eq_some_iff.mp h).1
  unfold mid
  have e1 : ((l.take j).map f).length = j := by rw [List.length_map, List.length_take]; omega
  rw [List.set_append_right _ _ (by rw [e1]; exact Nat.le_refl _), e1, Nat.sub_self, List.take_add_one, h, List.drop_eq_getElem_cons hj, List.set_cons_zero, List.map_append]
  simp
theorem mid_same {f : Nat → Nat} {l : List Nat} {j x : Nat} (h : l[j]? = some x) (e : f x = x) : mid f l (j + 1) = mid f l j := by
  rw [mid_succ h, e]
  have hl := mid_len f l j
  have hj := (List.getElem?_eq_some_iff.mp h).1
  have hm := mid_at (f := f) h
  obtain ⟨h1, h2⟩ := List.getElem?_eq_some_iff.mp hm
  rw [← h2, List.set_getElem_self]
theorem intsV_set (l : List Nat) (j x : Nat) : (intsV l).set j (.int x) = intsV (l.set j x) := by
  unfold intsV
  rw [List.map_set]
def relf (l : List Nat) (t : Nat × Nat) (x : Nat) : Nat := if x = max (l.getD t.1 0) (l.getD t.2 0) then min (l.getD t.1 0) (l.getD t.2 0) else x
theorem relab_eq (l : List Nat) (t : Nat × Nat) : relab l t = l.map (relf l t) := rfl
theorem getD_at {l : List Nat} {i : Nat} (h : i < l.length) : l[i]? = some (l.getD i 0) := by
  rw [List.getD_eq_getElem?_getD, List.getElem?_eq_getElem h]
  rfl
/-- what stands in the dict of parts when j places have been gone through -/
structure PInv (H H' : Hp) (P L : Addr) (lb : List Nat) (j : Nat) (kvs : List (Key × V)) (ks : List Nat) : Prop where
  at_ : H' P = some (.dK kvs)
  keys : kvs.map (·.1) = ks.map fun (n : Nat) => (Sum.inl (n : Int) : Key)
  nd : ks.Nodup
  mem : ∀ x, x ∈ ks ↔ x ∈ lb.take j
  val : ∀ kv ∈ kvs, ∃ b xs, kv.2 = .ref b ∧ H' b = some (.lst xs) ∧ xs.length ≤ j ∧ H b = none ∧ b ≠ P ∧ b ≠ L
theorem valV_key {kvs : List (Key × V)} {k : Key} : (valV kvs k = none ↔ k ∉ kvs.map (·.1)) ∧ ∀ v, valV kvs k = some v → (k, v) ∈ kvs := by
  induction kvs with
  | nil => exact ⟨by simp [valV_nil], fun v h => by simp [valV_nil] at h⟩
  | cons p r ih =>
    by_cases e : p.1 = k
    · rw [valV_pos e]
      refine ⟨by simp [e], fun v h => ?_⟩
      cases h
      rw [← e]
      exact List.mem_cons_self
    · rw [valV_neg e]
      refine ⟨?_, fun v h => List.mem_cons_of_mem _ (ih.2 v h)⟩
      rw [ih.1]
      simp [Ne.symm (a := p.1) (b := k) e, eq_comm]
theorem fm_some (f : Nat → Option V) (n : Nat) (h : ∀ i, i < n → (f i).isSome = true) : ((List.range n).filterMap f).length = n := by
  induction n with
  | zero => rfl
  | succ n ih =>
    rw [fm_succ, List.length_append, ih fun i hi => h i (by omega)]
    have := h n (by omega)
    cases e : f n with
    | none => rw [e] at this; cases this
    | some y => rfl
def sp_parts_by (K : PySem.W.Frag) : Sp := fun vs H Q _ => ∃ (n : Nat) (a : Addr) (xs : List V) (ts : List (Nat × Nat)), vs = [.int n, .ref a] ∧ (SqL K H a xs ∨ SqT K H a xs) ∧ DpAll K H xs (ts.map tieD) ∧ InR n ts ∧ n ≤ 25 ∧ ts.length ≤ 900 ∧
  ∀ H' D ys, Same H H' → H D = none → H' D = some (.lst ys) → ys.length = nparts n ts → Q (.ref D) H'
theorem rgV_nat (n : Nat) : rgV 0 (n : Int) = intsV (List.range n) := by
  unfold rgV intsV
  rw [Int.sub_zero, Int.toNat_natCast]
  refine List.map_congr_left fun i _ => ?_
  rw [Int.zero_add]
theorem ixN_nat {n j : Nat} (h : j < n) : ixN n (j : Int) = some j := by
  unfold ixN
  rw [if_pos (by omega), if_pos (by omega), Int.toNat_natCast]
/-- an item of a list of numbers -/
theorem ixLn {K : PySem.W.Frag} {H : Hp} {Q : VK} {a : Addr} {l : List Nat} {j n : Nat} {z : Int} (h : H a = some (.lst (intsV l))) (e : l[j]? = some n) (hz : z = (j : Int)) (k : Q (.int (n : Nat)) H) : rIxL K (.ref a) (.int z) H Q :=
  ⟨a, _, z, _, rfl, rfl, .inl (.inl h), at_of hz (intsV_get e), k⟩
theorem tie_vals {K : PySem.W.Frag} {H : Hp} {v : V} {t : Nat × Nat} (h : Dp K H v (tieD t)) : ∃ a, v = .ref a ∧ SqT K H a [.int (t.1 : Nat), .int (t.2 : Nat)] := by
  obtain ⟨a, ys, rfl, s, d⟩ := dp_tup h
  cases d with
  | cons h1 d =>
    cases d with
    | cons h2 d =>
      cases d
      rw [dp_int h1, dp_int h2] at s
      exact ⟨a, rfl, s⟩
theorem labels_take (n : Nat) (ts : List (Nat × Nat)) (i : Nat) (t : Nat × Nat) (h : ts[i]? = some t) : labels n (ts.take (i + 1)) = relab (labels n (ts.take i)) t := by
  rw [List.take_add_one, h]
  exact labels_snoc n _ t
end
section
variable {P : Program} {w : World} {K : PySem.W.Frag} {mg : Str → Option Value} {base : Heap} (T : Tx K mg)
/-- what the two last loops of parts_by tell -/
theorem sel_ints {f : Nat → Option V} {ys : List Int} : (List.range ys.length).filterMap (fun i => match ys[i]? with | some y => f i | none => none) = (List.range ys.length).filterMap f := by
  have : ∀ k, k ≤ ys.length → (List.range k).filterMap (fun i => match ys[i]? with | some y => f i | none => none) = (List.range k).filterMap f := by
    intro k
    induction k with
    | zero => intro _; rfl
    | succ k ih =>
      intro hk
      rw [fm_succ, fm_succ, ih (by omega), List.getElem?_eq_getElem (by omega)]
  exact this _ (Nat.le_refl _)
theorem ok_parts_by : FnOk P w K mg base CX0 1 T.d_parts_by.f T.d_parts_by.fd ["many", "ties"] (sp_parts_by K) := by
  refine T.d_parts_by.ok sc_parts_by (fun vs H Q E h => ?_) (fun cdv A outer s H vs Q E hr h => ?_)
  · obtain ⟨n, a, xs, ts, rfl, _⟩ := h; rfl
  · obtain ⟨n, a, xs, ts, rfl, hS, hD, hin, h25, hts, q⟩ := h
    have hu := hu_of hr
    -- what comes behind the loop over the ties, and one turn of it, whatever walks them
    let Pv : Addr → Nat → L2.St → Hp → Prop := fun L i σ H' => ∃ y3 y4 y5 y6 y7, σ = [some (.int (n : Nat)), some (.ref a), some (.ref L), y3, y4, y5, y6, y7, none, none] ∧ Same H H' ∧ H' L = some (.lst (intsV (labels n (ts.take i))))
    have hlen := dpAll_len hD
    rw [List.length_map] at hlen
    have lab0 : ∀ L, H L = none → Pv L 0 [some (.int (n : Nat)), some (.ref a), some (.ref L), none, none, none, none, none, none, none] (upd H L (.lst (rgV 0 (n : Int)))) := fun L nL => by
      refine ⟨none, none, none, none, none, rfl, same_upd nL, ?_⟩
      rw [upd_same, rgV_nat]
      rfl
    rcases hS with hS | hS
    · refine ⟨_, (pss_cons (ps_set (i := 2) sc_parts_by.nd rfl (by first | exact Or.inl rfl | exact Or.inr rfl) (pe_listRg (by rfl) (by rfl) T.n_list (prg_1 (by rfl) T.n_range (pv 0))))
 (pss_cons (ps_for PassesOwn.never rfl (pi_list (pv 1)) (pg_tup (by rfl) (pgs_cons (pg_name (i := 3) sc_parts_by.nd rfl (by first | exact Or.inl rfl | exact Or.inr rfl)) (pgs_cons (pg_name (i := 4) sc_parts_by.nd rfl (by first | exact Or.inl rfl | exact Or.inr rfl)) pgs_nil)))
  (pss_cons (ps_set (i := 5) sc_parts_by.nd rfl (by first | exact Or.inl rfl | exact Or.inr rfl) (pe_callB (call_min2 rfl) (by rfl) T.n_min (by decide +kernel) (pa_cons (pe_ix ix_list (pv 2) (pv 3) (fun _ _ => rfl)) (pa_cons (pe_ix ix_list (pv 2) (pv 4) (fun _ _ => rfl)) pa_nil))))
 (pss_cons (ps_set (i := 6) sc_parts_by.nd rfl (by first | exact Or.inl rfl | exact Or.inr rfl) (pe_callB (call_max2 rfl) (by rfl) T.n_max (by decide +kernel) (pa_cons (pe_ix ix_list (pv 2) (pv 3) (fun _ _ => rfl)) (pa_cons (pe_ix ix_list (pv 2) (pv 4) (fun _ _ => rfl)) pa_nil))))
 (pss_one (ps_for PassesOwn.never rfl (pi_range1 (by rfl) T.n_range (pa_cons (pv 0) pa_nil)) (pg_name (i := 7) sc_parts_by.nd rfl (by first | exact Or.inl rfl | exact Or.inr rfl))
  (pss_one (ps_if (pt_cmpR op_eq (pe_ix ix_list (pv 2) (pv 7) (fun _ _ => rfl)) (pv 6) (nomark _))
  (pss_one (ps_asg (pv 5) (pg_sub (pv 2) (pv 7) set_list))) pss_nil)))))))
 (pss_cons (ps_set (i := 8) sc_parts_by.nd rfl (by first | exact Or.inl rfl | exact Or.inr rfl) pe_dnewK)
 (pss_cons (ps_for PassesOwn.never rfl (pi_range1 (by rfl) T.n_range (pa_cons (pv 0) pa_nil)) (pg_name (i := 7) sc_parts_by.nd rfl (by first | exact Or.inl rfl | exact Or.inr rfl))
  (pss_one (ps_expr (pe_bm PySem.F.plainAttrs_list PySem.F.slot_list_append PySem.F.type_list_append mt_append (pe_dsetd (pv 8) (pe_ix ix_list (pv 2) (pv 7) (fun _ _ => rfl)) (pe_lst pa_nil) ⟨by rfl, by rfl, by rfl, by rfl⟩) (pa_cons (pv 7) pa_nil)))))
 (pss_one (ps_ret (pe_lc (own := [("first", 9)]) (g := gName 9) (by rfl) sc_parts_by.nd (pi_list (pe_callB (call_sortedDI rfl) (by rfl) T.n_sorted (by decide +kernel) (pa_cons (pv 8) pa_nil))) (blkOk_by (own := [("first", 9)]) (N := ["many", "ties", "label", "a", "b", "low", "high", "place", "parts", "first"]) (sc := defScope s_parts_by) (by decide +kernel)) (fun _ _ _ _ _ => (pg_name (i := 9) sc_parts_by.nd rfl (by first | exact Or.inl rfl | exact Or.inr rfl))) (fun _ _ _ _ _ => pts_nil) (fun _ _ _ _ _ => (pe_dget hu (pv 8) (pv 9) (fun _ _ => rfl)))))))))), ?_⟩
      refine ⟨_, rfl, (n : Nat), rfl, RgOk.of_le (by omega) (by omega) (by omega) (by omega), fun L nL => ?_⟩
      refine ⟨_, rfl, a, rfl, ⟨_, same_seq (same_upd nL) hS⟩, for_list (K := K) (a := a) (xs := xs) (Pv L) (lab0 L nL) (fun i σ H' _ ⟨_, _, _, _, _, _, sm, _⟩ => same_seq sm hS) ?turn ?fin⟩
      case turn =>
        rintro i x σ H1 hx ⟨y3, y4, y5, y6, y7, rfl, sm, hL⟩
        obtain ⟨d, hd, dx⟩ := dpAll_at hD hx
        obtain ⟨t, ht, rfl⟩ := map_get hd
        obtain ⟨ta, rfl, sT⟩ := tie_vals (dp_mono sm dx)
        have htn := hin t (List.mem_of_getElem? ht)
        generalize hl : labels n (ts.take i) = l at hL
        have ll : l.length = n := by rw [← hl, labels_len]
        have ga := getD_at (l := l) (i := t.1) (by omega)
        have gb := getD_at (l := l) (i := t.2) (by omega)
        refine ⟨ta, _, rfl, sT, rfl, _, _, rfl, _, _, rfl, rfl, ?_⟩
        -- low, high
        refine ⟨_, rfl, _, rfl, L, _, _, _, rfl, rfl, .inl (.inl hL), atI_nat (intsV_get ga), _, rfl, _, rfl, L, _, _, _, rfl, rfl, .inl (.inl hL), atI_nat (intsV_get gb), _, _, rfl, ?_⟩
        refine ⟨_, rfl, _, rfl, L, _, _, _, rfl, rfl, .inl (.inl hL), atI_nat (intsV_get ga), _, rfl, _, rfl, L, _, _, _, rfl, rfl, .inl (.inl hL), atI_nat (intsV_get gb), _, _, rfl, ?_⟩
        rw [min_if, max_if]
        generalize hlo : min (l.getD t.1 0) (l.getD t.2 0) = lo
        generalize hhi : max (l.getD t.1 0) (l.getD t.2 0) = hi
        refine ⟨_, rfl, (n : Nat), rfl, by omega, by omega, for_range (lo := 0) (n := n) (fun j σ H' => ∃ y7, σ = [some (.int (n : Nat)), some (.ref a), some (.ref L), some (.int (t.1 : Nat)), some (.int (t.2 : Nat)), some (.int (lo : Nat)), some (.int (hi : Nat)), y7, none, none] ∧ Same H H' ∧ H' L = some (.lst (intsV (mid (relf l t) l j)))) ⟨y7, rfl, sm, hL⟩ ?_ ?_⟩
        · rintro j σ H2 hj ⟨z7, rfl, sm2, hL2⟩
          have gj := getD_at (l := l) (i := j) (by omega)
          have gm := mid_at (f := relf l t) gj
          rw [Int.zero_add]
          refine ⟨_, rfl, _, rfl, L, _, _, _, rfl, rfl, .inl (.inl hL2), atI_nat (intsV_get gm), _, rfl, rfl, _, rfl, ?_⟩
          refine ite2 (fun e => ?_) (fun e => ?_)
          · have e2 : l.getD j 0 = hi := of_decide_eq_true ((int_eq _ _).symm.trans e)
            refine ⟨_, rfl, _, rfl, _, rfl, L, _, _, j, rfl, rfl, hL2, ixN_nat (by rw [intsV_len, mid_len]; omega), _, rfl, same_mut sm2 nL, ?_⟩
            rw [upd_same, intsV_set, mid_succ gj]
            have e3 : relf l t (l.getD j 0) = lo := by
              unfold relf
              rw [hhi, hlo, if_pos e2]
            rw [e3]
          · refine ⟨_, rfl, sm2, ?_⟩
            have e2 : l.getD j 0 ≠ hi := fun z => e ((int_eq _ _).trans (decide_eq_true z))
            rw [mid_same gj (by unfold relf; rw [hhi, if_neg e2])]
            exact hL2
        · rintro σ H2 ⟨z7, rfl, sm2, hL2⟩
          refine ⟨_, _, _, _, _, rfl, sm2, ?_⟩
          rw [hL2, labels_take n ts i t ht, hl, relab_eq, ← ll, mid_all]
      case fin =>
        rintro σ H1 ⟨y3, y4, y5, y6, y7, rfl, sm, hL⟩
        rw [hlen, List.take_length] at hL
        generalize hl : labels n ts = l at hL
        have ll : l.length = n := by rw [← hl, labels_len]
        -- parts = {}
        refine fun Pd nP => ?_
        have nPL : L ≠ Pd := ne_of_none hL nP
        refine ⟨_, rfl, (n : Nat), rfl, by omega, by omega, for_range (lo := 0) (n := n) (fun j σ H' => ∃ y7 kvs ks, σ = [some (.int (n : Nat)), some (.ref a), some (.ref L), y3, y4, y5, y6, y7, some (.ref Pd), none] ∧ Same H H' ∧ H' L = some (.lst (intsV l)) ∧ PInv H H' Pd L l j kvs ks)
          ⟨y7, [], [], rfl, sm.trans (same_upd nP), by rw [upd_ne nPL]; exact hL, ⟨upd_same, rfl, List.nodup_nil, fun x => by simp, fun kv h => by cases h⟩⟩ ?_ ?_⟩
        · rintro j σ H2 hj ⟨z7, kvs, ks, rfl, sm2, hL2, I⟩
          have gj := getD_at (l := l) (i := j) (by omega)
          have klen : kvs.length = ks.length := by
            have := congrArg List.length I.keys
            rw [List.length_map, List.length_map] at this
            exact this
          have kn : ks.length ≤ j := by
            have e1 := dd_len I.nd I.mem
            have e2 : (dd (l.take j)).length ≤ (l.take j).length := by
              have : ∀ m : List Nat, (dd m).length ≤ m.length := by
                intro m
                induction m with
                | nil => exact Nat.le_refl _
                | cons x m ih =>
                  unfold dd
                  split
                  · simp only [List.length_cons]; omega
                  · simp only [List.length_cons]; omega
              exact this _
            rw [List.length_take] at e2
            omega
          rw [Int.zero_add]
          refine ⟨_, rfl, Pd, rfl, .inl ⟨_, .inl I.at_⟩, _, rfl, _, rfl, L, _, _, _, rfl, rfl, .inl (.inl hL2), atI_nat (intsV_get gj), ?_⟩
          refine ⟨Nat.zero_le _, fun Z nZ => ?_⟩
          have sZ : Same H2 (upd H2 Z (.lst [])) := same_upd nZ
          have nZH : H Z = none := sm2.free nZ
          have nZP : Pd ≠ Z := ne_of_none I.at_ nZ
          have nZL : L ≠ Z := ne_of_none hL2 nZ
          refine ⟨kvs, Sum.inl (l.getD j 0 : Nat), sZ _ _ I.at_, rfl, small1000 (by omega), fun v hv => ?_, fun hv => ?_⟩
          · -- the part has begun
            have hm := valV_key.2 v hv
            obtain ⟨b, zs, rfl, hb, hz, nb, nbP, nbL⟩ := I.val _ hm
            have nbZ : b ≠ Z := ne_of_none hb nZ
            refine ⟨.inl ⟨rfl, _, .inl (.inl (sZ _ _ hb))⟩, _, rfl, b, zs, _, rfl, rfl, sZ _ _ hb, lsz (by omega), ?_⟩
            refine ⟨_, kvs, ks, rfl, same_mut (sm2.trans sZ) nb, by rw [upd_ne nbL.symm]; exact sZ _ _ hL2, ⟨by rw [upd_ne nbP.symm]; exact sZ _ _ I.at_, I.keys, I.nd, fun x => ?_, fun kv hkv => ?_⟩⟩
            · rw [I.mem, List.take_add_one, gj]
              have hin2 : l.getD j 0 ∈ l.take j := by
                rw [← I.mem]
                have hk : (Sum.inl ((l.getD j 0 : Nat) : Int) : Key) ∈ kvs.map (·.1) := List.mem_map.mpr ⟨_, hm, rfl⟩
                rw [I.keys] at hk
                obtain ⟨y, hy, e⟩ := List.mem_map.mp hk
                have e3 : (y : Int) = ((l.getD j 0 : Nat) : Int) := Sum.inl.inj e
                have e4 : y = l.getD j 0 := by omega
                rw [← e4]
                exact hy
              constructor
              · exact fun h => List.mem_append_left _ h
              · intro h
                rcases List.mem_append.mp h with h | h
                · exact h
                · have : x = l.getD j 0 := List.mem_singleton.mp h
                  rw [this]
                  exact hin2
            · obtain ⟨b2, zs2, e2, hb2, hz2, nb2, nbP2, nbL2⟩ := I.val kv hkv
              by_cases hbb : b2 = b
              · subst hbb
                exact ⟨b2, _, e2, upd_same, by rw [List.length_append, List.length_singleton]; omega, nb2, nbP2, nbL2⟩
              · exact ⟨b2, zs2, e2, by rw [upd_ne hbb]; exact sZ _ _ hb2, by omega, nb2, nbP2, nbL2⟩
          · -- a new part
            have hnk := valV_key.1.mp hv
            have hnew : l.getD j 0 ∉ ks := fun h => hnk (by rw [I.keys]; exact List.mem_map.mpr ⟨_, h, rfl⟩)
            have hZ1 : (upd (upd H2 Z (.lst [])) Pd (.dK (putK kvs (Sum.inl (l.getD j 0 : Nat)) (.ref Z)))) Z = some (.lst []) := by rw [upd_ne nZP.symm, upd_same]
            refine ⟨.inl ⟨rfl, _, .inl (.inl hZ1)⟩, _, rfl, Z, [], _, rfl, rfl, hZ1, lsz (by show 0 < 1000; omega), ?_⟩
            refine ⟨_, _, ks ++ [l.getD j 0], rfl, same_mut (same_mut (sm2.trans sZ) (sm.free nP)) nZH, by rw [upd_ne nZL, upd_ne nPL]; exact sZ _ _ hL2, ⟨by rw [upd_ne nZP, upd_same], ?_, ?_, fun x => ?_, fun kv hkv => ?_⟩⟩
            · rw [putK_new _ hv, List.map_append, I.keys, List.map_append]
              rfl
            · rw [List.nodup_append]
              exact ⟨I.nd, by simp, fun x hx y hy e => hnew (by rw [← List.mem_singleton.mp hy, ← e]; exact hx)⟩
            · rw [List.take_add_one, gj, List.mem_append, List.mem_append, I.mem]
              simp
            · rw [putK_new _ hv] at hkv
              rcases List.mem_append.mp hkv with h | h
              · obtain ⟨b2, zs2, e2, hb2, hz2, nb2, nbP2, nbL2⟩ := I.val kv h
                exact ⟨b2, zs2, e2, by rw [upd_ne (ne_of_none hb2 nZ), upd_ne nbP2]; exact sZ _ _ hb2, by omega, nb2, nbP2, nbL2⟩
              · have e : kv = (Sum.inl ((l.getD j 0 : Nat) : Int), V.ref Z) := by simpa using h
                subst e
                exact ⟨Z, _, rfl, upd_same, by simp, nZH, nZP.symm, nZL.symm⟩
        · rintro σ H2 ⟨z7, kvs, ks, rfl, sm2, hL2, I⟩
          have kn : ks.length = nparts n ts := by
            unfold nparts
            rw [hl]
            refine dd_len I.nd fun x => ?_
            rw [I.mem, ← ll, List.take_length]
          have k25 : ks.length ≤ 25 := by
            have e1 := nparts_app (n := n) (ts := []) ts hin
            have : ∀ m : List Nat, (dd m).length ≤ m.length := by
              intro m
              induction m with
              | nil => exact Nat.le_refl _
              | cons x m ih =>
                unfold dd
                split
                · simp only [List.length_cons]; omega
                · simp only [List.length_cons]; omega
            have e2 := this (labels n ts)
            rw [labels_len] at e2
            rw [kn]
            unfold nparts
            omega
          refine ⟨_, rfl, Pd, kvs, ks.map (fun (m : Nat) => (m : Int)), rfl, .inl I.at_, by rw [I.keys, List.map_map]; rfl, by rw [List.length_map]; omega, fun ys Z pm _ nZ => ?_⟩
          have sZ : Same H2 (upd H2 Z (.lst (ys.map V.int))) := same_upd nZ
          refine ⟨Z, rfl, ⟨_, .inl (.inl upd_same)⟩, fun D nD => ?_⟩
          have ylen : ys.length = ks.length := by rw [pm.length_eq, List.length_map]
          refine lcL_pure (K := K) (a := Z) (xs := ys.map V.int) (fun i => match ys[i]? with | some y => valV kvs (Sum.inl y) | none => none) (.inl (.inl upd_same)) nD (by rw [List.length_map]; omega) (fun i x H3 hx sm3 k m hk hm => ?_) (fun H3 sm3 hD3 => ?_)
          · obtain ⟨y, hy, rfl⟩ := map_get hx
            have hyk : (Sum.inl y : Key) ∈ kvs.map (·.1) := by
              rw [I.keys]
              have := pm.mem_iff.mp (List.mem_of_getElem? hy)
              obtain ⟨m, hm, e⟩ := List.mem_map.mp this
              exact List.mem_map.mpr ⟨m, hm, by rw [e]⟩
            obtain ⟨v, hv⟩ : ∃ v, valV kvs (Sum.inl y : Key) = some v := by
              cases e : valV kvs (Sum.inl y : Key) with
              | none => exact absurd hyk (valV_key.1.mp e)
              | some v => exact ⟨v, rfl⟩
            refine ⟨rfl, yesT ⟨_, rfl, _, rfl, Pd, v, rfl, ?_, hk _ _ (Same.refl _) (by rw [hy]; exact hv)⟩⟩
            have := DGet.k (k := (Sum.inl y : Key)) (sm3 _ _ (sZ _ _ I.at_))
            rw [hv] at this
            exact this
          · refine q H3 D _ ((sm2.trans sZ).trans sm3) (sm2.free (sZ.free nD)) hD3 ?_
            rw [fm_some _ _ fun i hi => ?_, List.length_map, ylen, kn]
            rw [List.length_map] at hi
            rw [List.getElem?_eq_getElem hi]
            have hyk : (Sum.inl ys[i] : Key) ∈ kvs.map (·.1) := by
              rw [I.keys]
              have := pm.mem_iff.mp (List.getElem_mem hi)
              obtain ⟨m, hm, e⟩ := List.mem_map.mp this
              exact List.mem_map.mpr ⟨m, hm, by rw [e]⟩
            show (valV kvs (Sum.inl ys[i] : Key)).isSome = true
            cases e : valV kvs (Sum.inl ys[i] : Key) with
            | none => exact absurd hyk (valV_key.1.mp e)
            | some v => rfl
    · refine ⟨_, (pss_cons (ps_set (i := 2) sc_parts_by.nd rfl (by first | exact Or.inl rfl | exact Or.inr rfl) (pe_listRg (by rfl) (by rfl) T.n_list (prg_1 (by rfl) T.n_range (pv 0))))
 (pss_cons (ps_for PassesOwn.never rfl (pi_tup (pv 1)) (pg_tup (by rfl) (pgs_cons (pg_name (i := 3) sc_parts_by.nd rfl (by first | exact Or.inl rfl | exact Or.inr rfl)) (pgs_cons (pg_name (i := 4) sc_parts_by.nd rfl (by first | exact Or.inl rfl | exact Or.inr rfl)) pgs_nil)))
  (pss_cons (ps_set (i := 5) sc_parts_by.nd rfl (by first | exact Or.inl rfl | exact Or.inr rfl) (pe_callB (call_min2 rfl) (by rfl) T.n_min (by decide +kernel) (pa_cons (pe_ix ix_list (pv 2) (pv 3) (fun _ _ => rfl)) (pa_cons (pe_ix ix_list (pv 2) (pv 4) (fun _ _ => rfl)) pa_nil))))
 (pss_cons (ps_set (i := 6) sc_parts_by.nd rfl (by first | exact Or.inl rfl | exact Or.inr rfl) (pe_callB (call_max2 rfl) (by rfl) T.n_max (by decide +kernel) (pa_cons (pe_ix ix_list (pv 2) (pv 3) (fun _ _ => rfl)) (pa_cons (pe_ix ix_list (pv 2) (pv 4) (fun _ _ => rfl)) pa_nil))))
 (pss_one (ps_for PassesOwn.never rfl (pi_range1 (by rfl) T.n_range (pa_cons (pv 0) pa_nil)) (pg_name (i := 7) sc_parts_by.nd rfl (by first | exact Or.inl rfl | exact Or.inr rfl))
  (pss_one (ps_if (pt_cmpR op_eq (pe_ix ix_list (pv 2) (pv 7) (fun _ _ => rfl)) (pv 6) (nomark _))
  (pss_one (ps_asg (pv 5) (pg_sub (pv 2) (pv 7) set_list))) pss_nil)))))))
 (pss_cons (ps_set (i := 8) sc_parts_by.nd rfl (by first | exact Or.inl rfl | exact Or.inr rfl) pe_dnewK)
 (pss_cons (ps_for PassesOwn.never rfl (pi_range1 (by rfl) T.n_range (pa_cons (pv 0) pa_nil)) (pg_name (i := 7) sc_parts_by.nd rfl (by first | exact Or.inl rfl | exact Or.inr rfl))
  (pss_one (ps_expr (pe_bm PySem.F.plainAttrs_list PySem.F.slot_list_append PySem.F.type_list_append mt_append (pe_dsetd (pv 8) (pe_ix ix_list (pv 2) (pv 7) (fun _ _ => rfl)) (pe_lst pa_nil) ⟨by rfl, by rfl, by rfl, by rfl⟩) (pa_cons (pv 7) pa_nil)))))
 (pss_one (ps_ret (pe_lc (own := [("first", 9)]) (g := gName 9) (by rfl) sc_parts_by.nd (pi_list (pe_callB (call_sortedDI rfl) (by rfl) T.n_sorted (by decide +kernel) (pa_cons (pv 8) pa_nil))) (blkOk_by (own := [("first", 9)]) (N := ["many", "ties", "label", "a", "b", "low", "high", "place", "parts", "first"]) (sc := defScope s_parts_by) (by decide +kernel)) (fun _ _ _ _ _ => (pg_name (i := 9) sc_parts_by.nd rfl (by first | exact Or.inl rfl | exact Or.inr rfl))) (fun _ _ _ _ _ => pts_nil) (fun _ _ _ _ _ => (pe_dget hu (pv 8) (pv 9) (fun _ _ => rfl)))))))))), ?_⟩
      refine ⟨_, rfl, (n : Nat), rfl, RgOk.of_le (by omega) (by omega) (by omega) (by omega), fun L nL => ?_⟩
      refine ⟨_, rfl, a, rfl, ⟨_, same_sqt (same_upd nL) hS⟩, for_tup (K := K) (a := a) (xs := xs) (Pv L) (lab0 L nL) (fun i σ H' _ ⟨_, _, _, _, _, _, sm, _⟩ => same_sqt sm hS) ?turn ?fin⟩
      case turn =>
        rintro i x σ H1 hx ⟨y3, y4, y5, y6, y7, rfl, sm, hL⟩
        obtain ⟨d, hd, dx⟩ := dpAll_at hD hx
        obtain ⟨t, ht, rfl⟩ := map_get hd
        obtain ⟨ta, rfl, sT⟩ := tie_vals (dp_mono sm dx)
        have htn := hin t (List.mem_of_getElem? ht)
        generalize hl : labels n (ts.take i) = l at hL
        have ll : l.length = n := by rw [← hl, labels_len]
        have ga := getD_at (l := l) (i := t.1) (by omega)
        have gb := getD_at (l := l) (i := t.2) (by omega)
        refine ⟨ta, _, rfl, sT, rfl, _, _, rfl, _, _, rfl, rfl, ?_⟩
        -- low, high
        refine ⟨_, rfl, _, rfl, L, _, _, _, rfl, rfl, .inl (.inl hL), atI_nat (intsV_get ga), _, rfl, _, rfl, L, _, _, _, rfl, rfl, .inl (.inl hL), atI_nat (intsV_get gb), _, _, rfl, ?_⟩
        refine ⟨_, rfl, _, rfl, L, _, _, _, rfl, rfl, .inl (.inl hL), atI_nat (intsV_get ga), _, rfl, _, rfl, L, _, _, _, rfl, rfl, .inl (.inl hL), atI_nat (intsV_get gb), _, _, rfl, ?_⟩
        rw [min_if, max_if]
        generalize hlo : min (l.getD t.1 0) (l.getD t.2 0) = lo
        generalize hhi : max (l.getD t.1 0) (l.getD t.2 0) = hi
        refine ⟨_, rfl, (n : Nat), rfl, by omega, by omega, for_range (lo := 0) (n := n) (fun j σ H' => ∃ y7, σ = [some (.int (n : Nat)), some (.ref a), some (.ref L), some (.int (t.1 : Nat)), some (.int (t.2 : Nat)), some (.int (lo : Nat)), some (.int (hi : Nat)), y7, none, none] ∧ Same H H' ∧ H' L = some (.lst (intsV (mid (relf l t) l j)))) ⟨y7, rfl, sm, hL⟩ ?_ ?_⟩
        · rintro j σ H2 hj ⟨z7, rfl, sm2, hL2⟩
          have gj := getD_at (l := l) (i := j) (by omega)
          have gm := mid_at (f := relf l t) gj
          rw [Int.zero_add]
          refine ⟨_, rfl, _, rfl, L, _, _, _, rfl, rfl, .inl (.inl hL2), atI_nat (intsV_get gm), _, rfl, rfl, _, rfl, ?_⟩
          refine ite2 (fun e => ?_) (fun e => ?_)
          · have e2 : l.getD j 0 = hi := of_decide_eq_true ((int_eq _ _).symm.trans e)
            refine ⟨_, rfl, _, rfl, _, rfl, L, _, _, j, rfl, rfl, hL2, ixN_nat (by rw [intsV_len, mid_len]; omega), _, rfl, same_mut sm2 nL, ?_⟩
            rw [upd_same, intsV_set, mid_succ gj]
            have e3 : relf l t (l.getD j 0) = lo := by
              unfold relf
              rw [hhi, hlo, if_pos e2]
            rw [e3]
          · refine ⟨_, rfl, sm2, ?_⟩
            have e2 : l.getD j 0 ≠ hi := fun z => e ((int_eq _ _).trans (decide_eq_true z))
            rw [mid_same gj (by unfold relf; rw [hhi, if_neg e2])]
            exact hL2
        · rintro σ H2 ⟨z7, rfl, sm2, hL2⟩
          refine ⟨_, _, _, _, _, rfl, sm2, ?_⟩
          rw [hL2, labels_take n ts i t ht, hl, relab_eq, ← ll, mid_all]
      case fin =>
        rintro σ H1 ⟨y3, y4, y5, y6, y7, rfl, sm, hL⟩
        rw [hlen, List.take_length] at hL
        generalize hl : labels n ts = l at hL
        have ll : l.length = n := by rw [← hl, labels_len]
        -- parts = {}
        refine fun Pd nP => ?_
        have nPL : L ≠ Pd := ne_of_none hL nP
        refine ⟨_, rfl, (n : Nat), rfl, by omega, by omega, for_range (lo := 0) (n := n) (fun j σ H' => ∃ y7 kvs ks, σ = [some (.int (n : Nat)), some (.ref a), some (.ref L), y3, y4, y5, y6, y7, some (.ref Pd), none] ∧ Same H H' ∧ H' L = some (.lst (intsV l)) ∧ PInv H H' Pd L l j kvs ks)
          ⟨y7, [], [], rfl, sm.trans (same_upd nP), by rw [upd_ne nPL]; exact hL, ⟨upd_same, rfl, List.nodup_nil, fun x => by simp, fun kv h => by cases h⟩⟩ ?_ ?_⟩
        · rintro j σ H2 hj ⟨z7, kvs, ks, rfl, sm2, hL2, I⟩
          have gj := getD_at (l := l) (i := j) (by omega)
          have klen : kvs.length = ks.length := by
            have := congrArg List.length I.keys
            rw [List.length_map, List.length_map] at this
            exact this
          have kn : ks.length ≤ j := by
            have e1 := dd_len I.nd I.mem
            have e2 : (dd (l.take j)).length ≤ (l.take j).length := by
              have : ∀ m : List Nat, (dd m).length ≤ m.length := by
                intro m
                induction m with
                | nil => exact Nat.le_refl _
                | cons x m ih =>
                  unfold dd
                  split
                  · simp only [List.length_cons]; omega
                  · simp only [List.length_cons]; omega
              exact this _
            rw [List.length_take] at e2
            omega
          rw [Int.zero_add]
          refine ⟨_, rfl, Pd, rfl, .inl ⟨_, .inl I.at_⟩, _, rfl, _, rfl, L, _, _, _, rfl, rfl, .inl (.inl hL2), atI_nat (intsV_get gj), ?_⟩
          refine ⟨Nat.zero_le _, fun Z nZ => ?_⟩
          have sZ : Same H2 (upd H2 Z (.lst [])) := same_upd nZ
          have nZH : H Z = none := sm2.free nZ
          have nZP : Pd ≠ Z := ne_of_none I.at_ nZ
          have nZL : L ≠ Z := ne_of_none hL2 nZ
          refine ⟨kvs, Sum.inl (l.getD j 0 : Nat), sZ _ _ I.at_, rfl, small1000 (by omega), fun v hv => ?_, fun hv => ?_⟩
          · -- the part has begun
            have hm := valV_key.2 v hv
            obtain ⟨b, zs, rfl, hb, hz, nb, nbP, nbL⟩ := I.val _ hm
            have nbZ : b ≠ Z := ne_of_none hb nZ
            refine ⟨.inl ⟨rfl, _, .inl (.inl (sZ _ _ hb))⟩, _, rfl, b, zs, _, rfl, rfl, sZ _ _ hb, lsz (by omega), ?_⟩
            refine ⟨_, kvs, ks, rfl, same_mut (sm2.trans sZ) nb, by rw [upd_ne nbL.symm]; exact sZ _ _ hL2, ⟨by rw [upd_ne nbP.symm]; exact sZ _ _ I.at_, I.keys, I.nd, fun x => ?_, fun kv hkv => ?_⟩⟩
            · rw [I.mem, List.take_add_one, gj]
              have hin2 : l.getD j 0 ∈ l.take j := by
                rw [← I.mem]
                have hk : (Sum.inl ((l.getD j 0 : Nat) : Int) : Key) ∈ kvs.map (·.1) := List.mem_map.mpr ⟨_, hm, rfl⟩
                rw [I.keys] at hk
                obtain ⟨y, hy, e⟩ := List.mem_map.mp hk
                have e3 : (y : Int) = ((l.getD j 0 : Nat) : Int) := Sum.inl.inj e
                have e4 : y = l.getD j 0 := by omega
                rw [← e4]
                exact hy
              constructor
              · exact fun h => List.mem_append_left _ h
              · intro h
                rcases List.mem_append.mp h with h | h
                · exact h
                · have : x = l.getD j 0 := List.mem_singleton.mp h
                  rw [this]
                  exact hin2
            · obtain ⟨b2, zs2, e2, hb2, hz2, nb2, nbP2, nbL2⟩ := I.val kv hkv
              by_cases hbb : b2 = b
              · subst hbb
                exact ⟨b2, _, e2, upd_same, by rw [List.length_append, List.length_singleton]; omega, nb2, nbP2, nbL2⟩
              · exact ⟨b2, zs2, e2, by rw [upd_ne hbb]; exact sZ _ _ hb2, by omega, nb2, nbP2, nbL2⟩
          · -- a new part
            have hnk := valV_key.1.mp hv
            have hnew : l.getD j 0 ∉ ks := fun h => hnk (by rw [I.keys]; exact List.mem_map.mpr ⟨_, h, rfl⟩)
            have hZ1 : (upd (upd H2 Z (.lst [])) Pd (.dK (putK kvs (Sum.inl (l.getD j 0 : Nat)) (.ref Z)))) Z = some (.lst []) := by rw [upd_ne nZP.symm, upd_same]
            refine ⟨.inl ⟨rfl, _, .inl (.inl hZ1)⟩, _, rfl, Z, [], _, rfl, rfl, hZ1, lsz (by show 0 < 1000; omega), ?_⟩
            refine ⟨_, _, ks ++ [l.getD j 0], rfl, same_mut (same_mut (sm2.trans sZ) (sm.free nP)) nZH, by rw [upd_ne nZL, upd_ne nPL]; exact sZ _ _ hL2, ⟨by rw [upd_ne nZP, upd_same], ?_, ?_, fun x => ?_, fun kv hkv => ?_⟩⟩
            · rw [putK_new _ hv, List.map_append, I.keys, List.map_append]
              rfl
            · rw [List.nodup_append]
              exact ⟨I.nd, by simp, fun x hx y hy e => hnew (by rw [← List.mem_singleton.mp hy, ← e]; exact hx)⟩
            · rw [List.take_add_one, gj, List.mem_append, List.mem_append, I.mem]
              simp
            · rw [putK_new _ hv] at hkv
              rcases List.mem_append.mp hkv with h | h
              · obtain ⟨b2, zs2, e2, hb2, hz2, nb2, nbP2, nbL2⟩ := I.val kv h
                exact ⟨b2, zs2, e2, by rw [upd_ne (ne_of_none hb2 nZ), upd_ne nbP2]; exact sZ _ _ hb2, by omega, nb2, nbP2, nbL2⟩
              · have e : kv = (Sum.inl ((l.getD j 0 : Nat) : Int), V.ref Z) := by simpa using h
                subst e
                exact ⟨Z, _, rfl, upd_same, by simp, nZH, nZP.symm, nZL.symm⟩
        · rintro σ H2 ⟨z7, kvs, ks, rfl, sm2, hL2, I⟩
          have kn : ks.length = nparts n ts := by
            unfold nparts
            rw [hl]
            refine dd_len I.nd fun x => ?_
            rw [I.mem, ← ll, List.take_length]
          have k25 : ks.length ≤ 25 := by
            have e1 := nparts_app (n := n) (ts := []) ts hin
            have : ∀ m : List Nat, (dd m).length ≤ m.length := by
              intro m
              induction m with
              | nil => exact Nat.le_refl _
              | cons x m ih =>
                unfold dd
                split
                · simp only [List.length_cons]; omega
                · simp only [List.length_cons]; omega
            have e2 := this (labels n ts)
            rw [labels_len] at e2
            rw [kn]
            unfold nparts
            omega
          refine ⟨_, rfl, Pd, kvs, ks.map (fun (m : Nat) => (m : Int)), rfl, .inl I.at_, by rw [I.keys, List.map_map]; rfl, by rw [List.length_map]; omega, fun ys Z pm _ nZ => ?_⟩
          have sZ : Same H2 (upd H2 Z (.lst (ys.map V.int))) := same_upd nZ
          refine ⟨Z, rfl, ⟨_, .inl (.inl upd_same)⟩, fun D nD => ?_⟩
          have ylen : ys.length = ks.length := by rw [pm.length_eq, List.length_map]
          refine lcL_pure (K := K) (a := Z) (xs := ys.map V.int) (fun i => match ys[i]? with | some y => valV kvs (Sum.inl y) | none => none) (.inl (.inl upd_same)) nD (by rw [List.length_map]; omega) (fun i x H3 hx sm3 k m hk hm => ?_) (fun H3 sm3 hD3 => ?_)
          · obtain ⟨y, hy, rfl⟩ := map_get hx
            have hyk : (Sum.inl y : Key) ∈ kvs.map (·.1) := by
              rw [I.keys]
              have := pm.mem_iff.mp (List.mem_of_getElem? hy)
              obtain ⟨m, hm, e⟩ := List.mem_map.mp this
              exact List.mem_map.mpr ⟨m, hm, by rw [e]⟩
            obtain ⟨v, hv⟩ : ∃ v, valV kvs (Sum.inl y : Key) = some v := by
              cases e : valV kvs (Sum.inl y : Key) with
              | none => exact absurd hyk (valV_key.1.mp e)
              | some v => exact ⟨v, rfl⟩
            refine ⟨rfl, yesT ⟨_, rfl, _, rfl, Pd, v, rfl, ?_, hk _ _ (Same.refl _) (by rw [hy]; exact hv)⟩⟩
            have := DGet.k (k := (Sum.inl y : Key)) (sm3 _ _ (sZ _ _ I.at_))
            rw [hv] at this
            exact this
          · refine q H3 D _ ((sm2.trans sZ).trans sm3) (sm2.free (sZ.free nD)) hD3 ?_
            rw [fm_some _ _ fun i hi => ?_, List.length_map, ylen, kn]
            rw [List.length_map] at hi
            rw [List.getElem?_eq_getElem hi]
            have hyk : (Sum.inl ys[i] : Key) ∈ kvs.map (·.1) := by
              rw [I.keys]
              have := pm.mem_iff.mp (List.getElem_mem hi)
              obtain ⟨m, hm, e⟩ := List.mem_map.mp this
              exact List.mem_map.mpr ⟨m, hm, by rw [e]⟩
            show (valV kvs (Sum.inl ys[i] : Key)).isSome = true
            cases e : valV kvs (Sum.inl ys[i] : Key) with
            | none => exact absurd hyk (valV_key.1.mp e)
            | some v => rfl
end
end HF
end

section
set_option Elab.async false
set_option linter.all false
set_option autoImplicit false
set_option maxRecDepth 100000
set_option maxHeartbeats 4000000
namespace HF
open PySem PySem.Spec PyProof.Rows L2
/-- len, the way of the fragment told -/
theorem len_seqK {X : Cx} {K : PySem.W.Frag} (h : X.K = K) : CallR X (.builtin "len") (fun xs H Q => ∃ p ys, xs = [.ref p] ∧ (SqL K H p ys ∨ SqT K H p ys) ∧ Q (.int ys.length) H) := by
  subst h
  exact call_len_seq
theorem list_ofK {X : Cx} {K : PySem.W.Frag} (h : X.K = K) : CallR X (.type "list") (fun xs H Q => ∃ p ys, xs = [.ref p] ∧ (SqL K H p ys ∨ SqT K H p ys) ∧ ∀ l, H l = none → Q (.ref l) (upd H l (.lst ys))) := by
  subst h
  exact call_list_of
theorem ix_tupK {X : Cx} {K : PySem.W.Frag} (h : X.K = K) : IxR X (rIxT K) := by
  subst h
  exact ix_tup
theorem ix_listK {X : Cx} {K : PySem.W.Frag} (h : X.K = K) : IxR X (rIxL K) := by
  subst h
  exact ix_list
theorem op_in_seqK {X : Cx} {K : PySem.W.Frag} (h : X.K = K) : OpR X (compareOp .In) (rIn K false) := by
  subst h
  exact op_in_seq
theorem op_notIn_seqK {X : Cx} {K : PySem.W.Frag} (h : X.K = K) : OpR X (compareOp .NotIn) (rIn K true) := by
  subst h
  exact op_notIn_seq
/-! ### data that can be told apart -/
def sh (k : Nat) (d : PyData) : Prop := d.canLay0 = true ∧ d.depth ≤ k
theorem sh_shaped {k : Nat} {d : PyData} (h : sh k d) (hk : k ≤ 64) : SeqAt.shaped d = true := by
  unfold SeqAt.shaped
  rw [h.1, Bool.true_and]
  exact decide_eq_true (Nat.le_trans h.2 hk)
theorem sh_all {k : Nat} : ∀ {ds : List PyData}, (∀ d ∈ ds, sh k d) → PyData.canLayAll0 ds = true ∧ PyData.depthAll ds ≤ k
  | [], _ => ⟨by rw [PyData.canLayAll0], by rw [PyData.depthAll]; exact Nat.zero_le _⟩
  | d :: ds, h => by
    obtain ⟨h1, h2⟩ := sh_all (k := k) (ds := ds) fun x hx => h x (List.mem_cons_of_mem _ hx)
    obtain ⟨h3, h4⟩ := h d List.mem_cons_self
    constructor
    · rw [PyData.canLayAll0, h1, h3]
      rfl
    · rw [PyData.depthAll]
      exact Nat.max_le.mpr ⟨h4, h2⟩
theorem sh_tup {k : Nat} {ds : List PyData} (h : ∀ d ∈ ds, sh k d) : sh (k + 1) (.tuple ds) := by
  obtain ⟨h1, h2⟩ := sh_all h
  exact ⟨by rw [PyData.canLay0]; exact h1, by rw [PyData.depth]; omega⟩
theorem sh_lst {k : Nat} {ds : List PyData} (h : ∀ d ∈ ds, sh k d) : sh (k + 1) (.list ds) := by
  obtain ⟨h1, h2⟩ := sh_all h
  exact ⟨by rw [PyData.canLay0]; exact h1, by rw [PyData.depth]; omega⟩
theorem sh_int (k : Nat) (i : Int) : sh k (.int i) := ⟨by rw [PyData.canLay0], by rw [PyData.depth] <;> simp⟩
theorem sh_non (k : Nat) : sh k .none := ⟨by rw [PyData.canLay0], by rw [PyData.depth] <;> simp⟩
theorem sh_ints (r : List Nat) : ∀ d ∈ intsD r, sh 0 d := fun d hd => by
  unfold intsD at hd
  obtain ⟨n, _, rfl⟩ := List.mem_map.mp hd
  exact sh_int 0 _
theorem sh_tupN (r : List Nat) : sh 1 (tupN r) := sh_tup (sh_ints r)
theorem sh_ord (o : Ord) : sh 2 (ordD o) := sh_tup fun d hd => by
  obtain ⟨r, _, rfl⟩ := List.mem_map.mp hd
  exact sh_tupN r
theorem sh_place : sh 0 (.str (Str.ofString "place")) := ⟨by decide +kernel, by rw [PyData.depth] <;> simp⟩
theorem sh_cor (c : Cor) : sh 1 (corD c) := by
  cases c with
  | e x => exact ⟨(sh_int 0 x).1, Nat.le_trans (sh_int 0 x).2 (Nat.zero_le _)⟩
  | p q =>
    refine sh_tup fun d hd => ?_
    rcases List.mem_cons.mp hd with rfl | hd
    · exact sh_place
    · rw [List.mem_singleton.mp hd]
      exact sh_int 0 _
theorem eqv_ints (a b : List Nat) : PyData.eqvAll (intsD a) (intsD b) = decide (a = b) := by
  have e : ∀ r : List Nat, intsD r = (r.map fun (n : Nat) => (n : Int)).map PyData.int := fun r => by unfold intsD; rw [List.map_map]; rfl
  rw [e, e, PySem.W.ked_eqvAll]
  by_cases h : a = b
  · subst h
    rw [decide_eq_true rfl, decide_eq_true rfl]
  · rw [decide_eq_false h, decide_eq_false]
    intro h2
    apply h
    exact (List.map_inj_right (fun (x y : Nat) (h : (x : Int) = (y : Int)) => by omega)).mp h2
theorem eqv_lists (a b : List Nat) : PyData.eqv (.list (intsD a)) (.list (intsD b)) = decide (a = b) := by rw [PyData.eqv, eqv_ints]
theorem eqv_tups (a b : List Nat) : PyData.eqv (tupN a) (tupN b) = decide (a = b) := by unfold tupN; rw [PyData.eqv, eqv_ints]
theorem eqv_int2 (a b : Nat) : PyData.eqv (.int (a : Nat)) (.int (b : Nat)) = decide (a = b) := by
  rw [PyData.eqv]
  by_cases h : a = b
  · subst h
    rw [beq_self_eq_true, decide_eq_true rfl]
  · rw [decide_eq_false h]
    exact beq_eq_false_iff_ne.mpr (by omega)
theorem any_ints (r : List Nat) (x : Nat) : ((intsD r).any fun z => PyData.eqv z (.int (x : Nat))) = decide (x ∈ r) := by
  unfold intsD
  rw [List.any_map]
  by_cases h : x ∈ r
  · rw [decide_eq_true h, List.any_eq_true]
    exact ⟨x, h, by show PyData.eqv (.int (x : Nat)) (.int (x : Nat)) = true; rw [eqv_int2, decide_eq_true rfl]⟩
  · rw [decide_eq_false h, List.any_eq_false]
    intro y hy e
    have e2 : PyData.eqv (.int (y : Nat)) (.int (x : Nat)) = true := e
    rw [eqv_int2] at e2
    exact h (of_decide_eq_true e2 ▸ hy)
theorem any_tup (r : List Nat) (ds : List PyData) : ((intsD r).any fun z => PyData.eqv z (.tuple ds)) = false := by
  unfold intsD
  rw [List.any_map, List.any_eq_false]
  intro y hy e
  have e2 : PyData.eqv (.int (y : Nat)) (.tuple ds) = true := e
  rw [PyData.eqv] at e2
  cases e2
/-! ### a list that grows: what it holds stands elsewhere -/
def hide (D : Addr) (H : Hp) : Hp := fun b => if b = D then none else H b
theorem hide_upd {D : Addr} {H : Hp} {o : HO} : hide D (upd H D o) = hide D H := by
  funext b
  unfold hide
  by_cases h : b = D
  · rw [if_pos h, if_pos h]
  · rw [if_neg h, if_neg h, upd_ne h]
theorem hide_same {D : Addr} {H H' : Hp} (e : Same H H') : Same (hide D H) (hide D H') := fun b x h => by
  unfold hide at h ⊢
  by_cases hb : b = D
  · rw [if_pos hb] at h
    cases h
  · rw [if_neg hb] at h ⊢
    exact e _ _ h
theorem hide_le {D : Addr} {H : Hp} : Same (hide D H) H := fun b x h => by
  unfold hide at h
  by_cases hb : b = D
  · rw [if_pos hb] at h
    cases h
  · rw [if_neg hb] at h
    exact h
theorem hide_free {D : Addr} {H H' : Hp} (e : Same H H') (n : H D = none) : Same H (hide D H') := fun b x h => by
  unfold hide
  rw [if_neg (ne_of_none h n)]
  exact e _ _ h
theorem hide_sqt {K : PySem.W.Frag} {H : Hp} {D a : Addr} {xs zs : List V} (h : SqT K H a xs) (hD : H D = some (.lst zs)) : SqT K (hide D H) a xs := by
  have ne : ∀ o : HO, H a = some o → (∀ zs, o ≠ .lst zs) → hide D H a = some o := fun o ho no => by
    unfold hide
    by_cases hb : a = D
    · subst hb
      rw [ho] at hD
      exact absurd (Option.some.inj hD) (no zs)
    · rw [if_neg hb]
      exact ho
  rcases h with (h | ⟨o, h⟩) | h
  · exact .inl (.inl (ne _ h fun zs e => nomatch e))
  · exact .inl (.inr ⟨o, ne _ h fun zs e => nomatch e⟩)
  · exact .inr h
theorem hide_row {K : PySem.W.Frag} {H : Hp} {D : Addr} {v : V} {r : List Nat} {zs : List V} (h : RowAt K H v r) (hD : H D = some (.lst zs)) : RowAt K (hide D H) v r := by
  obtain ⟨b, rfl, s, k⟩ := h
  refine ⟨b, rfl, hide_sqt s hD, fun hr => ?_⟩
  obtain ⟨ob, h1, h2⟩ := k hr
  refine ⟨ob, ?_, h2⟩
  unfold hide
  by_cases hb : b = D
  · subst hb
    rw [h1] at hD
    cases hD
  · rw [if_neg hb]
    exact h1
theorem hide_tupN {K : PySem.W.Frag} {H : Hp} {D : Addr} {v : V} {r : List Nat} {zs : List V} (h : Dp K H v (tupN r)) (hD : H D = some (.lst zs)) : Dp K (hide D H) v (tupN r) := by
  obtain ⟨a, xs, rfl, s, t⟩ := dp_tup h
  rw [dpAll_ints_eq t] at s
  exact .tup (hide_sqt s hD) (dpAll_ints r)
theorem paired_mono {K : PySem.W.Frag} {H H' : Hp} (e : Same H H') {xs : List V} {o : Ord} (h : Paired (RowAt K H) xs o) : Paired (RowAt K H') xs o := Paired.mono (fun _ _ h => row_mono e h) h
end HF
end

section
set_option Elab.async false
set_option linter.all false
set_option autoImplicit false
set_option maxRecDepth 100000
set_option maxHeartbeats 4000000
namespace HF
open PySem PySem.Spec PyProof.Rows L2
section
theorem ints_flat (r : List Nat) : (intsV r).all flatV = true := by
  rw [List.all_eq_true]
  intro x hx
  unfold intsV at hx
  obtain ⟨n, _, rfl⟩ := List.mem_map.mp hx
  rfl
theorem eqV_int (a b : Nat) : eqV (.int (a : Nat)) (.int (b : Nat)) = decide (a = b) := by
  show ((a : Int) == (b : Int)) = decide (a = b)
  by_cases h : a = b
  · subst h
    rw [beq_self_eq_true, decide_eq_true rfl]
  · rw [decide_eq_false h]
    exact beq_eq_false_iff_ne.mpr (by omega)
theorem idx_at {r : List Nat} {x : Nat} (h : x ∈ r) : r[r.idxOf x]? = some x ∧ ∀ (m z : Nat), m < r.idxOf x → r[m]? = some z → z ≠ x := by
  have hl := List.idxOf_lt_length_iff.mpr h
  refine ⟨?_, fun m z hm hz e => ?_⟩
  · rw [List.getElem?_eq_getElem hl, List.getElem_idxOf hl]
  · have h3 := List.not_of_lt_findIdx (p := (· == x)) (xs := r) hm
    obtain ⟨h1, h2⟩ := List.getElem?_eq_some_iff.mp hz
    rw [h2, e] at h3
    simp at h3
variable {K : PySem.W.Frag} {H : Hp} {Q : VK}
/-- row.index(x), a list of numbers -/
theorem ixOf {a : Addr} {r : List Nat} {x : Nat} (hs : SqL K H a (intsV r)) (h : x ∈ r) (q : Q (.int (r.idxOf x : Nat)) H) : rIndex K (.ref a) [.int (x : Nat)] H Q := by
  obtain ⟨h1, h2⟩ := idx_at h
  refine ⟨a, _, _, _, _, rfl, rfl, hs, rfl, ints_flat r, intsV_get h1, ?_, fun m z' hm hz => ?_, q⟩
  · rw [eqV_int, decide_eq_true rfl]
  · obtain ⟨n, hn, rfl⟩ := intsV_at hz
    rw [eqV_int, decide_eq_false (h2 m n hm hn)]
/-- min(row) -/
theorem minOf {a : Addr} {r : List Nat} (hs : SqL K H a (intsV r)) (h : r ≠ []) (q : Q (.int (minL r : Nat)) H) : rMin K [.ref a] H Q := by
  rw [intsV_cast] at hs
  refine ⟨a, _, rfl, hs, by rw [List.length_map]; exact List.length_pos_iff.mpr h, fun m hm hle => ?_⟩
  obtain ⟨n, hn, rfl⟩ := List.mem_map.mp hm
  have e : n = minL r := minL_unique hn fun y hy => by
    have := hle (y : Int) (List.mem_map.mpr ⟨y, hy, rfl⟩)
    omega
  rw [e]
  exact q
theorem cutV_lo (r : List Nat) (i : Nat) (h : i ≤ r.length) : cutV (intsV r) (some (i : Int)) none = intsV (r.drop i) := by
  unfold cutV intsV
  rw [List.length_map, List.map_drop]
  have e1 : HT.sIx r.length 0 (some (i : Int)) = i := by unfold HT.sIx; simp only; rw [if_neg (by omega)]; omega
  have e2 : HT.sIx r.length r.length none = r.length := by simp [HT.sIx]
  rw [e1, e2]
  exact List.take_of_length_le (by rw [List.length_drop, List.length_map]; exact Nat.le_refl _)
theorem cutV_hi (r : List Nat) (i : Nat) (h : i ≤ r.length) : cutV (intsV r) none (some (i : Int)) = intsV (r.take i) := by
  unfold cutV intsV
  rw [List.length_map, List.map_take]
  have e1 : HT.sIx r.length 0 none = 0 := by simp [HT.sIx]
  have e2 : HT.sIx r.length r.length (some (i : Int)) = i := by unfold HT.sIx; simp only; rw [if_neg (by omega)]; omega
  rw [e1, e2]
  rfl
theorem nat_zero (n : Nat) : decide (V.int (n : Nat) = V.int 0) = decide (n = 0) := int_eq n 0
/-- two sorted rows with the same items -/
theorem sorted_eq : ∀ {a b : List Int}, a.Perm b → a.Pairwise (· ≤ ·) → b.Pairwise (· ≤ ·) → a = b := fun p h1 h2 =>
  p.eq_of_pairwise (fun x y _ _ h3 h4 => Int.le_antisymm h3 h4) h1 h2
end
section
variable {P : Program} {w : World} {K : PySem.W.Frag} {mg : Str → Option Value} {base : Heap} (T : Tx K mg)
def sp_parts_of (K : PySem.W.Frag) : Sp := fun vs H Q _ => ∃ (v : V) (W : Web), vs = [v] ∧ Dp K H v (webD W) ∧ InR W.1 W.2 ∧ W.1 ≤ 25 ∧ W.2.length ≤ 24 ∧
  ∀ H' D ys, Same H H' → H D = none → H' D = some (.lst ys) → ys.length = nparts W.1 W.2 → Q (.ref D) H'
theorem ok_parts_of : FnOk P w K mg base CX0 2 T.d_parts_of.f T.d_parts_of.fd ["web"] (sp_parts_of K) := by
  refine T.d_parts_of.ok sc_parts_of (fun vs H Q E h => ?_) (fun cdv A outer s H vs Q E hr h => ?_)
  · obtain ⟨v, W, rfl, _⟩ := h; rfl
  · obtain ⟨v, W, rfl, hv, hin, h25, h24, q⟩ := h
    refine ⟨_, (pss_one (ps_ret (pe_call (ok_parts_by T) (hr.mono (by decide)) (by rfl) T.d_parts_by.g T.d_parts_by.F.kp T.d_parts_by.b .nil pass0 (pa_cons (pe_ix ix_tup (pv 0) pe_int (fun _ _ => rfl)) (pa_cons (pe_ix ix_tup (pv 0) pe_int (fun _ _ => rfl)) pa_nil))))), ?_⟩
    refine ⟨_, rfl, ?_⟩
    dsimp only [tOp, tVar, tC, tCons, tNil]
    refine ixT hv (j := 0) (d := .int W.1) rfl rfl fun u hu => ?_
    refine ⟨_, rfl, ?_⟩
    refine ixT hv (j := 1) (d := tiesD W.2) rfl rfl fun u2 hu2 => ?_
    rw [dp_int hu]
    obtain ⟨a, xs, rfl, s, t⟩ := dp_tup hu2
    exact ⟨W.1, a, xs, W.2, rfl, .inr s, t, hin, h25, by omega, q⟩
def sp_is_one_part (K : PySem.W.Frag) : Sp := fun vs H Q _ => ∃ (v : V) (W : Web), vs = [v] ∧ Dp K H v (webD W) ∧ InR W.1 W.2 ∧ W.1 ≤ 25 ∧ W.2.length ≤ 24 ∧ ∀ H', Same H H' → Q (.bl (decide (nparts W.1 W.2 = 1))) H'
theorem ok_is_one_part : FnOk P w K mg base CX0 3 T.d_is_one_part.f T.d_is_one_part.fd ["web"] (sp_is_one_part K) := by
  refine T.d_is_one_part.ok sc_is_one_part (fun vs H Q E h => ?_) (fun cdv A outer s H vs Q E hr h => ?_)
  · obtain ⟨v, W, rfl, _⟩ := h; rfl
  · obtain ⟨v, W, rfl, hv, hin, h25, h24, q⟩ := h
    refine ⟨_, (pss_one (ps_ret (pe_cmpR op_eq (pe_callB call_len_seq (by rfl) T.n_len (by decide +kernel) (pa_cons (pe_call (ok_parts_of T) (hr.mono (by decide)) (by rfl) T.d_parts_of.g T.d_parts_of.F.kp T.d_parts_of.b .nil pass0 (pa_cons (pv 0) pa_nil)) pa_nil)) pe_int (nomark _)))), ?_⟩
    refine ⟨_, rfl, v, W, rfl, hv, hin, h25, h24, fun H' D ys sm nD hD hy => ?_⟩
    refine ⟨D, ys, rfl, .inl (.inl (.inl hD)), rfl, ?_⟩
    have := q _ sm
    rw [← int_eq, ← hy] at this
    exact this
def sp_begun (K : PySem.W.Frag) : Sp := fun vs H Q _ => ∃ (a : Addr) (r : List Nat), vs = [.ref a] ∧ SqL K H a (intsV r) ∧ r.length ≤ 900 ∧ ∀ H' v, Same H H' → RowAt K H' v (begun r) → Q v H'
theorem ok_begun : FnOk P w K mg base CX0 1 T.d_begun.f T.d_begun.fd ["row"] (sp_begun K) := by
  refine T.d_begun.ok sc_begun (fun vs H Q E h => ?_) (fun cdv A outer s H vs Q E hr h => ?_)
  · obtain ⟨a, r, rfl, _⟩ := h; rfl
  · obtain ⟨a, r, rfl, hS, h9, q⟩ := h
    refine ⟨_, (pss_cons (ps_if (pt_cmpR op_eq (pe_callB call_len_seq (by rfl) T.n_len (by decide +kernel) (pa_cons (pv 0) pa_nil)) pe_int (nomark _))
  (pss_one (ps_ret (pe_tup pa_nil))) pss_nil)
 (pss_cons (ps_set (i := 0) sc_begun.nd rfl (by first | exact Or.inl rfl | exact Or.inr rfl) (pe_callTy call_list_of (by rfl) T.n_list (by decide +kernel) (pa_cons (pv 0) pa_nil)))
 (pss_cons (ps_set (i := 1) sc_begun.nd rfl (by first | exact Or.inl rfl | exact Or.inr rfl) (pe_bm PySem.F.plainAttrs_list PySem.F.slot_list_index PySem.F.type_list_index mt_index (pv 0) (pa_cons (pe_callB (cr_min rfl) (by rfl) T.n_min (by decide +kernel) (pa_cons (pv 0) pa_nil)) pa_nil)))
 (pss_one (ps_ret (pe_callTy cr_tupF (by rfl) T.n_tuple (by decide +kernel) (pa_cons (pe_op op_cat (pe_slice sl_list (pv 0) (po_some (pv 1)) po_none) (pe_slice sl_list (pv 0) po_none (po_some (pv 1)))) pa_nil))))))), ?_⟩
    refine ⟨_, rfl, a, _, rfl, .inl hS, rfl, _, rfl, ?_⟩
    rw [intsV_len, nat_zero]
    by_cases h0 : r.length = 0
    · refine ite2 (fun _ => ?_) (fun e => absurd (decide_eq_true h0) e)
      refine ⟨Nat.zero_le _, fun p np => q _ _ (same_upd np) ?_⟩
      have e : r = [] := List.length_eq_zero_iff.mp h0
      subst e
      exact ⟨p, rfl, .inl (.inl upd_same), fun h => absurd rfl h⟩
    · refine ite2 (fun e => absurd (of_decide_eq_true e) h0) (fun _ => ?_)
      have hne : r ≠ [] := fun e => h0 (by rw [e]; rfl)
      have hm := minL_mem hne
      have hi := List.idxOf_lt_length_iff.mpr hm
      refine ⟨_, rfl, a, _, rfl, .inl hS, fun l nl => ?_⟩
      have hL : SqL K (upd H l (.lst (intsV r))) l (intsV r) := .inl (.inl upd_same)
      have s1 : Same H (upd H l (.lst (intsV r))) := same_upd nl
      refine ⟨_, rfl, .inl ⟨rfl, _, hL⟩, _, rfl, ?_⟩
      dsimp only [tRet, tOp, tVar, tC, tCB, tCons, tNil]
      refine minOf hL hne ?_
      refine ixOf hL hm ?_
      refine ⟨_, rfl, _, rfl, _, rfl, l, _, rfl, hL, fun p1 n1 => ?_⟩
      have s2 : Same (upd H l (.lst (intsV r))) (upd (upd H l (.lst (intsV r))) p1 (.lst (cutV (intsV r) (some (r.idxOf (minL r) : Nat)) none))) := same_upd n1
      refine ⟨_, rfl, _, rfl, _, rfl, l, _, rfl, same_seq s2 hL, fun p2 n2 => ?_⟩
      rw [cutV_lo _ _ (Nat.le_of_lt hi)] at n2 s2 ⊢
      rw [cutV_hi _ _ (Nat.le_of_lt hi)]
      have ne12 : p1 ≠ p2 := ne_of_none upd_same n2
      refine ⟨p1, p2, _, _, rfl, rfl, by rw [upd_ne ne12]; exact upd_same, upd_same, ?_, fun p3 n3 => ?_⟩
      · rw [intsV_len, intsV_len, List.length_drop, List.length_take]
        exact Nat.le_of_lt (lsz (by omega))
      · refine ⟨p3, _, rfl, .inl (.inl upd_same), fun l4 ob n4 hd => ?_⟩
        refine q _ _ (((s1.trans s2).trans (same_upd n2)).trans ((same_upd n3).trans (same_upd n4))) ?_
        have eb : begun r = r.drop (r.idxOf (minL r)) ++ r.take (r.idxOf (minL r)) := by unfold begun; rw [if_neg hne]
        have ev : intsV (r.drop (r.idxOf (minL r))) ++ intsV (r.take (r.idxOf (minL r))) = intsV (begun r) := by rw [eb]; unfold intsV; rw [List.map_append]
        rw [ev]
        exact ⟨l4, rfl, .inl (.inr ⟨ob, upd_same⟩), fun _ => ⟨ob, upd_same, hd⟩⟩
end
end HF
end

section
set_option Elab.async false
set_option linter.all false
set_option autoImplicit false
set_option maxRecDepth 100000
set_option maxHeartbeats 4000000
namespace HF
open PySem PySem.Spec PyProof.Rows L2
section
theorem endsAt_sorted (W : Web) (p : Nat) : (endsAt W p).Pairwise (· < ·) := List.Pairwise.filter _ List.pairwise_lt_range
theorem endsAt_len (W : Web) (p : Nat) : (endsAt W p).length ≤ 2 * W.2.length := by
  have := List.length_filter_le (fun e => decide (place W e = p)) (List.range (2 * W.2.length))
  rw [List.length_range] at this
  exact this
theorem ints_pw {r : List Nat} (h : r.Pairwise (· < ·)) : (r.map fun (n : Nat) => (n : Int)).Pairwise (· ≤ ·) := by
  rw [List.pairwise_map]
  exact h.imp fun h => by omega
/-- the next of a row -/
def nxt (r : List Nat) (e : Nat) : Nat := r.getD ((r.idxOf e + 1) % r.length) 0
theorem nxt_nx {r : List Nat} {x : Nat} (h : x ∈ r) : Nx r x (nxt r x) := by
  obtain ⟨h1, _⟩ := idx_at h
  obtain ⟨a, b, e, hl⟩ := split_at h1
  refine ⟨a, b, e, ?_⟩
  have hr : r.length = a.length + b.length + 1 := by rw [e]; simp; omega
  unfold nxt
  rw [← hl]
  cases b with
  | nil =>
    have e1 : (a.length + 1) % r.length = 0 := by
      rw [hr]
      exact Nat.mod_self _
    rw [e1, List.nil_append]
    cases a with
    | nil => rw [e]; rfl
    | cons y a => rw [e]; rfl
  | cons y b =>
    have e1 : (a.length + 1) % r.length = a.length + 1 := Nat.mod_eq_of_lt (by rw [hr, List.length_cons]; omega)
    rw [e1, e, List.getD_eq_getElem?_getD, List.getElem?_append_right (by omega)]
    simp
end
section
variable {P : Program} {w : World} {K : PySem.W.Frag} {mg : Str → Option Value} {base : Heap} (T : Tx K mg)
def sp_row_of (K : PySem.W.Frag) : Sp := fun vs H Q _ => ∃ (a b : Addr) (r es : List Nat), vs = [.ref a, .ref b] ∧ H a = some (.lst (intsV r)) ∧ SqL K H b (intsV es) ∧ r.Perm es ∧ es.Pairwise (· < ·) ∧ r.length ≤ 900 ∧
  ∀ H' v, Same H H' → RowAt K H' v (begun r) → Q v H'
theorem ok_row_of : FnOk P w K mg base CX0 3 T.d_row_of.f T.d_row_of.fd ["row", "ends"] (sp_row_of K) := by
  refine T.d_row_of.ok sc_row_of (fun vs H Q E h => ?_) (fun cdv A outer s H vs Q E hr h => ?_)
  · obtain ⟨a, b, r, es, rfl, _⟩ := h; rfl
  · obtain ⟨a, b, r, es, rfl, ha, hb, pm, so, h9, q⟩ := h
    refine ⟨_, (pss_cons (ps_if (PW.pt (pw_or (pt_not (pt_val (pe_call (ok_is_row T) (hr.mono (by decide)) (by rfl) T.d_is_row.g T.d_is_row.F.kp T.d_is_row.b .nil pass0 (pa_cons (pv 0) pa_nil)))) (pw_or (pt_not (pt_val (pe_call (ok_are_whole T) (hr.mono (by decide)) (by rfl) T.d_are_whole.g T.d_are_whole.F.kp T.d_are_whole.b .nil pass0 (pa_cons (pv 0) pa_nil)))) (pw_or1 (pt_cmpR (op_neD hr.units) (pe_callB cr_sortedI (by rfl) T.n_sorted (by decide +kernel) (pa_cons (pv 0) pa_nil)) (pv 1) (nomark _))))))
  (pss_one ps_never) pss_nil)
 (pss_one (ps_ret (pe_call (ok_begun T) (hr.mono (by decide)) (by rfl) T.d_begun.g T.d_begun.F.kp T.d_begun.b .nil pass0 (pa_cons (pv 0) pa_nil))))), ?_⟩
    refine ⟨_, rfl, .ref a, rfl, .inl ⟨a, _, rfl, ha⟩, fun H1 s1 => ⟨true, rfl, iteF ?_⟩⟩
    refine ⟨_, rfl, a, r.map (fun (n : Nat) => (n : Int)), rfl, .inl (by rw [← intsV_cast]; exact .inl (.inl (s1 _ _ ha))), by rw [List.length_map]; omega, fun H2 s2 => ⟨true, rfl, iteF ?_⟩⟩
    refine ⟨_, rfl, a, r.map (fun (n : Nat) => (n : Int)), rfl, by rw [← intsV_cast]; exact .inl (.inl (s2 _ _ (s1 _ _ ha))), fun ns' p pn sn np => ⟨_, rfl, ?_⟩⟩
    have e : ns' = es.map (fun (n : Nat) => (n : Int)) := sorted_eq (pn.trans (pm.map _)) sn (ints_pw so)
    subst e
    rw [← intsV_cast]
    have s3 : Same H (upd H2 p (.lst (intsV es))) := (s1.trans s2).trans (same_upd np)
    refine ⟨.list (intsD es), .list (intsD es), .lst (.inl (.inl upd_same)) (dpAll_ints es), .lst (same_seq s3 hb) (dpAll_ints es), sh_shaped (sh_lst (sh_ints es)) (by omega), sh_shaped (sh_lst (sh_ints es)) (by omega), ?_⟩
    rw [eqv_lists, decide_eq_true rfl]
    refine ⟨false, rfl, iteF ?_⟩
    exact ⟨_, rfl, a, r, rfl, .inl (.inl (s3 _ _ ha)), h9, fun H' v s4 hv => q H' v (s3.trans s4) hv⟩
def ListAt (H : Hp) (v : V) (r : List Nat) : Prop := ∃ b, v = .ref b ∧ H b = some (.lst (intsV r))
def sp_order_of (K : PySem.W.Frag) : Sp := fun vs H Q _ => ∃ (v : V) (W : Web) (a : Addr) (xs : List V) (R : Ord), vs = [v, .ref a] ∧ Dp K H v (webD W) ∧ H a = some (.lst xs) ∧ Paired (ListAt H) xs R ∧ R.length = W.1 ∧ W.2.length ≤ 24 ∧ W.1 ≤ 25 ∧
  (∀ (p : Nat) (r : List Nat), R[p]? = some r → r.Perm (endsAt W p)) ∧ ∀ H' v, Same H H' → Dp K H' v (ordD (R.map begun)) → Q v H'
theorem ok_order_of : FnOk P w K mg base CX0 4 T.d_order_of.f T.d_order_of.fd ["web", "rows"] (sp_order_of K) := by
  refine T.d_order_of.ok sc_order_of (fun vs H Q E h => ?_) (fun cdv A outer s H vs Q E hr h => ?_)
  · obtain ⟨v, W, a, xs, R, rfl, _⟩ := h; rfl
  · obtain ⟨v, W, a, xs, R, rfl, hv, ha, hR, hl, h24, h25, hp, q⟩ := h
    refine ⟨_, (pss_cons (ps_if (PW.pt (pw_or (pt_not (pt_val (pe_call (ok_is_row T) (hr.mono (by decide)) (by rfl) T.d_is_row.g T.d_is_row.F.kp T.d_is_row.b .nil pass0 (pa_cons (pv 1) pa_nil)))) (pw_or1 (pt_cmpR op_ne (pe_callB call_len_seq (by rfl) T.n_len (by decide +kernel) (pa_cons (pv 1) pa_nil)) (pe_ix ix_tup (pv 0) pe_int (fun _ _ => rfl)) (nomark _)))))
  (pss_one ps_never) pss_nil)
 (pss_one (ps_ret (pe_tupleOf (by rfl) T.n_tuple (pe_lc (own := [("place", 2), ("row", 3)]) (g := (gTup K 2 (gCons (gName 2) (gCons (gName 3) gNil)))) (by rfl) sc_order_of.nd (pi_enum (by rfl) T.n_enumerate (pa_cons (pv 1) pa_nil)) (blkOk_by (own := [("place", 2), ("row", 3)]) (N := ["web", "rows", "place", "row"]) (sc := defScope s_order_of) (by decide +kernel)) (fun _ _ _ _ _ => (pg_tup (by rfl) (pgs_cons (pg_name (i := 2) sc_order_of.nd rfl (by first | exact Or.inl rfl | exact Or.inr rfl)) (pgs_cons (pg_name (i := 3) sc_order_of.nd rfl (by first | exact Or.inl rfl | exact Or.inr rfl)) pgs_nil)))) (fun _ _ _ _ _ => pts_nil) (fun _ _ _ _ _ => (pe_call (ok_row_of T) (hr.mono (by decide)) (by rfl) T.d_row_of.g T.d_row_of.F.kp T.d_row_of.b .nil pass0 (pa_cons (pv 3) (pa_cons (pe_call (ok_ends_at T) (hr.mono (by decide)) (by rfl) T.d_ends_at.g T.d_ends_at.F.kp T.d_ends_at.b .nil pass0 (pa_cons (pv 0) (pa_cons (pv 2) pa_nil))) pa_nil))))))))), ?_⟩
    have hlen : xs.length = W.1 := by rw [Paired.length hR, hl]
    refine ⟨_, rfl, .ref a, rfl, .inl ⟨a, _, rfl, ha⟩, fun H1 s1 => ⟨true, rfl, iteF ?_⟩⟩
    refine ⟨_, rfl, a, xs, rfl, .inl (.inl (.inl (s1 _ _ ha))), ?_⟩
    dsimp only [tRet, tOp, tVar, tC, tCB, tCons, tNil]
    refine ⟨_, rfl, ?_⟩
    refine ixT (dp_mono s1 hv) (j := 0) (d := .int W.1) rfl rfl fun u hu => ?_
    rw [dp_int hu, hlen]
    refine ⟨rfl, false, by rw [decide_eq_true rfl]; rfl, iteF ?_⟩
    refine ⟨_, rfl, a, xs, rfl, .inl (.inl (s1 _ _ ha)), fun D nD => ?_⟩
    refine lc_it (walk_enum (K := K) (a := a) (xs := xs)) (fun i H' => Same H1 H' ∧ ∃ ys, H' D = some (.lst ys) ∧ DpAll K (hide D H') ys ((R.take i).map fun r => tupN (begun r))) ⟨same_upd nD, [], upd_same, .nil⟩ (fun i H' _ p => .inl (.inl (p.1 _ _ (s1 _ _ ha)))) (fun i x H2 H3 hi p y => ?_) (fun H2 p => ?_)
    · obtain ⟨sm, ys, hD, dD⟩ := p
      obtain ⟨Tp, x1, x2, rfl, nT, rfl, e1, e2⟩ := y
      cases e1
      obtain ⟨r, hr1, b, rfl, hb⟩ := paired_get' hR e2
      have sT : Same H2 (upd H2 Tp (.tup [V.int (i : Nat), V.ref b])) := same_upd nT
      refine ⟨Tp, _, rfl, .inl (.inl upd_same), rfl, _, _, rfl, _, _, rfl, rfl, rfl, yesT ?_⟩
      refine ⟨_, rfl, _, rfl, _, rfl, v, W, i, rfl, dp_mono (s1.trans (sm.trans sT)) hv, h24, fun H4 E s4 nE hE => ?_⟩
      have sH4 : Same H H4 := (s1.trans (sm.trans sT)).trans s4
      have pr := hp i r hr1
      refine ⟨b, E, r, endsAt W i, rfl, sH4 _ _ hb, .inl (.inl hE), pr, endsAt_sorted W i, by have := endsAt_len W i; rw [pr.length_eq]; omega, fun H5 u s5 hu => ?_⟩
      have s25 : Same H2 H5 := (sT.trans s4).trans s5
      have hln := dpAll_len dD
      have hil : i < R.length := (List.getElem?_eq_some_iff.mp hr1).1
      rw [List.length_map, List.length_take] at hln
      refine ⟨ys, s25 _ _ hD, lsz (by omega), same_mut (sm.trans s25) nD, ys ++ [u], upd_same, ?_⟩
      rw [hide_upd]
      rw [List.take_add_one, hr1, List.map_append]
      exact dpAll_app (dpAll_mono (hide_same s25) dD) (.cons (hide_tupN (row_dp hu) (s25 _ _ hD)) .nil)
    · obtain ⟨sm, ys, hD, dD⟩ := p
      rw [hlen, ← hl, List.take_length] at dD
      refine .inl ⟨D, ys, rfl, .inl (.inl hD), fun z nz => ?_⟩
      have s3 : Same H2 (upd H2 z (.tup ys)) := same_upd nz
      refine q _ _ ((s1.trans sm).trans s3) (.tup (.inl (.inl upd_same)) ?_)
      rw [List.map_map]
      exact dpAll_mono (hide_le.trans s3) dD
end
end HF
end

section
set_option Elab.async false
set_option linter.all false
set_option autoImplicit false
set_option maxRecDepth 100000
set_option maxHeartbeats 4000000
namespace HF
open PySem PySem.Spec PyProof.Rows L2
section
variable {P : Program} {w : World} {K : PySem.W.Frag} {mg : Str → Option Value} {base : Heap} (T : Tx K mg)
theorem nxt_at {r : List Nat} {e : Nat} (h : e ∈ r) : r[(r.idxOf e + 1) % r.length]? = some (nxt r e) := by
  have hl : 0 < r.length := List.length_pos_of_mem h
  exact getD_at (Nat.mod_lt _ hl)
def sp_follower (K : PySem.W.Frag) : Sp := fun vs H Q _ => ∃ (v vo : V) (W : Web) (o : Ord) (e : Nat) (r : List Nat), vs = [v, vo, .int e] ∧ Dp K H v (webD W) ∧ OrdAt K H vo o ∧ e < 2 * W.2.length ∧ o[place W e]? = some r ∧ e ∈ r ∧ r.length ≤ 900 ∧ Q (.int (nxt r e : Nat)) H
theorem ok_follower : FnOk P w K mg base CX0 2 T.d_follower.f T.d_follower.fd ["web", "order", "end"] (sp_follower K) := by
  refine T.d_follower.ok sc_follower (fun vs H Q E h => ?_) (fun cdv A outer s H vs Q E hr h => ?_)
  · obtain ⟨v, vo, W, o, e, r, rfl, _⟩ := h; rfl
  · obtain ⟨v, vo, W, o, e, r, rfl, hv, ho, he, hrow, hm, h9, q⟩ := h
    refine ⟨_, (pss_cons (ps_set (i := 3) sc_follower.nd rfl (by first | exact Or.inl rfl | exact Or.inr rfl) (pe_ix ix_tup (pv 1) (pe_call (ok_place_of T) (hr.mono (by decide)) (by rfl) T.d_place_of.g T.d_place_of.F.kp T.d_place_of.b .nil pass0 (pa_cons (pv 0) (pa_cons (pv 2) pa_nil))) (fun _ _ => rfl)))
 (pss_one (ps_ret (pe_ix ix_tup (pv 3) (pe_op op_modN (pe_op op_add (pe_tupIx (pv 3) (pv 2)) pe_int) (pe_callB call_len_seq (by rfl) T.n_len (by decide +kernel) (pa_cons (pv 3) pa_nil))) (fun _ _ => rfl))))), ?_⟩
    obtain ⟨a, xs, rfl, hS, hP⟩ := ho
    obtain ⟨u, hu, b, rfl, hb, hob⟩ := paired_get hP hrow
    obtain ⟨ob, hob, hd⟩ := hob (fun z => by rw [z] at hm; cases hm)
    refine ⟨_, rfl, _, rfl, _, rfl, v, W, e, rfl, hv, by omega, ?_⟩
    refine ⟨a, xs, _, _, rfl, rfl, hS, atI_nat hu, ?_⟩
    obtain ⟨h1, h2⟩ := idx_at hm
    have cast : ∀ {m z : Nat}, r[m]? = some z → (r.map fun (n : Nat) => (n : Int))[m]? = some (z : Int) := fun {m z} h => by rw [List.getElem?_map, h]; rfl
    rw [intsV_cast] at hob
    refine ⟨_, rfl, _, rfl, b, ob, _, rfl, hob, hd, _, rfl, (e : Nat), r.idxOf e, rfl, hob, cast h1, fun m hmm hx => ?_, ?_⟩
    · rw [List.getElem?_map] at hx
      cases hz : r[m]? with
      | none => rw [hz] at hx; cases hx
      | some z =>
        rw [hz] at hx
        have : (z : Int) = (e : Int) := by simpa using hx
        exact h2 m z hmm hz (by omega)
    · dsimp only [tRet, tOp, tVar, tC, tCB, tCons, tNil]
      refine ⟨_, _, rfl, rfl, _, rfl, b, _, rfl, .inr hb, ?_⟩
      have hl : 0 < r.length := List.length_pos_of_mem hm
      refine ⟨_, _, rfl, rfl, by rw [intsV_len]; omega, ?_⟩
      refine ixTi (tupN_of hb) (nxt_at hm) ?_ q
      rw [intsV_len]
      exact nfmod (r.idxOf e + 1) r.length
/-- the step of a face -/
def onw (W : Web) (o : Ord) (e : Nat) : Nat := nxt (o.getD (place W (partner e)) []) (partner e)
theorem onw_st {W : Web} {o : Ord} (h : FloorOK W o) {e : Nat} (he : e < 2 * W.2.length) : St (pim W.2.length) o e (onw W o e) := by
  have hp := partner_lt he
  obtain ⟨row, hr, hm⟩ := h.row hp
  refine ⟨row, List.mem_of_getElem? hr, ?_⟩
  rw [pim_lt he]
  unfold onw
  rw [List.getD_eq_getElem?_getD, hr]
  exact nxt_nx hm
theorem row_len {W : Web} {o : Ord} (h : FloorOK W o) {r : List Nat} (hr : r ∈ o) : r.length ≤ 2 * W.2.length := by
  have e1 := h.flat.length_eq
  rw [List.length_range] at e1
  have e2 : r.length ≤ o.flatten.length := (List.sublist_flatten_of_mem hr).length_le
  omega
def sp_onward (K : PySem.W.Frag) : Sp := fun vs H Q _ => ∃ (v vo : V) (W : Web) (o : Ord) (e : Nat), vs = [v, vo, .int e] ∧ Dp K H v (webD W) ∧ OrdAt K H vo o ∧ FloorOK W o ∧ W.2.length ≤ 24 ∧ e < 2 * W.2.length ∧ Q (.int (onw W o e : Nat)) H
theorem ok_onward : FnOk P w K mg base CX0 3 T.d_onward.f T.d_onward.fd ["web", "order", "end"] (sp_onward K) := by
  refine T.d_onward.ok sc_onward (fun vs H Q E h => ?_) (fun cdv A outer s H vs Q E hr h => ?_)
  · obtain ⟨v, vo, W, o, e, rfl, _⟩ := h; rfl
  · obtain ⟨v, vo, W, o, e, rfl, hv, ho, hok, h24, he, q⟩ := h
    refine ⟨_, (pss_one (ps_ret (pe_call (ok_follower T) (hr.mono (by decide)) (by rfl) T.d_follower.g T.d_follower.F.kp T.d_follower.b .nil pass0 (pa_cons (pv 0) (pa_cons (pv 1) (pa_cons (pe_call (ok_partner T) (hr.mono (by decide)) (by rfl) T.d_partner.g T.d_partner.F.kp T.d_partner.b .nil pass0 (pa_cons (pv 2) pa_nil)) pa_nil)))))), ?_⟩
    have hp := partner_lt he
    obtain ⟨row, hrow, hm⟩ := hok.row hp
    have hl := row_len hok (List.mem_of_getElem? hrow)
    refine ⟨_, rfl, _, rfl, _, rfl, e, rfl, ?_⟩
    have eq : onw W o e = nxt row (partner e) := by unfold onw; rw [List.getD_eq_getElem?_getD, hrow]; rfl
    rw [eq] at q
    exact ⟨v, vo, W, o, partner e, row, rfl, hv, ho, hp, hrow, hm, by omega, q⟩
end
end HF
end

section
set_option Elab.async false
set_option linter.all false
set_option autoImplicit false
set_option maxRecDepth 100000
set_option maxHeartbeats 4000000
namespace HF
open PySem PySem.Spec PyProof.Rows L2
section
theorem ch_at {S : Nat → Nat → Prop} : ∀ {l : List Nat} {i x y : Nat}, Ch S l → l[i]? = some x → l[i + 1]? = some y → S x y
  | [], _, _, _, _, h, _ => by simp at h
  | [_], 0, _, _, _, _, h => by simp at h
  | [_], i + 1, _, _, _, h, _ => by simp at h
  | a :: b :: r, 0, x, y, h, h1, h2 => by
    simp at h1 h2
    rw [← h1, ← h2]
    exact h.1
  | a :: b :: r, i + 1, x, y, h, h1, h2 => ch_at (l := b :: r) (i := i) h.2 (by simpa using h1) (by simpa using h2)
theorem walk_next {W : Web} {o : Ord} (hok : FloorOK W o) {F : List (List Nat)} (hF : Faces W o F) {c : List Nat} (hc : c ∈ F) {e : Nat} (he : e ∈ c) :
    ∃ d : List Nat, (e :: d).Perm c ∧ (e :: d).Nodup ∧ (∀ x ∈ e :: d, x < 2 * W.2.length) ∧ ∀ (i x y : Nat), (e :: d)[i]? = some x → (d ++ [e])[i]? = some y → onw W o x = y := by
  obtain ⟨a, b, ec⟩ := List.append_of_mem he
  have hcy := hF.cyc c hc
  rw [ec] at hcy
  have h2 := cyc_rot hcy
  have pm : (e :: (b ++ a)).Perm c := by
    rw [ec]
    exact List.perm_append_comm (l₁ := e :: b) (l₂ := a)
  have sub : c.Sublist F.flatten := List.sublist_flatten_of_mem hc
  have nd : (e :: (b ++ a)).Nodup := pm.nodup_iff.mpr (sub.nodup hF.fnd)
  have lt : ∀ x ∈ e :: (b ++ a), x < 2 * W.2.length := fun x hx => by
    have h3 : x ∈ F.flatten := sub.mem (pm.mem_iff.mp hx)
    exact List.mem_range.mp (hF.fp.mem_iff.mp h3)
  refine ⟨b ++ a, pm, nd, lt, fun i x y hx hy => ?_⟩
  have h4 : Ch (St (pim W.2.length) o) ((e :: (b ++ a)) ++ [e]) := h2
  have hi := (List.getElem?_eq_some_iff.mp hx).1
  have s1 := ch_at h4 (i := i) (x := x) (y := y) (by rw [List.getElem?_append_left hi]; exact hx) (by
    rw [List.cons_append, List.getElem?_cons_succ]
    exact hy)
  exact (sg_fun hF.rnd (onw_st hok (lt x (List.mem_of_getElem? hx))) s1)
end
section
variable {P : Program} {w : World} {K : PySem.W.Frag} {mg : Str → Option Value} {base : Heap} (T : Tx K mg)
theorem rot_perm (t : List Nat) (i : Nat) : (t.drop i ++ t.take i).Perm t := by
  have h : (t.drop i ++ t.take i).Perm (t.take i ++ t.drop i) := List.perm_append_comm
  rw [List.take_append_drop] at h
  exact h
def sp_face_of (K : PySem.W.Frag) : Sp := fun vs H Q _ => ∃ (v vo : V) (W : Web) (o : Ord) (e : Nat) (F : List (List Nat)) (c : List Nat), vs = [v, vo, .int e] ∧ Dp K H v (webD W) ∧ OrdAt K H vo o ∧ FloorOK W o ∧ W.2.length ≤ 24 ∧ Faces W o F ∧ c ∈ F ∧ e ∈ c ∧
  ∀ H' v t, Same H H' → Dp K H' v (tupN t) → t.Perm c → Q v H'
theorem ok_face_of : FnOk P w K mg base CX0 4 T.d_face_of.f T.d_face_of.fd ["web", "order", "end"] (sp_face_of K) := by
  refine T.d_face_of.ok sc_face_of (fun vs H Q E h => ?_) (fun cdv A outer s H vs Q E hr h => ?_)
  · obtain ⟨v, vo, W, o, e, F, c, rfl, _⟩ := h; rfl
  · obtain ⟨v, vo, W, o, e, F, c, rfl, hv, ho, hok, h24, hF, hc, hec, q⟩ := h
    refine ⟨_, (pss_cons (ps_set (i := 3) sc_face_of.nd rfl (by first | exact Or.inl rfl | exact Or.inr rfl) (pe_lst (pa_cons (pv 2) pa_nil)))
 (pss_cons (ps_set (i := 4) sc_face_of.nd rfl (by first | exact Or.inl rfl | exact Or.inr rfl) (pe_call (ok_onward T) (hr.mono (by decide)) (by rfl) T.d_onward.g T.d_onward.F.kp T.d_onward.b .nil pass0 (pa_cons (pv 0) (pa_cons (pv 1) (pa_cons (pv 2) pa_nil)))))
 (pss_cons (ps_while PassesOwn.never (pt_cmpR op_ne (pv 4) (pv 2) (nomark _))
  (pss_cons (ps_expr (pe_bm PySem.F.plainAttrs_list PySem.F.slot_list_append PySem.F.type_list_append mt_append (pv 3) (pa_cons (pv 4) pa_nil)))
 (pss_one (ps_set (i := 4) sc_face_of.nd rfl (by first | exact Or.inl rfl | exact Or.inr rfl) (pe_call (ok_onward T) (hr.mono (by decide)) (by rfl) T.d_onward.g T.d_onward.F.kp T.d_onward.b .nil pass0 (pa_cons (pv 0) (pa_cons (pv 1) (pa_cons (pv 4) pa_nil))))))))
 (pss_cons (ps_set (i := 5) sc_face_of.nd rfl (by first | exact Or.inl rfl | exact Or.inr rfl) (pe_bm PySem.F.plainAttrs_list PySem.F.slot_list_index PySem.F.type_list_index mt_index (pv 3) (pa_cons (pe_callB (cr_min rfl) (by rfl) T.n_min (by decide +kernel) (pa_cons (pv 3) pa_nil)) pa_nil)))
 (pss_one (ps_ret (pe_callTy cr_tupF (by rfl) T.n_tuple (by decide +kernel) (pa_cons (pe_op op_cat (pe_slice sl_list (pv 3) (po_some (pv 5)) po_none) (pe_slice sl_list (pv 3) po_none (po_some (pv 5)))) pa_nil)))))))), ?_⟩
    obtain ⟨d, pm, nd, lt, nx⟩ := walk_next hok hF hc hec
    have dlen : (e :: d).length ≤ 48 := by
      have h1 : (e :: d).length ≤ F.flatten.length := by rw [pm.length_eq]; exact (List.sublist_flatten_of_mem hc).length_le
      have h2 := hF.fp.length_eq
      rw [List.length_range] at h2
      omega
    have he : e < 2 * W.2.length := lt e List.mem_cons_self
    obtain ⟨g0, hg0⟩ : ∃ g, (d ++ [e])[0]? = some g := by
      cases d with
      | nil => exact ⟨e, rfl⟩
      | cons y d => exact ⟨y, rfl⟩
    refine ⟨_, rfl, by show 1 ≤ sizeLine; decide, fun L nL => ?_⟩
    have sL : Same H (upd H L (.lst (intsV [e]))) := same_upd nL
    refine ⟨_, rfl, _, rfl, _, rfl, v, vo, W, o, e, rfl, dp_mono sL hv, ord_mono sL ho, hok, h24, he, ?_⟩
    rw [nx 0 e g0 rfl hg0]
    refine while_by (fun σ H' => ∃ j g, σ = [some v, some vo, some (.int e), some (.ref L), some (.int (g : Nat)), none] ∧ Same H H' ∧ H' L = some (.lst (intsV ((e :: d).take (j + 1)))) ∧ j ≤ d.length ∧ (d ++ [e])[j]? = some g)
      (fun σ H' => match H' L with | some (.lst xs) => 100 - xs.length | _ => 0) ⟨0, g0, rfl, sL, upd_same, Nat.zero_le _, hg0⟩ ?_ ?_
    · rintro σ H2 ⟨j, g, rfl, sm, hL, hj, hg⟩
      refine ⟨_, rfl, _, rfl, rfl, _, rfl, ?_⟩
      by_cases hjd : j < d.length
      · have hgd : d[j]? = some g := by
          rw [List.getElem?_append_left hjd] at hg
          exact hg
        have hge : g ≠ e := fun z => by
          rw [z] at hgd
          exact (List.nodup_cons.mp nd).1 (List.mem_of_getElem? hgd)
        have e1 : (!decide (V.int (g : Nat) = V.int (e : Nat))) = true := by rw [int_eq, decide_eq_false hge]; rfl
        rw [e1]
        have tl : ((e :: d).take (j + 1)).length = j + 1 := by rw [List.length_take, List.length_cons]; omega
        refine ⟨_, rfl, .inl ⟨rfl, _, .inl (.inl hL)⟩, _, rfl, L, _, _, rfl, rfl, hL, lsz (by rw [intsV_len, tl]; rw [List.length_cons] at dlen; omega), ?_⟩
        have hcd : (e :: d)[j + 1]? = some g := by rw [List.getElem?_cons_succ]; exact hgd
        have ev : intsV ((e :: d).take (j + 1)) ++ [V.int (g : Nat)] = intsV ((e :: d).take (j + 1 + 1)) := by
          rw [List.take_add_one (i := j + 1), hcd]
          unfold intsV
          rw [List.map_append]
          rfl
        rw [ev]
        obtain ⟨g2, hg2⟩ : ∃ g, (d ++ [e])[j + 1]? = some g := ⟨_, List.getElem?_eq_getElem (by rw [List.length_append, List.length_singleton]; omega)⟩
        have sm2 : Same H (upd H2 L (.lst (intsV ((e :: d).take (j + 1 + 1))))) := same_mut sm nL
        refine ⟨_, rfl, _, rfl, _, rfl, v, vo, W, o, g, rfl, dp_mono sm2 hv, ord_mono sm2 ho, hok, h24, lt g (List.mem_cons_of_mem _ (List.mem_of_getElem? hgd)), ?_⟩
        rw [nx (j + 1) g g2 hcd hg2]
        refine ⟨⟨j + 1, g2, rfl, sm2, upd_same, by omega, hg2⟩, ?_⟩
        show (match (upd H2 L (.lst (intsV ((e :: d).take (j + 1 + 1))))) L with | some (.lst xs) => 100 - xs.length | _ => 0) < (match H2 L with | some (.lst xs) => 100 - xs.length | _ => 0)
        rw [upd_same, hL]
        show 100 - (intsV ((e :: d).take (j + 1 + 1))).length < 100 - (intsV ((e :: d).take (j + 1))).length
        rw [intsV_len, intsV_len, tl, List.length_take, List.length_cons]
        rw [List.length_cons] at dlen
        omega
      · have ej : j = d.length := by omega
        subst ej
        have hge : g = e := by
          rw [List.getElem?_append_right (Nat.le_refl _), Nat.sub_self] at hg
          exact (Option.some.inj hg).symm
        subst hge
        have e1 : (!decide (V.int (g : Nat) = V.int (g : Nat))) = false := by rw [decide_eq_true rfl]; rfl
        rw [e1]
        have et : (g :: d).take (d.length + 1) = g :: d := List.take_of_length_le (by rw [List.length_cons]; exact Nat.le_refl _)
        rw [et] at hL
        have hne : g :: d ≠ [] := fun z => nomatch z
        have hm := minL_mem hne
        have hi := List.idxOf_lt_length_iff.mpr hm
        have hS : SqL K H2 L (intsV (g :: d)) := .inl (.inl hL)
        refine ⟨_, rfl, .inl ⟨rfl, _, hS⟩, _, rfl, ?_⟩
        dsimp only [tRet, tOp, tVar, tC, tCB, tCons, tNil]
        refine minOf hS hne ?_
        refine ixOf hS hm ?_
        generalize g :: d = t at *
        refine ⟨_, rfl, _, rfl, _, rfl, L, _, rfl, hS, fun p1 n1 => ?_⟩
        have s2 : Same H2 (upd H2 p1 (.lst (cutV (intsV t) (some (t.idxOf (minL t) : Nat)) none))) := same_upd n1
        refine ⟨_, rfl, _, rfl, _, rfl, L, _, rfl, same_seq s2 hS, fun p2 n2 => ?_⟩
        rw [cutV_lo _ _ (Nat.le_of_lt hi)] at n2 s2 ⊢
        rw [cutV_hi _ _ (Nat.le_of_lt hi)]
        have ne12 : p1 ≠ p2 := ne_of_none upd_same n2
        refine ⟨p1, p2, _, _, rfl, rfl, by rw [upd_ne ne12]; exact upd_same, upd_same, ?_, fun p3 n3 => ?_⟩
        · rw [intsV_len, intsV_len, List.length_drop, List.length_take]
          exact Nat.le_of_lt (lsz (by omega))
        · refine ⟨p3, _, rfl, .inl (.inl upd_same), fun l4 ob n4 hd => ?_⟩
          have ev : intsV (t.drop (t.idxOf (minL t))) ++ intsV (t.take (t.idxOf (minL t))) = intsV (t.drop (t.idxOf (minL t)) ++ t.take (t.idxOf (minL t))) := by unfold intsV; rw [List.map_append]
          rw [ev] at n4 ⊢
          exact q _ _ _ (((sm.trans s2).trans (same_upd n2)).trans ((same_upd n3).trans (same_upd n4))) (tupN_of (.inl (.inr ⟨ob, upd_same⟩))) ((rot_perm t _).trans pm)
    · rintro σ H2 Q1 Q2 hq ⟨v1, e1, v2, e2, e3, b, e4, q1⟩
      exact ⟨v1, e1, v2, e2, e3, b, e4, hq _ _ q1⟩
end
end HF
end

section
set_option Elab.async false
set_option linter.all false
set_option autoImplicit false
set_option maxRecDepth 100000
set_option maxHeartbeats 4000000
namespace HF
open PySem PySem.Spec PyProof.Rows L2
section
/-- no tuple stands here -/
def NT (o : Option HO) : Prop := ∀ zs, o ≠ some (.tup zs) ∧ ∀ ob, o ≠ some (.frz ob (.tup zs))
theorem hide_sqt2 {K : PySem.W.Frag} {H : Hp} {D a : Addr} {xs : List V} (h : SqT K H a xs) (hD : NT (H D)) : SqT K (hide D H) a xs := by
  rcases h with (h | ⟨o, h⟩) | h
  · refine .inl (.inl ?_)
    unfold hide
    rw [if_neg (fun (e : a = D) => (hD xs).1 (by rw [← e]; exact h))]
    exact h
  · refine .inl (.inr ⟨o, ?_⟩)
    unfold hide
    rw [if_neg (fun (e : a = D) => (hD xs).2 o (by rw [← e]; exact h))]
    exact h
  · exact .inr h
theorem hide_tupN2 {K : PySem.W.Frag} {H : Hp} {D : Addr} {v : V} {r : List Nat} (h : Dp K H v (tupN r)) (hD : NT (H D)) : Dp K (hide D H) v (tupN r) := by
  obtain ⟨a, xs, rfl, s, t⟩ := dp_tup h
  rw [dpAll_ints_eq t] at s
  exact .tup (hide_sqt2 s hD) (dpAll_ints r)
theorem nt_lst {H : Hp} {D : Addr} {zs : List V} (h : H D = some (.lst zs)) : NT (H D) := fun xs => by
  rw [h]
  exact ⟨fun e => (by cases e), fun ob e => (by cases e)⟩
theorem nt_dk {H : Hp} {D : Addr} {kvs : List (Key × V)} (h : H D = some (.dK kvs)) : NT (H D) := fun xs => by
  rw [h]
  exact ⟨fun e => (by cases e), fun ob e => (by cases e)⟩
theorem hide_ne {D M : Addr} {H : Hp} (h : M ≠ D) : hide D H M = H M := if_neg h
theorem hide2_updM {D M : Addr} {H : Hp} {o : HO} (h : M ≠ D) : hide M (hide D (upd H M o)) = hide M (hide D H) := by
  funext b
  unfold hide
  by_cases h1 : b = M
  · rw [if_pos h1, if_pos h1]
  · rw [if_neg h1, if_neg h1, upd_ne h1]
theorem hide2_updD {D M : Addr} {H : Hp} {o : HO} : hide M (hide D (upd H D o)) = hide M (hide D H) := by rw [hide_upd]
/-- the ends that a dict of ends knows -/
def MetOK (H : Hp) (D : Addr) (S : List Nat) : Prop := ∃ kvs, H D = some (.dK kvs) ∧ kvs.length ≤ S.length ∧ ∀ x : Nat, (valV kvs (Sum.inl (x : Int) : Key)).isSome = decide (x ∈ S)
theorem MetOK.perm {H : Hp} {D : Addr} {S S' : List Nat} (h : MetOK H D S) (p : S.Perm S') : MetOK H D S' := by
  obtain ⟨kvs, h1, h2, h3⟩ := h
  refine ⟨kvs, h1, by rw [← p.length_eq]; exact h2, fun x => ?_⟩
  rw [h3]
  exact decide_eq_decide.mpr p.mem_iff
theorem MetOK.mono {H H' : Hp} {D : Addr} {S : List Nat} (h : MetOK H D S) (e : Same H H') : MetOK H' D S := by
  obtain ⟨kvs, h1, h2, h3⟩ := h
  exact ⟨kvs, e _ _ h1, h2, h3⟩
theorem MetOK.put {H : Hp} {D : Addr} {S : List Nat} {kvs : List (Key × V)} {v : V} (x : Nat) (h2 : kvs.length ≤ S.length) (h3 : ∀ x : Nat, (valV kvs (Sum.inl (x : Int) : Key)).isSome = decide (x ∈ S)) : MetOK (upd H D (.dK (putK kvs (Sum.inl (x : Int)) v))) D (S ++ [x]) := by
  refine ⟨_, upd_same, ?_, fun y => ?_⟩
  · have := DSub.putK_len kvs (Sum.inl (x : Int) : Key) v
    rw [List.length_append, List.length_singleton]
    omega
  · rw [valV_put]
    by_cases e : y = x
    · subst e
      rw [if_pos rfl, decide_eq_true (List.mem_append_right _ List.mem_cons_self)]
      rfl
    · rw [if_neg (fun h => e (by have := Sum.inl.inj h; omega)), h3]
      refine decide_eq_decide.mpr ?_
      rw [List.mem_append, List.mem_singleton]
      exact ⟨.inl, fun h => h.resolve_right e⟩
theorem len_flat : ∀ {F : List (List Nat)}, (∀ c ∈ F, c ≠ []) → F.length ≤ F.flatten.length
  | [], _ => Nat.le_refl _
  | c :: F, h => by
    have h1 := len_flat (F := F) fun x hx => h x (List.mem_cons_of_mem _ hx)
    have h2 := List.length_pos_iff.mpr (h c List.mem_cons_self)
    rw [List.flatten_cons, List.length_append, List.length_cons]
    omega
theorem no_empty {W : Web} {o : Ord} {F : List (List Nat)} (hF : Faces W o F) (ho : ∀ r ∈ o, r ≠ []) : ∀ c ∈ F, c ≠ [] := fun c hc e => by
  have h1 : o.count [] = 0 := List.count_eq_zero.mpr fun h => ho _ h rfl
  have h2 := hF.emp
  rw [h1] at h2
  exact List.count_eq_zero.mp h2 (e ▸ hc)
end
section
variable {P : Program} {w : World} {K : PySem.W.Frag} {mg : Str → Option Value} {base : Heap} (T : Tx K mg)
def sp_lone_faces (K : PySem.W.Frag) : Sp := fun vs H Q _ => ∃ (vo : V) (o : Ord), vs = [vo] ∧ Dp K H vo (ordD o) ∧ o.length ≤ 900 ∧ (∀ r ∈ o, r ≠ []) ∧ ∀ H' D, Same H H' → H D = none → H' D = some (.lst []) → Q (.ref D) H'
theorem ok_lone_faces : FnOk P w K mg base CX0 1 T.d_lone_faces.f T.d_lone_faces.fd ["order"] (sp_lone_faces K) := by
  refine T.d_lone_faces.ok sc_lone_faces (fun vs H Q E h => ?_) (fun cdv A outer s H vs Q E hr h => ?_)
  · obtain ⟨vo, o, rfl, _⟩ := h; rfl
  · obtain ⟨vo, o, rfl, ho, h9, hne, q⟩ := h
    refine ⟨_, (pss_one (ps_ret (pe_lc (own := [("row", 1)]) (g := (gName 1)) (by rfl) sc_lone_faces.nd (pi_tup (pv 0)) (blkOk_by (own := [("row", 1)]) (N := ["order", "row"]) (sc := defScope s_lone_faces) (by decide +kernel)) (fun _ _ _ _ _ => (pg_name (i := 1) sc_lone_faces.nd rfl (by first | exact Or.inl rfl | exact Or.inr rfl))) (fun _ _ _ _ _ => (pts_one (pt_cmpR op_eq (pe_callB (len_seqK (K := K) rfl) (by rfl) T.n_len (by decide +kernel) (pa_cons (pv 1) pa_nil)) pe_int (nomark _)))) (fun _ _ _ _ _ => (pe_tup pa_nil))))), ?_⟩
    obtain ⟨a, xs, rfl, hS, hD⟩ := dp_tup ho
    have hl := dpAll_len hD
    rw [List.length_map] at hl
    refine ⟨_, rfl, a, rfl, ⟨_, hS⟩, fun D nD => lcT_pure (fun _ => none) hS nD (by omega) (fun i x H' hx sm k n hk hn => ?_) (fun H' sm hD2 => ?_)⟩
    · obtain ⟨d, hd, dx⟩ := dpAll_at hD hx
      obtain ⟨r, hr1, rfl⟩ := map_get hd
      obtain ⟨b, rfl, hb⟩ := tup_ints (dp_mono sm dx)
      refine ⟨rfl, ?_⟩
      refine ⟨_, rfl, b, _, rfl, .inr hb, rfl, _, rfl, ?_⟩
      rw [intsV_len, nat_zero]
      show if decide (r.length = 0) = true then _ else _
      rw [if_neg (fun e => hne r (List.mem_of_getElem? hr1) (List.length_eq_zero_iff.mp (of_decide_eq_true e)))]
      exact hn _ (Same.refl _) rfl
    · refine q H' D sm nD ?_
      have : ∀ k, (List.range k).filterMap (fun _ => (none : Option V)) = [] := fun k => by
        induction k with
        | zero => rfl
        | succ k ih => rw [fm_succ, ih]; rfl
      rw [this] at hD2
      exact hD2
def sp_faces (K : PySem.W.Frag) : Sp := fun vs H Q _ => ∃ (v vo : V) (W : Web) (o : Ord) (F : List (List Nat)), vs = [v, vo] ∧ Dp K H v (webD W) ∧ OrdAt K H vo o ∧ FloorOK W o ∧ W.2.length ≤ 24 ∧ W.1 ≤ 25 ∧ Faces W o F ∧ (∀ r ∈ o, r ≠ []) ∧
  ∀ H' D ys, Same H H' → H D = none → H' D = some (.lst ys) → ys.length = F.length → Q (.ref D) H'
theorem ok_faces : FnOk P w K mg base CX0 5 T.d_faces.f T.d_faces.fd ["web", "order"] (sp_faces K) := by
  refine T.d_faces.ok sc_faces (fun vs H Q E h => ?_) (fun cdv A outer s H vs Q E hr h => ?_)
  · obtain ⟨v, vo, W, o, F, rfl, _⟩ := h; rfl
  · obtain ⟨v, vo, W, o, F, rfl, hv, ho, hok, h24, h25, hF, hne, q⟩ := h
    have hu := hu_of hr
    refine ⟨_, (pss_cons (ps_set (i := 2) sc_faces.nd rfl (by first | exact Or.inl rfl | exact Or.inr rfl) (pe_call (ok_lone_faces T) (hr.mono (by decide)) (by rfl) T.d_lone_faces.g T.d_lone_faces.F.kp T.d_lone_faces.b .nil pass0 (pa_cons (pv 1) pa_nil)))
 (pss_cons (ps_set (i := 3) sc_faces.nd rfl (by first | exact Or.inl rfl | exact Or.inr rfl) pe_dnewK)
 (pss_cons (ps_for PassesOwn.never rfl (pi_range1 (by rfl) T.n_range (pa_cons (pe_call (ok_ends_of T) (hr.mono (by decide)) (by rfl) T.d_ends_of.g T.d_ends_of.F.kp T.d_ends_of.b .nil pass0 (pa_cons (pv 0) pa_nil)) pa_nil)) (pg_name (i := 4) sc_faces.nd rfl (by first | exact Or.inl rfl | exact Or.inr rfl))
  (pss_one (ps_if (pt_cmp (pc_dnotin hu (pv 4) (pv 3)))
  (pss_cons (ps_set (i := 5) sc_faces.nd rfl (by first | exact Or.inl rfl | exact Or.inr rfl) (pe_call (ok_face_of T) (hr.mono (by decide)) (by rfl) T.d_face_of.g T.d_face_of.F.kp T.d_face_of.b .nil pass0 (pa_cons (pv 0) (pa_cons (pv 1) (pa_cons (pv 4) pa_nil)))))
 (pss_cons (ps_expr (pe_bm PySem.F.plainAttrs_list PySem.F.slot_list_append PySem.F.type_list_append mt_append (pv 2) (pa_cons (pv 5) pa_nil)))
 (pss_one (ps_for PassesOwn.never rfl (pi_tup (pv 5)) (pg_name (i := 6) sc_faces.nd rfl (by first | exact Or.inl rfl | exact Or.inr rfl))
  (pss_one (ps_dput hu (pv 3) (pv 6) pe_bl rfl)))))) pss_nil)))
 (pss_one (ps_ret (pe_callB (cr_sortedF hr.units) (by rfl) T.n_sorted (by decide +kernel) (pa_cons (pv 2) pa_nil))))))), ?_⟩
    have hFn := no_empty hF hne
    have hfl := hF.fp.length_eq
    rw [List.length_range] at hfl
    have hFl := len_flat hFn
    refine ⟨_, rfl, vo, o, rfl, ord_dp ho, by have := hok.len; omega, hne, fun H1 Fd s1 nF hF1 => ?_⟩
    refine fun Md nM => ?_
    have neMF : Md ≠ Fd := (ne_of_none hF1 nM).symm
    have s2 : Same H (upd H1 Md (.dK [])) := s1.trans (same_upd nM)
    have nMH : H Md = none := s1.free nM
    refine ⟨_, rfl, v, W, rfl, dp_mono s2 hv, (2 * W.2.length : Nat), rfl, by omega, by omega, for_range (lo := 0) (n := 2 * W.2.length) (fun j σ H' => ∃ (y4 y5 y6 : Option V) (F1 F2 : List (List Nat)) (ys : List V) (ts : List (List Nat)), σ = [some v, some vo, some (.ref Fd), some (.ref Md), y4, y5, y6] ∧ Same H H' ∧ H' Fd = some (.lst ys) ∧ DpAll K (hide Md (hide Fd H')) ys (ts.map tupN) ∧ (∀ t ∈ ts, t ≠ []) ∧ ts.length = F1.length ∧ (F1 ++ F2).Perm F ∧ MetOK H' Md F1.flatten ∧ ∀ x, x < j → x ∈ F1.flatten)
      ⟨none, none, none, [], F, [], [], rfl, s2, by rw [upd_ne neMF.symm]; exact hF1, .nil, fun t h => (by cases h), rfl, List.Perm.refl _, ⟨[], upd_same, Nat.le_refl _, fun x => rfl⟩, fun x h => absurd h (Nat.not_lt_zero x)⟩ ?_ ?_⟩
    · rintro j σ H2 hj ⟨y4, y5, y6, F1, F2, ys, ts, rfl, sm, hFd, hD, hts, hlen, hpm, ⟨kvs, hM, hkl, hkv⟩, hall⟩
      rw [Int.zero_add]
      refine ⟨_, rfl, _, rfl, Md, _, rfl, DGet.k (k := (Sum.inl (j : Int) : Key)) hM, ?_⟩
      rw [hkv]
      by_cases hmet : j ∈ F1.flatten
      · rw [decide_eq_true hmet]
        refine ⟨false, rfl, iteF ?_⟩
        refine ⟨some (.int (j : Nat)), y5, y6, F1, F2, ys, ts, rfl, sm, hFd, hD, hts, hlen, hpm, ⟨kvs, hM, hkl, hkv⟩, fun x hx => ?_⟩
        by_cases e : x = j
        · rw [e]; exact hmet
        · exact hall x (by omega)
      · rw [decide_eq_false hmet]
        refine ⟨true, rfl, iteT ?_⟩
        have hjF : j ∈ (F1 ++ F2).flatten := by
          rw [hpm.flatten.mem_iff, hF.fp.mem_iff]
          exact List.mem_range.mpr hj
        rw [List.flatten_append, List.mem_append] at hjF
        obtain ⟨c, hc2, hjc⟩ := List.mem_flatten.mp (hjF.resolve_left hmet)
        obtain ⟨A1, B1, eF⟩ := List.append_of_mem hc2
        have hcF : c ∈ F := hpm.mem_iff.mp (List.mem_append_right _ hc2)
        refine ⟨_, rfl, _, rfl, _, rfl, v, vo, W, o, j, F, c, rfl, dp_mono sm hv, ord_mono sm ho, hok, h24, hF, hcF, hjc, fun H3 u t s3 du pt => ?_⟩
        have pm2 : ((F1 ++ [c]) ++ (A1 ++ B1)).Perm F := by
          refine List.Perm.trans ?_ hpm
          rw [eF, List.append_assoc]
          exact List.Perm.append_left _ (List.perm_middle (l₁ := A1) (a := c) (l₂ := B1)).symm
        have flen : (F1 ++ [c]).length ≤ F.length := by rw [← pm2.length_eq, List.length_append (as := F1 ++ [c])]; omega
        have yl := dpAll_len hD
        rw [List.length_map] at yl
        rw [List.length_append, List.length_singleton] at flen
        have hFd3 := s3 _ _ hFd
        have nMF3 : (hide Fd H3) Md = some (.dK kvs) := by rw [hide_ne neMF]; exact s3 _ _ hM
        refine ⟨_, rfl, .inl ⟨rfl, _, .inl (.inl hFd3)⟩, _, rfl, Fd, ys, _, rfl, rfl, hFd3, lsz (by omega), ?_⟩
        obtain ⟨b, rfl, hb⟩ := tup_ints du
        have duh : Dp K (hide Md (hide Fd H3)) (.ref b) (tupN t) := hide_tupN2 (hide_tupN2 du (nt_lst hFd3)) (nt_dk nMF3)
        have hbU : SqT K (upd H3 Fd (.lst (ys ++ [V.ref b]))) b (intsV t) := by
          have := hide_sqt2 (D := Fd) hb (nt_lst hFd3)
          rw [← hide_upd (o := .lst (ys ++ [V.ref b]))] at this
          exact same_sqt hide_le this
        have sU : Same H (upd H3 Fd (.lst (ys ++ [V.ref b]))) := same_mut (sm.trans s3) nF
        refine ⟨_, rfl, b, rfl, ⟨_, hbU⟩, for_tup (K := K) (a := b) (xs := intsV t) (fun i σ H' => ∃ y6, σ = [some v, some vo, some (.ref Fd), some (.ref Md), some (.int (j : Nat)), some (.ref b), y6] ∧ Same H H' ∧ H' Fd = some (.lst (ys ++ [V.ref b])) ∧ DpAll K (hide Md (hide Fd H')) (ys ++ [V.ref b]) ((ts ++ [t]).map tupN) ∧ SqT K H' b (intsV t) ∧ MetOK H' Md (F1.flatten ++ t.take i))
          ⟨y6, rfl, sU, upd_same, ?_, hbU, ?_⟩ (fun i σ H' _ ⟨_, _, _, _, _, h, _⟩ => h) ?_ ?_⟩
        · rw [hide2_updD, List.map_append]
          exact dpAll_app (dpAll_mono (hide_same (hide_same s3)) hD) (.cons duh .nil)
        · rw [List.take_zero, List.append_nil]
          exact ⟨kvs, by rw [upd_ne neMF]; exact s3 _ _ hM, hkl, hkv⟩
        · rintro i x σ H4 hx ⟨z6, rfl, sm4, hFd4, hD4, hb4, ⟨kv4, hM4, hkl4, hkv4⟩⟩
          obtain ⟨n, hn, rfl⟩ := intsV_at hx
          have tl : t.length ≤ 2 * W.2.length := by
            rw [pt.length_eq]
            have := (List.sublist_flatten_of_mem hcF).length_le
            omega
          have f1l : F1.flatten.length ≤ 2 * W.2.length := by
            have h1 := pm2.flatten.length_eq
            rw [hfl, List.append_assoc, List.flatten_append, List.length_append] at h1
            omega
          refine ⟨_, rfl, _, rfl, _, _, rfl, DPut.k (k := (Sum.inl (n : Int) : Key)) hM4 (lsz ?_), ?_⟩
          · rw [List.length_append, List.length_take] at hkl4
            omega
          · refine ⟨_, rfl, same_mut sm4 nMH, by rw [upd_ne neMF.symm]; exact hFd4, by rw [hide2_updM neMF]; exact hD4, ?_, ?_⟩
            · have := hide_sqt2 (D := Md) hb4 (nt_dk hM4)
              rw [← hide_upd (o := .dK (putK kv4 (Sum.inl (n : Int)) (V.bl true)))] at this
              exact same_sqt hide_le this
            · have := MetOK.put (H := H4) (D := Md) (v := V.bl true) n hkl4 hkv4
              rw [List.append_assoc] at this
              rw [List.take_add_one, hn]
              exact this
        · rintro σ H4 ⟨z6, rfl, sm4, hFd4, hD4, hb4, hM4⟩
          rw [intsV_len, List.take_length] at hM4
          have pfl : (F1.flatten ++ t).Perm (F1 ++ [c]).flatten := by
            rw [List.flatten_append, List.flatten_singleton]
            exact List.Perm.append_left _ pt
          refine ⟨_, _, _, F1 ++ [c], A1 ++ B1, _, ts ++ [t], rfl, sm4, hFd4, hD4, fun t' ht' => ?_, by rw [List.length_append, List.length_append, hlen]; rfl, pm2, hM4.perm pfl, fun x hx => ?_⟩
          · rcases List.mem_append.mp ht' with h | h
            · exact hts t' h
            · rw [List.mem_singleton.mp h]
              intro z
              rw [z] at pt
              exact hFn c hcF (List.perm_nil.mp pt.symm)
          · rw [List.flatten_append, List.flatten_singleton]
            by_cases e : x = j
            · rw [e]; exact List.mem_append_right _ hjc
            · exact List.mem_append_left _ (hall x (by omega))
    · rintro σ H2 ⟨y4, y5, y6, F1, F2, ys, ts, rfl, sm, hFd, hD, hts, hlen, hpm, _, hall⟩
      have e2 : F2 = [] := by
        rw [List.eq_nil_iff_forall_not_mem]
        intro c hc
        have hcF : c ∈ F := hpm.mem_iff.mp (List.mem_append_right _ hc)
        obtain ⟨x, hx⟩ := List.exists_mem_of_ne_nil c (hFn c hcF)
        have hxl : x ∈ F.flatten := List.mem_flatten.mpr ⟨c, hcF, hx⟩
        have hx1 := hall x (List.mem_range.mp (hF.fp.mem_iff.mp hxl))
        have nd : (F1 ++ F2).flatten.Nodup := hpm.flatten.nodup_iff.mpr hF.fnd
        rw [List.flatten_append, List.nodup_append] at nd
        exact nd.2.2 x hx1 x (List.mem_flatten.mpr ⟨c, hc, hx⟩) rfl
      subst e2
      rw [List.append_nil] at hpm
      have yl := dpAll_len hD
      rw [List.length_map] at yl
      have l1 := hpm.length_eq
      refine ⟨_, rfl, Fd, ys, rfl, .inl (.inl hFd), by omega, .inl ⟨ts.map fun t => t.map fun (n : Nat) => (n : Int), ?_, fun b hb => ?_⟩, fun zs z zl nz => ?_⟩
      · have e : ((ts.map fun t => t.map fun (n : Nat) => (n : Int)).map fun b => PyData.tuple (b.map PyData.int)) = ts.map tupN := by
          rw [List.map_map]
          refine List.map_congr_left fun t _ => ?_
          unfold tupN intsD
          show PyData.tuple ((t.map fun (n : Nat) => (n : Int)).map PyData.int) = _
          rw [List.map_map]
          rfl
        rw [e]
        exact dpAll_mono (hide_le.trans hide_le) hD
      · obtain ⟨t, ht, rfl⟩ := List.mem_map.mp hb
        intro z
        exact hts t ht (List.map_eq_nil_iff.mp z)
      · exact q _ z zs (sm.trans (same_upd nz)) (sm.free nz) upd_same (by omega)
end
end HF
end

section
set_option Elab.async false
set_option linter.all false
set_option autoImplicit false
set_option maxRecDepth 100000
set_option maxHeartbeats 4000000
namespace HF
open PySem PySem.Spec PyProof.Rows L2
section
theorem units65 {k : Nat} {A : Around} (r : Room k A) : A.units + 65 < cLine := by have := r.un; omega
theorem eqv_str_self (z : Str) : decide (V.str z = V.str z) = true := decide_eq_true rfl
end
section
variable {P : Program} {w : World} {K : PySem.W.Frag} {mg : Str → Option Value} {base : Heap} (T : Tx K mg)
theorem cor_tup {H : Hp} {v : V} {q : Nat} (h : Dp K H v (corD (.p q))) : ∃ a, v = .ref a ∧ SqT K H a [.str (Str.ofString "place"), .int (q : Nat)] := by
  obtain ⟨a, xs, rfl, s, t⟩ := dp_tup h
  cases t with
  | cons h1 t =>
    cases t with
    | cons h2 t =>
      cases t
      cases h1
      rw [dp_int h2] at s
      exact ⟨a, rfl, s⟩
def sp_is_corner (K : PySem.W.Frag) : Sp := fun vs H Q _ => ∃ (v vo vc : V) (W : Web) (o : Ord) (c : Cor), vs = [v, vo, vc] ∧ Dp K H v (webD W) ∧ Dp K H vo (ordD o) ∧ Dp K H vc (corD c) ∧ FloorOK W o ∧ CorOK W o c ∧ ∀ H', Same H H' → Q (.bl true) H'
theorem ok_is_corner : FnOk P w K mg base CX0 2 T.d_is_corner.f T.d_is_corner.fd ["web", "order", "corner"] (sp_is_corner K) := by
  refine T.d_is_corner.ok sc_is_corner (fun vs H Q E h => ?_) (fun cdv A outer s H vs Q E hr h => ?_)
  · obtain ⟨v, vo, vc, W, o, c, rfl, _⟩ := h; rfl
  · obtain ⟨v, vo, vc, W, o, c, rfl, hv, ho, hc, hok, hco, q⟩ := h
    refine ⟨_, (pss_cons (ps_if (pt_val (pe_call (ok_is_whole T) (hr.mono (by decide)) (by rfl) T.d_is_whole.g T.d_is_whole.F.kp T.d_is_whole.b .nil pass0 (pa_cons (pv 2) pa_nil)))
  (pss_one (ps_ret (pe_chain op_le op_lt pe_int (pv 2) (pe_op op_mul pe_int (pe_callB call_len_seq (by rfl) T.n_len (by decide +kernel) (pa_cons (pe_ix ix_tup (pv 0) pe_int (fun _ _ => rfl)) pa_nil)))))) pss_nil)
 (pss_cons (ps_if (PW.pt (pw_or (pt_not (pt_val (pe_callB call_isi (by rfl) T.n_isinstance (by decide +kernel) (pa_cons (pv 2) (pa_cons (pe_bltn (v := .ty "tuple") (by rfl) T.n_tuple (by decide +kernel) rfl) pa_nil))))) (pw_or (pt_cmpR op_ne (pe_callB call_len_seq (by rfl) T.n_len (by decide +kernel) (pa_cons (pv 2) pa_nil)) pe_int (nomark _)) (pw_or (pt_cmpR op_ne (pe_ix ix_tup (pv 2) pe_int (fun _ _ => rfl)) pe_str (nomark _)) (pw_or1 (pt_not (pt_val (pe_call (ok_is_whole T) (hr.mono (by decide)) (by rfl) T.d_is_whole.g T.d_is_whole.F.kp T.d_is_whole.b .nil pass0 (pa_cons (pe_ix ix_tup (pv 2) pe_int (fun _ _ => rfl)) pa_nil)))))))))
  (pss_one (ps_ret pe_bl)) pss_nil)
 (pss_one (ps_ret (pe_and (pe_chain op_le op_lt pe_int (pe_ix ix_tup (pv 2) pe_int (fun _ _ => rfl)) (pe_ix ix_tup (pv 0) pe_int (fun _ _ => rfl))) (pe_one (pe_cmpR (op_eqD hr.units) (pe_ix ix_tup (pv 1) (pe_ix ix_tup (pv 2) pe_int (fun _ _ => rfl)) (fun _ _ => rfl)) (pe_tup pa_nil) (nomark _)))))))), ?_⟩
    cases c with
    | e x =>
      have hx : x < 2 * W.2.length := hco
      rw [dp_int hc]
      refine ⟨_, rfl, .inl ⟨x, rfl, true, rfl, iteT ?_⟩⟩
      refine ⟨_, rfl, _, _, rfl, rfl, true, congrArg V.bl (decide_eq_true (by omega)), iteT ?_⟩
      refine ⟨_, rfl, ?_⟩
      dsimp only [tRet, tOp, tVar, tC, tCB, tCons, tNil]
      refine ixT hv (j := 1) (d := tiesD W.2) rfl rfl fun u hu => ?_
      obtain ⟨a, xs, rfl, s, t⟩ := dp_tup hu
      refine ⟨a, xs, rfl, .inr s, _, _, rfl, rfl, .inl ⟨by decide, by decide⟩, _, _, rfl, rfl, ?_⟩
      have e : (2 : Int) * (xs.length : Nat) = ((2 * W.2.length : Nat) : Int) := by rw [dpAll_len t, List.length_map]; omega
      rw [e]
      have e2 : V.bl (decide ((x : Int) < ((2 * W.2.length : Nat) : Int))) = V.bl true := congrArg V.bl (decide_eq_true (by omega))
      show Q (V.bl (decide ((x : Int) < ((2 * W.2.length : Nat) : Int)))) H
      rw [e2]
      exact q _ (Same.refl _)
    | p k =>
      have hk : o[k]? = some [] := hco
      have hkl : k < W.1 := by
        rw [← hok.len]
        exact (List.getElem?_eq_some_iff.mp hk).1
      obtain ⟨a, rfl, hS⟩ := cor_tup hc
      refine ⟨_, rfl, .inr ⟨.ref a, rfl, tyT hS, false, rfl, iteF ?_⟩⟩
      refine ⟨_, rfl, .ref a, .ty "tuple", .type "tuple", .type "tuple", true, rfl, .ty _, tyT hS, kit_ty (by decide +kernel), true, rfl, iteF ?_⟩
      refine ⟨_, rfl, a, _, rfl, .inr hS, rfl, false, rfl, iteF ?_⟩
      refine ⟨_, rfl, ?_⟩
      dsimp only [tRet, tOp, tVar, tC, tCB, tCons, tNil]
      refine ixT hc (j := 0) (d := .str (Str.ofString "place")) rfl rfl fun u hu => ?_
      cases hu
      refine ⟨rfl, false, by rw [eqv_str_self]; rfl, iteF ?_⟩
      refine ⟨_, rfl, ?_⟩
      dsimp only [tRet, tOp, tVar, tC, tCB, tCons, tNil]
      refine ixT hc (j := 1) (d := .int k) rfl rfl fun u hu => ?_
      rw [dp_int hu]
      refine .inl ⟨k, rfl, true, rfl, iteF ?_⟩
      refine ⟨_, rfl, ?_⟩
      dsimp only [tRet, tOp, tVar, tC, tCB, tCons, tNil]
      refine ixT hc (j := 1) (d := .int k) rfl rfl fun u hu => ?_
      rw [dp_int hu]
      refine ⟨_, _, rfl, rfl, true, congrArg V.bl (decide_eq_true (by omega)), iteT ?_⟩
      refine ⟨_, rfl, ?_⟩
      refine ixT hv (j := 0) (d := .int W.1) rfl rfl fun u hu => ?_
      rw [dp_int hu]
      refine ⟨_, _, rfl, rfl, true, congrArg V.bl (decide_eq_true (by omega)), iteT ?_⟩
      refine ⟨_, rfl, _, rfl, ?_⟩
      refine ixT hc (j := 1) (d := .int k) rfl rfl fun u hu => ?_
      rw [dp_int hu]
      refine ixT ho (j := k) (d := tupN []) (by rw [List.getElem?_map, hk]; rfl) rfl fun u2 hu2 => ?_
      refine ⟨Nat.zero_le _, fun p np => ?_⟩
      have sm : Same H (upd H p (.tup [])) := same_upd np
      refine ⟨tupN [], tupN [], dp_mono sm hu2, .tup (.inl (.inl upd_same)) .nil, sh_shaped (sh_tupN []) (by omega), sh_shaped (sh_tupN []) (by omega), ?_⟩
      rw [eqv_tups, decide_eq_true rfl]
      exact q _ sm
def sp_corner_place (K : PySem.W.Frag) : Sp := fun vs H Q _ => ∃ (v vc : V) (W : Web) (c : Cor), vs = [v, vc] ∧ Dp K H v (webD W) ∧ Dp K H vc (corD c) ∧ (∀ x, c = .e x → x < 2 * W.2.length) ∧ Q (.int (cplace W c : Nat)) H
theorem ok_corner_place : FnOk P w K mg base CX0 2 T.d_corner_place.f T.d_corner_place.fd ["web", "corner"] (sp_corner_place K) := by
  refine T.d_corner_place.ok sc_corner_place (fun vs H Q E h => ?_) (fun cdv A outer s H vs Q E hr h => ?_)
  · obtain ⟨v, vc, W, c, rfl, _⟩ := h; rfl
  · obtain ⟨v, vc, W, c, rfl, hv, hc, hx, q⟩ := h
    refine ⟨_, (pss_cons (ps_if (pt_val (pe_callB call_isi (by rfl) T.n_isinstance (by decide +kernel) (pa_cons (pv 1) (pa_cons (pe_bltn (v := .ty "tuple") (by rfl) T.n_tuple (by decide +kernel) rfl) pa_nil))))
  (pss_one (ps_ret (pe_ix ix_tup (pv 1) pe_int (fun _ _ => rfl)))) pss_nil)
 (pss_one (ps_ret (pe_call (ok_place_of T) (hr.mono (by decide)) (by rfl) T.d_place_of.g T.d_place_of.F.kp T.d_place_of.b .nil pass0 (pa_cons (pv 0) (pa_cons (pv 1) pa_nil)))))), ?_⟩
    cases c with
    | e x =>
      have hx := hx x rfl
      rw [dp_int hc]
      refine ⟨_, rfl, .int x, .ty "tuple", .type "int", .type "tuple", false, rfl, .ty _, .base (.int x), kit_ty (by decide +kernel), false, rfl, iteF ?_⟩
      exact ⟨_, rfl, _, rfl, v, W, x, rfl, hv, by omega, q⟩
    | p k =>
      obtain ⟨a, rfl, hS⟩ := cor_tup hc
      refine ⟨_, rfl, .ref a, .ty "tuple", .type "tuple", .type "tuple", true, rfl, .ty _, tyT hS, kit_ty (by decide +kernel), true, rfl, iteT ?_⟩
      refine ⟨_, rfl, ?_⟩
      dsimp only [tRet, tOp, tVar, tC, tCB, tCons, tNil]
      refine ixT hc (j := 1) (d := .int k) rfl rfl fun u hu => ?_
      rw [dp_int hu]
      exact q
def sp_put_behind (K : PySem.W.Frag) : Sp := fun vs H Q _ => ∃ (a : Addr) (vc : V) (r : List Nat) (c : Cor) (e : Nat), vs = [.ref a, vc, .int e] ∧ H a = some (.lst (intsV r)) ∧ Dp K H vc (corD c) ∧ CorIn r c ∧ r.length ≤ 900 ∧ Q .non (upd H a (.lst (intsV (insB r c e))))
theorem ok_put_behind : FnOk P w K mg base CX0 1 T.d_put_behind.f T.d_put_behind.fd ["row", "corner", "end"] (sp_put_behind K) := by
  refine T.d_put_behind.ok sc_put_behind (fun vs H Q E h => ?_) (fun cdv A outer s H vs Q E hr h => ?_)
  · obtain ⟨a, vc, r, c, e, rfl, _⟩ := h; rfl
  · obtain ⟨a, vc, r, c, e, rfl, ha, hc, hin, h9, q⟩ := h
    refine ⟨_, (pss_cons (ps_set (i := 3) sc_put_behind.nd rfl (by first | exact Or.inl rfl | exact Or.inr rfl) (pe_callB call_len_seq (by rfl) T.n_len (by decide +kernel) (pa_cons (pv 0) pa_nil)))
 (pss_cons (ps_if (pt_cmpR (op_inD (units65 hr)) (pv 1) (pv 0) (by rfl))
  (pss_one (ps_set (i := 3) sc_put_behind.nd rfl (by first | exact Or.inl rfl | exact Or.inr rfl) (pe_op op_add (pe_bm PySem.F.plainAttrs_list PySem.F.slot_list_index PySem.F.type_list_index mt_index (pv 0) (pa_cons (pv 1) pa_nil)) pe_int))) pss_nil)
 (pss_one (ps_expr (pe_bm PySem.F.plainAttrs_list PySem.F.slot_list_insert PySem.F.type_list_insert mt_insert (pv 0) (pa_cons (pv 3) (pa_cons (pv 2) pa_nil))))))), ?_⟩
    have hS : SqL K H a (intsV r) := .inl (.inl ha)
    refine ⟨_, rfl, a, _, rfl, .inl hS, ?_⟩
    have hD : Dp K H (.ref a) (.list (intsD r)) := .lst hS (dpAll_ints r)
    refine ⟨_, rfl, _, rfl, corD c, intsD r, hc, hD, sh_shaped (sh_cor c) (by omega), sh_shaped (sh_lst (sh_ints r)) (by omega), ?_⟩
    have ins : ∀ (i : Nat), i ≤ r.length → intsV (r.take i ++ e :: r.drop i) = (intsV r).take ((i : Nat) : Int).toNat ++ [V.int (e : Nat)] ++ (intsV r).drop ((i : Nat) : Int).toNat := fun i hi => by
      rw [Int.toNat_natCast]
      unfold intsV
      rw [List.map_append, List.map_cons, List.map_take, List.map_drop, List.append_assoc]
      rfl
    cases c with
    | e x =>
      have hx : x ∈ r := hin
      rw [show ((intsD r).any fun z => PyData.eqv z (corD (.e x))) = decide (x ∈ r) from any_ints r x, decide_eq_true hx]
      refine ⟨true, rfl, iteT ?_⟩
      refine ⟨_, rfl, .inl ⟨rfl, _, hS⟩, _, rfl, ?_⟩
      rw [dp_int hc]
      dsimp only [tRet, tOp, tVar, tC, tCB, tCons, tNil]
      refine ixOf hS hx ?_
      have hl := List.idxOf_lt_length_iff.mpr hx
      refine ⟨_, _, rfl, rfl, _, rfl, .inl ⟨rfl, _, hS⟩, _, rfl, _, rfl, a, intsV r, ((r.idxOf x + 1 : Nat) : Int), _, rfl, rfl, ha, lsz (by rw [intsV_len]; omega), by omega, by omega, ?_⟩
      rw [← ins (r.idxOf x + 1) hl]
      have e1 : insB r (.e x) e = r.take (r.idxOf x + 1) ++ e :: r.drop (r.idxOf x + 1) := if_pos hx
      rw [e1] at q
      exact q
    | p k =>
      rw [show ((intsD r).any fun z => PyData.eqv z (corD (.p k))) = false from any_tup r _]
      refine ⟨false, rfl, iteF ?_⟩
      refine ⟨_, rfl, .inl ⟨rfl, _, hS⟩, _, rfl, _, rfl, a, intsV r, (r.length : Int), _, rfl, by rw [intsV_len], ha, lsz (by rw [intsV_len]; omega), by omega, by omega, ?_⟩
      rw [← ins r.length (Nat.le_refl _), List.take_length, List.drop_length]
      exact q
end
end HF
end

section
set_option Elab.async false
set_option linter.all false
set_option autoImplicit false
set_option maxRecDepth 100000
set_option maxHeartbeats 4000000
namespace HF
open PySem PySem.Spec PyProof.Rows L2
section
def FloorAt (K : PySem.W.Frag) (H : Hp) (v : V) (fl : Floor) : Prop := ∃ a x y, v = .ref a ∧ SqT K H a [x, y] ∧ Dp K H x (webD fl.1) ∧ OrdAt K H y fl.2
theorem floor_mono {K : PySem.W.Frag} {H H' : Hp} (e : Same H H') {v : V} {fl : Floor} (h : FloorAt K H v fl) : FloorAt K H' v fl := by
  obtain ⟨a, x, y, rfl, s, d, o⟩ := h
  exact ⟨a, x, y, rfl, same_sqt e s, dp_mono e d, ord_mono e o⟩
theorem web_vals {K : PySem.W.Frag} {H : Hp} {v : V} {W : Web} (h : Dp K H v (webD W)) : ∃ a b ts, v = .ref a ∧ SqT K H a [.int W.1, .ref b] ∧ SqT K H b ts ∧ DpAll K H ts (W.2.map tieD) := by
  obtain ⟨a, xs, rfl, s, t⟩ := dp_tup h
  cases t with
  | cons h1 t =>
    cases t with
    | cons h2 t =>
      cases t
      obtain ⟨b, ts, rfl, s2, t2⟩ := dp_tup h2
      rw [dp_int h1] at s
      exact ⟨a, b, ts, rfl, s, s2, t2⟩
/-- lists of their own that hold the rows R -/
structure RowsAt (H H' : Hp) (D : Addr) (ys : List V) (R : Ord) : Prop where
  len : ys.length = R.length
  at_ : ∀ (i : Nat) (r : List Nat), R[i]? = some r → ∃ b, ys[i]? = some (.ref b) ∧ H b = none ∧ b ≠ D ∧ H' b = some (.lst (intsV r))
  inj : ∀ (i j : Nat) (b : Addr), ys[i]? = some (.ref b) → ys[j]? = some (.ref b) → i = j
theorem RowsAt.nil {H H' : Hp} {D : Addr} : RowsAt H H' D [] [] := ⟨rfl, fun i r h => by simp at h, fun i j b h => by simp at h⟩
theorem RowsAt.snoc {H H' : Hp} {D l : Addr} {ys : List V} {R : Ord} {r : List Nat} (h : RowsAt H H' D ys R) (nl : H' l = none) (nH : H l = none) (lD : l ≠ D) :
    RowsAt H (upd (upd H' l (.lst (intsV r))) D (.lst (ys ++ [.ref l]))) D (ys ++ [.ref l]) (R ++ [r]) := by
  refine ⟨by rw [List.length_append, List.length_append, h.len]; rfl, fun i r' hr => ?_, fun i j b hi hj => ?_⟩
  · by_cases hlt : i < R.length
    · rw [List.getElem?_append_left hlt] at hr
      obtain ⟨b, h1, h2, h3, h4⟩ := h.at_ i r' hr
      refine ⟨b, by rw [List.getElem?_append_left (by rw [h.len]; exact hlt)]; exact h1, h2, h3, ?_⟩
      rw [upd_ne h3, upd_ne (ne_of_none h4 nl)]
      exact h4
    · have e : i = R.length := by
        have := (List.getElem?_eq_some_iff.mp hr).1
        rw [List.length_append, List.length_singleton] at this
        omega
      subst e
      rw [List.getElem?_append_right (Nat.le_refl _), Nat.sub_self] at hr
      have e2 : r = r' := Option.some.inj hr
      subst e2
      refine ⟨l, ?_, nH, lD, ?_⟩
      · rw [← h.len, List.getElem?_append_right (Nat.le_refl _), Nat.sub_self]
        rfl
      · rw [upd_ne lD, upd_same]
  · have new : ∀ k, k < ys.length → (ys ++ [V.ref l])[k]? ≠ some (.ref l) := fun k hk e => by
      rw [List.getElem?_append_left hk] at e
      obtain ⟨r', hr⟩ : ∃ r', R[k]? = some r' := ⟨_, List.getElem?_eq_getElem (by rw [← h.len]; exact hk)⟩
      obtain ⟨b', h1, _, _, h4⟩ := h.at_ k r' hr
      rw [e] at h1
      cases h1
      rw [nl] at h4
      cases h4
    have hi1 := (List.getElem?_eq_some_iff.mp hi).1
    have hj1 := (List.getElem?_eq_some_iff.mp hj).1
    rw [List.length_append, List.length_singleton] at hi1 hj1
    by_cases hi2 : i < ys.length
    · by_cases hj2 : j < ys.length
      · rw [List.getElem?_append_left hi2] at hi
        rw [List.getElem?_append_left hj2] at hj
        exact h.inj i j b hi hj
      · have ej : j = ys.length := by omega
        subst ej
        rw [List.getElem?_append_right (Nat.le_refl _), Nat.sub_self] at hj
        cases hj
        exact absurd hi (new i hi2)
    · have ei : i = ys.length := by omega
      subst ei
      rw [List.getElem?_append_right (Nat.le_refl _), Nat.sub_self] at hi
      cases hi
      by_cases hj2 : j < ys.length
      · exact absurd hj (new j hj2)
      · omega
theorem RowsAt.put {H H' : Hp} {D : Addr} {ys : List V} {R : Ord} {i : Nat} {r : List Nat} (h : RowsAt H H' D ys R) (hr : R[i]? = some r) :
    ∃ b, ys[i]? = some (.ref b) ∧ H b = none ∧ b ≠ D ∧ H' b = some (.lst (intsV r)) ∧ ∀ r', RowsAt H (upd H' b (.lst (intsV r'))) D ys (R.set i r') := by
  obtain ⟨b, h1, h2, h3, h4⟩ := h.at_ i r hr
  refine ⟨b, h1, h2, h3, h4, fun r' => ⟨by rw [List.length_set]; exact h.len, fun j r2 hj => ?_, h.inj⟩⟩
  rw [List.getElem?_set] at hj
  by_cases e : i = j
  · subst e
    rw [if_pos rfl, if_pos (List.getElem?_eq_some_iff.mp hr).1] at hj
    cases hj
    exact ⟨b, h1, h2, h3, upd_same⟩
  · rw [if_neg e] at hj
    obtain ⟨b2, g1, g2, g3, g4⟩ := h.at_ j r2 hj
    refine ⟨b2, g1, g2, g3, ?_⟩
    rw [upd_ne (fun (z : b2 = b) => e (h.inj i j b h1 (by rw [← z]; exact g1)))]
    exact g4
theorem insB_len (r : List Nat) (c : Cor) (e : Nat) : (insB r c e).length = r.length + 1 := by
  unfold insB
  cases c with
  | e x =>
    simp only
    split
    · rw [List.length_append, List.length_cons, List.length_take, List.length_drop]
      omega
    · rw [List.length_append]
      rfl
  | p q => rw [List.length_append]; rfl
theorem insB_ne (r : List Nat) (c : Cor) (e : Nat) : insB r c e ≠ [] := fun z => by
  have := insB_len r c e
  rw [z] at this
  cases this
theorem put1_mem {o : Ord} {a : Nat} {c : Cor} {e : Nat} {r : List Nat} (h : r ∈ put1 o a c e) : r ∈ o ∨ r = insB (o.getD a []) c e := by
  unfold put1 at h
  obtain ⟨i, hi, rfl⟩ := List.mem_iff_getElem.mp h
  rw [List.getElem_set]
  split
  · exact .inr rfl
  · exact .inl (List.getElem_mem _)
theorem putIn_ne {W : Web} {o : Ord} (c d : Cor) (h : ∀ r ∈ o, r ≠ []) : ∀ r ∈ (putIn W o c d).2, r ≠ [] := fun r hr => by
  obtain ⟨r1, h1, rfl⟩ := List.mem_map.mp hr
  intro z
  have z1 := begun_nil.mp z
  rcases put1_mem h1 with h2 | h2
  · rcases put1_mem h2 with h3 | h3
    · exact h _ h3 z1
    · rw [h3] at z1
      exact insB_ne _ _ _ z1
  · rw [h2] at z1
    exact insB_ne _ _ _ z1
end
section
variable {P : Program} {w : World} {K : PySem.W.Frag} {mg : Str → Option Value} {base : Heap} (T : Tx K mg)
def sp_put_in (K : PySem.W.Frag) : Sp := fun vs H Q _ => ∃ (v vo vc vd : V) (W : Web) (o : Ord) (c d : Cor), vs = [v, vo, vc, vd] ∧ Dp K H v (webD W) ∧ OrdAt K H vo o ∧ Dp K H vc (corD c) ∧ Dp K H vd (corD d) ∧ FloorOK W o ∧ CorOK W o c ∧ CorOK W o d ∧ W.2.length < 24 ∧ W.1 ≤ 25 ∧
  ∀ H' v, Same H H' → FloorAt K H' v (putIn W o c d) → Q v H'
theorem ok_put_in : FnOk P w K mg base CX0 3 T.d_put_in.f T.d_put_in.fd ["web", "order", "one", "other"] (sp_put_in K) := by
  refine T.d_put_in.ok sc_put_in (fun vs H Q E h => ?_) (fun cdv A outer s H vs Q E hr h => ?_)
  · obtain ⟨v, vo, vc, vd, W, o, c, d, rfl, _⟩ := h; rfl
  · obtain ⟨v, vo, vc, vd, W, o, c, d, rfl, hv, ho, hc, hd, hok, cok, dok, h24, h25, q⟩ := h
    obtain ⟨tM, mM⟩ := T.most
    refine ⟨_, (pss_cons (ps_if (PW.pt (pw_or (pt_not (pt_val (pe_call (ok_is_corner T) (hr.mono (by decide)) (by rfl) T.d_is_corner.g T.d_is_corner.F.kp T.d_is_corner.b .nil pass0 (pa_cons (pv 0) (pa_cons (pv 1) (pa_cons (pv 2) pa_nil)))))) (pw_or1 (pt_not (pt_val (pe_call (ok_is_corner T) (hr.mono (by decide)) (by rfl) T.d_is_corner.g T.d_is_corner.F.kp T.d_is_corner.b .nil pass0 (pa_cons (pv 0) (pa_cons (pv 1) (pa_cons (pv 3) pa_nil)))))))))
  (pss_one ps_never) pss_nil)
 (pss_cons (ps_asg (pv 0) (pg_tup (by rfl) (pgs_cons (pg_name (i := 4) sc_put_in.nd rfl (by first | exact Or.inl rfl | exact Or.inr rfl)) (pgs_cons (pg_name (i := 5) sc_put_in.nd rfl (by first | exact Or.inl rfl | exact Or.inr rfl)) pgs_nil))))
 (pss_cons (ps_if (pt_cmpR op_eq (pe_callB call_len_seq (by rfl) T.n_len (by decide +kernel) (pa_cons (pv 5) pa_nil)) (pe_glob (v := .int 24) (by rfl) mM ⟨_, rfl⟩) (nomark _))
  (pss_one ps_never) pss_nil)
 (pss_cons (ps_setLc (i := 6) (own := [("row", 9)]) (g := (gName 9)) (by rfl) sc_put_in.nd rfl rfl (sw_true rfl rfl rfl (by decide +kernel)) (pi_tup (pv 1)) (blkOk_by (own := [("row", 9)]) (N := ["web", "order", "one", "other", "many", "ties", "rows", "begin", "end", "row"]) (sc := defScope s_put_in) (by decide +kernel)) (fun _ _ _ _ _ => (pg_name (i := 9) sc_put_in.nd rfl (by first | exact Or.inl rfl | exact Or.inr rfl))) (fun _ _ _ _ _ => pts_nil) (fun _ _ _ _ _ => (pe_callTy (list_ofK (K := K) rfl) (by rfl) T.n_list (by decide +kernel) (pa_cons (pv 9) pa_nil))))
 (pss_cons (ps_set (i := 7) sc_put_in.nd rfl (by first | exact Or.inl rfl | exact Or.inr rfl) (pe_call (ok_corner_place T) (hr.mono (by decide)) (by rfl) T.d_corner_place.g T.d_corner_place.F.kp T.d_corner_place.b .nil pass0 (pa_cons (pv 0) (pa_cons (pv 2) pa_nil))))
 (pss_cons (ps_set (i := 8) sc_put_in.nd rfl (by first | exact Or.inl rfl | exact Or.inr rfl) (pe_call (ok_corner_place T) (hr.mono (by decide)) (by rfl) T.d_corner_place.g T.d_corner_place.F.kp T.d_corner_place.b .nil pass0 (pa_cons (pv 0) (pa_cons (pv 3) pa_nil))))
 (pss_cons (ps_expr (pe_call (ok_put_behind T) (hr.mono (by decide)) (by rfl) T.d_put_behind.g T.d_put_behind.F.kp T.d_put_behind.b .nil pass0 (pa_cons (pe_ix ix_list (pv 6) (pv 7) (fun _ _ => rfl)) (pa_cons (pv 2) (pa_cons (pe_op op_mul pe_int (pe_callB call_len_seq (by rfl) T.n_len (by decide +kernel) (pa_cons (pv 5) pa_nil))) pa_nil)))))
 (pss_cons (ps_expr (pe_call (ok_put_behind T) (hr.mono (by decide)) (by rfl) T.d_put_behind.g T.d_put_behind.F.kp T.d_put_behind.b .nil pass0 (pa_cons (pe_ix ix_list (pv 6) (pv 8) (fun _ _ => rfl)) (pa_cons (pv 3) (pa_cons (pe_op op_add (pe_op op_mul pe_int (pe_callB call_len_seq (by rfl) T.n_len (by decide +kernel) (pa_cons (pv 5) pa_nil))) pe_int) pa_nil)))))
 (pss_one (ps_ret (pe_tup (pa_cons (pe_tup (pa_cons (pv 4) (pa_cons (pe_op op_catA (pv 5) (pe_tup (pa_cons (pe_tup (pa_cons (pv 7) (pa_cons (pv 8) pa_nil))) pa_nil))) pa_nil))) (pa_cons (pe_tupleOf (by rfl) T.n_tuple (pe_lc (own := [("row", 9)]) (g := (gName 9)) (by rfl) sc_put_in.nd (pi_list (pv 6)) (blkOk_by (own := [("row", 9)]) (N := ["web", "order", "one", "other", "many", "ties", "rows", "begin", "end", "row"]) (sc := defScope s_put_in) (by decide +kernel)) (fun _ _ _ _ _ => (pg_name (i := 9) sc_put_in.nd rfl (by first | exact Or.inl rfl | exact Or.inr rfl))) (fun _ _ _ _ _ => pts_nil) (fun _ _ _ _ _ => (pe_call (ok_begun T) (hr.mono (by decide)) (by rfl) T.d_begun.g T.d_begun.F.kp T.d_begun.b .nil pass0 (pa_cons (pv 9) pa_nil))))) pa_nil))))))))))))), ?_⟩
    have hrl := fun r (hr : r ∈ o) => row_len hok hr
    have hol := hok.len
    obtain ⟨r1, hr1, hin1⟩ := cor_row hok cok
    have hx : ∀ {c : Cor}, CorOK W o c → ∀ x, c = .e x → x < 2 * W.2.length := fun h x e => by subst e; exact h
    refine ⟨_, rfl, _, rfl, _, rfl, v, vo, vc, W, o, c, rfl, hv, ord_dp ho, hc, hok, cok, fun H1 s1 => ⟨true, rfl, iteF ?_⟩⟩
    refine ⟨_, rfl, _, rfl, _, rfl, v, vo, vd, W, o, d, rfl, dp_mono s1 hv, ord_dp (ord_mono s1 ho), dp_mono s1 hd, hok, dok, fun H2 s2 => ⟨true, rfl, iteF ?_⟩⟩
    have s12 := s1.trans s2
    obtain ⟨wa, tb, ts, rfl, sw, st, dt⟩ := web_vals hv
    refine ⟨_, rfl, wa, _, rfl, same_sqt s12 sw, rfl, _, _, rfl, _, _, rfl, rfl, ?_⟩
    have tl := dpAll_len dt
    rw [List.length_map] at tl
    refine ⟨_, rfl, tb, ts, rfl, .inr (same_sqt s12 st), rfl, false, ?_, iteF ?_⟩
    · rw [tl]
      exact congrArg V.bl ((int_eq W.2.length 24).trans (decide_eq_false (by omega)))
    obtain ⟨oa, os, rfl, so, po⟩ := ho
    have ol := Paired.length po
    -- rows
    refine ⟨_, rfl, oa, rfl, ⟨_, same_sqt s12 so⟩, fun D nD => ?_⟩
    have nDH : H D = none := s12.free nD
    refine lc_tup (K := K) (a := oa) (xs := os) (fun i H' => Same H2 H' ∧ ∃ ys, H' D = some (.lst ys) ∧ RowsAt H H' D ys (o.take i)) ⟨same_upd nD, [], upd_same, RowsAt.nil⟩ (fun i H' _ p => same_sqt (s12.trans p.1) so) (fun i x H3 hx p => ?_) (fun H3 p => ?_)
    · obtain ⟨sm, ys, hD, hR⟩ := p
      obtain ⟨r, hr2, b, rfl, hb, _⟩ := paired_get' po hx
      refine ⟨rfl, yesT ?_⟩
      refine ⟨_, rfl, b, intsV r, rfl, .inr (same_sqt (s12.trans sm) hb), fun l nl => ?_⟩
      have lD : l ≠ D := (ne_of_none hD nl).symm
      have hil : i < o.length := (List.getElem?_eq_some_iff.mp hr2).1
      refine ⟨ys, by rw [upd_ne lD.symm]; exact hD, lsz (by rw [hR.len, List.length_take]; omega), same_mut (sm.trans (same_upd nl)) nD, _, upd_same, ?_⟩
      rw [List.take_add_one, hr2]
      exact hR.snoc nl ((s12.trans sm).free nl) lD
    · obtain ⟨sm, ys, hD, hR⟩ := p
      rw [ol, List.take_length] at hR
      have s3 := s12.trans sm
      refine ⟨_, rfl, _, rfl, .ref wa, vc, W, c, rfl, dp_mono s3 hv, dp_mono s3 hc, hx cok, ?_⟩
      refine ⟨_, rfl, _, rfl, .ref wa, vd, W, d, rfl, dp_mono s3 hv, dp_mono s3 hd, hx dok, ?_⟩
      -- the first end
      obtain ⟨b1, y1, n1, bD1, hb1, put⟩ := hR.put hr1
      refine ⟨_, rfl, _, rfl, ?_⟩
      dsimp only [tRet, tOp, tVar, tC, tCB, tCons, tNil]
      refine ⟨D, ys, _, _, rfl, rfl, .inl (.inl hD), atI_nat y1, ?_⟩
      refine ⟨_, rfl, _, rfl, tb, ts, rfl, .inr (same_sqt s3 st), _, _, rfl, rfl, .inl ⟨by decide, by decide⟩, ?_⟩
      have e1 : (2 : Int) * (ts.length : Nat) = ((2 * W.2.length : Nat) : Int) := by rw [tl]; omega
      refine ⟨b1, vc, r1, c, 2 * W.2.length, by show [V.ref b1, vc, V.int (2 * (ts.length : Nat) : Int)] = _; rw [e1], hb1, dp_mono s3 hc, hin1, by have := hrl r1 (List.mem_of_getElem? hr1); omega, ?_⟩
      have hR2 := put (insB r1 c (2 * W.2.length))
      have eR1 : put1 o (cplace W c) c (2 * W.2.length) = o.set (cplace W c) (insB r1 c (2 * W.2.length)) := by
        unfold put1
        rw [List.getD_eq_getElem?_getD, hr1]
        rfl
      rw [← eR1] at hR2
      have s4 : Same H (upd H3 b1 (.lst (intsV (insB r1 c (2 * W.2.length))))) := same_mut s3 n1
      have hD4 : (upd H3 b1 (.lst (intsV (insB r1 c (2 * W.2.length))))) D = some (.lst ys) := by rw [upd_ne bD1.symm]; exact hD
      generalize upd H3 b1 (.lst (intsV (insB r1 c (2 * W.2.length)))) = H4 at *
      -- the second end
      have h2 : ∃ r2, (put1 o (cplace W c) c (2 * W.2.length))[cplace W d]? = some r2 ∧ CorIn r2 d := by
        obtain ⟨r2, h2, i2⟩ := cor_row hok dok
        cases d with
        | e x => exact put1_row h2 i2
        | p kk =>
          have : cplace W (.p kk) < (put1 o (cplace W c) c (2 * W.2.length)).length := by rw [put1_len]; exact (List.getElem?_eq_some_iff.mp h2).1
          exact ⟨_, List.getElem?_eq_getElem this, True.intro⟩
      obtain ⟨r2, hr2, hin2⟩ := h2
      have l2 : r2.length ≤ 100 := by
        rcases put1_mem (List.mem_of_getElem? hr2) with h | h
        · have := hrl r2 h; omega
        · rw [h, insB_len, List.getD_eq_getElem?_getD, hr1]
          have := hrl r1 (List.mem_of_getElem? hr1)
          show r1.length + 1 ≤ 100
          omega
      obtain ⟨b2, y2, n2, bD2, hb2, put2⟩ := hR2.put hr2
      refine ⟨_, rfl, _, rfl, ?_⟩
      dsimp only [tRet, tOp, tVar, tC, tCB, tCons, tNil]
      refine ⟨D, ys, _, _, rfl, rfl, .inl (.inl hD4), atI_nat y2, ?_⟩
      refine ⟨_, rfl, _, rfl, tb, ts, rfl, .inr (same_sqt s4 st), _, _, rfl, rfl, .inl ⟨by decide, by decide⟩, _, _, rfl, rfl, ?_⟩
      refine ⟨b2, vd, r2, d, 2 * W.2.length + 1, by show [V.ref b2, vd, V.int (2 * (ts.length : Nat) + 1 : Int)] = _; rw [e1]; rfl, hb2, dp_mono s4 hd, hin2, by omega, ?_⟩
      have hR3 := put2 (insB r2 d (2 * W.2.length + 1))
      have eR2 : putRows W o c d = (put1 o (cplace W c) c (2 * W.2.length)).set (cplace W d) (insB r2 d (2 * W.2.length + 1)) := by
        unfold putRows
        rw [show put1 (put1 o (cplace W c) c (2 * W.2.length)) (cplace W d) d (2 * W.2.length + 1) = (put1 o (cplace W c) c (2 * W.2.length)).set (cplace W d) (insB ((put1 o (cplace W c) c (2 * W.2.length)).getD (cplace W d) []) d (2 * W.2.length + 1)) from rfl, List.getD_eq_getElem?_getD, hr2]
        rfl
      rw [← eR2] at hR3
      have s5 : Same H (upd H4 b2 (.lst (intsV (insB r2 d (2 * W.2.length + 1))))) := same_mut s4 n2
      have hD5 : (upd H4 b2 (.lst (intsV (insB r2 d (2 * W.2.length + 1))))) D = some (.lst ys) := by rw [upd_ne bD2.symm]; exact hD4
      generalize upd H4 b2 (.lst (intsV (insB r2 d (2 * W.2.length + 1)))) = H5 at *
      have okp := putIn_ok hok cok dok
      have lp : ∀ r ∈ putRows W o c d, r.length ≤ 100 := fun r hr => by
        have h1 := row_len okp (List.mem_map.mpr ⟨r, hr, rfl⟩)
        rw [(begun_perm r).length_eq] at h1
        have h2 : (putIn W o c d).1.2.length = W.2.length + 1 := by
          show (W.2 ++ [_]).length = _
          rw [List.length_append]
          rfl
        omega
      have lpr : (putRows W o c d).length = o.length := by unfold putRows; rw [put1_len, put1_len]
      -- the new floor
      refine ⟨_, rfl, _, rfl, _, rfl, _, rfl, by show 2 ≤ sizeLine; decide, fun p1 m1 => ⟨by show 1 ≤ sizeLine; decide, fun p2 m2 => ?_⟩⟩
      have t1 : Same H5 (upd H5 p1 (.tup [V.int (cplace W c : Nat), V.int (cplace W d : Nat)])) := same_upd m1
      have t2 := same_upd (o := .tup [V.ref p1]) m2
      have d2 : Dp K (upd (upd H5 p1 (.tup [V.int (cplace W c : Nat), V.int (cplace W d : Nat)])) p2 (.tup [V.ref p1])) (.ref p2) (.tuple [tieD (cplace W c, cplace W d)]) :=
        .tup (.inl (.inl upd_same)) (.cons (.tup (.inl (.inl (t2 _ _ upd_same))) (.cons (.int _) (.cons (.int _) .nil))) .nil)
      have s6 := (s5.trans t1).trans t2
      refine catT (.tup (same_sqt s6 st) (dpAll_mono s6 dt)) d2 (by rw [List.length_map]; show W.2.length + 1 ≤ 1000; omega) fun u H7 s7 du => ?_
      refine ⟨by show 2 ≤ sizeLine; decide, fun p3 m3 => ?_⟩
      have t3 : Same H7 (upd H7 p3 (.tup [V.int (W.1 : Nat), u])) := same_upd m3
      have dw : Dp K (upd H7 p3 (.tup [V.int (W.1 : Nat), u])) (.ref p3) (webD (putIn W o c d).1) := by
        refine .tup (.inl (.inl upd_same)) (.cons (.int _) (.cons ?_ .nil))
        have := dp_mono t3 du
        rw [show W.2.map tieD ++ [tieD (cplace W c, cplace W d)] = (W.2 ++ [(cplace W c, cplace W d)]).map tieD from by rw [List.map_append]; rfl] at this
        exact this
      have s58 : Same H5 (upd H7 p3 (.tup [V.int (W.1 : Nat), u])) := ((t1.trans t2).trans s7).trans t3
      have s8 : Same H (upd H7 p3 (.tup [V.int (W.1 : Nat), u])) := s5.trans s58
      generalize upd H7 p3 (.tup [V.int (W.1 : Nat), u]) = H8 at *
      refine ⟨_, rfl, D, rfl, ⟨_, .inl (.inl (s58 _ _ hD5))⟩, fun D2 nD2 => ?_⟩
      refine lc_list (K := K) (a := D) (xs := ys) (fun i H' => Same H8 H' ∧ ∃ zs, H' D2 = some (.lst zs) ∧ Paired (RowAt K (hide D2 H')) zs (((putRows W o c d).take i).map begun)) ⟨same_upd nD2, [], upd_same, .nil⟩ (fun i H' _ p => .inl (.inl ((s58.trans p.1) _ _ hD5))) (fun i x H9 hx p => ?_) (fun H9 p => ?_)
      · obtain ⟨sm2, zs, hD2, hP⟩ := p
        have hil := (List.getElem?_eq_some_iff.mp hx).1
        rw [hR3.len] at hil
        obtain ⟨r, hr⟩ : ∃ r, (putRows W o c d)[i]? = some r := ⟨_, List.getElem?_eq_getElem hil⟩
        obtain ⟨b, hb, _, _, hb5⟩ := hR3.at_ i r hr
        rw [hx] at hb
        cases hb
        refine ⟨rfl, yesT ?_⟩
        refine ⟨_, rfl, b, r, rfl, .inl (.inl ((s58.trans sm2) _ _ hb5)), by have := lp r (List.mem_of_getElem? hr); omega, fun H10 u2 s10 hu2 => ?_⟩
        have zl := Paired.length hP
        rw [List.length_map, List.length_take] at zl
        refine ⟨zs, s10 _ _ hD2, lsz (by omega), same_mut (sm2.trans s10) nD2, _, upd_same, ?_⟩
        rw [hide_upd, List.take_add_one, hr, List.map_append]
        exact paired_app (paired_mono (hide_same s10) hP) (hide_row hu2 (s10 _ _ hD2))
      · obtain ⟨sm2, zs, hD2, hP⟩ := p
        rw [hR3.len, List.take_length] at hP
        refine .inl ⟨D2, zs, rfl, .inl (.inl hD2), fun z nz => ?_⟩
        have t9 : Same H9 (upd H9 z (.tup zs)) := same_upd nz
        refine ⟨by show 2 ≤ sizeLine; decide, fun y ny => ?_⟩
        have t10 := same_upd (o := .tup [V.ref p3, V.ref z]) ny
        refine q _ _ (((s8.trans sm2).trans t9).trans t10) ⟨y, _, _, rfl, .inl (.inl upd_same), dp_mono ((sm2.trans t9).trans t10) dw, z, zs, rfl, .inl (.inl (t10 _ _ upd_same)), ?_⟩
        exact paired_mono ((hide_le.trans t9).trans t10) hP
end
end HF
end

section
set_option Elab.async false
set_option linter.all false
set_option autoImplicit false
set_option maxRecDepth 100000
set_option maxHeartbeats 4000000
namespace HF
open PySem PySem.Spec PyProof.Rows L2
section
theorem tie_two {K : PySem.W.Frag} {H : Hp} {v : V} {t : Nat × Nat} (h : Dp K H v (tieD t)) {Q : VK} :
    (Q (.int (t.1 : Nat)) H → rIxT K v (.int 0) H Q) ∧ (Q (.int (t.2 : Nat)) H → rIxT K v (.int 1) H Q) := by
  obtain ⟨a, rfl, s⟩ := tie_vals h
  exact ⟨fun q => ⟨a, _, _, _, rfl, rfl, s, atI_nat (j := 0) rfl, q⟩, fun q => ⟨a, _, _, _, rfl, rfl, s, atI_nat (j := 1) rfl, q⟩⟩
theorem firstC_at (o : Ord) (p : Nat) : (cornersAt o p)[0]? = some (firstC o p) := by
  unfold firstC
  cases e : cornersAt o p with
  | nil => exact absurd e (corners_ne o p)
  | cons c r => rfl
theorem inOne_hit {fl : Floor} {t : Nat × Nat} {i j : Nat} {c d : Cor} (hc : (cornersAt fl.2 t.1)[i]? = some c) (hd : (cornersAt fl.2 t.2)[j]? = some d)
    (b1 : ∀ c' ∈ (cornersAt fl.2 t.1).take i, ∀ d' ∈ cornersAt fl.2 t.2, nfaces (putIn fl.1 fl.2 c' d').1 (putIn fl.1 fl.2 c' d').2 ≠ 1)
    (b2 : ∀ d' ∈ (cornersAt fl.2 t.2).take j, nfaces (putIn fl.1 fl.2 c d').1 (putIn fl.1 fl.2 c d').2 ≠ 1)
    (g : nfaces (putIn fl.1 fl.2 c d).1 (putIn fl.1 fl.2 c d).2 = 1) : inOne fl t = some (putIn fl.1 fl.2 c d) := by
  unfold inOne
  obtain ⟨a1, r1, e1, l1⟩ := split_at hc
  obtain ⟨a2, r2, e2, l2⟩ := split_at hd
  have t1 : (cornersAt fl.2 t.1).take i = a1 := by rw [e1, ← l1]; exact List.take_left
  have t2 : (cornersAt fl.2 t.2).take j = a2 := by rw [e2, ← l2]; exact List.take_left
  rw [t1] at b1
  rw [t2] at b2
  rw [e1, List.flatMap_append, List.flatMap_cons]
  have n1 : ∀ f ∈ (a1.flatMap fun c => (cornersAt fl.2 t.2).map fun d => putIn fl.1 fl.2 c d), ¬ ((nfaces f.1 f.2 == 1) = true) := fun f hf => by
    obtain ⟨c', hc', hf2⟩ := List.mem_flatMap.mp hf
    obtain ⟨d', hd', rfl⟩ := List.mem_map.mp hf2
    simpa using b1 c' hc' d' hd'
  rw [List.find?_append, List.find?_eq_none.mpr n1, Option.none_or, List.find?_append, e2, List.map_append, List.map_cons, List.find?_append]
  have n2 : ∀ f ∈ (a2.map fun d => putIn fl.1 fl.2 c d), ¬ ((nfaces f.1 f.2 == 1) = true) := fun f hf => by
    obtain ⟨d', hd', rfl⟩ := List.mem_map.mp hf
    simpa using b2 d' hd'
  rw [List.find?_eq_none.mpr n2, Option.none_or, List.find?_cons_of_pos (by simpa using g)]
  rfl
theorem inOne_miss {fl fl' : Floor} {t : Nat × Nat} (h : inOne fl t = some fl') (b1 : ∀ c' ∈ cornersAt fl.2 t.1, ∀ d' ∈ cornersAt fl.2 t.2, nfaces (putIn fl.1 fl.2 c' d').1 (putIn fl.1 fl.2 c' d').2 ≠ 1) : False := by
  unfold inOne at h
  have h1 := List.mem_of_find?_eq_some h
  have h2 := List.find?_some h
  obtain ⟨c', hc', hf2⟩ := List.mem_flatMap.mp h1
  obtain ⟨d', hd', rfl⟩ := List.mem_map.mp hf2
  exact b1 c' hc' d' hd' (by simpa using h2)
theorem corner_lens {W : Web} {o : Ord} (h : FloorOK W o) (p : Nat) : (cornersAt o p).length ≤ 2 * W.2.length + 1 := by
  unfold cornersAt
  split
  · show 1 ≤ _
    omega
  · rename_i hne
    rw [List.length_map]
    rw [List.getD_eq_getElem?_getD] at hne ⊢
    cases e : o[p]? with
    | none => rw [e] at hne; exact absurd rfl hne
    | some r =>
      have := row_len h (List.mem_of_getElem? e)
      show r.length ≤ _
      omega
end
section
variable {P : Program} {w : World} {K : PySem.W.Frag} {mg : Str → Option Value} {base : Heap} (T : Tx K mg)
def sp_corners_at (K : PySem.W.Frag) : Sp := fun vs H Q _ => ∃ (vo : V) (o : Ord) (p : Nat) (r : List Nat), vs = [vo, .int p] ∧ Dp K H vo (ordD o) ∧ o[p]? = some r ∧
  ∀ H' D ys, Same H H' → H D = none → H' D = some (.lst ys) → DpAll K H' ys ((cornersAt o p).map corD) → Q (.ref D) H'
theorem ok_corners_at : FnOk P w K mg base CX0 1 T.d_corners_at.f T.d_corners_at.fd ["order", "place"] (sp_corners_at K) := by
  refine T.d_corners_at.ok sc_corners_at (fun vs H Q E h => ?_) (fun cdv A outer s H vs Q E hr h => ?_)
  · obtain ⟨vo, o, p, r, rfl, _⟩ := h; rfl
  · obtain ⟨vo, o, p, r, rfl, ho, hr1, q⟩ := h
    refine ⟨_, (pss_cons (ps_if (pt_cmpR (op_eqD hr.units) (pe_ix ix_tup (pv 0) (pv 1) (fun _ _ => rfl)) (pe_tup pa_nil) (nomark _))
  (pss_one (ps_ret (pe_lst (pa_cons (pe_tup (pa_cons pe_str (pa_cons (pv 1) pa_nil))) pa_nil)))) pss_nil)
 (pss_one (ps_ret (pe_callTy call_list_of (by rfl) T.n_list (by decide +kernel) (pa_cons (pe_ix ix_tup (pv 0) (pv 1) (fun _ _ => rfl)) pa_nil))))), ?_⟩
    have hrm : (o.map tupN)[p]? = some (tupN r) := by rw [List.getElem?_map, hr1]; rfl
    have eg : o.getD p [] = r := by rw [List.getD_eq_getElem?_getD, hr1]; rfl
    refine ⟨_, rfl, _, rfl, ?_⟩
    refine ixT ho (j := p) (d := tupN r) hrm rfl fun u hu => ?_
    refine ⟨Nat.zero_le _, fun z nz => ?_⟩
    have s1 : Same H (upd H z (.tup [])) := same_upd nz
    refine ⟨tupN r, tupN [], dp_mono s1 hu, .tup (.inl (.inl upd_same)) .nil, sh_shaped (sh_tupN r) (by omega), sh_shaped (sh_tupN []) (by omega), ?_⟩
    rw [eqv_tups]
    refine ⟨_, rfl, ite2 (fun e => ?_) (fun e => ?_)⟩
    · have e0 := of_decide_eq_true e
      have ec : cornersAt o p = [.p p] := by unfold cornersAt; rw [eg, if_pos e0]
      rw [ec] at q
      refine ⟨_, rfl, by show 2 ≤ sizeLine; decide, fun z2 nz2 => ⟨by show 1 ≤ sizeLine; decide, fun z3 nz3 => ?_⟩⟩
      have s2 := same_upd (o := .tup [V.str (Str.ofString "place"), V.int (p : Nat)]) nz2
      have s3 := same_upd (o := .lst [V.ref z2]) nz3
      refine q _ z3 _ ((s1.trans s2).trans s3) ((s1.trans s2).free nz3) upd_same (.cons (.tup (.inl (.inl (s3 _ _ upd_same))) (.cons (.str _) (.cons (.int _) .nil))) .nil)
    · have e0 : r ≠ [] := fun z => e (decide_eq_true z)
      have ec : cornersAt o p = r.map .e := by unfold cornersAt; rw [eg, if_neg e0]
      rw [ec] at q
      refine ⟨_, rfl, _, rfl, ?_⟩
      refine ixT (dp_mono s1 ho) (j := p) (d := tupN r) hrm rfl fun u2 hu2 => ?_
      obtain ⟨b, rfl, hb⟩ := tup_ints hu2
      refine ⟨b, _, rfl, .inr hb, fun z2 nz2 => ?_⟩
      refine q _ z2 _ (s1.trans (same_upd nz2)) (s1.free nz2) upd_same ?_
      have : (r.map Cor.e).map corD = intsD r := by rw [List.map_map]; rfl
      rw [this]
      exact dpAll_ints r
def sp_with_tie (K : PySem.W.Frag) : Sp := fun vs H Q _ => ∃ (v vp : V) (fl : Floor) (t : Nat × Nat), vs = [v, vp] ∧ FloorAt K H v fl ∧ Dp K H vp (tieD t) ∧ FloorOK fl.1 fl.2 ∧ t.1 < fl.1.1 ∧ t.2 < fl.1.1 ∧ fl.1.2.length < 24 ∧ fl.1.1 ≤ 25 ∧
  ∀ H' v, Same H H' → FloorAt K H' v (withTie fl t) → Q v H'
theorem ok_with_tie : FnOk P w K mg base CX0 4 T.d_with_tie.f T.d_with_tie.fd ["floor", "pair"] (sp_with_tie K) := by
  refine T.d_with_tie.ok sc_with_tie (fun vs H Q E h => ?_) (fun cdv A outer s H vs Q E hr h => ?_)
  · obtain ⟨v, vp, fl, t, rfl, _⟩ := h; rfl
  · obtain ⟨v, vp, fl, t, rfl, hf, ht, hok, ht1, ht2, h24, h25, q⟩ := h
    refine ⟨_, (pss_cons (ps_asg (pv 0) (pg_tup (by rfl) (pgs_cons (pg_name (i := 2) sc_with_tie.nd rfl (by first | exact Or.inl rfl | exact Or.inr rfl)) (pgs_cons (pg_name (i := 3) sc_with_tie.nd rfl (by first | exact Or.inl rfl | exact Or.inr rfl)) pgs_nil))))
 (pss_one (ps_ret (pe_call (ok_put_in T) (hr.mono (by decide)) (by rfl) T.d_put_in.g T.d_put_in.F.kp T.d_put_in.b .nil pass0 (pa_cons (pv 2) (pa_cons (pv 3) (pa_cons (pe_ix ix_list (pe_call (ok_corners_at T) (hr.mono (by decide)) (by rfl) T.d_corners_at.g T.d_corners_at.F.kp T.d_corners_at.b .nil pass0 (pa_cons (pv 3) (pa_cons (pe_ix ix_tup (pv 1) pe_int (fun _ _ => rfl)) pa_nil))) pe_int (fun _ _ => rfl)) (pa_cons (pe_ix ix_list (pe_call (ok_corners_at T) (hr.mono (by decide)) (by rfl) T.d_corners_at.g T.d_corners_at.F.kp T.d_corners_at.b .nil pass0 (pa_cons (pv 3) (pa_cons (pe_ix ix_tup (pv 1) pe_int (fun _ _ => rfl)) pa_nil))) pe_int (fun _ _ => rfl)) pa_nil)))))))), ?_⟩
    obtain ⟨a, x, y, rfl, sF, dw, oy⟩ := hf
    refine ⟨_, rfl, a, _, rfl, sF, rfl, _, _, rfl, _, _, rfl, rfl, ?_⟩
    have g1 := hok.get ht1
    have g2 := hok.get ht2
    refine ⟨_, rfl, _, rfl, _, rfl, _, rfl, ?_⟩
    dsimp only [tRet, tOp, tVar, tC, tCB, tCons, tNil]
    refine (tie_two ht).1 ?_
    refine ⟨y, fl.2, t.1, _, rfl, ord_dp oy, g1, fun H1 D1 ys1 s1 nD1 hD1 dp1 => ?_⟩
    obtain ⟨vc, hc1, hc2⟩ := dpAll_get dp1 (show ((cornersAt fl.2 t.1).map corD)[0]? = some (corD (firstC fl.2 t.1)) by rw [List.getElem?_map, firstC_at]; rfl)
    refine ⟨D1, ys1, _, _, rfl, rfl, .inl (.inl hD1), atI_nat (j := 0) hc1, ?_⟩
    refine ⟨_, rfl, _, rfl, ?_⟩
    dsimp only [tRet, tOp, tVar, tC, tCB, tCons, tNil]
    refine (tie_two (dp_mono s1 ht)).2 ?_
    refine ⟨y, fl.2, t.2, _, rfl, ord_dp (ord_mono s1 oy), g2, fun H2 D2 ys2 s2 nD2 hD2 dp2 => ?_⟩
    obtain ⟨vd, hd1, hd2⟩ := dpAll_get dp2 (show ((cornersAt fl.2 t.2).map corD)[0]? = some (corD (firstC fl.2 t.2)) by rw [List.getElem?_map, firstC_at]; rfl)
    refine ⟨D2, ys2, _, _, rfl, rfl, .inl (.inl hD2), atI_nat (j := 0) hd1, ?_⟩
    exact ⟨x, y, vc, vd, fl.1, fl.2, _, _, rfl, dp_mono (s1.trans s2) dw, ord_mono (s1.trans s2) oy, dp_mono s2 hc2, hd2, hok, (firstC_ok hok ht1).1, (firstC_ok hok ht2).1, h24, h25, fun H' v s3 hv => q H' v ((s1.trans s2).trans s3) hv⟩
def sp_in_one (K : PySem.W.Frag) : Sp := fun vs H Q _ => ∃ (v vp : V) (fl fl' : Floor) (t : Nat × Nat) (F : List (List Nat)), vs = [v, vp] ∧ FloorAt K H v fl ∧ Dp K H vp (tieD t) ∧ FloorOK fl.1 fl.2 ∧ t.1 < fl.1.1 ∧ t.2 < fl.1.1 ∧ fl.1.2.length < 24 ∧ fl.1.1 ≤ 25 ∧
  Faces fl.1 fl.2 F ∧ (∀ r ∈ fl.2, r ≠ []) ∧ inOne fl t = some fl' ∧ ∀ H' v, Same H H' → FloorAt K H' v fl' → Q v H'
theorem ok_in_one : FnOk P w K mg base CX0 6 T.d_in_one.f T.d_in_one.fd ["floor", "pair"] (sp_in_one K) := by
  refine T.d_in_one.ok sc_in_one (fun vs H Q E h => ?_) (fun cdv A outer s H vs Q E hr h => ?_)
  · obtain ⟨v, vp, fl, fl', t, F, rfl, _⟩ := h; rfl
  · obtain ⟨v, vp, fl, fl', t, F, rfl, hf, ht, hok, ht1, ht2, h24, h25, hF, hne, hin, q⟩ := h
    refine ⟨_, (pss_cons (ps_asg (pv 0) (pg_tup (by rfl) (pgs_cons (pg_name (i := 2) sc_in_one.nd rfl (by first | exact Or.inl rfl | exact Or.inr rfl)) (pgs_cons (pg_name (i := 3) sc_in_one.nd rfl (by first | exact Or.inl rfl | exact Or.inr rfl)) pgs_nil))))
 (pss_cons (ps_for PassesOwn.never rfl (pi_list (pe_call (ok_corners_at T) (hr.mono (by decide)) (by rfl) T.d_corners_at.g T.d_corners_at.F.kp T.d_corners_at.b .nil pass0 (pa_cons (pv 3) (pa_cons (pe_ix ix_tup (pv 1) pe_int (fun _ _ => rfl)) pa_nil)))) (pg_name (i := 4) sc_in_one.nd rfl (by first | exact Or.inl rfl | exact Or.inr rfl))
  (pss_one (ps_for PassesOwn.never rfl (pi_list (pe_call (ok_corners_at T) (hr.mono (by decide)) (by rfl) T.d_corners_at.g T.d_corners_at.F.kp T.d_corners_at.b .nil pass0 (pa_cons (pv 3) (pa_cons (pe_ix ix_tup (pv 1) pe_int (fun _ _ => rfl)) pa_nil)))) (pg_name (i := 5) sc_in_one.nd rfl (by first | exact Or.inl rfl | exact Or.inr rfl))
  (pss_cons (ps_set (i := 6) sc_in_one.nd rfl (by first | exact Or.inl rfl | exact Or.inr rfl) (pe_call (ok_put_in T) (hr.mono (by decide)) (by rfl) T.d_put_in.g T.d_put_in.F.kp T.d_put_in.b .nil pass0 (pa_cons (pv 2) (pa_cons (pv 3) (pa_cons (pv 4) (pa_cons (pv 5) pa_nil))))))
 (pss_one (ps_if (pt_cmpR op_eq (pe_callB call_len_seq (by rfl) T.n_len (by decide +kernel) (pa_cons (pe_call (ok_faces T) (hr.mono (by decide)) (by rfl) T.d_faces.g T.d_faces.F.kp T.d_faces.b .nil pass0 (pa_cons (pe_ix ix_tup (pv 6) pe_int (fun _ _ => rfl)) (pa_cons (pe_ix ix_tup (pv 6) pe_int (fun _ _ => rfl)) pa_nil))) pa_nil)) pe_int (nomark _))
  (pss_one (ps_ret (pv 6))) pss_nil))))))
 (pss_one (ps_ret pe_non)))), ?_⟩
    obtain ⟨a, x, y, rfl, sF, dw, oy⟩ := hf
    refine ⟨_, rfl, a, _, rfl, sF, rfl, _, _, rfl, _, _, rfl, rfl, ?_⟩
    have g1 := hok.get ht1
    have g2 := hok.get ht2
    have bad0 := nfaces
    obtain ⟨pa, rfl, ps⟩ := tie_vals ht
    refine ⟨_, rfl, _, rfl, pa, _, _, _, rfl, rfl, ps, atI_nat (j := 0) rfl, ?_⟩
    refine ⟨y, fl.2, t.1, _, rfl, ord_dp oy, g1, fun H1 D1 ys1 s1 nD1 hD1 dp1 => ?_⟩
    have yl1 := dpAll_len dp1
    rw [List.length_map] at yl1
    refine ⟨D1, rfl, ⟨_, .inl (.inl hD1)⟩, for_list (K := K) (a := D1) (xs := ys1) (fun i σ H' => ∃ y4 y5 y6, σ = [some (.ref a), some (.ref pa), some x, some y, y4, y5, y6] ∧ Same H1 H' ∧ ∀ c' ∈ (cornersAt fl.2 t.1).take i, ∀ d' ∈ cornersAt fl.2 t.2, nfaces (putIn fl.1 fl.2 c' d').1 (putIn fl.1 fl.2 c' d').2 ≠ 1)
      ⟨none, none, none, rfl, Same.refl _, fun c' h => by rw [List.take_zero] at h; cases h⟩ (fun i σ H' _ ⟨_, _, _, _, sm, _⟩ => .inl (.inl (sm _ _ hD1))) ?_ ?_⟩
    · rintro i vc σ H2 hvc ⟨y4, y5, y6, rfl, sm, bad⟩
      obtain ⟨dc, hdc, dcv⟩ := dpAll_at dp1 hvc
      obtain ⟨c, hc, rfl⟩ := map_get hdc
      have sH2 := s1.trans sm
      refine ⟨_, rfl, _, rfl, pa, _, _, _, rfl, rfl, same_sqt sH2 ps, atI_nat (j := 1) rfl, ?_⟩
      refine ⟨y, fl.2, t.2, _, rfl, ord_dp (ord_mono sH2 oy), g2, fun H3 D2 ys2 s3 nD2 hD2 dp2 => ?_⟩
      have yl2 := dpAll_len dp2
      rw [List.length_map] at yl2
      refine ⟨D2, rfl, ⟨_, .inl (.inl hD2)⟩, for_list (K := K) (a := D2) (xs := ys2) (fun j σ H' => ∃ y5 y6, σ = [some (.ref a), some (.ref pa), some x, some y, some vc, y5, y6] ∧ Same H3 H' ∧ ∀ d' ∈ (cornersAt fl.2 t.2).take j, nfaces (putIn fl.1 fl.2 c d').1 (putIn fl.1 fl.2 c d').2 ≠ 1)
        ⟨y5, y6, rfl, Same.refl _, fun c' h => by rw [List.take_zero] at h; cases h⟩ (fun i σ H' _ ⟨_, _, _, sm, _⟩ => .inl (.inl (sm _ _ hD2))) ?_ ?_⟩
      · rintro j vd σ H4 hvd ⟨z5, z6, rfl, sm4, bad2⟩
        obtain ⟨dd2, hdd, ddv⟩ := dpAll_at dp2 hvd
        obtain ⟨d, hd, rfl⟩ := map_get hdd
        have sH4 := (sH2.trans s3).trans sm4
        have cok := (corners_ok hok ht1 (List.mem_of_getElem? hc)).1
        have dok := (corners_ok hok ht2 (List.mem_of_getElem? hd)).1
        refine ⟨_, rfl, _, rfl, _, rfl, _, rfl, x, y, vc, vd, fl.1, fl.2, c, d, rfl, dp_mono sH4 dw, ord_mono sH4 oy, dp_mono ((sm.trans s3).trans sm4) dcv, dp_mono sm4 ddv, hok, cok, dok, h24, h25, fun H5 vf s5 hvf => ?_⟩
        obtain ⟨a5, x5, y5', rfl, sF5, dw5, oy5⟩ := hvf
        refine ⟨_, rfl, a5, _, _, _, rfl, rfl, sF5, atI_nat (j := 0) rfl, ?_⟩
        refine ⟨_, rfl, a5, _, _, _, rfl, rfl, sF5, atI_nat (j := 1) rfl, ?_⟩
        obtain ⟨G, hG, _⟩ := put_any hok cok dok hF
        have okp := putIn_ok hok cok dok
        have wl : (putIn fl.1 fl.2 c d).1.2.length ≤ 24 := by
          show (fl.1.2 ++ [_]).length ≤ 24
          rw [List.length_append, List.length_singleton]
          omega
        refine ⟨x5, y5', _, _, G, rfl, dw5, oy5, okp, wl, h25, hG, putIn_ne c d hne, fun H6 D6 ys6 s6 nD6 hD6 l6 => ?_⟩
        refine ⟨D6, ys6, rfl, .inl (.inl (.inl hD6)), rfl, _, rfl, ?_⟩
        rw [l6, show decide (V.int (G.length : Nat) = V.int 1) = decide (G.length = 1) from int_eq _ 1, ← nfaces_eq hG]
        refine ite2 (fun e => ?_) (fun e => ?_)
        · have e1 := of_decide_eq_true e
          have hit := inOne_hit hc hd bad bad2 e1
          rw [hin] at hit
          have e2 := Option.some.inj hit
          refine ⟨_, rfl, ?_⟩
          refine q _ _ ((sH4.trans s5).trans s6) ?_
          rw [e2]
          exact floor_mono s6 ⟨a5, x5, y5', rfl, sF5, dw5, oy5⟩
        · refine ⟨_, _, rfl, (sm4.trans s5).trans s6, fun d' hd' => ?_⟩
          rw [List.take_add_one, hd] at hd'
          rcases List.mem_append.mp hd' with h | h
          · exact bad2 d' h
          · have : d' = d := by simpa using h
            rw [this]
            exact fun z => e (decide_eq_true z)
      · rintro σ H4 ⟨z5, z6, rfl, sm4, bad2⟩
        refine ⟨_, _, _, rfl, (sm.trans s3).trans sm4, fun c' hc' => ?_⟩
        rw [List.take_add_one, hc] at hc'
        rcases List.mem_append.mp hc' with h | h
        · exact bad c' h
        · have : c' = c := by simpa using h
          rw [this]
          rw [yl2, List.take_length] at bad2
          exact bad2
    · rintro σ H2 ⟨y4, y5, y6, rfl, sm, bad⟩
      rw [yl1, List.take_length] at bad
      exact (inOne_miss hin bad).elim
end
end HF
end

section
set_option Elab.async false
set_option linter.all false
set_option autoImplicit false
set_option maxRecDepth 100000
set_option maxHeartbeats 4000000
namespace HF
open PySem PySem.Spec PyProof.Rows L2
section
theorem inV_ints (x : Nat) (r : List Nat) : inV (.int (x : Nat)) (intsV r) = decide (x ∈ r) := by
  unfold inV intsV
  rw [List.any_map]
  by_cases h : x ∈ r
  · rw [decide_eq_true h, List.any_eq_true]
    exact ⟨x, h, by show eqV (.int (x : Nat)) (.int (x : Nat)) = true; rw [eqV_int, decide_eq_true rfl]⟩
  · rw [decide_eq_false h, List.any_eq_false]
    intro y hy e
    have e2 : eqV (.int (y : Nat)) (.int (x : Nat)) = true := e
    rw [eqV_int] at e2
    exact h (of_decide_eq_true e2 ▸ hy)
theorem tie_ints {K : PySem.W.Frag} {H : Hp} {v : V} {t : Nat × Nat} (h : Dp K H v (tieD t)) : ∃ a, v = .ref a ∧ SqT K H a (intsV [t.1, t.2]) := tie_vals h
theorem place_tie2 {w : Web} {k : Nat} (h : k < w.2.length) : w.2[k]? = some (tieAt w k) := by
  unfold tieAt
  rw [List.getD_eq_getElem?_getD, List.getElem?_eq_getElem h]
  rfl
/-- the ties that a row of numbers names -/
theorem named {K : PySem.W.Frag} {H : Hp} {W : Web} {ts : List V} (dt : DpAll K H ts (W.2.map tieD)) : ∀ (t : List Nat), (∀ x ∈ t, x < W.2.length) →
    DpAll K H ((List.range t.length).filterMap fun i => match t[i]? with | some k => ts[k]? | none => none) ((t.map (tieAt W)).map tieD) := by
  intro t ht
  have : ∀ n, n ≤ t.length → DpAll K H ((List.range n).filterMap fun i => match t[i]? with | some k => ts[k]? | none => none) (((t.take n).map (tieAt W)).map tieD) := by
    intro n
    induction n with
    | zero => intro _; exact .nil
    | succ n ih =>
      intro hn
      rw [fm_succ, List.take_add_one, List.getElem?_eq_getElem (by omega), List.map_append, List.map_append]
      have hk := ht t[n] (List.getElem_mem (by omega))
      obtain ⟨u, hu, du⟩ := dpAll_get dt (show (W.2.map tieD)[t[n]]? = some (tieD (tieAt W t[n])) by rw [List.getElem?_map, place_tie2 hk]; rfl)
      refine dpAll_app (ih (by omega)) ?_
      show DpAll K H (match ts[t[n]]? with | some y => [y] | none => []) _
      rw [hu]
      exact .cons du .nil
  have h2 := this t.length (Nat.le_refl _)
  rw [List.take_length] at h2
  exact h2
/-- an item of the ties -/
theorem tie_item {K : PySem.W.Frag} {H : Hp} {W : Web} {v : V} (h : Dp K H v (webD W)) {k : Nat} (hk : k < W.2.length) {Q : VK} (q : ∀ u, Dp K H u (tieD (tieAt W k)) → Q u H) : rIxT K v (.int 1) H fun u H1 => rIxT K u (.int (k : Nat)) H1 Q :=
  ixT h (j := 1) (d := tiesD W.2) rfl rfl fun u hu => ixT hu (j := k) (d := tieD (tieAt W k)) (by rw [List.getElem?_map, place_tie2 hk]; rfl) rfl q
def Par (H : Hp) (K : PySem.W.Frag) (v : V) (r : List Nat) : Prop := Dp K H v (tupN r)
end
section
variable {P : Program} {w : World} {K : PySem.W.Frag} {mg : Str → Option Value} {base : Heap} (T : Tx K mg)
def sp_is_tree (K : PySem.W.Frag) : Sp := fun vs H Q _ => ∃ (v vt : V) (W : Web) (t : List Nat), vs = [v, vt] ∧ Dp K H v (webD W) ∧ Dp K H vt (tupN t) ∧ InR W.1 W.2 ∧ W.1 ≤ 25 ∧ W.2.length ≤ 24 ∧ t.length ≤ 100 ∧ ∀ H' b, Same H H' → (b = true ↔ isTree W t) → Q (.bl b) H'
theorem ok_is_tree : FnOk P w K mg base CX0 4 T.d_is_tree.f T.d_is_tree.fd ["web", "tree"] (sp_is_tree K) := by
  refine T.d_is_tree.ok sc_is_tree (fun vs H Q E h => ?_) (fun cdv A outer s H vs Q E hr h => ?_)
  · obtain ⟨v, vt, W, t, rfl, _⟩ := h; rfl
  · obtain ⟨v, vt, W, t, rfl, hv, ht, hin, h25, h24, ht9, q⟩ := h
    refine ⟨_, (pss_cons (ps_if (PW.pt (pw_or (pt_not (pt_val (pe_call (ok_is_rising T) (hr.mono (by decide)) (by rfl) T.d_is_rising.g T.d_is_rising.F.kp T.d_is_rising.b .nil pass0 (pa_cons (pv 1) (pa_cons (pe_callB call_len_seq (by rfl) T.n_len (by decide +kernel) (pa_cons (pe_ix ix_tup (pv 0) pe_int (fun _ _ => rfl)) pa_nil)) pa_nil))))) (pw_or1 (pt_cmpR op_ne (pe_callB call_len_seq (by rfl) T.n_len (by decide +kernel) (pa_cons (pv 1) pa_nil)) (pe_op op_sub (pe_ix ix_tup (pv 0) pe_int (fun _ _ => rfl)) pe_int) (nomark _)))))
  (pss_one (ps_ret pe_bl)) pss_nil)
 (pss_one (ps_ret (pe_cmpR op_eq (pe_callB call_len_seq (by rfl) T.n_len (by decide +kernel) (pa_cons (pe_call (ok_parts_by T) (hr.mono (by decide)) (by rfl) T.d_parts_by.g T.d_parts_by.F.kp T.d_parts_by.b .nil pass0 (pa_cons (pe_ix ix_tup (pv 0) pe_int (fun _ _ => rfl)) (pa_cons (pe_lc (own := [("tie", 2)]) (g := (gName 2)) (by rfl) sc_is_tree.nd (pi_tup (pv 1)) (blkOk_by (own := [("tie", 2)]) (N := ["web", "tree", "tie"]) (sc := defScope s_is_tree) (by decide +kernel)) (fun _ _ _ _ _ => (pg_name (i := 2) sc_is_tree.nd rfl (by first | exact Or.inl rfl | exact Or.inr rfl))) (fun _ _ _ _ _ => pts_nil) (fun _ _ _ _ _ => (pe_ix (ix_tupK (K := K) rfl) (pe_ix (ix_tupK (K := K) rfl) (pv 0) pe_int (fun _ _ => rfl)) (pv 2) (fun _ _ => rfl)))) pa_nil))) pa_nil)) pe_int (nomark _))))), ?_⟩
    obtain ⟨wa, tb, ts, rfl, sw, st, dt⟩ := web_vals hv
    have tl := dpAll_len dt
    rw [List.length_map] at tl
    obtain ⟨ta, rfl, sT⟩ := tup_ints ht
    refine ⟨_, rfl, _, rfl, wa, _, _, _, rfl, rfl, sw, atI_nat (j := 1) rfl, tb, ts, rfl, .inr st, ?_⟩
    refine ⟨.ref ta, t, W.2.length, by show [V.ref ta, V.int (ts.length : Nat)] = _; rw [tl], ht, by omega, fun H1 s1 => ?_⟩
    cases hri : rises t W.2.length with
    | false =>
      refine ⟨false, rfl, iteT ?_⟩
      exact q H1 false s1 ⟨fun h => (by cases h), fun h => by rw [(rises_iff _ _).mpr ⟨h.1, h.2.1⟩] at hri; cases hri⟩
    | true =>
      have hri2 := (rises_iff _ _).mp hri
      refine ⟨true, rfl, iteF ?_⟩
      refine ⟨_, rfl, ta, _, rfl, .inr (same_sqt s1 sT), ?_⟩
      refine ⟨_, rfl, wa, _, _, _, rfl, rfl, same_sqt s1 sw, atI_nat (j := 0) rfl, _, _, rfl, rfl, rfl, _, rfl, ?_⟩
      by_cases hl : t.length + 1 = W.1
      · have e1 : (!decide (V.int ((intsV t).length : Nat) = V.int ((W.1 : Nat) - 1 : Int))) = false := by
          rw [intsV_len, decide_eq_true (by congr 1; omega)]
          rfl
        rw [e1]
        refine ⟨_, rfl, wa, _, _, _, rfl, rfl, same_sqt s1 sw, atI_nat (j := 0) rfl, ?_⟩
        refine ⟨_, rfl, ta, rfl, ⟨_, same_sqt s1 sT⟩, fun D nD => ?_⟩
        refine lcT_pure (fun i => match t[i]? with | some k => ts[k]? | none => none) (same_sqt s1 sT) nD (by rw [intsV_len]; omega) (fun i x H2 hx sm k n hk hn => ?_) (fun H2 sm hD2 => ?_)
        · obtain ⟨m, hm, rfl⟩ := intsV_at hx
          have hml := hri2.2 m (List.mem_of_getElem? hm)
          have s2 := s1.trans sm
          refine ⟨rfl, yesT ?_⟩
          obtain ⟨u, hu⟩ : ∃ u, ts[m]? = some u := ⟨_, List.getElem?_eq_getElem (by omega)⟩
          refine ⟨_, rfl, wa, _, _, _, rfl, rfl, same_sqt s2 sw, atI_nat (j := 1) rfl, _, rfl, tb, _, _, _, rfl, rfl, same_sqt s2 st, atI_nat hu, ?_⟩
          exact hk _ _ (Same.refl _) (by rw [hm]; exact hu)
        · have s2 := s1.trans sm
          rw [intsV_len] at hD2
          refine ⟨W.1, D, _, t.map (tieAt W), rfl, .inl (.inl (.inl hD2)), named (dpAll_mono s2 dt) t hri2.2, fun z hz => ?_, h25, by rw [List.length_map]; omega, fun H3 D3 ys s3 nD3 hD3 yl => ?_⟩
          · obtain ⟨m, hm, rfl⟩ := List.mem_map.mp hz
            exact tie_lt hin (hri2.2 m hm)
          · refine ⟨D3, ys, rfl, .inl (.inl (.inl hD3)), rfl, ?_⟩
            have e2 : decide (V.int (ys.length : Nat) = V.int 1) = decide (ys.length = 1) := int_eq _ 1
            show Q (.bl (decide (V.int (ys.length : Nat) = V.int 1))) H3
            rw [e2]
            refine q _ _ (s2.trans s3) ⟨fun h => ⟨hri2.1, hri2.2, hl, by rw [← yl]; exact of_decide_eq_true h⟩, fun h => decide_eq_true (by rw [yl]; exact h.2.2.2)⟩
      · have e1 : (!decide (V.int ((intsV t).length : Nat) = V.int ((W.1 : Nat) - 1 : Int))) = true := by
          rw [intsV_len, decide_eq_false (fun h => hl (by injection h with h; omega))]
          rfl
        rw [e1]
        exact q H1 false s1 ⟨fun h => (by cases h), fun h => absurd h.2.2.1 hl⟩
def sp_in_common (K : PySem.W.Frag) : Sp := fun vs H Q _ => ∃ (v : V) (W : Web) (i j : Nat), vs = [v, .int i, .int j] ∧ Dp K H v (webD W) ∧ i < W.2.length ∧ j < W.2.length ∧ ∀ H' D, Same H H' → H D = none → H' D = some (.lst (intsV (common W i j))) → Q (.ref D) H'
theorem ok_in_common : FnOk P w K mg base CX0 1 T.d_in_common.f T.d_in_common.fd ["web", "i", "j"] (sp_in_common K) := by
  refine T.d_in_common.ok sc_in_common (fun vs H Q E h => ?_) (fun cdv A outer s H vs Q E hr h => ?_)
  · obtain ⟨v, W, i, j, rfl, _⟩ := h; rfl
  · obtain ⟨v, W, i, j, rfl, hv, hi, hj, q⟩ := h
    refine ⟨_, (pss_one (ps_ret (pe_lc (own := [("place", 3)]) (g := (gName 3)) (by rfl) sc_in_common.nd (pi_tup (pe_ix ix_tup (pe_ix ix_tup (pv 0) pe_int (fun _ _ => rfl)) (pv 1) (fun _ _ => rfl))) (blkOk_by (own := [("place", 3)]) (N := ["web", "i", "j", "place"]) (sc := defScope s_in_common) (by decide +kernel)) (fun _ _ _ _ _ => (pg_name (i := 3) sc_in_common.nd rfl (by first | exact Or.inl rfl | exact Or.inr rfl))) (fun _ _ _ _ _ => (pts_one (pt_cmpR (op_in_seqK (K := K) rfl) (pv 3) (pe_ix (ix_tupK (K := K) rfl) (pe_ix (ix_tupK (K := K) rfl) (pv 0) pe_int (fun _ _ => rfl)) (pv 2) (fun _ _ => rfl)) (by rfl)))) (fun _ _ _ _ _ => (pv 3))))), ?_⟩
    obtain ⟨wa, tb, ts, rfl, sw, st, dt⟩ := web_vals hv
    obtain ⟨u, hu, du⟩ := dpAll_get dt (show (W.2.map tieD)[i]? = some (tieD (tieAt W i)) by rw [List.getElem?_map, place_tie2 hi]; rfl)
    obtain ⟨u2, hu2, du2⟩ := dpAll_get dt (show (W.2.map tieD)[j]? = some (tieD (tieAt W j)) by rw [List.getElem?_map, place_tie2 hj]; rfl)
    obtain ⟨a, rfl, sa⟩ := tie_ints du
    obtain ⟨b, rfl, sb⟩ := tie_ints du2
    refine ⟨_, rfl, wa, _, _, _, rfl, rfl, sw, atI_nat (j := 1) rfl, _, rfl, tb, _, _, _, rfl, rfl, st, atI_nat hu, ?_⟩
    refine ⟨a, rfl, ⟨_, sa⟩, fun D nD => ?_⟩
    refine lcT_pure (fun k => match [(tieAt W i).1, (tieAt W i).2][k]? with | some x => if decide (x = (tieAt W j).1 ∨ x = (tieAt W j).2) = true then some (.int (x : Nat)) else none | none => none) sa nD (by rw [intsV_len]; show 2 ≤ 999; omega) (fun k x H2 hx sm kk n hk hn => ?_) (fun H2 sm hD2 => ?_)
    · obtain ⟨m, hm, rfl⟩ := intsV_at hx
      refine ⟨rfl, ?_⟩
      refine ⟨_, rfl, _, rfl, wa, _, _, _, rfl, rfl, same_sqt sm sw, atI_nat (j := 1) rfl, _, rfl, tb, _, _, _, rfl, rfl, same_sqt sm st, atI_nat hu2, ?_⟩
      refine ⟨b, _, rfl, .inr (same_sqt sm sb), rfl, ints_flat _, _, rfl, ?_⟩
      have e1 : inV (.int (m : Nat)) (intsV [(tieAt W j).1, (tieAt W j).2]) = decide (m = (tieAt W j).1 ∨ m = (tieAt W j).2) := by
        rw [inV_ints]
        exact decide_eq_decide.mpr (by simp)
      show if (inV (.int (m : Nat)) (intsV [(tieAt W j).1, (tieAt W j).2])) = true then _ else _
      rw [e1]
      rw [hm] at hk hn
      refine ite2 (fun e => ⟨_, rfl, hk _ _ (Same.refl _) (if_pos e)⟩) (fun e => hn _ (Same.refl _) (if_neg e))
    · refine q H2 D sm nD ?_
      rw [hD2]
      have := fm_sel [(tieAt W i).1, (tieAt W i).2] (fun x => decide (x = (tieAt W j).1 ∨ x = (tieAt W j).2)) (fun (n : Nat) => V.int n) 2 rfl
      exact congrArg (fun z => some (HO.lst z)) this
def sp_is_pair (K : PySem.W.Frag) : Sp := fun vs H Q _ => ∃ (v vp : V) (W : Web) (p : Nat × Nat), vs = [v, vp] ∧ Dp K H v (webD W) ∧ Dp K H vp (tieD p) ∧ ∀ H' b, Same H H' → (b = true ↔ isPair W p) → Q (.bl b) H'
theorem ok_is_pair : FnOk P w K mg base CX0 3 T.d_is_pair.f T.d_is_pair.fd ["web", "pair"] (sp_is_pair K) := by
  refine T.d_is_pair.ok sc_is_pair (fun vs H Q E h => ?_) (fun cdv A outer s H vs Q E hr h => ?_)
  · obtain ⟨v, vp, W, p, rfl, _⟩ := h; rfl
  · obtain ⟨v, vp, W, p, rfl, hv, hp, q⟩ := h
    refine ⟨_, (pss_cons (ps_if (PW.pt (pw_or (pt_not (pt_val (pe_callB call_isi (by rfl) T.n_isinstance (by decide +kernel) (pa_cons (pv 1) (pa_cons (pe_bltn (v := .ty "tuple") (by rfl) T.n_tuple (by decide +kernel) rfl) pa_nil))))) (pw_or (pt_cmpR op_ne (pe_callB call_len_seq (by rfl) T.n_len (by decide +kernel) (pa_cons (pv 1) pa_nil)) pe_int (nomark _)) (pw_or1 (pt_not (pt_val (pe_call (ok_are_whole T) (hr.mono (by decide)) (by rfl) T.d_are_whole.g T.d_are_whole.F.kp T.d_are_whole.b .nil pass0 (pa_cons (pv 1) pa_nil))))))))
  (pss_one (ps_ret pe_bl)) pss_nil)
 (pss_cons (ps_if (PW.pt (pw_or (pt_cmpR op_lt (pe_ix ix_tup (pv 1) pe_int (fun _ _ => rfl)) pe_int (nomark _)) (pw_or (pt_cmpR op_ge (pe_ix ix_tup (pv 1) pe_int (fun _ _ => rfl)) (pe_ix ix_tup (pv 1) pe_int (fun _ _ => rfl)) (nomark _)) (pw_or1 (pt_cmpR op_ge (pe_ix ix_tup (pv 1) pe_int (fun _ _ => rfl)) (pe_callB call_len_seq (by rfl) T.n_len (by decide +kernel) (pa_cons (pe_ix ix_tup (pv 0) pe_int (fun _ _ => rfl)) pa_nil)) (nomark _))))))
  (pss_one (ps_ret pe_bl)) pss_nil)
 (pss_one (ps_ret (pe_cmpR (op_neD hr.units) (pe_call (ok_in_common T) (hr.mono (by decide)) (by rfl) T.d_in_common.g T.d_in_common.F.kp T.d_in_common.b .nil pass0 (pa_cons (pv 0) (pa_cons (pe_ix ix_tup (pv 1) pe_int (fun _ _ => rfl)) (pa_cons (pe_ix ix_tup (pv 1) pe_int (fun _ _ => rfl)) pa_nil)))) (pe_lst pa_nil) (nomark _)))))), ?_⟩
    obtain ⟨wa, tb, ts, rfl, sw, st, dt⟩ := web_vals hv
    have tl := dpAll_len dt
    rw [List.length_map] at tl
    obtain ⟨pa, rfl, sp⟩ := tie_vals hp
    refine ⟨_, rfl, .ref pa, .ty "tuple", .type "tuple", .type "tuple", true, rfl, .ty _, tyT sp, kit_ty (by decide +kernel), true, rfl, iteF ?_⟩
    refine ⟨_, rfl, pa, _, rfl, .inr sp, rfl, false, rfl, iteF ?_⟩
    refine ⟨_, rfl, pa, [(p.1 : Int), (p.2 : Int)], rfl, .inr sp, by show 2 ≤ 999; omega, fun H1 s1 => ⟨true, rfl, iteF ?_⟩⟩
    have sp1 := same_sqt s1 sp
    refine ⟨_, rfl, pa, _, _, _, rfl, rfl, sp1, atI_nat (j := 0) rfl, _, _, rfl, rfl, false, congrArg V.bl (decide_eq_false (by omega)), iteF ?_⟩
    refine ⟨_, rfl, pa, _, _, _, rfl, rfl, sp1, atI_nat (j := 0) rfl, _, rfl, pa, _, _, _, rfl, rfl, sp1, atI_nat (j := 1) rfl, _, _, rfl, rfl, ?_⟩
    by_cases h1 : p.1 < p.2
    · refine ⟨false, congrArg V.bl (decide_eq_false (by omega)), iteF ?_⟩
      refine ⟨_, rfl, pa, _, _, _, rfl, rfl, sp1, atI_nat (j := 1) rfl, _, rfl, wa, _, _, _, rfl, rfl, same_sqt s1 sw, atI_nat (j := 1) rfl, tb, ts, rfl, .inr (same_sqt s1 st), _, _, rfl, rfl, ?_⟩
      by_cases h2 : p.2 < W.2.length
      · refine ⟨false, congrArg V.bl (decide_eq_false (by omega)), iteF ?_⟩
        refine ⟨_, rfl, _, rfl, pa, _, _, _, rfl, rfl, sp1, atI_nat (j := 0) rfl, _, rfl, pa, _, _, _, rfl, rfl, sp1, atI_nat (j := 1) rfl, ?_⟩
        refine ⟨.ref wa, W, p.1, p.2, rfl, dp_mono s1 hv, by omega, h2, fun H2 D s2 nD hD => ?_⟩
        refine ⟨Nat.zero_le _, fun Z nZ => ?_⟩
        have s3 := same_upd (o := .lst []) nZ
        refine ⟨.list (intsD (common W p.1 p.2)), .list (intsD []), .lst (.inl (.inl (s3 _ _ hD))) (dpAll_ints _), .lst (.inl (.inl upd_same)) .nil, sh_shaped (sh_lst (sh_ints _)) (by omega), sh_shaped (sh_lst (sh_ints _)) (by omega), ?_⟩
        rw [eqv_lists]
        refine q _ _ ((s1.trans s2).trans s3) ⟨fun h => ⟨h1, h2, fun e => by rw [decide_eq_true e] at h; cases h⟩, fun h => by rw [decide_eq_false h.2.2]; rfl⟩
      · refine ⟨true, congrArg V.bl (decide_eq_true (by omega)), iteT ?_⟩
        exact q H1 false s1 ⟨fun h => (by cases h), fun h => absurd h.2.1 h2⟩
    · refine ⟨true, congrArg V.bl (decide_eq_true (by omega)), iteT ?_⟩
      exact q H1 false s1 ⟨fun h => (by cases h), fun h => absurd h.1 h1⟩
end
end HF
end

section
set_option Elab.async false
set_option linter.all false
set_option autoImplicit false
set_option maxRecDepth 100000
set_option maxHeartbeats 4000000
namespace HF
open PySem PySem.Spec PyProof.Rows L2
section
/-- the papers that are handed over -/
inductive Pap where
  | non
  | lst
  | tup (t : List Nat) (ps : List (Nat × Nat))
def PapAt (K : PySem.W.Frag) (H : Hp) (v : V) : Pap → Prop
  | .non => v = .non
  | .lst => ∃ a xs, v = .ref a ∧ H a = some (.lst xs)
  | .tup t ps => Dp K H v (.tuple [tupN t, tiesD ps])
theorem pap_mono {K : PySem.W.Frag} {H H' : Hp} (e : Same H H') {v : V} {pap : Pap} (h : PapAt K H v pap) : PapAt K H' v pap := by
  cases pap with
  | non => exact h
  | lst =>
    obtain ⟨a, xs, rfl, ha⟩ := h
    exact ⟨a, xs, rfl, e _ _ ha⟩
  | tup t ps => exact dp_mono e h
/-- the paper shows how many holes -/
def Pap.tells (W : Web) : Pap → Nat → Prop
  | .tup t ps, n => shows W t ps ∧ n = ps.length
  | _, _ => False
def Pap.few : Pap → Prop
  | .non => True
  | .lst => True
  | .tup t ps => t.length ≤ 100 ∧ ps.length ≤ 30
theorem pap_vals {K : PySem.W.Frag} {H : Hp} {v : V} {t : List Nat} {ps : List (Nat × Nat)} (h : Dp K H v (.tuple [tupN t, tiesD ps])) :
    ∃ a ta pb zs, v = .ref a ∧ SqT K H a [.ref ta, .ref pb] ∧ SqT K H ta (intsV t) ∧ SqT K H pb zs ∧ DpAll K H zs (ps.map tieD) := by
  obtain ⟨a, xs, rfl, s, d⟩ := dp_tup h
  cases d with
  | cons h1 d =>
    cases d with
    | cons h2 d =>
      cases d
      obtain ⟨ta, rfl, s1⟩ := tup_ints h1
      obtain ⟨pb, zs, rfl, s2, d2⟩ := dp_tup h2
      exact ⟨a, ta, pb, zs, rfl, s, s1, s2, d2⟩
theorem intsV_app (a b : List Nat) : intsV a ++ intsV b = intsV (a ++ b) := by unfold intsV; rw [List.map_append]
theorem isPair_notin {W : Web} {used : List Nat} {p : Nat × Nat} : pairsOK W used [p] ↔ isPair W p ∧ p.1 ∉ used ∧ p.2 ∉ used := by
  show (isPair W p ∧ p.1 ∉ used ∧ p.2 ∉ used) ∧ True ↔ _
  exact ⟨fun h => h.1, fun h => ⟨h, trivial⟩⟩
theorem pnames_snoc_opt (a : List (Nat × Nat)) (p : Nat × Nat) : pnames (a ++ (some p).toList) = pnames a ++ [p.1, p.2] := pnames_snoc a p
theorem pairs_stop {W : Web} {t : List Nat} {ps : List (Nat × Nat)} {i : Nat} {p : Nat × Nat} (h : ps[i]? = some p) (hp : pairsOK W t ps) : isPair W p ∧ p.1 ∉ t ++ pnames (ps.take i) ∧ p.2 ∉ t ++ pnames (ps.take i) := by
  obtain ⟨a, b, e, l⟩ := split_at h
  have ta : ps.take i = a := by rw [e, ← l]; exact List.take_left
  rw [ta]
  rw [e, pairsOK_app] at hp
  exact hp.2.1
end
section
variable {P : Program} {w : World} {K : PySem.W.Frag} {mg : Str → Option Value} {base : Heap} (T : Tx K mg)
def sp_tree_shows (K : PySem.W.Frag) : Sp := fun vs H Q _ => ∃ (v vp : V) (W : Web) (pap : Pap), vs = [v, vp] ∧ Dp K H v (webD W) ∧ PapAt K H vp pap ∧ pap.few ∧ InR W.1 W.2 ∧ W.1 ≤ 25 ∧ W.2.length ≤ 24 ∧
  ∀ H', Same H H' → (∀ n, pap.tells W n → Q (.int (n : Nat)) H') ∧ ((∀ n, ¬ pap.tells W n) → Q .non H')
theorem ok_tree_shows : FnOk P w K mg base CX0 5 T.d_tree_shows.f T.d_tree_shows.fd ["web", "paper"] (sp_tree_shows K) := by
  refine T.d_tree_shows.ok sc_tree_shows (fun vs H Q E h => ?_) (fun cdv A outer s H vs Q E hr h => ?_)
  · obtain ⟨v, vp, W, pap, rfl, _⟩ := h; rfl
  · obtain ⟨v, vp, W, pap, rfl, hv, hp, hfew, hin, h25, h24, q⟩ := h
    refine ⟨_, (pss_cons (ps_if (PW.pt (pw_or (pt_not (pt_val (pe_call (ok_is_one_part T) (hr.mono (by decide)) (by rfl) T.d_is_one_part.g T.d_is_one_part.F.kp T.d_is_one_part.b .nil pass0 (pa_cons (pv 0) pa_nil)))) (pw_or (pt_not (pt_val (pe_callB call_isi (by rfl) T.n_isinstance (by decide +kernel) (pa_cons (pv 1) (pa_cons (pe_bltn (v := .ty "tuple") (by rfl) T.n_tuple (by decide +kernel) rfl) pa_nil))))) (pw_or (pt_cmpR op_ne (pe_callB call_len_seq (by rfl) T.n_len (by decide +kernel) (pa_cons (pv 1) pa_nil)) pe_int (nomark _)) (pw_or1 (pt_not (pt_val (pe_call (ok_is_tree T) (hr.mono (by decide)) (by rfl) T.d_is_tree.g T.d_is_tree.F.kp T.d_is_tree.b .nil pass0 (pa_cons (pv 0) (pa_cons (pe_ix ix_tup (pv 1) pe_int (fun _ _ => rfl)) pa_nil))))))))))
  (pss_one (ps_ret pe_non)) pss_nil)
 (pss_cons (ps_if (pt_not (pt_val (pe_callB call_isi (by rfl) T.n_isinstance (by decide +kernel) (pa_cons (pe_ix ix_tup (pv 1) pe_int (fun _ _ => rfl)) (pa_cons (pe_bltn (v := .ty "tuple") (by rfl) T.n_tuple (by decide +kernel) rfl) pa_nil)))))
  (pss_one (ps_ret pe_non)) pss_nil)
 (pss_cons (ps_set (i := 2) sc_tree_shows.nd rfl (by first | exact Or.inl rfl | exact Or.inr rfl) (pe_callTy call_list_of (by rfl) T.n_list (by decide +kernel) (pa_cons (pe_ix ix_tup (pv 1) pe_int (fun _ _ => rfl)) pa_nil)))
 (pss_cons (ps_for PassesOwn.never rfl (pi_tup (pe_ix ix_tup (pv 1) pe_int (fun _ _ => rfl))) (pg_name (i := 3) sc_tree_shows.nd rfl (by first | exact Or.inl rfl | exact Or.inr rfl))
  (pss_cons (ps_if (PW.pt (pw_or (pt_not (pt_val (pe_call (ok_is_pair T) (hr.mono (by decide)) (by rfl) T.d_is_pair.g T.d_is_pair.F.kp T.d_is_pair.b .nil pass0 (pa_cons (pv 0) (pa_cons (pv 3) pa_nil))))) (pw_or (pt_cmpR op_in_seq (pe_ix ix_tup (pv 3) pe_int (fun _ _ => rfl)) (pv 2) (by rfl)) (pw_or1 (pt_cmpR op_in_seq (pe_ix ix_tup (pv 3) pe_int (fun _ _ => rfl)) (pv 2) (by rfl))))))
  (pss_one (ps_ret pe_non)) pss_nil)
 (pss_one (ps_expr (pe_bm PySem.F.plainAttrs_list PySem.F.slot_list_extend PySem.F.type_list_extend mt_extendT (pv 2) (pa_cons (pv 3) pa_nil))))))
 (pss_one (ps_ret (pe_callB call_len_seq (by rfl) T.n_len (by decide +kernel) (pa_cons (pe_ix ix_tup (pv 1) pe_int (fun _ _ => rfl)) pa_nil)))))))), ?_⟩
    refine ⟨_, rfl, v, W, rfl, hv, hin, h25, h24, fun H1 s1 => ?_⟩
    by_cases hone : nparts W.1 W.2 = 1
    · refine ⟨true, congrArg V.bl (decide_eq_true hone), iteF ?_⟩
      have hp1 := pap_mono s1 hp
      cases pap with
      | non =>
        cases (show vp = .non from hp)
        exact ⟨_, rfl, .non, .ty "tuple", .type "NoneType", .type "tuple", false, rfl, .ty _, .base .non, kit_ty (by decide +kernel), false, rfl, iteT ((q H1 s1).2 fun n hn => hn)⟩
      | lst =>
        obtain ⟨a, xs, rfl, sa⟩ := hp1
        exact ⟨_, rfl, .ref a, .ty "tuple", .type "list", .type "tuple", false, rfl, .ty _, .base (.lst sa), kit_ty (by decide +kernel), false, rfl, iteT ((q H1 s1).2 fun n hn => hn)⟩
      | tup t ps =>
        obtain ⟨ht9, hp9⟩ := hfew
        obtain ⟨a, ta, pb, zs, rfl, sa, sT, sP, dP⟩ := pap_vals hp1
        have zl := dpAll_len dP
        rw [List.length_map] at zl
        refine ⟨_, rfl, .ref a, .ty "tuple", .type "tuple", .type "tuple", true, rfl, .ty _, tyT sa, kit_ty (by decide +kernel), true, rfl, iteF ?_⟩
        refine ⟨_, rfl, a, _, rfl, .inr sa, rfl, false, rfl, iteF ?_⟩
        refine ⟨_, rfl, _, rfl, a, _, _, _, rfl, rfl, sa, atI_nat (j := 0) rfl, ?_⟩
        refine ⟨v, .ref ta, W, t, rfl, dp_mono s1 hv, tupN_of sT, hin, h25, h24, ht9, fun H2 b s2 hb => ⟨b, rfl, ?_⟩⟩
        have s12 := s1.trans s2
        cases b with
        | false => exact iteT ((q H2 s12).2 fun n hn => by cases hb.mpr hn.1.2.1)
        | true =>
          have htree := hb.mp rfl
          refine iteF ?_
          refine ⟨_, rfl, a, _, _, _, rfl, rfl, same_sqt s2 sa, atI_nat (j := 1) rfl, .ref pb, .ty "tuple", .type "tuple", .type "tuple", true, rfl, .ty _, tyT (same_sqt s2 sP), kit_ty (by decide +kernel), true, rfl, iteF ?_⟩
          refine ⟨_, rfl, a, _, _, _, rfl, rfl, same_sqt s2 sa, atI_nat (j := 0) rfl, ta, _, rfl, .inr (same_sqt s2 sT), fun U nU => ?_⟩
          have sU : Same H2 (upd H2 U (.lst (intsV t))) := same_upd nU
          have nUH : H U = none := s12.free nU
          refine ⟨_, rfl, a, _, _, _, rfl, rfl, same_sqt (s2.trans sU) sa, atI_nat (j := 1) rfl, pb, rfl, ⟨_, same_sqt (s2.trans sU) sP⟩, for_tup (K := K) (a := pb) (xs := zs) (fun i σ H' => ∃ y3, σ = [some v, some (.ref a), some (.ref U), y3] ∧ Same H2 H' ∧ H' U = some (.lst (intsV (t ++ pnames (ps.take i)))) ∧ pairsOK W t (ps.take i))
            ⟨none, rfl, sU, by rw [upd_same]; show some (HO.lst (intsV t)) = some (HO.lst (intsV (t ++ []))); rw [List.append_nil], trivial⟩ (fun i σ H' _ ⟨_, _, sm, _, _⟩ => same_sqt (s2.trans sm) sP) ?_ ?_⟩
          · rintro i x σ H3 hx ⟨y3, rfl, sm, hU, hok⟩
            obtain ⟨pd, hpd, dx⟩ := dpAll_at dP hx
            obtain ⟨p, hpi, rfl⟩ := map_get hpd
            have hil := (List.getElem?_eq_some_iff.mp hpi).1
            have s3 := s2.trans sm
            have nl : (t ++ pnames (ps.take i)).length ≤ 300 := by
              rw [List.length_append, pnames_len, List.length_take]
              omega
            refine ⟨_, rfl, _, rfl, v, x, W, p, rfl, dp_mono (s1.trans s3) hv, dp_mono s3 dx, fun H4 b s4 hb4 => ⟨b, rfl, ?_⟩⟩
            have s5 := s3.trans s4
            have stop : (¬ (isPair W p ∧ p.1 ∉ t ++ pnames (ps.take i) ∧ p.2 ∉ t ++ pnames (ps.take i))) → Q .non H4 := fun hno => (q H4 (s1.trans s5)).2 fun n hn => hno (pairs_stop hpi hn.1.2.2)
            obtain ⟨xa, rfl, sx⟩ := tie_vals (dp_mono s5 dx)
            have hU4 := s4 _ _ hU
            cases b with
            | false => exact iteT (stop fun h => by cases hb4.mpr h.1)
            | true =>
              have hip := hb4.mp rfl
              refine iteF ?_
              refine ⟨_, rfl, xa, _, _, _, rfl, rfl, sx, atI_nat (j := 0) rfl, _, rfl, U, _, rfl, .inl (.inl (.inl hU4)), rfl, ints_flat _, inV (.int (p.1 : Nat)) (intsV (t ++ pnames (ps.take i))), rfl, ?_⟩
              rw [inV_ints]
              refine ite2 (fun e => stop fun h => h.2.1 (of_decide_eq_true e)) (fun e => ?_)
              refine ⟨_, rfl, xa, _, _, _, rfl, rfl, sx, atI_nat (j := 1) rfl, _, rfl, U, _, rfl, .inl (.inl (.inl hU4)), rfl, ints_flat _, inV (.int (p.2 : Nat)) (intsV (t ++ pnames (ps.take i))), rfl, ?_⟩
              rw [inV_ints]
              refine ite2 (fun e2 => stop fun h => h.2.2 (of_decide_eq_true e2)) (fun e2 => ?_)
              refine ⟨_, rfl, .inl ⟨rfl, _, .inl (.inl hU4)⟩, _, rfl, U, xa, _, _, rfl, rfl, hU4, sx, by rw [intsV_len]; exact Nat.le_of_lt (lsz (by show _ + 2 < 1000; omega)), ?_⟩
              have hz : (upd H4 U (.lst (intsV (t ++ pnames (ps.take i)) ++ [V.int (p.1 : Nat), V.int (p.2 : Nat)]))) U = some (.lst (intsV (t ++ pnames (ps.take (i + 1))))) := by
                rw [upd_same, List.take_add_one, hpi, pnames_snoc_opt, ← List.append_assoc]
                exact congrArg (fun z => some (HO.lst z)) (intsV_app (t ++ pnames (ps.take i)) [p.1, p.2])
              refine ⟨_, rfl, same_mut (sm.trans s4) nU, hz, ?_⟩
              rw [List.take_add_one, hpi]
              show pairsOK W t (ps.take i ++ [p])
              rw [pairsOK_app]
              exact ⟨hok, isPair_notin.mpr ⟨hip, fun h => e (decide_eq_true h), fun h => e2 (decide_eq_true h)⟩⟩
          · rintro σ H3 ⟨y3, rfl, sm, hU, hok⟩
            have s3 := s2.trans sm
            rw [zl, List.take_length] at hok
            refine ⟨_, rfl, a, _, _, _, rfl, rfl, same_sqt s3 sa, atI_nat (j := 1) rfl, pb, zs, rfl, .inr (same_sqt s3 sP), ?_⟩
            rw [zl]
            exact (q H3 (s1.trans s3)).1 ps.length ⟨⟨hone, htree, hok⟩, rfl⟩
    · refine ⟨false, congrArg V.bl (decide_eq_false hone), iteT ?_⟩
      refine (q H1 s1).2 fun n hn => ?_
      cases pap with
      | non => exact hn
      | lst => exact hn
      | tup t ps => exact hone hn.1.1
end
end HF
end

section
set_option Elab.async false
set_option linter.all false
set_option autoImplicit false
set_option maxRecDepth 100000
set_option maxHeartbeats 4000000
namespace HF
open PySem PySem.Spec PyProof.Rows L2
section
theorem hide_list {H : Hp} {D : Addr} {v : V} {r : List Nat} (h : ListAt H v r) (n : v ≠ .ref D) : ListAt (hide D H) v r := by
  obtain ⟨b, rfl, hb⟩ := h
  exact ⟨b, rfl, by rw [hide_ne (fun e => n (by rw [e]))]; exact hb⟩
theorem list_mono {H H' : Hp} (e : Same H H') {v : V} {r : List Nat} (h : ListAt H v r) : ListAt H' v r := by
  obtain ⟨b, rfl, hb⟩ := h
  exact ⟨b, rfl, e _ _ hb⟩
theorem Stage.len {W : Web} {fl : Floor} {names : List Nat} (s : Stage W fl names) : names.length ≤ W.2.length := by
  have h := List.Nodup.length_le_of_subset (l₁ := names) (l₂ := List.range W.2.length) s.nd fun x hx => List.mem_range.mpr (s.lt x hx)
  rw [List.length_range] at h
  exact h
theorem withTie_ne {W : Web} {o : Ord} (h : FloorOK W o) {F : List (List Nat)} (hF : Faces W o F) (h1 : F.length = 1) {t : Nat × Nat} (ht : t.1 < W.1 ∧ t.2 < W.1) : ∀ r ∈ (withTie (W, o) t).2, r ≠ [] := by
  obtain ⟨c, rfl⟩ := List.length_eq_one_iff.mp h1
  by_cases hc : c = []
  · subst hc
    have h0 : W.2.length = 0 := by
      have := hF.fp.length_eq
      rw [List.length_range] at this
      simp at this
      omega
    have hall : ∀ r ∈ o, r = [] := fun r hr => by
      have := row_len h hr
      exact List.length_eq_zero_iff.mp (by omega)
    have hcount : o.count [] = 1 := by
      have := hF.emp
      rw [← this]
      rfl
    have hlen : o.length = 1 := by
      have : o.count [] = o.length := List.count_eq_length.mpr fun b hb => (hall b hb).symm
      omega
    have w1 : W.1 = 1 := by rw [← h.len]; exact hlen
    have p2 := (firstC_ok h ht.2).2
    intro r hr
    obtain ⟨r1, hr1, rfl⟩ := List.mem_map.mp hr
    have e2 : cplace W (firstC o t.2) = 0 := by rw [p2]; omega
    have hX : (put1 o (cplace W (firstC o t.1)) (firstC o t.1) (2 * W.2.length)).length = 1 := by rw [put1_len]; exact hlen
    intro z
    have z1 := begun_nil.mp z
    have hr2 : r1 ∈ put1 (put1 o (cplace W (firstC o t.1)) (firstC o t.1) (2 * W.2.length)) 0 (firstC o t.2) (2 * W.2.length + 1) := by
      have := hr1
      unfold putRows at this
      rw [e2] at this
      exact this
    generalize put1 o (cplace W (firstC o t.1)) (firstC o t.1) (2 * W.2.length) = X at hr2 hX
    obtain ⟨x, rfl⟩ := List.length_eq_one_iff.mp hX
    have hr3 : r1 = insB x (firstC o t.2) (2 * W.2.length + 1) := List.mem_singleton.mp hr2
    rw [hr3] at z1
    exact insB_ne _ _ _ z1
  · have hne : ∀ r ∈ o, r ≠ [] := fun r hr e => by
      have h2 : o.count [] = 0 := by
        rw [← hF.emp]
        exact List.count_eq_zero.mpr fun z => hc (List.mem_singleton.mp z).symm
      exact List.count_eq_zero.mp h2 (e ▸ hr)
    exact putIn_ne _ _ hne
theorem ren_int (names : List Nat) (e : Nat) : (2 : Int) * (names.getD (e / 2) 0 : Nat) + ((e % 2 : Nat) : Int) = ((ren names e : Nat) : Int) := by
  unfold ren
  omega
theorem endsAt_mem {W : Web} {p e : Nat} : e ∈ endsAt W p ↔ e < 2 * W.2.length ∧ place W e = p := by
  unfold endsAt
  rw [List.mem_filter, List.mem_range]
  simp
end
section
variable {P : Program} {w : World} {K : PySem.W.Frag} {mg : Str → Option Value} {base : Heap} (T : Tx K mg)
def sp_renamed (K : PySem.W.Frag) : Sp := fun vs H Q _ => ∃ (v vo : V) (na : Addr) (W : Web) (o : Ord) (names : List Nat), vs = [v, vo, .ref na] ∧ Dp K H v (webD W) ∧ Dp K H vo (ordD o) ∧ H na = some (.lst (intsV names)) ∧ W.2.length ≤ 24 ∧ W.1 ≤ 25 ∧
  o.length = W.1 ∧ (∀ r ∈ o, ∀ e ∈ r, e / 2 < names.length) ∧ (∀ (p : Nat) (r : List Nat), (renRows names o)[p]? = some r → r.Perm (endsAt W p)) ∧ ∀ H' v, Same H H' → Dp K H' v (ordD (renamed names o)) → Q v H'
theorem ok_renamed : FnOk P w K mg base CX0 5 T.d_renamed.f T.d_renamed.fd ["web", "order", "names"] (sp_renamed K) := by
  refine T.d_renamed.ok sc_renamed (fun vs H Q E h => ?_) (fun cdv A outer s H vs Q E hr h => ?_)
  · obtain ⟨v, vo, na, W, o, names, rfl, _⟩ := h; rfl
  · obtain ⟨v, vo, na, W, o, names, rfl, hv, ho, hn, h24, h25, hol, hlt, hpm, q⟩ := h
    refine ⟨_, (pss_cons (ps_set (i := 3) sc_renamed.nd rfl (by first | exact Or.inl rfl | exact Or.inr rfl) (pe_lst pa_nil))
 (pss_cons (ps_for PassesOwn.never rfl (pi_tup (pv 1)) (pg_name (i := 4) sc_renamed.nd rfl (by first | exact Or.inl rfl | exact Or.inr rfl))
  (pss_one (ps_expr (pe_bm PySem.F.plainAttrs_list PySem.F.slot_list_append PySem.F.type_list_append mt_append (pv 3) (pa_cons (pe_lc (own := [("end", 5)]) (g := (gName 5)) (by rfl) sc_renamed.nd (pi_tup (pv 4)) (blkOk_by (own := [("end", 5)]) (N := ["web", "order", "names", "rows", "row", "end"]) (sc := defScope s_renamed) (by decide +kernel)) (fun _ _ _ _ _ => (pg_name (i := 5) sc_renamed.nd rfl (by first | exact Or.inl rfl | exact Or.inr rfl))) (fun _ _ _ _ _ => pts_nil) (fun _ _ _ _ _ => (pe_op op_add (pe_op op_mul pe_int (pe_ix (ix_listK (K := K) rfl) (pv 2) (pe_op op_fdivN (pv 5) pe_int) (fun _ _ => rfl))) (pe_op op_modN (pv 5) pe_int)))) pa_nil)))))
 (pss_one (ps_ret (pe_call (ok_order_of T) (hr.mono (by decide)) (by rfl) T.d_order_of.g T.d_order_of.F.kp T.d_order_of.b .nil pass0 (pa_cons (pv 0) (pa_cons (pv 3) pa_nil))))))), ?_⟩
    obtain ⟨oa, os, rfl, so, dO⟩ := dp_tup ho
    have ol := dpAll_len dO
    rw [List.length_map] at ol
    refine ⟨Nat.zero_le _, fun R nR => ?_⟩
    have s1 : Same H (upd H R (.lst [])) := same_upd nR
    refine ⟨_, rfl, oa, rfl, ⟨_, same_sqt s1 so⟩, for_tup (K := K) (a := oa) (xs := os) (fun i σ H' => ∃ y4 y5 ys, σ = [some v, some (.ref oa), some (.ref na), some (.ref R), y4, y5] ∧ Same H H' ∧ H' R = some (.lst ys) ∧ Paired (ListAt (hide R H')) ys (renRows names (o.take i)))
      ⟨none, none, [], rfl, s1, upd_same, .nil⟩ (fun i σ H' _ ⟨_, _, _, _, sm, _⟩ => same_sqt sm so) ?_ ?_⟩
    · rintro i x σ H1 hx ⟨y4, y5, ys, rfl, sm, hR, hP⟩
      obtain ⟨rd, hrd, dr⟩ := dpAll_at dO hx
      obtain ⟨r, hr1, rfl⟩ := map_get hrd
      obtain ⟨b, rfl, hb⟩ := tup_ints (dp_mono sm dr)
      have hil := (List.getElem?_eq_some_iff.mp hr1).1
      have rl : r.length ≤ 48 := by
        have h1 := hpm i (r.map (ren names)) (by unfold renRows; rw [List.getElem?_map, hr1]; rfl)
        have h2 := h1.length_eq
        rw [List.length_map] at h2
        have h3 := endsAt_len W i
        omega
      have yl := Paired.length hP
      unfold renRows at yl
      rw [List.length_map, List.length_take] at yl
      refine ⟨_, rfl, .inl ⟨rfl, _, .inl (.inl hR)⟩, _, rfl, b, rfl, ⟨_, hb⟩, fun D nD => ?_⟩
      refine lcT_pure (fun k => (r[k]?).map fun e => V.int (ren names e : Nat)) hb nD (by rw [intsV_len]; omega) (fun k x H2 hx2 sm2 kk n hk hno => ?_) (fun H2 sm2 hD => ?_)
      · obtain ⟨e, he, rfl⟩ := intsV_at hx2
        refine ⟨rfl, yesT ?_⟩
        have hel := hlt r (List.mem_of_getElem? hr1) e (List.mem_of_getElem? he)
        refine ⟨_, rfl, _, rfl, _, _, rfl, rfl, ⟨by decide, by decide⟩, na, _, _, _, rfl, rfl, .inl (.inl ((sm.trans sm2) _ _ hn)), at_of (nfdiv e 2) (intsV_get (getD_at hel)), ?_⟩
        refine ⟨_, _, rfl, rfl, .inl ⟨by decide, by decide⟩, _, rfl, _, _, rfl, rfl, (by show (2 : Int) ≠ 0; decide), _, _, rfl, rfl, ?_⟩
        have e1 : V.int ((2 : Int) * (names.getD (e / 2) 0 : Nat) + (e : Int).fmod 2) = V.int (ren names e : Nat) := by
          rw [← ren_int]
          exact congrArg (fun z => V.int ((2 : Int) * (names.getD (e / 2) 0 : Nat) + z)) (nfmod e 2)
        show kk (V.int ((2 : Int) * (names.getD (e / 2) 0 : Nat) + (e : Int).fmod 2)) H2
        rw [e1]
        exact hk _ _ (Same.refl _) (by rw [he]; rfl)
      · rw [fm_map r (fun e => V.int (ren names e : Nat)) _ (intsV_len r)] at hD
        have hD' : H2 D = some (.lst (intsV (r.map (ren names)))) := by
          rw [hD]
          unfold intsV
          rw [List.map_map]
          rfl
        have neD : D ≠ R := (ne_of_none hR nD).symm
        refine ⟨R, ys, _, rfl, rfl, sm2 _ _ hR, lsz (by omega), _, _, _, rfl, same_mut (sm.trans sm2) nR, upd_same, ?_⟩
        rw [hide_upd, List.take_add_one, hr1]
        have er : renRows names (o.take i ++ (some r).toList) = renRows names (o.take i) ++ [r.map (ren names)] := by
          unfold renRows
          rw [List.map_append]
          rfl
        rw [er]
        refine paired_app (Paired.mono (fun _ _ h => list_mono (hide_same sm2) h) hP) (hide_list ⟨D, rfl, hD'⟩ fun e => neD (by injection e))
    · rintro σ H1 ⟨y4, y5, ys, rfl, sm, hR, hP⟩
      rw [ol, List.take_length] at hP
      refine ⟨_, rfl, _, rfl, v, W, R, ys, renRows names o, rfl, dp_mono sm hv, hR, Paired.mono (fun _ _ h => list_mono hide_le h) hP, ?_, h24, h25, hpm, fun H' u s2 du => q H' u (sm.trans s2) du⟩
      unfold renRows
      rw [List.length_map]
      exact hol
end
end HF
end

section
set_option Elab.async false
set_option linter.all false
set_option autoImplicit false
set_option maxRecDepth 100000
set_option maxHeartbeats 8000000
namespace HF
open PySem PySem.Spec PyProof.Rows L2
/-- the error's class -/
structure Exq (K : PySem.W.Frag) (mg : Str → Option Value) (C : Addr) : Prop where
  gP : mg "NoPaper" = some (.ref C)
  xP : PySem.W.excIn K C [.type "ValueError", .type "Exception", .type "BaseException", .type "object"] "ValueError.__new__" = true
  kP : PySem.W.keepIn K (.ref C) = true
  bP : PySem.W.subIn K (.ref C) (.type "BaseException") = some true
  tP : PySem.W.typeIn K (.ref C) = some (.type "type")
section
variable {K : PySem.W.Frag} {H : Hp} {N : Addr}
theorem hide_ties {ts : List V} (n : NT (H N)) : ∀ {T : List (Nat × Nat)} {ts : List V}, DpAll K H ts (T.map tieD) → DpAll K (hide N H) ts (T.map tieD)
  | [], _, h => by cases h; exact .nil
  | t :: T, _, h => by
    cases h with
    | cons a r =>
      obtain ⟨p, rfl, s⟩ := tie_vals a
      exact .cons (.tup (hide_sqt2 s n) (.cons (.int _) (.cons (.int _) .nil))) (hide_ties (ts := ts) n r)
theorem hide_web {v : V} {W : Web} (h : Dp K H v (webD W)) (n : NT (H N)) : Dp K (hide N H) v (webD W) := by
  obtain ⟨a, b, ts, rfl, s, st, dt⟩ := web_vals h
  exact .tup (hide_sqt2 s n) (.cons (.int _) (.cons (.tup (hide_sqt2 st n) (hide_ties (ts := ts) n dt)) .nil))
theorem floor_upd {v : V} {fl : Floor} {xs : List V} {o : HO} (h : FloorAt K H v fl) (hN : H N = some (.lst xs)) : FloorAt K (upd H N o) v fl := by
  have n := nt_lst hN
  obtain ⟨a, x, y, rfl, s, d, oa, os, rfl, so, po⟩ := h
  have h2 : FloorAt K (hide N H) (.ref a) fl := ⟨a, x, _, rfl, hide_sqt2 s n, hide_web d n, oa, os, rfl, hide_sqt2 so n, Paired.mono (fun _ _ h => hide_row h hN) po⟩
  rw [← hide_upd (o := o)] at h2
  exact floor_mono hide_le h2
end
section
variable {P : Program} {w : World} {K : PySem.W.Frag} {mg : Str → Option Value} {base : Heap} (T : Tx K mg) {C : Addr}
def sp_laid (K : PySem.W.Frag) (C : Addr) : Sp := fun vs H Q E => ∃ (v vp : V) (W : Web) (pap : Pap), vs = [v, vp] ∧ Dp K H v (webD W) ∧ PapAt K H vp pap ∧ pap.few ∧ InR W.1 W.2 ∧ W.1 ≤ 25 ∧ W.2.length ≤ 24 ∧
  (∀ t ps, pap = .tup t ps → shows W t ps → ∀ H' v, Same H H' → Dp K H' v (ordD (laidM W t ps)) → Q v H') ∧ ((∀ n, ¬ pap.tells W n) → ∀ H', Same H H' → E (.ref C) none H')
theorem rows_ends {W : Web} {fl : Floor} {names : List Nat} (s : Stage W fl names) (all : ∀ k, k < W.2.length → k ∈ names) (hin : InR W.1 W.2) {n : Nat} (hf : HasF fl n) :
    ∀ (p : Nat) (r : List Nat), (renRows names fl.2)[p]? = some r → r.Perm (endsAt W p) := by
  obtain ⟨h1, _, h3⟩ := s.renamed all hin hf
  intro p r hr
  unfold renRows at hr
  obtain ⟨row, hrow, rfl⟩ := map_get hr
  have nd : (row.map (ren names)).Nodup := by
    have hm : begun (row.map (ren names)) ∈ HF.renamed names fl.2 := List.mem_map.mpr ⟨_, List.mem_map.mpr ⟨row, List.mem_of_getElem? hrow, rfl⟩, rfl⟩
    exact (begun_perm _).nodup_iff.mp (row_nodup h1.nodup hm)
  refine (List.perm_ext_iff_of_nodup nd ((List.nodup_range).filter _)).mpr fun e => ?_
  show _ ↔ e ∈ endsAt W p
  rw [← h3 p row hrow e, endsAt_mem]
  exact And.comm
theorem ok_laid (Xq : Exq K mg C) : FnOk P w K mg base (L2N.CX P w) 7 T.d_laid.f T.d_laid.fd ["web", "paper"] (sp_laid K C) := by
  refine T.d_laid.F.ok (CX := L2N.CX P w) sc_laid (fun vs H Q E h => ?_) (fun cdv A outer s H vs Q E hr h => ?_)
  · obtain ⟨v, vp, W, pap, rfl, _⟩ := h; rfl
  · obtain ⟨v, vp, W, pap, rfl, hv, hp, hfew, hin, h25, h24, q, qe⟩ := h
    refine ⟨_, (pss_cons (ps_if (pt_cmpR op_isN (pe_call (ok_tree_shows T) (hr.mono (by decide)) (by rfl) T.d_tree_shows.g T.d_tree_shows.F.kp T.d_tree_shows.b .nil pass0 (pa_cons (pv 0) (pa_cons (pv 1) pa_nil))) pe_non (nomark _))
      (pss_one (L2N.ps_raise rfl (L2N.takes_of rfl rfl rfl rfl) (L2N.pmk_own PySem.F.excBase_ValueError Xq.xP Xq.gP Xq.kP (raises_own Xq.bP Xq.tP) rfl))) pss_nil) (PSs.nox (pss_cons (ps_asg (pv 1) (pg_tup (by rfl) (pgs_cons (pg_name (i := 2) sc_laid.nd rfl (by first | exact Or.inl rfl | exact Or.inr rfl)) (pgs_cons (pg_name (i := 3) sc_laid.nd rfl (by first | exact Or.inl rfl | exact Or.inr rfl)) pgs_nil))))
 (pss_cons (ps_set (i := 4) sc_laid.nd rfl (by first | exact Or.inl rfl | exact Or.inr rfl) (pe_tup (pa_cons (pe_tup (pa_cons (pe_ix ix_tup (pv 0) pe_int (fun _ _ => rfl)) (pa_cons (pe_tup pa_nil) pa_nil))) (pa_cons (pe_tupleOf (by rfl) T.n_tuple (pe_lc (own := [("place", 8)]) (g := (gName 8)) (by rfl) sc_laid.nd (pi_range1 (by rfl) T.n_range (pa_cons (pe_ix ix_tup (pv 0) pe_int (fun _ _ => rfl)) pa_nil)) (blkOk_by (own := [("place", 8)]) (N := ["web", "paper", "tree", "pairs", "floor", "names", "tie", "pair", "place"]) (sc := defScope s_laid) (by decide +kernel)) (fun _ _ _ _ _ => (pg_name (i := 8) sc_laid.nd rfl (by first | exact Or.inl rfl | exact Or.inr rfl))) (fun _ _ _ _ _ => pts_nil) (fun _ _ _ _ _ => (pe_tup pa_nil)))) pa_nil))))
 (pss_cons (ps_set (i := 5) sc_laid.nd rfl (by first | exact Or.inl rfl | exact Or.inr rfl) (pe_callTy call_list_of (by rfl) T.n_list (by decide +kernel) (pa_cons (pv 2) pa_nil)))
 (pss_cons (ps_for PassesOwn.never rfl (pi_tup (pv 2)) (pg_name (i := 6) sc_laid.nd rfl (by first | exact Or.inl rfl | exact Or.inr rfl))
  (pss_one (ps_set (i := 4) sc_laid.nd rfl (by first | exact Or.inl rfl | exact Or.inr rfl) (pe_call (ok_with_tie T) (hr.mono (by decide)) (by rfl) T.d_with_tie.g T.d_with_tie.F.kp T.d_with_tie.b .nil pass0 (pa_cons (pv 4) (pa_cons (pe_ix ix_tup (pe_ix ix_tup (pv 0) pe_int (fun _ _ => rfl)) (pv 6) (fun _ _ => rfl)) pa_nil))))))
 (pss_cons (ps_for PassesOwn.never rfl (pi_tup (pv 3)) (pg_name (i := 7) sc_laid.nd rfl (by first | exact Or.inl rfl | exact Or.inr rfl))
  (pss_cons (ps_set (i := 4) sc_laid.nd rfl (by first | exact Or.inl rfl | exact Or.inr rfl) (pe_call (ok_in_one T) (hr.mono (by decide)) (by rfl) T.d_in_one.g T.d_in_one.F.kp T.d_in_one.b .nil pass0 (pa_cons (pe_call (ok_with_tie T) (hr.mono (by decide)) (by rfl) T.d_with_tie.g T.d_with_tie.F.kp T.d_with_tie.b .nil pass0 (pa_cons (pv 4) (pa_cons (pe_ix ix_tup (pe_ix ix_tup (pv 0) pe_int (fun _ _ => rfl)) (pe_ix ix_tup (pv 7) pe_int (fun _ _ => rfl)) (fun _ _ => rfl)) pa_nil))) (pa_cons (pe_ix ix_tup (pe_ix ix_tup (pv 0) pe_int (fun _ _ => rfl)) (pe_ix ix_tup (pv 7) pe_int (fun _ _ => rfl)) (fun _ _ => rfl)) pa_nil))))
 (pss_one (ps_expr (pe_bm PySem.F.plainAttrs_list PySem.F.slot_list_extend PySem.F.type_list_extend mt_extendT (pv 5) (pa_cons (pv 7) pa_nil))))))
 (pss_cons (ps_for PassesOwn.never rfl (pi_range1 (by rfl) T.n_range (pa_cons (pe_callB call_len_seq (by rfl) T.n_len (by decide +kernel) (pa_cons (pe_ix ix_tup (pv 0) pe_int (fun _ _ => rfl)) pa_nil)) pa_nil)) (pg_name (i := 6) sc_laid.nd rfl (by first | exact Or.inl rfl | exact Or.inr rfl))
  (pss_one (ps_if (pt_cmpR op_notIn_seq (pv 6) (pv 5) (by rfl))
  (pss_cons (ps_set (i := 4) sc_laid.nd rfl (by first | exact Or.inl rfl | exact Or.inr rfl) (pe_call (ok_with_tie T) (hr.mono (by decide)) (by rfl) T.d_with_tie.g T.d_with_tie.F.kp T.d_with_tie.b .nil pass0 (pa_cons (pv 4) (pa_cons (pe_ix ix_tup (pe_ix ix_tup (pv 0) pe_int (fun _ _ => rfl)) (pv 6) (fun _ _ => rfl)) pa_nil))))
 (pss_one (ps_expr (pe_bm PySem.F.plainAttrs_list PySem.F.slot_list_append PySem.F.type_list_append mt_append (pv 5) (pa_cons (pv 6) pa_nil))))) pss_nil)))
 (pss_one (ps_ret (pe_call (ok_renamed T) (hr.mono (by decide)) (by rfl) T.d_renamed.g T.d_renamed.F.kp T.d_renamed.b .nil pass0 (pa_cons (pv 0) (pa_cons (pe_ix ix_tup (pv 4) pe_int (fun _ _ => rfl)) (pa_cons (pv 5) pa_nil)))))))))))))), ?_⟩
    refine ⟨_, rfl, _, rfl, v, vp, W, pap, rfl, hv, hp, hfew, hin, h25, h24, fun H1 s1 => ⟨fun n hn => ?_, fun hno => ?_⟩⟩
    · cases pap with
      | non => exact hn.elim
      | lst => exact hn.elim
      | tup t ps =>
        obtain ⟨hsh, rfl⟩ := hn
        have q := q t ps rfl hsh
        obtain ⟨hone, htree, hpairs⟩ := hsh
        obtain ⟨a, ta, pb, zs, rfl, sa, sT, sP, dP⟩ := pap_vals hp
        have zl := dpAll_len dP
        rw [List.length_map] at zl
        obtain ⟨wa, tb, ts, rfl, sw, st, dt⟩ := web_vals hv
        have tl := dpAll_len dt
        rw [List.length_map] at tl
        refine ⟨rfl, false, rfl, iteF ?_⟩
        refine ⟨_, rfl, a, _, rfl, same_sqt s1 sa, rfl, _, _, rfl, _, _, rfl, rfl, ?_⟩
        -- the floor without ties
        refine ⟨_, rfl, wa, _, _, _, rfl, rfl, same_sqt s1 sw, atI_nat (j := 0) rfl, Nat.zero_le _, fun p1 m1 => ⟨by show 2 ≤ sizeLine; decide, fun p2 m2 => ?_⟩⟩
        have t1 : Same H1 (upd H1 p1 (.tup [])) := same_upd m1
        have t2 := same_upd (o := .tup [V.int (W.1 : Nat), V.ref p1]) m2
        have dw0 : Dp K (upd (upd H1 p1 (.tup [])) p2 (.tup [V.int (W.1 : Nat), V.ref p1])) (.ref p2) (webD (W.1, [])) := .tup (.inl (.inl upd_same)) (.cons (.int _) (.cons (.tup (.inl (.inl (t2 _ _ upd_same))) .nil) .nil))
        have s2 := (s1.trans t1).trans t2
        generalize (upd (upd H1 p1 (.tup [])) p2 (.tup [V.int (W.1 : Nat), V.ref p1])) = H2 at *
        refine ⟨_, rfl, wa, _, _, _, rfl, rfl, same_sqt s2 sw, atI_nat (j := 0) rfl, (W.1 : Nat), rfl, by omega, by omega, fun D nD => ?_⟩
        refine lc_it (walk_range (lo := 0) (n := W.1)) (fun i H' => Same H2 H' ∧ ∃ ys, H' D = some (.lst ys) ∧ Paired (RowAt K (hide D H')) ys (List.replicate i [])) ⟨same_upd nD, [], upd_same, .nil⟩ (fun i H' _ p => trivial) (fun i x H3 H4 hi p y => ?_) (fun H3 p => ?_)
        · obtain ⟨sm, ys, hD, hP⟩ := p
          obtain ⟨rfl, rfl⟩ := y
          refine ⟨rfl, yesT ⟨Nat.zero_le _, fun z nz => ?_⟩⟩
          have sz : Same H4 (upd H4 z (.tup [])) := same_upd nz
          have zD : z ≠ D := (ne_of_none hD nz).symm
          have yl := Paired.length hP
          rw [List.length_replicate] at yl
          refine ⟨ys, sz _ _ hD, lsz (by omega), same_mut (sm.trans sz) nD, _, upd_same, ?_⟩
          rw [hide_upd, List.replicate_succ']
          refine paired_app (paired_mono (hide_same sz) hP) (hide_row (zs := ys) ⟨z, rfl, .inl (.inl upd_same), fun h => absurd rfl h⟩ (sz _ _ hD))
        · obtain ⟨sm, ys, hD, hP⟩ := p
          refine .inl ⟨D, ys, rfl, .inl (.inl hD), fun z nz => ?_⟩
          have t9 : Same H3 (upd H3 z (.tup ys)) := same_upd nz
          refine ⟨by show 2 ≤ sizeLine; decide, fun y ny => ?_⟩
          have t10 := same_upd (o := .tup [V.ref p2, V.ref z]) ny
          have hfl : FloorAt K (upd (upd H3 z (.tup ys)) y (.tup [V.ref p2, V.ref z])) (.ref y) (fl0 W.1) :=
            ⟨y, _, _, rfl, .inl (.inl upd_same), dp_mono ((sm.trans t9).trans t10) dw0, z, ys, rfl, .inl (.inl (t10 _ _ upd_same)), paired_mono ((hide_le.trans t9).trans t10) hP⟩
          have s3 := ((s2.trans sm).trans t9).trans t10
          generalize (upd (upd H3 z (.tup ys)) y (.tup [V.ref p2, V.ref z])) = H5 at *
          refine ⟨_, rfl, ta, _, rfl, .inr (same_sqt s3 sT), fun N nN => ?_⟩
          have sN : Same H5 (upd H5 N (.lst (intsV t))) := same_upd nN
          have s4 := s3.trans sN
          have nNH : H N = none := s3.free nN
          have hN0 : (upd H5 N (.lst (intsV t))) N = some (.lst (intsV t)) := upd_same
          have hfl0 := floor_mono sN hfl
          generalize (upd H5 N (.lst (intsV t))) = H6 at *
          have w1 : ∀ {fl : Floor} {nm : List Nat}, Stage W fl nm → fl.1.1 = W.1 := fun s => by rw [s.web]
          -- the tree
          refine ⟨_, rfl, ta, rfl, ⟨_, same_sqt s4 sT⟩, for_tup (K := K) (a := ta) (xs := intsV t) (fun i σ H' => ∃ vf y6 y7 y8, σ = [some (.ref wa), some (.ref a), some (.ref ta), some (.ref pb), some vf, some (.ref N), y6, y7, y8] ∧ Same H6 H' ∧ FloorAt K H' vf (treeFl W (t.take i)))
            ⟨_, none, none, none, rfl, Same.refl _, hfl0⟩ (fun i σ H' _ ⟨_, _, _, _, _, sm, _⟩ => same_sqt (s4.trans sm) sT) ?_ ?_⟩
          · rintro i x σ H7 hx ⟨vf, y6, y7, y8, rfl, sm7, hf⟩
            obtain ⟨k, hk, rfl⟩ := intsV_at hx
            have s7 := s4.trans sm7
            have hkl := htree.2.1 k (List.mem_of_getElem? hk)
            obtain ⟨sg, _⟩ := tree_stage hin (t.take i) (t.drop i) (by rw [List.take_append_drop]; exact htree)
            have hkn : k ∉ t.take i := fun hm => by
              obtain ⟨a1, b1, e1, l1⟩ := split_at hk
              have e2 : t.take i = a1 := by rw [e1, ← l1]; exact List.take_left
              rw [e2] at hm
              have := htree.1
              rw [e1, List.pairwise_append] at this
              exact absurd (this.2.2 k hm k List.mem_cons_self) (by omega)
            have hfw := sg.few hkl hkn
            obtain ⟨u, hu, du⟩ := dpAll_get dt (show (W.2.map tieD)[k]? = some (tieD (tieAt W k)) by rw [List.getElem?_map, place_tie2 hkl]; rfl)
            have tlt := tie_lt hin hkl
            refine ⟨_, rfl, _, rfl, wa, _, _, _, rfl, rfl, same_sqt s7 sw, atI_nat (j := 1) rfl, _, rfl, tb, _, _, _, rfl, rfl, same_sqt s7 st, atI_nat hu, ?_⟩
            refine ⟨vf, u, treeFl W (t.take i), tieAt W k, rfl, hf, dp_mono s7 du, sg.ok, by rw [w1 sg]; exact tlt.1, by rw [w1 sg]; exact tlt.2, by rw [sg.ties_len]; omega, by rw [w1 sg]; exact h25, fun H8 v8 s8 hv8 => ?_⟩
            refine ⟨v8, _, _, _, rfl, sm7.trans s8, ?_⟩
            rw [List.take_add_one, hk]
            show FloorAt K H8 v8 (treeFl W (t.take i ++ [k]))
            rw [treeFl_snoc]
            exact hv8
          · rintro σ H7 ⟨vf, y6, y7, y8, rfl, sm7, hf⟩
            rw [intsV_len, List.take_length] at hf
            have s7 := s4.trans sm7
            obtain ⟨sT1, fT1⟩ := tree_one hin htree
            -- the pairs
            refine ⟨_, rfl, pb, rfl, ⟨_, same_sqt s7 sP⟩, for_tup (K := K) (a := pb) (xs := zs) (fun i σ H' => ∃ vf y6 y7 y8, σ = [some (.ref wa), some (.ref a), some (.ref ta), some (.ref pb), some vf, some (.ref N), y6, y7, y8] ∧ Same H H' ∧ FloorAt K H' vf (pairsFl W (treeFl W t) (ps.take i)) ∧ H' N = some (.lst (intsV (t ++ pnames (ps.take i)))))
              ⟨vf, y6, y7, y8, rfl, s7, hf, by rw [List.take_zero]; show H7 N = some (.lst (intsV (t ++ []))); rw [List.append_nil]; exact sm7 _ _ hN0⟩ (fun i σ H' _ ⟨_, _, _, _, _, sm, _⟩ => same_sqt sm sP) ?_ ?_⟩
            · rintro i x σ H8 hx ⟨vf, z6, z7, z8, rfl, s8, hf8, hN8⟩
              obtain ⟨pd, hpd, dx⟩ := dpAll_at dP hx
              obtain ⟨p, hpi, rfl⟩ := map_get hpd
              obtain ⟨sg, fg⟩ := pairs_stage hin sT1 fT1 (ps.take i) (ps.drop i) (by rw [List.take_append_drop]; exact hpairs)
              obtain ⟨hip, hn1, hn2⟩ := pairs_stop hpi hpairs
              obtain ⟨io, sg2, fg2⟩ := sg.pair hin hip hn1 hn2 fg
              have l2 := sg2.len
              rw [List.length_append] at l2
              have l2' : (t ++ pnames (ps.take i)).length + 2 ≤ W.2.length := l2
              have k2 := hip.2.1
              have k1 : p.1 < W.2.length := by have := hip.1; omega
              have t1' := tie_lt hin k1
              have t2' := tie_lt hin k2
              obtain ⟨u1, hu1, du1⟩ := dpAll_get dt (show (W.2.map tieD)[p.1]? = some (tieD (tieAt W p.1)) by rw [List.getElem?_map, place_tie2 k1]; rfl)
              obtain ⟨u2, hu2, du2⟩ := dpAll_get dt (show (W.2.map tieD)[p.2]? = some (tieD (tieAt W p.2)) by rw [List.getElem?_map, place_tie2 k2]; rfl)
              obtain ⟨xa, rfl, sx⟩ := tie_vals dx
              refine ⟨_, rfl, _, rfl, wa, _, _, _, rfl, rfl, same_sqt s8 sw, atI_nat (j := 1) rfl, _, rfl, xa, _, _, _, rfl, rfl, same_sqt s8 sx, atI_nat (j := 0) rfl, tb, _, _, _, rfl, rfl, same_sqt s8 st, atI_nat hu1, ?_⟩
              refine ⟨vf, u1, pairsFl W (treeFl W t) (ps.take i), tieAt W p.1, rfl, hf8, dp_mono s8 du1, sg.ok, by rw [w1 sg]; exact t1'.1, by rw [w1 sg]; exact t1'.2, by rw [sg.ties_len]; omega, by rw [w1 sg]; exact h25, fun H9 v9 s9 hv9 => ?_⟩
              have s89 := s8.trans s9
              obtain ⟨F, hF, hF1⟩ := fg
              have t1w : (tieAt W p.1).1 < (pairsFl W (treeFl W t) (ps.take i)).1.1 ∧ (tieAt W p.1).2 < (pairsFl W (treeFl W t) (ps.take i)).1.1 := by rw [w1 sg]; exact t1'
              have okw := withTie_ok sg.ok t1w
              obtain ⟨G, hG, _⟩ := withTie_any sg.ok t1w hF
              have hne := withTie_ne sg.ok hF hF1 t1w
              have ww := withTie_web sg.ok t1w
              refine ⟨_, rfl, wa, _, _, _, rfl, rfl, same_sqt s89 sw, atI_nat (j := 1) rfl, _, rfl, xa, _, _, _, rfl, rfl, same_sqt s89 sx, atI_nat (j := 1) rfl, tb, _, _, _, rfl, rfl, same_sqt s89 st, atI_nat hu2, ?_⟩
              refine ⟨v9, u2, withTie (pairsFl W (treeFl W t) (ps.take i)) (tieAt W p.1), _, tieAt W p.2, G, rfl, hv9, dp_mono s89 du2, okw, by rw [ww]; show _ < (pairsFl W (treeFl W t) (ps.take i)).1.1; rw [w1 sg]; exact t2'.1, by rw [ww]; show _ < (pairsFl W (treeFl W t) (ps.take i)).1.1; rw [w1 sg]; exact t2'.2, ?_, by rw [ww]; show (pairsFl W (treeFl W t) (ps.take i)).1.1 ≤ 25; rw [w1 sg]; exact h25, hG, hne, io, fun H10 v10 s10 hv10 => ?_⟩
              · rw [ww]
                show ((pairsFl W (treeFl W t) (ps.take i)).1.2 ++ [_]).length < 24
                rw [List.length_append, sg.ties_len, List.length_singleton]
                omega
              · have s810 := s89.trans s10
                have hN10 : H10 N = some (.lst (intsV (t ++ pnames (ps.take i)))) := s10 _ _ (s9 _ _ hN8)
                refine ⟨_, rfl, .inl ⟨rfl, _, .inl (.inl hN10)⟩, _, rfl, N, xa, _, _, rfl, rfl, hN10, same_sqt s810 sx, by rw [intsV_len]; exact Nat.le_of_lt (lsz (by show _ + 2 < 1000; omega)), ?_⟩
                refine ⟨v10, _, _, _, rfl, same_mut s810 nNH, ?_, ?_⟩
                · rw [List.take_add_one, hpi]
                  show FloorAt K _ v10 (pairsFl W (treeFl W t) (ps.take i ++ [p]))
                  rw [pairsFl_snoc]
                  exact floor_upd hv10 hN10
                · rw [upd_same, List.take_add_one, hpi, pnames_snoc_opt, ← List.append_assoc]
                  exact congrArg (fun z => some (HO.lst z)) (intsV_app (t ++ pnames (ps.take i)) [p.1, p.2])
            · rintro σ H8 ⟨vf, z6, z7, z8, rfl, s8, hf8, hN8⟩
              rw [zl, List.take_length] at hf8 hN8
              obtain ⟨sP1, fP1⟩ := pairs_stage hin sT1 fT1 ps [] (by rw [List.append_nil]; exact hpairs)
              -- the rest
              refine ⟨_, rfl, wa, _, _, _, rfl, rfl, same_sqt s8 sw, atI_nat (j := 1) rfl, tb, ts, rfl, .inr (same_sqt s8 st), (ts.length : Nat), rfl, by omega, by omega, for_range (lo := 0) (n := ts.length) (fun i σ H' => ∃ vf y6 y7 y8, σ = [some (.ref wa), some (.ref a), some (.ref ta), some (.ref pb), some vf, some (.ref N), y6, y7, y8] ∧ Same H H' ∧ FloorAt K H' vf (restFl W (pairsFl W (treeFl W t) ps, t ++ pnames ps) i).1 ∧ H' N = some (.lst (intsV (restFl W (pairsFl W (treeFl W t) ps, t ++ pnames ps) i).2)))
                ⟨vf, z6, z7, z8, rfl, s8, hf8, hN8⟩ ?_ ?_⟩
              · rintro i σ H9 hi ⟨vf, x6, x7, x8, rfl, s9, hf9, hN9⟩
                obtain ⟨sg, _, _⟩ := rest_stage hin sP1 fP1 i (by omega)
                rw [restFl_succ]
                generalize restFl W (pairsFl W (treeFl W t) ps, t ++ pnames ps) i = rs at *
                have hil : i < W.2.length := by omega
                have l9 := sg.len
                rw [Int.zero_add]
                refine ⟨_, rfl, _, rfl, N, _, rfl, .inl (.inl (.inl hN9)), rfl, ints_flat _, !inV (.int (i : Nat)) (intsV rs.2), rfl, ?_⟩
                rw [inV_ints]
                by_cases hm : i ∈ rs.2
                · rw [decide_eq_true hm]
                  have er : restSt W rs i = rs := by unfold restSt; rw [if_pos hm]
                  rw [er]
                  exact iteF ⟨vf, _, _, _, rfl, s9, hf9, hN9⟩
                · rw [decide_eq_false hm]
                  have er : restSt W rs i = (withTie rs.1 (tieAt W i), rs.2 ++ [i]) := by unfold restSt; rw [if_neg hm]
                  rw [er]
                  have hfw := sg.few hil hm
                  have tlt := tie_lt hin hil
                  obtain ⟨u, hu, du⟩ := dpAll_get dt (show (W.2.map tieD)[i]? = some (tieD (tieAt W i)) by rw [List.getElem?_map, place_tie2 hil]; rfl)
                  refine iteT ⟨_, rfl, _, rfl, wa, _, _, _, rfl, rfl, same_sqt s9 sw, atI_nat (j := 1) rfl, _, rfl, tb, _, _, _, rfl, rfl, same_sqt s9 st, atI_nat hu, ?_⟩
                  refine ⟨vf, u, rs.1, tieAt W i, rfl, hf9, dp_mono s9 du, sg.ok, by rw [w1 sg]; exact tlt.1, by rw [w1 sg]; exact tlt.2, by rw [sg.ties_len]; omega, by rw [w1 sg]; exact h25, fun H10 v10 s10 hv10 => ?_⟩
                  have hN10 : H10 N = some (.lst (intsV rs.2)) := s10 _ _ hN9
                  refine ⟨_, rfl, .inl ⟨rfl, _, .inl (.inl hN10)⟩, _, rfl, N, _, _, rfl, rfl, hN10, lsz (by rw [intsV_len]; omega), ?_⟩
                  refine ⟨v10, _, _, _, rfl, same_mut (s9.trans s10) nNH, floor_upd hv10 hN10, ?_⟩
                  rw [upd_same]
                  exact congrArg (fun z => some (HO.lst z)) (intsV_app rs.2 [i])
              · rintro σ H9 ⟨vf, x6, x7, x8, rfl, s9, hf9, hN9⟩
                rw [tl] at hf9 hN9
                obtain ⟨sg, hall, n', hf', _⟩ := rest_stage hin sP1 fP1 W.2.length (Nat.le_refl _)
                have re := rows_ends sg hall hin hf'
                have q2 : ∀ H' v, Same H H' → Dp K H' v (ordD (renamed (restFl W (pairsFl W (treeFl W t) ps, t ++ pnames ps) W.2.length).2 (restFl W (pairsFl W (treeFl W t) ps, t ++ pnames ps) W.2.length).1.2)) → Q v H' := q
                generalize restFl W (pairsFl W (treeFl W t) ps, t ++ pnames ps) W.2.length = rs at *
                obtain ⟨fa, fx, fy, rfl, fs, fd, fo⟩ := hf9
                refine ⟨_, rfl, _, rfl, fa, _, _, _, rfl, rfl, fs, atI_nat (j := 1) rfl, _, rfl, ?_⟩
                have np := names_perm sg.nd sg.lt hall
                have nl := np.length_eq
                rw [List.length_range] at nl
                refine ⟨.ref wa, fy, N, W, rs.1.2, rs.2, rfl, dp_mono s9 hv, ord_dp fo, hN9, h24, h25, by rw [sg.ok.len, w1 sg], fun r hr e he => ?_, re, fun H' v s10 dv => q2 H' v (s9.trans s10) dv⟩
                have h1 : e ∈ rs.1.2.flatten := List.mem_flatten.mpr ⟨r, hr, he⟩
                have h2 := List.mem_range.mp (sg.ok.flat.mem_iff.mp h1)
                rw [sg.ties_len] at h2
                omega
    · refine ⟨rfl, true, rfl, iteT ?_⟩
      exact qe hno _ s1
end
end HF
end

section
set_option Elab.async false
set_option linter.all false
set_option autoImplicit false
set_option maxRecDepth 100000
set_option maxHeartbeats 4000000
namespace HF
open PySem PySem.Spec PyProof.Rows L2
section
/-- the pen at p: its cells, its place, what is left of a great cell -/
def Pen (K : PySem.W.Frag) (H : Hp) (p : Addr) : Prop := ∃ (a : Addr) (xs : List Int) (i j : Int), H p = some (.lst [.ref a, .int i, .int j]) ∧ SqL K (hide p H) a (xs.map V.int)
theorem pen_mono {K : PySem.W.Frag} {H H' : Hp} {p : Addr} (e : Same H H') (h : Pen K H p) : Pen K H' p := by
  obtain ⟨a, xs, i, j, h1, h2⟩ := h
  exact ⟨a, xs, i, j, e _ _ h1, same_seq (hide_same e) h2⟩
theorem fmod_nat (x : Int) {m : Nat} (hm : 0 < m) : ∃ n : Nat, n < m ∧ x.fmod (m : Int) = (n : Int) := by
  have h1 := Int.fmod_nonneg_of_pos x (show (0 : Int) < m by omega)
  have h2 := Int.fmod_lt_of_pos x (show (0 : Int) < m by omega)
  exact ⟨(x.fmod m).toNat, by omega, by omega⟩
theorem cut63 (xs : List Int) : ∃ ys : List Int, cutV (xs.map V.int) none (some 63) = ys.map V.int ∧ ys.length ≤ 63 := by
  unfold cutV
  rw [← List.map_drop, ← List.map_take]
  refine ⟨_, rfl, ?_⟩
  rw [List.length_take]
  have : HT.sIx (xs.map V.int).length (xs.map V.int).length (some 63) ≤ 63 := by
    unfold HT.sIx
    simp only
    rw [if_neg (by decide)]
    exact Nat.min_le_left _ _
  omega
theorem hide_new {p z : Addr} {H : Hp} {o : HO} (n : z ≠ p) : hide p (upd H z o) = upd (hide p H) z o := by
  funext b
  unfold hide upd
  by_cases h1 : b = p
  · subst h1
    rw [if_pos rfl]
    simp [Ne.symm n]
  · simp [h1]
theorem fm_same (ys : List Int) (n : Nat) (hn : n = ys.length) : (List.range n).filterMap (fun k => (ys[k]?).map V.int) = ys.map V.int := fm_map ys V.int n hn
end
section
variable {P : Program} {w : World} {K : PySem.W.Frag} {mg : Str → Option Value} {base : Heap} (T : Tx K mg)
def sp__law_pen (K : PySem.W.Frag) : Sp := fun vs H Q _ => ∃ (a : Addr) (xs : List Int), vs = [.ref a] ∧ SqL K H a (xs.map V.int) ∧ ∀ H' p, Same H H' → H p = none → Pen K H' p → Q (.ref p) H'
theorem ok__law_pen : FnOk P w K mg base CX0 1 T.d__law_pen.f T.d__law_pen.fd ["_law_script"] (sp__law_pen K) := by
  refine T.d__law_pen.ok sc__law_pen (fun vs H Q E h => ?_) (fun cdv A outer s H vs Q E hr h => ?_)
  · obtain ⟨a, xs, rfl, _⟩ := h; rfl
  · obtain ⟨a, xs, rfl, ha, q⟩ := h
    refine ⟨_, (pss_one (ps_ret (pe_lst (pa_cons (pe_lc (own := [("_law_cell", 1)]) (g := (gName 1)) (by rfl) sc__law_pen.nd (pi_list (pe_slice sl_list (pv 0) po_none (po_some pe_int))) (blkOk_by (own := [("_law_cell", 1)]) (N := ["_law_script", "_law_cell"]) (sc := defScope s__law_pen) (by decide +kernel)) (fun _ _ _ _ _ => (pg_name (i := 1) sc__law_pen.nd rfl (by first | exact Or.inl rfl | exact Or.inr rfl))) (fun _ _ _ _ _ => pts_nil) (fun _ _ _ _ _ => (pv 1))) (pa_cons pe_int (pa_cons pe_int pa_nil)))))), ?_⟩
    obtain ⟨ys, hys, y63⟩ := cut63 xs
    refine ⟨_, rfl, 63, rfl, a, _, rfl, ha, fun z nz => ?_⟩
    rw [hys]
    have s1 : Same H (upd H z (.lst (ys.map V.int))) := same_upd nz
    refine ⟨z, rfl, ⟨_, .inl (.inl upd_same)⟩, fun D nD => ?_⟩
    refine lcL_pure (K := K) (a := z) (xs := ys.map V.int) (fun k => (ys[k]?).map V.int) (.inl (.inl upd_same)) nD (by rw [List.length_map]; omega) (fun k x H2 hx sm kk n hk hno => ?_) (fun H2 sm hD => ?_)
    · obtain ⟨i, hi, rfl⟩ := map_get hx
      exact ⟨rfl, yesT ⟨_, rfl, hk _ _ (Same.refl _) (by rw [hi]; rfl)⟩⟩
    · rw [fm_same ys _ (List.length_map _)] at hD
      refine ⟨by show 3 ≤ sizeLine; decide, fun p np => ?_⟩
      have hne : D ≠ p := ne_of_none hD np
      refine q _ p ((s1.trans sm).trans (same_upd np)) ((s1.trans sm).free np) ⟨D, ys, 0, 0, upd_same, ?_⟩
      rw [hide_upd]
      refine .inl (.inl ?_)
      rw [hide_ne hne]
      exact hD
def PenP (H : Hp) (p a : Addr) : Prop := ∃ i j : Int, H p = some (.lst [.ref a, .int i, .int j])
def sp__law_draw (K : PySem.W.Frag) : Sp := fun vs H Q _ => ∃ (p a : Addr) (xs : List Int) (m : Nat), vs = [.ref p, .int m] ∧ PenP H p a ∧ SqL K (hide p H) a (xs.map V.int) ∧ 0 < m ∧ m < 1000 ∧ ∀ (n : Nat) H', n < m → hide p H' = hide p H → PenP H' p a → Q (.int n) H'
def at_ok (xs : List Int) (z y : Int) : Prop := ∃ n : Nat, z.fmod (xs.length : Nat) = (n : Int) ∧ xs[n]? = some y
theorem pen_put {K : PySem.W.Frag} {H : Hp} {p a : Addr} {xs : List Int} (hs : SqL K (hide p H) a (xs.map V.int)) (i j : Int) : PenP (upd H p (.lst [.ref a, .int i, .int j])) p a ∧ hide p (upd H p (.lst [.ref a, .int i, .int j])) = hide p H :=
  ⟨⟨i, j, upd_same⟩, hide_upd⟩
theorem ok__law_draw : FnOk P w K mg base CX0 1 T.d__law_draw.f T.d__law_draw.fd ["_law_pen_here", "_law_many"] (sp__law_draw K) := by
  refine T.d__law_draw.ok sc__law_draw (fun vs H Q E h => ?_) (fun cdv A outer s H vs Q E hr h => ?_)
  · obtain ⟨p, a, xs, m, rfl, _⟩ := h; rfl
  · obtain ⟨p, a, xs, m, rfl, ⟨i, j, hp⟩, hs, hm, hm9, q⟩ := h
    refine ⟨_, (pss_cons (ps_if (pt_cmpR op_gt (pe_ix ix_list (pv 0) pe_int (fun _ _ => rfl)) pe_int (nomark _))
  (pss_cons (ps_set (i := 2) sc__law_draw.nd rfl (by first | exact Or.inl rfl | exact Or.inr rfl) (pe_op op_modN (pe_ix ix_list (pv 0) pe_int (fun _ _ => rfl)) (pv 1)))
 (pss_cons (ps_asg (pe_op op_fdivN (pe_ix ix_list (pv 0) pe_int (fun _ _ => rfl)) (pv 1)) (pg_sub (pv 0) pe_int set_list))
 (pss_one (ps_ret (pv 2))))) pss_nil)
 (pss_cons (ps_set (i := 3) sc__law_draw.nd rfl (by first | exact Or.inl rfl | exact Or.inr rfl) (pe_ix ix_list (pv 0) pe_int (fun _ _ => rfl)))
 (pss_cons (ps_asg (pe_op op_add (pv 3) pe_int) (pg_sub (pv 0) pe_int set_list))
 (pss_cons (ps_set (i := 4) sc__law_draw.nd rfl (by first | exact Or.inl rfl | exact Or.inr rfl) pe_int)
 (pss_cons (ps_if (pt_cmpR op_gt (pe_callB call_len_seq (by rfl) T.n_len (by decide +kernel) (pa_cons (pe_ix ix_list (pv 0) pe_int (fun _ _ => rfl)) pa_nil)) pe_int (nomark _))
  (pss_one (ps_set (i := 4) sc__law_draw.nd rfl (by first | exact Or.inl rfl | exact Or.inr rfl) (pe_ix ix_list (pe_ix ix_list (pv 0) pe_int (fun _ _ => rfl)) (pe_op op_modN (pv 3) (pe_callB call_len_seq (by rfl) T.n_len (by decide +kernel) (pa_cons (pe_ix ix_list (pv 0) pe_int (fun _ _ => rfl)) pa_nil))) (fun _ _ => rfl)))) pss_nil)
 (pss_cons (ps_if (PW.pt (pw_and (pt_cmpR op_lt (pv 3) (pe_callB call_len_seq (by rfl) T.n_len (by decide +kernel) (pa_cons (pe_ix ix_list (pv 0) pe_int (fun _ _ => rfl)) pa_nil)) (nomark _)) (pw_and1 (pt_cmpR op_ge (pe_callB call_abs (by rfl) T.n_abs (by decide +kernel) (pa_cons (pv 4) pa_nil)) (pe_op op_pow pe_int pe_int) (nomark _)))))
  (pss_cons (ps_asg (pe_op op_fdivN (pe_callB call_abs (by rfl) T.n_abs (by decide +kernel) (pa_cons (pv 4) pa_nil)) (pv 1)) (pg_sub (pv 0) pe_int set_list))
 (pss_one (ps_ret (pe_op op_modN (pe_callB call_abs (by rfl) T.n_abs (by decide +kernel) (pa_cons (pv 4) pa_nil)) (pv 1))))) pss_nil)
 (pss_cons (ps_set (i := 5) sc__law_draw.nd rfl (by first | exact Or.inl rfl | exact Or.inr rfl) (pe_op op_modN (pe_op op_mul (pe_op op_add (pe_op op_add (pe_op op_modN (pv 4) pe_int) (pe_op op_mul pe_int (pv 3))) pe_int) pe_int) pe_int))
 (pss_cons (ps_set (i := 5) sc__law_draw.nd rfl (by first | exact Or.inl rfl | exact Or.inr rfl) (pe_op op_modN (pe_op op_add (pe_op op_add (pe_op op_mul (pv 5) (pv 5)) (pe_op op_mul pe_int (pv 5))) (pv 3)) pe_int))
 (pss_one (ps_ret (pe_op op_modN (pe_op op_fdivN (pe_op op_modN (pe_op op_mul (pv 5) pe_int) pe_int) pe_int) (pv 1)))))))))))), ?_⟩
    have hS : ∀ {o : HO}, SqL K (upd H p o) a (xs.map V.int) := fun {o} => by
      have := same_seq (hide_le (D := p) (H := upd H p o)) (by rw [hide_upd]; exact hs)
      exact this
    have m0 : ((m : Nat) : Int) ≠ 0 := by omega
    have mb : ((m : Nat) : Int).natAbs < 1073741824 := by omega
    refine ⟨_, rfl, p, _, _, _, rfl, rfl, .inl (.inl hp), atI_nat (j := 2) rfl, _, _, rfl, rfl, _, rfl, ite2 (fun e => ?_) (fun e => ?_)⟩
    · refine ⟨_, rfl, p, _, _, _, rfl, rfl, .inl (.inl hp), atI_nat (j := 2) rfl, _, rfl, _, _, rfl, rfl, m0, ?_⟩
      refine ⟨_, rfl, p, _, _, _, rfl, rfl, .inl (.inl hp), atI_nat (j := 2) rfl, _, rfl, _, _, rfl, rfl, ⟨m0, mb⟩, ?_⟩
      refine ⟨_, rfl, p, _, _, 2, rfl, rfl, hp, rfl, ?_⟩
      obtain ⟨n, hn, en⟩ := fmod_nat j hm
      refine ⟨_, rfl, ?_⟩
      obtain ⟨h1, h2⟩ := pen_put hs i (j.fdiv (m : Nat))
      show Q (.int (j.fmod (m : Nat))) (upd H p (.lst [.ref a, .int i, .int (j.fdiv (m : Nat))]))
      rw [en]
      exact q n _ hn h2 h1
    · refine ⟨_, rfl, p, _, _, _, rfl, rfl, .inl (.inl hp), atI_nat (j := 1) rfl, ?_⟩
      refine ⟨_, rfl, _, _, rfl, rfl, _, rfl, p, _, _, 1, rfl, rfl, hp, rfl, ?_⟩
      obtain ⟨h1, h2⟩ := pen_put hs (i + 1) j
      have hp1 : (upd H p (.lst [.ref a, .int (i + 1), .int j])) p = some (.lst [.ref a, .int (i + 1), .int j]) := upd_same
      have hs1 : SqL K (upd H p (.lst [.ref a, .int (i + 1), .int j])) a (xs.map V.int) := hS
      have hs2 : SqL K (hide p (upd H p (.lst [.ref a, .int (i + 1), .int j]))) a (xs.map V.int) := by rw [hide_upd]; exact hs
      have q1 : ∀ (n : Nat) H', n < m → hide p H' = hide p (upd H p (.lst [.ref a, .int (i + 1), .int j])) → PenP H' p a → Q (.int n) H' := fun n H' hn hh hP => q n H' hn (by rw [hh, h2]) hP
      show tSeq _ _ _ _ (upd H p (.lst [.ref a, .int (i + 1), .int j]))
      generalize upd H p (.lst [.ref a, .int (i + 1), .int j]) = H1 at *
      -- the cell
      have atn : ∀ {z : Int}, 0 < xs.length → ∃ y, at_ok xs z y := fun {z} hl => by
        obtain ⟨n, hn, en⟩ := fmod_nat z hl
        exact ⟨xs[n], n, en, List.getElem?_eq_getElem hn⟩
      refine ⟨_, rfl, p, _, _, _, rfl, rfl, .inl (.inl hp1), atI_nat (j := 0) rfl, a, _, rfl, .inl hs1, _, _, rfl, rfl, _, rfl, ite2 (fun e2 => ?_) (fun e2 => ?_)⟩
      · have hl : 0 < xs.length := by
          have := of_decide_eq_true e2
          rw [List.length_map] at this
          omega
        obtain ⟨c, n, en, hc⟩ := atn (z := i) hl
        refine ⟨_, rfl, p, _, _, _, rfl, rfl, .inl (.inl hp1), atI_nat (j := 0) rfl, _, rfl, _, rfl, p, _, _, _, rfl, rfl, .inl (.inl hp1), atI_nat (j := 0) rfl, a, _, rfl, .inl hs1, _, _, rfl, rfl, by rw [List.length_map]; omega, a, _, _, _, rfl, rfl, hs1, at_of (by rw [List.length_map]; exact en) (by rw [List.getElem?_map, hc]; rfl), ?_⟩
        have keep : ∀ {o : HO}, True := fun {_} => trivial
        have fin1 : ∀ z : Int, ∃ n : Nat, n < m ∧ z.fmod (m : Nat) = (n : Int) := fun z => fmod_nat z hm
        have bigc : (0 : Int) ≤ 18 ∧ (18 : Int) ≤ 1000000 ∧ (10 : Int).natAbs < 2 ^ 64 := ⟨by decide, by decide, by decide⟩
        have low : ∀ H2 : Hp, True := fun _ => trivial
        refine ⟨_, rfl, _, rfl, p, _, _, _, rfl, rfl, .inl (.inl hp1), atI_nat (j := 0) rfl, a, _, rfl, .inl hs1, _, _, rfl, rfl, _, rfl, ite2 (fun e3 => ?_) (fun e3 => ?_)⟩
        · refine ⟨_, rfl, c, rfl, _, _, rfl, rfl, bigc, _, _, rfl, rfl, _, rfl, ite2 (fun e4 => ?_) (fun e4 => ?_)⟩
          · refine ⟨_, rfl, c, rfl, _, rfl, _, _, rfl, rfl, ⟨m0, mb⟩, _, rfl, p, _, _, 2, rfl, rfl, hp1, rfl, ?_⟩
            refine ⟨_, rfl, c, rfl, _, rfl, _, _, rfl, rfl, m0, ?_⟩
            obtain ⟨n, hn, en⟩ := fin1 (if c < 0 then -c else c)
            show Q (.int ((if c < 0 then -c else c).fmod (m : Nat))) _
            rw [en]
            exact q1 n _ hn hide_upd ⟨_, _, upd_same⟩
          · skip
            refine ⟨_, rfl, _, _, rfl, rfl, (by show (2147483647 : Int) ≠ 0; decide), _, rfl, _, _, rfl, rfl, .inl ⟨by decide, by decide⟩, _, _, rfl, rfl, _, _, rfl, rfl, _, _, rfl, rfl, .inr ⟨by decide, by decide⟩, _, _, rfl, rfl, (by show (2147483629 : Int) ≠ 0; decide), ?_⟩
            obtain ⟨n1, hn1, en1⟩ := fmod_nat ((c.fmod 2147483647 + 69621 * i + 13) * 48271) (m := 2147483629) (by omega)
            show tSeq _ _ _ [some (.ref p), some (.int m), none, some (.int i), some (.int c), some (.int (((c.fmod 2147483647 + 69621 * i + 13) * 48271).fmod 2147483629))] H1
            rw [show ((c.fmod 2147483647 + 69621 * i + 13) * 48271).fmod 2147483629 = (n1 : Int) from en1]
            refine ⟨_, rfl, _, rfl, _, _, rfl, rfl, .inl ⟨by omega, by omega⟩, _, rfl, _, _, rfl, rfl, .inl ⟨by decide, by decide⟩, _, _, rfl, rfl, _, rfl, _, _, rfl, rfl, _, _, rfl, rfl, (by show (2147483587 : Int) ≠ 0; decide), ?_⟩
            refine ⟨_, rfl, _, _, rfl, rfl, .inr ⟨by decide, by decide⟩, _, _, rfl, rfl, (by show (2147483563 : Int) ≠ 0; decide), _, _, rfl, rfl, ⟨by decide, by decide⟩, _, rfl, _, _, rfl, rfl, m0, ?_⟩
            obtain ⟨n, hn, en⟩ := fin1 (((((n1 : Int) * n1 + 40692 * n1 + i).fmod 2147483587 * 16807).fmod 2147483563).fdiv 32)
            show Q (.int ((((((n1 : Int) * n1 + 40692 * n1 + i).fmod 2147483587 * 16807).fmod 2147483563).fdiv 32).fmod (m : Nat))) H1
            rw [en]
            exact q1 n _ hn rfl h1
        · skip
          refine ⟨_, rfl, _, _, rfl, rfl, (by show (2147483647 : Int) ≠ 0; decide), _, rfl, _, _, rfl, rfl, .inl ⟨by decide, by decide⟩, _, _, rfl, rfl, _, _, rfl, rfl, _, _, rfl, rfl, .inr ⟨by decide, by decide⟩, _, _, rfl, rfl, (by show (2147483629 : Int) ≠ 0; decide), ?_⟩
          obtain ⟨n1, hn1, en1⟩ := fmod_nat ((c.fmod 2147483647 + 69621 * i + 13) * 48271) (m := 2147483629) (by omega)
          show tSeq _ _ _ [some (.ref p), some (.int m), none, some (.int i), some (.int c), some (.int (((c.fmod 2147483647 + 69621 * i + 13) * 48271).fmod 2147483629))] H1
          rw [show ((c.fmod 2147483647 + 69621 * i + 13) * 48271).fmod 2147483629 = (n1 : Int) from en1]
          refine ⟨_, rfl, _, rfl, _, _, rfl, rfl, .inl ⟨by omega, by omega⟩, _, rfl, _, _, rfl, rfl, .inl ⟨by decide, by decide⟩, _, _, rfl, rfl, _, rfl, _, _, rfl, rfl, _, _, rfl, rfl, (by show (2147483587 : Int) ≠ 0; decide), ?_⟩
          refine ⟨_, rfl, _, _, rfl, rfl, .inr ⟨by decide, by decide⟩, _, _, rfl, rfl, (by show (2147483563 : Int) ≠ 0; decide), _, _, rfl, rfl, ⟨by decide, by decide⟩, _, rfl, _, _, rfl, rfl, m0, ?_⟩
          obtain ⟨n, hn, en⟩ := fin1 (((((n1 : Int) * n1 + 40692 * n1 + i).fmod 2147483587 * 16807).fmod 2147483563).fdiv 32)
          show Q (.int ((((((n1 : Int) * n1 + 40692 * n1 + i).fmod 2147483587 * 16807).fmod 2147483563).fdiv 32).fmod (m : Nat))) H1
          rw [en]
          exact q1 n _ hn rfl h1
      · show tSeq _ _ _ [some (.ref p), some (.int m), none, some (.int i), some (.int 11), none] _
        generalize hc : (11 : Int) = c
        have keep : ∀ {o : HO}, True := fun {_} => trivial
        have fin1 : ∀ z : Int, ∃ n : Nat, n < m ∧ z.fmod (m : Nat) = (n : Int) := fun z => fmod_nat z hm
        have bigc : (0 : Int) ≤ 18 ∧ (18 : Int) ≤ 1000000 ∧ (10 : Int).natAbs < 2 ^ 64 := ⟨by decide, by decide, by decide⟩
        have low : ∀ H2 : Hp, True := fun _ => trivial
        refine ⟨_, rfl, _, rfl, p, _, _, _, rfl, rfl, .inl (.inl hp1), atI_nat (j := 0) rfl, a, _, rfl, .inl hs1, _, _, rfl, rfl, _, rfl, ite2 (fun e3 => ?_) (fun e3 => ?_)⟩
        · refine ⟨_, rfl, c, rfl, _, _, rfl, rfl, bigc, _, _, rfl, rfl, _, rfl, ite2 (fun e4 => ?_) (fun e4 => ?_)⟩
          · refine ⟨_, rfl, c, rfl, _, rfl, _, _, rfl, rfl, ⟨m0, mb⟩, _, rfl, p, _, _, 2, rfl, rfl, hp1, rfl, ?_⟩
            refine ⟨_, rfl, c, rfl, _, rfl, _, _, rfl, rfl, m0, ?_⟩
            obtain ⟨n, hn, en⟩ := fin1 (if c < 0 then -c else c)
            show Q (.int ((if c < 0 then -c else c).fmod (m : Nat))) _
            rw [en]
            exact q1 n _ hn hide_upd ⟨_, _, upd_same⟩
          · skip
            refine ⟨_, rfl, _, _, rfl, rfl, (by show (2147483647 : Int) ≠ 0; decide), _, rfl, _, _, rfl, rfl, .inl ⟨by decide, by decide⟩, _, _, rfl, rfl, _, _, rfl, rfl, _, _, rfl, rfl, .inr ⟨by decide, by decide⟩, _, _, rfl, rfl, (by show (2147483629 : Int) ≠ 0; decide), ?_⟩
            obtain ⟨n1, hn1, en1⟩ := fmod_nat ((c.fmod 2147483647 + 69621 * i + 13) * 48271) (m := 2147483629) (by omega)
            show tSeq _ _ _ [some (.ref p), some (.int m), none, some (.int i), some (.int c), some (.int (((c.fmod 2147483647 + 69621 * i + 13) * 48271).fmod 2147483629))] H1
            rw [show ((c.fmod 2147483647 + 69621 * i + 13) * 48271).fmod 2147483629 = (n1 : Int) from en1]
            refine ⟨_, rfl, _, rfl, _, _, rfl, rfl, .inl ⟨by omega, by omega⟩, _, rfl, _, _, rfl, rfl, .inl ⟨by decide, by decide⟩, _, _, rfl, rfl, _, rfl, _, _, rfl, rfl, _, _, rfl, rfl, (by show (2147483587 : Int) ≠ 0; decide), ?_⟩
            refine ⟨_, rfl, _, _, rfl, rfl, .inr ⟨by decide, by decide⟩, _, _, rfl, rfl, (by show (2147483563 : Int) ≠ 0; decide), _, _, rfl, rfl, ⟨by decide, by decide⟩, _, rfl, _, _, rfl, rfl, m0, ?_⟩
            obtain ⟨n, hn, en⟩ := fin1 (((((n1 : Int) * n1 + 40692 * n1 + i).fmod 2147483587 * 16807).fmod 2147483563).fdiv 32)
            show Q (.int ((((((n1 : Int) * n1 + 40692 * n1 + i).fmod 2147483587 * 16807).fmod 2147483563).fdiv 32).fmod (m : Nat))) H1
            rw [en]
            exact q1 n _ hn rfl h1
        · skip
          refine ⟨_, rfl, _, _, rfl, rfl, (by show (2147483647 : Int) ≠ 0; decide), _, rfl, _, _, rfl, rfl, .inl ⟨by decide, by decide⟩, _, _, rfl, rfl, _, _, rfl, rfl, _, _, rfl, rfl, .inr ⟨by decide, by decide⟩, _, _, rfl, rfl, (by show (2147483629 : Int) ≠ 0; decide), ?_⟩
          obtain ⟨n1, hn1, en1⟩ := fmod_nat ((c.fmod 2147483647 + 69621 * i + 13) * 48271) (m := 2147483629) (by omega)
          show tSeq _ _ _ [some (.ref p), some (.int m), none, some (.int i), some (.int c), some (.int (((c.fmod 2147483647 + 69621 * i + 13) * 48271).fmod 2147483629))] H1
          rw [show ((c.fmod 2147483647 + 69621 * i + 13) * 48271).fmod 2147483629 = (n1 : Int) from en1]
          refine ⟨_, rfl, _, rfl, _, _, rfl, rfl, .inl ⟨by omega, by omega⟩, _, rfl, _, _, rfl, rfl, .inl ⟨by decide, by decide⟩, _, _, rfl, rfl, _, rfl, _, _, rfl, rfl, _, _, rfl, rfl, (by show (2147483587 : Int) ≠ 0; decide), ?_⟩
          refine ⟨_, rfl, _, _, rfl, rfl, .inr ⟨by decide, by decide⟩, _, _, rfl, rfl, (by show (2147483563 : Int) ≠ 0; decide), _, _, rfl, rfl, ⟨by decide, by decide⟩, _, rfl, _, _, rfl, rfl, m0, ?_⟩
          obtain ⟨n, hn, en⟩ := fin1 (((((n1 : Int) * n1 + 40692 * n1 + i).fmod 2147483587 * 16807).fmod 2147483563).fdiv 32)
          show Q (.int ((((((n1 : Int) * n1 + 40692 * n1 + i).fmod 2147483587 * 16807).fmod 2147483563).fdiv 32).fmod (m : Nat))) H1
          rw [en]
          exact q1 n _ hn rfl h1
end
end HF
end

section
set_option Elab.async false
set_option linter.all false
set_option autoImplicit false
set_option maxRecDepth 100000
set_option maxHeartbeats 4000000
namespace HF
open PySem PySem.Spec PyProof.Rows L2
section
theorem ite_imp {c : Bool} {A B : Prop} {R : L2.St → Hp → Prop} {σ1 σ2 : L2.St} {H : Hp} (fb : R σ2 H → B) (fa : R σ1 H → A) (h : R (if c = true then σ1 else σ2) H) : if c = true then A else B := by
  cases c with
  | true => exact fa h
  | false => exact fb h
theorem and_imp {c1 c2 : Bool} {A B X : Prop} {R : L2.St → Hp → Prop} {σ1 σ2 : L2.St} {H : Hp} (fb : R σ2 H → B) (fa : R σ1 H → A) (fx : (if c2 = true then A else B) → X) (h : R (if (c1 && c2) = true then σ1 else σ2) H) : if c1 = true then X else B := by
  cases c1 with
  | true =>
    refine fx ?_
    cases c2 with
    | true => exact fa h
    | false => exact fb h
  | false => exact fb h
theorem penp_mono {H H' : Hp} {p a : Addr} (e : Same H H') (h : PenP H p a) : PenP H' p a := by
  obtain ⟨i, j, h⟩ := h
  exact ⟨i, j, e _ _ h⟩
theorem pen_of {K : PySem.W.Frag} {H : Hp} {p a : Addr} {xs : List Int} (h : PenP H p a) (hs : SqL K (hide p H) a (xs.map V.int)) : Pen K H p := by
  obtain ⟨i, j, h⟩ := h
  exact ⟨a, xs, i, j, h, hs⟩
theorem pen_upd {H : Hp} {p a L : Addr} {o : HO} (n : L ≠ p) (h : PenP H p a) : PenP (upd H L o) p a := by
  obtain ⟨i, j, h⟩ := h
  exact ⟨i, j, by rw [upd_ne n.symm]; exact h⟩
theorem dp_new2 {K : PySem.W.Frag} {H : Hp} {p L z : Addr} {a b : Nat} (zL : z ≠ L) (zp : z ≠ p) (h : H z = some (.tup [.int (a : Nat), .int (b : Nat)])) : Dp K (hide L (hide p H)) (.ref z) (tieD (a, b)) := by
  refine .tup (.inl (.inl ?_)) (.cons (.int _) (.cons (.int _) .nil))
  rw [hide_ne zL, hide_ne zp]
  exact h
end
section
variable {P : Program} {w : World} {K : PySem.W.Frag} {mg : Str → Option Value} {base : Heap} (T : Tx K mg)
def sp__law_web (K : PySem.W.Frag) : Sp := fun vs H Q _ => ∃ p : Addr, vs = [.ref p, .int 25, .int 24] ∧ Pen K H p ∧ ∀ H' v W, Same (hide p H) (hide p H') → Pen K H' p → Dp K (hide p H') v (webD W) → 0 < W.1 → W.1 ≤ 25 → W.2.length ≤ 24 → InR W.1 W.2 → Q v H'
theorem ok__law_web : FnOk P w K mg base CX0 2 T.d__law_web.f T.d__law_web.fd ["_law_pen_here", "_law_places", "_law_ties_here"] (sp__law_web K) := by
  refine T.d__law_web.ok sc__law_web (fun vs H Q E h => ?_) (fun cdv A outer s H vs Q E hr h => ?_)
  · obtain ⟨p, rfl, _⟩ := h; rfl
  · obtain ⟨p, rfl, ⟨a, xs, i0, j0, hp0, hs⟩, q⟩ := h
    have pen0 : PenP H p a := ⟨i0, j0, hp0⟩
    refine ⟨_, (pss_cons (ps_set (i := 3) sc__law_web.nd rfl (by first | exact Or.inl rfl | exact Or.inr rfl) (pe_op op_add pe_int (pe_call (ok__law_draw T) (hr.mono (by decide)) (by rfl) T.d__law_draw.g T.d__law_draw.F.kp T.d__law_draw.b .nil pass0 (pa_cons (pv 0) (pa_cons (pv 1) pa_nil)))))
 (pss_cons (ps_set (i := 4) sc__law_web.nd rfl (by first | exact Or.inl rfl | exact Or.inr rfl) (pe_call (ok__law_draw T) (hr.mono (by decide)) (by rfl) T.d__law_draw.g T.d__law_draw.F.kp T.d__law_draw.b .nil pass0 (pa_cons (pv 0) (pa_cons pe_int pa_nil))))
 (pss_cons (ps_set (i := 5) sc__law_web.nd rfl (by first | exact Or.inl rfl | exact Or.inr rfl) (pe_call (ok__law_draw T) (hr.mono (by decide)) (by rfl) T.d__law_draw.g T.d__law_draw.F.kp T.d__law_draw.b .nil pass0 (pa_cons (pv 0) (pa_cons (pe_op op_add (pv 2) pe_int) pa_nil))))
 (pss_cons (ps_if (pt_cmpR op_eq (pv 4) pe_int (nomark _))
  (pss_cons (ps_set (i := 3) sc__law_web.nd rfl (by first | exact Or.inl rfl | exact Or.inr rfl) (pv 1))
 (pss_one (ps_set (i := 5) sc__law_web.nd rfl (by first | exact Or.inl rfl | exact Or.inr rfl) (pv 2)))) pss_nil)
 (pss_cons (ps_set (i := 6) sc__law_web.nd rfl (by first | exact Or.inl rfl | exact Or.inr rfl) (pe_lst pa_nil))
 (pss_cons (ps_for PassesOwn.never rfl (pi_range1 (by rfl) T.n_range (pa_cons (pv 5) pa_nil)) (pg_name (i := 7) sc__law_web.nd rfl (by first | exact Or.inl rfl | exact Or.inr rfl))
  (pss_cons (ps_par (i := 8) (j := 9) (by rfl) sc__law_web.nd rfl rfl (by decide) rfl rfl (pa_cons (pe_call (ok__law_draw T) (hr.mono (by decide)) (by rfl) T.d__law_draw.g T.d__law_draw.F.kp T.d__law_draw.b .nil pass0 (pa_cons (pv 0) (pa_cons (pv 3) pa_nil))) (pa_cons (pe_call (ok__law_draw T) (hr.mono (by decide)) (by rfl) T.d__law_draw.g T.d__law_draw.F.kp T.d__law_draw.b .nil pass0 (pa_cons (pv 0) (pa_cons (pv 3) pa_nil))) pa_nil)) (by rfl))
 (pss_cons (ps_if (pt_cmpR op_eq (pv 4) pe_int (nomark _))
  (pss_one (ps_par (i := 8) (j := 9) (by rfl) sc__law_web.nd rfl rfl (by decide) rfl rfl (pa_cons (pe_op op_modN (pv 7) (pv 3)) (pa_cons (pe_op op_modN (pe_op op_add (pv 7) pe_int) (pv 3)) pa_nil)) (by rfl))) pss_nil)
 (pss_cons (ps_if (pt_cmpR op_eq (pv 4) pe_int (nomark _))
  (pss_one (ps_set (i := 8) sc__law_web.nd rfl (by first | exact Or.inl rfl | exact Or.inr rfl) pe_int)) pss_nil)
 (pss_cons (ps_if (pt_cmpR op_eq (pv 4) pe_int (nomark _))
  (pss_one (ps_set (i := 9) sc__law_web.nd rfl (by first | exact Or.inl rfl | exact Or.inr rfl) (pe_op op_add (pe_op op_modN (pv 8) pe_int) (pe_op op_mul (pe_op op_fdivN (pv 9) pe_int) pe_int)))) pss_nil)
 (pss_cons (ps_if (PW.pt (pw_and (pt_cmpR op_eq (pv 4) pe_int (nomark _)) (pw_and1 (pt_cmpR op_eq (pe_op op_modN (pv 9) pe_int) pe_int (nomark _)))))
  (pss_one (ps_set (i := 9) sc__law_web.nd rfl (by first | exact Or.inl rfl | exact Or.inr rfl) (pv 8))) pss_nil)
 (pss_one (ps_expr (pe_bm PySem.F.plainAttrs_list PySem.F.slot_list_append PySem.F.type_list_append mt_append (pv 6) (pa_cons (pe_tup (pa_cons (pv 8) (pa_cons (pe_callB (call_min2 rfl) (by rfl) T.n_min (by decide +kernel) (pa_cons (pv 9) (pa_cons (pe_op op_sub (pv 3) pe_int) pa_nil))) pa_nil))) pa_nil))))))))))
 (pss_one (ps_ret (pe_tup (pa_cons (pv 3) (pa_cons (pe_tupleOf (by rfl) T.n_tuple (pv 6)) pa_nil))))))))))), ?_⟩
    let ST : Nat → Nat → Nat → Addr → Nat → Int → Int → L2.St := fun mm way cc L k a b => [some (.ref p), some (.int 25), some (.int 24), some (.int (mm : Nat)), some (.int (way : Nat)), some (.int (cc : Nat)), some (.ref L), some (.int (k : Nat)), some (.int a), some (.int b)]
    have two0 : (2 : Int) ≠ 0 := by decide
    refine ⟨_, rfl, _, rfl, p, a, xs, 25, rfl, pen0, hs, by omega, by omega, fun n1 H1 hn1 g1 pen1 => ⟨_, _, rfl, rfl, ?_⟩⟩
    refine ⟨_, rfl, p, a, xs, 6, rfl, pen1, by rw [g1]; exact hs, by omega, by omega, fun way H2 hway g2 pen2 => ?_⟩
    refine ⟨_, rfl, _, rfl, _, _, rfl, rfl, p, a, xs, 25, rfl, pen2, by rw [g2, g1]; exact hs, by omega, by omega, fun n3 H3 hn3 g3' pen3 => ?_⟩
    have g3 : hide p H3 = hide p H := (g3'.trans g2).trans g1
    refine ⟨_, rfl, rfl, _, rfl, ?_⟩
    refine ite_imp (σ1 := [some (.ref p), some (.int 25), some (.int 24), some (.int ((25 : Nat) : Int)), some (.int (way : Nat)), some (.int ((24 : Nat) : Int)), none, none, none, none]) (σ2 := [some (.ref p), some (.int 25), some (.int 24), some (.int (1 + (n1 : Nat))), some (.int (way : Nat)), some (.int (n3 : Nat)), none, none, none, none]) (fun h => h) (fun h => ⟨_, rfl, _, rfl, h⟩) ?_
    obtain ⟨mm, cc, hm0, hm25, hc24, e0⟩ : ∃ mm cc : Nat, 0 < mm ∧ mm ≤ 25 ∧ cc ≤ 24 ∧ (if decide (V.int (way : Nat) = V.int 5) = true then ([some (.ref p), some (.int 25), some (.int 24), some (.int ((25 : Nat) : Int)), some (.int (way : Nat)), some (.int ((24 : Nat) : Int)), none, none, none, none] : L2.St) else [some (.ref p), some (.int 25), some (.int 24), some (.int (1 + (n1 : Nat))), some (.int (way : Nat)), some (.int (n3 : Nat)), none, none, none, none]) = [some (.ref p), some (.int 25), some (.int 24), some (.int (mm : Nat)), some (.int (way : Nat)), some (.int (cc : Nat)), none, none, none, none] := by
      split
      · exact ⟨25, 24, by omega, by omega, by omega, rfl⟩
      · exact ⟨n1 + 1, n3, by omega, by omega, by omega, by rw [show (1 : Int) + (n1 : Nat) = ((n1 + 1 : Nat) : Int) by omega]⟩
    rw [e0]
    have mne : ((mm : Nat) : Int) ≠ 0 := by omega
    refine ⟨Nat.zero_le _, fun L nL => ?_⟩
    have pL : L ≠ p := fun e => by
      obtain ⟨_, _, hp⟩ := pen3
      rw [e, hp] at nL
      cases nL
    have sG3 : Same (hide p H) (hide p (upd H3 L (.lst []))) := by have := hide_same (D := p) (same_upd (o := .lst []) nL); rw [g3] at this; exact this
    have nLG : (hide p H) L = none := by
      rw [← g3, hide_ne pL]
      exact nL
    refine ⟨_, rfl, (cc : Nat), rfl, by omega, by omega, for_range (lo := 0) (n := cc) (fun k σ H' => ∃ (y7 y8 y9 : Option V) (ys : List V) (fs : List (Nat × Nat)), σ = [some (.ref p), some (.int 25), some (.int 24), some (.int (mm : Nat)), some (.int (way : Nat)), some (.int (cc : Nat)), some (.ref L), y7, y8, y9] ∧ Same (hide p H) (hide p H') ∧ PenP H' p a ∧ H' L = some (.lst ys) ∧ DpAll K (hide L (hide p H')) ys (fs.map tieD) ∧ InR mm fs ∧ fs.length = k)
      ⟨none, none, none, [], [], rfl, sG3, penp_mono (same_upd nL) pen3, upd_same, .nil, fun t h => (by cases h), rfl⟩ ?_ ?_⟩
    · rintro k σ H4 hk ⟨y7, y8, y9, ys, fs, rfl, sm, pen4, hL, hD, hin, hlen⟩
      have yl := dpAll_len hD
      rw [List.length_map] at yl
      rw [Int.zero_add]
      refine ⟨_, rfl, _, rfl, p, a, xs, mm, rfl, pen4, same_seq sm hs, hm0, by omega, fun na H5 hna g5 pen5 => ?_⟩
      refine ⟨_, rfl, _, rfl, p, a, xs, mm, rfl, pen5, same_seq (by rw [g5]; exact sm) hs, hm0, by omega, fun nb H6 hnb g6 pen6 => ⟨_, _, rfl, ?_⟩⟩
      have g64 : hide p H6 = hide p H4 := g6.trans g5
      have sm6 : Same (hide p H) (hide p H6) := by rw [g64]; exact sm
      have hL6 : H6 L = some (.lst ys) := by
        have := hL
        rw [← hide_ne (H := H4) pL, ← g64, hide_ne pL] at this
        exact this
      have hD6 : DpAll K (hide L (hide p H6)) ys (fs.map tieD) := by rw [g64]; exact hD
      refine ⟨_, rfl, rfl, _, rfl, ?_⟩
      refine ite_imp (σ1 := ST mm way cc L k ((k : Int).fmod (mm : Nat)) (((k : Int) + 1).fmod (mm : Nat))) (σ2 := ST mm way cc L k na nb) (fun h => h) (fun h => ⟨_, rfl, _, rfl, _, _, rfl, rfl, mne, _, rfl, _, _, rfl, rfl, _, rfl, _, _, rfl, rfl, mne, _, _, rfl, h⟩) ?_
      obtain ⟨a1, b1, ha1, e1⟩ : ∃ a b : Nat, a < mm ∧ (if decide (V.int (way : Nat) = V.int 1) = true then (ST mm way cc L k ((k : Int).fmod (mm : Nat)) (((k : Int) + 1).fmod (mm : Nat)) : L2.St) else ST mm way cc L k na nb) = ST mm way cc L k a b := by
        obtain ⟨a, ha, ea⟩ := fmod_nat (k : Int) hm0
        obtain ⟨b, _, eb⟩ := fmod_nat ((k : Int) + 1) hm0
        rw [ea, eb]
        split
        · exact ⟨a, b, ha, rfl⟩
        · exact ⟨na, nb, hna, rfl⟩
      rw [e1]
      refine ⟨_, rfl, rfl, _, rfl, ?_⟩
      refine ite_imp (σ1 := ST mm way cc L k ((0 : Nat) : Int) b1) (σ2 := ST mm way cc L k a1 b1) (fun h => h) (fun h => h) ?_
      obtain ⟨a2, ha2, e2⟩ : ∃ a : Nat, a < mm ∧ (if decide (V.int (way : Nat) = V.int 2) = true then (ST mm way cc L k ((0 : Nat) : Int) b1 : L2.St) else ST mm way cc L k a1 b1) = ST mm way cc L k a b1 := by
        split
        · exact ⟨0, hm0, rfl⟩
        · exact ⟨a1, ha1, rfl⟩
      rw [e2]
      refine ⟨_, rfl, rfl, _, rfl, ?_⟩
      refine ite_imp (σ1 := ST mm way cc L k a2 ((a2 : Int).fmod 2 + (b1 : Int).fdiv 2 * 2)) (σ2 := ST mm way cc L k a2 b1) (fun h => h) (fun h => ⟨_, rfl, _, _, rfl, rfl, two0, _, rfl, _, _, rfl, rfl, ⟨by decide, by decide⟩, _, _, rfl, rfl, .inr ⟨by decide, by decide⟩, _, _, rfl, rfl, h⟩) ?_
      obtain ⟨b3, e3⟩ : ∃ b : Nat, (if decide (V.int (way : Nat) = V.int 3) = true then (ST mm way cc L k a2 ((a2 : Int).fmod 2 + (b1 : Int).fdiv 2 * 2) : L2.St) else ST mm way cc L k a2 b1) = ST mm way cc L k a2 b := by
        have ea : (a2 : Int).fmod 2 = ((a2 % 2 : Nat) : Int) := nfmod a2 2
        have eb : (b1 : Int).fdiv 2 = ((b1 / 2 : Nat) : Int) := nfdiv b1 2
        rw [ea, eb]
        split
        · exact ⟨a2 % 2 + b1 / 2 * 2, by congr 1⟩
        · exact ⟨b1, rfl⟩
      rw [e3]
      refine ⟨_, rfl, rfl, _, rfl, ?_⟩
      refine and_imp (c2 := decide (V.int ((b3 : Int).fmod 2) = V.int 0)) (σ1 := ST mm way cc L k a2 a2) (σ2 := ST mm way cc L k a2 b3) (fun h => h) (fun h => ⟨_, rfl, h⟩) (fun h => ⟨_, rfl, _, _, rfl, rfl, two0, rfl, _, rfl, h⟩) ?_
      obtain ⟨b4, e4⟩ : ∃ b : Nat, (if (decide (V.int (way : Nat) = V.int 4) && decide (V.int ((b3 : Int).fmod 2) = V.int 0)) = true then (ST mm way cc L k a2 a2 : L2.St) else ST mm way cc L k a2 b3) = ST mm way cc L k a2 b := by
        split
        · exact ⟨a2, rfl⟩
        · exact ⟨b3, rfl⟩
      rw [e4]
      refine ⟨_, rfl, .inl ⟨rfl, _, .inl (.inl hL6)⟩, _, rfl, _, rfl, _, rfl, _, _, rfl, rfl, _, _, rfl, by show 2 ≤ sizeLine; decide, fun z nz => ?_⟩
      obtain ⟨n, hn, en⟩ : ∃ n : Nat, n < mm ∧ (if ((mm : Int) - 1) < (b4 : Int) then ((mm : Int) - 1) else (b4 : Int)) = (n : Int) := by
        by_cases h : ((mm : Int) - 1) < (b4 : Int)
        · rw [if_pos h]
          exact ⟨mm - 1, by omega, by omega⟩
        · rw [if_neg h]
          exact ⟨b4, by omega, rfl⟩
      have zL : z ≠ L := (ne_of_none hL6 nz).symm
      have zp : z ≠ p := fun e => by
        obtain ⟨_, _, hp⟩ := pen6
        rw [e, hp] at nz
        cases nz
      have sz := same_upd (o := .tup [V.int (a2 : Nat), V.int (if ((mm : Int) - 1) < (b4 : Int) then ((mm : Int) - 1) else (b4 : Int))]) nz
      refine ⟨L, ys, _, rfl, rfl, sz _ _ hL6, lsz (by omega), ?_⟩
      refine ⟨_, _, _, _, fs ++ [(a2, n)], rfl, ?_, ?_, upd_same, ?_, ?_, by rw [List.length_append, hlen]; rfl⟩
      · rw [hide_new pL]
        exact same_mut (sm6.trans (hide_same sz)) nLG
      · exact pen_upd pL (penp_mono sz pen6)
      · rw [hide2_updM pL, List.map_append]
        refine dpAll_app (dpAll_mono (hide_same (hide_same sz)) hD6) (.cons ?_ .nil)
        refine dp_new2 zL zp ?_
        rw [upd_same, en]
      · intro t ht
        rcases List.mem_append.mp ht with h | h
        · exact hin t h
        · rw [List.mem_singleton.mp h]
          exact ⟨ha2, hn⟩
    · rintro σ H4 ⟨y7, y8, y9, ys, fs, rfl, sm, pen4, hL, hD, hin, hlen⟩
      refine ⟨_, rfl, _, rfl, .inl ⟨L, ys, rfl, .inl (.inl hL), fun z nz => ⟨by show 2 ≤ sizeLine; decide, fun y ny => ?_⟩⟩⟩
      have s1 := same_upd (o := .tup ys) nz
      have s2 := same_upd (o := .tup [V.int (mm : Nat), V.ref z]) ny
      have zp : z ≠ p := fun e => by
        obtain ⟨_, _, hp⟩ := pen4
        rw [e, hp] at nz
        cases nz
      have yp : y ≠ p := fun e => by
        obtain ⟨_, _, hp⟩ := penp_mono s1 pen4
        rw [e, hp] at ny
        cases ny
      have hy : (hide p (upd (upd H4 z (.tup ys)) y (.tup [V.int (mm : Nat), V.ref z]))) y = some (.tup [V.int (mm : Nat), V.ref z]) := by rw [hide_ne yp, upd_same]
      have hz : (hide p (upd (upd H4 z (.tup ys)) y (.tup [V.int (mm : Nat), V.ref z]))) z = some (.tup ys) := by
        rw [hide_ne zp]
        exact s2 _ _ upd_same
      have dd := dpAll_mono (hide_le.trans (hide_same (D := p) (s1.trans s2))) hD
      exact q _ (.ref y) (mm, fs) (sm.trans (hide_same (s1.trans s2))) (pen_of (penp_mono (s1.trans s2) pen4) (same_seq (sm.trans (hide_same (s1.trans s2))) hs)) (.tup (.inl (.inl hy)) (.cons (.int _) (.cons (.tup (.inl (.inl hz)) dd) .nil))) hm0 hm25 (by rw [hlen]; exact hc24) hin
end
end HF
end

section
set_option Elab.async false
set_option linter.all false
set_option autoImplicit false
set_option maxRecDepth 100000
set_option maxHeartbeats 4000000
namespace HF
open PySem PySem.Spec PyProof.Rows L2
section
theorem join_and {c1 : Bool} {X B : Prop} {R M : L2.St → Hp → Prop} {σ2 : L2.St} {H : Hp} (fb : R σ2 H → B) (m2 : M σ2 H) (fx : (∀ σ H, M σ H → R σ H) → X) (h : ∀ σ H, M σ H → R σ H) : if c1 = true then X else B := by
  cases c1 with
  | true => exact fx h
  | false => exact fb (h _ _ m2)
theorem star_conn {n : Nat} {ts : List (Nat × Nat)} (h : ∀ q, 1 ≤ q → q < n → ∃ t ∈ ts, (t.1 = q ∧ t.2 < q) ∨ (t.2 = q ∧ t.1 < q)) : ∀ a, a < n → Conn ts a 0 := by
  intro a
  induction a using Nat.strongRecOn with
  | _ a ih =>
    intro ha
    by_cases h0 : a = 0
    · rw [h0]
      exact .refl 0
    · obtain ⟨t, ht, e | e⟩ := h a (by omega) ha
      · have := ih t.2 e.2 (by omega)
        have c := Conn.tie t ht
        rw [e.1] at c
        exact c.trans this
      · have := ih t.1 e.2 (by omega)
        have c := (Conn.tie t ht).symm
        rw [e.1] at c
        exact c.trans this
theorem cut_all (ys : List V) (h : ys.length ≤ 24) : cutV ys none (some 24) = ys := by
  unfold cutV
  have e1 : HT.sIx ys.length 0 none = 0 := by simp [HT.sIx]
  have e2 : HT.sIx ys.length ys.length (some 24) = ys.length := by
    unfold HT.sIx
    simp only
    rw [if_neg (by decide)]
    exact Nat.min_eq_right h
  rw [e1, e2, List.drop_zero, Nat.sub_zero, List.take_length]
theorem dpAll_ins {K : PySem.W.Frag} {H : Hp} {ys : List V} {y : V} {fs : List (Nat × Nat)} {t : Nat × Nat} (i : Nat) (h : DpAll K H ys (fs.map tieD)) (hy : Dp K H y (tieD t)) :
    DpAll K H (ys.take i ++ [y] ++ ys.drop i) ((fs.take i ++ [t] ++ fs.drop i).map tieD) := by
  rw [List.map_append, List.map_append, List.map_take, List.map_drop]
  exact dpAll_app (dpAll_app (dpAll_take i h) (.cons hy .nil)) (dpAll_drop i h)
theorem mem_ins {α : Type} {fs : List α} {t x : α} (i : Nat) : x ∈ fs.take i ++ [t] ++ fs.drop i ↔ x = t ∨ x ∈ fs := by
  conv => rhs; rw [← List.take_append_drop i fs]
  simp only [List.mem_append, List.mem_singleton]
  constructor
  · rintro ((h | h) | h)
    · exact .inr (.inl h)
    · exact .inl h
    · exact .inr (.inr h)
  · rintro (h | h | h)
    · exact .inl (.inr h)
    · exact .inl (.inl h)
    · exact .inr h
theorem len_ins {α : Type} (fs : List α) (t : α) (i : Nat) : (fs.take i ++ [t] ++ fs.drop i).length = fs.length + 1 := by
  rw [List.length_append, List.length_append, List.length_take, List.length_drop, List.length_singleton]
  omega
theorem notp {H : Hp} {p a z : Addr} (h : PenP H p a) (n : H z = none) : z ≠ p := fun e => by
  obtain ⟨i, j, hp⟩ := h
  rw [e, hp] at n
  cases n
theorem max0 (x : Int) (n : Nat) (h : x < n) (hn : 0 < n) : ∃ m : Nat, m < n ∧ (if x > 0 then x else 0) = (m : Int) := by
  by_cases h0 : x > 0
  · rw [if_pos h0]
    exact ⟨x.toNat, by omega, by omega⟩
  · rw [if_neg h0]
    exact ⟨0, hn, rfl⟩
end
section
variable {P : Program} {w : World} {K : PySem.W.Frag} {mg : Str → Option Value} {base : Heap} (T : Tx K mg)
/-- what is told of the ties that are found so far -/
structure Fnd (K : PySem.W.Frag) (G H : Hp) (p a L : Addr) (mm : Nat) (fs : List (Nat × Nat)) : Prop where
  sm : Same G (hide p H)
  pen : PenP H p a
  at_ : ∃ ys, H L = some (.lst ys) ∧ DpAll K (hide L (hide p H)) ys (fs.map tieD)
  inr : InR mm fs
theorem Fnd.grow {G H H' : Hp} {p a L : Addr} {mm : Nat} {fs : List (Nat × Nat)} (F : Fnd K G H p a L mm fs) (e : Same H H') : Fnd K G H' p a L mm fs := by
  obtain ⟨sm, pen, ⟨ys, hL, hD⟩, hin⟩ := F
  exact ⟨sm.trans (hide_same e), penp_mono e pen, ⟨ys, e _ _ hL, dpAll_mono (hide_same (hide_same e)) hD⟩, hin⟩
theorem Fnd.drawn {G H H' : Hp} {p a L : Addr} {mm : Nat} {fs : List (Nat × Nat)} (F : Fnd K G H p a L mm fs) (n : L ≠ p) (e : hide p H' = hide p H) (pen' : PenP H' p a) : Fnd K G H' p a L mm fs := by
  obtain ⟨sm, pen, ⟨ys, hL, hD⟩, hin⟩ := F
  refine ⟨by rw [e]; exact sm, pen', ⟨ys, ?_, by rw [e]; exact hD⟩, hin⟩
  rw [← hide_ne (H := H) n, ← e, hide_ne n] at hL
  exact hL
theorem Fnd.ins {G H : Hp} {p a L : Addr} {mm : Nat} {fs : List (Nat × Nat)} (F : Fnd K G H p a L mm fs) (n : L ≠ p) (nG : G L = none) {ys : List V} {z : Addr} {t : Nat × Nat} (i : Nat) (hL : H L = some (.lst ys)) (hz : H z = some (.tup [.int (t.1 : Nat), .int (t.2 : Nat)])) (zp : z ≠ p) (ht : t.1 < mm ∧ t.2 < mm) :
    Fnd K G (upd H L (.lst (ys.take i ++ [.ref z] ++ ys.drop i))) p a L mm (fs.take i ++ [t] ++ fs.drop i) := by
  obtain ⟨sm, pen, ⟨ys', hL', hD⟩, hin⟩ := F
  rw [hL] at hL'
  cases hL'
  have zL : z ≠ L := fun e => by
    rw [e, hL] at hz
    cases hz
  refine ⟨?_, pen_upd n pen, ⟨_, upd_same, ?_⟩, fun x hx => ?_⟩
  · rw [hide_new n]
    exact same_mut sm nG
  · rw [hide2_updM n]
    exact dpAll_ins i hD (dp_new2 zL zp hz)
  · rcases (mem_ins i).mp hx with h | h
    · rw [h]; exact ht
    · exact hin x h
def sp__law_one (K : PySem.W.Frag) : Sp := fun vs H Q _ => ∃ p : Addr, vs = [.ref p, .int 25, .int 24] ∧ Pen K H p ∧ ∀ H' v W, Same (hide p H) (hide p H') → Pen K H' p → Dp K (hide p H') v (webD W) → 0 < W.1 → W.1 ≤ 25 → W.2.length ≤ 24 → InR W.1 W.2 → nparts W.1 W.2 = 1 → Q v H'
theorem ok__law_one : FnOk P w K mg base CX0 2 T.d__law_one.f T.d__law_one.fd ["_law_pen_here", "_law_places", "_law_ties_here"] (sp__law_one K) := by
  refine T.d__law_one.ok sc__law_one (fun vs H Q E h => ?_) (fun cdv A outer s H vs Q E hr h => ?_)
  · obtain ⟨p, rfl, _⟩ := h; rfl
  · obtain ⟨p, rfl, ⟨a, xs, i0, j0, hp0, hs⟩, q⟩ := h
    have pen0 : PenP H p a := ⟨i0, j0, hp0⟩
    let ST : Nat → Nat → Nat → Addr → Nat → Option V → Int → Int → L2.St := fun mm more shp L k o a b => [some (.ref p), some (.int 25), some (.int 24), some (.int (mm : Nat)), some (.int (more : Nat)), some (.int (shp : Nat)), some (.ref L), some (.int (k : Nat)), o, some (.int a), some (.int b)]
    refine ⟨_, (pss_cons (ps_set (i := 3) sc__law_one.nd rfl (by first | exact Or.inl rfl | exact Or.inr rfl) (pe_op op_add pe_int (pe_call (ok__law_draw T) (hr.mono (by decide)) (by rfl) T.d__law_draw.g T.d__law_draw.F.kp T.d__law_draw.b .nil pass0 (pa_cons (pv 0) (pa_cons (pv 1) pa_nil)))))
 (pss_cons (ps_set (i := 4) sc__law_one.nd rfl (by first | exact Or.inl rfl | exact Or.inr rfl) (pe_call (ok__law_draw T) (hr.mono (by decide)) (by rfl) T.d__law_draw.g T.d__law_draw.F.kp T.d__law_draw.b .nil pass0 (pa_cons (pv 0) (pa_cons (pe_callB (call_max2 rfl) (by rfl) T.n_max (by decide +kernel) (pa_cons pe_int (pa_cons (pe_op op_add (pe_op op_sub (pv 2) (pv 3)) pe_int) pa_nil))) pa_nil))))
 (pss_cons (ps_set (i := 5) sc__law_one.nd rfl (by first | exact Or.inl rfl | exact Or.inr rfl) (pe_call (ok__law_draw T) (hr.mono (by decide)) (by rfl) T.d__law_draw.g T.d__law_draw.F.kp T.d__law_draw.b .nil pass0 (pa_cons (pv 0) (pa_cons pe_int pa_nil))))
 (pss_cons (ps_if (PW.pt (pw_and (pt_cmpR op_eq (pv 5) pe_int (nomark _)) (pw_and1 (pt_cmpR op_eq (pe_call (ok__law_draw T) (hr.mono (by decide)) (by rfl) T.d__law_draw.g T.d__law_draw.F.kp T.d__law_draw.b .nil pass0 (pa_cons (pv 0) (pa_cons pe_int pa_nil))) pe_int (nomark _)))))
  (pss_cons (ps_set (i := 3) sc__law_one.nd rfl (by first | exact Or.inl rfl | exact Or.inr rfl) (pv 1))
 (pss_one (ps_set (i := 4) sc__law_one.nd rfl (by first | exact Or.inl rfl | exact Or.inr rfl) (pe_callB (call_max2 rfl) (by rfl) T.n_max (by decide +kernel) (pa_cons pe_int (pa_cons (pe_op op_add (pe_op op_sub (pv 2) (pv 3)) pe_int) pa_nil)))))) pss_nil)
 (pss_cons (ps_set (i := 6) sc__law_one.nd rfl (by first | exact Or.inl rfl | exact Or.inr rfl) (pe_lst pa_nil))
 (pss_cons (ps_for PassesOwn.never rfl (pi_range2 (by rfl) T.n_range (pa_cons pe_int (pa_cons (pv 3) pa_nil))) (pg_name (i := 7) sc__law_one.nd rfl (by first | exact Or.inl rfl | exact Or.inr rfl))
  (pss_cons (ps_set (i := 8) sc__law_one.nd rfl (by first | exact Or.inl rfl | exact Or.inr rfl) (pe_ix ix_list (pe_lst (pa_cons (pe_call (ok__law_draw T) (hr.mono (by decide)) (by rfl) T.d__law_draw.g T.d__law_draw.F.kp T.d__law_draw.b .nil pass0 (pa_cons (pv 0) (pa_cons (pv 7) pa_nil))) (pa_cons (pe_op op_sub (pv 7) pe_int) (pa_cons pe_int (pa_cons (pe_callB (call_max2 rfl) (by rfl) T.n_max (by decide +kernel) (pa_cons pe_int (pa_cons (pe_op op_sub (pe_op op_sub (pv 7) pe_int) (pe_call (ok__law_draw T) (hr.mono (by decide)) (by rfl) T.d__law_draw.g T.d__law_draw.F.kp T.d__law_draw.b .nil pass0 (pa_cons (pv 0) (pa_cons pe_int pa_nil)))) pa_nil))) pa_nil))))) (pv 5) (fun _ _ => rfl)))
 (pss_one (ps_expr (pe_bm PySem.F.plainAttrs_list PySem.F.slot_list_insert PySem.F.type_list_insert mt_insert (pv 6) (pa_cons (pe_call (ok__law_draw T) (hr.mono (by decide)) (by rfl) T.d__law_draw.g T.d__law_draw.F.kp T.d__law_draw.b .nil pass0 (pa_cons (pv 0) (pa_cons (pe_op op_add (pe_callB call_len_seq (by rfl) T.n_len (by decide +kernel) (pa_cons (pv 6) pa_nil)) pe_int) pa_nil))) (pa_cons (pe_ix ix_list (pe_lst (pa_cons (pe_tup (pa_cons (pv 7) (pa_cons (pv 8) pa_nil))) (pa_cons (pe_tup (pa_cons (pv 8) (pa_cons (pv 7) pa_nil))) pa_nil))) (pe_call (ok__law_draw T) (hr.mono (by decide)) (by rfl) T.d__law_draw.g T.d__law_draw.F.kp T.d__law_draw.b .nil pass0 (pa_cons (pv 0) (pa_cons pe_int pa_nil))) (fun _ _ => rfl)) pa_nil)))))))
 (pss_cons (ps_for PassesOwn.never rfl (pi_range1 (by rfl) T.n_range (pa_cons (pv 4) pa_nil)) (pg_name (i := 7) sc__law_one.nd rfl (by first | exact Or.inl rfl | exact Or.inr rfl))
  (pss_cons (ps_par (i := 9) (j := 10) (by rfl) sc__law_one.nd rfl rfl (by decide) rfl rfl (pa_cons (pe_call (ok__law_draw T) (hr.mono (by decide)) (by rfl) T.d__law_draw.g T.d__law_draw.F.kp T.d__law_draw.b .nil pass0 (pa_cons (pv 0) (pa_cons (pv 3) pa_nil))) (pa_cons (pe_call (ok__law_draw T) (hr.mono (by decide)) (by rfl) T.d__law_draw.g T.d__law_draw.F.kp T.d__law_draw.b .nil pass0 (pa_cons (pv 0) (pa_cons (pv 3) pa_nil))) pa_nil)) (by rfl))
 (pss_cons (ps_if (PW.pt (pw_and (pt_cmpR op_eq (pv 5) pe_int (nomark _)) (pw_and1 (pt_cmpR op_eq (pe_op op_modN (pv 7) pe_int) pe_int (nomark _)))))
  (pss_one (ps_set (i := 10) sc__law_one.nd rfl (by first | exact Or.inl rfl | exact Or.inr rfl) (pv 9))) pss_nil)
 (pss_cons (ps_if (pt_cmpR op_eq (pv 5) pe_int (nomark _))
  (pss_one (ps_set (i := 10) sc__law_one.nd rfl (by first | exact Or.inl rfl | exact Or.inr rfl) (pe_op op_modN (pe_op op_add (pe_op op_add (pv 9) pe_int) (pe_call (ok__law_draw T) (hr.mono (by decide)) (by rfl) T.d__law_draw.g T.d__law_draw.F.kp T.d__law_draw.b .nil pass0 (pa_cons (pv 0) (pa_cons pe_int pa_nil)))) (pv 3)))) pss_nil)
 (pss_one (ps_expr (pe_bm PySem.F.plainAttrs_list PySem.F.slot_list_insert PySem.F.type_list_insert mt_insert (pv 6) (pa_cons (pe_call (ok__law_draw T) (hr.mono (by decide)) (by rfl) T.d__law_draw.g T.d__law_draw.F.kp T.d__law_draw.b .nil pass0 (pa_cons (pv 0) (pa_cons (pe_op op_add (pe_callB call_len_seq (by rfl) T.n_len (by decide +kernel) (pa_cons (pv 6) pa_nil)) pe_int) pa_nil))) (pa_cons (pe_tup (pa_cons (pv 9) (pa_cons (pv 10) pa_nil))) pa_nil)))))))))
 (pss_one (ps_ret (pe_tup (pa_cons (pv 3) (pa_cons (pe_tupleOf (by rfl) T.n_tuple (pe_slice sl_list (pv 6) po_none (po_some (pv 2)))) pa_nil)))))))))))), ?_⟩
    refine ⟨_, rfl, _, rfl, p, a, xs, 25, rfl, pen0, hs, by omega, by omega, fun n1 H1 hn1 g1 pen1 => ⟨_, _, rfl, rfl, ?_⟩⟩
    have em : (if (24 : Int) - (1 + (n1 : Nat)) + 2 > 1 then (24 : Int) - (1 + (n1 : Nat)) + 2 else 1) = ((25 - n1 : Nat) : Int) := by
      split <;> omega
    refine ⟨_, rfl, _, rfl, _, rfl, _, _, rfl, rfl, _, _, rfl, rfl, _, _, rfl, p, a, xs, 25 - n1, by show [V.ref p, V.int (if (24 : Int) - (1 + (n1 : Nat)) + 2 > 1 then (24 : Int) - (1 + (n1 : Nat)) + 2 else 1)] = _; rw [em], pen1, by rw [g1]; exact hs, by omega, by omega, fun n2 H2 hn2 g2 pen2 => ?_⟩
    refine ⟨_, rfl, p, a, xs, 4, rfl, pen2, by rw [g2, g1]; exact hs, by omega, by omega, fun shp H3 hshp g3' pen3 => ?_⟩
    have g3 : hide p H3 = hide p H := (g3'.trans g2).trans g1
    refine ⟨_, rfl, rfl, _, rfl, ?_⟩
    refine join_and (M := fun σ H' => ∃ mm more : Nat, 0 < mm ∧ mm ≤ 25 ∧ mm + more ≤ 25 ∧ σ = [some (.ref p), some (.int 25), some (.int 24), some (.int (mm : Nat)), some (.int (more : Nat)), some (.int (shp : Nat)), none, none, none, none, none] ∧ hide p H' = hide p H ∧ PenP H' p a)
      (σ2 := [some (.ref p), some (.int 25), some (.int 24), some (.int (1 + (n1 : Nat))), some (.int (n2 : Nat)), some (.int (shp : Nat)), none, none, none, none, none]) (fun h => (show tNext _ _ _ from h)) ⟨n1 + 1, n2, by omega, by omega, by omega, by rw [show (1 : Int) + (n1 : Nat) = ((n1 + 1 : Nat) : Int) by omega], g3, pen3⟩ (fun key => ?_) ?_
    · refine ⟨_, rfl, p, a, xs, 3, rfl, pen3, by rw [g3]; exact hs, by omega, by omega, fun n4 H4 hn4 g4 pen4 => ⟨rfl, _, rfl, ?_⟩⟩
      refine ite2 (fun e => ?_) (fun e => ?_)
      · refine ⟨_, rfl, _, rfl, _, rfl, _, _, rfl, rfl, _, _, rfl, rfl, _, _, rfl, ?_⟩
        exact key _ _ ⟨25, 0, by omega, by omega, by omega, rfl, g4.trans g3, pen4⟩
      · exact key _ _ ⟨n1 + 1, n2, by omega, by omega, by omega, by rw [show ((n1 + 1 : Nat) : Int) = (1 : Int) + (n1 : Nat) by omega]; rfl, g4.trans g3, pen4⟩
    · rintro σ H4 ⟨mm, more, hm0, hm25, hmore, rfl, g4, pen4⟩
      refine ⟨Nat.zero_le _, fun L nL => ?_⟩
      have pL : L ≠ p := notp pen4 nL
      have nLG : (hide p H) L = none := by rw [← g4, hide_ne pL]; exact nL
      have F0 : Fnd K (hide p H) (upd H4 L (.lst [])) p a L mm [] := by
        refine ⟨?_, penp_mono (same_upd nL) pen4, ⟨[], upd_same, .nil⟩, fun t h => by cases h⟩
        have := hide_same (D := p) (same_upd (o := .lst []) nL)
        rw [g4] at this
        exact this
      generalize (upd H4 L (.lst [])) = H5 at *
      have mne : ((mm : Nat) : Int) ≠ 0 := by omega
      refine ⟨_, rfl, 1, (mm : Nat), rfl, ⟨by omega, by omega, by omega, by omega⟩, ?_⟩
      rw [show ((mm : Nat) - 1 : Int).toNat = mm - 1 by omega]
      refine for_range (lo := 1) (n := mm - 1) (fun j σ H' => ∃ (y7 y8 y9 y10 : Option V) (fs : List (Nat × Nat)), σ = [some (.ref p), some (.int 25), some (.int 24), some (.int (mm : Nat)), some (.int (more : Nat)), some (.int (shp : Nat)), some (.ref L), y7, y8, y9, y10] ∧ Fnd K (hide p H) H' p a L mm fs ∧ fs.length = j ∧ ∀ q, 1 ≤ q → q ≤ j → ∃ t ∈ fs, (t.1 = q ∧ t.2 < q) ∨ (t.2 = q ∧ t.1 < q))
        ⟨none, none, none, none, [], rfl, F0, rfl, fun q h1 h2 => by omega⟩ ?_ ?_
      · rintro j σ H6 hj ⟨y7, y8, y9, y10, fs, rfl, F, hlen, hstar⟩
        have ek : (1 : Int) + (j : Nat) = ((j + 1 : Nat) : Int) := by omega
        rw [ek]
        refine ⟨_, rfl, _, rfl, p, a, xs, j + 1, rfl, F.pen, same_seq F.sm hs, by omega, by omega, fun d1 H7 hd1 g7 pen7 => ?_⟩
        have F7 := F.drawn pL g7 pen7
        refine ⟨_, rfl, _, _, rfl, rfl, _, rfl, _, _, rfl, rfl, _, rfl, p, a, xs, 3, rfl, pen7, same_seq F7.sm hs, by omega, by omega, fun d2 H8 hd2 g8 pen8 => ?_⟩
        have F8 := F7.drawn pL g8 pen8
        refine ⟨_, _, rfl, rfl, _, _, rfl, by show 4 ≤ sizeLine; decide, fun z nz => ?_⟩
        obtain ⟨m3, hm3, em3⟩ := max0 (((j + 1 : Nat) : Int) - 1 - (d2 : Nat)) (j + 1) (by omega) (by omega)
        obtain ⟨o, ho, eo⟩ : ∃ o : Nat, o < j + 1 ∧ [V.int (d1 : Nat), V.int (((j + 1 : Nat) : Int) - 1), V.int 0, V.int (if ((j + 1 : Nat) : Int) - 1 - (d2 : Nat) > 0 then ((j + 1 : Nat) : Int) - 1 - (d2 : Nat) else 0)][shp]? = some (V.int (o : Nat)) := by
          rw [em3]
          match shp, hshp with
          | 0, _ => exact ⟨d1, hd1, rfl⟩
          | 1, _ => exact ⟨j, by omega, by rw [show ((j + 1 : Nat) : Int) - 1 = (j : Nat) by omega]; rfl⟩
          | 2, _ => exact ⟨0, by omega, rfl⟩
          | 3, _ => exact ⟨m3, hm3, rfl⟩
        have sz := same_upd (o := .lst [V.int (d1 : Nat), V.int (((j + 1 : Nat) : Int) - 1), V.int 0, V.int (if ((j + 1 : Nat) : Int) - 1 - (d2 : Nat) > 0 then ((j + 1 : Nat) : Int) - 1 - (d2 : Nat) else 0)]) nz
        have F9 := F8.grow sz
        refine ⟨_, rfl, z, _, _, _, rfl, rfl, .inl (.inl upd_same), atI_nat eo, ?_⟩
        generalize (upd H8 z (.lst [V.int (d1 : Nat), V.int (((j + 1 : Nat) : Int) - 1), V.int 0, V.int (if ((j + 1 : Nat) : Int) - 1 - (d2 : Nat) > 0 then ((j + 1 : Nat) : Int) - 1 - (d2 : Nat) else 0)])) = H9 at *
        obtain ⟨ys9, hL9, hD9⟩ := F9.at_
        have yl9 := dpAll_len hD9
        rw [List.length_map] at yl9
        refine ⟨_, rfl, .inl ⟨rfl, _, .inl (.inl hL9)⟩, _, rfl, _, rfl, L, ys9, rfl, .inl (.inl (.inl hL9)), _, _, rfl, rfl, p, a, xs, fs.length + 1, by show [V.ref p, V.int ((ys9.length : Nat) + 1 : Int)] = _; rw [yl9]; rfl, F9.pen, same_seq F9.sm hs, by omega, by omega, fun d3 H10 hd3 g10 pen10 => ?_⟩
        have F10 := F9.drawn pL g10 pen10
        refine ⟨_, rfl, _, rfl, by show 2 ≤ sizeLine; decide, fun z1 nz1 => ⟨_, rfl, _, rfl, by show 2 ≤ sizeLine; decide, fun z2 nz2 => ⟨by show 2 ≤ sizeLine; decide, fun z3 nz3 => ?_⟩⟩⟩
        have t1 := same_upd (o := .tup [V.int ((j + 1 : Nat) : Int), V.int (o : Nat)]) nz1
        have t2 := same_upd (o := .tup [V.int (o : Nat), V.int ((j + 1 : Nat) : Int)]) nz2
        have t3 := same_upd (o := .lst [V.ref z1, V.ref z2]) nz3
        have h1 := t3 _ _ (t2 _ _ (upd_same (H := H10) (a := z1) (o := .tup [V.int ((j + 1 : Nat) : Int), V.int (o : Nat)])))
        have h2 := t3 _ _ (upd_same (H := upd H10 z1 (.tup [V.int ((j + 1 : Nat) : Int), V.int (o : Nat)])) (a := z2) (o := .tup [V.int (o : Nat), V.int ((j + 1 : Nat) : Int)]))
        have h3 := upd_same (H := upd (upd H10 z1 (.tup [V.int ((j + 1 : Nat) : Int), V.int (o : Nat)])) z2 (.tup [V.int (o : Nat), V.int ((j + 1 : Nat) : Int)])) (a := z3) (o := .lst [V.ref z1, V.ref z2])
        have F11 := ((F10.grow t1).grow t2).grow t3
        have z1p := notp pen10 nz1
        have z2p := notp (penp_mono t1 pen10) nz2
        generalize (upd (upd (upd H10 z1 (.tup [V.int ((j + 1 : Nat) : Int), V.int (o : Nat)])) z2 (.tup [V.int (o : Nat), V.int ((j + 1 : Nat) : Int)])) z3 (.lst [V.ref z1, V.ref z2])) = H11 at *
        refine ⟨_, rfl, p, a, xs, 2, rfl, F11.pen, same_seq F11.sm hs, by omega, by omega, fun d4 H12 hd4 g12 pen12 => ?_⟩
        have F12 := F11.drawn pL g12 pen12
        have z3p : z3 ≠ p := fun e => by
          obtain ⟨_, _, hp⟩ := F11.pen
          rw [e, hp] at h3
          cases h3
        have move : ∀ {b : Addr} {x : HO}, b ≠ p → H11 b = some x → H12 b = some x := fun {b x} hb hx => by
          rw [← hide_ne (H := H11) hb, ← g12, hide_ne hb] at hx
          exact hx
        obtain ⟨zz, t, hzz, hzH, hzp, htt⟩ : ∃ (zz : Addr) (t : Nat × Nat), [V.ref z1, V.ref z2][d4]? = some (.ref zz) ∧ H12 zz = some (.tup [.int (t.1 : Nat), .int (t.2 : Nat)]) ∧ zz ≠ p ∧ ((t.1 = j + 1 ∧ t.2 < j + 1) ∨ (t.2 = j + 1 ∧ t.1 < j + 1)) := by
          match d4, hd4 with
          | 0, _ => exact ⟨z1, (j + 1, o), rfl, move z1p h1, z1p, .inl ⟨rfl, ho⟩⟩
          | 1, _ => exact ⟨z2, (o, j + 1), rfl, move z2p h2, z2p, .inr ⟨rfl, ho⟩⟩
        obtain ⟨ys12, hL12, hD12⟩ := F12.at_
        have yl12 := dpAll_len hD12
        rw [List.length_map] at yl12
        refine ⟨z3, _, _, _, rfl, rfl, .inl (.inl (move z3p h3)), atI_nat hzz, L, ys12, _, _, rfl, rfl, hL12, lsz (by omega), by omega, by omega, ?_⟩
        rw [Int.toNat_natCast]
        refine ⟨_, _, _, _, _, rfl, F12.ins pL nLG d3 hL12 hzH hzp (by rcases htt with h | h <;> omega), by rw [len_ins, hlen], fun q' h1 h2 => ?_⟩
        by_cases e : q' = j + 1
        · rw [e]
          exact ⟨t, (mem_ins d3).mpr (.inl rfl), htt⟩
        · obtain ⟨t', ht', h'⟩ := hstar q' h1 (by omega)
          exact ⟨t', (mem_ins d3).mpr (.inr ht'), h'⟩
      · rintro σ H6 ⟨y7, y8, y9, y10, fs, rfl, F, hlen, hstar⟩
        refine ⟨_, rfl, (more : Nat), rfl, by omega, by omega, for_range (lo := 0) (n := more) (fun j σ H' => ∃ (y7 y8 y9 y10 : Option V) (fs : List (Nat × Nat)), σ = [some (.ref p), some (.int 25), some (.int 24), some (.int (mm : Nat)), some (.int (more : Nat)), some (.int (shp : Nat)), some (.ref L), y7, y8, y9, y10] ∧ Fnd K (hide p H) H' p a L mm fs ∧ fs.length = mm - 1 + j ∧ ∀ q, 1 ≤ q → q ≤ mm - 1 → ∃ t ∈ fs, (t.1 = q ∧ t.2 < q) ∨ (t.2 = q ∧ t.1 < q))
          ⟨y7, y8, y9, y10, fs, rfl, F, hlen, hstar⟩ ?_ ?_⟩
        · rintro j σ H7 hj ⟨y7, y8, y9, y10, fs, rfl, F, hlen, hstar⟩
          rw [Int.zero_add]
          refine ⟨_, rfl, _, rfl, p, a, xs, mm, rfl, F.pen, same_seq F.sm hs, hm0, by omega, fun na H8 hna g8 pen8 => ?_⟩
          have F8 := F.drawn pL g8 pen8
          refine ⟨_, rfl, _, rfl, p, a, xs, mm, rfl, F8.pen, same_seq F8.sm hs, hm0, by omega, fun nb H9 hnb g9 pen9 => ⟨_, _, rfl, ?_⟩⟩
          have F9 := F8.drawn pL g9 pen9
          refine ⟨_, rfl, rfl, _, rfl, ?_⟩
          refine and_imp (c2 := decide (V.int ((j : Int).fmod 2) = V.int 1)) (σ1 := ST mm more shp L j y8 na na) (σ2 := ST mm more shp L j y8 na nb) (fun h => h) (fun h => ⟨_, rfl, h⟩) (fun h => ⟨_, rfl, _, _, rfl, rfl, (by decide : (2 : Int) ≠ 0), rfl, _, rfl, h⟩) ?_
          obtain ⟨b1, hb1, e1⟩ : ∃ b : Nat, b < mm ∧ (if (decide (V.int (shp : Nat) = V.int 2) && decide (V.int ((j : Int).fmod 2) = V.int 1)) = true then (ST mm more shp L j y8 na na : L2.St) else ST mm more shp L j y8 na nb) = ST mm more shp L j y8 na b := by
            split
            · exact ⟨na, hna, rfl⟩
            · exact ⟨nb, hnb, rfl⟩
          rw [e1]
          refine ⟨_, rfl, rfl, _, rfl, ?_⟩
          refine join_and (M := fun σ H' => ∃ b : Nat, b < mm ∧ σ = ST mm more shp L j y8 na b ∧ Fnd K (hide p H) H' p a L mm fs) (σ2 := ST mm more shp L j y8 na b1) (fun h => (show tNext _ _ _ from h)) ⟨b1, hb1, rfl, F9⟩ (fun key => ?_) ?_
          · refine ⟨_, rfl, _, _, rfl, rfl, _, rfl, p, a, xs, 4, rfl, F9.pen, same_seq F9.sm hs, by omega, by omega, fun d4 H10 hd4 g10 pen10 => ⟨_, _, rfl, rfl, _, rfl, _, _, rfl, rfl, mne, ?_⟩⟩
            obtain ⟨b2, hb2, eb2⟩ := fmod_nat ((na : Int) + 1 + (d4 : Nat)) hm0
            exact key (ST mm more shp L j y8 na (((na : Int) + 1 + (d4 : Nat)).fmod (mm : Nat))) _ ⟨b2, hb2, by rw [eb2], F9.drawn pL g10 pen10⟩
          · rintro σ H10 ⟨b2, hb2, rfl, F10⟩
            obtain ⟨ys10, hL10, hD10⟩ := F10.at_
            have yl10 := dpAll_len hD10
            rw [List.length_map] at yl10
            refine ⟨_, rfl, .inl ⟨rfl, _, .inl (.inl hL10)⟩, _, rfl, _, rfl, L, ys10, rfl, .inl (.inl (.inl hL10)), _, _, rfl, rfl, p, a, xs, fs.length + 1, by show [V.ref p, V.int ((ys10.length : Nat) + 1 : Int)] = _; rw [yl10]; rfl, F10.pen, same_seq F10.sm hs, by omega, by omega, fun d3 H11 hd3 g11 pen11 => ?_⟩
            have F11 := F10.drawn pL g11 pen11
            refine ⟨_, rfl, _, rfl, by show 2 ≤ sizeLine; decide, fun z nz => ?_⟩
            have sz := same_upd (o := .tup [V.int (na : Nat), V.int (b2 : Nat)]) nz
            have zp := notp pen11 nz
            have F12 := F11.grow sz
            have hz : (upd H11 z (.tup [V.int (na : Nat), V.int (b2 : Nat)])) z = some (.tup [V.int (na : Nat), V.int (b2 : Nat)]) := upd_same
            generalize (upd H11 z (.tup [V.int (na : Nat), V.int (b2 : Nat)])) = H12 at *
            obtain ⟨ys12, hL12, hD12⟩ := F12.at_
            have yl12 := dpAll_len hD12
            rw [List.length_map] at yl12
            refine ⟨L, ys12, _, _, rfl, rfl, hL12, lsz (by omega), by omega, by omega, ?_⟩
            rw [Int.toNat_natCast]
            refine ⟨_, _, _, _, _, rfl, F12.ins pL nLG (t := (na, b2)) d3 hL12 hz zp ⟨hna, hb2⟩, by rw [len_ins, hlen]; omega, fun q' h1 h2 => ?_⟩
            obtain ⟨t', ht', h'⟩ := hstar q' h1 h2
            exact ⟨t', (mem_ins d3).mpr (.inr ht'), h'⟩
        · rintro σ H7 ⟨y7, y8, y9, y10, fs, rfl, F, hlen, hstar⟩
          obtain ⟨ys, hL, hD⟩ := F.at_
          have yl := dpAll_len hD
          rw [List.length_map] at yl
          refine ⟨_, rfl, _, rfl, _, rfl, _, rfl, L, ys, rfl, .inl (.inl hL), fun z0 nz0 => ?_⟩
          rw [cut_all ys (by omega)]
          have s0 := same_upd (o := .lst ys) nz0
          refine .inl ⟨z0, ys, rfl, .inl (.inl upd_same), fun z nz => ⟨by show 2 ≤ sizeLine; decide, fun y ny => ?_⟩⟩
          have F1 := F.grow s0
          generalize (upd H7 z0 (.lst ys)) = H8 at *
          have s1 := same_upd (o := .tup ys) nz
          have s2 := same_upd (o := .tup [V.int (mm : Nat), V.ref z]) ny
          have zp := notp F1.pen nz
          have yp := notp (F1.grow s1).pen ny
          have F2 := (F1.grow s1).grow s2
          have hy : (hide p (upd (upd H8 z (.tup ys)) y (.tup [V.int (mm : Nat), V.ref z]))) y = some (.tup [V.int (mm : Nat), V.ref z]) := by rw [hide_ne yp, upd_same]
          have hz : (hide p (upd (upd H8 z (.tup ys)) y (.tup [V.int (mm : Nat), V.ref z]))) z = some (.tup ys) := by
            rw [hide_ne zp]
            exact s2 _ _ upd_same
          have dd := dpAll_mono (hide_le.trans (hide_same (D := p) ((s0.trans s1).trans s2))) hD
          refine q _ (.ref y) (mm, fs) F2.sm (pen_of F2.pen (same_seq F2.sm hs)) (.tup (.inl (.inl hy)) (.cons (.int _) (.cons (.tup (.inl (.inl hz)) dd) .nil))) hm0 hm25 (by show fs.length ≤ 24; omega) F.inr ?_
          refine (nparts_one F.inr hm0).mpr fun c d hc hd => ?_
          have st := star_conn (n := mm) (ts := fs) fun q' h1 h2 => hstar q' h1 (by omega)
          exact (st c hc).trans (st d hd).symm
end
end HF
end

section
set_option Elab.async false
set_option linter.all false
set_option autoImplicit false
set_option maxRecDepth 100000
set_option maxHeartbeats 4000000
namespace HF
open PySem PySem.Spec PyProof.Rows L2
section
variable {P : Program} {w : World} {K : PySem.W.Frag} {mg : Str → Option Value} {base : Heap} (T : Tx K mg)
def sp__law_whole : Sp := fun vs H Q _ => ∃ i : Int, vs = [.int i] ∧ Q (.bl true) H
theorem ok__law_whole : FnOk P w K mg base CX0 1 T.d__law_whole.f T.d__law_whole.fd ["_law_found"] sp__law_whole := by
  refine T.d__law_whole.ok sc__law_whole (fun vs H Q E h => ?_) (fun cdv A outer s H vs Q E hr h => ?_)
  · obtain ⟨i, rfl, _⟩ := h; rfl
  · refine ⟨_, (pss_one (ps_ret (pe_and (pe_callB call_isi (by rfl) T.n_isinstance (by decide +kernel) (pa_cons (pv 0) (pa_cons (pe_bltn (v := .ty "int") (by rfl) T.n_int (by decide +kernel) rfl) pa_nil))) (pe_one (pe_not (pe_callB call_isi (by rfl) T.n_isinstance (by decide +kernel) (pa_cons (pv 0) (pa_cons (pe_bltn (v := .ty "bool") (by rfl) T.n_bool (by decide +kernel) rfl) pa_nil)))))))), ?_⟩
    obtain ⟨i, rfl, q⟩ := h
    refine ⟨_, rfl, .int i, .ty "int", .type "int", .type "int", true, rfl, .ty _, .base (.int i), kit_ty (by decide +kernel), true, rfl, iteT ?_⟩
    exact ⟨_, rfl, .int i, .ty "bool", .type "int", .type "bool", false, rfl, .ty _, .base (.int i), kit_ty (by decide +kernel), false, rfl, q⟩
def sp__law_partner : Sp := sp_partner
theorem ok__law_partner : FnOk P w K mg base CX0 1 T.d__law_partner.f T.d__law_partner.fd ["_law_end"] sp__law_partner := by
  refine T.d__law_partner.ok sc__law_partner (fun vs H Q E h => ?_) (fun cdv A outer s H vs Q E hr h => ?_)
  · obtain ⟨i, rfl, _⟩ := h; rfl
  · obtain ⟨e, rfl, q⟩ := h
    refine ⟨_, (pss_one (ps_ret (pe_op op_sub (pe_op op_add (pv 0) pe_int) (pe_op op_mul pe_int (pe_op op_modN (pv 0) pe_int))))), ?_⟩
    refine ⟨_, rfl, _, _, rfl, rfl, _, rfl, _, _, rfl, rfl, (by show (2 : Int) ≠ 0; decide), _, _, rfl, rfl, .inl ⟨by decide, by decide⟩, _, _, rfl, rfl, ?_⟩
    rw [← partner_int] at q
    exact q
def sp__law_parts (K : PySem.W.Frag) : Sp := fun vs H Q _ => ∃ (n : Nat) (wa a : Addr) (xs : List V) (ts : List (Nat × Nat)), vs = [.ref wa] ∧ SqT K H wa [.int n, .ref a] ∧ (SqL K H a xs ∨ SqT K H a xs) ∧ DpAll K H xs (ts.map tieD) ∧ InR n ts ∧ n ≤ 25 ∧ ts.length ≤ 900 ∧
  ∀ H' D ys, Same H H' → H D = none → H' D = some (.lst ys) → ys.length = nparts n ts → Q (.ref D) H'
theorem ok__law_parts : FnOk P w K mg base CX0 1 T.d__law_parts.f T.d__law_parts.fd ["_law_web_here"] (sp__law_parts K) := by
  refine T.d__law_parts.ok sc__law_parts (fun vs H Q E h => ?_) (fun cdv A outer s H vs Q E hr h => ?_)
  · obtain ⟨n, wa, a, xs, ts, rfl, _⟩ := h; rfl
  · obtain ⟨n, wa, a, xs, ts, rfl, sw, hS, hD, hin, h25, hts, q⟩ := h
    let Pv : Addr → Nat → L2.St → Hp → Prop := fun L i σ H' => ∃ y2 y3 y4 y5 y6, σ = [some (.ref wa), some (.ref L), y2, y3, y4, y5, y6, none, none] ∧ Same H H' ∧ H' L = some (.lst (intsV (labels n (ts.take i))))
    have hlen := dpAll_len hD
    rw [List.length_map] at hlen
    have lab0 : ∀ L, H L = none → Pv L 0 [some (.ref wa), some (.ref L), none, none, none, none, none, none, none] (upd H L (.lst (rgV 0 (n : Int)))) := fun L nL => by
      refine ⟨none, none, none, none, none, rfl, same_upd nL, ?_⟩
      rw [upd_same, rgV_nat]
      rfl
    rcases hS with hS | hS
    · refine ⟨_, (pss_cons (ps_set (i := 1) sc__law_parts.nd rfl (by first | exact Or.inl rfl | exact Or.inr rfl) (pe_listRg (by rfl) (by rfl) T.n_list (prg_1 (by rfl) T.n_range (pe_ix ix_tup (pv 0) pe_int (fun _ _ => rfl)))))
 (pss_cons (ps_for PassesOwn.never rfl (pi_list (pe_ix ix_tup (pv 0) pe_int (fun _ _ => rfl))) (pg_tup (by rfl) (pgs_cons (pg_name (i := 2) sc__law_parts.nd rfl (by first | exact Or.inl rfl | exact Or.inr rfl)) (pgs_cons (pg_name (i := 3) sc__law_parts.nd rfl (by first | exact Or.inl rfl | exact Or.inr rfl)) pgs_nil)))
  (pss_cons (ps_par (i := 4) (j := 5) (by rfl) sc__law_parts.nd rfl rfl (by decide) rfl rfl (pa_cons (pe_callB (call_min2 rfl) (by rfl) T.n_min (by decide +kernel) (pa_cons (pe_ix ix_list (pv 1) (pv 2) (fun _ _ => rfl)) (pa_cons (pe_ix ix_list (pv 1) (pv 3) (fun _ _ => rfl)) pa_nil))) (pa_cons (pe_callB (call_max2 rfl) (by rfl) T.n_max (by decide +kernel) (pa_cons (pe_ix ix_list (pv 1) (pv 2) (fun _ _ => rfl)) (pa_cons (pe_ix ix_list (pv 1) (pv 3) (fun _ _ => rfl)) pa_nil))) pa_nil)) (by rfl))
 (pss_one (ps_for PassesOwn.never rfl (pi_range1 (by rfl) T.n_range (pa_cons (pe_ix ix_tup (pv 0) pe_int (fun _ _ => rfl)) pa_nil)) (pg_name (i := 6) sc__law_parts.nd rfl (by first | exact Or.inl rfl | exact Or.inr rfl))
  (pss_one (ps_if (pt_cmpR op_eq (pe_ix ix_list (pv 1) (pv 6) (fun _ _ => rfl)) (pv 5) (nomark _))
  (pss_one (ps_asg (pv 4) (pg_sub (pv 1) (pv 6) set_list))) pss_nil))))))
 (pss_cons (ps_set (i := 7) sc__law_parts.nd rfl (by first | exact Or.inl rfl | exact Or.inr rfl) (pe_lst pa_nil))
 (pss_cons (ps_for PassesOwn.never rfl (pi_list (pe_callB (cr_sortedSet rfl) (by rfl) T.n_sorted (by decide +kernel) (pa_cons (pe_callTy (cr_setI rfl) (by rfl) T.n_set (by decide +kernel) (pa_cons (pv 1) pa_nil)) pa_nil))) (pg_name (i := 8) sc__law_parts.nd rfl (by first | exact Or.inl rfl | exact Or.inr rfl))
  (pss_one (ps_expr (pe_bm PySem.F.plainAttrs_list PySem.F.slot_list_append PySem.F.type_list_append mt_append (pv 7) (pa_cons (pe_lc (own := [("_law_place", 6)]) (g := (gName 6)) (by rfl) sc__law_parts.nd (pi_range1 (by rfl) T.n_range (pa_cons (pe_ix ix_tup (pv 0) pe_int (fun _ _ => rfl)) pa_nil)) (blkOk_by (own := [("_law_place", 6)]) (N := ["_law_web_here", "_law_marks", "_law_a", "_law_b", "_law_low", "_law_high", "_law_place", "_law_found", "_law_first"]) (sc := defScope s__law_parts) (by decide +kernel)) (fun _ _ _ _ _ => (pg_name (i := 6) sc__law_parts.nd rfl (by first | exact Or.inl rfl | exact Or.inr rfl))) (fun _ _ _ _ _ => (pts_one (pt_cmpR op_eq (pe_ix (ix_listK (K := K) rfl) (pv 1) (pv 6) (fun _ _ => rfl)) (pv 8) (nomark _)))) (fun _ _ _ _ _ => (pv 6))) pa_nil)))))
 (pss_one (ps_ret (pv 7))))))), ?_⟩
      refine ⟨_, rfl, wa, _, _, _, rfl, rfl, sw, atI_nat (j := 0) rfl, (n : Nat), rfl, RgOk.of_le (by omega) (by omega) (by omega) (by omega), fun L nL => ?_⟩
      refine ⟨_, rfl, wa, _, _, _, rfl, rfl, same_sqt (same_upd nL) sw, atI_nat (j := 1) rfl, a, rfl, ⟨_, same_seq (same_upd nL) hS⟩, for_list (K := K) (a := a) (xs := xs) (Pv L) (lab0 L nL) (fun i σ H' _ ⟨_, _, _, _, _, _, sm, _⟩ => same_seq sm hS) ?turn ?fin⟩
      case turn =>
        rintro i x σ H1 hx ⟨y2, y3, y4, y5, y6, rfl, sm, hL⟩
        obtain ⟨d, hd, dx⟩ := dpAll_at hD hx
        obtain ⟨t, ht, rfl⟩ := map_get hd
        obtain ⟨ta, rfl, sT⟩ := tie_vals (dp_mono sm dx)
        have htn := hin t (List.mem_of_getElem? ht)
        generalize hl : labels n (ts.take i) = l at hL
        have ll : l.length = n := by rw [← hl, labels_len]
        have ga := getD_at (l := l) (i := t.1) (by omega)
        have gb := getD_at (l := l) (i := t.2) (by omega)
        refine ⟨ta, _, rfl, sT, rfl, _, _, rfl, _, _, rfl, rfl, ?_⟩
        refine ⟨_, rfl, _, rfl, L, _, _, _, rfl, rfl, .inl (.inl hL), atI_nat (intsV_get ga), _, rfl, _, rfl, L, _, _, _, rfl, rfl, .inl (.inl hL), atI_nat (intsV_get gb), _, _, rfl, ?_⟩
        refine ⟨_, rfl, _, rfl, L, _, _, _, rfl, rfl, .inl (.inl hL), atI_nat (intsV_get ga), _, rfl, _, rfl, L, _, _, _, rfl, rfl, .inl (.inl hL), atI_nat (intsV_get gb), _, _, rfl, _, _, rfl, ?_⟩
        rw [min_if, max_if]
        generalize hlo : min (l.getD t.1 0) (l.getD t.2 0) = lo
        generalize hhi : max (l.getD t.1 0) (l.getD t.2 0) = hi
        refine ⟨_, rfl, wa, _, _, _, rfl, rfl, same_sqt sm sw, atI_nat (j := 0) rfl, (n : Nat), rfl, by omega, by omega, for_range (lo := 0) (n := n) (fun j σ H' => ∃ y6, σ = [some (.ref wa), some (.ref L), some (.int (t.1 : Nat)), some (.int (t.2 : Nat)), some (.int (lo : Nat)), some (.int (hi : Nat)), y6, none, none] ∧ Same H H' ∧ H' L = some (.lst (intsV (mid (relf l t) l j)))) ⟨y6, rfl, sm, hL⟩ ?_ ?_⟩
        · rintro j σ H2 hj ⟨z7, rfl, sm2, hL2⟩
          have gj := getD_at (l := l) (i := j) (by omega)
          have gm := mid_at (f := relf l t) gj
          rw [Int.zero_add]
          refine ⟨_, rfl, _, rfl, L, _, _, _, rfl, rfl, .inl (.inl hL2), atI_nat (intsV_get gm), _, rfl, rfl, _, rfl, ?_⟩
          refine ite2 (fun e => ?_) (fun e => ?_)
          · have e2 : l.getD j 0 = hi := of_decide_eq_true ((int_eq _ _).symm.trans e)
            refine ⟨_, rfl, _, rfl, _, rfl, L, _, _, j, rfl, rfl, hL2, ixN_nat (by rw [intsV_len, mid_len]; omega), _, rfl, same_mut sm2 nL, ?_⟩
            rw [upd_same, intsV_set, mid_succ gj]
            have e3 : relf l t (l.getD j 0) = lo := by
              unfold relf
              rw [hhi, hlo, if_pos e2]
            rw [e3]
          · refine ⟨_, rfl, sm2, ?_⟩
            have e2 : l.getD j 0 ≠ hi := fun z => e ((int_eq _ _).trans (decide_eq_true z))
            rw [mid_same gj (by unfold relf; rw [hhi, if_neg e2])]
            exact hL2
        · rintro σ H2 ⟨z7, rfl, sm2, hL2⟩
          refine ⟨_, _, _, _, _, rfl, sm2, ?_⟩
          rw [hL2, labels_take n ts i t ht, hl, relab_eq, ← ll, mid_all]
      case fin =>
        rintro σ H1 ⟨y2, y3, y4, y5, y6, rfl, sm, hL⟩
        rw [hlen, List.take_length] at hL
        generalize hl : labels n ts = l at hL
        have ll : l.length = n := by rw [← hl, labels_len]
        refine ⟨Nat.zero_le _, fun R nR => ?_⟩
        have nRL : L ≠ R := ne_of_none hL nR
        have s1 : Same H (upd H1 R (.lst [])) := sm.trans (same_upd nR)
        have nRH : H R = none := sm.free nR
        have hL1 : (upd H1 R (.lst [])) L = some (.lst (intsV l)) := by rw [upd_ne nRL]; exact hL
        have hR1 : (upd H1 R (.lst [])) R = some (.lst []) := upd_same
        generalize (upd H1 R (.lst [])) = H2 at *
        have sL : SqL K H2 L ((l.map fun (m : Nat) => (m : Int)).map V.int) := by rw [← intsV_cast]; exact .inl (.inl hL1)
        refine ⟨_, rfl, L, _, rfl, .inl sL, by rw [List.length_map]; omega, fun S c nS hks => ?_⟩
        obtain ⟨ks, knd, kmem, klen⟩ := hks
        have cl : c ≤ 25 := by
          have := List.Nodup.length_le_of_subset knd (fun x hx => (kmem x).mp hx)
          rw [List.length_map] at this
          omega
        refine ⟨S, _, c, rfl, upd_same, by omega, fun ns Z pw hm hc nZ => ?_⟩
        have s2 : Same H2 (upd (upd H2 S (SetO w S (fun j => decide (j ∈ l.map fun (m : Nat) => (m : Int))) c)) Z (.lst (ns.map V.int))) := (same_upd nS).trans (same_upd nZ)
        have hZ : (upd (upd H2 S (SetO w S (fun j => decide (j ∈ l.map fun (m : Nat) => (m : Int))) c)) Z (.lst (ns.map V.int))) Z = some (.lst (ns.map V.int)) := upd_same
        have nl : ns.length = nparts n ts := by
          have hm2 : ∀ k : Int, k ∈ ns ↔ k ∈ l.map fun (m : Nat) => (m : Int) := fun k => by rw [hm]; exact decide_eq_true_iff
          have e1 : ns.length = ((dd l).map fun (m : Nat) => (m : Int)).length := by
            refine List.Perm.length_eq ((List.perm_ext_iff_of_nodup (pw.imp fun h => by omega) ?_).mpr fun k => ?_)
            · exact List.pairwise_map.mpr (List.Pairwise.imp (fun {a b} h e => h (by omega)) (dd_nodup l))
            · rw [hm2, List.mem_map, List.mem_map]
              constructor
              · rintro ⟨m, h1, h2⟩
                exact ⟨m, mem_dd.mpr h1, h2⟩
              · rintro ⟨m, h1, h2⟩
                exact ⟨m, mem_dd.mp h1, h2⟩
          rw [e1, List.length_map]
          unfold nparts
          rw [hl]
        have neZR : R ≠ Z := fun e => by
          have h0 := (same_upd (o := SetO w S (fun j => decide (j ∈ l.map fun (m : Nat) => (m : Int))) c) nS) _ _ hR1
          rw [e] at h0
          exact nomatch (show (some (HO.lst []) : Option HO) = none from h0.symm.trans nZ)
        refine ⟨Z, rfl, ⟨_, .inl (.inl hZ)⟩, for_list (K := K) (a := Z) (xs := ns.map V.int) (fun i σ H' => ∃ y6 y8 ys, σ = [some (.ref wa), some (.ref L), y2, y3, y4, y5, y6, some (.ref R), y8] ∧ Same H H' ∧ H' L = some (.lst (intsV l)) ∧ H' Z = some (.lst (ns.map V.int)) ∧ H' R = some (.lst ys) ∧ ys.length = i)
          ⟨y6, none, [], rfl, s1.trans s2, s2 _ _ hL1, hZ, s2 _ _ hR1, rfl⟩ (fun i σ H' _ ⟨_, _, _, _, _, _, h, _⟩ => .inl (.inl h)) ?_ ?_⟩
        · rintro i x σ H4 hx ⟨z6, z8, ys, rfl, sm4, hL4, hZ4, hR4, yl⟩
          have hil := (List.getElem?_eq_some_iff.mp hx).1
          rw [List.length_map] at hil
          obtain ⟨k, hk, rfl⟩ := map_get hx
          refine ⟨_, rfl, .inl ⟨rfl, _, .inl (.inl hR4)⟩, ?_⟩
          refine ⟨_, rfl, wa, _, _, _, rfl, rfl, same_sqt sm4 sw, atI_nat (j := 0) rfl, (n : Nat), rfl, by omega, by omega, fun D nD => ?_⟩
          refine lcR_pure (lo := 0) (n := n) (fun j => if decide (V.int (l.getD j 0 : Nat) = V.int k) = true then some (.int (j : Nat)) else none) nD (by omega) (fun j H5 hj sm5 kk no hk2 hno => ?_) (fun H5 sm5 hD5 => ?_)
          · rw [Int.zero_add]
            have gj := getD_at (l := l) (i := j) (by omega)
            refine ⟨rfl, ?_⟩
            refine ⟨_, rfl, _, rfl, L, _, _, _, rfl, rfl, .inl (.inl (sm5 _ _ hL4)), atI_nat (intsV_get gj), _, rfl, rfl, _, rfl, ?_⟩
            refine ite2 (fun e => ⟨_, rfl, hk2 _ _ (Same.refl _) (if_pos e)⟩) (fun e => hno _ (Same.refl _) (if_neg e))
          · have neD : D ≠ R := (ne_of_none hR4 nD).symm
            refine ⟨R, ys, _, rfl, rfl, sm5 _ _ hR4, lsz (by omega), ?_⟩
            refine ⟨_, _, _, rfl, same_mut (sm4.trans sm5) nRH, by rw [upd_ne nRL]; exact sm5 _ _ hL4, by rw [upd_ne neZR.symm]; exact sm5 _ _ hZ4, upd_same, by rw [List.length_append, yl]; rfl⟩
        · rintro σ H4 ⟨z6, z8, ys, rfl, sm4, hL4, hZ4, hR4, yl⟩
          rw [List.length_map, nl] at yl
          exact ⟨_, rfl, q H4 R ys sm4 nRH hR4 yl⟩
    · refine ⟨_, (pss_cons (ps_set (i := 1) sc__law_parts.nd rfl (by first | exact Or.inl rfl | exact Or.inr rfl) (pe_listRg (by rfl) (by rfl) T.n_list (prg_1 (by rfl) T.n_range (pe_ix ix_tup (pv 0) pe_int (fun _ _ => rfl)))))
 (pss_cons (ps_for PassesOwn.never rfl (pi_tup (pe_ix ix_tup (pv 0) pe_int (fun _ _ => rfl))) (pg_tup (by rfl) (pgs_cons (pg_name (i := 2) sc__law_parts.nd rfl (by first | exact Or.inl rfl | exact Or.inr rfl)) (pgs_cons (pg_name (i := 3) sc__law_parts.nd rfl (by first | exact Or.inl rfl | exact Or.inr rfl)) pgs_nil)))
  (pss_cons (ps_par (i := 4) (j := 5) (by rfl) sc__law_parts.nd rfl rfl (by decide) rfl rfl (pa_cons (pe_callB (call_min2 rfl) (by rfl) T.n_min (by decide +kernel) (pa_cons (pe_ix ix_list (pv 1) (pv 2) (fun _ _ => rfl)) (pa_cons (pe_ix ix_list (pv 1) (pv 3) (fun _ _ => rfl)) pa_nil))) (pa_cons (pe_callB (call_max2 rfl) (by rfl) T.n_max (by decide +kernel) (pa_cons (pe_ix ix_list (pv 1) (pv 2) (fun _ _ => rfl)) (pa_cons (pe_ix ix_list (pv 1) (pv 3) (fun _ _ => rfl)) pa_nil))) pa_nil)) (by rfl))
 (pss_one (ps_for PassesOwn.never rfl (pi_range1 (by rfl) T.n_range (pa_cons (pe_ix ix_tup (pv 0) pe_int (fun _ _ => rfl)) pa_nil)) (pg_name (i := 6) sc__law_parts.nd rfl (by first | exact Or.inl rfl | exact Or.inr rfl))
  (pss_one (ps_if (pt_cmpR op_eq (pe_ix ix_list (pv 1) (pv 6) (fun _ _ => rfl)) (pv 5) (nomark _))
  (pss_one (ps_asg (pv 4) (pg_sub (pv 1) (pv 6) set_list))) pss_nil))))))
 (pss_cons (ps_set (i := 7) sc__law_parts.nd rfl (by first | exact Or.inl rfl | exact Or.inr rfl) (pe_lst pa_nil))
 (pss_cons (ps_for PassesOwn.never rfl (pi_list (pe_callB (cr_sortedSet rfl) (by rfl) T.n_sorted (by decide +kernel) (pa_cons (pe_callTy (cr_setI rfl) (by rfl) T.n_set (by decide +kernel) (pa_cons (pv 1) pa_nil)) pa_nil))) (pg_name (i := 8) sc__law_parts.nd rfl (by first | exact Or.inl rfl | exact Or.inr rfl))
  (pss_one (ps_expr (pe_bm PySem.F.plainAttrs_list PySem.F.slot_list_append PySem.F.type_list_append mt_append (pv 7) (pa_cons (pe_lc (own := [("_law_place", 6)]) (g := (gName 6)) (by rfl) sc__law_parts.nd (pi_range1 (by rfl) T.n_range (pa_cons (pe_ix ix_tup (pv 0) pe_int (fun _ _ => rfl)) pa_nil)) (blkOk_by (own := [("_law_place", 6)]) (N := ["_law_web_here", "_law_marks", "_law_a", "_law_b", "_law_low", "_law_high", "_law_place", "_law_found", "_law_first"]) (sc := defScope s__law_parts) (by decide +kernel)) (fun _ _ _ _ _ => (pg_name (i := 6) sc__law_parts.nd rfl (by first | exact Or.inl rfl | exact Or.inr rfl))) (fun _ _ _ _ _ => (pts_one (pt_cmpR op_eq (pe_ix (ix_listK (K := K) rfl) (pv 1) (pv 6) (fun _ _ => rfl)) (pv 8) (nomark _)))) (fun _ _ _ _ _ => (pv 6))) pa_nil)))))
 (pss_one (ps_ret (pv 7))))))), ?_⟩
      refine ⟨_, rfl, wa, _, _, _, rfl, rfl, sw, atI_nat (j := 0) rfl, (n : Nat), rfl, RgOk.of_le (by omega) (by omega) (by omega) (by omega), fun L nL => ?_⟩
      refine ⟨_, rfl, wa, _, _, _, rfl, rfl, same_sqt (same_upd nL) sw, atI_nat (j := 1) rfl, a, rfl, ⟨_, same_sqt (same_upd nL) hS⟩, for_tup (K := K) (a := a) (xs := xs) (Pv L) (lab0 L nL) (fun i σ H' _ ⟨_, _, _, _, _, _, sm, _⟩ => same_sqt sm hS) ?turn ?fin⟩
      case turn =>
        rintro i x σ H1 hx ⟨y2, y3, y4, y5, y6, rfl, sm, hL⟩
        obtain ⟨d, hd, dx⟩ := dpAll_at hD hx
        obtain ⟨t, ht, rfl⟩ := map_get hd
        obtain ⟨ta, rfl, sT⟩ := tie_vals (dp_mono sm dx)
        have htn := hin t (List.mem_of_getElem? ht)
        generalize hl : labels n (ts.take i) = l at hL
        have ll : l.length = n := by rw [← hl, labels_len]
        have ga := getD_at (l := l) (i := t.1) (by omega)
        have gb := getD_at (l := l) (i := t.2) (by omega)
        refine ⟨ta, _, rfl, sT, rfl, _, _, rfl, _, _, rfl, rfl, ?_⟩
        refine ⟨_, rfl, _, rfl, L, _, _, _, rfl, rfl, .inl (.inl hL), atI_nat (intsV_get ga), _, rfl, _, rfl, L, _, _, _, rfl, rfl, .inl (.inl hL), atI_nat (intsV_get gb), _, _, rfl, ?_⟩
        refine ⟨_, rfl, _, rfl, L, _, _, _, rfl, rfl, .inl (.inl hL), atI_nat (intsV_get ga), _, rfl, _, rfl, L, _, _, _, rfl, rfl, .inl (.inl hL), atI_nat (intsV_get gb), _, _, rfl, _, _, rfl, ?_⟩
        rw [min_if, max_if]
        generalize hlo : min (l.getD t.1 0) (l.getD t.2 0) = lo
        generalize hhi : max (l.getD t.1 0) (l.getD t.2 0) = hi
        refine ⟨_, rfl, wa, _, _, _, rfl, rfl, same_sqt sm sw, atI_nat (j := 0) rfl, (n : Nat), rfl, by omega, by omega, for_range (lo := 0) (n := n) (fun j σ H' => ∃ y6, σ = [some (.ref wa), some (.ref L), some (.int (t.1 : Nat)), some (.int (t.2 : Nat)), some (.int (lo : Nat)), some (.int (hi : Nat)), y6, none, none] ∧ Same H H' ∧ H' L = some (.lst (intsV (mid (relf l t) l j)))) ⟨y6, rfl, sm, hL⟩ ?_ ?_⟩
        · rintro j σ H2 hj ⟨z7, rfl, sm2, hL2⟩
          have gj := getD_at (l := l) (i := j) (by omega)
          have gm := mid_at (f := relf l t) gj
          rw [Int.zero_add]
          refine ⟨_, rfl, _, rfl, L, _, _, _, rfl, rfl, .inl (.inl hL2), atI_nat (intsV_get gm), _, rfl, rfl, _, rfl, ?_⟩
          refine ite2 (fun e => ?_) (fun e => ?_)
          · have e2 : l.getD j 0 = hi := of_decide_eq_true ((int_eq _ _).symm.trans e)
            refine ⟨_, rfl, _, rfl, _, rfl, L, _, _, j, rfl, rfl, hL2, ixN_nat (by rw [intsV_len, mid_len]; omega), _, rfl, same_mut sm2 nL, ?_⟩
            rw [upd_same, intsV_set, mid_succ gj]
            have e3 : relf l t (l.getD j 0) = lo := by
              unfold relf
              rw [hhi, hlo, if_pos e2]
            rw [e3]
          · refine ⟨_, rfl, sm2, ?_⟩
            have e2 : l.getD j 0 ≠ hi := fun z => e ((int_eq _ _).trans (decide_eq_true z))
            rw [mid_same gj (by unfold relf; rw [hhi, if_neg e2])]
            exact hL2
        · rintro σ H2 ⟨z7, rfl, sm2, hL2⟩
          refine ⟨_, _, _, _, _, rfl, sm2, ?_⟩
          rw [hL2, labels_take n ts i t ht, hl, relab_eq, ← ll, mid_all]
      case fin =>
        rintro σ H1 ⟨y2, y3, y4, y5, y6, rfl, sm, hL⟩
        rw [hlen, List.take_length] at hL
        generalize hl : labels n ts = l at hL
        have ll : l.length = n := by rw [← hl, labels_len]
        refine ⟨Nat.zero_le _, fun R nR => ?_⟩
        have nRL : L ≠ R := ne_of_none hL nR
        have s1 : Same H (upd H1 R (.lst [])) := sm.trans (same_upd nR)
        have nRH : H R = none := sm.free nR
        have hL1 : (upd H1 R (.lst [])) L = some (.lst (intsV l)) := by rw [upd_ne nRL]; exact hL
        have hR1 : (upd H1 R (.lst [])) R = some (.lst []) := upd_same
        generalize (upd H1 R (.lst [])) = H2 at *
        have sL : SqL K H2 L ((l.map fun (m : Nat) => (m : Int)).map V.int) := by rw [← intsV_cast]; exact .inl (.inl hL1)
        refine ⟨_, rfl, L, _, rfl, .inl sL, by rw [List.length_map]; omega, fun S c nS hks => ?_⟩
        obtain ⟨ks, knd, kmem, klen⟩ := hks
        have cl : c ≤ 25 := by
          have := List.Nodup.length_le_of_subset knd (fun x hx => (kmem x).mp hx)
          rw [List.length_map] at this
          omega
        refine ⟨S, _, c, rfl, upd_same, by omega, fun ns Z pw hm hc nZ => ?_⟩
        have s2 : Same H2 (upd (upd H2 S (SetO w S (fun j => decide (j ∈ l.map fun (m : Nat) => (m : Int))) c)) Z (.lst (ns.map V.int))) := (same_upd nS).trans (same_upd nZ)
        have hZ : (upd (upd H2 S (SetO w S (fun j => decide (j ∈ l.map fun (m : Nat) => (m : Int))) c)) Z (.lst (ns.map V.int))) Z = some (.lst (ns.map V.int)) := upd_same
        have nl : ns.length = nparts n ts := by
          have hm2 : ∀ k : Int, k ∈ ns ↔ k ∈ l.map fun (m : Nat) => (m : Int) := fun k => by rw [hm]; exact decide_eq_true_iff
          have e1 : ns.length = ((dd l).map fun (m : Nat) => (m : Int)).length := by
            refine List.Perm.length_eq ((List.perm_ext_iff_of_nodup (pw.imp fun h => by omega) ?_).mpr fun k => ?_)
            · exact List.pairwise_map.mpr (List.Pairwise.imp (fun {a b} h e => h (by omega)) (dd_nodup l))
            · rw [hm2, List.mem_map, List.mem_map]
              constructor
              · rintro ⟨m, h1, h2⟩
                exact ⟨m, mem_dd.mpr h1, h2⟩
              · rintro ⟨m, h1, h2⟩
                exact ⟨m, mem_dd.mp h1, h2⟩
          rw [e1, List.length_map]
          unfold nparts
          rw [hl]
        have neZR : R ≠ Z := fun e => by
          have h0 := (same_upd (o := SetO w S (fun j => decide (j ∈ l.map fun (m : Nat) => (m : Int))) c) nS) _ _ hR1
          rw [e] at h0
          exact nomatch (show (some (HO.lst []) : Option HO) = none from h0.symm.trans nZ)
        refine ⟨Z, rfl, ⟨_, .inl (.inl hZ)⟩, for_list (K := K) (a := Z) (xs := ns.map V.int) (fun i σ H' => ∃ y6 y8 ys, σ = [some (.ref wa), some (.ref L), y2, y3, y4, y5, y6, some (.ref R), y8] ∧ Same H H' ∧ H' L = some (.lst (intsV l)) ∧ H' Z = some (.lst (ns.map V.int)) ∧ H' R = some (.lst ys) ∧ ys.length = i)
          ⟨y6, none, [], rfl, s1.trans s2, s2 _ _ hL1, hZ, s2 _ _ hR1, rfl⟩ (fun i σ H' _ ⟨_, _, _, _, _, _, h, _⟩ => .inl (.inl h)) ?_ ?_⟩
        · rintro i x σ H4 hx ⟨z6, z8, ys, rfl, sm4, hL4, hZ4, hR4, yl⟩
          have hil := (List.getElem?_eq_some_iff.mp hx).1
          rw [List.length_map] at hil
          obtain ⟨k, hk, rfl⟩ := map_get hx
          refine ⟨_, rfl, .inl ⟨rfl, _, .inl (.inl hR4)⟩, ?_⟩
          refine ⟨_, rfl, wa, _, _, _, rfl, rfl, same_sqt sm4 sw, atI_nat (j := 0) rfl, (n : Nat), rfl, by omega, by omega, fun D nD => ?_⟩
          refine lcR_pure (lo := 0) (n := n) (fun j => if decide (V.int (l.getD j 0 : Nat) = V.int k) = true then some (.int (j : Nat)) else none) nD (by omega) (fun j H5 hj sm5 kk no hk2 hno => ?_) (fun H5 sm5 hD5 => ?_)
          · rw [Int.zero_add]
            have gj := getD_at (l := l) (i := j) (by omega)
            refine ⟨rfl, ?_⟩
            refine ⟨_, rfl, _, rfl, L, _, _, _, rfl, rfl, .inl (.inl (sm5 _ _ hL4)), atI_nat (intsV_get gj), _, rfl, rfl, _, rfl, ?_⟩
            refine ite2 (fun e => ⟨_, rfl, hk2 _ _ (Same.refl _) (if_pos e)⟩) (fun e => hno _ (Same.refl _) (if_neg e))
          · have neD : D ≠ R := (ne_of_none hR4 nD).symm
            refine ⟨R, ys, _, rfl, rfl, sm5 _ _ hR4, lsz (by omega), ?_⟩
            refine ⟨_, _, _, rfl, same_mut (sm4.trans sm5) nRH, by rw [upd_ne nRL]; exact sm5 _ _ hL4, by rw [upd_ne neZR.symm]; exact sm5 _ _ hZ4, upd_same, by rw [List.length_append, yl]; rfl⟩
        · rintro σ H4 ⟨z6, z8, ys, rfl, sm4, hL4, hZ4, hR4, yl⟩
          rw [List.length_map, nl] at yl
          exact ⟨_, rfl, q H4 R ys sm4 nRH hR4 yl⟩
end
end HF
end

section
set_option Elab.async false
set_option linter.all false
set_option autoImplicit false
set_option maxRecDepth 100000
set_option maxHeartbeats 4000000
namespace HF
open PySem PySem.Spec PyProof.Rows L2
section
theorem dd_le : ∀ l : List Nat, (dd l).length ≤ l.length
  | [] => Nat.le_refl _
  | x :: m => by
    have := dd_le m
    unfold dd
    split
    · simp only [List.length_cons]; omega
    · simp only [List.length_cons]; omega
theorem dd_full : ∀ {l : List Nat}, (dd l).length = l.length → l.Nodup
  | [], _ => List.nodup_nil
  | x :: m, h => by
    have h1 := dd_le m
    unfold dd at h
    by_cases hx : x ∈ m
    · rw [if_pos hx] at h
      simp only [List.length_cons] at h
      omega
    · rw [if_neg hx] at h
      simp only [List.length_cons] at h
      exact List.nodup_cons.mpr ⟨hx, dd_full (by omega)⟩
theorem pairs_iff {W : Web} : ∀ {ps : List (Nat × Nat)} {used : List Nat}, used.Nodup → (pairsOK W used ps ↔ (∀ p ∈ ps, isPair W p) ∧ (used ++ pnames ps).Nodup)
  | [], used, hn => by
    refine ⟨fun _ => ⟨fun p hp => (by cases hp), ?_⟩, fun _ => trivial⟩
    show (used ++ []).Nodup
    rw [List.append_nil]
    exact hn
  | p :: ps, used, hn => by
    have e : used ++ pnames (p :: ps) = (used ++ [p.1, p.2]) ++ pnames ps := by
      rw [List.append_assoc]
      rfl
    rw [e]
    have key : (used ++ [p.1, p.2]).Nodup ↔ p.1 ≠ p.2 ∧ p.1 ∉ used ∧ p.2 ∉ used := by
      rw [List.nodup_append]
      constructor
      · rintro ⟨_, h2, h3⟩
        refine ⟨fun e => ?_, fun h => h3 _ h _ List.mem_cons_self rfl, fun h => h3 _ h _ (List.mem_cons_of_mem _ List.mem_cons_self) rfl⟩
        rw [e] at h2
        exact (List.nodup_cons.mp h2).1 List.mem_cons_self
      · rintro ⟨h1, h2, h3⟩
        refine ⟨hn, by simp [h1], fun a ha b hb e => ?_⟩
        subst e
        rcases List.mem_cons.mp hb with h | h
        · exact h2 (h ▸ ha)
        · exact h3 (List.mem_singleton.mp h ▸ ha)
    show (isPair W p ∧ p.1 ∉ used ∧ p.2 ∉ used) ∧ pairsOK W (used ++ [p.1, p.2]) ps ↔ _
    constructor
    · rintro ⟨⟨h1, h2, h3⟩, h4⟩
      have nd := key.mpr ⟨by have := h1.1; omega, h2, h3⟩
      obtain ⟨h5, h6⟩ := (pairs_iff nd).mp h4
      refine ⟨fun q hq => ?_, h6⟩
      rcases List.mem_cons.mp hq with e | e
      · rw [e]; exact h1
      · exact h5 q e
    · rintro ⟨h1, h2⟩
      have nd : (used ++ [p.1, p.2]).Nodup := (List.nodup_append.mp h2).1
      obtain ⟨_, k2, k3⟩ := key.mp nd
      exact ⟨⟨h1 p List.mem_cons_self, k2, k3⟩, (pairs_iff nd).mpr ⟨fun q hq => h1 q (List.mem_cons_of_mem _ hq), h2⟩⟩
/-- a row of numbers and the rising row of the numbers in it -/
theorem rise_eq {t : List Nat} {ns : List Int} (pw : ns.Pairwise (· < ·)) (hm : ∀ k : Int, k ∈ ns ↔ k ∈ t.map fun (m : Nat) => (m : Int)) : (t.map fun (m : Nat) => (m : Int)) = ns ↔ t.Pairwise (· < ·) := by
  constructor
  · intro e
    rw [← e, List.pairwise_map] at pw
    exact pw.imp fun h => by omega
  · intro h
    have h1 : (t.map fun (m : Nat) => (m : Int)).Pairwise (· < ·) := by
      rw [List.pairwise_map]
      exact h.imp fun h => by omega
    refine sorted_eq ((List.perm_ext_iff_of_nodup (h1.imp fun h => by omega) (pw.imp fun h => by omega)).mpr fun k => (hm k).symm) (h1.imp fun h => by omega) (pw.imp fun h => by omega)
theorem eqv_intsI (a b : List Int) : PyData.eqv (.list (a.map PyData.int)) (.list (b.map PyData.int)) = decide (a = b) := by rw [PyData.eqv, PySem.W.ked_eqvAll]
theorem sh_intsI (a : List Int) : sh 1 (.list (a.map PyData.int)) := sh_lst fun d hd => by
  obtain ⟨n, _, rfl⟩ := List.mem_map.mp hd
  exact sh_int 0 _
theorem dpAll_intsI {K : PySem.W.Frag} {H : Hp} : ∀ (a : List Int), DpAll K H (a.map V.int) (a.map PyData.int)
  | [] => .nil
  | n :: a => .cons (.int n) (dpAll_intsI a)
theorem set_few {l : List Nat} {ks : List Int} {c : Nat} (h : ks.Nodup ∧ (∀ k, k ∈ ks ↔ k ∈ l.map fun (m : Nat) => (m : Int)) ∧ ks.length = c) : c = (dd l).length := by
  obtain ⟨h1, h2, h3⟩ := h
  rw [← h3]
  have e1 : ks.length = ((dd l).map fun (m : Nat) => (m : Int)).length := by
    refine List.Perm.length_eq ((List.perm_ext_iff_of_nodup h1 ?_).mpr fun k => ?_)
    · exact List.pairwise_map.mpr (List.Pairwise.imp (fun {a b} h e => h (by omega)) (dd_nodup l))
    · rw [h2, List.mem_map, List.mem_map]
      constructor
      · rintro ⟨m, h1, h2⟩
        exact ⟨m, mem_dd.mpr h1, h2⟩
      · rintro ⟨m, h1, h2⟩
        exact ⟨m, mem_dd.mp h1, h2⟩
  rw [e1, List.length_map]
end
section
variable {P : Program} {w : World} {K : PySem.W.Frag} {mg : Str → Option Value} {base : Heap} (T : Tx K mg)
def sp__law_ties (K : PySem.W.Frag) : Sp := fun vs H Q _ => ∃ (v : V) (W : Web) (a : Addr) (r : List Nat), vs = [v, .ref a] ∧ Dp K H v (webD W) ∧ SqT K H a (intsV r) ∧ ∀ b, (b = true ↔ ∀ x ∈ r, x < W.2.length) → Q (.bl b) H
theorem ok__law_ties : FnOk P w K mg base CX0 2 T.d__law_ties.f T.d__law_ties.fd ["_law_web_here", "_law_things"] (sp__law_ties K) := by
  refine T.d__law_ties.ok sc__law_ties (fun vs H Q E h => ?_) (fun cdv A outer s H vs Q E hr h => ?_)
  · obtain ⟨v, W, a, r, rfl, _⟩ := h; rfl
  · obtain ⟨v, W, a, r, rfl, hv, ha, q⟩ := h
    refine ⟨_, (pss_cons (ps_for PassesOwn.never rfl (pi_tup (pv 1)) (pg_name (i := 2) sc__law_ties.nd rfl (by first | exact Or.inl rfl | exact Or.inr rfl))
  (pss_one (ps_if (PW.pt (pw_or (pt_not (pt_val (pe_call (ok__law_whole T) (hr.mono (by decide)) (by rfl) T.d__law_whole.g T.d__law_whole.F.kp T.d__law_whole.b .nil pass0 (pa_cons (pv 2) pa_nil)))) (pw_or1 (pt_not (pt_chain op_le op_lt pe_int (pv 2) (pe_callB call_len_seq (by rfl) T.n_len (by decide +kernel) (pa_cons (pe_ix ix_tup (pv 0) pe_int (fun _ _ => rfl)) pa_nil)))))))
  (pss_one (ps_ret pe_bl)) pss_nil)))
 (pss_one (ps_ret pe_bl))), ?_⟩
    obtain ⟨wa, tb, ts, rfl, sw, st, dt⟩ := web_vals hv
    have tl := dpAll_len dt
    rw [List.length_map] at tl
    refine ⟨_, rfl, a, rfl, ⟨_, ha⟩, for_tup (K := K) (a := a) (xs := intsV r) (fun i σ H' => ∃ y2, σ = [some (.ref wa), some (.ref a), y2] ∧ H' = H ∧ ∀ x ∈ r.take i, x < W.2.length) ⟨none, rfl, rfl, fun x hx => by rw [List.take_zero] at hx; cases hx⟩ (fun i σ H' _ ⟨_, _, e, _⟩ => by rw [e]; exact ha) ?_ ?_⟩
    · rintro i x σ H' hx ⟨y2, rfl, rfl, hall⟩
      obtain ⟨n, hn, rfl⟩ := intsV_at hx
      refine ⟨_, rfl, n, rfl, true, rfl, iteF ?_⟩
      refine ⟨_, rfl, _, _, rfl, rfl, true, congrArg V.bl (decide_eq_true (by omega)), iteT ?_⟩
      refine ⟨_, rfl, wa, _, _, _, rfl, rfl, sw, atI_nat (j := 1) rfl, tb, ts, rfl, .inr st, _, _, rfl, rfl, ?_⟩
      by_cases h : n < W.2.length
      · refine ⟨true, congrArg V.bl (decide_eq_true (by omega)), iteF ?_⟩
        refine ⟨_, rfl, rfl, fun x hx => ?_⟩
        rw [List.take_add_one, hn] at hx
        rcases List.mem_append.mp hx with h' | h'
        · exact hall x h'
        · have e : x = n := by simpa using h'
          rw [e]; exact h
      · refine ⟨false, congrArg V.bl (decide_eq_false (by omega)), iteT ?_⟩
        exact q false ⟨fun h => (by cases h), fun h' => absurd (h' n (List.mem_of_getElem? hn)) h⟩
    · rintro σ H' ⟨y2, rfl, rfl, hall⟩
      rw [intsV_len, List.take_length] at hall
      exact q true ⟨fun _ => hall, fun _ => rfl⟩
def sp__law_tree (K : PySem.W.Frag) : Sp := fun vs H Q _ => ∃ (v vp : V) (W : Web) (pap : Pap), vs = [v, vp] ∧ Dp K H v (webD W) ∧ PapAt K H vp pap ∧ pap.few ∧ InR W.1 W.2 ∧ 0 < W.1 ∧ W.1 ≤ 25 ∧ W.2.length ≤ 24 ∧
  ∀ H', Same H H' → (∀ n, pap.tells W n → Q (.int (n : Nat)) H') ∧ ((∀ n, ¬ pap.tells W n) → Q .non H')
theorem ok__law_tree : FnOk P w K mg base CX0 3 T.d__law_tree.f T.d__law_tree.fd ["_law_web_here", "_law_paper"] (sp__law_tree K) := by
  refine T.d__law_tree.ok sc__law_tree (fun vs H Q E h => ?_) (fun cdv A outer s H vs Q E hr h => ?_)
  · obtain ⟨v, vp, W, pap, rfl, _⟩ := h; rfl
  · obtain ⟨v, vp, W, pap, rfl, hv, hp, hfew, hin, hpos, h25, h24, q⟩ := h
    refine ⟨_, (pss_cons (ps_if (PW.pt (pw_or (pt_not (pt_val (pe_callB call_isi (by rfl) T.n_isinstance (by decide +kernel) (pa_cons (pv 1) (pa_cons (pe_bltn (v := .ty "tuple") (by rfl) T.n_tuple (by decide +kernel) rfl) pa_nil))))) (pw_or (pt_cmpR op_ne (pe_callB call_len_seq (by rfl) T.n_len (by decide +kernel) (pa_cons (pv 1) pa_nil)) pe_int (nomark _)) (pw_or1 (pt_cmpR op_gt (pe_callB call_len_seq (by rfl) T.n_len (by decide +kernel) (pa_cons (pe_call (ok__law_parts T) (hr.mono (by decide)) (by rfl) T.d__law_parts.g T.d__law_parts.F.kp T.d__law_parts.b .nil pass0 (pa_cons (pv 0) pa_nil)) pa_nil)) pe_int (nomark _))))))
  (pss_one (ps_ret pe_non)) pss_nil)
 (pss_cons (ps_asg (pv 1) (pg_tup (by rfl) (pgs_cons (pg_name (i := 2) sc__law_tree.nd rfl (by first | exact Or.inl rfl | exact Or.inr rfl)) (pgs_cons (pg_name (i := 3) sc__law_tree.nd rfl (by first | exact Or.inl rfl | exact Or.inr rfl)) pgs_nil))))
 (pss_cons (ps_if (PW.pt (pw_or (pt_not (pt_val (pe_callB call_isi (by rfl) T.n_isinstance (by decide +kernel) (pa_cons (pv 2) (pa_cons (pe_bltn (v := .ty "tuple") (by rfl) T.n_tuple (by decide +kernel) rfl) pa_nil))))) (pw_or (pt_not (pt_val (pe_callB call_isi (by rfl) T.n_isinstance (by decide +kernel) (pa_cons (pv 3) (pa_cons (pe_bltn (v := .ty "tuple") (by rfl) T.n_tuple (by decide +kernel) rfl) pa_nil))))) (pw_or1 (pt_cmpR op_ne (pe_callB call_len_seq (by rfl) T.n_len (by decide +kernel) (pa_cons (pv 2) pa_nil)) (pe_op op_sub (pe_ix ix_tup (pv 0) pe_int (fun _ _ => rfl)) pe_int) (nomark _))))))
  (pss_one (ps_ret pe_non)) pss_nil)
 (pss_cons (ps_if (PW.pt (pw_or (pt_not (pt_val (pe_call (ok__law_ties T) (hr.mono (by decide)) (by rfl) T.d__law_ties.g T.d__law_ties.F.kp T.d__law_ties.b .nil pass0 (pa_cons (pv 0) (pa_cons (pv 2) pa_nil))))) (pw_or1 (pt_cmpR (op_neD hr.units) (pe_callTy call_list_of (by rfl) T.n_list (by decide +kernel) (pa_cons (pv 2) pa_nil)) (pe_callB (cr_sortedSet rfl) (by rfl) T.n_sorted (by decide +kernel) (pa_cons (pe_callTy (cr_setI rfl) (by rfl) T.n_set (by decide +kernel) (pa_cons (pv 2) pa_nil)) pa_nil)) (nomark _)))))
  (pss_one (ps_ret pe_non)) pss_nil)
 (pss_cons (ps_if (pt_cmpR op_gt (pe_callB call_len_seq (by rfl) T.n_len (by decide +kernel) (pa_cons (pe_call (ok__law_parts T) (hr.mono (by decide)) (by rfl) T.d__law_parts.g T.d__law_parts.F.kp T.d__law_parts.b .nil pass0 (pa_cons (pe_tup (pa_cons (pe_ix ix_tup (pv 0) pe_int (fun _ _ => rfl)) (pa_cons (pe_lc (own := [("_law_tie", 6)]) (g := (gName 6)) (by rfl) sc__law_tree.nd (pi_tup (pv 2)) (blkOk_by (own := [("_law_tie", 6)]) (N := ["_law_web_here", "_law_paper", "_law_tree_here", "_law_pairs", "_law_used", "_law_pair", "_law_tie", "_law_place"]) (sc := defScope s__law_tree) (by decide +kernel)) (fun _ _ _ _ _ => (pg_name (i := 6) sc__law_tree.nd rfl (by first | exact Or.inl rfl | exact Or.inr rfl))) (fun _ _ _ _ _ => pts_nil) (fun _ _ _ _ _ => (pe_ix (ix_tupK (K := K) rfl) (pe_ix (ix_tupK (K := K) rfl) (pv 0) pe_int (fun _ _ => rfl)) (pv 6) (fun _ _ => rfl)))) pa_nil))) pa_nil)) pa_nil)) pe_int (nomark _))
  (pss_one (ps_ret pe_non)) pss_nil)
 (pss_cons (ps_set (i := 4) sc__law_tree.nd rfl (by first | exact Or.inl rfl | exact Or.inr rfl) (pe_callTy call_list_of (by rfl) T.n_list (by decide +kernel) (pa_cons (pv 2) pa_nil)))
 (pss_cons (ps_for PassesOwn.never rfl (pi_tup (pv 3)) (pg_name (i := 5) sc__law_tree.nd rfl (by first | exact Or.inl rfl | exact Or.inr rfl))
  (pss_cons (ps_if (PW.pt (pw_or (pt_not (pt_val (pe_callB call_isi (by rfl) T.n_isinstance (by decide +kernel) (pa_cons (pv 5) (pa_cons (pe_bltn (v := .ty "tuple") (by rfl) T.n_tuple (by decide +kernel) rfl) pa_nil))))) (pw_or (pt_cmpR op_ne (pe_callB call_len_seq (by rfl) T.n_len (by decide +kernel) (pa_cons (pv 5) pa_nil)) pe_int (nomark _)) (pw_or (pt_not (pt_val (pe_call (ok__law_ties T) (hr.mono (by decide)) (by rfl) T.d__law_ties.g T.d__law_ties.F.kp T.d__law_ties.b .nil pass0 (pa_cons (pv 0) (pa_cons (pv 5) pa_nil))))) (pw_or1 (pt_cmpR op_ge (pe_ix ix_tup (pv 5) pe_int (fun _ _ => rfl)) (pe_ix ix_tup (pv 5) pe_int (fun _ _ => rfl)) (nomark _)))))))
  (pss_one (ps_ret pe_non)) pss_nil)
 (pss_cons (ps_if (pt_cmpR (op_eqD hr.units) (pe_lc (own := [("_law_place", 7)]) (g := (gName 7)) (by rfl) sc__law_tree.nd (pi_tup (pe_ix ix_tup (pe_ix ix_tup (pv 0) pe_int (fun _ _ => rfl)) (pe_ix ix_tup (pv 5) pe_int (fun _ _ => rfl)) (fun _ _ => rfl))) (blkOk_by (own := [("_law_place", 7)]) (N := ["_law_web_here", "_law_paper", "_law_tree_here", "_law_pairs", "_law_used", "_law_pair", "_law_tie", "_law_place"]) (sc := defScope s__law_tree) (by decide +kernel)) (fun _ _ _ _ _ => (pg_name (i := 7) sc__law_tree.nd rfl (by first | exact Or.inl rfl | exact Or.inr rfl))) (fun _ _ _ _ _ => (pts_one (pt_cmpR (op_in_seqK (K := K) rfl) (pv 7) (pe_ix (ix_tupK (K := K) rfl) (pe_ix (ix_tupK (K := K) rfl) (pv 0) pe_int (fun _ _ => rfl)) (pe_ix (ix_tupK (K := K) rfl) (pv 5) pe_int (fun _ _ => rfl)) (fun _ _ => rfl)) (by rfl)))) (fun _ _ _ _ _ => (pv 7))) (pe_lst pa_nil) (nomark _))
  (pss_one (ps_ret pe_non)) pss_nil)
 (pss_one (ps_expr (pe_bm PySem.F.plainAttrs_list PySem.F.slot_list_extend PySem.F.type_list_extend mt_extendT (pv 4) (pa_cons (pv 5) pa_nil)))))))
 (pss_cons (ps_if (pt_cmpR op_ne (pe_callB call_len_seq (by rfl) T.n_len (by decide +kernel) (pa_cons (pv 4) pa_nil)) (pe_callB cr_lenSetO (by rfl) T.n_len (by decide +kernel) (pa_cons (pe_callTy (cr_setI rfl) (by rfl) T.n_set (by decide +kernel) (pa_cons (pv 4) pa_nil)) pa_nil)) (nomark _))
  (pss_one (ps_ret pe_non)) pss_nil)
 (pss_one (ps_ret (pe_callB call_len_seq (by rfl) T.n_len (by decide +kernel) (pa_cons (pv 3) pa_nil)))))))))))), ?_⟩
    cases pap with
    | non =>
      cases (show vp = .non from hp)
      exact ⟨_, rfl, .non, .ty "tuple", .type "NoneType", .type "tuple", false, rfl, .ty _, .base .non, kit_ty (by decide +kernel), false, rfl, iteT ((q H (Same.refl _)).2 fun n hn => hn)⟩
    | lst =>
      obtain ⟨a, xs, rfl, sa⟩ := hp
      exact ⟨_, rfl, .ref a, .ty "tuple", .type "list", .type "tuple", false, rfl, .ty _, .base (.lst sa), kit_ty (by decide +kernel), false, rfl, iteT ((q H (Same.refl _)).2 fun n hn => hn)⟩
    | tup t ps =>
      obtain ⟨ht9, hp9⟩ := hfew
      obtain ⟨a, ta, pb, zs, rfl, sa, sT, sP, dP⟩ := pap_vals hp
      have zl := dpAll_len dP
      rw [List.length_map] at zl
      obtain ⟨wa, tb, ts, rfl, sw, st, dt⟩ := web_vals hv
      have tl := dpAll_len dt
      rw [List.length_map] at tl
      have no : ∀ {H'}, Same H H' → ¬ shows W t ps → Q .non H' := fun {H'} e h => (q H' e).2 fun n hn => h hn.1
      refine ⟨_, rfl, .ref a, .ty "tuple", .type "tuple", .type "tuple", true, rfl, .ty _, tyT sa, kit_ty (by decide +kernel), true, rfl, iteF ?_⟩
      refine ⟨_, rfl, a, _, rfl, .inr sa, rfl, false, rfl, iteF ?_⟩
      refine ⟨_, rfl, W.1, wa, tb, ts, W.2, rfl, sw, .inr st, dt, hin, h25, by omega, fun H1 D ys s1 nD hD hy => ?_⟩
      refine ⟨D, ys, rfl, .inl (.inl (.inl hD)), _, _, rfl, rfl, _, rfl, ite2 (fun e => ?_) (fun e => ?_)⟩
      · exact no s1 fun h => by
          have := of_decide_eq_true e
          rw [hy, h.1] at this
          omega
      have hone : nparts W.1 W.2 = 1 := by
        have h1 := nparts_pos (ts := W.2) hpos
        have h2 : ¬ (1 : Int) < (ys.length : Nat) := fun h => e (decide_eq_true h)
        omega
      refine ⟨_, rfl, a, _, rfl, same_sqt s1 sa, rfl, _, _, rfl, _, _, rfl, rfl, ?_⟩
      refine ⟨_, rfl, .ref ta, .ty "tuple", .type "tuple", .type "tuple", true, rfl, .ty _, tyT (same_sqt s1 sT), kit_ty (by decide +kernel), true, rfl, iteF ?_⟩
      refine ⟨_, rfl, .ref pb, .ty "tuple", .type "tuple", .type "tuple", true, rfl, .ty _, tyT (same_sqt s1 sP), kit_ty (by decide +kernel), true, rfl, iteF ?_⟩
      refine ⟨_, rfl, ta, _, rfl, .inr (same_sqt s1 sT), _, rfl, wa, _, _, _, rfl, rfl, same_sqt s1 sw, atI_nat (j := 0) rfl, _, _, rfl, rfl, rfl, _, rfl, ?_⟩
      by_cases hl : t.length + 1 = W.1
      rotate_left
      · have e1 : (!decide (V.int ((intsV t).length : Nat) = V.int ((W.1 : Nat) - 1 : Int))) = true := by
          rw [intsV_len, decide_eq_false (fun h => hl (by injection h with h; omega))]
          rfl
        rw [e1]
        exact no s1 fun h => hl h.2.1.2.2.1
      have e1 : (!decide (V.int ((intsV t).length : Nat) = V.int ((W.1 : Nat) - 1 : Int))) = false := by
        rw [intsV_len, decide_eq_true (by congr 1; omega)]
        rfl
      rw [e1]
      refine iteF ?_
      refine ⟨_, rfl, _, rfl, .ref wa, W, ta, t, rfl, dp_mono s1 hv, same_sqt s1 sT, fun b hb => ⟨b, rfl, ?_⟩⟩
      cases b with
      | false => exact iteT (no s1 fun h => by cases hb.mpr h.2.1.2.1)
      | true =>
        have hlt := hb.mp rfl
        refine iteF ?_
        refine ⟨_, rfl, ta, _, rfl, .inr (same_sqt s1 sT), fun L nL => ?_⟩
        have s2 := s1.trans (same_upd (o := .lst (intsV t)) nL)
        have hL2 : (upd H1 L (.lst (intsV t))) L = some (.lst (intsV t)) := upd_same
        generalize (upd H1 L (.lst (intsV t))) = H2 at *
        refine ⟨_, rfl, ta, t.map fun (m : Nat) => (m : Int), rfl, .inr (by rw [← intsV_cast]; exact same_sqt s2 sT), by rw [List.length_map]; exact ht9, fun S c nS hks => ?_⟩
        obtain ⟨ks, hks⟩ := hks
        have hc := set_few hks
        have c24 : c ≤ 24 := by
          rw [hc]
          have := List.Nodup.length_le_of_subset (dd_nodup t) (l₂ := List.range 24) fun x hx => List.mem_range.mpr (by have := hlt x (mem_dd.mp hx); omega)
          rw [List.length_range] at this
          exact this
        refine ⟨S, _, c, rfl, upd_same, by omega, fun ns Z pw hm hcn nZ => ?_⟩
        have hm2 : ∀ k : Int, k ∈ ns ↔ k ∈ t.map fun (m : Nat) => (m : Int) := fun k => by rw [hm]; exact decide_eq_true_iff
        have s3 := (same_upd (o := SetO w S (fun j => decide (j ∈ t.map fun (m : Nat) => (m : Int))) c) nS).trans (same_upd (o := .lst (ns.map V.int)) nZ)
        refine ⟨.list ((t.map fun (m : Nat) => (m : Int)).map PyData.int), .list (ns.map PyData.int), .lst (.inl (.inl (s3 _ _ hL2))) (by rw [intsV_cast]; exact dpAll_intsI _), .lst (.inl (.inl upd_same)) (dpAll_intsI ns), sh_shaped (sh_intsI _) (by omega), sh_shaped (sh_intsI _) (by omega), ?_⟩
        rw [eqv_intsI]
        have s4 := s2.trans s3
        refine ⟨_, rfl, ?_⟩
        by_cases hri : t.Pairwise (· < ·)
        rotate_left
        · rw [decide_eq_false (fun h => hri ((rise_eq pw hm2).mp h))]
          exact no s4 fun h => hri h.2.1.1
        rw [decide_eq_true ((rise_eq pw hm2).mpr hri)]
        refine iteF ?_
        -- the tree's own ties
        show tSeq _ _ _ _ (upd (upd H2 S (SetO w S (fun j => decide (j ∈ t.map fun (m : Nat) => (m : Int))) c)) Z (.lst (ns.map V.int)))
        generalize (upd (upd H2 S (SetO w S (fun j => decide (j ∈ t.map fun (m : Nat) => (m : Int))) c)) Z (.lst (ns.map V.int))) = H4 at *
        refine ⟨_, rfl, wa, _, _, _, rfl, rfl, same_sqt s4 sw, atI_nat (j := 0) rfl, ?_⟩
        refine ⟨_, rfl, ta, rfl, ⟨_, same_sqt s4 sT⟩, fun D2 nD2 => ?_⟩
        refine lcT_pure (fun i => match t[i]? with | some k => ts[k]? | none => none) (same_sqt s4 sT) nD2 (by rw [intsV_len]; omega) (fun i x H5 hx sm k n hk hn => ?_) (fun H5 sm hD2 => ?_)
        · obtain ⟨m, hm, rfl⟩ := intsV_at hx
          have hml := hlt m (List.mem_of_getElem? hm)
          have s5 := s4.trans sm
          refine ⟨rfl, yesT ?_⟩
          obtain ⟨u, hu⟩ : ∃ u, ts[m]? = some u := ⟨_, List.getElem?_eq_getElem (by omega)⟩
          refine ⟨_, rfl, wa, _, _, _, rfl, rfl, same_sqt s5 sw, atI_nat (j := 1) rfl, _, rfl, tb, _, _, _, rfl, rfl, same_sqt s5 st, atI_nat hu, ?_⟩
          exact hk _ _ (Same.refl _) (by rw [hm]; exact hu)
        · have s5 := s4.trans sm
          rw [intsV_len] at hD2
          refine ⟨by show 2 ≤ sizeLine; decide, fun y ny => ?_⟩
          have s6 := s5.trans (same_upd (o := .tup [V.int (W.1 : Nat), V.ref D2]) ny)
          have sy := same_upd (o := .tup [V.int (W.1 : Nat), V.ref D2]) ny
          have dn := named (dpAll_mono s6 dt) t hlt
          refine ⟨W.1, y, D2, _, t.map (tieAt W), rfl, .inl (.inl upd_same), .inl (.inl (.inl (sy _ _ hD2))), dn, fun z hz => ?_, h25, by rw [List.length_map]; omega, fun H7 D3 ys3 s7 nD3 hD3 yl => ?_⟩
          · obtain ⟨m, hm, rfl⟩ := List.mem_map.mp hz
            exact tie_lt hin (hlt m hm)
          have s8 := s6.trans s7
          refine ⟨D3, ys3, rfl, .inl (.inl (.inl hD3)), _, _, rfl, rfl, _, rfl, ite2 (fun e => ?_) (fun e => ?_)⟩
          · exact no s8 fun h => by
              have := of_decide_eq_true e
              rw [yl, h.2.1.2.2.2] at this
              omega
          have htree : isTree W t := ⟨hri, hlt, hl, by
            have h1 := nparts_pos (ts := t.map (tieAt W)) hpos
            have h2 : ¬ (1 : Int) < (ys3.length : Nat) := fun h => e (decide_eq_true h)
            omega⟩
          refine ⟨_, rfl, ta, _, rfl, .inr (same_sqt s8 sT), fun U nU => ?_⟩
          have nUH : H U = none := s8.free nU
          have s9 := s8.trans (same_upd (o := .lst (intsV t)) nU)
          refine ⟨_, rfl, pb, rfl, ⟨_, same_sqt s9 sP⟩, for_tup (K := K) (a := pb) (xs := zs) (fun i σ H' => ∃ y5 y6 y7, σ = [some (.ref wa), some (.ref a), some (.ref ta), some (.ref pb), some (.ref U), y5, y6, y7] ∧ Same H H' ∧ H' U = some (.lst (intsV (t ++ pnames (ps.take i)))) ∧ ∀ p ∈ ps.take i, isPair W p)
            ⟨none, none, none, rfl, s9, by rw [upd_same]; show some (HO.lst (intsV t)) = some (HO.lst (intsV (t ++ []))); rw [List.append_nil], fun p hp => by rw [List.take_zero] at hp; cases hp⟩ (fun i σ H' _ ⟨_, _, _, _, sm, _⟩ => same_sqt sm sP) ?_ ?_⟩
          · rintro i x σ H10 hx ⟨y5, y6, y7, rfl, s10, hU, hok⟩
            obtain ⟨pd, hpd, dx⟩ := dpAll_at dP hx
            obtain ⟨p, hpi, rfl⟩ := map_get hpd
            have hil := (List.getElem?_eq_some_iff.mp hpi).1
            have nop : ∀ {H'}, Same H H' → ¬ isPair W p → Q .non H' := fun {H'} e h => no e fun hs => h (pairs_stop hpi hs.2.2).1
            have nl : (t ++ pnames (ps.take i)).length ≤ 300 := by
              rw [List.length_append, pnames_len, List.length_take]
              omega
            obtain ⟨xa, rfl, sx0⟩ := tie_vals dx
            have sx := same_sqt s10 sx0
            refine ⟨_, rfl, .ref xa, .ty "tuple", .type "tuple", .type "tuple", true, rfl, .ty _, tyT sx, kit_ty (by decide +kernel), true, rfl, iteF ?_⟩
            refine ⟨_, rfl, xa, _, rfl, .inr sx, rfl, false, rfl, iteF ?_⟩
            refine ⟨_, rfl, _, rfl, .ref wa, W, xa, [p.1, p.2], rfl, dp_mono s10 hv, sx, fun b hb => ⟨b, rfl, ?_⟩⟩
            cases b with
            | false => exact iteT (nop s10 fun h => by
                have := hb.mpr (fun x hx => by
                  have h1 := h.1
                  have h2 := h.2.1
                  rcases List.mem_cons.mp hx with e | e
                  · rw [e]; omega
                  · rw [List.mem_singleton.mp e]; exact h2)
                cases this)
            | true =>
              have hb2 := hb.mp rfl
              have k1 := hb2 p.1 List.mem_cons_self
              have k2 := hb2 p.2 (List.mem_cons_of_mem _ List.mem_cons_self)
              refine iteF ?_
              refine ⟨_, rfl, xa, _, _, _, rfl, rfl, sx, atI_nat (j := 0) rfl, _, rfl, xa, _, _, _, rfl, rfl, sx, atI_nat (j := 1) rfl, _, _, rfl, rfl, ?_⟩
              by_cases h12 : p.1 < p.2
              rotate_left
              · exact ⟨true, congrArg V.bl (decide_eq_true (by omega)), iteT (nop s10 fun h => h12 h.1)⟩
              refine ⟨false, congrArg V.bl (decide_eq_false (by omega)), iteF ?_⟩
              obtain ⟨u, hu, du⟩ := dpAll_get dt (show (W.2.map tieD)[p.1]? = some (tieD (tieAt W p.1)) by rw [List.getElem?_map, place_tie2 k1]; rfl)
              obtain ⟨u2, hu2, du2⟩ := dpAll_get dt (show (W.2.map tieD)[p.2]? = some (tieD (tieAt W p.2)) by rw [List.getElem?_map, place_tie2 k2]; rfl)
              obtain ⟨ua, rfl, sua⟩ := tie_ints du
              obtain ⟨ub, rfl, sub⟩ := tie_ints du2
              refine ⟨_, rfl, wa, _, _, _, rfl, rfl, same_sqt s10 sw, atI_nat (j := 1) rfl, _, rfl, xa, _, _, _, rfl, rfl, sx, atI_nat (j := 0) rfl, tb, _, _, _, rfl, rfl, same_sqt s10 st, atI_nat hu, ?_⟩
              refine ⟨ua, rfl, ⟨_, same_sqt s10 sua⟩, fun D4 nD4 => ?_⟩
              refine lcT_pure (fun k => match [(tieAt W p.1).1, (tieAt W p.1).2][k]? with | some x => if decide (x = (tieAt W p.2).1 ∨ x = (tieAt W p.2).2) = true then some (.int (x : Nat)) else none | none => none) (same_sqt s10 sua) nD4 (by rw [intsV_len]; show 2 ≤ 999; omega) (fun k x H11 hx sm kk n hk hn => ?_) (fun H11 sm hD4 => ?_)
              · obtain ⟨m, hm, rfl⟩ := intsV_at hx
                have s11 := s10.trans sm
                refine ⟨rfl, ?_⟩
                refine ⟨_, rfl, _, rfl, wa, _, _, _, rfl, rfl, same_sqt s11 sw, atI_nat (j := 1) rfl, _, rfl, xa, _, _, _, rfl, rfl, same_sqt sm sx, atI_nat (j := 1) rfl, tb, _, _, _, rfl, rfl, same_sqt s11 st, atI_nat hu2, ?_⟩
                refine ⟨ub, _, rfl, .inr (same_sqt s11 sub), rfl, ints_flat _, _, rfl, ?_⟩
                have e1 : inV (.int (m : Nat)) (intsV [(tieAt W p.2).1, (tieAt W p.2).2]) = decide (m = (tieAt W p.2).1 ∨ m = (tieAt W p.2).2) := by
                  rw [inV_ints]
                  exact decide_eq_decide.mpr (by simp)
                show if (inV (.int (m : Nat)) (intsV [(tieAt W p.2).1, (tieAt W p.2).2])) = true then _ else _
                rw [e1]
                rw [hm] at hk hn
                refine ite2 (fun e => ⟨_, rfl, hk _ _ (Same.refl _) (if_pos e)⟩) (fun e => hn _ (Same.refl _) (if_neg e))
              · have s11 := s10.trans sm
                have hD5 : H11 D4 = some (.lst (intsV (common W p.1 p.2))) := by
                  rw [hD4]
                  have := fm_sel [(tieAt W p.1).1, (tieAt W p.1).2] (fun x => decide (x = (tieAt W p.2).1 ∨ x = (tieAt W p.2).2)) (fun (n : Nat) => V.int n) 2 rfl
                  exact congrArg (fun z => some (HO.lst z)) this
                refine ⟨Nat.zero_le _, fun Z2 nZ2 => ?_⟩
                have s12 := same_upd (o := .lst []) nZ2
                refine ⟨.list (intsD (common W p.1 p.2)), .list (intsD []), .lst (.inl (.inl (s12 _ _ hD5))) (dpAll_ints _), .lst (.inl (.inl upd_same)) .nil, sh_shaped (sh_lst (sh_ints _)) (by omega), sh_shaped (sh_lst (sh_ints _)) (by omega), ?_⟩
                rw [eqv_lists]
                have s13 := s11.trans s12
                refine ⟨_, rfl, ite2 (fun e => nop s13 fun h => h.2.2 (of_decide_eq_true e)) (fun e => ?_)⟩
                have hip : isPair W p := ⟨h12, k2, fun z => e (decide_eq_true z)⟩
                have hU4 := s12 _ _ (sm _ _ hU)
                refine ⟨_, rfl, .inl ⟨rfl, _, .inl (.inl hU4)⟩, _, rfl, U, xa, _, _, rfl, rfl, hU4, same_sqt (sm.trans s12) sx, by rw [intsV_len]; exact Nat.le_of_lt (lsz (by show _ + 2 < 1000; omega)), ?_⟩
                refine ⟨_, _, _, rfl, same_mut s13 nUH, ?_, fun p' hp' => ?_⟩
                · rw [upd_same, List.take_add_one, hpi, pnames_snoc_opt, ← List.append_assoc]
                  exact congrArg (fun z => some (HO.lst z)) (intsV_app (t ++ pnames (ps.take i)) [p.1, p.2])
                · rw [List.take_add_one, hpi] at hp'
                  rcases List.mem_append.mp hp' with h | h
                  · exact hok p' h
                  · have e : p' = p := by simpa using h
                    rw [e]; exact hip
          · rintro σ H10 ⟨y5, y6, y7, rfl, s10, hU, hok⟩
            rw [zl, List.take_length] at hU hok
            have tnd : t.Nodup := hri.imp fun h => by omega
            have t24 : t.length ≤ 24 := by
              have := List.Nodup.length_le_of_subset tnd (l₂ := List.range 24) fun x hx => List.mem_range.mpr (by have := hlt x hx; omega)
              rw [List.length_range] at this
              exact this
            have ul : (t ++ pnames ps).length ≤ 100 := by
              rw [List.length_append, pnames_len]
              omega
            refine ⟨_, rfl, U, _, rfl, .inl (.inl (.inl hU)), ?_⟩
            refine ⟨_, rfl, U, (t ++ pnames ps).map fun (m : Nat) => (m : Int), rfl, .inl (by rw [← intsV_cast]; exact .inl (.inl hU)), by rw [List.length_map]; exact ul, fun S2 c2 nS2 hks2 => ?_⟩
            obtain ⟨ks2, hks2⟩ := hks2
            have hc2 := set_few hks2
            subst hc2
            have s11 := s10.trans (same_upd (o := SetO w S2 (fun j => decide (j ∈ (t ++ pnames ps).map fun (m : Nat) => (m : Int))) (dd (t ++ pnames ps)).length) nS2)
            refine ⟨S2, _, _, rfl, upd_same, fun _ _ _ _ => ⟨rfl, _, rfl, ?_⟩⟩
            rw [intsV_len, int_eq]
            by_cases hnd : (t ++ pnames ps).Nodup
            · have e1 : (t ++ pnames ps).length = (dd (t ++ pnames ps)).length := dd_len hnd fun x => Iff.rfl
              rw [decide_eq_true e1]
              refine iteF ?_
              refine ⟨_, rfl, pb, zs, rfl, .inr (same_sqt s11 sP), ?_⟩
              rw [zl]
              exact (q _ s11).1 ps.length ⟨⟨hone, htree, (pairs_iff tnd).mpr ⟨hok, hnd⟩⟩, rfl⟩
            · rw [decide_eq_false (fun e => hnd (dd_full e.symm))]
              exact no s11 fun h => hnd ((pairs_iff tnd).mp h.2.2).2
end
end HF
end

section
set_option Elab.async false
set_option linter.all false
set_option autoImplicit false
set_option maxRecDepth 100000
set_option maxHeartbeats 4000000
namespace HF
open PySem PySem.Spec PyProof.Rows L2
section
theorem row_ends {W : Web} {o : Ord} (h : FloorOK W o) {p : Nat} {r : List Nat} (hr : o[p]? = some r) : r.Perm (endsAt W p) := by
  refine (List.perm_ext_iff_of_nodup (row_nodup h.nodup (List.mem_of_getElem? hr)) (List.nodup_range.filter _)).mpr fun e => ?_
  show _ ↔ e ∈ endsAt W p
  rw [endsAt_mem]
  constructor
  · exact fun he => ⟨h.lt hr he, h.at_ p r e hr he⟩
  · rintro ⟨he, hp⟩
    obtain ⟨r', h1, h2⟩ := h.row he
    rw [hp, hr] at h1
    cases h1
    exact h2
theorem sorted_head {r es : List Nat} (p : r.Perm es) (so : es.Pairwise (· < ·)) : es.take 1 = if r = [] then [] else [minL r] := by
  cases es with
  | nil => rw [List.perm_nil.mp p]; rfl
  | cons x es =>
    have hne : r ≠ [] := fun e => by rw [e] at p; exact nomatch (List.nil_perm.mp p)
    rw [if_neg hne]
    have hx : x ∈ r := p.mem_iff.mpr List.mem_cons_self
    have := minL_unique hx fun y hy => by
      rcases List.mem_cons.mp (p.mem_iff.mp hy) with e | e
      · omega
      · have := (List.pairwise_cons.mp so).1 y e
        omega
    rw [this]
    rfl
theorem begun_take (r : List Nat) : (begun r).take 1 = if r = [] then [] else [minL r] := by
  by_cases h : r = []
  · rw [if_pos h, h]
    rfl
  · rw [if_neg h]
    have := begun_head h
    cases e : begun r with
    | nil => rw [e] at this; cases this
    | cons x l =>
      rw [e] at this
      show [x] = _
      rw [← Option.some.inj this]
theorem cut_one (r : List Nat) : cut (intsD r) none (some 1) = intsD (r.take 1) := by
  unfold cut intsD
  rw [List.length_map]
  have e1 : HT.sIx r.length 0 none = 0 := by simp [HT.sIx]
  have e2 : HT.sIx r.length r.length (some 1) = min 1 r.length := by
    unfold HT.sIx
    simp only
    rw [if_neg (by decide)]
    rfl
  rw [e1, e2, List.drop_zero, Nat.sub_zero, ← List.map_take]
  congr 1
  cases r with
  | nil => rfl
  | cons x r => simp
theorem cutV_one (r : List Nat) : cutV (intsV r) none (some 1) = intsV (r.take 1) := by
  unfold cutV intsV
  rw [List.length_map]
  have e1 : HT.sIx r.length 0 none = 0 := by simp [HT.sIx]
  have e2 : HT.sIx r.length r.length (some 1) = min 1 r.length := by
    unfold HT.sIx
    simp only
    rw [if_neg (by decide)]
    rfl
  rw [e1, e2, List.drop_zero, Nat.sub_zero, ← List.map_take]
  congr 1
  cases r with
  | nil => rfl
  | cons x r => simp
end
section
variable {P : Program} {w : World} {K : PySem.W.Frag} {mg : Str → Option Value} {base : Heap} (T : Tx K mg)
def sp__law_is_order (K : PySem.W.Frag) : Sp := fun vs H Q _ => ∃ (v vo : V) (W : Web) (o : Ord), vs = [v, vo] ∧ Dp K H v (webD W) ∧ Dp K H vo (ordD o) ∧ FloorOK W o ∧ (∀ r ∈ o, ∃ r', r = begun r') ∧ W.1 ≤ 25 ∧ W.2.length ≤ 24 ∧ ∀ H', Same H H' → Q (.bl true) H'
theorem ok__law_is_order : FnOk P w K mg base CX0 2 T.d__law_is_order.f T.d__law_is_order.fd ["_law_web_here", "_law_found"] (sp__law_is_order K) := by
  refine T.d__law_is_order.ok sc__law_is_order (fun vs H Q E h => ?_) (fun cdv A outer s H vs Q E hr h => ?_)
  · obtain ⟨v, vo, W, o, rfl, _⟩ := h; rfl
  · obtain ⟨v, vo, W, o, rfl, hv, ho, hok, hbeg, h25, h24, q⟩ := h
    refine ⟨_, (pss_cons (ps_if (PW.pt (pw_or (pt_not (pt_val (pe_callB call_isi (by rfl) T.n_isinstance (by decide +kernel) (pa_cons (pv 1) (pa_cons (pe_bltn (v := .ty "tuple") (by rfl) T.n_tuple (by decide +kernel) rfl) pa_nil))))) (pw_or1 (pt_cmpR op_ne (pe_callB call_len_seq (by rfl) T.n_len (by decide +kernel) (pa_cons (pv 1) pa_nil)) (pe_ix ix_tup (pv 0) pe_int (fun _ _ => rfl)) (nomark _)))))
  (pss_one (ps_ret pe_bl)) pss_nil)
 (pss_cons (ps_for PassesOwn.never rfl (pi_range1 (by rfl) T.n_range (pa_cons (pe_ix ix_tup (pv 0) pe_int (fun _ _ => rfl)) pa_nil)) (pg_name (i := 2) sc__law_is_order.nd rfl (by first | exact Or.inl rfl | exact Or.inr rfl))
  (pss_cons (ps_setLc (i := 3) (own := [("_law_k", 5)]) (g := (gName 5)) (by rfl) sc__law_is_order.nd rfl rfl (sw_true rfl rfl rfl (by decide +kernel)) (pi_range1 (by rfl) T.n_range (pa_cons (pe_op op_mul pe_int (pe_callB call_len_seq (by rfl) T.n_len (by decide +kernel) (pa_cons (pe_ix ix_tup (pv 0) pe_int (fun _ _ => rfl)) pa_nil))) pa_nil)) (blkOk_by (own := [("_law_k", 5)]) (N := ["_law_web_here", "_law_found", "_law_place", "_law_due", "_law_row", "_law_k", "_law_end"]) (sc := defScope s__law_is_order) (by decide +kernel)) (fun _ _ _ _ _ => (pg_name (i := 5) sc__law_is_order.nd rfl (by first | exact Or.inl rfl | exact Or.inr rfl))) (fun _ _ _ _ _ => (pts_one (pt_cmpR op_eq (pe_ix (ix_tupK (K := K) rfl) (pe_ix (ix_tupK (K := K) rfl) (pe_ix (ix_tupK (K := K) rfl) (pv 0) pe_int (fun _ _ => rfl)) (pe_op op_fdivN (pv 5) pe_int) (fun _ _ => rfl)) (pe_op op_modN (pv 5) pe_int) (fun _ _ => rfl)) (pv 2) (nomark _)))) (fun _ _ _ _ _ => (pv 5)))
 (pss_cons (ps_set (i := 4) sc__law_is_order.nd rfl (by first | exact Or.inl rfl | exact Or.inr rfl) (pe_ix ix_tup (pv 1) (pv 2) (fun _ _ => rfl)))
 (pss_cons (ps_if (PW.pt (pw_or (pt_not (pt_val (pe_callB call_isi (by rfl) T.n_isinstance (by decide +kernel) (pa_cons (pv 4) (pa_cons (pe_bltn (v := .ty "tuple") (by rfl) T.n_tuple (by decide +kernel) rfl) pa_nil))))) (pw_or1 (pt_not (pt_val (pe_callB (cr_all rfl) (by rfl) T.n_all (by decide +kernel) (pa_cons (pe_lc (own := [("_law_end", 6)]) (g := (gName 6)) (by rfl) sc__law_is_order.nd (pi_tup (pv 4)) (blkOk_by (own := [("_law_end", 6)]) (N := ["_law_web_here", "_law_found", "_law_place", "_law_due", "_law_row", "_law_k", "_law_end"]) (sc := defScope s__law_is_order) (by decide +kernel)) (fun _ _ _ _ _ => (pg_name (i := 6) sc__law_is_order.nd rfl (by first | exact Or.inl rfl | exact Or.inr rfl))) (fun _ _ _ _ _ => pts_nil) (fun _ _ _ _ _ => (pe_call (ok__law_whole T) (hr.mono (by decide)) (by rfl) T.d__law_whole.g T.d__law_whole.F.kp T.d__law_whole.b .nil pass0 (pa_cons (pv 6) pa_nil)))) pa_nil)))))))
  (pss_one (ps_ret pe_bl)) pss_nil)
 (pss_one (ps_if (PW.pt (pw_or (pt_cmpR (op_neD hr.units) (pe_callB cr_sortedTI (by rfl) T.n_sorted (by decide +kernel) (pa_cons (pv 4) pa_nil)) (pv 3) (nomark _)) (pw_or1 (pt_cmpR (op_neD hr.units) (pe_callTy call_list_of (by rfl) T.n_list (by decide +kernel) (pa_cons (pe_slice sl_tupA (pv 4) po_none (po_some pe_int)) pa_nil)) (pe_slice sl_list (pv 3) po_none (po_some pe_int)) (nomark _)))))
  (pss_one (ps_ret pe_bl)) pss_nil))))))
 (pss_one (ps_ret pe_bl)))), ?_⟩
    obtain ⟨wa, tb, ts, rfl, sw, st, dt⟩ := web_vals hv
    have tl := dpAll_len dt
    rw [List.length_map] at tl
    obtain ⟨oa, os, rfl, so, dO⟩ := dp_tup ho
    have ol := dpAll_len dO
    rw [List.length_map, hok.len] at ol
    refine ⟨_, rfl, .ref oa, .ty "tuple", .type "tuple", .type "tuple", true, rfl, .ty _, tyT so, kit_ty (by decide +kernel), true, rfl, iteF ?_⟩
    refine ⟨_, rfl, oa, os, rfl, .inr so, _, rfl, wa, _, _, _, rfl, rfl, sw, atI_nat (j := 0) rfl, rfl, false, ?_, iteF ?_⟩
    · rw [ol, decide_eq_true rfl]
      rfl
    refine ⟨_, rfl, wa, _, _, _, rfl, rfl, sw, atI_nat (j := 0) rfl, (W.1 : Nat), rfl, by omega, by omega, for_range (lo := 0) (n := W.1) (fun i σ H' => ∃ y2 y3 y4 y5 y6, σ = [some (.ref wa), some (.ref oa), y2, y3, y4, y5, y6] ∧ Same H H') ⟨none, none, none, none, none, rfl, Same.refl _⟩ ?_ ?_⟩
    · rintro i σ H1 hi ⟨y2, y3, y4, y5, y6, rfl, sm⟩
      rw [Int.zero_add]
      refine ⟨_, rfl, wa, _, _, _, rfl, rfl, same_sqt sm sw, atI_nat (j := 1) rfl, tb, ts, rfl, .inr (same_sqt sm st), _, _, rfl, rfl, .inl ⟨by decide, by decide⟩, (2 * (ts.length : Nat) : Int), rfl, by omega, by omega, fun D nD => ?_⟩
      have e2 : ((2 : Int) * (ts.length : Nat)).toNat = 2 * W.2.length := by rw [tl]; omega
      rw [e2]
      refine lcR_pure (lo := 0) (n := 2 * W.2.length) (fun k => if decide (place W k = i) = true then some (.int (k : Nat)) else none) nD (by omega) (fun k H2 hk sm2 kk no hkk hno => ?_) (fun H2 sm2 hD => ?_)
      · rw [Int.zero_add]
        have hk2 : k / 2 < W.2.length := by omega
        obtain ⟨u, hu, du⟩ := dpAll_get dt (show (W.2.map tieD)[k / 2]? = some (tieD (tieAt W (k / 2))) by rw [List.getElem?_map, place_tie2 hk2]; rfl)
        have s2 := sm.trans sm2
        obtain ⟨ua, rfl, su⟩ := tie_vals (dp_mono s2 du)
        have it : [V.int ((tieAt W (k / 2)).1 : Nat), V.int ((tieAt W (k / 2)).2 : Nat)][k % 2]? = some (.int (place W k : Nat)) := by
          unfold place endOf
          rcases Nat.mod_two_eq_zero_or_one k with e | e
          · rw [e]; rfl
          · rw [e]; rfl
        refine ⟨rfl, ?_⟩
        refine ⟨_, rfl, wa, _, _, _, rfl, rfl, same_sqt s2 sw, atI_nat (j := 1) rfl, _, rfl, _, _, rfl, rfl, ⟨by decide, by decide⟩, tb, _, _, _, rfl, rfl, same_sqt s2 st, at_of (nfdiv k 2) hu, _, rfl, _, _, rfl, rfl, (by show (2 : Int) ≠ 0; decide), ua, _, _, _, rfl, rfl, su, at_of (nfmod k 2) it, _, rfl, rfl, _, rfl, ?_⟩
        show if (decide (V.int (place W k : Nat) = V.int (i : Nat))) = true then _ else _
        rw [int_eq]
        refine ite2 (fun e => ⟨_, rfl, hkk _ _ (Same.refl _) (if_pos e)⟩) (fun e => hno _ (Same.refl _) (if_neg e))
      · rw [fm_filter] at hD
        have hD : H2 D = some (.lst (intsV (endsAt W i))) := hD
        have s2 := sm.trans sm2
        obtain ⟨r, hr⟩ : ∃ r, o[i]? = some r := ⟨_, List.getElem?_eq_getElem (by rw [hok.len]; exact hi)⟩
        obtain ⟨u, hu, du⟩ := dpAll_get dO (show (o.map tupN)[i]? = some (tupN r) by rw [List.getElem?_map, hr]; rfl)
        obtain ⟨ra, rfl, sr⟩ := tup_ints (dp_mono s2 du)
        have rl : r.length ≤ 48 := by have := row_len hok (List.mem_of_getElem? hr); omega
        have pr := row_ends hok hr
        refine ⟨_, rfl, _, rfl, oa, _, _, _, rfl, rfl, same_sqt s2 so, atI_nat hu, ?_⟩
        refine ⟨_, rfl, .ref ra, .ty "tuple", .type "tuple", .type "tuple", true, rfl, .ty _, tyT sr, kit_ty (by decide +kernel), true, rfl, iteF ?_⟩
        refine ⟨_, rfl, ra, rfl, ⟨_, sr⟩, fun D2 nD2 => ?_⟩
        refine lcT_pure (fun _ => some (.bl true)) sr nD2 (by rw [intsV_len]; omega) (fun k x H3 hx sm3 kk no hkk hno => ?_) (fun H3 sm3 hD2 => ?_)
        · obtain ⟨m, hm, rfl⟩ := intsV_at hx
          exact ⟨rfl, yesT ⟨_, rfl, m, rfl, hkk _ _ (Same.refl _) rfl⟩⟩
        · rw [all_true] at hD2
          have s3 := s2.trans sm3
          have sr3 := same_sqt sm3 sr
          refine ⟨D2, _, rfl, .inl (.inl hD2), ?_⟩
          rw [all_rep]
          refine ⟨true, rfl, iteF ?_⟩
          refine ⟨_, rfl, ra, r.map fun (n : Nat) => (n : Int), rfl, by rw [← intsV_cast]; exact sr3, by rw [List.length_map]; omega, fun ns' z pn sn nz => ⟨_, rfl, ?_⟩⟩
          have e : ns' = (endsAt W i).map (fun (n : Nat) => (n : Int)) := sorted_eq (pn.trans (pr.map _)) sn (ints_pw (endsAt_sorted W i))
          subst e
          rw [← intsV_cast]
          have sz := same_upd (o := .lst (intsV (endsAt W i))) nz
          have hDz := sz _ _ (sm3 _ _ hD)
          refine ⟨.list (intsD (endsAt W i)), .list (intsD (endsAt W i)), .lst (.inl (.inl upd_same)) (dpAll_ints _), .lst (.inl (.inl hDz)) (dpAll_ints _), sh_shaped (sh_lst (sh_ints _)) (by omega), sh_shaped (sh_lst (sh_ints _)) (by omega), ?_⟩
          rw [eqv_lists, decide_eq_true rfl]
          refine ⟨false, rfl, iteF ?_⟩
          have s4 := s3.trans sz
          refine ⟨_, rfl, _, rfl, ?_⟩
          refine slT (ds := intsD r) (dp_mono sz (tupN_of sr3)) fun p1 H5 s5 d5 => ?_
          rw [cut_one] at d5
          obtain ⟨pa, rfl, sp⟩ := tup_ints d5
          refine ⟨pa, _, rfl, .inr sp, fun l nl => ?_⟩
          have sl := same_upd (o := .lst (intsV (r.take 1))) nl
          refine ⟨_, rfl, _, rfl, D, _, rfl, .inl (.inl (sl _ _ (s5 _ _ hDz))), fun p2 np2 => ?_⟩
          rw [cutV_one]
          have et : (endsAt W i).take 1 = r.take 1 := by
            obtain ⟨r', rfl⟩ := hbeg r (List.mem_of_getElem? hr)
            rw [begun_take, sorted_head ((begun_perm r').symm.trans pr) (endsAt_sorted W i)]
          rw [et]
          have s6 := same_upd (o := .lst (intsV (r.take 1))) np2
          refine ⟨.list (intsD (r.take 1)), .list (intsD (r.take 1)), .lst (.inl (.inl (s6 _ _ upd_same))) (dpAll_ints _), .lst (.inl (.inl upd_same)) (dpAll_ints _), sh_shaped (sh_lst (sh_ints _)) (by omega), sh_shaped (sh_lst (sh_ints _)) (by omega), ?_⟩
          rw [eqv_lists, decide_eq_true rfl]
          exact ⟨false, rfl, iteF ⟨_, _, _, _, _, rfl, ((s4.trans s5).trans sl).trans s6⟩⟩
    · rintro σ H1 ⟨y2, y3, y4, y5, y6, rfl, sm⟩
      exact q H1 sm
end
end HF
end

section
set_option Elab.async false
set_option linter.all false
set_option autoImplicit false
set_option maxRecDepth 100000
set_option maxHeartbeats 4000000
namespace HF
open PySem PySem.Spec PyProof.Rows L2
section
/-- the end behind an end -/
def bhd (W : Web) (o : Ord) (e : Nat) : Nat := nxt (o.getD (place W e) []) e
def bkv (W : Web) (o : Ord) (L : List Nat) : List (Key × V) := L.map fun e => ((Sum.inl ((e : Nat) : Int) : Key), V.int (bhd W o e : Nat))
theorem bkv_val (W : Web) (o : Ord) (x : Nat) : ∀ L : List Nat, valV (bkv W o L) (Sum.inl (x : Int) : Key) = if x ∈ L then some (V.int (bhd W o x : Nat)) else none
  | [] => rfl
  | e :: L => by
    show valV (((Sum.inl ((e : Nat) : Int) : Key), V.int (bhd W o e : Nat)) :: bkv W o L) (Sum.inl (x : Int) : Key) = _
    by_cases h : e = x
    · subst h
      rw [valV_pos rfl, if_pos List.mem_cons_self]
    · rw [valV_neg (fun z => h (by have := Sum.inl.inj z; omega)), bkv_val W o x L]
      by_cases hx : x ∈ L
      · rw [if_pos hx, if_pos (List.mem_cons_of_mem _ hx)]
      · rw [if_neg hx, if_neg (fun z => by
          rcases List.mem_cons.mp z with z | z
          · exact h z.symm
          · exact hx z)]
theorem bkv_snoc {W : Web} {o : Ord} {L : List Nat} {e : Nat} (h : e ∉ L) : putK (bkv W o L) (Sum.inl (e : Int) : Key) (V.int (bhd W o e : Nat)) = bkv W o (L ++ [e]) := by
  rw [putK_new _ (by rw [bkv_val, if_neg h])]
  unfold bkv
  rw [List.map_append]
  rfl
theorem bhd_at {W : Web} {o : Ord} (h : FloorOK W o) {p k e : Nat} {r : List Nat} (hr : o[p]? = some r) (hk : r[k]? = some e) : r[(k + 1) % r.length]? = some (bhd W o e) := by
  have he := List.mem_of_getElem? hk
  have hp := h.at_ p r e hr he
  have hi : r.idxOf e = k := by
    obtain ⟨h1, _⟩ := idx_at he
    exact (List.getElem?_inj (List.idxOf_lt_length_iff.mpr he) (row_nodup h.nodup (List.mem_of_getElem? hr))).mp (h1.trans hk.symm)
  have := nxt_at he
  rw [hi] at this
  unfold bhd
  rw [hp, List.getD_eq_getElem?_getD, hr]
  exact this
theorem bhd_onw (W : Web) (o : Ord) (e : Nat) : bhd W o (partner e) = onw W o e := rfl
theorem flat_split {o : Ord} {i : Nat} {r : List Nat} (h : o[i]? = some r) : o.flatten = (o.take i).flatten ++ (r ++ (o.drop (i + 1)).flatten) := by
  obtain ⟨a, b, e, l⟩ := split_at h
  have t1 : o.take i = a := by rw [e, ← l]; exact List.take_left
  have t2 : o.drop (i + 1) = b := by
    rw [e, ← l, show a ++ r :: b = (a ++ [r]) ++ b by simp, show a.length + 1 = (a ++ [r]).length by simp]
    exact List.drop_left
  rw [t1, t2]
  conv => lhs; rw [e]
  rw [List.flatten_append, List.flatten_cons]
theorem lone_or {W : Web} {o : Ord} (h : FloorOK W o) (h0 : 0 < W.1) (h1 : nparts W.1 W.2 = 1) : (∀ r ∈ o, r ≠ []) ∨ o = [[]] := by
  by_cases hw : W.1 = 1
  · have hl := h.len
    rw [hw] at hl
    obtain ⟨r, rfl⟩ := List.length_eq_one_iff.mp hl
    by_cases hr : r = []
    · exact .inr (by rw [hr])
    · exact .inl fun r' hr' => by rw [List.mem_singleton.mp hr']; exact hr
  · refine .inl fun r hr e => ?_
    obtain ⟨p, hp⟩ := List.mem_iff_getElem?.mp hr
    have hpl : p < W.1 := by rw [← h.len]; exact (List.getElem?_eq_some_iff.mp hp).1
    have hc := (nparts_one h.ties h0).mp h1
    have key : ∀ {a b : Nat}, Conn W.2 a b → a = b ∨ ((∃ t ∈ W.2, t.1 = a ∨ t.2 = a) ∧ ∃ t ∈ W.2, t.1 = b ∨ t.2 = b) := fun c => by
      induction c with
      | refl a => exact .inl rfl
      | tie t ht => exact .inr ⟨⟨t, ht, .inl rfl⟩, t, ht, .inr rfl⟩
      | symm _ ih => exact ih.elim (fun e => .inl e.symm) fun e => .inr ⟨e.2, e.1⟩
      | trans _ _ i1 i2 =>
        rcases i1 with e1 | e1
        · rcases i2 with e2 | e2
          · exact .inl (e1.trans e2)
          · rw [e1]; exact .inr e2
        · rcases i2 with e2 | e2
          · rw [← e2]; exact .inr e1
          · exact .inr ⟨e1.1, e2.2⟩
    have hq : ∃ q, q < W.1 ∧ q ≠ p := by
      by_cases z : p = 0
      · exact ⟨1, by omega, by omega⟩
      · exact ⟨0, by omega, by omega⟩
    obtain ⟨q, hq1, hq2⟩ := hq
    rcases key (hc p q hpl hq1) with e2 | ⟨⟨t, ht, ht2⟩, _⟩
    · exact hq2 e2.symm
    · obtain ⟨k, hk⟩ := List.mem_iff_getElem?.mp ht
      have hkl := (List.getElem?_eq_some_iff.mp hk).1
      have htk : tieAt W k = t := by
        unfold tieAt
        rw [List.getD_eq_getElem?_getD, hk]
        rfl
      have hx : ∃ x, x < 2 * W.2.length ∧ place W x = p := by
        rcases ht2 with e3 | e3
        · refine ⟨2 * k, by omega, ?_⟩
          unfold place
          rw [show 2 * k / 2 = k by omega, show 2 * k % 2 = 0 by omega, htk]
          exact e3
        · refine ⟨2 * k + 1, by omega, ?_⟩
          unfold place
          rw [show (2 * k + 1) / 2 = k by omega, show (2 * k + 1) % 2 = 1 by omega, htk]
          exact e3
      obtain ⟨x, hx1, hx2⟩ := hx
      obtain ⟨row, hrow, hm⟩ := h.row hx1
      rw [hx2, hp] at hrow
      cases hrow
      rw [e] at hm
      cases hm
end
section
variable {P : Program} {w : World} {K : PySem.W.Frag} {mg : Str → Option Value} {base : Heap} (T : Tx K mg)
def sp__law_faces (K : PySem.W.Frag) : Sp := fun vs H Q _ => ∃ (vo : V) (W : Web) (o : Ord) (F : List (List Nat)), vs = [vo] ∧ Dp K H vo (ordD o) ∧ FloorOK W o ∧ W.2.length ≤ 24 ∧ W.1 ≤ 25 ∧ Faces W o F ∧ ((∀ r ∈ o, r ≠ []) ∨ o = [[]]) ∧
  ∀ H' D ys, Same H H' → H D = none → H' D = some (.lst ys) → ys.length = F.length → Q (.ref D) H'
theorem ok__law_faces : FnOk P w K mg base CX0 2 T.d__law_faces.f T.d__law_faces.fd ["_law_order"] (sp__law_faces K) := by
  refine T.d__law_faces.ok sc__law_faces (fun vs H Q E h => ?_) (fun cdv A outer s H vs Q E hr h => ?_)
  · obtain ⟨vo, W, o, F, rfl, _⟩ := h; rfl
  · obtain ⟨vo, W, o, F, rfl, ho, hok, h24, h25, hF, hne, q⟩ := h
    have hu := hu_of hr
    refine ⟨_, (pss_cons (ps_set (i := 1) sc__law_faces.nd rfl (by first | exact Or.inl rfl | exact Or.inr rfl) pe_dnewK)
 (pss_cons (ps_for PassesOwn.never rfl (pi_tup (pv 0)) (pg_name (i := 2) sc__law_faces.nd rfl (by first | exact Or.inl rfl | exact Or.inr rfl))
  (pss_one (ps_for PassesOwn.never rfl (pi_range1 (by rfl) T.n_range (pa_cons (pe_callB call_len_seq (by rfl) T.n_len (by decide +kernel) (pa_cons (pv 2) pa_nil)) pa_nil)) (pg_name (i := 3) sc__law_faces.nd rfl (by first | exact Or.inl rfl | exact Or.inr rfl))
  (pss_one (ps_dput hu (pv 1) (pe_ix ix_tup (pv 2) (pv 3) (fun _ _ => rfl)) (pe_ix ix_tup (pv 2) (pe_op op_modN (pe_op op_add (pv 3) pe_int) (pe_callB call_len_seq (by rfl) T.n_len (by decide +kernel) (pa_cons (pv 2) pa_nil))) (fun _ _ => rfl)) rfl)))))
 (pss_cons (ps_setLc (i := 4) (own := [("_law_row", 2)]) (g := (gName 2)) (by rfl) sc__law_faces.nd rfl rfl (sw_true rfl rfl rfl (by decide +kernel)) (pi_tup (pv 0)) (blkOk_by (own := [("_law_row", 2)]) (N := ["_law_order", "_law_behind", "_law_row", "_law_k", "_law_found", "_law_met", "_law_end", "_law_walk", "_law_at"]) (sc := defScope s__law_faces) (by decide +kernel)) (fun _ _ _ _ _ => (pg_name (i := 2) sc__law_faces.nd rfl (by first | exact Or.inl rfl | exact Or.inr rfl))) (fun _ _ _ _ _ => (pts_one (pt_cmpR op_eq (pe_callB (len_seqK (K := K) rfl) (by rfl) T.n_len (by decide +kernel) (pa_cons (pv 2) pa_nil)) pe_int (nomark _)))) (fun _ _ _ _ _ => (pe_tup pa_nil)))
 (pss_cons (ps_set (i := 5) sc__law_faces.nd rfl (by first | exact Or.inl rfl | exact Or.inr rfl) pe_dnewK)
 (pss_cons (ps_for PassesOwn.never rfl (pi_range1 (by rfl) T.n_range (pa_cons (pe_callB call_lenD (by rfl) T.n_len (by decide +kernel) (pa_cons (pv 1) pa_nil)) pa_nil)) (pg_name (i := 6) sc__law_faces.nd rfl (by first | exact Or.inl rfl | exact Or.inr rfl))
  (pss_cons (ps_set (i := 7) sc__law_faces.nd rfl (by first | exact Or.inl rfl | exact Or.inr rfl) (pe_lst pa_nil))
 (pss_cons (ps_set (i := 8) sc__law_faces.nd rfl (by first | exact Or.inl rfl | exact Or.inr rfl) (pv 6))
 (pss_cons (ps_while PassesOwn.never (pt_cmp (pc_dnotin hu (pv 8) (pv 5)))
  (pss_cons (ps_dput hu (pv 5) (pv 8) pe_bl rfl)
 (pss_cons (ps_expr (pe_bm PySem.F.plainAttrs_list PySem.F.slot_list_append PySem.F.type_list_append mt_append (pv 7) (pa_cons (pv 8) pa_nil)))
 (pss_one (ps_set (i := 8) sc__law_faces.nd rfl (by first | exact Or.inl rfl | exact Or.inr rfl) (pe_dget hu (pv 1) (pe_call (ok__law_partner T) (hr.mono (by decide)) (by rfl) T.d__law_partner.g T.d__law_partner.F.kp T.d__law_partner.b .nil pass0 (pa_cons (pv 8) pa_nil)) (fun _ _ => rfl)))))))
 (pss_one (ps_if (pt_cmpR op_gt (pe_callB call_len_seq (by rfl) T.n_len (by decide +kernel) (pa_cons (pv 7) pa_nil)) pe_int (nomark _))
  (pss_one (ps_expr (pe_bm PySem.F.plainAttrs_list PySem.F.slot_list_append PySem.F.type_list_append mt_append (pv 4) (pa_cons (pe_tupleOf (by rfl) T.n_tuple (pv 7)) pa_nil)))) pss_nil))))))
 (pss_one (ps_ret (pe_callB (cr_sortedF hr.units) (by rfl) T.n_sorted (by decide +kernel) (pa_cons (pv 4) pa_nil))))))))), ?_⟩
    have hfl := hF.fp.length_eq
    rw [List.length_range] at hfl
    have hofl := hok.flat.length_eq
    rw [List.length_range] at hofl
    obtain ⟨oa, os, rfl, so, dO⟩ := dp_tup ho
    have ol := dpAll_len dO
    rw [List.length_map] at ol
    have olen := hok.len
    refine fun B nB => ?_
    have s0 : Same H (upd H B (.dK [])) := same_upd nB
    refine ⟨_, rfl, oa, rfl, ⟨_, same_sqt s0 so⟩, for_tup (K := K) (a := oa) (xs := os) (fun i σ H' => ∃ y2 y3, σ = [some (.ref oa), some (.ref B), y2, y3, none, none, none, none, none] ∧ Same H H' ∧ H' B = some (.dK (bkv W o (o.take i).flatten)))
      ⟨none, none, rfl, s0, upd_same⟩ (fun i σ H' _ ⟨_, _, _, sm, _⟩ => same_sqt sm so) ?_ ?_⟩
    · rintro i x σ H1 hx ⟨y2, y3, rfl, sm, hB⟩
      obtain ⟨rd, hrd, dr⟩ := dpAll_at dO hx
      obtain ⟨r, hr1, rfl⟩ := map_get hrd
      obtain ⟨ra, rfl, sr⟩ := tup_ints dr
      have rl : r.length ≤ 48 := by have := row_len hok (List.mem_of_getElem? hr1); omega
      have fsp := flat_split hr1
      refine ⟨_, rfl, ra, _, rfl, .inr (same_sqt sm sr), ((intsV r).length : Nat), rfl, by omega, by rw [intsV_len]; omega, ?_⟩
      rw [intsV_len]
      refine for_range (lo := 0) (n := r.length) (fun k σ H' => ∃ y3, σ = [some (.ref oa), some (.ref B), some (.ref ra), y3, none, none, none, none, none] ∧ Same H H' ∧ H' B = some (.dK (bkv W o ((o.take i).flatten ++ r.take k)))) ⟨y3, rfl, sm, by rw [List.take_zero, List.append_nil]; exact hB⟩ ?_ ?_
      · rintro k σ H2 hk ⟨z3, rfl, sm2, hB2⟩
        rw [Int.zero_add]
        obtain ⟨e, he⟩ : ∃ e, r[k]? = some e := ⟨_, List.getElem?_eq_getElem hk⟩
        have hb := bhd_at hok hr1 he
        have sr2 := same_sqt sm2 sr
        have hnew : e ∉ (o.take i).flatten ++ r.take k := by
          have nd := hok.nodup
          rw [fsp] at nd
          obtain ⟨a1, b1, e1, l1⟩ := split_at he
          have t1 : r.take k = a1 := by rw [e1, ← l1]; exact List.take_left
          rw [t1]
          rw [e1] at nd
          intro hm
          rw [List.nodup_append] at nd
          obtain ⟨_, nd2, nd3⟩ := nd
          rcases List.mem_append.mp hm with h | h
          · exact nd3 e h e (by simp) rfl
          · rw [List.append_assoc, List.nodup_append] at nd2
            exact nd2.2.2 e h e (by simp) rfl
        have bl : (bkv W o ((o.take i).flatten ++ r.take k)).length < 1000 := by
          unfold bkv
          rw [List.length_map]
          have : ((o.take i).flatten ++ r.take k).length ≤ o.flatten.length := by
            rw [fsp, List.length_append, List.length_append, List.length_append, List.length_take]
            omega
          omega
        refine ⟨_, rfl, _, rfl, _, _, rfl, rfl, _, rfl, ra, _, rfl, .inr sr2, _, _, rfl, rfl, by rw [intsV_len]; omega, ra, _, _, _, rfl, rfl, sr2, at_of (by rw [intsV_len]; exact nfmod (k + 1) r.length) (intsV_get hb), ?_⟩
        refine ⟨_, rfl, _, rfl, _, rfl, ra, _, _, _, rfl, rfl, sr2, atI_nat (intsV_get he), B, _, rfl, DPut.k (k := (Sum.inl (e : Int) : Key)) hB2 (lsz bl), ?_⟩
        refine ⟨_, rfl, same_mut sm2 nB, ?_⟩
        rw [upd_same, bkv_snoc hnew, List.take_add_one, he, List.append_assoc]
        rfl
      · rintro σ H2 ⟨z3, rfl, sm2, hB2⟩
        refine ⟨_, _, rfl, sm2, ?_⟩
        rw [List.take_length] at hB2
        rw [List.take_add_one, hr1, List.flatten_append]
        show H2 B = some (.dK (bkv W o ((o.take i).flatten ++ [r].flatten)))
        rw [List.flatten_singleton]
        exact hB2
    · rintro σ H1 ⟨y2, y3, rfl, sm, hB⟩
      rw [ol, List.take_length] at hB
      have kl : (bkv W o o.flatten).length = 2 * W.2.length := by
        unfold bkv
        rw [List.length_map, hofl]
      rcases hne with hne | hone
      · -- every place has a tie
        have hFn := no_empty hF hne
        have hFl := len_flat hFn
        refine ⟨_, rfl, oa, rfl, ⟨_, same_sqt sm so⟩, fun Fd nF => lcT_pure (fun _ => none) (same_sqt sm so) nF (by omega) (fun i x H' hx sm2 k n hk hn => ?_) (fun H2 s2' hF2 => ?_)⟩
        · obtain ⟨d, hd, dx⟩ := dpAll_at dO hx
          obtain ⟨r, hr1, rfl⟩ := map_get hd
          obtain ⟨b, rfl, hb⟩ := tup_ints (dp_mono (sm.trans sm2) dx)
          refine ⟨rfl, ?_⟩
          refine ⟨_, rfl, b, _, rfl, .inr hb, rfl, _, rfl, ?_⟩
          rw [intsV_len, nat_zero]
          show if decide (r.length = 0) = true then _ else _
          rw [if_neg (fun e => hne r (List.mem_of_getElem? hr1) (List.length_eq_zero_iff.mp (of_decide_eq_true e)))]
          exact hn _ (Same.refl _) rfl
        · have e0 : ∀ k, (List.range k).filterMap (fun _ => (none : Option V)) = [] := fun k => by
            induction k with
            | zero => rfl
            | succ k ih => rw [fm_succ, ih]; rfl
          rw [e0] at hF2
          have s2 := sm.trans s2'
          have nFH : H Fd = none := sm.free nF
          have hB2 := s2' _ _ hB
          have neBF : B ≠ Fd := ne_of_none hB nF
          refine fun Md nM => ?_
          have neMF : Md ≠ Fd := (ne_of_none hF2 nM).symm
          have neMB : Md ≠ B := (ne_of_none hB2 nM).symm
          have nMH : H Md = none := s2.free nM
          have s3 : Same H (upd H2 Md (.dK [])) := s2.trans (same_upd nM)
          have hF3 : (upd H2 Md (.dK [])) Fd = some (.lst []) := by rw [upd_ne neMF.symm]; exact hF2
          have hB3 : (upd H2 Md (.dK [])) B = some (.dK (bkv W o o.flatten)) := by rw [upd_ne neMB.symm]; exact hB2
          refine ⟨_, rfl, B, _, rfl, hB3, ((bkv W o o.flatten).length : Nat), rfl, by omega, by omega, ?_⟩
          rw [kl]
          refine for_range (lo := 0) (n := 2 * W.2.length) (fun j σ H' => ∃ (y2 y6 y7 y8 : Option V) (F1 F2 : List (List Nat)) (ys : List V) (ts : List (List Nat)), σ = [some (.ref oa), some (.ref B), y2, y3, some (.ref Fd), some (.ref Md), y6, y7, y8] ∧ Same H H' ∧ H' B = some (.dK (bkv W o o.flatten)) ∧ H' Fd = some (.lst ys) ∧ DpAll K (hide Md (hide Fd H')) ys (ts.map tupN) ∧ (∀ t ∈ ts, t ≠ []) ∧ ts.length = F1.length ∧ (F1 ++ F2).Perm F ∧ MetOK H' Md F1.flatten ∧ ∀ x, x < j → x ∈ F1.flatten)
            ⟨_, none, none, none, [], F, [], [], rfl, s3, hB3, hF3, .nil, fun t h => (by cases h), rfl, List.Perm.refl _, ⟨[], upd_same, Nat.le_refl _, fun x => rfl⟩, fun x h => absurd h (Nat.not_lt_zero x)⟩ ?_ ?_
          · rintro j σ H4 hj ⟨z2, z6, z7, z8, F1, F2, ys, ts, rfl, s4, hB4, hFd, hD, hts, hlen, hpm, hMet, hall⟩
            rw [Int.zero_add]
            refine ⟨Nat.zero_le _, fun Wk nW => ?_⟩
            have nWH : H Wk = none := s4.free nW
            have sW := same_upd (o := .lst []) nW
            have s5 := s4.trans sW
            have neWM : Wk ≠ Md := by
              obtain ⟨_, h1, _⟩ := hMet
              exact (ne_of_none h1 nW).symm
            have neWF : Wk ≠ Fd := (ne_of_none hFd nW).symm
            have neWB : Wk ≠ B := (ne_of_none hB4 nW).symm
            have hMet5 := hMet.mono sW
            have hB5 := sW _ _ hB4
            have hFd5 := sW _ _ hFd
            have hD5 := dpAll_mono (hide_same (D := Md) (hide_same (D := Fd) sW)) hD
            have hW5 : (upd H4 Wk (.lst [])) Wk = some (.lst []) := upd_same
            generalize (upd H4 Wk (.lst [])) = H5 at *
            have mono : ∀ σ H' Q1 Q2, (∀ b H1, Q1 b H1 → Q2 b H1) → (tTest (tDNotIn (tVar 8) (tVar 5))) σ H' Q1 → (tTest (tDNotIn (tVar 8) (tVar 5))) σ H' Q2 := by
              rintro σ H' Q1 Q2 hq ⟨v1, e1, v2, e2, a1, o1, e3, g1, b, e4, q1⟩
              exact ⟨v1, e1, v2, e2, a1, o1, e3, g1, b, e4, hq _ _ q1⟩
            refine ⟨_, rfl, ?_⟩
            by_cases hmet : j ∈ F1.flatten
            · refine while_by (fun σ H' => σ = [some (.ref oa), some (.ref B), z2, y3, some (.ref Fd), some (.ref Md), some (.int (j : Nat)), some (.ref Wk), some (.int (j : Nat))] ∧ H' = H5) (fun _ _ => 0) ⟨rfl, rfl⟩ ?_ mono
              rintro σ H' ⟨rfl, rfl⟩
              obtain ⟨kvs, hM, hkl, hkv⟩ := hMet5
              refine ⟨_, rfl, _, rfl, Md, _, rfl, DGet.k (k := (Sum.inl (j : Int) : Key)) hM, ?_⟩
              rw [hkv, decide_eq_true hmet]
              refine ⟨false, rfl, iteF ?_⟩
              refine ⟨_, rfl, Wk, [], rfl, .inl (.inl (.inl hW5)), _, _, rfl, rfl, false, rfl, iteF ?_⟩
              refine ⟨_, _, _, _, F1, F2, ys, ts, rfl, s5, hB5, hFd5, hD5, hts, hlen, hpm, ⟨kvs, hM, hkl, hkv⟩, fun x hx => ?_⟩
              by_cases e : x = j
              · rw [e]; exact hmet
              · exact hall x (by omega)
            · have hjF : j ∈ (F1 ++ F2).flatten := by
                rw [hpm.flatten.mem_iff, hF.fp.mem_iff]
                exact List.mem_range.mpr hj
              rw [List.flatten_append, List.mem_append] at hjF
              obtain ⟨c, hc2, hjc⟩ := List.mem_flatten.mp (hjF.resolve_left hmet)
              obtain ⟨A1, B1, eF⟩ := List.append_of_mem hc2
              have hcF : c ∈ F := hpm.mem_iff.mp (List.mem_append_right _ hc2)
              have pm2 : ((F1 ++ [c]) ++ (A1 ++ B1)).Perm F := by
                refine List.Perm.trans ?_ hpm
                rw [eF, List.append_assoc]
                exact List.Perm.append_left _ (List.perm_middle (l₁ := A1) (a := c) (l₂ := B1)).symm
              obtain ⟨d, pm, nd, lt, nx⟩ := walk_next hok hF hcF hjc
              have dis : ∀ x ∈ j :: d, x ∉ F1.flatten := fun x hx hx1 => by
                have n2 : (F1 ++ F2).flatten.Nodup := hpm.flatten.nodup_iff.mpr hF.fnd
                rw [List.flatten_append, List.nodup_append] at n2
                exact n2.2.2 x hx1 x (List.mem_flatten.mpr ⟨c, hc2, pm.mem_iff.mp hx⟩) rfl
              have dlen : (j :: d).length ≤ 48 := by
                have h1 : (j :: d).length ≤ F.flatten.length := by rw [pm.length_eq]; exact (List.sublist_flatten_of_mem hcF).length_le
                omega
              have f1l : F1.flatten.length ≤ 48 := by
                have h1 := pm2.flatten.length_eq
                rw [hfl, List.append_assoc, List.flatten_append, List.length_append] at h1
                omega
              refine while_by (fun σ H' => ∃ jj g, σ = [some (.ref oa), some (.ref B), z2, y3, some (.ref Fd), some (.ref Md), some (.int (j : Nat)), some (.ref Wk), some (.int (g : Nat))] ∧ Same H H' ∧ H' B = some (.dK (bkv W o o.flatten)) ∧ H' Fd = some (.lst ys) ∧ DpAll K (hide Md (hide Fd H')) ys (ts.map tupN) ∧ MetOK H' Md (F1.flatten ++ (j :: d).take jj) ∧ H' Wk = some (.lst (intsV ((j :: d).take jj))) ∧ jj ≤ d.length + 1 ∧ ((j :: d) ++ [j])[jj]? = some g)
                (fun σ H' => match H' Wk with | some (.lst xs) => 100 - xs.length | _ => 0)
                ⟨0, j, rfl, s5, hB5, hFd5, hD5, by rw [List.take_zero, List.append_nil]; exact hMet5, hW5, Nat.zero_le _, rfl⟩ ?_ mono
              rintro σ H6 ⟨jj, g, rfl, s6, hB6, hFd6, hD6, ⟨kvs, hM, hkl, hkv⟩, hW6, hjj, hg⟩
              refine ⟨_, rfl, _, rfl, Md, _, rfl, DGet.k (k := (Sum.inl (g : Int) : Key)) hM, ?_⟩
              rw [hkv]
              have tl : ((j :: d).take jj).length = jj := by rw [List.length_take, List.length_cons]; omega
              by_cases hjd : jj < d.length + 1
              · have hgd : (j :: d)[jj]? = some g := by
                  rw [List.getElem?_append_left (by rw [List.length_cons]; exact hjd)] at hg
                  exact hg
                have hgm := List.mem_of_getElem? hgd
                have hnot : g ∉ F1.flatten ++ (j :: d).take jj := fun h => by
                  rcases List.mem_append.mp h with h | h
                  · exact dis g hgm h
                  · obtain ⟨a1, b1, e1, l1⟩ := split_at hgd
                    have t1 : (j :: d).take jj = a1 := by rw [e1, ← l1]; exact List.take_left
                    rw [t1] at h
                    rw [e1, List.nodup_append] at nd
                    exact nd.2.2 g h g List.mem_cons_self rfl
                rw [decide_eq_false hnot]
                refine ⟨true, rfl, iteT ?_⟩
                rw [List.length_append, tl] at hkl
                rw [List.length_cons] at dlen
                refine ⟨_, rfl, _, rfl, Md, _, rfl, DPut.k (k := (Sum.inl (g : Int) : Key)) hM (lsz (by omega)), ?_⟩
                have hM7 := MetOK.put (H := H6) (D := Md) (v := V.bl true) (S := F1.flatten ++ (j :: d).take jj) g (by rw [List.length_append, tl]; exact hkl) hkv
                have s7 : Same H (upd H6 Md (.dK (putK kvs (Sum.inl (g : Int)) (V.bl true)))) := same_mut s6 nMH
                have hB7 : (upd H6 Md (.dK (putK kvs (Sum.inl (g : Int)) (V.bl true)))) B = some (.dK (bkv W o o.flatten)) := by rw [upd_ne neMB.symm]; exact hB6
                have hFd7 : (upd H6 Md (.dK (putK kvs (Sum.inl (g : Int)) (V.bl true)))) Fd = some (.lst ys) := by rw [upd_ne neMF.symm]; exact hFd6
                have hW7 : (upd H6 Md (.dK (putK kvs (Sum.inl (g : Int)) (V.bl true)))) Wk = some (.lst (intsV ((j :: d).take jj))) := by rw [upd_ne neWM]; exact hW6
                have hD7 : DpAll K (hide Md (hide Fd (upd H6 Md (.dK (putK kvs (Sum.inl (g : Int)) (V.bl true)))))) ys (ts.map tupN) := by rw [hide2_updM neMF]; exact hD6
                generalize (upd H6 Md (.dK (putK kvs (Sum.inl (g : Int)) (V.bl true)))) = H7 at *
                refine ⟨_, rfl, .inl ⟨rfl, _, .inl (.inl hW7)⟩, _, rfl, Wk, _, _, rfl, rfl, hW7, lsz (by rw [intsV_len, tl]; omega), ?_⟩
                have ev : intsV ((j :: d).take jj) ++ [V.int (g : Nat)] = intsV ((j :: d).take (jj + 1)) := by
                  rw [List.take_add_one (i := jj), hgd]
                  exact intsV_app _ [g]
                rw [ev]
                have s8 : Same H (upd H7 Wk (.lst (intsV ((j :: d).take (jj + 1))))) := same_mut s7 nWH
                have hB8 : (upd H7 Wk (.lst (intsV ((j :: d).take (jj + 1))))) B = some (.dK (bkv W o o.flatten)) := by rw [upd_ne neWB.symm]; exact hB7
                have hFd8 : (upd H7 Wk (.lst (intsV ((j :: d).take (jj + 1))))) Fd = some (.lst ys) := by rw [upd_ne neWF.symm]; exact hFd7
                have hM8 : MetOK (upd H7 Wk (.lst (intsV ((j :: d).take (jj + 1))))) Md (F1.flatten ++ (j :: d).take (jj + 1)) := by
                  obtain ⟨kv, m1, m2, m3⟩ := hM7
                  have e1 : F1.flatten ++ (j :: d).take jj ++ [g] = F1.flatten ++ (j :: d).take (jj + 1) := by
                    rw [List.take_add_one (i := jj), hgd, List.append_assoc]
                    rfl
                  rw [e1] at m2 m3
                  exact ⟨kv, by rw [upd_ne neWM.symm]; exact m1, m2, m3⟩
                have hD8 : DpAll K (hide Md (hide Fd (upd H7 Wk (.lst (intsV ((j :: d).take (jj + 1))))))) ys (ts.map tupN) := by
                  have e1 : hide Md (hide Fd (upd H7 Wk (.lst (intsV ((j :: d).take (jj + 1)))))) = upd (hide Md (hide Fd H7)) Wk (.lst (intsV ((j :: d).take (jj + 1)))) := by rw [hide_new neWF, hide_new neWM]
                  rw [e1]
                  have n1 : NT ((hide Md (hide Fd H7)) Wk) := by rw [hide_ne neWM, hide_ne neWF]; exact nt_lst hW7
                  have all : ∀ {ts : List (List Nat)} {ys : List V}, DpAll K (hide Md (hide Fd H7)) ys (ts.map tupN) → DpAll K (hide Wk (hide Md (hide Fd H7))) ys (ts.map tupN) := by
                    intro ts
                    induction ts with
                    | nil => intro ys h; cases h; exact .nil
                    | cons t ts ih => intro ys h; cases h with
                      | cons a r => exact .cons (hide_tupN2 a n1) (ih r)
                  have := all hD7
                  rw [← hide_upd (o := .lst (intsV ((j :: d).take (jj + 1))))] at this
                  exact dpAll_mono hide_le this
                have hW8 : (upd H7 Wk (.lst (intsV ((j :: d).take (jj + 1))))) Wk = some (.lst (intsV ((j :: d).take (jj + 1)))) := upd_same
                generalize (upd H7 Wk (.lst (intsV ((j :: d).take (jj + 1))))) = H8 at *
                obtain ⟨g2, hg2⟩ : ∃ g2, ((j :: d) ++ [j])[jj + 1]? = some g2 := ⟨_, List.getElem?_eq_getElem (by rw [List.length_append, List.length_cons, List.length_singleton]; omega)⟩
                have hnx : bhd W o (partner g) = g2 := nx jj g g2 hgd (by
                  rw [List.cons_append, List.getElem?_cons_succ] at hg2
                  exact hg2)
                have hpf : partner g ∈ o.flatten := hok.flat.mem_iff.mpr (List.mem_range.mpr (partner_lt (lt g hgm)))
                refine ⟨_, rfl, _, rfl, g, rfl, B, _, rfl, (by have h9 := DGet.k (k := (Sum.inl (partner g : Int) : Key)) hB8; rw [bkv_val, if_pos hpf, hnx] at h9; exact h9), ?_⟩
                refine ⟨⟨jj + 1, g2, rfl, s8, hB8, hFd8, hD8, hM8, hW8, by omega, hg2⟩, ?_⟩
                show (match H8 Wk with | some (.lst xs) => 100 - xs.length | _ => 0) < (match H6 Wk with | some (.lst xs) => 100 - xs.length | _ => 0)
                rw [hW8, hW6]
                show 100 - (intsV ((j :: d).take (jj + 1))).length < 100 - (intsV ((j :: d).take jj)).length
                rw [intsV_len, intsV_len, tl, List.length_take, List.length_cons]
                omega
              · have ej : jj = d.length + 1 := by omega
                subst ej
                have hge : g = j := by
                  have e1 : (j :: d).length = d.length + 1 := rfl
                  rw [← e1, List.getElem?_append_right (Nat.le_refl _), Nat.sub_self] at hg
                  exact (Option.some.inj hg).symm
                have et : (j :: d).take (d.length + 1) = j :: d := List.take_of_length_le (by rw [List.length_cons]; exact Nat.le_refl _)
                rw [et] at hkl hkv hW6
                rw [hge, decide_eq_true (show j ∈ F1.flatten ++ (j :: d).take (d.length + 1) by rw [et]; exact List.mem_append_right _ List.mem_cons_self)]
                refine ⟨false, rfl, iteF ?_⟩
                refine ⟨_, rfl, Wk, _, rfl, .inl (.inl (.inl hW6)), _, _, rfl, rfl, true, congrArg V.bl (decide_eq_true (by rw [intsV_len, List.length_cons]; omega)), iteT ?_⟩
                refine ⟨_, rfl, .inl ⟨rfl, _, .inl (.inl hFd6)⟩, _, rfl, .inl ⟨Wk, _, rfl, .inl (.inl hW6), fun z nz => ?_⟩⟩
                have sz := same_upd (o := .tup (intsV (j :: d))) nz
                have s9 := s6.trans sz
                have yl := dpAll_len hD6
                rw [List.length_map] at yl
                have flen : (F1 ++ [c]).length ≤ F.length := by rw [← pm2.length_eq, List.length_append (as := F1 ++ [c])]; omega
                rw [List.length_append, List.length_singleton] at flen
                have hFd9 := sz _ _ hFd6
                have hM9 := sz _ _ hM
                have hz9 : (upd H6 z (.tup (intsV (j :: d)))) z = some (.tup (intsV (j :: d))) := upd_same
                have hB9 := sz _ _ hB6
                have hD9 := dpAll_mono (hide_same (D := Md) (hide_same (D := Fd) sz)) hD6
                generalize (upd H6 z (.tup (intsV (j :: d)))) = H9 at *
                refine ⟨Fd, ys, _, rfl, rfl, hFd9, lsz (by omega), ?_⟩
                have nMF9 : (hide Fd H9) Md = some (.dK kvs) := by rw [hide_ne neMF]; exact hM9
                have duz : Dp K (hide Md (hide Fd H9)) (.ref z) (tupN (j :: d)) := hide_tupN2 (hide_tupN2 (tupN_of (.inl (.inl hz9))) (nt_lst hFd9)) (nt_dk nMF9)
                have pfl : (F1.flatten ++ (j :: d)).Perm (F1 ++ [c]).flatten := by
                  rw [List.flatten_append, List.flatten_singleton]
                  exact List.Perm.append_left _ pm
                have hMet9 : MetOK (upd H9 Fd (.lst (ys ++ [.ref z]))) Md (F1.flatten ++ (j :: d)) := by
                  exact ⟨kvs, by rw [upd_ne neMF]; exact hM9, hkl, hkv⟩
                refine ⟨_, _, _, _, F1 ++ [c], A1 ++ B1, ys ++ [.ref z], ts ++ [j :: d], rfl, same_mut s9 nFH, by rw [upd_ne neBF]; exact hB9, upd_same, ?_, fun t' ht' => ?_, by rw [List.length_append, List.length_append, hlen]; rfl, pm2, hMet9.perm pfl, fun x hx => ?_⟩
                · rw [hide2_updD, List.map_append]
                  exact dpAll_app hD9 (.cons duz .nil)
                · rcases List.mem_append.mp ht' with h | h
                  · exact hts t' h
                  · rw [List.mem_singleton.mp h]
                    exact fun z => nomatch z
                · rw [List.flatten_append, List.flatten_singleton]
                  by_cases e : x = j
                  · rw [e]; exact List.mem_append_right _ hjc
                  · exact List.mem_append_left _ (hall x (by omega))
          · rintro σ H4 ⟨z2, z6, z7, z8, F1, F2, ys, ts, rfl, s4, hB4, hFd, hD, hts, hlen, hpm, _, hall⟩
            have e2 : F2 = [] := by
              rw [List.eq_nil_iff_forall_not_mem]
              intro c hc
              have hcF : c ∈ F := hpm.mem_iff.mp (List.mem_append_right _ hc)
              obtain ⟨x, hx⟩ := List.exists_mem_of_ne_nil c (hFn c hcF)
              have hxl : x ∈ F.flatten := List.mem_flatten.mpr ⟨c, hcF, hx⟩
              have hx1 := hall x (List.mem_range.mp (hF.fp.mem_iff.mp hxl))
              have nd : (F1 ++ F2).flatten.Nodup := hpm.flatten.nodup_iff.mpr hF.fnd
              rw [List.flatten_append, List.nodup_append] at nd
              exact nd.2.2 x hx1 x (List.mem_flatten.mpr ⟨c, hc, hx⟩) rfl
            subst e2
            rw [List.append_nil] at hpm
            have yl := dpAll_len hD
            rw [List.length_map] at yl
            have l1 := hpm.length_eq
            refine ⟨_, rfl, Fd, ys, rfl, .inl (.inl hFd), by omega, .inl ⟨ts.map fun t => t.map fun (n : Nat) => (n : Int), ?_, fun b hb => ?_⟩, fun zs z zl nz => ?_⟩
            · have e : ((ts.map fun t => t.map fun (n : Nat) => (n : Int)).map fun b => PyData.tuple (b.map PyData.int)) = ts.map tupN := by
                rw [List.map_map]
                refine List.map_congr_left fun t _ => ?_
                unfold tupN intsD
                show PyData.tuple ((t.map fun (n : Nat) => (n : Int)).map PyData.int) = _
                rw [List.map_map]
                rfl
              rw [e]
              exact dpAll_mono (hide_le.trans hide_le) hD
            · obtain ⟨t, ht, rfl⟩ := List.mem_map.mp hb
              intro z
              exact hts t ht (List.map_eq_nil_iff.mp z)
            · exact q _ z zs (s4.trans (same_upd nz)) (s4.free nz) upd_same (by omega)
      · -- one place, no tie
        subst hone
        have hm0 : W.2.length = 0 := by
          have : ([[]] : List (List Nat)).flatten.length = 0 := rfl
          omega
        have hF1 : F.length = 1 := by
          have h1 : F.count [] = 1 := hF.emp
          have h2 : F.count [] = F.length := List.count_eq_length.mpr fun c hc => by
            have h3 : F.flatten = [] := List.length_eq_zero_iff.mp (by omega)
            have h4 : c.length ≤ F.flatten.length := (List.sublist_flatten_of_mem hc).length_le
            rw [h3] at h4
            exact (List.length_eq_zero_iff.mp (Nat.le_zero.mp h4)).symm
          omega
        have ol1 : os.length = 1 := ol
        refine ⟨_, rfl, oa, rfl, ⟨_, same_sqt sm so⟩, fun Fd nF => lc_tup (K := K) (a := oa) (xs := os) (fun i H' => Same H1 H' ∧ ∃ ys, H' Fd = some (.lst ys) ∧ ys.length = i) ⟨same_upd nF, [], upd_same, rfl⟩ (fun i H' _ p => same_sqt (sm.trans p.1) so) (fun i x H2 hx p => ?_) (fun H2 p => ?_)⟩
        · obtain ⟨s2, ys, hFd, yl⟩ := p
          obtain ⟨d, hd, dx⟩ := dpAll_at dO hx
          obtain ⟨r, hr1, rfl⟩ := map_get hd
          have hil := (List.getElem?_eq_some_iff.mp hr1).1
          have hr0 : r = [] := List.mem_singleton.mp (List.mem_of_getElem? hr1)
          subst hr0
          obtain ⟨b, rfl, hb⟩ := tup_ints (dp_mono (sm.trans s2) dx)
          refine ⟨rfl, ?_⟩
          refine ⟨_, rfl, b, _, rfl, .inr hb, rfl, _, rfl, ?_⟩
          refine iteT ?_
          refine ⟨Nat.zero_le _, fun z nz => ?_⟩
          have sz := same_upd (o := .tup []) nz
          refine ⟨ys, sz _ _ hFd, lsz (by have : ([[]] : List (List Nat)).length = 1 := rfl; omega), same_mut (s2.trans sz) nF, _, upd_same, by rw [List.length_append, yl]; rfl⟩
        · obtain ⟨s2', ys, hFd, yl⟩ := p
          rw [ol1] at yl
          have s2 := sm.trans s2'
          refine fun Md nM => ?_
          have s3 : Same H (upd H2 Md (.dK [])) := s2.trans (same_upd nM)
          have hF3 : (upd H2 Md (.dK [])) Fd = some (.lst ys) := same_upd nM _ _ hFd
          have hB3 : (upd H2 Md (.dK [])) B = some (.dK (bkv W [[]] ([[]] : List (List Nat)).flatten)) := same_upd nM _ _ (s2' _ _ hB)
          refine ⟨_, rfl, B, _, rfl, hB3, ((bkv W [[]] ([[]] : List (List Nat)).flatten).length : Nat), rfl, by omega, by omega, ?_⟩
          refine for_range (lo := 0) (n := 0) (fun j σ H' => σ = [some (.ref oa), some (.ref B), y2, y3, some (.ref Fd), some (.ref Md), none, none, none] ∧ Same H H' ∧ H' Fd = some (.lst ys)) ⟨rfl, s3, hF3⟩ (fun j σ H' hj => absurd hj (Nat.not_lt_zero j)) ?_
          rintro σ H4 ⟨rfl, s4, hFd4⟩
          obtain ⟨x, rfl⟩ := List.length_eq_one_iff.mp yl
          exact ⟨_, rfl, Fd, _, rfl, .inl (.inl hFd4), by show 1 ≤ 100; omega, .inr ⟨x, rfl⟩, fun zs z zl nz => q _ z zs (s4.trans (same_upd nz)) (s4.free nz) upd_same (by rw [zl, hF1]; rfl)⟩
def sp__law_holes (K : PySem.W.Frag) : Sp := fun vs H Q _ => ∃ (v vo : V) (W : Web) (o : Ord) (F : List (List Nat)), vs = [v, vo] ∧ Dp K H v (webD W) ∧ Dp K H vo (ordD o) ∧ FloorOK W o ∧ InR W.1 W.2 ∧ W.2.length ≤ 24 ∧ 0 < W.1 ∧ W.1 ≤ 25 ∧ Faces W o F ∧ nparts W.1 W.2 = 1 ∧
  ∀ H', Same H H' → Q (.int ((2 - (W.1 : Int) + (W.2.length : Int) - (F.length : Int)).fdiv 2)) H'
theorem ok__law_holes : FnOk P w K mg base CX0 3 T.d__law_holes.f T.d__law_holes.fd ["_law_web_here", "_law_order"] (sp__law_holes K) := by
  refine T.d__law_holes.ok sc__law_holes (fun vs H Q E h => ?_) (fun cdv A outer s H vs Q E hr h => ?_)
  · obtain ⟨v, vo, W, o, F, rfl, _⟩ := h; rfl
  · obtain ⟨v, vo, W, o, F, rfl, hv, ho, hok, hin, h24, h0, h25, hF, hone, q⟩ := h
    refine ⟨_, (pss_cons (ps_set (i := 2) sc__law_holes.nd rfl (by first | exact Or.inl rfl | exact Or.inr rfl) (pe_op op_add (pe_op op_sub (pe_op op_mul pe_int (pe_callB call_len_seq (by rfl) T.n_len (by decide +kernel) (pa_cons (pe_call (ok__law_parts T) (hr.mono (by decide)) (by rfl) T.d__law_parts.g T.d__law_parts.F.kp T.d__law_parts.b .nil pass0 (pa_cons (pv 0) pa_nil)) pa_nil))) (pe_ix ix_tup (pv 0) pe_int (fun _ _ => rfl))) (pe_callB call_len_seq (by rfl) T.n_len (by decide +kernel) (pa_cons (pe_ix ix_tup (pv 0) pe_int (fun _ _ => rfl)) pa_nil))))
 (pss_one (ps_ret (pe_op op_fdivN (pe_op op_sub (pv 2) (pe_callB call_len_seq (by rfl) T.n_len (by decide +kernel) (pa_cons (pe_call (ok__law_faces T) (hr.mono (by decide)) (by rfl) T.d__law_faces.g T.d__law_faces.F.kp T.d__law_faces.b .nil pass0 (pa_cons (pv 1) pa_nil)) pa_nil))) pe_int)))), ?_⟩
    obtain ⟨wa, tb, ts, rfl, sw, st, dt⟩ := web_vals hv
    have tl := dpAll_len dt
    rw [List.length_map] at tl
    refine ⟨_, rfl, W.1, wa, tb, ts, W.2, rfl, sw, .inr st, dt, hin, h25, by omega, fun H1 D ys s1 nD hD yl => ?_⟩
    refine ⟨D, ys, rfl, .inl (.inl (.inl hD)), _, _, rfl, rfl, .inl ⟨by decide, by decide⟩, _, rfl, wa, _, _, _, rfl, rfl, same_sqt s1 sw, atI_nat (j := 0) rfl, _, _, rfl, rfl, _, rfl, wa, _, _, _, rfl, rfl, same_sqt s1 sw, atI_nat (j := 1) rfl, tb, ts, rfl, .inr (same_sqt s1 st), _, _, rfl, rfl, ?_⟩
    refine ⟨_, rfl, _, rfl, vo, W, o, F, rfl, dp_mono s1 ho, hok, h24, h25, hF, lone_or hok h0 hone, fun H2 D2 ys2 s2 nD2 hD2 yl2 => ?_⟩
    refine ⟨D2, ys2, rfl, .inl (.inl (.inl hD2)), _, _, rfl, rfl, _, _, rfl, rfl, ⟨by decide, by decide⟩, ?_⟩
    have := q H2 (s1.trans s2)
    have e : ((2 : Int) * (ys.length : Nat) - (W.1 : Nat) + (ts.length : Nat) - (ys2.length : Nat)) = 2 - (W.1 : Int) + (W.2.length : Int) - (F.length : Int) := by rw [yl, hone, tl, yl2]; omega
    rw [← e] at this
    exact this
end
end HF
end

section
set_option Elab.async false
set_option linter.all false
set_option autoImplicit false
set_option maxRecDepth 100000
set_option maxHeartbeats 4000000
namespace HF
open PySem PySem.Spec PyProof.Rows L2
section
variable {W : Web}
/-- the ties that are taken of those that are done -/
structure Kr (W : Web) (T don : List Nat) : Prop where
  nd : T.Nodup
  sub : ∀ x ∈ T, x ∈ don
  cnt : nparts W.1 (T.map (tieAt W)) + T.length = W.1
  con : ∀ k ∈ don, Conn (T.map (tieAt W)) (tieAt W k).1 (tieAt W k).2
theorem Kr.nil (W : Web) : Kr W [] [] := ⟨List.nodup_nil, fun x h => (by cases h), nparts_nil W.1, fun k h => (by cases h)⟩
theorem in_map (hin : InR W.1 W.2) {T : List Nat} (h : ∀ x ∈ T, x < W.2.length) : InR W.1 (T.map (tieAt W)) := fun z hz => by
  obtain ⟨m, hm, rfl⟩ := List.mem_map.mp hz
  exact tie_lt hin (h m hm)
theorem Kr.take (hin : InR W.1 W.2) {T don : List Nat} {k : Nat} (K : Kr W T don) (hd : ∀ x ∈ don, x < W.2.length) (hk : k < W.2.length) (hn : k ∉ don)
    (h : nparts W.1 ((T ++ [k]).map (tieAt W)) + T.length < W.1) : Kr W (T ++ [k]) (don ++ [k]) := by
  have e : (T ++ [k]).map (tieAt W) = T.map (tieAt W) ++ [tieAt W k] := by rw [List.map_append]; rfl
  rw [e] at h
  have h1 := nparts_step (n := W.1) (ts := T.map (tieAt W)) (tie_lt hin hk)
  have h2 := K.cnt
  refine ⟨?_, fun x hx => ?_, ?_, fun j hj => ?_⟩
  · rw [List.nodup_append]
    exact ⟨K.nd, by simp, fun a ha b hb z => hn (by rw [← List.mem_singleton.mp hb, ← z]; exact K.sub a ha)⟩
  · rcases List.mem_append.mp hx with h | h
    · exact List.mem_append_left _ (K.sub x h)
    · exact List.mem_append_right _ h
  · rw [e, List.length_append, List.length_singleton]
    omega
  · rw [e]
    rcases List.mem_append.mp hj with h | h
    · exact (K.con j h).mono fun t ht => List.mem_append_left _ ht
    · rw [List.mem_singleton.mp h]
      exact .tie _ (List.mem_append_right _ List.mem_cons_self)
theorem Kr.skip (hin : InR W.1 W.2) {T don : List Nat} {k : Nat} (K : Kr W T don) (hd : ∀ x ∈ don, x < W.2.length) (hk : k < W.2.length)
    (h : ¬ nparts W.1 ((T ++ [k]).map (tieAt W)) + T.length < W.1) : Kr W T (don ++ [k]) := by
  have e : (T ++ [k]).map (tieAt W) = T.map (tieAt W) ++ [tieAt W k] := by rw [List.map_append]; rfl
  rw [e] at h
  have h2 := K.cnt
  have iT := in_map hin fun x hx => hd x (K.sub x hx)
  refine ⟨K.nd, fun x hx => List.mem_append_left _ (K.sub x hx), K.cnt, fun j hj => ?_⟩
  rcases List.mem_append.mp hj with h3 | h3
  · exact K.con j h3
  · rw [List.mem_singleton.mp h3]
    have tl := tie_lt hin hk
    refine lab_conn _ iT _ _ tl.1 tl.2 (Decidable.byContradiction fun hne => ?_)
    have := nparts_less tl hne
    omega
theorem Kr.tree (hin : InR W.1 W.2) (h0 : 0 < W.1) (h1 : nparts W.1 W.2 = 1) {T don t : List Nat} (K : Kr W T don) (hd : ∀ x ∈ don, x < W.2.length) (all : ∀ k, k < W.2.length → k ∈ don) (p : t.Perm T) (so : t.Pairwise (· ≤ ·)) : isTree W t := by
  have iT := in_map hin fun x hx => hd x (K.sub x hx)
  have nd := p.nodup_iff.mpr K.nd
  have lt : ∀ x ∈ t, x < W.2.length := fun x hx => hd x (K.sub x (p.mem_iff.mp hx))
  have cT : ∀ a b, a < W.1 → b < W.1 → Conn (T.map (tieAt W)) a b := fun a b ha hb => by
    have c := (nparts_one hin h0).mp h1 a b ha hb
    refine c.sub fun z hz => ?_
    obtain ⟨k, hk⟩ := List.mem_iff_getElem?.mp hz
    have hkl := (List.getElem?_eq_some_iff.mp hk).1
    have htk : tieAt W k = z := by
      unfold tieAt
      rw [List.getD_eq_getElem?_getD, hk]
      rfl
    rw [← htk]
    exact K.con k (all k hkl)
  have n1 := (nparts_one iT h0).mpr cT
  have it := in_map hin lt
  refine ⟨?_, lt, ?_, (nparts_one it h0).mpr fun a b ha hb => (cT a b ha hb).mono fun z hz => ?_⟩
  · exact (List.Pairwise.and so nd).imp fun h => by omega
  · have := K.cnt
    rw [p.length_eq]
    omega
  · obtain ⟨m, hm, e⟩ := List.mem_map.mp hz
    exact List.mem_map.mpr ⟨m, p.mem_iff.mpr hm, e⟩
/-- two ties with a place in common, as a pair -/
theorem pair_of {i j : Nat} (hi : i < W.2.length) (hj : j < W.2.length) (ne : i ≠ j) (h : ((tieAt W j).1 = (tieAt W i).1 ∨ (tieAt W j).1 = (tieAt W i).2) ∨ ((tieAt W j).2 = (tieAt W i).1 ∨ (tieAt W j).2 = (tieAt W i).2)) : isPair W (min i j, max i j) := by
  have key : ∀ {a b : Nat}, (∃ p, (p = (tieAt W a).1 ∨ p = (tieAt W a).2) ∧ (p = (tieAt W b).1 ∨ p = (tieAt W b).2)) → common W a b ≠ [] := fun {a b} ⟨p, h1, h2⟩ e => by
    have : p ∈ common W a b := by
      unfold common
      rw [List.mem_filter]
      exact ⟨by rcases h1 with h | h <;> simp [h], decide_eq_true h2⟩
    rw [e] at this
    cases this
  have ex : ∃ p, (p = (tieAt W i).1 ∨ p = (tieAt W i).2) ∧ (p = (tieAt W j).1 ∨ p = (tieAt W j).2) := by
    rcases h with h | h
    · exact ⟨_, h, .inl rfl⟩
    · exact ⟨_, h, .inr rfl⟩
  by_cases hij : i < j
  · refine ⟨by show min i j < max i j; omega, by show max i j < _; omega, ?_⟩
    show common W (min i j) (max i j) ≠ []
    rw [Nat.min_eq_left (by omega), Nat.max_eq_right (by omega)]
    exact key ex
  · refine ⟨by show min i j < max i j; omega, by show max i j < _; omega, ?_⟩
    show common W (min i j) (max i j) ≠ []
    rw [Nat.min_eq_right (by omega), Nat.max_eq_left (by omega)]
    obtain ⟨p, h1, h2⟩ := ex
    exact key ⟨p, h2, h1⟩
end
end HF
end

section
set_option Elab.async false
set_option linter.all false
set_option autoImplicit false
set_option maxRecDepth 100000
set_option maxHeartbeats 8000000
namespace HF
open PySem PySem.Spec PyProof.Rows L2
section
structure Bs (G H : Hp) (p a : Addr) : Prop where
  sm : Same G (hide p H)
  pen : PenP H p a
theorem Bs.grow {G H H' : Hp} {p a : Addr} (B : Bs G H p a) (e : Same H H') : Bs G H' p a := ⟨B.sm.trans (hide_same e), penp_mono e B.pen⟩
theorem Bs.drawn {G H H' : Hp} {p a : Addr} (B : Bs G H p a) (e : hide p H' = hide p H) (pen' : PenP H' p a) : Bs G H' p a := ⟨by rw [e]; exact B.sm, pen'⟩
theorem Bs.put {G H : Hp} {p a L : Addr} {o : HO} (B : Bs G H p a) (n : L ≠ p) (nG : G L = none) : Bs G (upd H L o) p a := ⟨by rw [hide_new n]; exact same_mut B.sm nG, pen_upd n B.pen⟩
theorem Bs.le {G H : Hp} {p a : Addr} (B : Bs G H p a) : Same G H := B.sm.trans hide_le
theorem Bs.free {G H : Hp} {p a L : Addr} (B : Bs G H p a) (n : H L = none) : L ≠ p ∧ G L = none := by
  have np := notp B.pen n
  exact ⟨np, B.sm.free (by rw [hide_ne np]; exact n)⟩
theorem lst_drawn {H H' : Hp} {p L : Addr} {x : HO} (n : L ≠ p) (e : hide p H' = hide p H) (h : H L = some x) : H' L = some x := by
  rw [← hide_ne (H := H) n, ← e, hide_ne n] at h
  exact h
theorem Fnd.other {K : PySem.W.Frag} {G H : Hp} {p a L L3 : Addr} {mm : Nat} {fs : List (Nat × Nat)} {xs : List V} {o : HO} (F : Fnd K G H p a L mm fs) (n : L3 ≠ p) (nL : L3 ≠ L) (nG : G L3 = none) (h : H L3 = some (.lst xs)) : Fnd K G (upd H L3 o) p a L mm fs := by
  obtain ⟨sm, pen, ⟨ys, hL, hD⟩, hin⟩ := F
  refine ⟨by rw [hide_new n]; exact same_mut sm nG, pen_upd n pen, ⟨ys, by rw [upd_ne nL.symm]; exact hL, ?_⟩, hin⟩
  rw [hide_new n, hide_new nL]
  have n1 : NT ((hide L (hide p H)) L3) := by rw [hide_ne nL, hide_ne n]; exact nt_lst h
  have := hide_ties (ts := ys) n1 hD
  rw [← hide_upd (o := o)] at this
  exact dpAll_mono hide_le this
theorem Fnd.app {K : PySem.W.Frag} {G H : Hp} {p a L : Addr} {mm : Nat} {fs : List (Nat × Nat)} (F : Fnd K G H p a L mm fs) (n : L ≠ p) (nG : G L = none) {ys : List V} {z : Addr} {t : Nat × Nat} (hL : H L = some (.lst ys)) (hz : H z = some (.tup [.int (t.1 : Nat), .int (t.2 : Nat)])) (zp : z ≠ p) (ht : t.1 < mm ∧ t.2 < mm) :
    Fnd K G (upd H L (.lst (ys ++ [.ref z]))) p a L mm (fs ++ [t]) := by
  have yl : ys.length = fs.length := by
    obtain ⟨_, _, ⟨ys', hL', hD⟩, _⟩ := F
    rw [hL] at hL'
    cases hL'
    have := dpAll_len hD
    rw [List.length_map] at this
    exact this
  have h := F.ins n nG ys.length hL hz zp ht
  rw [List.take_length, List.drop_length, List.append_nil, yl, List.take_length, List.drop_length, List.append_nil] at h
  exact h
theorem mm_perm (x y : Nat) : [min x y, max x y].Perm [x, y] := by
  by_cases h : x ≤ y
  · rw [Nat.min_eq_left h, Nat.max_eq_right h]
  · rw [Nat.min_eq_right (by omega), Nat.max_eq_left (by omega)]
    exact List.Perm.swap _ _ _
def selN (l : List Nat) (c : Nat → Bool) (i : Nat) : Option V := match l[i]? with
  | some x => if c x = true then some (V.int (x : Nat)) else none
  | none => none
theorem selN_at {l : List Nat} {c : Nat → Bool} {i k : Nat} (h : l[i]? = some k) : selN l c i = if c k = true then some (V.int (k : Nat)) else none := by
  unfold selN
  rw [h]
theorem selN_all (l : List Nat) (c : Nat → Bool) : (List.range (intsV l).length).filterMap (selN l c) = intsV (l.filter c) := by
  have : ∀ k, k ≤ l.length → (List.range k).filterMap (selN l c) = intsV ((l.take k).filter c) := by
    intro k
    induction k with
    | zero => intro _; rfl
    | succ k ih =>
      intro hk
      rw [fm_succ, ih (by omega), selN_at (List.getElem?_eq_getElem (by omega)), List.take_add_one, List.getElem?_eq_getElem (by omega), List.filter_append]
      unfold intsV
      rw [List.map_append]
      congr 1
      by_cases h : c l[k] = true
      · simp [h]
      · simp [h]
  rw [intsV_len, this _ (Nat.le_refl _), List.take_length]
theorem ins_ints (l : List Nat) (d x : Nat) : (intsV l).take ((d : Int)).toNat ++ [V.int (x : Nat)] ++ (intsV l).drop ((d : Int)).toNat = intsV (l.take d ++ [x] ++ l.drop d) := by
  rw [Int.toNat_natCast]
  unfold intsV
  rw [List.map_append, List.map_append, List.map_take, List.map_drop]
  rfl
theorem perm_ins (l : List Nat) (d x : Nat) : (l.take d ++ [x] ++ l.drop d).Perm (l ++ [x]) := by
  have h1 : (l.take d ++ [x] ++ l.drop d).Perm (l.take d ++ (l.drop d ++ [x])) := by
    rw [List.append_assoc]
    exact List.Perm.append_left _ List.perm_append_comm
  rw [← List.append_assoc, List.take_append_drop] at h1
  exact h1
theorem erase_at {l : List Nat} {x : Nat} (h : x ∈ l) : (x :: l.eraseIdx (l.idxOf x)).Perm l := by
  obtain ⟨h1, _⟩ := idx_at h
  obtain ⟨a, b, e, hl⟩ := split_at h1
  rw [← hl]
  conv => rhs; rw [e]
  rw [show l.eraseIdx a.length = a ++ b by rw [e, List.eraseIdx_append_of_length_le (Nat.le_refl _)]; simp]
  exact List.perm_middle.symm
theorem erase_ints (l : List Nat) (j : Nat) : ((l.map fun (n : Nat) => (n : Int)).eraseIdx j).map V.int = intsV (l.eraseIdx j) := by
  rw [intsV_cast]
  congr 1
  induction l generalizing j with
  | nil => rfl
  | cons x l ih => cases j with
    | zero => rfl
    | succ j => simp only [List.map_cons, List.eraseIdx_cons_succ, ih]
end
section
variable {P : Program} {w : World} {K : PySem.W.Frag} {mg : Str → Option Value} {base : Heap} (T : Tx K mg)
def sp__law_drawn_tree (K : PySem.W.Frag) : Sp := fun vs H Q _ => ∃ (p : Addr) (v : V) (W : Web), vs = [.ref p, v] ∧ Pen K H p ∧ Dp K (hide p H) v (webD W) ∧ 0 < W.1 ∧ W.1 ≤ 25 ∧ W.2.length ≤ 24 ∧ InR W.1 W.2 ∧ nparts W.1 W.2 = 1 ∧
  ∀ H' u t ps, Same (hide p H) (hide p H') → Pen K H' p → Dp K (hide p H') u (.tuple [tupN t, tiesD ps]) → shows W t ps → t.length ≤ 24 → ps.length ≤ 12 → Q u H'
theorem ok__law_drawn_tree : FnOk P w K mg base CX0 2 T.d__law_drawn_tree.f T.d__law_drawn_tree.fd ["_law_pen_here", "_law_web_here"] (sp__law_drawn_tree K) := by
  refine T.d__law_drawn_tree.ok sc__law_drawn_tree (fun vs H Q E h => ?_) (fun cdv A outer s H vs Q E hr h => ?_)
  · obtain ⟨p, v, W, rfl, _⟩ := h; rfl
  · obtain ⟨p, v, W, rfl, ⟨a, xs, i0, j0, hp0, hs⟩, hv, h0, h25, h24, hin, hone, q⟩ := h
    refine ⟨_, (pss_cons (ps_set (i := 2) sc__law_drawn_tree.nd rfl (by first | exact Or.inl rfl | exact Or.inr rfl) (pe_lst pa_nil))
 (pss_cons (ps_for PassesOwn.never rfl (pi_range1 (by rfl) T.n_range (pa_cons (pe_callB call_len_seq (by rfl) T.n_len (by decide +kernel) (pa_cons (pe_ix ix_tup (pv 1) pe_int (fun _ _ => rfl)) pa_nil)) pa_nil)) (pg_name (i := 3) sc__law_drawn_tree.nd rfl (by first | exact Or.inl rfl | exact Or.inr rfl))
  (pss_one (ps_expr (pe_bm PySem.F.plainAttrs_list PySem.F.slot_list_insert PySem.F.type_list_insert mt_insert (pv 2) (pa_cons (pe_call (ok__law_draw T) (hr.mono (by decide)) (by rfl) T.d__law_draw.g T.d__law_draw.F.kp T.d__law_draw.b .nil pass0 (pa_cons (pv 0) (pa_cons (pe_op op_add (pe_callB call_len_seq (by rfl) T.n_len (by decide +kernel) (pa_cons (pv 2) pa_nil)) pe_int) pa_nil))) (pa_cons (pv 3) pa_nil))))))
 (pss_cons (ps_set (i := 4) sc__law_drawn_tree.nd rfl (by first | exact Or.inl rfl | exact Or.inr rfl) (pe_lst pa_nil))
 (pss_cons (ps_for PassesOwn.never rfl (pi_list (pv 2)) (pg_name (i := 3) sc__law_drawn_tree.nd rfl (by first | exact Or.inl rfl | exact Or.inr rfl))
  (pss_one (ps_if (pt_cmpR op_lt (pe_op op_add (pe_callB call_len_seq (by rfl) T.n_len (by decide +kernel) (pa_cons (pe_call (ok__law_parts T) (hr.mono (by decide)) (by rfl) T.d__law_parts.g T.d__law_parts.F.kp T.d__law_parts.b .nil pass0 (pa_cons (pe_tup (pa_cons (pe_ix ix_tup (pv 1) pe_int (fun _ _ => rfl)) (pa_cons (pe_lc (own := [("_law_k", 10)]) (g := (gName 10)) (by rfl) sc__law_drawn_tree.nd (pi_list (pe_op op_cat (pv 4) (pe_lst (pa_cons (pv 3) pa_nil)))) (blkOk_by (own := [("_law_k", 10)]) (N := ["_law_pen_here", "_law_web_here", "_law_order", "_law_tie", "_law_tree_here", "_law_left", "_law_pairs", "_law_one_here", "_law_some", "_law_other", "_law_k"]) (sc := defScope s__law_drawn_tree) (by decide +kernel)) (fun _ _ _ _ _ => (pg_name (i := 10) sc__law_drawn_tree.nd rfl (by first | exact Or.inl rfl | exact Or.inr rfl))) (fun _ _ _ _ _ => pts_nil) (fun _ _ _ _ _ => (pe_ix (ix_tupK (K := K) rfl) (pe_ix (ix_tupK (K := K) rfl) (pv 1) pe_int (fun _ _ => rfl)) (pv 10) (fun _ _ => rfl)))) pa_nil))) pa_nil)) pa_nil)) (pe_callB call_len_seq (by rfl) T.n_len (by decide +kernel) (pa_cons (pv 4) pa_nil))) (pe_ix ix_tup (pv 1) pe_int (fun _ _ => rfl)) (nomark _))
  (pss_one (ps_expr (pe_bm PySem.F.plainAttrs_list PySem.F.slot_list_append PySem.F.type_list_append mt_append (pv 4) (pa_cons (pv 3) pa_nil)))) pss_nil)))
 (pss_cons (ps_setLc (i := 5) (own := [("_law_tie", 3)]) (g := (gName 3)) (by rfl) sc__law_drawn_tree.nd rfl rfl (sw_true rfl rfl rfl (by decide +kernel)) (pi_list (pv 2)) (blkOk_by (own := [("_law_tie", 3)]) (N := ["_law_pen_here", "_law_web_here", "_law_order", "_law_tie", "_law_tree_here", "_law_left", "_law_pairs", "_law_one_here", "_law_some", "_law_other", "_law_k"]) (sc := defScope s__law_drawn_tree) (by decide +kernel)) (fun _ _ _ _ _ => (pg_name (i := 3) sc__law_drawn_tree.nd rfl (by first | exact Or.inl rfl | exact Or.inr rfl))) (fun _ _ _ _ _ => (pts_one (pt_cmpR (op_notIn_seqK (K := K) rfl) (pv 3) (pv 4) (by rfl)))) (fun _ _ _ _ _ => (pv 3)))
 (pss_cons (ps_set (i := 6) sc__law_drawn_tree.nd rfl (by first | exact Or.inl rfl | exact Or.inr rfl) (pe_lst pa_nil))
 (pss_cons (ps_while PassesOwn.never (pt_cmpR op_gt (pe_callB call_len_seq (by rfl) T.n_len (by decide +kernel) (pa_cons (pv 5) pa_nil)) pe_int (nomark _))
  (pss_cons (ps_set (i := 7) sc__law_drawn_tree.nd rfl (by first | exact Or.inl rfl | exact Or.inr rfl) (pe_bm0 PySem.F.plainAttrs_list PySem.F.slot_list_pop PySem.F.type_list_pop mt_pop (pv 5)))
 (pss_cons (ps_setLc (i := 8) (own := [("_law_tie", 3)]) (g := (gName 3)) (by rfl) sc__law_drawn_tree.nd rfl rfl (sw_true rfl rfl rfl (by decide +kernel)) (pi_list (pv 5)) (blkOk_by (own := [("_law_tie", 3)]) (N := ["_law_pen_here", "_law_web_here", "_law_order", "_law_tie", "_law_tree_here", "_law_left", "_law_pairs", "_law_one_here", "_law_some", "_law_other", "_law_k"]) (sc := defScope s__law_drawn_tree) (by decide +kernel)) (fun _ _ _ _ _ => (pg_name (i := 3) sc__law_drawn_tree.nd rfl (by first | exact Or.inl rfl | exact Or.inr rfl))) (fun _ _ _ _ _ => (pts_one (PW.pt (pw_or (pt_cmpR (op_in_seqK (K := K) rfl) (pe_ix (ix_tupK (K := K) rfl) (pe_ix (ix_tupK (K := K) rfl) (pe_ix (ix_tupK (K := K) rfl) (pv 1) pe_int (fun _ _ => rfl)) (pv 3) (fun _ _ => rfl)) pe_int (fun _ _ => rfl)) (pe_ix (ix_tupK (K := K) rfl) (pe_ix (ix_tupK (K := K) rfl) (pv 1) pe_int (fun _ _ => rfl)) (pv 7) (fun _ _ => rfl)) (by rfl)) (pw_or1 (pt_cmpR (op_in_seqK (K := K) rfl) (pe_ix (ix_tupK (K := K) rfl) (pe_ix (ix_tupK (K := K) rfl) (pe_ix (ix_tupK (K := K) rfl) (pv 1) pe_int (fun _ _ => rfl)) (pv 3) (fun _ _ => rfl)) pe_int (fun _ _ => rfl)) (pe_ix (ix_tupK (K := K) rfl) (pe_ix (ix_tupK (K := K) rfl) (pv 1) pe_int (fun _ _ => rfl)) (pv 7) (fun _ _ => rfl)) (by rfl))))))) (fun _ _ _ _ _ => (pv 3)))
 (pss_one (ps_if (PW.pt (pw_and (pt_cmpR (op_neD hr.units) (pv 8) (pe_lst pa_nil) (nomark _)) (pw_and1 (pt_cmpR op_gt (pe_call (ok__law_draw T) (hr.mono (by decide)) (by rfl) T.d__law_draw.g T.d__law_draw.F.kp T.d__law_draw.b .nil pass0 (pa_cons (pv 0) (pa_cons pe_int pa_nil))) pe_int (nomark _)))))
  (pss_cons (ps_set (i := 9) sc__law_drawn_tree.nd rfl (by first | exact Or.inl rfl | exact Or.inr rfl) (pe_ix ix_list (pv 8) (pe_call (ok__law_draw T) (hr.mono (by decide)) (by rfl) T.d__law_draw.g T.d__law_draw.F.kp T.d__law_draw.b .nil pass0 (pa_cons (pv 0) (pa_cons (pe_callB call_len_seq (by rfl) T.n_len (by decide +kernel) (pa_cons (pv 8) pa_nil)) pa_nil))) (fun _ _ => rfl)))
 (pss_cons (ps_expr (pe_bm PySem.F.plainAttrs_list PySem.F.slot_list_remove PySem.F.type_list_remove mt_remove (pv 5) (pa_cons (pv 9) pa_nil)))
 (pss_one (ps_expr (pe_bm PySem.F.plainAttrs_list PySem.F.slot_list_append PySem.F.type_list_append mt_append (pv 6) (pa_cons (pe_tup (pa_cons (pe_callB (call_min2 rfl) (by rfl) T.n_min (by decide +kernel) (pa_cons (pv 7) (pa_cons (pv 9) pa_nil))) (pa_cons (pe_callB (call_max2 rfl) (by rfl) T.n_max (by decide +kernel) (pa_cons (pv 7) (pa_cons (pv 9) pa_nil))) pa_nil))) pa_nil)))))) pss_nil)))))
 (pss_one (ps_ret (pe_tup (pa_cons (pe_tupleOf (by rfl) T.n_tuple (pe_callB cr_sortedI (by rfl) T.n_sorted (by decide +kernel) (pa_cons (pv 4) pa_nil))) (pa_cons (pe_tupleOf (by rfl) T.n_tuple (pv 6)) pa_nil)))))))))))), ?_⟩
    have B0 : Bs (hide p H) H p a := ⟨Same.refl _, i0, j0, hp0⟩
    generalize hG : hide p H = G at *
    obtain ⟨wa, tb, ts, rfl, sw, st, dt⟩ := web_vals hv
    have tl := dpAll_len dt
    rw [List.length_map] at tl
    refine ⟨Nat.zero_le _, fun L1 nL1 => ?_⟩
    obtain ⟨L1p, L1G⟩ := B0.free nL1
    have B1 := B0.put (o := .lst []) L1p L1G
    have hL1 : (upd H L1 (.lst [])) L1 = some (.lst (intsV [])) := upd_same
    generalize (upd H L1 (.lst [])) = H1 at *
    refine ⟨_, rfl, wa, _, _, _, rfl, rfl, same_sqt B1.le sw, atI_nat (j := 1) rfl, tb, ts, rfl, .inr (same_sqt B1.le st), (ts.length : Nat), rfl, by omega, by omega, ?_⟩
    rw [show ((ts.length : Nat) : Int).toNat = W.2.length by omega]
    refine for_range (lo := 0) (n := W.2.length) (fun i σ H' => ∃ y3 l, σ = [some (.ref p), some (.ref wa), some (.ref L1), y3, none, none, none, none, none, none, none] ∧ Bs G H' p a ∧ H' L1 = some (.lst (intsV l)) ∧ l.Perm (List.range i))
      ⟨none, [], rfl, B1, hL1, List.Perm.refl _⟩ ?_ ?_
    · rintro i σ H2 hi ⟨y3, l, rfl, B2, hL2, hpl⟩
      rw [Int.zero_add]
      have ll := hpl.length_eq
      rw [List.length_range] at ll
      refine ⟨_, rfl, .inl ⟨rfl, _, .inl (.inl hL2)⟩, _, rfl, _, rfl, L1, intsV l, rfl, .inl (.inl (.inl hL2)), _, _, rfl, rfl, p, a, xs, l.length + 1, by show [V.ref p, V.int (((intsV l).length : Nat) + 1 : Int)] = _; rw [intsV_len]; rfl, B2.pen, same_seq B2.sm hs, by omega, by omega, fun d H3 hd g3 pen3 => ?_⟩
      have B3 := B2.drawn g3 pen3
      have hL3 := lst_drawn L1p g3 hL2
      refine ⟨_, rfl, L1, intsV l, (d : Int), _, rfl, rfl, hL3, lsz (by rw [intsV_len]; omega), by omega, by omega, ?_⟩
      rw [ins_ints]
      refine ⟨_, _, rfl, B3.put L1p L1G, upd_same, ?_⟩
      rw [List.range_succ]
      exact (perm_ins l d i).trans (List.Perm.append_right _ hpl)
    · rintro σ H2 ⟨y3, l, rfl, B2, hL2, hpl⟩
      have ll := hpl.length_eq
      rw [List.length_range] at ll
      have lnd := hpl.nodup_iff.mpr List.nodup_range
      have llt : ∀ x ∈ l, x < W.2.length := fun x hx => List.mem_range.mp (hpl.mem_iff.mp hx)
      refine ⟨Nat.zero_le _, fun L2 nL2 => ?_⟩
      obtain ⟨L2p, L2G⟩ := B2.free nL2
      have ne12 : L1 ≠ L2 := ne_of_none hL2 nL2
      have B3 := B2.put (o := .lst []) L2p L2G
      have hT3 : (upd H2 L2 (.lst [])) L2 = some (.lst (intsV [])) := upd_same
      have hO3 : (upd H2 L2 (.lst [])) L1 = some (.lst (intsV l)) := by rw [upd_ne ne12]; exact hL2
      generalize (upd H2 L2 (.lst [])) = H3 at *
      refine ⟨_, rfl, L1, rfl, ⟨_, .inl (.inl hO3)⟩, for_list (K := K) (a := L1) (xs := intsV l) (fun i σ H' => ∃ y3 Tr, σ = [some (.ref p), some (.ref wa), some (.ref L1), y3, some (.ref L2), none, none, none, none, none, none] ∧ Bs G H' p a ∧ H' L1 = some (.lst (intsV l)) ∧ H' L2 = some (.lst (intsV Tr)) ∧ Kr W Tr (l.take i))
        ⟨y3, [], rfl, B3, hO3, hT3, Kr.nil W⟩ (fun i σ H' _ ⟨_, _, _, _, h, _⟩ => .inl (.inl h)) ?_ ?_⟩
      · rintro i x σ H4 hx ⟨z3, Tr, rfl, B4, hO4, hT4, kr⟩
        obtain ⟨k, hk, rfl⟩ := intsV_at hx
        have hkm := List.mem_of_getElem? hk
        have hkl := llt k hkm
        have hdl : ∀ x ∈ l.take i, x < W.2.length := fun x hx => llt x (List.mem_of_mem_take hx)
        have hkn : k ∉ l.take i := fun hm => by
          obtain ⟨a1, b1, e1, l1⟩ := split_at hk
          have t1 : l.take i = a1 := by rw [e1, ← l1]; exact List.take_left
          rw [t1] at hm
          rw [e1, List.nodup_append] at lnd
          exact lnd.2.2 k hm k List.mem_cons_self rfl
        have Tlt : ∀ x ∈ Tr ++ [k], x < W.2.length := fun x hx => by
          rcases List.mem_append.mp hx with h | h
          · exact hdl x (kr.sub x h)
          · rw [List.mem_singleton.mp h]; exact hkl
        have Tl : Tr.length ≤ 25 := by have := kr.cnt; omega
        have hcon : l.take (i + 1) = l.take i ++ [k] := by rw [List.take_add_one, hk]; rfl
        -- the parts with it
        refine ⟨_, rfl, wa, _, _, _, rfl, rfl, same_sqt B4.le sw, atI_nat (j := 0) rfl, ?_⟩
        refine ⟨_, rfl, _, rfl, by show 1 ≤ sizeLine; decide, fun z1 nz1 => ?_⟩
        have t1 := same_upd (o := .lst [V.int (k : Nat)]) nz1
        refine ⟨L2, z1, _, _, rfl, rfl, t1 _ _ hT4, upd_same, by rw [intsV_len]; exact Nat.le_of_lt (lsz (by show Tr.length + 1 < 1000; omega)), fun z2 nz2 => ?_⟩
        have ecat : intsV Tr ++ [V.int (k : Nat)] = intsV (Tr ++ [k]) := intsV_app Tr [k]
        rw [ecat]
        have t2 := same_upd (o := .lst (intsV (Tr ++ [k]))) nz2
        have t12 := t1.trans t2
        have hz2 : (upd (upd H4 z1 (.lst [V.int (k : Nat)])) z2 (.lst (intsV (Tr ++ [k])))) z2 = some (.lst (intsV (Tr ++ [k]))) := upd_same
        generalize (upd (upd H4 z1 (.lst [V.int (k : Nat)])) z2 (.lst (intsV (Tr ++ [k])))) = H5 at *
        have B5 := B4.grow t12
        refine ⟨z2, rfl, ⟨_, .inl (.inl hz2)⟩, fun D nD => ?_⟩
        refine lcL_pure (K := K) (a := z2) (xs := intsV (Tr ++ [k])) (fun i => match (Tr ++ [k])[i]? with | some k => ts[k]? | none => none) (.inl (.inl hz2)) nD (by rw [intsV_len, List.length_append, List.length_singleton]; omega) (fun i x H6 hx sm kk n hkk hn => ?_) (fun H6 sm hD => ?_)
        · obtain ⟨m, hm, rfl⟩ := intsV_at hx
          have hml := Tlt m (List.mem_of_getElem? hm)
          have s6 := B5.le.trans sm
          refine ⟨rfl, yesT ?_⟩
          obtain ⟨u, hu⟩ : ∃ u, ts[m]? = some u := ⟨_, List.getElem?_eq_getElem (by omega)⟩
          refine ⟨_, rfl, wa, _, _, _, rfl, rfl, same_sqt s6 sw, atI_nat (j := 1) rfl, _, rfl, tb, _, _, _, rfl, rfl, same_sqt s6 st, atI_nat hu, ?_⟩
          exact hkk _ _ (Same.refl _) (by rw [hm]; exact hu)
        · rw [intsV_len] at hD
          refine ⟨by show 2 ≤ sizeLine; decide, fun y ny => ?_⟩
          have sy := same_upd (o := .tup [V.int (W.1 : Nat), V.ref D]) ny
          have B7 := (B5.grow sm).grow sy
          have s47 := (t12.trans sm).trans sy
          have hyy : (upd H6 y (.tup [V.int (W.1 : Nat), V.ref D])) y = some (.tup [V.int (W.1 : Nat), V.ref D]) := upd_same
          have hD7 := sy _ _ hD
          generalize (upd H6 y (.tup [V.int (W.1 : Nat), V.ref D])) = H7 at *
          have dn := named (dpAll_mono B7.le dt) (Tr ++ [k]) Tlt
          refine ⟨W.1, y, D, _, (Tr ++ [k]).map (tieAt W), rfl, .inl (.inl hyy), .inl (.inl (.inl hD7)), dn, in_map hin Tlt, h25, by rw [List.length_map, List.length_append, List.length_singleton]; omega, fun H8 D3 ys s8 nD3 hD3 yl => ?_⟩
          have B8 := B7.grow s8
          have s48 := s47.trans s8
          refine ⟨D3, ys, rfl, .inl (.inl (.inl hD3)), _, rfl, L2, _, rfl, .inl (.inl (.inl (s48 _ _ hT4))), _, _, rfl, rfl, _, rfl, wa, _, _, _, rfl, rfl, same_sqt B8.le sw, atI_nat (j := 0) rfl, _, _, rfl, rfl, ?_⟩
          rw [intsV_len, yl]
          by_cases hlt : nparts W.1 ((Tr ++ [k]).map (tieAt W)) + Tr.length < W.1
          · refine ⟨true, congrArg V.bl (decide_eq_true (by omega)), iteT ?_⟩
            have hT8 := s48 _ _ hT4
            refine ⟨_, rfl, .inl ⟨rfl, _, .inl (.inl hT8)⟩, _, rfl, L2, _, _, rfl, rfl, hT8, lsz (by rw [intsV_len]; omega), ?_⟩
            rw [ecat]
            refine ⟨_, _, rfl, B8.put L2p L2G, by rw [upd_ne ne12]; exact s48 _ _ hO4, upd_same, ?_⟩
            rw [hcon]
            exact kr.take hin hdl hkl hkn hlt
          · refine ⟨false, congrArg V.bl (decide_eq_false (by omega)), iteF ?_⟩
            refine ⟨_, _, rfl, B8, s48 _ _ hO4, s48 _ _ hT4, ?_⟩
            rw [hcon]
            exact kr.skip hin hdl hkl hlt
      · rintro σ H4 ⟨z3, Tr, rfl, B4, hO4, hT4, kr⟩
        rw [intsV_len, List.take_length] at kr
        have Tlt : ∀ x ∈ Tr, x < W.2.length := fun x hx => llt x (kr.sub x hx)
        have lall : ∀ k, k < W.2.length → k ∈ l := fun k hk => hpl.mem_iff.mpr (List.mem_range.mpr hk)
        have Tl : Tr.length ≤ 24 := by
          have := List.Nodup.length_le_of_subset kr.nd (l₂ := List.range 24) fun x hx => List.mem_range.mpr (by have := Tlt x hx; omega)
          rw [List.length_range] at this
          exact this
        -- those left
        refine ⟨_, rfl, L1, rfl, ⟨_, .inl (.inl hO4)⟩, fun L3 nL3 => ?_⟩
        obtain ⟨L3p, L3G⟩ := B4.free nL3
        have ne23 : L2 ≠ L3 := ne_of_none hT4 nL3
        refine lcL_pure (K := K) (a := L1) (xs := intsV l) (selN l fun k => decide (k ∉ Tr)) (.inl (.inl hO4)) nL3 (by rw [intsV_len]; omega) (fun i x H5 hx sm kk n hkk hn => ?_) (fun H5 sm hD => ?_)
        · obtain ⟨k, hk, rfl⟩ := intsV_at hx
          refine ⟨rfl, ?_⟩
          refine ⟨_, rfl, _, rfl, L2, _, rfl, .inl (.inl (.inl (sm _ _ hT4))), rfl, ints_flat _, _, rfl, ?_⟩
          have e1 : (!inV (.int (k : Nat)) (intsV Tr)) = decide (k ∉ Tr) := by rw [inV_ints]; simp
          show if (!inV (.int (k : Nat)) (intsV Tr)) = true then _ else _
          rw [e1]
          rw [selN_at hk] at hkk hn
          refine ite2 (fun e => ⟨_, rfl, hkk _ _ (Same.refl _) (if_pos e)⟩) (fun e => hn _ (Same.refl _) (if_neg e))
        · have hL5 : H5 L3 = some (.lst (intsV (l.filter fun k => decide (k ∉ Tr)))) := by
            rw [hD, selN_all]
          have B5 := B4.grow sm
          have hT5 := sm _ _ hT4
          refine ⟨Nat.zero_le _, fun L4 nL4 => ?_⟩
          obtain ⟨L4p, L4G⟩ := B5.free nL4
          have ne24 : L2 ≠ L4 := ne_of_none hT5 nL4
          have ne34 : L3 ≠ L4 := ne_of_none hL5 nL4
          have B6 := B5.put (o := .lst []) L4p L4G
          have F6 : Fnd K G (upd H5 L4 (.lst [])) p a L4 W.2.length [] := ⟨B6.sm, B6.pen, ⟨[], upd_same, .nil⟩, fun t h => by cases h⟩
          have hT6 : (upd H5 L4 (.lst [])) L2 = some (.lst (intsV Tr)) := by rw [upd_ne ne24]; exact hT5
          have hL6 : (upd H5 L4 (.lst [])) L3 = some (.lst (intsV (l.filter fun k => decide (k ∉ Tr)))) := by rw [upd_ne ne34]; exact hL5
          generalize (upd H5 L4 (.lst [])) = H6 at *
          refine while_by (fun σ H' => ∃ y7 y8 y9 left ps, σ = [some (.ref p), some (.ref wa), some (.ref L1), z3, some (.ref L2), some (.ref L3), some (.ref L4), y7, y8, y9, none] ∧ Fnd K G H' p a L4 W.2.length ps ∧ H' L2 = some (.lst (intsV Tr)) ∧ H' L3 = some (.lst (intsV left)) ∧ (Tr ++ pnames ps ++ left).Nodup ∧ (∀ x ∈ Tr ++ pnames ps ++ left, x < W.2.length) ∧ ∀ q ∈ ps, isPair W q)
            (fun σ H' => match H' L3 with | some (.lst xs) => xs.length | _ => 0)
            ⟨none, none, none, l.filter fun k => decide (k ∉ Tr), [], rfl, F6, hT6, hL6, ?_, ?_, fun q hq => by cases hq⟩ ?_ ?_
          · rw [show Tr ++ pnames [] ++ (l.filter fun k => decide (k ∉ Tr)) = Tr ++ (l.filter fun k => decide (k ∉ Tr)) by show Tr ++ [] ++ _ = _; rw [List.append_nil], List.nodup_append]
            refine ⟨kr.nd, lnd.filter _, fun x hx y hy e => ?_⟩
            have := (List.mem_filter.mp hy).2
            subst e
            exact absurd hx (of_decide_eq_true this)
          · intro x hx
            rw [show Tr ++ pnames [] ++ (l.filter fun k => decide (k ∉ Tr)) = Tr ++ (l.filter fun k => decide (k ∉ Tr)) by show Tr ++ [] ++ _ = _; rw [List.append_nil]] at hx
            rcases List.mem_append.mp hx with h | h
            · exact Tlt x h
            · exact llt x (List.mem_filter.mp h).1
          · rintro σ H7 ⟨y7, y8, y9, left, ps, rfl, F7, hT7, hL7, nd, lt, hps⟩
            have plen : (Tr ++ pnames ps ++ left).length ≤ 24 := by
              have := List.Nodup.length_le_of_subset nd (l₂ := List.range 24) fun x hx => List.mem_range.mpr (by have := lt x hx; omega)
              rw [List.length_range] at this
              exact this
            have plen2 := plen
            rw [List.length_append, List.length_append, pnames_len] at plen2
            refine ⟨_, rfl, L3, _, rfl, .inl (.inl (.inl hL7)), _, _, rfl, rfl, ?_⟩
            rw [intsV_len]
            by_cases hl1 : 1 < left.length
            · refine ⟨true, congrArg V.bl (decide_eq_true (by omega)), iteT ?_⟩
              have hne : left ≠ [] := fun e => by rw [e] at hl1; exact absurd hl1 (by decide)
              obtain ⟨l', one, rfl⟩ : ∃ l' one, left = l' ++ [one] := ⟨left.dropLast, left.getLast hne, (List.dropLast_concat_getLast hne).symm⟩
              have hol : one < W.2.length := lt one (by simp)
              have hll' : ∀ x ∈ l', x < W.2.length := fun x hx => lt x (by simp [hx])
              have l'24 : l'.length ≤ 24 := by
                rw [List.length_append, List.length_singleton] at plen2
                omega
              refine ⟨_, rfl, .inl ⟨rfl, _, .inl (.inl hL7)⟩, L3, intsV (l' ++ [one]), .int (one : Nat), rfl, rfl, hL7, ?_, ?_⟩
              · rw [intsV_len, List.length_append, List.length_singleton, Nat.add_sub_cancel]
                exact intsV_get (by rw [List.getElem?_append_right (Nat.le_refl _), Nat.sub_self]; rfl)
              have edl : (intsV (l' ++ [one])).dropLast = intsV l' := by
                rw [← intsV_app]
                exact List.dropLast_concat
              rw [edl]
              have F8 := F7.other (o := .lst (intsV l')) L3p ne34 L3G hL7
              have hT8 : (upd H7 L3 (.lst (intsV l'))) L2 = some (.lst (intsV Tr)) := by rw [upd_ne ne23]; exact hT7
              have hL8 : (upd H7 L3 (.lst (intsV l'))) L3 = some (.lst (intsV l')) := upd_same
              generalize (upd H7 L3 (.lst (intsV l'))) = H8 at *
              have B8 : Bs G H8 p a := ⟨F8.sm, F8.pen⟩
              have ndA : (Tr ++ pnames ps ++ l').Nodup := by
                rw [← List.append_assoc] at nd
                exact (List.nodup_append.mp nd).1
              have one' : one ∉ l' := fun hm => by
                rw [← List.append_assoc, List.nodup_append] at nd
                exact nd.2.2 one (List.mem_append_right _ hm) one List.mem_cons_self rfl
              have ltA : ∀ x ∈ Tr ++ pnames ps ++ l', x < W.2.length := fun x hx => lt x (by rw [← List.append_assoc]; exact List.mem_append_left _ hx)
              obtain ⟨uo, huo, duo⟩ := dpAll_get dt (show (W.2.map tieD)[one]? = some (tieD (tieAt W one)) by rw [List.getElem?_map, place_tie2 hol]; rfl)
              obtain ⟨ub, rfl, sub⟩ := tie_ints duo
              refine ⟨_, rfl, L3, rfl, ⟨_, .inl (.inl hL8)⟩, fun D nD => ?_⟩
              let cond : Nat → Bool := fun k => decide (((tieAt W k).1 = (tieAt W one).1 ∨ (tieAt W k).1 = (tieAt W one).2) ∨ ((tieAt W k).2 = (tieAt W one).1 ∨ (tieAt W k).2 = (tieAt W one).2))
              refine lcL_pure (K := K) (a := L3) (xs := intsV l') (selN l' cond) (.inl (.inl hL8)) nD (by rw [intsV_len]; omega) (fun i x H9 hx sm kk n hkk hn => ?_) (fun H9 sm hD => ?_)
              · obtain ⟨k, hk, rfl⟩ := intsV_at hx
                have hkl := hll' k (List.mem_of_getElem? hk)
                have s9 := B8.le.trans sm
                obtain ⟨uk, huk, duk⟩ := dpAll_get dt (show (W.2.map tieD)[k]? = some (tieD (tieAt W k)) by rw [List.getElem?_map, place_tie2 hkl]; rfl)
                obtain ⟨ka, rfl, sk⟩ := tie_vals duk
                rw [selN_at hk] at hkk hn
                refine ⟨rfl, ?_⟩
                have inb : ∀ z : Nat, inV (.int (z : Nat)) (intsV [(tieAt W one).1, (tieAt W one).2]) = decide (z = (tieAt W one).1 ∨ z = (tieAt W one).2) := fun z => by
                  rw [inV_ints]
                  exact decide_eq_decide.mpr (by simp)
                refine ⟨_, rfl, wa, _, _, _, rfl, rfl, same_sqt s9 sw, atI_nat (j := 1) rfl, _, rfl, tb, _, _, _, rfl, rfl, same_sqt s9 st, atI_nat huk, ka, _, _, _, rfl, rfl, same_sqt s9 sk, atI_nat (j := 0) rfl, _, rfl, wa, _, _, _, rfl, rfl, same_sqt s9 sw, atI_nat (j := 1) rfl, _, rfl, tb, _, _, _, rfl, rfl, same_sqt s9 st, atI_nat huo, ?_⟩
                refine ⟨ub, _, rfl, .inr (same_sqt s9 sub), rfl, ints_flat _, inV (.int ((tieAt W k).1 : Nat)) (intsV [(tieAt W one).1, (tieAt W one).2]), rfl, ?_⟩
                rw [inb]
                refine ite2 (fun e => ?_) (fun e => ?_)
                · exact iteT ⟨_, rfl, hkk _ _ (Same.refl _) (if_pos (decide_eq_true (.inl (of_decide_eq_true e))))⟩
                · refine ⟨_, rfl, wa, _, _, _, rfl, rfl, same_sqt s9 sw, atI_nat (j := 1) rfl, _, rfl, tb, _, _, _, rfl, rfl, same_sqt s9 st, atI_nat huk, ka, _, _, _, rfl, rfl, same_sqt s9 sk, atI_nat (j := 1) rfl, _, rfl, wa, _, _, _, rfl, rfl, same_sqt s9 sw, atI_nat (j := 1) rfl, _, rfl, tb, _, _, _, rfl, rfl, same_sqt s9 st, atI_nat huo, ?_⟩
                  refine ⟨ub, _, rfl, .inr (same_sqt s9 sub), rfl, ints_flat _, inV (.int ((tieAt W k).2 : Nat)) (intsV [(tieAt W one).1, (tieAt W one).2]), rfl, ?_⟩
                  rw [inb]
                  refine ite2 (fun e2 => ?_) (fun e2 => ?_)
                  · exact ⟨_, rfl, hkk _ _ (Same.refl _) (if_pos (decide_eq_true (.inr (of_decide_eq_true e2))))⟩
                  · refine hn _ (Same.refl _) (if_neg fun e3 => ?_)
                    rcases of_decide_eq_true e3 with h | h
                    · exact e (decide_eq_true h)
                    · exact e2 (decide_eq_true h)
              · have hD9 : H9 D = some (.lst (intsV (l'.filter cond))) := by
                  rw [hD, selN_all]
                have F9 := F8.grow sm
                have hT9 := sm _ _ hT8
                have hL9 := sm _ _ hL8
                have memc : ∀ x ∈ l'.filter cond, x ∈ l' ∧ (((tieAt W x).1 = (tieAt W one).1 ∨ (tieAt W x).1 = (tieAt W one).2) ∨ ((tieAt W x).2 = (tieAt W one).1 ∨ (tieAt W x).2 = (tieAt W one).2)) := fun x hx => by
                  obtain ⟨h1, h2⟩ := List.mem_filter.mp hx
                  exact ⟨h1, of_decide_eq_true h2⟩
                have fl24 : (l'.filter cond).length ≤ 24 := Nat.le_trans (List.length_filter_le _ _) l'24
                generalize l'.filter cond = sm' at *
                have mu : ∀ {H' : Hp} {l'' : List Nat}, H' L3 = some (.lst (intsV l'')) → l''.length ≤ l'.length → (match H' L3 with | some (.lst xs) => xs.length | _ => 0) < (match H7 L3 with | some (.lst xs) => xs.length | _ => 0) := fun {H' l''} h hle => by
                  rw [h, hL7]
                  show (intsV l'').length < (intsV (l' ++ [one])).length
                  rw [intsV_len, intsV_len, List.length_append, List.length_singleton]
                  omega
                refine ⟨_, rfl, Nat.zero_le _, fun Z nZ => ?_⟩
                have sZ := same_upd (o := .lst []) nZ
                refine ⟨.list (intsD sm'), .list (intsD []), .lst (.inl (.inl (sZ _ _ hD9))) (dpAll_ints _), .lst (.inl (.inl upd_same)) .nil, sh_shaped (sh_lst (sh_ints _)) (by omega), sh_shaped (sh_lst (sh_ints _)) (by omega), ?_⟩
                rw [eqv_lists]
                have F10 := F9.grow sZ
                have hT10 := sZ _ _ hT9
                have hL10 := sZ _ _ hL9
                have hD10 := sZ _ _ hD9
                show ∃ k, V.bl (!decide (sm' = [])) = V.bl k ∧ _
                generalize (upd H9 Z (.lst [])) = H10 at *
                have Dp' : D ≠ p := by
                  intro e
                  obtain ⟨_, _, hp⟩ := F10.pen
                  rw [e, hp] at hD10
                  injection hD10 with hD10
                  injection hD10 with hD10
                  cases sm' with
                  | nil => cases hD10
                  | cons x r => injection hD10 with h1 h2; cases h1
                by_cases hsm : sm' = []
                · rw [decide_eq_true hsm]
                  exact ⟨false, rfl, iteF ⟨⟨_, _, _, l', ps, rfl, F10, hT10, hL10, ndA, ltA, hps⟩, mu hL10 (Nat.le_refl _)⟩⟩
                · rw [decide_eq_false hsm]
                  refine ⟨true, rfl, iteT ?_⟩
                  refine ⟨_, rfl, p, a, xs, 8, rfl, F10.pen, same_seq F10.sm hs, by omega, by omega, fun d H11 hd g11 pen11 => ⟨_, _, rfl, rfl, _, rfl, ite2 (fun e => ?_) (fun e => ?_)⟩⟩
                  · have F11 := F10.drawn L4p g11 pen11
                    have hT11 := lst_drawn L2p g11 hT10
                    have hL11 := lst_drawn L3p g11 hL10
                    have hD11 := lst_drawn Dp' g11 hD10
                    have sl0 : 0 < sm'.length := List.length_pos_iff.mpr hsm
                    refine ⟨_, rfl, _, rfl, _, rfl, D, _, rfl, .inl (.inl (.inl hD11)), p, a, xs, sm'.length, by show [V.ref p, V.int ((intsV sm').length : Nat)] = _; rw [intsV_len], F11.pen, same_seq F11.sm hs, sl0, by omega, fun d2 H12 hd2 g12 pen12 => ?_⟩
                    have F12 := F11.drawn L4p g12 pen12
                    have hT12 := lst_drawn L2p g12 hT11
                    have hL12 := lst_drawn L3p g12 hL11
                    have hD12 := lst_drawn Dp' g12 hD11
                    obtain ⟨oth, hoth⟩ : ∃ o, sm'[d2]? = some o := ⟨_, List.getElem?_eq_getElem hd2⟩
                    obtain ⟨om, oc⟩ := memc oth (List.mem_of_getElem? hoth)
                    have othl := hll' oth om
                    have hno : one ≠ oth := fun e => one' (e ▸ om)
                    obtain ⟨ix1, ix2⟩ := idx_at om
                    refine ⟨D, _, _, _, rfl, rfl, .inl (.inl hD12), atI_nat (intsV_get hoth), ?_⟩
                    refine ⟨_, rfl, .inl ⟨rfl, _, .inl (.inl hL12)⟩, _, rfl, L3, l'.map fun (n : Nat) => (n : Int), (oth : Nat), l'.idxOf oth, rfl, rfl, by rw [← intsV_cast]; exact hL12, by rw [List.getElem?_map, ix1]; rfl, fun m hm hx => ?_, ?_⟩
                    · rw [List.getElem?_map] at hx
                      cases hz : l'[m]? with
                      | none => rw [hz] at hx; cases hx
                      | some z =>
                        rw [hz] at hx
                        have : (z : Int) = (oth : Int) := by simpa using hx
                        exact ix2 m z hm hz (by omega)
                    · rw [erase_ints]
                      have F13 := F12.other (o := .lst (intsV (l'.eraseIdx (l'.idxOf oth)))) L3p ne34 L3G hL12
                      have hT13 : (upd H12 L3 (.lst (intsV (l'.eraseIdx (l'.idxOf oth))))) L2 = some (.lst (intsV Tr)) := by rw [upd_ne ne23]; exact hT12
                      have hL13 : (upd H12 L3 (.lst (intsV (l'.eraseIdx (l'.idxOf oth))))) L3 = some (.lst (intsV (l'.eraseIdx (l'.idxOf oth)))) := upd_same
                      generalize (upd H12 L3 (.lst (intsV (l'.eraseIdx (l'.idxOf oth))))) = H13 at *
                      obtain ⟨zs, hz13, _⟩ := F13.at_
                      refine ⟨_, rfl, .inl ⟨rfl, _, .inl (.inl hz13)⟩, _, rfl, _, rfl, _, _, rfl, _, rfl, _, rfl, _, _, rfl, by show 2 ≤ sizeLine; decide, fun z nz => ?_⟩
                      rw [min_if, max_if]
                      have sz := same_upd (o := .tup [V.int (min one oth : Nat), V.int (max one oth : Nat)]) nz
                      have zp := notp F13.pen nz
                      have F14 := F13.grow sz
                      have hT14 := sz _ _ hT13
                      have hL14 := sz _ _ hL13
                      have hz14 := sz _ _ hz13
                      have hzz : (upd H13 z (.tup [V.int (min one oth : Nat), V.int (max one oth : Nat)])) z = some (.tup [V.int (min one oth : Nat), V.int (max one oth : Nat)]) := upd_same
                      generalize (upd H13 z (.tup [V.int (min one oth : Nat), V.int (max one oth : Nat)])) = H14 at *
                      have zsl : zs.length = ps.length := by
                        obtain ⟨ys', h1, h2⟩ := F14.at_
                        rw [hz14] at h1
                        cases h1
                        have := dpAll_len h2
                        rw [List.length_map] at this
                        exact this
                      refine ⟨L4, zs, _, rfl, rfl, hz14, lsz (by omega), ?_⟩
                      have hip : isPair W (min one oth, max one oth) := pair_of hol othl hno oc
                      have pm : (Tr ++ pnames (ps ++ [(min one oth, max one oth)]) ++ l'.eraseIdx (l'.idxOf oth)).Perm (Tr ++ pnames ps ++ (l' ++ [one])) := by
                        rw [pnames_snoc, ← List.append_assoc, List.append_assoc (Tr ++ pnames ps)]
                        refine List.Perm.append_left _ ?_
                        refine (List.Perm.append_right _ (mm_perm one oth)).trans ?_
                        show (one :: (oth :: l'.eraseIdx (l'.idxOf oth))).Perm (l' ++ [one])
                        refine ((erase_at om).cons one).trans ?_
                        exact (List.perm_append_comm (l₁ := [one]) (l₂ := l'))
                      refine ⟨⟨_, _, _, l'.eraseIdx (l'.idxOf oth), ps ++ [(min one oth, max one oth)], rfl, F14.app L4p L4G (t := (min one oth, max one oth)) hz14 hzz zp ⟨by show min one oth < _; omega, by show max one oth < _; omega⟩, by rw [upd_ne ne24]; exact hT14, by rw [upd_ne ne34]; exact hL14, pm.nodup_iff.mpr nd, fun x hx => lt x (pm.mem_iff.mp hx), fun q' hq' => ?_⟩, mu (l'' := l'.eraseIdx (l'.idxOf oth)) (by rw [upd_ne ne34]; exact hL14) (by rw [List.length_eraseIdx]; split <;> omega)⟩
                      rcases List.mem_append.mp hq' with h | h
                      · exact hps q' h
                      · rw [List.mem_singleton.mp h]; exact hip
                  · have F11 := F10.drawn L4p g11 pen11
                    have hL11 := lst_drawn L3p g11 hL10
                    exact ⟨⟨_, _, _, l', ps, rfl, F11, lst_drawn L2p g11 hT10, hL11, ndA, ltA, hps⟩, mu hL11 (Nat.le_refl _)⟩
            · refine ⟨false, congrArg V.bl (decide_eq_false (by omega)), iteF ?_⟩
              refine ⟨_, rfl, L2, Tr.map fun (n : Nat) => (n : Int), rfl, by rw [← intsV_cast]; exact .inl (.inl hT7), fun ns' z pn sn nz => ?_⟩
              obtain ⟨t, ht⟩ : ∃ t : List Nat, ns' = t.map fun (n : Nat) => (n : Int) := by
                have : ∀ (l : List Int), (∀ x ∈ l, 0 ≤ x) → ∃ t : List Nat, l = t.map fun (n : Nat) => (n : Int) := by
                  intro l
                  induction l with
                  | nil => exact fun _ => ⟨[], rfl⟩
                  | cons x l ih =>
                    intro h
                    obtain ⟨t, ht⟩ := ih fun y hy => h y (List.mem_cons_of_mem _ hy)
                    have := h x List.mem_cons_self
                    exact ⟨x.toNat :: t, by rw [List.map_cons, ← ht, show ((x.toNat : Nat) : Int) = x by omega]⟩
                refine this ns' fun x hx => ?_
                obtain ⟨m, _, rfl⟩ := List.mem_map.mp (pn.mem_iff.mp hx)
                omega
              subst ht
              have pt : t.Perm Tr := by
                have := pn.map Int.toNat
                rw [List.map_map, List.map_map] at this
                have e : ∀ l : List Nat, l.map (Int.toNat ∘ fun (n : Nat) => (n : Int)) = l := fun l => by
                  conv => rhs; rw [← List.map_id l]
                  rfl
                rw [e, e] at this
                exact this
              have st' : t.Pairwise (· ≤ ·) := by
                rw [List.pairwise_map] at sn
                exact sn.imp fun h => by omega
              have htree := kr.tree hin h0 hone llt lall pt st'
              have sz := same_upd (o := .lst ((t.map fun (n : Nat) => (n : Int)).map V.int)) nz
              have hz : (upd H7 z (.lst ((t.map fun (n : Nat) => (n : Int)).map V.int))) z = some (.lst (intsV t)) := by rw [upd_same, ← intsV_cast]
              have F8 := F7.grow sz
              generalize (upd H7 z (.lst ((t.map fun (n : Nat) => (n : Int)).map V.int))) = H8 at *
              refine .inl ⟨z, _, rfl, .inl (.inl hz), fun z2 nz2 => ?_⟩
              have s2 := same_upd (o := .tup (intsV t)) nz2
              have z2p := notp F8.pen nz2
              have F9 := F8.grow s2
              have hz2 : (upd H8 z2 (.tup (intsV t))) z2 = some (.tup (intsV t)) := upd_same
              generalize (upd H8 z2 (.tup (intsV t))) = H9 at *
              obtain ⟨zs, hz4, dz4⟩ := F9.at_
              have zl := dpAll_len dz4
              refine ⟨_, rfl, .inl ⟨L4, zs, rfl, .inl (.inl hz4), fun z3' nz3 => ⟨by show 2 ≤ sizeLine; decide, fun z4 nz4 => ?_⟩⟩⟩
              have s3 := same_upd (o := .tup zs) nz3
              have z3p := notp F9.pen nz3
              have F10 := F9.grow s3
              have s4 := same_upd (o := .tup [V.ref z2, V.ref z3']) nz4
              have z4p := notp F10.pen nz4
              have F11 := F10.grow s4
              have h4 : (hide p (upd (upd H9 z3' (.tup zs)) z4 (.tup [V.ref z2, V.ref z3']))) z4 = some (.tup [V.ref z2, V.ref z3']) := by rw [hide_ne z4p, upd_same]
              have h3 : (hide p (upd (upd H9 z3' (.tup zs)) z4 (.tup [V.ref z2, V.ref z3']))) z3' = some (.tup zs) := by rw [hide_ne z3p]; exact s4 _ _ upd_same
              have h2 : (hide p (upd (upd H9 z3' (.tup zs)) z4 (.tup [V.ref z2, V.ref z3']))) z2 = some (.tup (intsV t)) := by rw [hide_ne z2p]; exact s4 _ _ (s3 _ _ hz2)
              have dd := dpAll_mono (hide_le.trans (hide_same (D := p) (s3.trans s4))) dz4
              have hpo : pairsOK W t ps := by
                refine (pairs_iff (htree.1.imp fun h => by omega)).mpr ⟨hps, ?_⟩
                exact (List.Perm.append_right _ pt).nodup_iff.mpr (List.nodup_append.mp nd).1
              exact q _ (.ref z4) t ps F11.sm (pen_of F11.pen (same_seq F11.sm hs)) (.tup (.inl (.inl h4)) (.cons (.tup (.inl (.inl h2)) (dpAll_ints t)) (.cons (.tup (.inl (.inl h3)) dd) .nil))) ⟨hone, htree, hpo⟩ (by rw [pt.length_eq]; exact Tl) (by omega)
          · rintro σ H' Q1 Q2 hq ⟨v1, e1, a1, ys1, e2, e3, i1, j1, e4, e5, b, e6, q1⟩
            exact ⟨v1, e1, a1, ys1, e2, e3, i1, j1, e4, e5, b, e6, hq _ _ q1⟩
end
end HF
end

section
set_option Elab.async false
set_option linter.all false
set_option autoImplicit false
set_option maxRecDepth 100000
set_option maxHeartbeats 4000000
namespace HF.HZ
open PySem PySem.Spec PyProof.Rows L2 L2H HotX
section
variable {prog : Program} {w : World} {A : Around} {E : Value → Shared → Prop} {s : Shared}
/-- what the heap keeps behind an end: the iterator and the error that ends it aside -/
theorem end_kept {h : Heap} {ci n2 : Addr} {f g : Obj → Obj} {o1 o2 : Obj} (hn : n2 = ((h.update ci f).push o1).objs.size) : Heap.ExtBut ci h ((((h.update ci f).push o1).push o2).update n2 g) := fun b o hb e => by
  have e1 : (h.update ci f).get? b = some o := by rw [Heap.get?_update_other _ _ (Ne.symm hb)]; exact e
  have e2 := Heap.get?_push_of_some o1 e1
  rw [Heap.get?_update_other _ _ (by rw [hn]; exact Nat.ne_of_gt (Heap.lt_size e2))]
  exact Heap.get?_push_of_some o2 e2
theorem hot_other {ci x1 : Addr} {vsI : Array Value} {oi : Obj} (hot : HotAt A x1 s.heap) (ho : s.heap.get? ci = some oi) (hd : oi.data = .fields vsI) (h2 : vsI.size ≤ 2) : x1 ≠ ci := fun e => by
  obtain ⟨_, o1, v1, g1, d1, c1⟩ := hot
  rw [e, ho] at g1
  cases g1
  rw [hd] at d1
  cases d1
  rw [Array.getElem?_eq_none (by omega)] at c1
  cases c1
theorem list_end_hot {ci l x1 : Addr} {i : Nat} {items : Array Value} {Q : Option Value → Shared → Prop} (hot : HotAt A x1 s.heap) (hit : s.heap.IsListIter ci l i) (hl : s.heap.IsList l items) (hx : items[i]? = none)
    (hQ : ∀ h', Heap.ExtBut ci s.heap h' → Q none { s with heap := h' }) : wpAny (model prog w) A (pyNext (.ref ci)) Q E s := by
  obtain ⟨oi, hoi, hci, hdi⟩ := id hit
  obtain ⟨oL, hoL, _, nL, hdL⟩ := hl
  have ne := hot_other hot hoi hdi (by simp)
  obtain ⟨hh, o1, v1, g1, d1, c1⟩ := hot
  unfold pyNext
  refine wpAny_bind (wpAny_attempt (wpAny_callSpecial?_slot (name := Str.ofString "__next__") hit.typeIs slot_listiter_next (wpAny_call_entry slot_listiter_next hit.typeIs entry_listiter_next ?_ (args_listiter_next _))))
  show wpAny _ _ (field (.ref ci) 0 >>= _) _ _ s
  refine wpAny_bind (wpAny_field hoi hdi (x := .ref l) rfl ?_)
  show wpAny _ _ (if (Value.ref l == Value.none) = true then _ else _) _ _ s
  rw [if_neg (show ¬ ((Value.ref l == Value.none) = true) from fun z => Bool.false_ne_true z)]
  show wpAny _ _ (field (.ref ci) 1 >>= _) _ _ s
  refine wpAny_bind (wpAny_field hoi hdi (x := .int i 0) rfl ?_)
  show wpAny _ _ (seqItems? (.ref l) >>= _) _ _ s
  refine wpAny_bind (wpAny_seqItems hoL hdL ?_)
  simp only [Int.toNat_natCast, hx]
  refine wpAny_bind (wpAny_rule (wpAny_bind (wpAny_setField hoi hdi (by simp) ?_)))
  show wpAny _ _ (newExc (.type "StopIteration") [] >>= _) _ _ _
  refine wpAny_bind ?_
  simp only [newExc, newTuple]
  refine wpAny_bind (wpAny_newObj_type ?_ (by size_fits)); refine wpAny_bind (m := firstArgMember _ _) (wpAny_of_eq (a := Value.none) (by first | rfl | (simp only [firstArgMember]; rfl)) ?_)
  refine wpAny_newObj_type ?_ (by size_fits)
  have g2 : (s.heap.update ci (Obj.mapFields (·.setIfInBounds 0 .none))).get? x1 = some o1 := by rw [Heap.get?_update_other _ _ (Ne.symm ne)]; exact g1
  refine raiseNew_hot ⟨hh, o1, v1, Heap.get?_push_of_some _ (Heap.get?_push_of_some _ g2), d1, c1⟩ (Nat.ne_of_lt (Heap.lt_size (Heap.get?_push_of_some _ g2))) (Heap.get?_push_size _ rfl) rfl (by first | (simp; done) | (simp; omega)) ?_
  refine wpAny_bind (wpAny_isInstance (T := "StopIteration") (b := true) ⟨_, Heap.get?_update_self _ (Heap.get?_push_size _ rfl) rfl, rfl⟩ isSubtype_stop (wpAny_pure (hQ _ (end_kept rfl))))
theorem tuple_end_hot {ci l x1 : Addr} {i : Nat} {items : Array Value} {Q : Option Value → Shared → Prop} (hot : HotAt A x1 s.heap) (hit : IsTupIter s.heap ci l i) (hl : IsTup s.heap l items) (hx : items[i]? = none)
    (hQ : ∀ h', Heap.ExtBut ci s.heap h' → Q none { s with heap := h' }) : wpAny (model prog w) A (pyNext (.ref ci)) Q E s := by
  obtain ⟨oi, hoi, hci, hdi⟩ := id hit
  obtain ⟨oL, hoL, _, nL, hdL⟩ := hl
  have ne := hot_other hot hoi hdi (by simp)
  obtain ⟨hh, o1, v1, g1, d1, c1⟩ := hot
  unfold pyNext
  refine wpAny_bind (wpAny_attempt (wpAny_callSpecial?_slot (name := Str.ofString "__next__") hit.typeIs slot_tupleiter_next (wpAny_call_entry slot_tupleiter_next hit.typeIs entry_tupleiter_next ?_ (args_tupleiter_next _))))
  show wpAny _ _ (field (.ref ci) 0 >>= _) _ _ s
  refine wpAny_bind (wpAny_field hoi hdi (x := .ref l) rfl ?_)
  show wpAny _ _ (if (Value.ref l == Value.none) = true then _ else _) _ _ s
  rw [if_neg (show ¬ ((Value.ref l == Value.none) = true) from fun z => Bool.false_ne_true z)]
  show wpAny _ _ (field (.ref ci) 1 >>= _) _ _ s
  refine wpAny_bind (wpAny_field hoi hdi (x := .int i 0) rfl ?_)
  show wpAny _ _ (seqItems? (.ref l) >>= _) _ _ s
  refine wpAny_bind (wpAny_seqItems hoL hdL ?_)
  simp only [Int.toNat_natCast, hx]
  refine wpAny_bind (wpAny_rule (wpAny_bind (wpAny_setField hoi hdi (by simp) ?_)))
  show wpAny _ _ (newExc (.type "StopIteration") [] >>= _) _ _ _
  refine wpAny_bind ?_
  simp only [newExc, newTuple]
  refine wpAny_bind (wpAny_newObj_type ?_ (by size_fits)); refine wpAny_bind (m := firstArgMember _ _) (wpAny_of_eq (a := Value.none) (by first | rfl | (simp only [firstArgMember]; rfl)) ?_)
  refine wpAny_newObj_type ?_ (by size_fits)
  have g2 : (s.heap.update ci (Obj.mapFields (·.setIfInBounds 0 .none))).get? x1 = some o1 := by rw [Heap.get?_update_other _ _ (Ne.symm ne)]; exact g1
  refine raiseNew_hot ⟨hh, o1, v1, Heap.get?_push_of_some _ (Heap.get?_push_of_some _ g2), d1, c1⟩ (Nat.ne_of_lt (Heap.lt_size (Heap.get?_push_of_some _ g2))) (Heap.get?_push_size _ rfl) rfl (by first | (simp; done) | (simp; omega)) ?_
  refine wpAny_bind (wpAny_isInstance (T := "StopIteration") (b := true) ⟨_, Heap.get?_update_self _ (Heap.get?_push_size _ rfl) rfl, rfl⟩ isSubtype_stop (wpAny_pure (hQ _ (end_kept rfl))))
/-- (a, b, ..) = a tuple, where an error is handled -/
theorem unpack_hot {t x1 : Addr} {items : Array Value} {targets : List (Bool × (Value → Sem Unit))} {Q : Unit → Shared → Prop} (hot : HotAt A x1 s.heap) (ht : IsTup s.heap t items) (hn : targets.length = items.size) (hstar : targets.findIdx? (·.1) = none)
    (hQ : ∀ h', Heap.ExtBut s.heap.objs.size s.heap h' → wpAny (model prog w) A (assignInOrder (targets.map (·.2)) items.toList) Q E { s with heap := h' }) : wpAny (model prog w) A (unpack (.ref t) targets) Q E s := by
  have tne : t ≠ s.heap.objs.size := by
    obtain ⟨o, ho, _⟩ := ht
    exact Nat.ne_of_lt (Heap.lt_size ho)
  unfold unpack; rw [hn, hstar]
  refine wpAny_bind (wpAny_holding ?_); unfold unpackItems
  refine wpAny_bind ?_; unfold notIterableAtAll
  refine wpAny_bind (wpAny_specialOf ht.typeIs slot_tuple_iter.lookup (wpAny_pure ?_))
  simp only [Bool.false_eq_true, if_false]
  refine wpAny_bind (wpAny_holding (iter_tuple ht ?_)); refine wpAny_bind (wpAny_holding (draw_tuple tne items.size 0 _ _ ⟨_, Heap.get?_push_size _ rfl, rfl, rfl⟩ (ht.push _) (by omega) fun hA iA sA => ?_))
  rw [show List.take items.size (List.drop 0 items.toList) = items.toList by rw [List.drop_zero]; exact List.take_of_length_le (by simp), if_neg (by simp)]
  have tA : IsTup hA t items := (ht.push _).extBut sA.extBut tne
  have hotA : HotAt A x1 hA := by
    obtain ⟨hh, o1, v1, g1, d1, c1⟩ := hot
    exact ⟨hh, o1, v1, sA.extBut _ _ (Nat.ne_of_lt (Heap.lt_size g1)) (Heap.get?_push_of_some _ g1), d1, c1⟩
  refine wpAny_bind (wpAny_holding (tuple_end_hot hotA iA tA (by simp) fun hB eB => ?_)); simp only [Option.isSome_none, Bool.false_eq_true, if_false]
  exact wpAny_pure (hQ hB fun b o hb e => eB b o hb (sA.extBut b o hb (Heap.get?_push_of_some _ e)))
end
theorem pg_tupH {X : Cx} {es : List Expr} {k : Nat} {t : TGs} {n : Nat} {pos : Pos} (hc : HotC X) (h : PGs X es t) (hn : (assignEach es X.env).length = n := by rfl) (hst : (assignEach es X.env).findIdx? (·.1) = none := by rfl) : PG X (.Tuple es k pos) (gTup X.K n t) := by
  refine ⟨fun pins s σ H v u Q I r hw => ?_⟩
  obtain ⟨a, xs, rfl, hq, hl, hw⟩ := hw
  cases r
  obtain ⟨its, rv, ht, hz⟩ := I.tuple hq
  obtain ⟨x1, hot⟩ := hc.at I
  rw [assign_Tuple]
  refine wpAny_bind (wpAny_standAt (unpack_hot hot ht (by simp [hn, ← hl, rv.length]) hst fun h' hx => ?_))
  exact h.run pins _ σ H xs _ Q (I.kept (t' := s.toks) fun b o e => hx b o (Nat.ne_of_lt (Heap.lt_size e)) e) (by simpa using rv) hw
end HF.HZ
end

section
set_option Elab.async false
set_option linter.all false
set_option autoImplicit false
set_option maxRecDepth 100000
set_option maxHeartbeats 4000000
namespace HF.HZ
open PySem PySem.Spec PyProof.Rows L2 L2H HotX
/-- the context of a comprehension's block where the error p is handled -/
abbrev bkH (X : Cx) (s : Shared) (H : Hp) (scope : Scope) (ce : Env) (fp : List Addr) (p : Addr × Obj) : Cx := (X.blk s H scope ce fp).tr [p] fun _ _ => False
section
variable {X : Cx} {pins : List (Addr × Obj)} {σ : L2.St} {H : Hp} {s : Shared} {p : Addr × Obj}
theorem bkH_hot {scope : Scope} {ce : Env} {fp : List Addr} (h : Hot1 X.A p) : HotC (bkH X s H scope ce fp p) := ⟨p, h, List.mem_cons_self⟩
theorem bkH_inv {scope : Scope} {ce : Env} {fp : List Addr} {σ' : L2.St} {s' : Shared} (I : Inv X pins σ H s) (hp : p ∈ X.pn) (J : Inv (X.blk s H scope ce fp) [] σ' H s') (k : ∀ b o, s.heap.get? b = some o → s'.heap.get? b = some o) (hL : ce.locals = s.heap.objs.size) : Inv (bkH X s H scope ce fp p) [] σ' H s' := by
  obtain ⟨p1, p2, p3, p4, p5⟩ := I.pin p (List.mem_append_left _ hp)
  refine ⟨J.ok.toTry _ _, J.os, J.bare, J.base, J.loc, J.cell, J.free, J.freeC, fun q hq => ?_, J.hok, J.len⟩
  have e : q = p := by simpa using (show q ∈ [p] ++ ([] : List (Addr × Obj)) from hq)
  rw [e]
  exact ⟨k _ _ p1, p2, fun z => Nat.ne_of_lt (Heap.lt_size p1) (z.trans hL), fun hm => (List.mem_cons.mp (I.stkSub p.1 hm)).elim p3 p4, p5⟩
/-- what such a comprehension asks -/
def sLcH (K : PySem.W.Frag) (tl : TE) (g : TG) (tt : TT) (te : TE) (vs : List Nat) (i : Nat) : TS := fun D σ H => tl σ H fun x H1 => ∃ (a : Addr) (xs : List V) (fs : Nat → Option V), x = .ref a ∧ SqL K H1 a xs ∧ xs.length ≤ 999 ∧
  (∀ j y H2, xs[j]? = some y → Same H1 H2 → LStep g tt te vs σ y (fs j) H2) ∧ ∀ L H2, H1 L = none → Same H1 H2 → H2 L = some (.lst ((List.range xs.length).filterMap fs)) → D.nx (σ.set i (some (.ref L))) H2
theorem ps_setLcH {i : Nat} {y : Str} {py : Pos} {elt tg iter : Expr} {ifs : List Expr} {scope : Scope} {own : List (Str × Nat)} {pos spos : Pos} {tl : TE} {g : TG} {tt : TT} {te : TE} (hot : Hot1 X.A p) (hp : p ∈ X.pn) (hN : X.N.Nodup) (hy : X.N[i]? = some y) (hyl : X.env.scope.names.lookup y = some .local)
    (hsw : swapsWith (.ListComp elt [⟨tg, iter, ifs, 0⟩] scope pos) (some (.Name y py)) spos.line X.env = pure true) (hi : PE X iter tl) (ok : BlkOk X.N X.env.scope scope own)
    (hg : ∀ (s : Shared) (H : Hp) (C : Addr) (cl : List (Str × Addr)) (fp : List Addr), PG (bkH X s H scope (compEnvC scope cl C X.env) fp p) tg g) (ht : ∀ (s : Shared) (H : Hp) (C : Addr) (cl : List (Str × Addr)) (fp : List Addr), PTs (bkH X s H scope (compEnvC scope cl C X.env) fp p) ifs tt)
    (he : ∀ (s : Shared) (H : Hp) (C : Addr) (cl : List (Str × Addr)) (fp : List Addr), PE (bkH X s H scope (compEnvC scope cl C X.env) fp p) elt te) (hs : ∀ x, foldedSetIterable iter X.env x = pure x := by intro _; rfl) :
    PS X (.Assign [.Name y py] (.ListComp elt [⟨tg, iter, ifs, 0⟩] scope pos) spos) (sLcH X.K tl g tt te (own.map (·.2)) i) := by
  refine ⟨fun pins s σ H D I h => ?_⟩
  have free : ∀ z ∈ scope.names, z.2 = .free → ∃ c, X.env.cells.lookup z.1 = some c := fun z hz e => (ok.free z hz e).elim (fun k => I.ok.has _ (.inl k)) fun k => I.ok.has _ (.inr k)
  rw [exec_Assign_Name_used _ _ _ _ hsw]
  refine wpAny_bind (wpAny_standAt (wpAny_bind ?_))
  show wpAny _ X.A (do let _ ← comprehension (.ListComp elt [⟨tg, iter, ifs, 0⟩] scope pos) scope X.env (firstIterPos [⟨tg, iter, ifs, 0⟩] pos) (newList []) false (eval iter X.env) (some (assign (.Name y py) X.env))) _ _ s
  refine wpAny_bind (thn (Q := fun (_ : Value) s' => SP X pins D .next s') ?_ fun _ s' hq => wpAny_pure (wpAny_pure hq))
  refine wpAny_comprehension_free (use := some (assign (.Name y py) X.env)) rfl hs (closure_ok free) ok.kind (fun z hz e => by rw [ok.uniq z hz, e]) (thn (hi.run pins s σ H _ I h) fun v s1 ⟨x, H1, I1, r1, a, xs, fs, ex, hq, hz, step, fin⟩ => ?_)
  subst ex
  cases r1
  obtain ⟨its, rv, pl, hz2⟩ := I1.list hq
  have il := rv.length
  -- the iterator
  refine wpAny_pyIter_list pl.isList ?_
  generalize hit : s1.heap.objs.size = it
  have I2 : Inv X pins σ H1 { s1 with heap := s1.heap.push { cls := .type "list_iterator", data := .fields #[.ref a, .int 0 0] } } := I1.kept (t' := s1.toks) fun b o e => Heap.get?_push_of_some _ e
  have f2 : FpOk X pins H1 it := I1.fpOk (Nat.le_of_eq hit) (I1.hok.fresh (Nat.le_of_eq hit))
  have st2 : (s1.heap.push { cls := .type "list_iterator", data := .fields #[.ref a, .int 0 0] }).IsListIter it a 0 := ⟨_, by rw [← hit]; exact Heap.get?_push_size _ rfl, rfl, rfl⟩
  have lt2 : it < (s1.heap.push { cls := .type "list_iterator", data := .fields #[.ref a, .int 0 0] }).objs.size := by rw [Heap.size_push, hit]; exact Nat.lt_succ_self _
  generalize (s1.heap.push { cls := .type "list_iterator", data := .fields #[.ref a, .int 0 0] }) = h2 at I2 st2 lt2 ⊢
  -- the new list
  refine wpAny_newObj_type (newEnv_comp ?_) (by show 0 ≤ sizeLine; decide)
  generalize hL : h2.objs.size = L
  have nL : H1 L = none := I2.hok.fresh (Nat.le_of_eq hL)
  have itL : it ≠ L := by rw [← hL]; exact Nat.ne_of_lt lt2
  generalize hu3 : ({ s1 with heap := h2.push { cls := .type "list", data := .seq ([] : List Value).toArray } } : Shared) = u3
  have k23 : ∀ b o, h2.get? b = some o → u3.heap.get? b = some o := fun b o e => by rw [← hu3]; exact Heap.get?_push_of_some _ e
  have J3 : Inv X pins σ (upd H1 L (.lst [])) u3 := by
    rw [← hu3]; refine I2.laid (t' := s1.toks) (fun b o e => Heap.get?_push_of_some _ e) (Nat.le_of_eq hL) ⟨Nat.zero_le _, [], 0, .nil, ?_⟩
    rw [← hL]; exact Heap.get?_push_size _ rfl
  have sz3 : u3.heap.objs.size = h2.objs.size + 1 := by rw [← hu3]; exact Heap.size_push _ _
  have st3 : u3.heap.IsListIter it a 0 := st2.at fun o e => k23 it o e
  have f3 : FpOk X pins (upd H1 L (.lst [])) it := ⟨by rw [upd_ne itL]; exact f2.1, f2.2⟩
  have J4 := block_start (fp := [it]) J3 ok hN fun b hb => by
    rw [List.mem_singleton.mp hb]
    exact ⟨f3, by rw [sz3]; exact Nat.lt_succ_of_lt lt2⟩
  have k34 : ∀ b o, u3.heap.get? b = some o → (pushCells (u3.heap.push { cls := .type "dict", data := .dict #[] }) scope.names).get? b = some o := fun b o e => pushCells_keeps _ _ _ _ (Heap.get?_push_of_some _ e)
  have J5 := bkH_inv (s' := { u3 with heap := pushCells (u3.heap.push { cls := .type "dict", data := .dict #[] }) scope.names }) J3 hp J4 k34 rfl
  show codeAny _ _ (.compStart (.ListComp elt [⟨tg, iter, ifs, 0⟩] scope pos) 0 (.ref it) (.ref L) (compEnvC scope (cellsFrom (u3.heap.objs.size + 1) scope.names (cloFrom X.env.cells scope.names [])) u3.heap.objs.size X.env)) (compPost (model X.prog X.w) X.A X.xe (some (assign (.Name y py) X.env)) (fun _ s' => SP X pins D .next s') (.ref L) u3.heap.objs.size) { u3 with heap := pushCells (u3.heap.push { cls := .type "dict", data := .dict #[] }) scope.names }
  have st4 : ({ u3 with heap := pushCells (u3.heap.push { cls := .type "dict", data := .dict #[] }) scope.names } : Shared).heap.IsListIter it a 0 := st3.at fun o e => k34 it o e
  have pg := hg u3 (upd H1 L (.lst [])) u3.heap.objs.size (cellsFrom (u3.heap.objs.size + 1) scope.names (cloFrom X.env.cells scope.names [])) [it]
  have pt := ht u3 (upd H1 L (.lst [])) u3.heap.objs.size (cellsFrom (u3.heap.objs.size + 1) scope.names (cloFrom X.env.cells scope.names [])) [it]
  have pe := he u3 (upd H1 L (.lst [])) u3.heap.objs.size (cellsFrom (u3.heap.objs.size + 1) scope.names (cloFrom X.env.cells scope.names [])) [it]
  generalize hce : compEnvC scope (cellsFrom (u3.heap.objs.size + 1) scope.names (cloFrom X.env.cells scope.names [])) u3.heap.objs.size X.env = ce at J5 pg pt pe ⊢
  have cL : ce.locals = u3.heap.objs.size := by subst hce; rfl
  generalize ({ u3 with heap := pushCells (u3.heap.push { cls := .type "dict", data := .dict #[] }) scope.names } : Shared) = u4 at J5 st4 ⊢
  have hL0 : (upd H1 L (.lst [])) L = some (.lst ((List.range 0).filterMap fs)) := upd_same
  have sm0 : Same H1 (upd H1 L (.lst [])) := same_upd nL
  have n0 := f3.1
  generalize hH3 : upd H1 L (.lst []) = H3 at *
  have itm : it ∈ [it] := List.mem_singleton.mpr rfl
  have loop : codeAny (model X.prog X.w) X.A (.compLoop (.ListComp elt [⟨tg, iter, ifs, 0⟩] scope pos) 0 (.ref it) (.ref L) ce) (compPost (model X.prog X.w) X.A X.xe (some (assign (.Name y py) X.env)) (fun _ s' => SP X pins D .next s') (.ref L) u3.heap.objs.size) u4 := by
    refine compLoop_any (fun n s' => ∃ j H', n = xs.length - j ∧ j ≤ xs.length ∧ Inv (bkH X u3 H3 scope ce [it] p) [] (wipe σ (own.map (·.2))) H' s' ∧ s'.heap.IsListIter it a j ∧ H' it = none ∧ Same H1 H' ∧ H' L = some (.lst ((List.range j).filterMap fs))) ?_ xs.length ⟨0, H3, rfl, Nat.zero_le _, J5, st4, n0, sm0, hL0⟩
    rintro n s5 ⟨j, H5, rfl, hj, I5, st5, n5, sm, hL5⟩
    have fpk : ∀ {σ' : L2.St} {H' : Hp} {s' : Shared}, Inv (bkH X u3 H3 scope ce [it] p) [] σ' H' s' → H' it = none → FpOk (bkH X u3 H3 scope ce [it] p) [] H' it := fun {σ' H' s'} J n => ⟨n, (J.ok.exf it itm).1, J.ok.exfs it itm, .inl itm, fun x c e => (J.ok.exf it itm).2 x c e, fun q hq => by
      have e : q = p := by simpa using (show q ∈ [p] ++ ([] : List (Addr × Obj)) from hq)
      rw [e]
      exact f2.2.2.2.2.2 p (List.mem_append_left _ hp)⟩
    obtain ⟨f0, f1, f2', f3', f4, f5⟩ := fpk I5 n5
    obtain ⟨its5, rv5, pl5, hz5⟩ := I5.list (same_seq sm hq)
    have l5 := rv5.length
    by_cases hlt : j < xs.length
    · obtain ⟨x, hx⟩ : ∃ x, xs[j]? = some x := ⟨_, List.getElem?_eq_getElem hlt⟩
      obtain ⟨u, hu, ru⟩ := rv5.get hx
      refine wpAny_pyNext_list_item st5 pl5.isList (x := u) (by simpa using hu) fun h6 st6 sb6 => ?_
      have I6 : Inv (bkH X u3 H3 scope ce [it] p) [] (wipe σ (own.map (·.2))) H5 { s5 with heap := h6 } := I5.turned (t' := s5.toks) (fun b o hb e => (sb6.2 b hb).trans e) f0 f1 f3' f4 f5
      obtain ⟨oi, e6, c6, d6⟩ := id st6
      refine go_of (s := { s5 with heap := h6 }) e6 c6 d6 (by decide) ?_
      have I6' := I6.pinned (fp := [it]) (fun b hb => by rw [List.mem_singleton.mp hb]; exact fpk I6 n5) (fun b hb => by rw [List.mem_singleton.mp hb]; exact ⟨oi, e6, fun v z => by rw [d6] at z; cases z⟩)
      have stp := step j x H5 hx sm (fun yv H4 => Same H1 H4 ∧ H4 L = some (.lst ((List.range j).filterMap fs)) ∧ fs j = some yv) (fun H4 => Same H1 H4 ∧ H4 L = some (.lst ((List.range j).filterMap fs)) ∧ fs j = none)
        (fun yv H4 s4 e => ⟨sm.trans s4, s4 _ _ hL5, e⟩) (fun H4 s4 e => ⟨sm.trans s4, s4 _ _ hL5, e⟩)
      refine thnF (pg.run _ { s5 with heap := h6 } _ H5 x u _ I6' ru stp) fun _ s8 ⟨σ8, H8, I8, hw8, q8⟩ => ?_
      refine thnF (pt.run _ s8 σ8 H8 _ I8 q8) fun b s9 ⟨H9, I9, q9⟩ => ?_
      have fin9 : ∀ {s' : Shared} {H' : Hp}, Inv (bkH X u3 H3 scope ce [it] p) ([] ++ pinsAt [it] h6) σ8 H' s' → Same H1 H' → H' L = some (.lst ((List.range (j + 1)).filterMap fs)) →
          ∃ m, m < xs.length - j ∧ ∃ j' H', m = xs.length - j' ∧ j' ≤ xs.length ∧ Inv (bkH X u3 H3 scope ce [it] p) [] (wipe σ (own.map (·.2))) H' s' ∧ s'.heap.IsListIter it a j' ∧ H' it = none ∧ Same H1 H' ∧ H' L = some (.lst ((List.range j').filterMap fs)) := fun {s' H'} I' sm' hL' => by
        have z := I'.pin (it, oi) (List.mem_append_right _ (List.mem_append_right _ (mem_pinsAt itm e6)))
        have hl : (wipe σ (own.map (·.2))).length = σ8.length := by rw [← hw8, wipe_length]
        refine ⟨xs.length - (j + 1), by omega, j + 1, H', rfl, hlt, (I'.unpinned (pins := [])).weak hl (fun k v e => ?_), ⟨oi, z.1, c6, d6⟩, z.2.1, sm', hL'⟩
        rw [← hw8] at e; exact (wipe_some e).1
      cases b with
      | false =>
        simp only [Bool.false_eq_true, if_false] at q9 ⊢
        obtain ⟨s9', h9, e9⟩ := q9
        exact fin9 I9 s9' (by rw [fm_succ, e9, List.append_nil]; exact h9)
      | true =>
        simp only [if_true] at q9 ⊢
        refine thnF (pe.run _ s9 σ8 H9 _ I9 q9) fun z s10 ⟨yv, H10, I10, r10, s10', h10, e10⟩ => ?_
        refine app_ok (X := bkH X u3 H3 scope ce [it] p) I10 h10 (Nat.lt_of_le_of_lt (fm_len j) (lsz (by omega))) r10 fun s11 I11 => fin9 I11 (same_mut s10' nL) ?_
        rw [upd_same, fm_succ, e10]
    · have ej : j = xs.length := by omega
      obtain ⟨x1, hot1⟩ := (bkH_hot (s := u3) (H := H3) (scope := scope) (ce := ce) (fp := [it]) hot).at I5
      refine list_end_hot hot1 st5 pl5.isList (by simp; omega) fun h6 eb => ?_
      have I6 : Inv (bkH X u3 H3 scope ce [it] p) [] (wipe σ (own.map (·.2))) H5 { s5 with heap := h6 } := I5.turned (t' := s5.toks) (fun b o hb e => eb b o hb e) f0 f1 f3' f4 f5
      have I7 : Inv X pins σ H5 { s5 with heap := h6 } := J3.call' (ch := [it]) I6.os I6.base I6.hok I6.bare fun b hb => by
        rw [List.mem_singleton.mp hb]
        exact ⟨f2.2.2.2.1, f2.2.1, f2.2.2.2.2.1, f2.2.2.2.2.2⟩
      have nC : H5 u3.heap.objs.size = none := by
        have z : H5 ce.locals = none := I6.free
        rw [cL] at z
        exact z
      obtain ⟨m, hn, _⟩ := I6.loc
      have hn : h6.Ns ce.locals m := hn
      rw [cL] at hn
      obtain ⟨w0, w1, w2, w3, w4, w5⟩ := J3.fpOk (H' := H5) (Nat.le_refl _) nC
      show wpAny _ _ (assign (.Name y py) X.env (.ref L)) _ _ _
      refine wpAny_assign_Name (store_ok2 (v := V.ref L) I7 hN hy (.inl hyl) rfl (fun s8 I8 ⟨b, sb, hb⟩ => ?_) (.inr hyl))
      refine ⟨m, hn.sameBut sb (hb.elim (fun z => by rw [z]; exact w1) fun z e => w4 y b z e.symm), fun h9 sb9 => ?_⟩
      exact ⟨_, H5, I8.turned (t' := s8.toks) (fun b o hb e => (sb9.2 b hb).trans e) w0 w1 w3 w4 w5, fin L H5 nL sm (by rw [← ej]; exact hL5)⟩
  exact codeAny_compStart_list loop (wpAny_pyIter_listiter st4 loop)
end
end HF.HZ
end

section
set_option Elab.async false
set_option linter.all false
set_option autoImplicit false
set_option maxRecDepth 100000
set_option maxHeartbeats 8000000
namespace HF
open PySem PySem.Spec PyProof.Rows L2 L2H HotX HZ
/-- what isinstance is told of the error -/
structure Ey (K : PySem.W.Frag) (mg : Str → Option Value) (C : Addr) : Type where
  ec : ExcC K C
  kv : PySem.W.kitOne K (.ref C) (.type "ValueError") = some true
  a_Apart : Addr
  g_Apart : mg "Apart" = some (.ref a_Apart)
  k_Apart : PySem.W.kitOne K (.ref C) (.ref a_Apart) = some false
  a_NoEnd : Addr
  g_NoEnd : mg "NoEnd" = some (.ref a_NoEnd)
  k_NoEnd : PySem.W.kitOne K (.ref C) (.ref a_NoEnd) = some false
  a_NoName : Addr
  g_NoName : mg "NoName" = some (.ref a_NoName)
  k_NoName : PySem.W.kitOne K (.ref C) (.ref a_NoName) = some false
  a_NoNumber : Addr
  g_NoNumber : mg "NoNumber" = some (.ref a_NoNumber)
  k_NoNumber : PySem.W.kitOne K (.ref C) (.ref a_NoNumber) = some false
  a_NoOrder : Addr
  g_NoOrder : mg "NoOrder" = some (.ref a_NoOrder)
  k_NoOrder : PySem.W.kitOne K (.ref C) (.ref a_NoOrder) = some false
  a_NoPaper : Addr
  g_NoPaper : mg "NoPaper" = some (.ref a_NoPaper)
  k_NoPaper : PySem.W.kitOne K (.ref C) (.ref a_NoPaper) = some true
  a_NoPlace : Addr
  g_NoPlace : mg "NoPlace" = some (.ref a_NoPlace)
  k_NoPlace : PySem.W.kitOne K (.ref C) (.ref a_NoPlace) = some false
  a_NoRing : Addr
  g_NoRing : mg "NoRing" = some (.ref a_NoRing)
  k_NoRing : PySem.W.kitOne K (.ref C) (.ref a_NoRing) = some false
  a_NoRow : Addr
  g_NoRow : mg "NoRow" = some (.ref a_NoRow)
  k_NoRow : PySem.W.kitOne K (.ref C) (.ref a_NoRow) = some false
  a_NoTable : Addr
  g_NoTable : mg "NoTable" = some (.ref a_NoTable)
  k_NoTable : PySem.W.kitOne K (.ref C) (.ref a_NoTable) = some false
  a_NoText : Addr
  g_NoText : mg "NoText" = some (.ref a_NoText)
  k_NoText : PySem.W.kitOne K (.ref C) (.ref a_NoText) = some false
  a_NoTie : Addr
  g_NoTie : mg "NoTie" = some (.ref a_NoTie)
  k_NoTie : PySem.W.kitOne K (.ref C) (.ref a_NoTie) = some false
  a_NoWeb : Addr
  g_NoWeb : mg "NoWeb" = some (.ref a_NoWeb)
  k_NoWeb : PySem.W.kitOne K (.ref C) (.ref a_NoWeb) = some false
  a_TooGreat : Addr
  g_TooGreat : mg "TooGreat" = some (.ref a_TooGreat)
  k_TooGreat : PySem.W.kitOne K (.ref C) (.ref a_TooGreat) = some false
  a_TooMany : Addr
  g_TooMany : mg "TooMany" = some (.ref a_TooMany)
  k_TooMany : PySem.W.kitOne K (.ref C) (.ref a_TooMany) = some false
/-- the handled object is an error of the class at C -/
def IsC (C : Addr) (p : Addr × Obj) : Prop := Zc (.ref C) none p.2
/-- what a def promises where such an error is handled -/
structure FnZ (C : Addr) (P : Program) (w : World) (K : PySem.W.Frag) (mg : Str → Option Value) (base : Heap) (k : Nat) (f : Addr) (fd : FuncData) (ps : List Str) (sp : Addr × Obj → Sp) : Prop where
  len : ∀ p vs H Q E, sp p vs H Q E → vs.length = ps.length
  run : ∀ (A : Around) (outer : List Env) (s : Shared) (H : Hp) (args : Args) (us : List Value) (vs : List V) (Q : VK) (E : XK) (p : Addr × Obj), RoomH k A → Hot1 A p → IsC C p → PinOk outer H s p → Env0 P w K mg base A outer s H → BindsTo s fd args (ps.zip us) → Vals vs us → sp p vs H Q E → codeAny (model P w) A (.call (.ref f) args) (CR CX0 outer P w H s Q E) s
section
variable {P : Program} {w : World} {K : PySem.W.Frag} {mg : Str → Option Value} {base : Heap} {C : Addr}
theorem DefT.okZ {x : Str} {st : Stmt} {ps N : List Str} {k : Nat} {sp : Addr × Obj → Sp} (D : DefT K mg x st ps) (S : FnScope N ps (defScope st)) (len : ∀ p vs H Q E, sp p vs H Q E → vs.length = ps.length)
    (hb : ∀ (cdv : Value) (A : Around) (outer : List Env) (s : Shared) (H : Hp) (vs : List V) (Q : VK) (E : XK) (p : Addr × Obj), Hot1 A p → IsC C p → RoomH k (A.deeper (envOfC x (defScope st) s.heap.objs.size D.f cdv)) → sp p vs H Q E →
      ∃ t, PSs (cxH CX0 P w K mg base N x (defScope st) D.f cdv A outer s H E p) (defBody st) t ∧ t { nx := fun _ H' => Q .non H', rt := Q } (L2.start N vs) H) : FnZ C P w K mg base (k + 1) D.f D.fd ps sp := by
  refine ⟨len, fun A outer s H args us vs Q E p hr hot hz hpin e0 hB r hsp => ?_⟩
  obtain ⟨oc, od, dV, kV, doc, pm, an, cdv, ct, osl, efd, lk, hcd, _, _⟩ := D.F.ex
  have hlen := len _ _ _ _ _ hsp
  have lk2 : K.lookup D.f = some ⟨oc, od, .func (PySem.W.fnOf x x (defArgs st) (defBody st) (defScope st) dV kV doc pm an cdv ct), osl⟩ := by rw [lk, efd]
  have KX : K.In s.heap := e0.mod.kin.keeps fun b q e => (e0.bs b q e).1
  have hk : ∀ q ∈ ps.zip us, (defScope st).names.lookup q.1 = some .local ∨ ((defScope st).names.lookup q.1 = some .cell ∧ ((cellsFrom (s.heap.objs.size + 1) (defScope st).names []).lookup q.1).isSome = true) := fun ⟨n, v⟩ hq =>
    (S.par n (List.of_mem_zip hq).1).elim .inl fun z => .inr ⟨z, PySem.W.cellsFrom_some _ _ _ (.inl z)⟩
  rw [efd] at hB
  refine codeAny_call_function hr.depth (KX _ _ lk2) rfl S.co S.gen rfl (PySem.W.codeRec_of KX hcd) (hB _ _ _ _ (wpAny_newFunctionEnv_cells S.kind hk fun env he s1 z => ?_))
  subst he
  refine ⟨(e0.mod.nolimit.keeps fun b q e => (e0.bs b q e).1).keeps z.toInCall.keep, codeAny_func ?_⟩
  obtain ⟨t, ht, hq⟩ := hb cdv A outer s H vs Q E p hot hz (hr.deeper _) hsp
  have I := inv_startH (CX := CX0) (f := D.f) (cd := cdv) (qual := x) (E := E) S hpin e0 hlen r z
  refine wpAny_mono (ht.run [] s1 _ H _ I hq) (fun fl s2 h2 => ?_) fun e s2 h2 => h2
  cases fl with
  | ret u => obtain ⟨v, σ', H', J, rv, q⟩ := h2; exact ⟨v, H', J.os, J.bare, J.base, J.hok, rv, q⟩
  | next => obtain ⟨σ', H', J, q⟩ := h2; exact ⟨V.non, H', J.os, J.bare, J.base, J.hok, rfl, q⟩
  | brk => obtain ⟨_, _, _, q⟩ := h2; exact q.elim
  | cont => obtain ⟨_, _, _, q⟩ := h2; exact q.elim
section
variable {X : Cx}
/-- isinstance of the handled error -/
theorem isZ {D : Addr} {p : Addr × Obj} (Y : ExcC X.K D) (hz : IsC D p) (hot : Hot1 X.A p) (hp : p ∈ X.pn) : CallR X (.builtin "isinstance") (rIsE X.K D p.1) := by
  intro pins s σ H xs us Q I r h
  obtain ⟨c, cv, b, rfl, hcv, e, q⟩ := h
  obtain ⟨u1, u2, rfl, r1, r2⟩ := vals2 r
  cases r1
  have ec := hcv _ r2
  subst ec
  obtain ⟨hget, _⟩ := I.pin p (List.mem_append_left _ hp)
  obtain ⟨_, v1, hv, _⟩ := hot
  obtain ⟨pa, oc, od, oda, osl⟩ := p
  have J : PySem.W.InstAt s.heap pa ⟨oc, od, oda, osl⟩ D none := by
    obtain ⟨h1, h2⟩ := hz
    simp only at h1 h2 hv hget
    subst h1 h2 hv
    exact ⟨hget, rfl, rfl, trivial⟩
  exact PySem.W.kia_one (PySem.W.handS_kitx_exc Y.hg Y.hk Y.hs Y.hd Y.ha Y.hn Y.ht Y.hm) I.kIn J e (fun z => nomatch z) fun tk => ⟨.bl b, H, I.kept (t' := tk) fun _ _ z => z, rfl, q⟩
/-- a call of such a def in the suite -/
theorem pe_callZ {k : Nat} {f D : Addr} {fd : FuncData} {ps : List Str} {sp : Addr × Obj → Sp} {x : Str} {q pos : Pos} {e : Expr} {es : List Expr} {t : TA} {p : Addr × Obj} (F : FnZ D X.prog X.w X.K X.mg X.base k f fd ps sp) (hr : RoomH k X.A) (hot : Hot1 X.A p) (hz : IsC D p) (hp : p ∈ X.pn)
    (hg : Gl X x) (hm : X.mg x = some (.ref f)) (hk : PySem.W.keepIn X.K (.ref f) = true) (hb : Binds X.K fd ps []) (ha : PA X (e :: es) t) (hdb : (x == ("__debug__" : Str)) = false := by decide) (he : starEach (e :: es) X.env = (false, eval e X.env) :: starEach es X.env := by rfl) (hpl : (backTo pos (starEach es X.env)).any (·.1) = false := by rfl) :
    PE X (.Call (.Name x q) (e :: es) [] pos) (tCall (sp p) [] E0 t) := by
  refine ⟨fun pins s σ H Q I h => wpAny_Call_Name_kw (ld_glob I hg hm (PySem.W.callWith_K (h₀ := X.base) I.ok.mod.kin hk (thn (ha.run pos pins s σ H _ I h) fun us s1 ⟨vs, H1, I1, r, h1⟩ => ⟨I1.kIn, ?_⟩) he hpl) hdb)⟩
  have h1 : sp p vs H1 Q E0 := by have h2 : sp p (vs ++ []) H1 Q E0 := h1; rw [List.append_nil] at h2; exact h2
  have lus : us.length = ps.length := by rw [← r.length]; exact F.len _ _ _ _ _ h1
  have bd := hb s1 us I1.kIn (by rw [List.append_nil]; exact lus)
  rw [List.append_nil] at bd
  obtain ⟨g1, g2, g3, g4, g5⟩ := I1.pin p (List.mem_append_left _ hp)
  refine wpAny_call (codeAny_mono (F.run X.A X.stack s1 H1 ⟨us, []⟩ us vs Q E0 p hr hot hz ⟨g1, g2, fun m => (List.mem_cons.mp (I1.stkSub p.1 m)).elim g3 g4, g5⟩ I1.env0 bd r h1) fun r2 s2 hq => ?_)
  cases r2 with
  | error e => exact (show False from hq).elim
  | ok fl => cases fl with
    | ret u => exact I1.after hq
    | next => exact hq.elim
    | brk => exact hq.elim
    | cont => exact hq.elim
end
end
end HF
end

section
set_option Elab.async false
set_option linter.all false
set_option autoImplicit false
set_option maxRecDepth 100000
set_option maxHeartbeats 8000000
namespace HF
open PySem PySem.Spec PyProof.Rows L2 L2H HotX HZ
section
variable {H H' : Hp}
/-- a word and whether it is told -/
def Wd (H : Hp) (v : V) (q : Str × Bool) : Prop := ∃ z, v = .ref z ∧ H z = some (.tup [.str q.1, .bl q.2])
def Wl (H : Hp) (S : Addr) (ws : List (Str × Bool)) : Prop := ∃ xs, H S = some (.lst xs) ∧ Paired (Wd H) xs ws
theorem wd_mono (e : Same H H') {v : V} {q : Str × Bool} (h : Wd H v q) : Wd H' v q := by
  obtain ⟨z, rfl, h⟩ := h
  exact ⟨z, rfl, e _ _ h⟩
theorem wl_mono (e : Same H H') {S : Addr} {ws : List (Str × Bool)} (h : Wl H S ws) : Wl H' S ws := by
  obtain ⟨xs, h1, h2⟩ := h
  exact ⟨xs, e _ _ h1, Paired.mono (fun _ _ h => wd_mono e h) h2⟩
theorem paired_append {α β : Type} {F : α → β → Prop} : ∀ {xs : List α} {ys : List β} {us : List α} {vs : List β}, Paired F xs ys → Paired F us vs → Paired F (xs ++ us) (ys ++ vs)
  | _, _, _, _, .nil, h => h
  | _, _, _, _, .cons a t, h => .cons a (paired_append t h)
theorem wl_cat {S S2 : Addr} {ws ws2 : List (Str × Bool)} {Q : VK} (h : Wl H S ws) (h2 : Wl H S2 ws2) (hz : ws.length + ws2.length ≤ 900) (q : ∀ p H', Same H H' → Wl H' p (ws ++ ws2) → Q (.ref p) H') : rCat (.ref S) (.ref S2) H Q := by
  obtain ⟨xs, a1, a2⟩ := h
  obtain ⟨us, b1, b2⟩ := h2
  refine ⟨S, S2, xs, us, rfl, rfl, a1, b1, by rw [Paired.length a2, Paired.length b2]; exact Nat.le_of_lt (lsz (by omega)), fun p np => ?_⟩
  have s := same_upd (o := .lst (xs ++ us)) np
  exact q p _ s ⟨_, upd_same, Paired.mono (fun _ _ h => wd_mono s h) (paired_append a2 b2)⟩
/-- the words that are told -/
def wsel (ws : List (Str × Bool)) (i : Nat) : Option V := match ws[i]? with
  | some q => if q.2 = true then some (.str q.1) else none
  | none => none
end
section
variable {P : Program} {w : World} {K : PySem.W.Frag} {mg : Str → Option Value} {base : Heap} (T : Tx K mg) {C : Addr}
def wordsL : List (Str × Bool) := [("apart", false), ("end", false), ("name", false), ("number", false), ("order", false), ("paper", true), ("place", false), ("ring", false), ("row", false), ("table", false), ("text", false), ("tie", false), ("web", false), ("great", false), ("many", false)]
def sp__law_word : Addr × Obj → Sp := fun p vs H Q _ => vs = [.ref p.1] ∧ ∀ H', Same H H' → Q (.str (Str.ofString "paper")) H'
theorem ok__law_word (Y : Ey K mg C) : FnZ C P w K mg base 1 T.d__law_word.f T.d__law_word.fd ["_law_e"] sp__law_word := by
  refine T.d__law_word.okZ sc__law_word (fun p vs H Q E h => ?_) (fun cdv A outer s H vs Q E p hot hz hr h => ?_)
  · obtain ⟨rfl, _⟩ := h; rfl
  · obtain ⟨rfl, q⟩ := h
    have hp : p ∈ [p] := List.mem_cons_self
    refine ⟨_, (pss_cons (ps_set (i := 1) sc__law_word.nd rfl (by first | exact Or.inl rfl | exact Or.inr rfl) (pe_lst (pa_cons (pe_tup (pa_cons pe_str (pa_cons (pe_callB (isZ (D := C) (p := p) Y.ec hz hot hp) (by rfl) T.n_isinstance (by decide +kernel) (pa_cons (pv 0) (pa_cons (pe_glob (v := .ref Y.a_Apart) (by rfl) Y.g_Apart rfl) pa_nil))) pa_nil))) (pa_cons (pe_tup (pa_cons pe_str (pa_cons (pe_callB (isZ (D := C) (p := p) Y.ec hz hot hp) (by rfl) T.n_isinstance (by decide +kernel) (pa_cons (pv 0) (pa_cons (pe_glob (v := .ref Y.a_NoEnd) (by rfl) Y.g_NoEnd rfl) pa_nil))) pa_nil))) (pa_cons (pe_tup (pa_cons pe_str (pa_cons (pe_callB (isZ (D := C) (p := p) Y.ec hz hot hp) (by rfl) T.n_isinstance (by decide +kernel) (pa_cons (pv 0) (pa_cons (pe_glob (v := .ref Y.a_NoName) (by rfl) Y.g_NoName rfl) pa_nil))) pa_nil))) pa_nil)))))
 (pss_cons (ps_set (i := 1) sc__law_word.nd rfl (by first | exact Or.inl rfl | exact Or.inr rfl) (pe_op op_cat (pv 1) (pe_lst (pa_cons (pe_tup (pa_cons pe_str (pa_cons (pe_callB (isZ (D := C) (p := p) Y.ec hz hot hp) (by rfl) T.n_isinstance (by decide +kernel) (pa_cons (pv 0) (pa_cons (pe_glob (v := .ref Y.a_NoNumber) (by rfl) Y.g_NoNumber rfl) pa_nil))) pa_nil))) (pa_cons (pe_tup (pa_cons pe_str (pa_cons (pe_callB (isZ (D := C) (p := p) Y.ec hz hot hp) (by rfl) T.n_isinstance (by decide +kernel) (pa_cons (pv 0) (pa_cons (pe_glob (v := .ref Y.a_NoOrder) (by rfl) Y.g_NoOrder rfl) pa_nil))) pa_nil))) pa_nil)))))
 (pss_cons (ps_set (i := 1) sc__law_word.nd rfl (by first | exact Or.inl rfl | exact Or.inr rfl) (pe_op op_cat (pv 1) (pe_lst (pa_cons (pe_tup (pa_cons pe_str (pa_cons (pe_callB (isZ (D := C) (p := p) Y.ec hz hot hp) (by rfl) T.n_isinstance (by decide +kernel) (pa_cons (pv 0) (pa_cons (pe_glob (v := .ref Y.a_NoPaper) (by rfl) Y.g_NoPaper rfl) pa_nil))) pa_nil))) (pa_cons (pe_tup (pa_cons pe_str (pa_cons (pe_callB (isZ (D := C) (p := p) Y.ec hz hot hp) (by rfl) T.n_isinstance (by decide +kernel) (pa_cons (pv 0) (pa_cons (pe_glob (v := .ref Y.a_NoPlace) (by rfl) Y.g_NoPlace rfl) pa_nil))) pa_nil))) pa_nil)))))
 (pss_cons (ps_set (i := 1) sc__law_word.nd rfl (by first | exact Or.inl rfl | exact Or.inr rfl) (pe_op op_cat (pv 1) (pe_lst (pa_cons (pe_tup (pa_cons pe_str (pa_cons (pe_callB (isZ (D := C) (p := p) Y.ec hz hot hp) (by rfl) T.n_isinstance (by decide +kernel) (pa_cons (pv 0) (pa_cons (pe_glob (v := .ref Y.a_NoRing) (by rfl) Y.g_NoRing rfl) pa_nil))) pa_nil))) (pa_cons (pe_tup (pa_cons pe_str (pa_cons (pe_callB (isZ (D := C) (p := p) Y.ec hz hot hp) (by rfl) T.n_isinstance (by decide +kernel) (pa_cons (pv 0) (pa_cons (pe_glob (v := .ref Y.a_NoRow) (by rfl) Y.g_NoRow rfl) pa_nil))) pa_nil))) (pa_cons (pe_tup (pa_cons pe_str (pa_cons (pe_callB (isZ (D := C) (p := p) Y.ec hz hot hp) (by rfl) T.n_isinstance (by decide +kernel) (pa_cons (pv 0) (pa_cons (pe_glob (v := .ref Y.a_NoTable) (by rfl) Y.g_NoTable rfl) pa_nil))) pa_nil))) pa_nil))))))
 (pss_cons (ps_set (i := 1) sc__law_word.nd rfl (by first | exact Or.inl rfl | exact Or.inr rfl) (pe_op op_cat (pv 1) (pe_lst (pa_cons (pe_tup (pa_cons pe_str (pa_cons (pe_callB (isZ (D := C) (p := p) Y.ec hz hot hp) (by rfl) T.n_isinstance (by decide +kernel) (pa_cons (pv 0) (pa_cons (pe_glob (v := .ref Y.a_NoText) (by rfl) Y.g_NoText rfl) pa_nil))) pa_nil))) (pa_cons (pe_tup (pa_cons pe_str (pa_cons (pe_callB (isZ (D := C) (p := p) Y.ec hz hot hp) (by rfl) T.n_isinstance (by decide +kernel) (pa_cons (pv 0) (pa_cons (pe_glob (v := .ref Y.a_NoTie) (by rfl) Y.g_NoTie rfl) pa_nil))) pa_nil))) (pa_cons (pe_tup (pa_cons pe_str (pa_cons (pe_callB (isZ (D := C) (p := p) Y.ec hz hot hp) (by rfl) T.n_isinstance (by decide +kernel) (pa_cons (pv 0) (pa_cons (pe_glob (v := .ref Y.a_NoWeb) (by rfl) Y.g_NoWeb rfl) pa_nil))) pa_nil))) pa_nil))))))
 (pss_cons (ps_set (i := 1) sc__law_word.nd rfl (by first | exact Or.inl rfl | exact Or.inr rfl) (pe_op op_cat (pv 1) (pe_lst (pa_cons (pe_tup (pa_cons pe_str (pa_cons (pe_callB (isZ (D := C) (p := p) Y.ec hz hot hp) (by rfl) T.n_isinstance (by decide +kernel) (pa_cons (pv 0) (pa_cons (pe_glob (v := .ref Y.a_TooGreat) (by rfl) Y.g_TooGreat rfl) pa_nil))) pa_nil))) (pa_cons (pe_tup (pa_cons pe_str (pa_cons (pe_callB (isZ (D := C) (p := p) Y.ec hz hot hp) (by rfl) T.n_isinstance (by decide +kernel) (pa_cons (pv 0) (pa_cons (pe_glob (v := .ref Y.a_TooMany) (by rfl) Y.g_TooMany rfl) pa_nil))) pa_nil))) pa_nil)))))
 (pss_cons (ps_setLcH (i := 2) (own := [("_law_word_here", 3), ("_law_one_here", 4)]) (g := (gTup K 2 (gCons (gName 3) (gCons (gName 4) gNil)))) hot hp sc__law_word.nd rfl rfl (sw_true rfl rfl rfl (by decide +kernel)) (pv 1) (blkOk_by (own := [("_law_word_here", 3), ("_law_one_here", 4)]) (N := ["_law_e", "_law_some", "_law_found", "_law_word_here", "_law_one_here"]) (sc := defScope s__law_word) (by decide +kernel)) (fun _ _ _ _ _ => (pg_tupH (bkH_hot hot) (pgs_cons (pg_name (i := 3) sc__law_word.nd rfl (by first | exact Or.inl rfl | exact Or.inr rfl)) (pgs_cons (pg_name (i := 4) sc__law_word.nd rfl (by first | exact Or.inl rfl | exact Or.inr rfl)) pgs_nil)))) (fun _ _ _ _ _ => (pts_one (pt_val (pv 4)))) (fun _ _ _ _ _ => (pv 3)))
 (pss_cons (ps_if (PW.pt (pw_and (pt_cmpR op_eq (pe_callB call_len_seq (by rfl) T.n_len (by decide +kernel) (pa_cons (pv 2) pa_nil)) pe_int (nomark _)) (pw_and1 (pt_val (pe_callB (isZ (D := C) (p := p) Y.ec hz hot hp) (by rfl) T.n_isinstance (by decide +kernel) (pa_cons (pv 0) (pa_cons (pe_bltn (v := .ty "ValueError") (by rfl) T.n_ValueError (by decide +kernel) rfl) pa_nil)))))))
  (pss_one (ps_ret (pe_ix ix_list (pv 2) pe_int (fun _ _ => rfl)))) pss_nil)
 (pss_one (ps_ret pe_str)))))))))), ?_⟩
    have two : 2 ≤ sizeLine := by decide
    have three : 3 ≤ sizeLine := by decide
    have s0 : Same H H := Same.refl H
    refine ⟨_, rfl, .ref Y.a_Apart, _, false, rfl, fun u h => h, Y.k_Apart, two, fun z1 n1 => ⟨_, rfl, .ref Y.a_NoEnd, _, false, rfl, fun u h => h, Y.k_NoEnd, two, fun z2 n2 => ⟨_, rfl, .ref Y.a_NoName, _, false, rfl, fun u h => h, Y.k_NoName, two, fun z3 n3 => ⟨by show 3 ≤ sizeLine; decide, fun L0 m0 => ?_⟩⟩⟩⟩
    have t1 := same_upd (o := .tup [V.str (Str.ofString "apart"), V.bl false]) n1
    have t2 := same_upd (o := .tup [V.str (Str.ofString "end"), V.bl false]) n2
    have t3 := same_upd (o := .tup [V.str (Str.ofString "name"), V.bl false]) n3
    have u0 := same_upd (o := .lst [V.ref z1, V.ref z2, V.ref z3]) m0
    have w0 : Wl _ L0 [((Str.ofString "apart" : Str), false), ((Str.ofString "end" : Str), false), ((Str.ofString "name" : Str), false)] := ⟨_, upd_same, (.cons ⟨_, rfl, (u0 _ _ (t3 _ _ (t2 _ _ upd_same)))⟩ (.cons ⟨_, rfl, (u0 _ _ (t3 _ _ upd_same))⟩ (.cons ⟨_, rfl, (u0 _ _ upd_same)⟩ .nil)))⟩
    have v0 := (((t1.trans t2).trans t3).trans u0)
    have s1 := s0.trans v0
    have c0 := w0
    show tSeq _ _ _ _ (upd _ L0 _)
    refine ⟨_, rfl, _, rfl, .ref Y.a_NoNumber, _, false, rfl, fun u h => h, Y.k_NoNumber, two, fun z4 n4 => ⟨_, rfl, .ref Y.a_NoOrder, _, false, rfl, fun u h => h, Y.k_NoOrder, two, fun z5 n5 => ⟨by show 2 ≤ sizeLine; decide, fun L1 m1 => ?_⟩⟩⟩
    have t4 := same_upd (o := .tup [V.str (Str.ofString "number"), V.bl false]) n4
    have t5 := same_upd (o := .tup [V.str (Str.ofString "order"), V.bl false]) n5
    have u1 := same_upd (o := .lst [V.ref z4, V.ref z5]) m1
    have w1 : Wl _ L1 [((Str.ofString "number" : Str), false), ((Str.ofString "order" : Str), false)] := ⟨_, upd_same, (.cons ⟨_, rfl, (u1 _ _ (t5 _ _ upd_same))⟩ (.cons ⟨_, rfl, (u1 _ _ upd_same)⟩ .nil))⟩
    have v1 := ((t4.trans t5).trans u1)
    refine wl_cat (wl_mono v1 c0) w1 (by decide) fun S1 G1 x1 c1 => ?_
    have s2 := (s1.trans v1).trans x1
    refine ⟨_, rfl, _, rfl, .ref Y.a_NoPaper, _, true, rfl, fun u h => h, Y.k_NoPaper, two, fun z6 n6 => ⟨_, rfl, .ref Y.a_NoPlace, _, false, rfl, fun u h => h, Y.k_NoPlace, two, fun z7 n7 => ⟨by show 2 ≤ sizeLine; decide, fun L2 m2 => ?_⟩⟩⟩
    have t6 := same_upd (o := .tup [V.str (Str.ofString "paper"), V.bl true]) n6
    have t7 := same_upd (o := .tup [V.str (Str.ofString "place"), V.bl false]) n7
    have u2 := same_upd (o := .lst [V.ref z6, V.ref z7]) m2
    have w2 : Wl _ L2 [((Str.ofString "paper" : Str), true), ((Str.ofString "place" : Str), false)] := ⟨_, upd_same, (.cons ⟨_, rfl, (u2 _ _ (t7 _ _ upd_same))⟩ (.cons ⟨_, rfl, (u2 _ _ upd_same)⟩ .nil))⟩
    have v2 := ((t6.trans t7).trans u2)
    refine wl_cat (wl_mono v2 c1) w2 (by decide) fun S2 G2 x2 c2 => ?_
    have s3 := (s2.trans v2).trans x2
    refine ⟨_, rfl, _, rfl, .ref Y.a_NoRing, _, false, rfl, fun u h => h, Y.k_NoRing, two, fun z8 n8 => ⟨_, rfl, .ref Y.a_NoRow, _, false, rfl, fun u h => h, Y.k_NoRow, two, fun z9 n9 => ⟨_, rfl, .ref Y.a_NoTable, _, false, rfl, fun u h => h, Y.k_NoTable, two, fun z10 n10 => ⟨by show 3 ≤ sizeLine; decide, fun L3 m3 => ?_⟩⟩⟩⟩
    have t8 := same_upd (o := .tup [V.str (Str.ofString "ring"), V.bl false]) n8
    have t9 := same_upd (o := .tup [V.str (Str.ofString "row"), V.bl false]) n9
    have t10 := same_upd (o := .tup [V.str (Str.ofString "table"), V.bl false]) n10
    have u3 := same_upd (o := .lst [V.ref z8, V.ref z9, V.ref z10]) m3
    have w3 : Wl _ L3 [((Str.ofString "ring" : Str), false), ((Str.ofString "row" : Str), false), ((Str.ofString "table" : Str), false)] := ⟨_, upd_same, (.cons ⟨_, rfl, (u3 _ _ (t10 _ _ (t9 _ _ upd_same)))⟩ (.cons ⟨_, rfl, (u3 _ _ (t10 _ _ upd_same))⟩ (.cons ⟨_, rfl, (u3 _ _ upd_same)⟩ .nil)))⟩
    have v3 := (((t8.trans t9).trans t10).trans u3)
    refine wl_cat (wl_mono v3 c2) w3 (by decide) fun S3 G3 x3 c3 => ?_
    have s4 := (s3.trans v3).trans x3
    refine ⟨_, rfl, _, rfl, .ref Y.a_NoText, _, false, rfl, fun u h => h, Y.k_NoText, two, fun z11 n11 => ⟨_, rfl, .ref Y.a_NoTie, _, false, rfl, fun u h => h, Y.k_NoTie, two, fun z12 n12 => ⟨_, rfl, .ref Y.a_NoWeb, _, false, rfl, fun u h => h, Y.k_NoWeb, two, fun z13 n13 => ⟨by show 3 ≤ sizeLine; decide, fun L4 m4 => ?_⟩⟩⟩⟩
    have t11 := same_upd (o := .tup [V.str (Str.ofString "text"), V.bl false]) n11
    have t12 := same_upd (o := .tup [V.str (Str.ofString "tie"), V.bl false]) n12
    have t13 := same_upd (o := .tup [V.str (Str.ofString "web"), V.bl false]) n13
    have u4 := same_upd (o := .lst [V.ref z11, V.ref z12, V.ref z13]) m4
    have w4 : Wl _ L4 [((Str.ofString "text" : Str), false), ((Str.ofString "tie" : Str), false), ((Str.ofString "web" : Str), false)] := ⟨_, upd_same, (.cons ⟨_, rfl, (u4 _ _ (t13 _ _ (t12 _ _ upd_same)))⟩ (.cons ⟨_, rfl, (u4 _ _ (t13 _ _ upd_same))⟩ (.cons ⟨_, rfl, (u4 _ _ upd_same)⟩ .nil)))⟩
    have v4 := (((t11.trans t12).trans t13).trans u4)
    refine wl_cat (wl_mono v4 c3) w4 (by decide) fun S4 G4 x4 c4 => ?_
    have s5 := (s4.trans v4).trans x4
    refine ⟨_, rfl, _, rfl, .ref Y.a_TooGreat, _, false, rfl, fun u h => h, Y.k_TooGreat, two, fun z14 n14 => ⟨_, rfl, .ref Y.a_TooMany, _, false, rfl, fun u h => h, Y.k_TooMany, two, fun z15 n15 => ⟨by show 2 ≤ sizeLine; decide, fun L5 m5 => ?_⟩⟩⟩
    have t14 := same_upd (o := .tup [V.str (Str.ofString "great"), V.bl false]) n14
    have t15 := same_upd (o := .tup [V.str (Str.ofString "many"), V.bl false]) n15
    have u5 := same_upd (o := .lst [V.ref z14, V.ref z15]) m5
    have w5 : Wl _ L5 [((Str.ofString "great" : Str), false), ((Str.ofString "many" : Str), false)] := ⟨_, upd_same, (.cons ⟨_, rfl, (u5 _ _ (t15 _ _ upd_same))⟩ (.cons ⟨_, rfl, (u5 _ _ upd_same)⟩ .nil))⟩
    have v5 := ((t14.trans t15).trans u5)
    refine wl_cat (wl_mono v5 c4) w5 (by decide) fun S5 G5 x5 c5 => ?_
    have s6 := (s5.trans v5).trans x5
    obtain ⟨xs, hS, hP⟩ := c5
    have xl := Paired.length hP
    refine ⟨_, rfl, S5, xs, wsel wordsL, rfl, .inl (.inl hS), by rw [xl]; decide, fun j y H2 hy sm kk n hk hn => ?_, fun L H2 nL sm hL => ?_⟩
    · obtain ⟨qq, hq, z, rfl, hz'⟩ := paired_get' hP hy
      have hw : wsel wordsL j = if qq.2 = true then some (.str qq.1) else none := by
        unfold wsel
        rw [show wordsL[j]? = some qq from hq]
      rw [hw] at hk hn
      refine ⟨z, _, rfl, .inl (.inl (sm _ _ hz')), rfl, _, _, rfl, _, _, rfl, rfl, rfl, ?_⟩
      refine ⟨_, rfl, qq.2, rfl, ?_⟩
      refine ite2 (fun e => ⟨_, rfl, hk _ _ (Same.refl _) (if_pos e)⟩) (fun e => hn _ (Same.refl _) (if_neg e))
    · rw [xl] at hL
      have hL2 : H2 L = some (.lst [.str (Str.ofString "paper")]) := hL
      refine ⟨_, rfl, L, _, rfl, .inl (.inl (.inl hL2)), rfl, true, rfl, iteT ?_⟩
      refine ⟨_, rfl, .ty "ValueError", .type "ValueError", true, rfl, fun u h => h, Y.kv, true, rfl, iteT ?_⟩
      exact ⟨_, rfl, L, _, _, _, rfl, rfl, .inl (.inl hL2), atI_nat (j := 0) rfl, q _ (s6.trans sm)⟩
end
end HF
end

section
set_option Elab.async false
set_option linter.all false
set_option autoImplicit false
set_option maxRecDepth 100000
set_option maxHeartbeats 8000000
namespace HF
open PySem PySem.Spec PyProof.Rows L2 L2H HotX HZ LamX
/-- the context of the lambda's body; what leaves it is told with its context None -/
abbrev lamN (X : Cx) (A : Around) (outer : List Env) (s : Shared) (H : Hp) (E : XK) (scope : Scope) (f c' : Addr) : Cx :=
  (lamCx X A outer s H E scope f c').tr [] fun e s' => wpAny (model X.prog X.w) (A.deeper (lamEnv X scope s.heap.objs.size f c')) (leaving (lamEnv X scope s.heap.objs.size f c') e) (fun _ z => L2N.CX X.prog X.w outer H s E e z) (fun e' z => L2N.CX X.prog X.w outer H s E e' z) s'
section
variable {X : Cx} {pins : List (Addr × Obj)} {σ : L2.St} {H : Hp} {s : Shared}
/-- the lambda called in the def that got it -/
theorem pe_actN {Ng : List Str} {qg : Str} {sg : Scope} {g f c' : Addr} {cdg pm ctv : Value} {params : Arguments} {body : Expr} {scope : Scope} {k : Nat} {a : Str} {pn : List (Addr × Obj)} {xe : Value → Shared → Prop} {W : WX} {E : XK} {tb : TE} {p1 p2 : Pos}
    (I : Inv X pins σ H s) (L : LamS X.env.scope scope) (hf : s.heap.get? f = some (PySem.W.kla_obj "<lambda>" (X.env.qual ++ "<lambda>") params body scope (cloFrom X.env.cells scope.names []) pm c' ctv)) (hfn : H f = none) (hfr : f ∉ frs X.stack)
    (hbind : bindArgs (PySem.W.kla_fn "<lambda>" (X.env.qual ++ "<lambda>") params body scope (cloFrom X.env.cells scope.names []) pm (.ref c') ctv) ⟨[], []⟩ = pure [])
    (tk : L2N.Takes ((cxOf CX0 X.prog X.w X.K X.mg X.base Ng qg sg g cdg X.A X.stack s H E0).tr pn xe) W) (hr : Room (k + 1) (X.A.deeper (envOfC qg sg s.heap.objs.size g cdg)))
    (hbody : ∀ (A : Around) (outer : List Env) (s : Shared) (H : Hp), Room k (A.deeper (lamEnv X scope s.heap.objs.size f c')) → PE (lamN X A outer s H E scope f c') body tb)
    (hN : Ng[0]? = some a) (hv : Vis sg a) (hd : (a == ("__debug__" : Str)) = false) (hcd : (a == ("__classdict__" : Str)) = false) :
    PE ((cxOf CX0 X.prog X.w X.K X.mg X.base Ng qg sg g cdg X.A X.stack s H E0).tr pn xe) (.Call (.Name a p1) [] [] p2)
      (fun σZ HZ Q => σZ[0]? = some (some (.ref f)) ∧ HZ c' = some (CodeO c' (X.env.qual ++ "<lambda>")) ∧ (∀ cls d H', E cls d H' → W cls d σZ H') ∧ tb σ HZ Q) := by
  refine ⟨fun pinsZ sZ σZ HZ Q IZ ⟨hs, hc, hW, ht⟩ => ?_⟩
  refine wpAny_Call_Name_kw (thn ((pe_var (pos := p1) (i := 0) hN hv hd hcd).run pinsZ sZ σZ HZ (fun v H1 => v = .ref f ∧ H1 = HZ) IZ ⟨.ref f, hs, rfl, rfl⟩) fun u s1 ⟨v, H1, I1, r1, ev, eH⟩ => ?_)
  subst ev
  rw [eH] at I1
  obtain rfl : u = Value.ref f := r1
  have g1 := I1.base.keep f _ hf hfn hfr (fun z => nomatch (show f ∈ ([] : List Addr) from z))
  refine PySem.W.callWith_F0 ⟨_, _, _, _, g1⟩ ?_
  obtain ⟨⟨oc, vs, t, hoc, hdc, hvc⟩, _, _⟩ := I1.hok c' _ hc
  have rc : codeAny (model X.prog X.w) (X.A.deeper (envOfC qg sg s.heap.objs.size g cdg)) (.call (.ref f) ⟨[], []⟩) (CR (L2N.CX X.prog X.w) (envOfC qg sg s.heap.objs.size g cdg :: X.stack) X.prog X.w HZ s1 Q E) s1 := by
    refine PySem.W.kla_callFunE hr.depth g1 rfl L.co L.gen rfl ⟨c', oc, vs, t, rfl, hoc, hdc, hvc⟩ ?_
    rw [hbind]
    refine wpAny_pure (wpAny_newFunctionEnv (fun y hy => (L.own y hy).2) (fun y hy => absurd hy (by simp)) (fun h₁ hns hsb => ⟨I1.nolimit.fresh _ hsb, ?_⟩) L.kind)
    have J0 := lam_start2 (tk := s1.toks + ([] : List (Str × Value)).length) (f := f) (c' := c') (E := E) I L I1.env0 hr.hd I1.base hns fun b o e => hsb.extBut b o (Nat.ne_of_lt (Heap.lt_size e)) (Heap.get?_push_of_some _ e)
    have J : Inv (lamN X (X.A.deeper (envOfC qg sg s.heap.objs.size g cdg)) (envOfC qg sg s.heap.objs.size g cdg :: X.stack) s1 HZ E scope f c') [] σ HZ { s1 with heap := h₁, toks := s1.toks + ([] : List (Str × Value)).length } := J0.toTry _
    show codeAny _ _ (.expr body (lamEnv X scope s1.heap.objs.size f c')) _ _
    refine PySem.W.kla_codeExpr (wpAny_mono ((hbody _ _ s1 HZ (hr.deeper _)).run [] _ _ HZ Q J ht) (fun v s' hq => ?_) fun e s' hq => hq)
    obtain ⟨v2, H2, J2, rv, q⟩ := hq
    exact ⟨v2, H2, J2.os, J2.bare, J2.base, J2.hok, rv, q⟩
  refine wpAny_call (codeAny_mono rc fun r s' hq => ?_)
  cases r with
  | error e => exact tk _ _ (L2N.XE.of_call I1 (fun cls d H' h => hW cls d H' h) hq)
  | ok fl => cases fl with
    | ret u => exact I1.after hq
    | next => exact False.elim hq
    | brk => exact False.elim hq
    | cont => exact False.elim hq
/-- the def that calls what it got -/
def GivesN (X : Cx) (k : Nat) (Ng : List Str) (x : Str) (sg : Scope) (g : Addr) (cdg : Value) (bg : List Stmt) (a : Str) (q : Str) (TT : (XK → Hp → VK → Prop) → Hp → VK → Prop) : Prop :=
  ∀ (f c' : Addr) (s : Shared) (H : Hp) (Q : VK) (tl : XK → Hp → VK → Prop), Room k (X.A.deeper (envOfC x sg s.heap.objs.size g cdg)) →
    (∀ (W : WX) (pn : List (Addr × Obj)) (xe : Value → Shared → Prop) (E : XK) (p1 p2 : Pos), L2N.Takes ((cxOf CX0 X.prog X.w X.K X.mg X.base Ng x sg g cdg X.A X.stack s H E0).tr pn xe) W →
      PE ((cxOf CX0 X.prog X.w X.K X.mg X.base Ng x sg g cdg X.A X.stack s H E0).tr pn xe) (.Call (.Name a p1) [] [] p2) (fun σZ HZ Q => σZ[0]? = some (some (.ref f)) ∧ HZ c' = some (CodeO c' q) ∧ (∀ cls d H', E cls d H' → W cls d σZ H') ∧ tl E HZ Q)) →
    H c' = some (CodeO c' q) → TT tl H Q → ∃ t, PSs (cxOf CX0 X.prog X.w X.K X.mg X.base Ng x sg g cdg X.A X.stack s H E0).nox bg t ∧ t { nx := fun _ H' => Q .non H', rt := Q } (L2.start Ng [.ref f]) H
theorem pe_lamN {T : List (Addr × Str)} {TT : (XK → Hp → VK → Prop) → Hp → VK → Prop} {x a : Str} {g c P : Addr} {k : Nat} {pg : Arguments} {bg : List Stmt} {sg : Scope} {dV kV doc pm cdv ct oc : Value} {an od : Option Addr} {osl : Array (Option Value)} {Ng : List Str}
    {params : Arguments} {body : Expr} {scope : Scope} {t : XK → TE} {p lpos pos : Pos} (hg : Gl X x) (hm : X.mg x = some (.ref g)) (hk : PySem.W.keepIn X.K (.ref g) = true)
    (lk : X.K.lookup g = some ⟨oc, od, .func (PySem.W.fnOf x x pg bg sg dV kV doc pm an cdv ct), osl⟩) (hcg : PySem.W.codeIn X.K cdv x = true) (hb : L2.Binds X.K (PySem.W.fnOf x x pg bg sg dV kV doc pm an cdv ct) [a] []) (Sg : FnScope Ng [a] sg) (hNg : Ng[0]? = some a) (hva : Vis sg a)
    (hG : GivesN X (k + 1) Ng x sg g cdv bg a (X.env.qual ++ "<lambda>") TT) (TB : TabB X.base X.mg c P) (hcode : X.env.code = .ref c) (hmT : (P, X.env.qual ++ "<lambda>") ∈ T) (hu : ∀ p ∈ T, p.1 = P → p.2 = X.env.qual ++ "<lambda>") (hr : Room (k + 2) X.A) (L : LamS X.env.scope scope) (hdef : defaultsOf params X.env = ([], []))
    (hbind : ∀ (q : Str) (cl : List (Str × Addr)) (pm cv ctv : Value), bindArgs (PySem.W.kla_fn "<lambda>" q params body scope cl pm cv ctv) ⟨[], []⟩ = pure [])
    (hbody : ∀ (A : Around) (outer : List Env) (s : Shared) (H : Hp) (E : XK) (f c' : Addr), Room k (A.deeper (lamEnv X scope s.heap.objs.size f c')) → PE (lamN X A outer s H E scope f c') body (t E))
    (hdb : (x == ("__debug__" : Str)) = false := by decide) (hd : (a == ("__debug__" : Str)) = false := by decide) (hcd : (a == ("__classdict__" : Str)) = false := by decide) :
    PE X (.Call (.Name x p) [.Lambda params body scope lpos] [] pos) (tLam T TT t) := by
  refine ⟨fun pins s σ H Q I ⟨hT, h⟩ => wpAny_Call_Name_kw (ld_glob I hg hm (PySem.W.callWith_K (h₀ := X.base) I.ok.mod.kin hk ?_ (by rfl) (by rfl)) hdb)⟩
  show wpAny _ _ (spliced ((false, eval (.Lambda params body scope lpos) X.env) :: backTo pos (starEach [] X.env))) _ _ s
  refine Calls.spliced_cons (lam_make2 I TB hcode hmT hu hT hdef (L.has I.ok) fun f c' pm' ctv H1 s' I1 eN T1 hf hfn hfr hco => Calls.spliced_nil ⟨I1.kIn, ?_⟩)
  have rc : codeAny (model X.prog X.w) X.A (.call (.ref g) ⟨[.ref f], []⟩) (CR CX0 X.stack X.prog X.w H1 s' Q E0) s' := by
    refine run_ofS (N := Ng) (ps := [a]) (us := [.ref f]) (vs := [.ref f]) lk hcg Sg hr I1.env0 (hb s' [.ref f] I1.kIn rfl) (.cons rfl .nil) rfl fun hr' => ?_
    obtain ⟨t', ht', hq'⟩ := hG f c' s' H1 Q (fun E H' Q' => t E σ H' Q') hr' (fun W pn xe E p1 p2 tk => pe_actN I1 L hf hfn hfr (hbind _ _ _ _ _) tk hr' (fun A outer s H hr2 => hbody A outer s H E f c' hr2) hNg hva hd hcd) hco (h H1 eN T1)
    exact ⟨t', ht'.nox, hq'⟩
  refine wpAny_call (codeAny_mono rc fun r s2 hq => ?_)
  cases r with
  | error e => exact (show False from hq).elim
  | ok fl => cases fl with
    | ret u => exact I1.after hq
    | next => exact False.elim hq
    | brk => exact False.elim hq
    | cont => exact False.elim hq
end
end HF
end

section
set_option Elab.async false
set_option linter.all false
set_option autoImplicit false
set_option maxRecDepth 100000
set_option maxHeartbeats 8000000
namespace HF
open PySem PySem.Spec PyProof.Rows L2 L2H HotX HZ LamX
theorem takes0N {X : Cx} : L2N.Takes X (fun _ _ _ _ => False) := fun _ _ x => by
  obtain ⟨_, _, _, _, _, _, _, _, _, _, _, _, _, _, _, _, z⟩ := x
  exact z.elim
/-- how the law hears of a refusal: the lambda's way out -/
def EEw (C : Addr) (Q : VK) : XK := fun cls d H' => cls = .ref C ∧ d = none ∧ ∀ (z : Addr) (H2 : Hp), Same H' H2 → H2 z = none → Q (.ref z) (upd H2 z (.tup [.str (Str.ofString "refused"), .str (Str.ofString "paper")]))
def TTw (C : Addr) : (XK → Hp → VK → Prop) → Hp → VK → Prop := fun tl H Q => ∃ Post : VK, (∀ v H', Post v H' → ∀ z, H' z = none → Q (.ref z) (upd H' z (.tup [.str (Str.ofString "told"), v]))) ∧ ∀ Q1 : VK, (∀ v H', Post v H' → Q1 v H') → tl (EEw C Q) H Q1
def suiteOf : Stmt → List Stmt
  | .Try _ (.ExceptHandler _ _ b _ :: _) _ _ _ => b
  | _ => []
/-- what the suite asks -/
def tsu (C : Addr) : Addr → Value → Option Addr → TS := fun a cls d D σ H => cls = .ref C ∧ d = none ∧ tAsg (tTup (tCons (tC (.str (Str.ofString "refused"))) (tCons (tCall (fun vs H Q _ => vs = [.ref a] ∧ ∀ H', Same H H' → Q (.str (Str.ofString "paper")) H') [] E0 (tCons (tVar 2) tNil)) tNil))) (gName 1) D σ H
theorem told_gives {X : Cx} {C cF : Addr} {k : Nat} (T : Tx X.K X.mg) (Y : Ey X.K X.mg C) (gF : X.mg "FloorError" = some (.ref cF)) (eF : PySem.W.exmOne X.K (.ref C) (.ref cF) = some true) (cdv : Value) (q : Str) :
    GivesN X (k + 1) ["_law_asked", "_law_found", "_law_e"] "_law_told" (defScope s__law_told) T.d__law_told.f cdv (defBody s__law_told) "_law_asked" q (TTw C) := by
  intro f c' s H Q tl hr hcall hco h
  obtain ⟨Post, hP, h⟩ := h
  have suite : ∀ (a : Addr) (oe : Obj) (cls : Value) (d : Option Addr) (pn : List (Addr × Obj)), L2N.Zn cls d oe → (∃ vs, oe.data = .fields vs) →
      PSs ((cxOf CX0 X.prog X.w X.K X.mg X.base ["_law_asked", "_law_found", "_law_e"] "_law_told" (defScope s__law_told) T.d__law_told.f cdv X.A X.stack s H E0).nox.suite a ((a, oe) :: pn)) (suiteOf ((defBody s__law_told).getD 1 (.Pass ⟨0, 0, 0, 0⟩))) (tsu C a cls d) := fun a oe cls d pn hz hf => ⟨fun pins s2 σ2 H2 D I ⟨e1, e2, h2⟩ => by
    subst e1 e2
    obtain ⟨v1, hv⟩ := hf
    have rh : RoomH 1 ((cxOf CX0 X.prog X.w X.K X.mg X.base ["_law_asked", "_law_found", "_law_e"] "_law_told" (defScope s__law_told) T.d__law_told.f cdv X.A X.stack s H E0).nox.suite a ((a, oe) :: pn)).A := ⟨by
      have := hr.dp
      show (X.A.deeper (envOfC "_law_told" (defScope s__law_told) s.heap.objs.size T.d__law_told.f cdv)).depth + 3 * 1 + 5 < recursionLimit
      omega, by
      have := hr.un
      show (X.A.deeper (envOfC "_law_told" (defScope s__law_told) s.heap.objs.size T.d__law_told.f cdv)).units + 16 * 1 + 200 < cLine
      omega⟩
    have pss : PSs ((cxOf CX0 X.prog X.w X.K X.mg X.base ["_law_asked", "_law_found", "_law_e"] "_law_told" (defScope s__law_told) T.d__law_told.f cdv X.A X.stack s H E0).nox.suite a ((a, oe) :: pn)) (suiteOf ((defBody s__law_told).getD 1 (.Pass ⟨0, 0, 0, 0⟩))) (tAsg (tTup (tCons (tC (.str (Str.ofString "refused"))) (tCons (tCall (sp__law_word (a, oe)) [] E0 (tCons (tVar 2) tNil)) tNil))) (gName 1)) :=
      pss_one (ps_set (i := 1) sc__law_told.nd rfl (Or.inl rfl) (pe_tup (pa_cons pe_str (pa_cons (pe_callZ (p := (a, oe)) (D := C) (ok__law_word T Y) rh ⟨rfl, v1, hv, hz.2.2 v1 hv⟩ hz.zc List.mem_cons_self (by rfl) T.d__law_word.g T.d__law_word.F.kp T.d__law_word.b (pa_cons (pv 2) pa_nil)) pa_nil))))
    exact pss.run pins s2 σ2 H2 D I h2⟩
  refine ⟨_, pss_cons (ps_set (i := 1) sc__law_told.nd rfl (Or.inl rfl) pe_non) (pss_cons (L2N.ps_try_as (i := 2) (ts := tsu C) (Wout := fun _ _ _ _ => False) rfl rfl sc__law_told.nd rfl rfl ⟨rfl, by decide, Or.inl gF⟩ takes0N (fun W pn xe tk _ => pss_one (ps_set (i := 1) sc__law_told.nd rfl (Or.inl rfl) (pe_tup (pa_cons pe_str (pa_cons (hcall W pn xe (EEw C Q) _ _ tk) pa_nil))))) suite) (pss_one (ps_ret (pv 1)))), ?_⟩
  refine ⟨rfl, hco, fun cls d H' hE => ?_, h _ fun v H' hp => ⟨by show 2 ≤ sizeLine; decide, fun z nz => ⟨_, rfl, hP v H' hp z nz⟩⟩⟩
  obtain ⟨rfl, rfl, hq⟩ := hE
  refine ⟨true, eF, fun _ a na => ⟨rfl, rfl, ?_⟩, fun z => nomatch z⟩
  exact ⟨_, rfl, rfl, fun H2 s2 => ⟨by show 2 ≤ sizeLine; decide, fun z nz => ⟨_, rfl, hq z H2 s2 nz⟩⟩⟩
end HF
end

section
set_option Elab.async false
set_option linter.all false
set_option autoImplicit false
set_option maxRecDepth 100000
set_option maxHeartbeats 1000000
namespace HF
open PySem PySem.Spec PyProof.Rows L2 L2H HotX HZ LamX
theorem passLN {X : Cx} : Passes (L2N.CX X.prog X.w) X E0 := fun _ _ _ _ _ _ _ h => by
  obtain ⟨_, _, _, _, _, _, _, _, _, _, _, _, z⟩ := h
  exact z.elim
section
variable {K : PySem.W.Frag} {H H' : Hp}
theorem ext_sqt {a : Addr} {xs : List V} (e : ExtN H H') (h : SqT K H a xs) : SqT K H' a xs := by
  rcases h with (h | ⟨o, h⟩) | h
  · exact .inl (.inl (e _ _ h fun ps z => nomatch z))
  · exact .inl (.inr ⟨o, e _ _ h fun ps z => nomatch z⟩)
  · exact .inr h
theorem ext_sql {a : Addr} {xs : List V} (e : ExtN H H') (h : SqL K H a xs) : SqL K H' a xs := by
  rcases h with (h | ⟨o, h⟩) | h
  · exact .inl (.inl (e _ _ h fun ps z => nomatch z))
  · exact .inl (.inr ⟨o, e _ _ h fun ps z => nomatch z⟩)
  · exact .inr h
mutual
theorem dp_ext (e : ExtN H H') : ∀ {v : V} {d : PyData}, Dp K H v d → Dp K H' v d
  | _, _, .non => .non
  | _, _, .bl b => .bl b
  | _, _, .int i => .int i
  | _, _, .str x => .str x
  | _, _, .lst s t => .lst (ext_sql e s) (dpAll_ext e t)
  | _, _, .tup s t => .tup (ext_sqt e s) (dpAll_ext e t)
theorem dpAll_ext (e : ExtN H H') : ∀ {vs : List V} {ds : List PyData}, DpAll K H vs ds → DpAll K H' vs ds
  | _, _, .nil => .nil
  | _, _, .cons h t => .cons (dp_ext e h) (dpAll_ext e t)
end
theorem pap_ext (e : ExtN H H') {v : V} {pap : Pap} (h : PapAt K H v pap) : PapAt K H' v pap := by
  cases pap with
  | non => exact h
  | lst =>
    obtain ⟨a, xs, rfl, ha⟩ := h
    exact ⟨a, xs, rfl, e _ _ ha fun ps z => nomatch z⟩
  | tup t ps => exact dp_ext e h
end
def nmL : Str := (("_law_right" : Str) ++ ".<locals>.") ++ "<lambda>"
/-- the def whose lambda is handed on; c its code object, Pt that one's table -/
structure Rt (K : PySem.W.Frag) (mg : Str → Option Value) (c : Addr) : Type where
  f : Addr
  fd : FuncData
  ex : ∃ (oc : Value) (od : Option Addr) (dV kV doc pm : Value) (an : Option Addr) (ct : Value) (osl : Array (Option Value)),
    fd = PySem.W.fnOf "_law_right" "_law_right" (defArgs s__law_right) (defBody s__law_right) (defScope s__law_right) dV kV doc pm an (.ref c) ct ∧ K.lookup f = some ⟨oc, od, .func fd, osl⟩ ∧ PySem.W.codeIn K (.ref c) "_law_right" = true
  kp : PySem.W.keepIn K (.ref f) = true
  g : mg "_law_right" = some (.ref f)
  b : Binds K fd ["_law_web_here", "_law_paper"] []
section
variable {P : Program} {w : World} {K : PySem.W.Frag} {mg : Str → Option Value} {base : Heap} {C cF c Pt : Addr}
def sp__law_right (K : PySem.W.Frag) (Pt : Addr) : Sp := fun vs H Q _ => ∃ (v vp : V) (W : Web) (pap : Pap), vs = [v, vp] ∧ Tabs [(Pt, nmL)] H ∧ Dp K H v (webD W) ∧ PapAt K H vp pap ∧ pap.few ∧ InR W.1 W.2 ∧ 0 < W.1 ∧ W.1 ≤ 25 ∧ W.2.length ≤ 24 ∧
  ∀ H', ExtN H H' → Tabs [(Pt, nmL)] H' → Q (.bl true) H'
theorem ok__law_right (T : Tx K mg) (Xq : Exq K mg C) (Y : Ey K mg C) (gF : mg "FloorError" = some (.ref cF)) (eF : PySem.W.exmOne K (.ref C) (.ref cF) = some true) (R : Rt K mg c) (TB : TabB base mg c Pt) : FnOk P w K mg base CX0 10 R.f R.fd ["_law_web_here", "_law_paper"] (sp__law_right K Pt) := by
  obtain ⟨oc, od, dV, kV, doc, pm, an, ct, osl, efd, lk, hcd⟩ := R.ex
  rw [efd] at lk ⊢
  refine fn_of lk hcd sc__law_right (fun vs H Q E h => ?_) (fun A outer s H vs Q E hr h => ?_)
  · obtain ⟨v, vp, W, pap, rfl, _⟩ := h; rfl
  · obtain ⟨v, vp, W, pap, rfl, hT, hv, hp, hfew, hin, h0, h25, h24, q⟩ := h
    obtain ⟨oc2, od2, dV2, kV2, doc2, pm2, an2, cdv2, ct2, osl2, efd2, lk2, hcd2, _, _⟩ := T.d__law_told.F.ex
    have hb2 := T.d__law_told.b
    rw [efd2] at lk2 hb2
    suffices hs : ∃ t, PSs (cxOf CX0 P w K mg base ["_law_web_here", "_law_paper", "_law_found"] "_law_right" (defScope s__law_right) R.f (.ref c) A outer s H E).nox (defBody s__law_right) t ∧ t { nx := fun _ H' => Q .non H', rt := Q } (L2.start ["_law_web_here", "_law_paper", "_law_found"] [v, vp]) H by
      obtain ⟨t, a, b⟩ := hs
      exact ⟨t, a.nox, b⟩
    refine ⟨_, (pss_cons (ps_set (i := 2) sc__law_right.nd rfl (by first | exact Or.inl rfl | exact Or.inr rfl) (pe_lamN (T := [(Pt, nmL)]) (k := 7) (by rfl) T.d__law_told.g T.d__law_told.F.kp lk2 hcd2 hb2 sc__law_told rfl (.inl rfl) (told_gives (X := (cxOf CX0 P w K mg base ["_law_web_here", "_law_paper", "_law_found"] "_law_right" (defScope s__law_right) R.f (.ref c) A outer s H E).nox) T Y gF eF cdv2 _) TB rfl List.mem_cons_self (fun q hq _ => by rw [List.mem_singleton.mp hq]; rfl) hr (show LamS (defScope s__law_right) _ from lamS_by (by decide +kernel)) rfl (fun _ _ _ _ _ => rfl)
      (fun A outer s H E f c' hr2 => pe_callS (ok_laid T Xq) hr2 (by rfl) T.d_laid.g T.d_laid.F.kp T.d_laid.b (fun σ => L2N.passAt (L2N.takes_of rfl rfl rfl rfl) σ) (pa_cons (pv 0) (pa_cons (pv 1) pa_nil)))))
      (pss_cons (ps_if (pt_cmpR op_isN (pe_call (ok__law_tree T) (hr.mono (by decide)) (by rfl) T.d__law_tree.g T.d__law_tree.F.kp T.d__law_tree.b .nil pass0 (pa_cons (pv 0) (pa_cons (pv 1) pa_nil))) pe_non (nomark _))
  (pss_one (ps_ret (pe_cmpR (op_eqD hr.units) (pv 2) (pe_tup (pa_cons pe_str (pa_cons pe_str pa_nil))) (nomark _)))) pss_nil)
 (pss_cons (ps_if (PW.pt (pw_or (pt_cmpR op_ne (pe_ix ix_tup (pv 2) pe_int (fun _ _ => rfl)) pe_str (nomark _)) (pw_or1 (pt_not (pt_val (pe_call (ok__law_is_order T) (hr.mono (by decide)) (by rfl) T.d__law_is_order.g T.d__law_is_order.F.kp T.d__law_is_order.b .nil pass0 (pa_cons (pv 0) (pa_cons (pe_ix ix_tup (pv 2) pe_int (fun _ _ => rfl)) pa_nil))))))))
  (pss_one (ps_ret pe_bl)) pss_nil)
 (pss_one (ps_ret (pe_and (pe_cmpR op_ge (pe_call (ok__law_holes T) (hr.mono (by decide)) (by rfl) T.d__law_holes.g T.d__law_holes.F.kp T.d__law_holes.b .nil pass0 (pa_cons (pv 0) (pa_cons (pe_ix ix_tup (pv 2) pe_int (fun _ _ => rfl)) pa_nil))) (pe_callB call_len_seq (by rfl) T.n_len (by decide +kernel) (pa_cons (pe_ix ix_tup (pv 1) pe_int (fun _ _ => rfl)) pa_nil)) (nomark _)) (pe_one (pe_cmpR (op_eqD hr.units) (pe_call (ok_laid T Xq) (hr.mono (by decide)) (by rfl) T.d_laid.g T.d_laid.F.kp T.d_laid.b .nil passLN (pa_cons (pv 0) (pa_cons (pv 1) pa_nil))) (pe_ix ix_tup (pv 2) pe_int (fun _ _ => rfl)) (nomark _))))))))), ?_⟩
    obtain ⟨wa0, hwa⟩ : ∃ x, x = v := ⟨v, rfl⟩
    refine ⟨hT, fun H1 eN T1 => ?_⟩
    have hv1 := dp_ext eN hv
    have hp1 := pap_ext eN hp
    refine ⟨fun u H' => ∃ t ps, pap = .tup t ps ∧ shows W t ps ∧ Same H1 H' ∧ Dp K H' u (ordD (laidM W t ps)), ?_, fun Q1 hQ1 => ?_⟩
    · -- told
      rintro u H2 ⟨t, ps, rfl, hsh, s2, du⟩ z nz
      have sz := same_upd (o := .tup [V.str (Str.ofString "told"), u]) nz
      have s3 : Same H1 (upd H2 z (.tup [V.str (Str.ofString "told"), u])) := s2.trans sz
      have hz : (upd H2 z (.tup [V.str (Str.ofString "told"), u])) z = some (.tup [V.str (Str.ofString "told"), u]) := upd_same
      have du3 := dp_mono sz du
      generalize (upd H2 z (.tup [V.str (Str.ofString "told"), u])) = H3 at *
      obtain ⟨hok, n', ⟨F, hF, hFn⟩, hn⟩ := laid_ok hin hsh
      refine ⟨_, rfl, _, rfl, v, vp, W, .tup t ps, rfl, dp_mono s3 hv1, pap_mono s3 hp1, hfew, hin, h0, h25, h24, fun H4 s4 => ⟨fun n hn' => ?_, fun hno => absurd ⟨hsh, rfl⟩ (hno ps.length)⟩⟩
      refine ⟨rfl, false, rfl, iteF ?_⟩
      have z4 : SqT K H4 z [V.str (Str.ofString "told"), u] := .inl (.inl (s4 _ _ hz))
      refine ⟨_, rfl, z, _, _, _, rfl, rfl, z4, atI_nat (j := 0) rfl, rfl, false, by rw [eqv_str_self]; rfl, iteF ?_⟩
      refine ⟨_, rfl, _, rfl, z, _, _, _, rfl, rfl, z4, atI_nat (j := 1) rfl, v, u, W, _, rfl, dp_mono (s3.trans s4) hv1, dp_mono s4 du3, hok, fun r hr => laid_begun hr, h25, h24, fun H5 s5 => ⟨true, rfl, iteF ?_⟩⟩
      have s35 := s4.trans s5
      have s15 := s3.trans s35
      have z5 := same_sqt s5 z4
      refine ⟨_, rfl, _, rfl, z, _, _, _, rfl, rfl, z5, atI_nat (j := 1) rfl, v, u, W, _, F, rfl, dp_mono s15 hv1, dp_mono s35 du3, hok, hin, h24, h0, h25, hF, hsh.1, fun H6 s6 => ?_⟩
      obtain ⟨a, ta, pb, zs, rfl, sa, sT, sP, dP⟩ := pap_vals (pap_mono (s15.trans s6) hp1)
      have zl := dpAll_len dP
      rw [List.length_map] at zl
      refine ⟨_, rfl, a, _, _, _, rfl, rfl, sa, atI_nat (j := 1) rfl, pb, zs, rfl, .inr sP, _, _, rfl, rfl, true, congrArg V.bl (decide_eq_true ?_), iteT ?_⟩
      · rw [zl, Int.fdiv_eq_ediv_of_nonneg _ (by omega)]
        omega
      have s16 := s15.trans s6
      refine ⟨_, rfl, _, rfl, v, .ref a, W, .tup t ps, rfl, dp_mono s16 hv1, pap_mono s16 hp1, hfew, hin, h25, h24, fun t' ps' e hsh' H7 u2 s7 du2 => ?_, fun hno => absurd ⟨hsh, rfl⟩ (hno ps.length)⟩
      cases e
      refine ⟨_, rfl, z, _, _, _, rfl, rfl, same_sqt (s6.trans s7) z5, atI_nat (j := 1) rfl, ?_⟩
      refine ⟨ordD (laidM W t ps), ordD (laidM W t ps), du2, dp_mono ((s35.trans s6).trans s7) du3, sh_shaped (sh_ord _) (by omega), sh_shaped (sh_ord _) (by omega), ?_⟩
      rw [SeqAt.eqv_refl _ (sh_ord _).1]
      exact q _ (eN.trans (ExtN.of (s16.trans s7))) (T1.ext (s16.trans s7))
    · -- the lambda
      refine ⟨_, rfl, _, rfl, v, vp, W, pap, rfl, hv1, hp1, hfew, hin, h25, h24, fun t ps e hsh H2 u s2 du => hQ1 u H2 ⟨t, ps, e, hsh, s2, du⟩, fun hno H2 s2 => ⟨rfl, rfl, fun z H3 s3 nz => ?_⟩⟩
      have s4 : Same H1 (upd H3 z (.tup [V.str (Str.ofString "refused"), V.str (Str.ofString "paper")])) := (s2.trans s3).trans (same_upd nz)
      have hz : (upd H3 z (.tup [V.str (Str.ofString "refused"), V.str (Str.ofString "paper")])) z = some (.tup [V.str (Str.ofString "refused"), V.str (Str.ofString "paper")]) := upd_same
      generalize (upd H3 z (.tup [V.str (Str.ofString "refused"), V.str (Str.ofString "paper")])) = H4 at *
      refine ⟨_, rfl, _, rfl, v, vp, W, pap, rfl, dp_mono s4 hv1, pap_mono s4 hp1, hfew, hin, h0, h25, h24, fun H5 s5 => ⟨fun n hn' => absurd hn' (hno n), fun _ => ?_⟩⟩
      refine ⟨rfl, true, rfl, iteT ?_⟩
      refine ⟨_, rfl, by show 2 ≤ sizeLine; decide, fun y ny => ?_⟩
      have sy := same_upd (o := .tup [V.str (Str.ofString "refused"), V.str (Str.ofString "paper")]) ny
      have shr : sh 1 (.tuple [.str (Str.ofString "refused"), .str (Str.ofString "paper")]) := sh_tup fun d hd => by
        rcases List.mem_cons.mp hd with rfl | hd
        · exact ⟨by decide +kernel, by rw [PyData.depth] <;> simp⟩
        · rw [List.mem_singleton.mp hd]
          exact ⟨by decide +kernel, by rw [PyData.depth] <;> simp⟩
      refine ⟨.tuple [.str (Str.ofString "refused"), .str (Str.ofString "paper")], .tuple [.str (Str.ofString "refused"), .str (Str.ofString "paper")], .tup (.inl (.inl (sy _ _ (s5 _ _ hz)))) (.cons (.str _) (.cons (.str _) .nil)), .tup (.inl (.inl upd_same)) (.cons (.str _) (.cons (.str _) .nil)), sh_shaped shr (by omega), sh_shaped shr (by omega), ?_⟩
      rw [SeqAt.eqv_refl _ shr.1]
      exact q _ (eN.trans (ExtN.of ((s4.trans s5).trans sy))) (T1.ext ((s4.trans s5).trans sy))
end
end HF
end

section
set_option Elab.async false
set_option linter.all false
set_option autoImplicit false
set_option maxRecDepth 100000
set_option maxHeartbeats 2000000
namespace HF
open PySem PySem.Spec PyProof.Rows L2 L2H HotX HZ LamX
section
variable {K : PySem.W.Frag} {H H' : Hp} {p Pt : Addr}
theorem hide_ext (e : ExtN H H') : ExtN (hide p H) (hide p H') := fun b o h n => by
  unfold hide at h ⊢
  by_cases hb : b = p
  · rw [if_pos hb] at h
    cases h
  · rw [if_neg hb] at h ⊢
    exact e b o h n
theorem tabs_hide {T : List (Addr × Str)} {xs : List V} (h : Tabs T H) (hp : H p = some (.lst xs)) : Tabs T (hide p H) := fun q hq => by
  obtain ⟨ps, h1, h2, h3⟩ := h q hq
  have ne : ∀ (b : Addr) (o : HO), H b = some o → (∀ zs, o ≠ .lst zs) → hide p H b = some o := fun b o hb no => by
    rw [hide_ne (fun e => by rw [e, hp] at hb; exact no xs (Option.some.inj hb).symm)]
    exact hb
  refine ⟨ps, ne _ _ h1 (fun zs z => nomatch z), h2, fun pos cv hc => ?_⟩
  obtain ⟨c, e1, e2⟩ := h3 pos cv hc
  exact ⟨c, e1, ne _ _ e2 fun zs z => by unfold CodeO at z; cases z⟩
/-- what the law knows of the heap: the pen, the lambda's table -/
structure Ls (K : PySem.W.Frag) (H : Hp) (p Pt : Addr) : Prop where
  pen : Pen K H p
  tab : Tabs [(Pt, nmL)] (hide p H)
theorem Ls.grow (L : Ls K H p Pt) (e : Same H H') : Ls K H' p Pt := ⟨pen_mono e L.pen, L.tab.ext (hide_same e)⟩
theorem Ls.drawn (L : Ls K H p Pt) (e : Same (hide p H) (hide p H')) (pen' : Pen K H' p) : Ls K H' p Pt := ⟨pen', L.tab.ext e⟩
theorem Ls.tabs (L : Ls K H p Pt) : Tabs [(Pt, nmL)] H := L.tab.ext hide_le
theorem Ls.right (L : Ls K H p Pt) (e : ExtN H H') (t : Tabs [(Pt, nmL)] H') : Ls K H' p Pt := by
  obtain ⟨a, xs, i, j, h1, h2⟩ := L.pen
  have hp : H' p = some (.lst [.ref a, .int i, .int j]) := e _ _ h1 fun ps z => nomatch z
  exact ⟨⟨a, xs, i, j, hp, ext_sql (hide_ext e) h2⟩, tabs_hide t hp⟩
def PL (K : PySem.W.Frag) (H : Hp) (xs : List V) (pl : List Pap) : Prop := Paired (PapAt K H) xs pl
theorem pl_mono (e : Same H H') {xs : List V} {pl : List Pap} (h : PL K H xs pl) : PL K H' xs pl := Paired.mono (fun _ _ h => pap_mono e h) h
theorem pl_ext (e : ExtN H H') {xs : List V} {pl : List Pap} (h : PL K H xs pl) : PL K H' xs pl := Paired.mono (fun _ _ h => pap_ext e h) h
theorem cut_take {α : Type} (l : List α) (d : Nat) (h : d ≤ l.length) : cut l none (some (d : Int)) = l.take d := by
  unfold cut
  have e1 : HT.sIx l.length 0 none = 0 := by simp [HT.sIx]
  have e2 : HT.sIx l.length l.length (some (d : Int)) = d := by
    unfold HT.sIx
    simp only
    rw [if_neg (by omega)]
    omega
  rw [e1, e2, List.drop_zero, Nat.sub_zero]
theorem cut_take1 {α : Type} (l : List α) : cut l none (some 1) = l.take 1 := by
  cases l with
  | nil => rfl
  | cons x l => exact cut_take (x :: l) 1 (by rw [List.length_cons]; omega)
theorem cut_drop1 {α : Type} (l : List α) : cut l (some 1) none = l.drop 1 := by
  unfold cut
  have e1 : HT.sIx l.length 0 (some 1) = min 1 l.length := by
    unfold HT.sIx
    simp only
    rw [if_neg (by decide)]
    rfl
  have e2 : HT.sIx l.length l.length none = l.length := by simp [HT.sIx]
  rw [e1, e2]
  cases l with
  | nil => rfl
  | cons x l => simp
theorem hide_tiesD {v : V} {ps : List (Nat × Nat)} {xs : List V} (h : Dp K H v (tiesD ps)) (hp : H p = some (.lst xs)) : Dp K (hide p H) v (tiesD ps) := by
  obtain ⟨b, zs, rfl, s, d⟩ := dp_tup h
  exact .tup (hide_sqt2 s (nt_lst hp)) (hide_ties (ts := zs) (nt_lst hp) d)
theorem pap_hide {v : V} {pap : Pap} {xs : List V} (h : PapAt K H v pap) (hp : H p = some (.lst xs)) (ne : pap = .lst → v ≠ .ref p) : PapAt K (hide p H) v pap := by
  cases pap with
  | non => exact h
  | lst =>
    obtain ⟨z, zs, rfl, hz⟩ := h
    exact ⟨z, zs, rfl, by rw [hide_ne (fun e => ne rfl (by rw [e]))]; exact hz⟩
  | tup t ps =>
    obtain ⟨z, ta, pb, zs, rfl, sz, sT, sP, dP⟩ := pap_vals h
    exact .tup (hide_sqt2 sz (nt_lst hp)) (.cons (.tup (hide_sqt2 sT (nt_lst hp)) (dpAll_ints t)) (.cons (.tup (hide_sqt2 sP (nt_lst hp)) (hide_ties (ts := zs) (nt_lst hp) dP)) .nil))
theorem hide_ordAll (n : NT (H p)) : ∀ {o : Ord} {ts : List V}, DpAll K H ts (o.map tupN) → DpAll K (hide p H) ts (o.map tupN)
  | [], _, .nil => .nil
  | _ :: _, _, .cons h d => .cons (hide_tupN2 h n) (hide_ordAll n d)
theorem hide_ord {v : V} {o : Ord} (h : Dp K H v (ordD o)) (n : NT (H p)) : Dp K (hide p H) v (ordD o) := by
  obtain ⟨b, zs, rfl, s, d⟩ := dp_tup h
  exact .tup (hide_sqt2 s n) (hide_ordAll n d)
theorem paired_at {α β : Type} {R : α → β → Prop} : ∀ {l : List α} {m : List β}, Paired R l m → ∀ {i : Nat} {x : α}, l[i]? = some x → ∃ y, y ∈ m ∧ R x y
  | _, _, .nil, _, _, h => nomatch h
  | _, _, .cons r t, 0, _, h => ⟨_, List.mem_cons_self, by cases h; exact r⟩
  | _, _, .cons r t, i + 1, _, h => by
    obtain ⟨y, h1, h2⟩ := paired_at t (i := i) h
    exact ⟨y, List.mem_cons_of_mem _ h1, h2⟩
theorem pap_tup {v : V} {t : List Nat} {ps : List (Nat × Nat)} {x y : V} {z : Addr} (e : v = .ref z) (hz : H z = some (.tup [x, y])) (hx : Dp K H x (tupN t)) (hy : Dp K H y (tiesD ps)) : PapAt K H v (.tup t ps) := by
  subst e
  exact .tup (.inl (.inl hz)) (.cons hx (.cons hy .nil))
end
section
variable {P : Program} {w : World} {K : PySem.W.Frag} {mg : Str → Option Value} {base : Heap} {C cF c Pt : Addr}
def sp_law (K : PySem.W.Frag) (Pt : Addr) : Sp := fun vs H Q _ => ∃ (a : Addr) (ns : List Int), vs = [.ref a] ∧ SqL K H a (ns.map V.int) ∧ Tabs [(Pt, nmL)] H ∧ ∀ H', Q (.bl true) H'
theorem ok_law (T : Tx K mg) (Xq : Exq K mg C) (Y : Ey K mg C) (gF : mg "FloorError" = some (.ref cF)) (eF : PySem.W.exmOne K (.ref C) (.ref cF) = some true) (R : Rt K mg c) (TB : TabB base mg c Pt)
    {f : Addr} {fd : FuncData} (F : FnP K "law" s_law f fd) : FnOk P w K mg base CX0 11 f fd ["_law_script"] (sp_law K Pt) := by
  have hright : FnOk P w K mg base CX0 10 R.f R.fd ["_law_web_here", "_law_paper"] (sp__law_right K Pt) := ok__law_right T Xq Y gF eF R TB
  refine F.ok sc_law (fun vs H Q E h => ?_) (fun cdv A outer s H vs Q E hr h => ?_)
  · obtain ⟨a, ns, rfl, _⟩ := h; rfl
  · obtain ⟨a, ns, rfl, ha, hT, q⟩ := h
    suffices hs : ∃ t, PSs (cxOf CX0 P w K mg base ["_law_script", "_law_pen_here", "_law_web_here", "_law_first", "_law_second", "_law_papers", "_law_paper", "_law_held", "_law_other"] "law" (defScope s_law) f cdv A outer s H E).nox (defBody s_law) t ∧ t { nx := fun _ H' => Q .non H', rt := Q } (L2.start ["_law_script", "_law_pen_here", "_law_web_here", "_law_first", "_law_second", "_law_papers", "_law_paper", "_law_held", "_law_other"] [.ref a]) H by
      obtain ⟨t, x, y⟩ := hs
      exact ⟨t, x.nox, y⟩
    refine ⟨_, (pss_cons (ps_set (i := 1) sc_law.nd rfl (by first | exact Or.inl rfl | exact Or.inr rfl) (pe_call (ok__law_pen T) (hr.mono (by decide)) (by rfl) T.d__law_pen.g T.d__law_pen.F.kp T.d__law_pen.b .nil pass0 (pa_cons (pv 0) pa_nil)))
 (pss_cons (ps_set (i := 2) sc_law.nd rfl (by first | exact Or.inl rfl | exact Or.inr rfl) (pe_call (ok__law_one T) (hr.mono (by decide)) (by rfl) T.d__law_one.g T.d__law_one.F.kp T.d__law_one.b .nil pass0 (pa_cons (pv 1) (pa_cons pe_int (pa_cons pe_int pa_nil)))))
 (pss_cons (ps_set (i := 3) sc_law.nd rfl (by first | exact Or.inl rfl | exact Or.inr rfl) (pe_call (ok__law_drawn_tree T) (hr.mono (by decide)) (by rfl) T.d__law_drawn_tree.g T.d__law_drawn_tree.F.kp T.d__law_drawn_tree.b .nil pass0 (pa_cons (pv 1) (pa_cons (pv 2) pa_nil))))
 (pss_cons (ps_set (i := 4) sc_law.nd rfl (by first | exact Or.inl rfl | exact Or.inr rfl) (pe_call (ok__law_drawn_tree T) (hr.mono (by decide)) (by rfl) T.d__law_drawn_tree.g T.d__law_drawn_tree.F.kp T.d__law_drawn_tree.b .nil pass0 (pa_cons (pv 1) (pa_cons (pv 2) pa_nil))))
 (pss_cons (ps_set (i := 5) sc_law.nd rfl (by first | exact Or.inl rfl | exact Or.inr rfl) (pe_lst (pa_cons (pv 3) (pa_cons (pv 4) (pa_cons (pe_tup (pa_cons (pe_ix ix_tup (pv 3) pe_int (fun _ _ => rfl)) (pa_cons (pe_slice sl_tupA (pe_ix ix_tup (pv 3) pe_int (fun _ _ => rfl)) po_none (po_some (pe_call (ok__law_draw T) (hr.mono (by decide)) (by rfl) T.d__law_draw.g T.d__law_draw.F.kp T.d__law_draw.b .nil pass0 (pa_cons (pv 1) (pa_cons (pe_op op_add (pe_callB call_len_seq (by rfl) T.n_len (by decide +kernel) (pa_cons (pe_ix ix_tup (pv 3) pe_int (fun _ _ => rfl)) pa_nil)) pe_int) pa_nil))))) pa_nil))) (pa_cons (pe_tup (pa_cons (pe_ix ix_tup (pv 3) pe_int (fun _ _ => rfl)) (pa_cons (pe_ix ix_tup (pv 4) pe_int (fun _ _ => rfl)) pa_nil))) pa_nil))))))
 (pss_cons (ps_set (i := 5) sc_law.nd rfl (by first | exact Or.inl rfl | exact Or.inr rfl) (pe_op op_cat (pv 5) (pe_lst (pa_cons (pe_tup (pa_cons (pe_ix ix_tup (pv 3) pe_int (fun _ _ => rfl)) (pa_cons (pe_op op_catA (pe_ix ix_tup (pv 3) pe_int (fun _ _ => rfl)) (pe_slice sl_tupA (pe_ix ix_tup (pv 3) pe_int (fun _ _ => rfl)) po_none (po_some pe_int))) pa_nil))) (pa_cons (pe_tup (pa_cons (pe_slice sl_tupA (pe_ix ix_tup (pv 3) pe_int (fun _ _ => rfl)) (po_some pe_int) po_none) (pa_cons (pe_tup pa_nil) pa_nil))) (pa_cons pe_non (pa_cons (pe_lst (pa_cons (pe_ix ix_tup (pv 3) pe_int (fun _ _ => rfl)) (pa_cons (pe_ix ix_tup (pv 3) pe_int (fun _ _ => rfl)) pa_nil))) (pa_cons (pe_tup (pa_cons (pe_tup pa_nil) (pa_cons (pe_tup pa_nil) pa_nil))) pa_nil))))))))
 (pss_cons (ps_for PassesOwn.never rfl (pi_list (pv 5)) (pg_name (i := 6) sc_law.nd rfl (by first | exact Or.inl rfl | exact Or.inr rfl))
  (pss_one (ps_if (pt_not (pt_val (pe_call hright (hr.mono (by decide)) (by rfl) R.g R.kp R.b .nil pass0 (pa_cons (pv 2) (pa_cons (pv 6) pa_nil)))))
  (pss_one (ps_ret pe_bl)) pss_nil)))
 (pss_cons (ps_set (i := 7) sc_law.nd rfl (by first | exact Or.inl rfl | exact Or.inr rfl) (pe_call (ok_laid T Xq) (hr.mono (by decide)) (by rfl) T.d_laid.g T.d_laid.F.kp T.d_laid.b .nil passLN (pa_cons (pv 2) (pa_cons (pv 3) pa_nil))))
 (pss_cons (ps_for PassesOwn.never rfl (pi_list (pe_lst (pa_cons (pe_call (ok__law_one T) (hr.mono (by decide)) (by rfl) T.d__law_one.g T.d__law_one.F.kp T.d__law_one.b .nil pass0 (pa_cons (pv 1) (pa_cons pe_int (pa_cons pe_int pa_nil)))) (pa_cons (pe_call (ok__law_web T) (hr.mono (by decide)) (by rfl) T.d__law_web.g T.d__law_web.F.kp T.d__law_web.b .nil pass0 (pa_cons (pv 1) (pa_cons pe_int (pa_cons pe_int pa_nil)))) pa_nil)))) (pg_name (i := 8) sc_law.nd rfl (by first | exact Or.inl rfl | exact Or.inr rfl))
  (pss_one (ps_if (PW.pt (pw_or (pt_not (pt_val (pe_call hright (hr.mono (by decide)) (by rfl) R.g R.kp R.b .nil pass0 (pa_cons (pv 8) (pa_cons (pv 3) pa_nil))))) (pw_or1 (pt_not (pt_val (pe_call hright (hr.mono (by decide)) (by rfl) R.g R.kp R.b .nil pass0 (pa_cons (pv 8) (pa_cons (pe_tup (pa_cons (pe_tup pa_nil) (pa_cons (pe_tup pa_nil) pa_nil))) pa_nil))))))))
  (pss_one (ps_ret pe_bl)) pss_nil)))
 (pss_one (ps_ret (pe_cmpR (op_eqD hr.units) (pe_call (ok_laid T Xq) (hr.mono (by decide)) (by rfl) T.d_laid.g T.d_laid.F.kp T.d_laid.b .nil passLN (pa_cons (pv 2) (pa_cons (pv 3) pa_nil))) (pv 7) (nomark _))))))))))))), ?_⟩
    have two : 2 ≤ sizeLine := by decide
    refine ⟨_, rfl, a, ns, rfl, ha, fun H1 p s1 nP pen1 => ?_⟩
    have L1 : Ls K H1 p Pt := by
      obtain ⟨_, _, _, _, hp, _⟩ := id pen1
      exact ⟨pen1, tabs_hide (hT.ext s1) hp⟩
    refine ⟨_, rfl, p, rfl, L1.pen, fun H2 v W e2 pen2 dv h0 h25 h24 hin hone => ?_⟩
    have L2 := L1.drawn e2 pen2
    refine ⟨_, rfl, _, rfl, p, v, W, rfl, pen2, dv, h0, h25, h24, hin, hone, fun H3 u1 t1 ps1 e3 pen3 d1 sh1 lt1 lp1 => ?_⟩
    have L3 := L2.drawn e3 pen3
    have dv3 := dp_mono e3 dv
    refine ⟨_, rfl, _, rfl, p, v, W, rfl, pen3, dv3, h0, h25, h24, hin, hone, fun H4 u2 t2 ps2 e4 pen4 d2 sh2 lt2 lp2 => ?_⟩
    have L4 := L3.drawn e4 pen4
    have dv4 := dp_mono e4 dv3
    have d14 := dp_mono e4 d1
    obtain ⟨a1, ta1, pb1, zs1, rfl, sa1, sT1, sP1, dP1⟩ := pap_vals d14
    obtain ⟨a2, ta2, pb2, zs2, rfl, sa2, sT2, sP2, dP2⟩ := pap_vals d2
    have zl1 := dpAll_len dP1
    rw [List.length_map] at zl1
    have g4 : Same (hide p H4) H4 := hide_le
    -- the first four
    obtain ⟨pa, pxs, pi, pj, hp4, hs4⟩ := id pen4
    refine ⟨_, rfl, _, rfl, _, rfl, a1, _, _, _, rfl, rfl, same_sqt g4 sa1, atI_nat (j := 0) rfl, _, rfl, a1, _, _, _, rfl, rfl, same_sqt g4 sa1, atI_nat (j := 1) rfl, ?_⟩
    refine ⟨_, rfl, _, rfl, a1, _, _, _, rfl, rfl, same_sqt g4 sa1, atI_nat (j := 1) rfl, pb1, zs1, rfl, .inr (same_sqt g4 sP1), _, _, rfl, rfl, p, pa, pxs, ps1.length + 1, by show [V.ref p, V.int ((zs1.length : Nat) + 1 : Int)] = _; rw [zl1]; rfl, ⟨pi, pj, hp4⟩, hs4, by omega, by omega, fun d H5 hd e5 pen5 => ⟨_, rfl, ?_⟩⟩
    have L5 : Ls K H5 p Pt := L4.drawn (by rw [e5]; exact Same.refl _) (pen_of pen5 (by rw [e5]; exact hs4))
    have g5 : Same (hide p H4) H5 := by rw [← e5]; exact hide_le
    obtain ⟨qi, qj, hp5⟩ := pen5
    have T1 : Dp K H5 (.ref ta1) (tupN t1) := tupN_of (same_sqt g5 sT1)
    have P1 : Dp K H5 (.ref pb1) (tiesD ps1) := .tup (same_sqt g5 sP1) (dpAll_mono g5 dP1)
    have P2 : Dp K H5 (.ref pb2) (tiesD ps2) := .tup (same_sqt g5 sP2) (dpAll_mono g5 dP2)
    have A1 : SqT K H5 a1 [.ref ta1, .ref pb1] := same_sqt g5 sa1
    have A2 : SqT K H5 a2 [.ref ta2, .ref pb2] := same_sqt g5 sa2
    refine slT (ds := ps1.map tieD) P1 fun x3 H6 s6 d6 => ?_
    rw [cut_take _ d (by rw [List.length_map]; omega), ← List.map_take] at d6
    refine ⟨two, fun z3 n3 => ?_⟩
    have s7 := s6.trans (same_upd (o := .tup [.ref ta1, x3]) n3)
    have c3 : PapAt K (upd H6 z3 (.tup [.ref ta1, x3])) (.ref z3) (.tup t1 (ps1.take d)) := pap_tup rfl upd_same (dp_mono s7 T1) (dp_mono (same_upd n3) d6)
    generalize (upd H6 z3 (.tup [.ref ta1, x3])) = H7 at *
    refine ⟨_, rfl, a1, _, _, _, rfl, rfl, same_sqt s7 A1, atI_nat (j := 0) rfl, _, rfl, a2, _, _, _, rfl, rfl, same_sqt s7 A2, atI_nat (j := 1) rfl, two, fun z4 n4 => ?_⟩
    have r8 := same_upd (o := .tup [.ref ta1, .ref pb2]) n4
    have s8 := s7.trans r8
    have c4 : PapAt K (upd H7 z4 (.tup [.ref ta1, .ref pb2])) (.ref z4) (.tup t1 ps2) := pap_tup rfl upd_same (dp_mono s8 T1) (dp_mono s8 P2)
    have c3 := pap_mono r8 c3
    generalize (upd H7 z4 (.tup [.ref ta1, .ref pb2])) = H8 at *
    refine ⟨by show 4 ≤ sizeLine; decide, fun Lp nLp => ?_⟩
    have r9 := same_upd (o := .lst [.ref a1, .ref a2, .ref z3, .ref z4]) nLp
    have s9 := s8.trans r9
    have hLp : (upd H8 Lp (.lst [.ref a1, .ref a2, .ref z3, .ref z4])) Lp = some (.lst [.ref a1, .ref a2, .ref z3, .ref z4]) := upd_same
    have c3 := pap_mono r9 c3
    have c4 := pap_mono r9 c4
    show tSeq _ _ _ _ (upd H8 Lp (.lst [.ref a1, .ref a2, .ref z3, .ref z4]))
    generalize (upd H8 Lp (.lst [.ref a1, .ref a2, .ref z3, .ref z4])) = H9 at *
    -- the others
    refine ⟨_, rfl, _, rfl, a1, _, _, _, rfl, rfl, same_sqt s9 A1, atI_nat (j := 0) rfl, _, rfl, a1, _, _, _, rfl, rfl, same_sqt s9 A1, atI_nat (j := 1) rfl, _, rfl, a1, _, _, _, rfl, rfl, same_sqt s9 A1, atI_nat (j := 1) rfl, ?_⟩
    refine ⟨1, rfl, slT (ds := ps1.map tieD) (dp_mono s9 P1) fun x5 H10 s10 d10 => ?_⟩
    rw [cut_take1, ← List.map_take] at d10
    refine catT (ds := ps1.map tieD) (dp_mono (s9.trans s10) P1) d10 (by rw [List.length_map, List.length_map, List.length_take]; omega) fun x6 H11 s11 d11 => ?_
    rw [← List.map_append] at d11
    refine ⟨two, fun z5 n5 => ?_⟩
    have r12 := same_upd (o := .tup [.ref ta1, x6]) n5
    have s12 := ((s9.trans s10).trans s11).trans r12
    have c5 : PapAt K (upd H11 z5 (.tup [.ref ta1, x6])) (.ref z5) (.tup t1 (ps1 ++ ps1.take 1)) := pap_tup rfl upd_same (dp_mono s12 T1) (dp_mono r12 d11)
    have m12 : Same H9 (upd H11 z5 (.tup [.ref ta1, x6])) := (s10.trans s11).trans r12
    have c3 := pap_mono m12 c3
    have c4 := pap_mono m12 c4
    have hLp := m12 _ _ hLp
    generalize (upd H11 z5 (.tup [.ref ta1, x6])) = H12 at *
    refine ⟨_, rfl, a1, _, _, _, rfl, rfl, same_sqt s12 A1, atI_nat (j := 0) rfl, ?_⟩
    refine ⟨1, rfl, ?_⟩
    dsimp only [tNoPart]
    refine slT (ds := intsD t1) (dp_mono s12 T1) fun x7 H13 s13 d13 => ?_
    rw [cut_drop1, show (intsD t1).drop 1 = intsD (t1.drop 1) by unfold intsD; rw [List.map_drop]] at d13
    refine ⟨Nat.zero_le _, fun z6 n6 => ⟨two, fun z7 n7 => ?_⟩⟩
    have r14 := same_upd (o := .tup []) n6
    have r15 := same_upd (o := .tup [x7, .ref z6]) n7
    have m15 := (s13.trans r14).trans r15
    have c7 : PapAt K (upd (upd H13 z6 (.tup [])) z7 (.tup [x7, .ref z6])) (.ref z7) (.tup (t1.drop 1) []) := pap_tup rfl upd_same (dp_mono (r14.trans r15) d13) (.tup (.inl (.inl (r15 _ _ upd_same))) .nil)
    have s15 := s12.trans m15
    have c3 := pap_mono m15 c3
    have c4 := pap_mono m15 c4
    have c5 := pap_mono m15 c5
    have hLp := m15 _ _ hLp
    generalize (upd (upd H13 z6 (.tup [])) z7 (.tup [x7, .ref z6])) = H15 at *
    refine ⟨_, rfl, a1, _, _, _, rfl, rfl, same_sqt s15 A1, atI_nat (j := 0) rfl, _, rfl, a1, _, _, _, rfl, rfl, same_sqt s15 A1, atI_nat (j := 1) rfl, two, fun z8 n8 => ?_⟩
    have r16 := same_upd (o := .lst [.ref ta1, .ref pb1]) n8
    have s16 := s15.trans r16
    have z8p : z8 ≠ p := (ne_of_none (s15 _ _ hp5) n8).symm
    have c8 : PapAt K (upd H15 z8 (.lst [.ref ta1, .ref pb1])) (.ref z8) .lst := ⟨z8, _, rfl, upd_same⟩
    have c3 := pap_mono r16 c3
    have c4 := pap_mono r16 c4
    have c5 := pap_mono r16 c5
    have c7 := pap_mono r16 c7
    have hLp := r16 _ _ hLp
    generalize (upd H15 z8 (.lst [.ref ta1, .ref pb1])) = H16 at *
    refine ⟨Nat.zero_le _, fun w1 k1 => ⟨Nat.zero_le _, fun w2 k2 => ⟨two, fun z9 n9 => ?_⟩⟩⟩
    have r17 := same_upd (o := .tup []) k1
    have r18 := same_upd (o := .tup []) k2
    have r19 := same_upd (o := .tup [.ref w1, .ref w2]) n9
    have m19 := (r17.trans r18).trans r19
    have c9 : PapAt K (upd (upd (upd H16 w1 (.tup [])) w2 (.tup [])) z9 (.tup [.ref w1, .ref w2])) (.ref z9) (.tup [] []) := pap_tup rfl upd_same (.tup (.inl (.inl ((r18.trans r19) _ _ upd_same))) .nil) (.tup (.inl (.inl (r19 _ _ upd_same))) .nil)
    have s19 := s16.trans m19
    have c3 := pap_mono m19 c3
    have c4 := pap_mono m19 c4
    have c5 := pap_mono m19 c5
    have c7 := pap_mono m19 c7
    have c8 := pap_mono m19 c8
    have hLp := m19 _ _ hLp
    generalize (upd (upd (upd H16 w1 (.tup [])) w2 (.tup [])) z9 (.tup [.ref w1, .ref w2])) = H19 at *
    refine ⟨by show 5 ≤ sizeLine; decide, fun Lq nLq => ?_⟩
    have r20 := same_upd (o := .lst [.ref z5, .ref z7, .non, .ref z8, .ref z9]) nLq
    refine ⟨Lp, Lq, _, _, rfl, rfl, r20 _ _ hLp, upd_same, by show 9 ≤ sizeLine; decide, fun Lr nLr => ?_⟩
    have r21 := same_upd (o := .lst ([.ref a1, .ref a2, .ref z3, .ref z4] ++ [.ref z5, .ref z7, .non, .ref z8, .ref z9])) nLr
    have m21 := r20.trans r21
    have s21 := s19.trans m21
    have hLr : (upd (upd H19 Lq (.lst [.ref z5, .ref z7, .non, .ref z8, .ref z9])) Lr (.lst ([.ref a1, .ref a2, .ref z3, .ref z4] ++ [.ref z5, .ref z7, .non, .ref z8, .ref z9]))) Lr = some (.lst ([.ref a1, .ref a2, .ref z3, .ref z4] ++ [.ref z5, .ref z7, .non, .ref z8, .ref z9])) := upd_same
    have LrP : Lr ≠ p := (ne_of_none ((s19.trans r20) _ _ hp5) nLr).symm
    have f5 := hide_same (D := p) s21
    rw [e5] at f5
    have b1 : PapAt K (hide p (upd (upd H19 Lq (.lst [.ref z5, .ref z7, .non, .ref z8, .ref z9])) Lr (.lst ([.ref a1, .ref a2, .ref z3, .ref z4] ++ [.ref z5, .ref z7, .non, .ref z8, .ref z9])))) (.ref a1) (.tup t1 ps1) := dp_mono f5 d14
    have b2 : PapAt K (hide p (upd (upd H19 Lq (.lst [.ref z5, .ref z7, .non, .ref z8, .ref z9])) Lr (.lst ([.ref a1, .ref a2, .ref z3, .ref z4] ++ [.ref z5, .ref z7, .non, .ref z8, .ref z9])))) (.ref a2) (.tup t2 ps2) := dp_mono f5 d2
    have dw := dp_mono f5 dv4
    have c3 := pap_mono m21 c3
    have c4 := pap_mono m21 c4
    have c5 := pap_mono m21 c5
    have c7 := pap_mono m21 c7
    have c8 := pap_mono m21 c8
    have c9 := pap_mono m21 c9
    have hpR := s21 _ _ hp5
    have LR := L5.grow s21
    show tSeq _ _ _ _ (upd (upd H19 Lq (.lst [.ref z5, .ref z7, .non, .ref z8, .ref z9])) Lr (.lst ([.ref a1, .ref a2, .ref z3, .ref z4] ++ [.ref z5, .ref z7, .non, .ref z8, .ref z9])))
    generalize (upd (upd H19 Lq (.lst [.ref z5, .ref z7, .non, .ref z8, .ref z9])) Lr (.lst ([.ref a1, .ref a2, .ref z3, .ref z4] ++ [.ref z5, .ref z7, .non, .ref z8, .ref z9]))) = HR at *
    have z8n : V.ref z8 ≠ V.ref p := fun e => z8p (by injection e)
    have pl : PL K (hide p HR) ([.ref a1, .ref a2, .ref z3, .ref z4] ++ [.ref z5, .ref z7, .non, .ref z8, .ref z9]) [.tup t1 ps1, .tup t2 ps2, .tup t1 (ps1.take d), .tup t1 ps2, .tup t1 (ps1 ++ ps1.take 1), .tup (t1.drop 1) [], .non, .lst, .tup [] []] :=
      .cons b1 (.cons b2 (.cons (pap_hide c3 hpR (fun e => nomatch e)) (.cons (pap_hide c4 hpR (fun e => nomatch e)) (.cons (pap_hide c5 hpR (fun e => nomatch e)) (.cons (pap_hide c7 hpR (fun e => nomatch e)) (.cons rfl (.cons (pap_hide c8 hpR (fun _ => z8n)) (.cons (pap_hide c9 hpR (fun e => nomatch e)) .nil))))))))
    have few : ∀ q ∈ [Pap.tup t1 ps1, .tup t2 ps2, .tup t1 (ps1.take d), .tup t1 ps2, .tup t1 (ps1 ++ ps1.take 1), .tup (t1.drop 1) [], .non, .lst, .tup [] []], q.few := by
      have i1 : (ps1.take d).length ≤ 12 := by rw [List.length_take]; omega
      have i2 : (ps1 ++ ps1.take 1).length ≤ 13 := by rw [List.length_append, List.length_take]; omega
      have i3 : (t1.drop 1).length ≤ 24 := by rw [List.length_drop]; omega
      intro q hq
      simp only [List.mem_cons, List.not_mem_nil, or_false] at hq
      rcases hq with rfl | rfl | rfl | rfl | rfl | rfl | rfl | rfl | rfl
      · exact ⟨by omega, by omega⟩
      · exact ⟨by omega, by omega⟩
      · exact ⟨by omega, by omega⟩
      · exact ⟨by omega, by omega⟩
      · exact ⟨by omega, by omega⟩
      · exact ⟨by omega, Nat.zero_le _⟩
      · trivial
      · trivial
      · exact ⟨Nat.zero_le _, Nat.zero_le _⟩
    generalize ([.ref a1, .ref a2, .ref z3, .ref z4] ++ [.ref z5, .ref z7, .non, .ref z8, .ref z9] : List V) = xs at *
    generalize [Pap.tup t1 ps1, .tup t2 ps2, .tup t1 (ps1.take d), .tup t1 ps2, .tup t1 (ps1 ++ ps1.take 1), .tup (t1.drop 1) [], .non, .lst, .tup [] []] = pls at *
    refine ⟨_, rfl, Lr, rfl, ⟨_, .inl (.inl hLr)⟩, for_list (K := K) (a := Lr) (xs := xs) (fun i σ H' => ∃ y6, σ = [some (.ref a), some (.ref p), some v, some (.ref a1), some (.ref a2), some (.ref Lr), y6, none, none] ∧ Ls K H' p Pt ∧ H' Lr = some (.lst xs) ∧ Dp K (hide p H') v (webD W) ∧ PapAt K (hide p H') (.ref a1) (.tup t1 ps1) ∧ PL K (hide p H') xs pls)
      ⟨none, rfl, LR, hLr, dw, b1, pl⟩ (fun i σ H' _ ⟨_, _, _, h, _⟩ => .inl (.inl h)) ?_ ?_⟩
    · rintro i x σ H' hx ⟨y6, rfl, L, hl, dw, b1, pl⟩
      obtain ⟨pap, hpm, hp⟩ := paired_at pl hx
      refine ⟨_, rfl, _, rfl, v, x, W, pap, rfl, L.tabs, dp_mono hide_le dw, pap_mono hide_le hp, few _ hpm, hin, h0, h25, h24, fun H'' eN T' => ⟨true, rfl, iteF ?_⟩⟩
      exact ⟨some x, rfl, L.right eN T', eN _ _ hl (fun ps z => nomatch z), dp_ext (hide_ext eN) dw, pap_ext (hide_ext eN) b1, pl_ext (hide_ext eN) pl⟩
    · rintro σ H' ⟨y6, rfl, L, hl, dw, b1, pl⟩
      clear pl hl
      refine ⟨_, rfl, _, rfl, v, .ref a1, W, .tup t1 ps1, rfl, dp_mono hide_le dw, pap_mono hide_le b1, ⟨by omega, by omega⟩, hin, h25, h24, fun t' ps' e hsh' H23 u s23 du => ?_, fun hno => absurd ⟨sh1, rfl⟩ (hno ps1.length)⟩
      cases e
      have L23 := L.grow s23
      have dw := dp_mono (hide_same s23) dw
      have b1 := pap_mono (hide_same s23) b1
      obtain ⟨_, _, _, _, hp23, _⟩ := id L23.pen
      have du := hide_ord du (nt_lst hp23)
      refine ⟨_, rfl, p, rfl, L23.pen, fun H24 v2 W2 e24 pen24 dv2 z0 z25 z24 zin zone => ?_⟩
      have L24 := L23.drawn e24 pen24
      have dw := dp_mono e24 dw
      have b1 := pap_mono e24 b1
      have du := dp_mono e24 du
      refine ⟨_, rfl, p, rfl, L24.pen, fun H25 v3 W3 e25 pen25 dv3 x0 x25 x24 xin => ?_⟩
      have L25 := L24.drawn e25 pen25
      have dw := dp_mono e25 dw
      have b1 := pap_mono e25 b1
      have du := dp_mono e25 du
      have dv2 := dp_mono e25 dv2
      refine ⟨two, fun Ld nLd => ?_⟩
      have sd := same_upd (o := .lst [v2, v3]) nLd
      have L26 := L25.grow sd
      have dw := dp_mono (hide_same (D := p) sd) dw
      have b1 := pap_mono (hide_same (D := p) sd) b1
      have du := dp_mono (hide_same (D := p) sd) du
      have dv2 := dp_mono (hide_same (D := p) sd) dv2
      have dv3 := dp_mono (hide_same (D := p) sd) dv3
      have hLd : (upd H25 Ld (.lst [v2, v3])) Ld = some (.lst [v2, v3]) := upd_same
      generalize (upd H25 Ld (.lst [v2, v3])) = H26 at *
      refine ⟨Ld, rfl, ⟨_, .inl (.inl hLd)⟩, for_list (K := K) (a := Ld) (xs := [v2, v3]) (fun i σ H' => ∃ y8, σ = [some (.ref a), some (.ref p), some v, some (.ref a1), some (.ref a2), some (.ref Lr), y6, some u, y8] ∧ Ls K H' p Pt ∧ H' Ld = some (.lst [v2, v3]) ∧ Dp K (hide p H') v (webD W) ∧ PapAt K (hide p H') (.ref a1) (.tup t1 ps1) ∧ Dp K (hide p H') u (ordD (laidM W t1 ps1)) ∧ Dp K (hide p H') v2 (webD W2) ∧ Dp K (hide p H') v3 (webD W3))
        ⟨none, rfl, L26, hLd, dw, b1, du, dv2, dv3⟩ (fun i σ H' _ ⟨_, _, _, h, _⟩ => .inl (.inl h)) ?_ ?_⟩
      · rintro i x σ H27 hx ⟨y8, rfl, L, hl, dw, b1, du, dv2, dv3⟩
        obtain ⟨Wx, dx, w0, w25, w24, win⟩ : ∃ Wx, Dp K (hide p H27) x (webD Wx) ∧ 0 < Wx.1 ∧ Wx.1 ≤ 25 ∧ Wx.2.length ≤ 24 ∧ InR Wx.1 Wx.2 := by
          rcases i with _ | _ | i
          · cases hx; exact ⟨W2, dv2, z0, z25, z24, zin⟩
          · cases hx; exact ⟨W3, dv3, x0, x25, x24, xin⟩
          · exact nomatch hx
        refine ⟨_, rfl, _, rfl, x, .ref a1, Wx, .tup t1 ps1, rfl, L.tabs, dp_mono hide_le dx, pap_mono hide_le b1, ⟨by omega, by omega⟩, win, w0, w25, w24, fun H28 eN T' => ⟨true, rfl, ?_⟩⟩
        have L := L.right eN T'
        have hl := eN _ _ hl (fun ps z => nomatch z)
        have dx := dp_ext (hide_ext (p := p) eN) dx
        have dw := dp_ext (hide_ext (p := p) eN) dw
        have du := dp_ext (hide_ext (p := p) eN) du
        have dv2 := dp_ext (hide_ext (p := p) eN) dv2
        have dv3 := dp_ext (hide_ext (p := p) eN) dv3
        have b1 := pap_ext (hide_ext (p := p) eN) b1
        refine ⟨_, rfl, Nat.zero_le _, fun y1 k1 => ⟨Nat.zero_le _, fun y2 k2 => ⟨two, fun y9 n9 => ?_⟩⟩⟩
        have r1 := same_upd (o := .tup []) k1
        have r2 := same_upd (o := .tup []) k2
        have r3 := same_upd (o := .tup [.ref y1, .ref y2]) n9
        have r := (r1.trans r2).trans r3
        have c9 : PapAt K (upd (upd (upd H28 y1 (.tup [])) y2 (.tup [])) y9 (.tup [.ref y1, .ref y2])) (.ref y9) (.tup [] []) := pap_tup rfl upd_same (.tup (.inl (.inl ((r2.trans r3) _ _ upd_same))) .nil) (.tup (.inl (.inl (r3 _ _ upd_same))) .nil)
        have L := L.grow r
        have T' := T'.ext r
        have hl := r _ _ hl
        have r' := hide_same (D := p) r
        have dx := dp_mono r' dx
        have dw := dp_mono r' dw
        have du := dp_mono r' du
        have dv2 := dp_mono r' dv2
        have dv3 := dp_mono r' dv3
        have b1 := pap_mono r' b1
        generalize (upd (upd (upd H28 y1 (.tup [])) y2 (.tup [])) y9 (.tup [.ref y1, .ref y2])) = H29 at *
        refine ⟨x, .ref y9, Wx, .tup [] [], rfl, T', dp_mono hide_le dx, c9, ⟨Nat.zero_le _, Nat.zero_le _⟩, win, w0, w25, w24, fun H30 eN T' => ⟨true, rfl, iteF ?_⟩⟩
        exact ⟨some x, rfl, L.right eN T', eN _ _ hl (fun ps z => nomatch z), dp_ext (hide_ext eN) dw, pap_ext (hide_ext eN) b1, dp_ext (hide_ext eN) du, dp_ext (hide_ext eN) dv2, dp_ext (hide_ext eN) dv3⟩
      · rintro σ H27 ⟨y8, rfl, L, hl, dw, b1, du, dv2, dv3⟩
        refine ⟨_, rfl, _, rfl, v, .ref a1, W, .tup t1 ps1, rfl, dp_mono hide_le dw, pap_mono hide_le b1, ⟨by omega, by omega⟩, hin, h25, h24, fun t' ps' e hsh' H28 u2 s28 du2 => ?_, fun hno => absurd ⟨sh1, rfl⟩ (hno ps1.length)⟩
        cases e
        refine ⟨_, rfl, ?_⟩
        refine ⟨ordD (laidM W t1 ps1), ordD (laidM W t1 ps1), du2, dp_mono s28 (dp_mono hide_le du), sh_shaped (sh_ord _) (by omega), sh_shaped (sh_ord _) (by omega), ?_⟩
        rw [SeqAt.eqv_refl _ (sh_ord _).1]
        exact q _
end
end HF
end

section
set_option Elab.async false
set_option linter.all false
set_option autoImplicit false
set_option maxRecDepth 100000
set_option maxHeartbeats 0
namespace Hx
open PySem PySem.Spec PyProof.Rows L2
def dd (x : Str) (st : Stmt) : He.DefD := ⟨(x, none), x, x, defArgs st, defBody st, defScope st, [], []⟩

def fn : List He.DefD := [dd "is_whole" HF.s_is_whole, dd "is_row" HF.s_is_row, dd "are_whole" HF.s_are_whole, dd "is_rising" HF.s_is_rising, dd "partner" HF.s_partner, dd "place_of" HF.s_place_of, dd "ends_of" HF.s_ends_of, dd "ends_at" HF.s_ends_at, dd "parts_by" HF.s_parts_by, dd "parts_of" HF.s_parts_of, dd "is_one_part" HF.s_is_one_part, dd "begun" HF.s_begun, dd "row_of" HF.s_row_of, dd "order_of" HF.s_order_of, dd "follower" HF.s_follower, dd "is_corner" HF.s_is_corner, dd "corner_place" HF.s_corner_place, dd "put_behind" HF.s_put_behind, dd "put_in" HF.s_put_in, dd "onward" HF.s_onward, dd "face_of" HF.s_face_of, dd "lone_faces" HF.s_lone_faces, dd "faces" HF.s_faces, dd "is_tree" HF.s_is_tree, dd "in_common" HF.s_in_common, dd "is_pair" HF.s_is_pair, dd "tree_shows" HF.s_tree_shows, dd "corners_at" HF.s_corners_at, dd "with_tie" HF.s_with_tie, dd "in_one" HF.s_in_one, dd "renamed" HF.s_renamed, dd "laid" HF.s_laid, dd "_law_pen" HF.s__law_pen, dd "_law_draw" HF.s__law_draw, dd "_law_web" HF.s__law_web, dd "_law_one" HF.s__law_one, dd "_law_whole" HF.s__law_whole, dd "_law_word" HF.s__law_word, dd "_law_told" HF.s__law_told, dd "_law_partner" HF.s__law_partner, dd "_law_faces" HF.s__law_faces, dd "_law_parts" HF.s__law_parts, dd "_law_holes" HF.s__law_holes, dd "_law_is_order" HF.s__law_is_order, dd "_law_ties" HF.s__law_ties, dd "_law_tree" HF.s__law_tree, dd "_law_drawn_tree" HF.s__law_drawn_tree, dd "_law_right" HF.s__law_right, dd "law" HF.s_law]
def fa : List He.Fa := [.glo "is_whole", .glo "is_row", .glo "are_whole", .glo "is_rising", .glo "partner", .glo "place_of", .glo "ends_of", .glo "ends_at", .glo "parts_by", .glo "parts_of", .glo "is_one_part", .glo "begun", .glo "row_of", .glo "order_of", .glo "follower", .glo "is_corner", .glo "corner_place", .glo "put_behind", .glo "put_in", .glo "onward", .glo "face_of", .glo "lone_faces", .glo "faces", .glo "is_tree", .glo "in_common", .glo "is_pair", .glo "tree_shows", .glo "corners_at", .glo "with_tie", .glo "in_one", .glo "renamed", .glo "laid", .glo "_law_pen", .glo "_law_draw", .glo "_law_web", .glo "_law_one", .glo "_law_whole", .glo "_law_word", .glo "_law_told", .glo "_law_partner", .glo "_law_faces", .glo "_law_parts", .glo "_law_holes", .glo "_law_is_order", .glo "_law_ties", .glo "_law_tree", .glo "_law_drawn_tree", .glo "_law_right", .glo "law", .free "abs", .free "isinstance", .free "sorted", .free "int", .free "ValueError", .free "max", .free "enumerate", .free "zip", .free "len", .free "list", .free "all", .free "tuple", .free "min", .free "bool", .free "set", .free "range", .int "MOST_TIES" 24, .glo "FloorError", .glo "NoWeb", .glo "NoOrder", .glo "NoNumber", .glo "NoEnd", .glo "NoTie", .glo "NoPlace", .glo "NoTable", .glo "NoRing", .glo "NoPaper", .glo "Apart", .glo "TooMany", .glo "TooGreat", .glo "NoName", .glo "NoRow", .glo "NoText", .exc "NoPaper", .exm "NoPaper" "FloorError" true]
def kits : List (Str × Bool) := [("NoWeb", false), ("NoOrder", false), ("NoNumber", false), ("NoEnd", false), ("NoTie", false), ("NoPlace", false), ("NoTable", false), ("NoRing", false), ("NoPaper", true), ("Apart", false), ("TooMany", false), ("TooGreat", false), ("NoName", false), ("NoRow", false), ("NoText", false)]
abbrev R : PySem.W.OpenRow := PySem.W.OpenLaw.row PySem.Challenge.rw_holefloor_k59_whole_laid_by_trees
def rc (K : PySem.W.Frag) : Addr := match K.lookup (He.ga K "_law_right") with
  | some ⟨_, _, .func fd, _⟩ => (match fd.code with
    | .ref c => c
    | _ => 0)
  | _ => 0
def rcB (K : PySem.W.Frag) : Bool := match K.lookup (He.ga K "_law_right") with
  | some ⟨_, _, .func fd, _⟩ => (match fd.code with
    | .ref _ => true
    | _ => false)
  | _ => false
def rp (K : PySem.W.Frag) : Addr := match K.lookup (rc K) with
  | some ⟨_, _, .fields vs, _⟩ => (match (vs[11]? : Option Value) with
    | some (.ref P) => P
    | _ => 0)
  | _ => 0
def excB (K : PySem.W.Frag) (D : Addr) : Bool :=
  He.eqO (PySem.W.findIn K (.ref D) "__getattribute__") (some (some (.builtin "BaseException.__getattribute__"))) && (He.eqO (PySem.W.findIn K (.ref D) "__getattr__") (some none) &&
  (decide (PySem.W.subIn K (.ref D) (.type "BaseException") = some true) && (PySem.W.hasDictIn K D && (He.eqO (PySem.W.findIn K (.ref D) "__class__") (some (some (.builtin "object.__class__"))) &&
  (He.eqO (PySem.W.specialIn K (.builtin "object.__class__") "__get__") (some (some (.builtin "getset_descriptor.__get__"))) && (decide (PySem.W.takesIn K (.builtin "object.__class__") = some true) && decide (PySem.W.mroIn K D (.type "object") = some true)))))))
theorem excB_ok {K : PySem.W.Frag} {D : Addr} (h : excB K D = true) : ExcC K D := by
  obtain ⟨h1, h⟩ := He.ba h
  obtain ⟨h2, h⟩ := He.ba h
  obtain ⟨h3, h⟩ := He.ba h
  obtain ⟨h4, h⟩ := He.ba h
  obtain ⟨h5, h⟩ := He.ba h
  obtain ⟨h6, h⟩ := He.ba h
  obtain ⟨h7, h8⟩ := He.ba h
  exact ⟨He.eqO_ok h1, He.eqO_ok h2, of_decide_eq_true h3, h4, He.eqO_ok h5, He.eqO_ok h6, of_decide_eq_true h7, of_decide_eq_true h8⟩
def xok (K : PySem.W.Frag) : Bool := rcB K && (PySem.W.codeHdIn K (rc K) (rp K) && ((K.lookup (rp K)).isNone && (excB K (He.ga K "NoPaper") &&
  (decide (PySem.W.kitOne K (.ref (He.ga K "NoPaper")) (.type "ValueError") = some true) && kits.all fun q => decide (PySem.W.kitOne K (.ref (He.ga K "NoPaper")) (.ref (He.ga K q.1)) = some q.2)))))
abbrev AlX : Type := He.AlD × Bool × Option Obj
def obG (g : Addr → Option Obj) : AlX := (He.obsDG 2 fa fn g, xok (He.frG g (He.asD g 2)), g (rp (He.frG g (He.asD g 2))))
def hk : PySem.W.Hook where
  α := AlX
  obs := fun s => obG s.heap.get?
  val := fun _ => (He.valD fn, true, some (PySem.W.tabObj #[]))
  says := fun _ h => ∃ K : PySem.W.Frag, K.In h ∧ He.SaysD fa fn K ∧ xok K = true ∧ h.get? (rp K) = some (PySem.W.tabObj #[])
  of := fun _ _ e => ⟨_, He.frG_in, (Prod.mk.inj e).1, (Prod.mk.inj (Prod.mk.inj e).2).1, (Prod.mk.inj (Prod.mk.inj e).2).2⟩
  keeps := fun _ _ _ ⟨K, hK, c, x, t⟩ k => ⟨K, PySem.W.Frag.In.keeps hK k, c, x, k _ _ t⟩
def ob (s : PySem.W.SharedT) : AlX := obG (HandSHeadRun.getT s)
theorem ob_eq (s : PySem.W.SharedT) : ob s = hk.obs s.abs := by
  have e : HandSHeadRun.getT s = s.abs.heap.get? := funext (HandSHeadRun.getT_eq s)
  unfold ob
  rw [e] <;> rfl

def nm0 : List PySem.Str := ["FloorError", "NoWeb", "NoOrder", "NoNumber", "NoEnd", "NoTie", "NoPlace", "NoTable", "NoRing", "NoPaper", "Apart", "TooMany", "TooGreat", "NoName", "NoRow", "NoText", "MOST_TIES", "is_whole", "is_row", "are_whole", "is_rising", "partner", "place_of", "ends_of", "ends_at", "parts_by", "parts_of", "is_one_part", "begun", "row_of"]
def nm1 : List PySem.Str := ["order_of", "follower", "is_corner", "corner_place", "put_behind", "put_in", "onward", "face_of", "lone_faces", "faces", "is_tree", "in_common", "is_pair", "tree_shows", "corners_at", "with_tie", "in_one", "renamed", "laid", "_law_pen", "_law_draw", "_law_web", "_law_one", "_law_whole", "_law_word", "_law_told", "_law_partner", "_law_faces", "_law_parts", "_law_holes"]
def nm2 : List PySem.Str := ["_law_is_order", "_law_ties", "_law_tree", "_law_drawn_tree", "_law_right"]
abbrev nms : List PySem.Str := nm0 ++ nm1 ++ nm2
theorem run (w : World) : HandSHeadRun.RunEq R (PySem.W.view R.prog [73]) hk ob 20000 nms w := by
  intro os
  kernel_rfl

section
variable {K : PySem.W.Frag} {h : Heap} {mg : Str → Option Value}
theorem mkT (X : K.In h) (G : h.Ns mainGlobals mg) (c : He.SaysD fa fn K) {x : Str} {st : Stmt} {ps : List Str} (i j : Nat) (hi : fn[i]? = some (dd x st)) (hj : fa[j]? = some (.glo x))
    (hb : ∀ fd : FuncData, HF.FnP K x st (He.ga K x) fd → L2.Binds K fd ps []) : ∃ T : HF.DefT K mg x st ps, T.f = He.ga K x := by
  obtain ⟨fd, F⟩ := c.def_ i (d := dd x st) hi
  exact ⟨⟨_, fd, F, He.glo_ok X G (c.fact j (f := .glo x) hj), hb fd F⟩, rfl⟩
theorem tx (X : K.In h) (G : h.Ns mainGlobals mg) (c : He.SaysD fa fn K) : ∃ T : HF.Tx K mg, True := by
  obtain ⟨T_is_whole, _⟩ := mkT X G c (x := "is_whole") (st := HF.s_is_whole) (ps := ["thing"]) 0 0 rfl rfl fun fd F => FunD.bindsN F fun _ _ _ _ _ _ us hl => match us, hl with | [_], _ => rfl
  obtain ⟨T_is_row, _⟩ := mkT X G c (x := "is_row") (st := HF.s_is_row) (ps := ["thing"]) 1 1 rfl rfl fun fd F => FunD.bindsN F fun _ _ _ _ _ _ us hl => match us, hl with | [_], _ => rfl
  obtain ⟨T_are_whole, _⟩ := mkT X G c (x := "are_whole") (st := HF.s_are_whole) (ps := ["things"]) 2 2 rfl rfl fun fd F => FunD.bindsN F fun _ _ _ _ _ _ us hl => match us, hl with | [_], _ => rfl
  obtain ⟨T_is_rising, _⟩ := mkT X G c (x := "is_rising") (st := HF.s_is_rising) (ps := ["things", "most"]) 3 3 rfl rfl fun fd F => FunD.bindsN F fun _ _ _ _ _ _ us hl => match us, hl with | [_, _], _ => rfl
  obtain ⟨T_partner, _⟩ := mkT X G c (x := "partner") (st := HF.s_partner) (ps := ["end"]) 4 4 rfl rfl fun fd F => FunD.bindsN F fun _ _ _ _ _ _ us hl => match us, hl with | [_], _ => rfl
  obtain ⟨T_place_of, _⟩ := mkT X G c (x := "place_of") (st := HF.s_place_of) (ps := ["web", "end"]) 5 5 rfl rfl fun fd F => FunD.bindsN F fun _ _ _ _ _ _ us hl => match us, hl with | [_, _], _ => rfl
  obtain ⟨T_ends_of, _⟩ := mkT X G c (x := "ends_of") (st := HF.s_ends_of) (ps := ["web"]) 6 6 rfl rfl fun fd F => FunD.bindsN F fun _ _ _ _ _ _ us hl => match us, hl with | [_], _ => rfl
  obtain ⟨T_ends_at, _⟩ := mkT X G c (x := "ends_at") (st := HF.s_ends_at) (ps := ["web", "place"]) 7 7 rfl rfl fun fd F => FunD.bindsN F fun _ _ _ _ _ _ us hl => match us, hl with | [_, _], _ => rfl
  obtain ⟨T_parts_by, _⟩ := mkT X G c (x := "parts_by") (st := HF.s_parts_by) (ps := ["many", "ties"]) 8 8 rfl rfl fun fd F => FunD.bindsN F fun _ _ _ _ _ _ us hl => match us, hl with | [_, _], _ => rfl
  obtain ⟨T_parts_of, _⟩ := mkT X G c (x := "parts_of") (st := HF.s_parts_of) (ps := ["web"]) 9 9 rfl rfl fun fd F => FunD.bindsN F fun _ _ _ _ _ _ us hl => match us, hl with | [_], _ => rfl
  obtain ⟨T_is_one_part, _⟩ := mkT X G c (x := "is_one_part") (st := HF.s_is_one_part) (ps := ["web"]) 10 10 rfl rfl fun fd F => FunD.bindsN F fun _ _ _ _ _ _ us hl => match us, hl with | [_], _ => rfl
  obtain ⟨T_begun, _⟩ := mkT X G c (x := "begun") (st := HF.s_begun) (ps := ["row"]) 11 11 rfl rfl fun fd F => FunD.bindsN F fun _ _ _ _ _ _ us hl => match us, hl with | [_], _ => rfl
  obtain ⟨T_row_of, _⟩ := mkT X G c (x := "row_of") (st := HF.s_row_of) (ps := ["row", "ends"]) 12 12 rfl rfl fun fd F => FunD.bindsN F fun _ _ _ _ _ _ us hl => match us, hl with | [_, _], _ => rfl
  obtain ⟨T_order_of, _⟩ := mkT X G c (x := "order_of") (st := HF.s_order_of) (ps := ["web", "rows"]) 13 13 rfl rfl fun fd F => FunD.bindsN F fun _ _ _ _ _ _ us hl => match us, hl with | [_, _], _ => rfl
  obtain ⟨T_follower, _⟩ := mkT X G c (x := "follower") (st := HF.s_follower) (ps := ["web", "order", "end"]) 14 14 rfl rfl fun fd F => FunD.bindsN F fun _ _ _ _ _ _ us hl => match us, hl with | [_, _, _], _ => rfl
  obtain ⟨T_is_corner, _⟩ := mkT X G c (x := "is_corner") (st := HF.s_is_corner) (ps := ["web", "order", "corner"]) 15 15 rfl rfl fun fd F => FunD.bindsN F fun _ _ _ _ _ _ us hl => match us, hl with | [_, _, _], _ => rfl
  obtain ⟨T_corner_place, _⟩ := mkT X G c (x := "corner_place") (st := HF.s_corner_place) (ps := ["web", "corner"]) 16 16 rfl rfl fun fd F => FunD.bindsN F fun _ _ _ _ _ _ us hl => match us, hl with | [_, _], _ => rfl
  obtain ⟨T_put_behind, _⟩ := mkT X G c (x := "put_behind") (st := HF.s_put_behind) (ps := ["row", "corner", "end"]) 17 17 rfl rfl fun fd F => FunD.bindsN F fun _ _ _ _ _ _ us hl => match us, hl with | [_, _, _], _ => rfl
  obtain ⟨T_put_in, _⟩ := mkT X G c (x := "put_in") (st := HF.s_put_in) (ps := ["web", "order", "one", "other"]) 18 18 rfl rfl fun fd F => FunD.bindsN F fun _ _ _ _ _ _ us hl => match us, hl with | [_, _, _, _], _ => rfl
  obtain ⟨T_onward, _⟩ := mkT X G c (x := "onward") (st := HF.s_onward) (ps := ["web", "order", "end"]) 19 19 rfl rfl fun fd F => FunD.bindsN F fun _ _ _ _ _ _ us hl => match us, hl with | [_, _, _], _ => rfl
  obtain ⟨T_face_of, _⟩ := mkT X G c (x := "face_of") (st := HF.s_face_of) (ps := ["web", "order", "end"]) 20 20 rfl rfl fun fd F => FunD.bindsN F fun _ _ _ _ _ _ us hl => match us, hl with | [_, _, _], _ => rfl
  obtain ⟨T_lone_faces, _⟩ := mkT X G c (x := "lone_faces") (st := HF.s_lone_faces) (ps := ["order"]) 21 21 rfl rfl fun fd F => FunD.bindsN F fun _ _ _ _ _ _ us hl => match us, hl with | [_], _ => rfl
  obtain ⟨T_faces, _⟩ := mkT X G c (x := "faces") (st := HF.s_faces) (ps := ["web", "order"]) 22 22 rfl rfl fun fd F => FunD.bindsN F fun _ _ _ _ _ _ us hl => match us, hl with | [_, _], _ => rfl
  obtain ⟨T_is_tree, _⟩ := mkT X G c (x := "is_tree") (st := HF.s_is_tree) (ps := ["web", "tree"]) 23 23 rfl rfl fun fd F => FunD.bindsN F fun _ _ _ _ _ _ us hl => match us, hl with | [_, _], _ => rfl
  obtain ⟨T_in_common, _⟩ := mkT X G c (x := "in_common") (st := HF.s_in_common) (ps := ["web", "i", "j"]) 24 24 rfl rfl fun fd F => FunD.bindsN F fun _ _ _ _ _ _ us hl => match us, hl with | [_, _, _], _ => rfl
  obtain ⟨T_is_pair, _⟩ := mkT X G c (x := "is_pair") (st := HF.s_is_pair) (ps := ["web", "pair"]) 25 25 rfl rfl fun fd F => FunD.bindsN F fun _ _ _ _ _ _ us hl => match us, hl with | [_, _], _ => rfl
  obtain ⟨T_tree_shows, _⟩ := mkT X G c (x := "tree_shows") (st := HF.s_tree_shows) (ps := ["web", "paper"]) 26 26 rfl rfl fun fd F => FunD.bindsN F fun _ _ _ _ _ _ us hl => match us, hl with | [_, _], _ => rfl
  obtain ⟨T_corners_at, _⟩ := mkT X G c (x := "corners_at") (st := HF.s_corners_at) (ps := ["order", "place"]) 27 27 rfl rfl fun fd F => FunD.bindsN F fun _ _ _ _ _ _ us hl => match us, hl with | [_, _], _ => rfl
  obtain ⟨T_with_tie, _⟩ := mkT X G c (x := "with_tie") (st := HF.s_with_tie) (ps := ["floor", "pair"]) 28 28 rfl rfl fun fd F => FunD.bindsN F fun _ _ _ _ _ _ us hl => match us, hl with | [_, _], _ => rfl
  obtain ⟨T_in_one, _⟩ := mkT X G c (x := "in_one") (st := HF.s_in_one) (ps := ["floor", "pair"]) 29 29 rfl rfl fun fd F => FunD.bindsN F fun _ _ _ _ _ _ us hl => match us, hl with | [_, _], _ => rfl
  obtain ⟨T_renamed, _⟩ := mkT X G c (x := "renamed") (st := HF.s_renamed) (ps := ["web", "order", "names"]) 30 30 rfl rfl fun fd F => FunD.bindsN F fun _ _ _ _ _ _ us hl => match us, hl with | [_, _, _], _ => rfl
  obtain ⟨T_laid, _⟩ := mkT X G c (x := "laid") (st := HF.s_laid) (ps := ["web", "paper"]) 31 31 rfl rfl fun fd F => FunD.bindsN F fun _ _ _ _ _ _ us hl => match us, hl with | [_, _], _ => rfl
  obtain ⟨T__law_pen, _⟩ := mkT X G c (x := "_law_pen") (st := HF.s__law_pen) (ps := ["_law_script"]) 32 32 rfl rfl fun fd F => FunD.bindsN F fun _ _ _ _ _ _ us hl => match us, hl with | [_], _ => rfl
  obtain ⟨T__law_draw, _⟩ := mkT X G c (x := "_law_draw") (st := HF.s__law_draw) (ps := ["_law_pen_here", "_law_many"]) 33 33 rfl rfl fun fd F => FunD.bindsN F fun _ _ _ _ _ _ us hl => match us, hl with | [_, _], _ => rfl
  obtain ⟨T__law_web, _⟩ := mkT X G c (x := "_law_web") (st := HF.s__law_web) (ps := ["_law_pen_here", "_law_places", "_law_ties_here"]) 34 34 rfl rfl fun fd F => FunD.bindsN F fun _ _ _ _ _ _ us hl => match us, hl with | [_, _, _], _ => rfl
  obtain ⟨T__law_one, _⟩ := mkT X G c (x := "_law_one") (st := HF.s__law_one) (ps := ["_law_pen_here", "_law_places", "_law_ties_here"]) 35 35 rfl rfl fun fd F => FunD.bindsN F fun _ _ _ _ _ _ us hl => match us, hl with | [_, _, _], _ => rfl
  obtain ⟨T__law_whole, _⟩ := mkT X G c (x := "_law_whole") (st := HF.s__law_whole) (ps := ["_law_found"]) 36 36 rfl rfl fun fd F => FunD.bindsN F fun _ _ _ _ _ _ us hl => match us, hl with | [_], _ => rfl
  obtain ⟨T__law_word, _⟩ := mkT X G c (x := "_law_word") (st := HF.s__law_word) (ps := ["_law_e"]) 37 37 rfl rfl fun fd F => FunD.bindsN F fun _ _ _ _ _ _ us hl => match us, hl with | [_], _ => rfl
  obtain ⟨T__law_told, _⟩ := mkT X G c (x := "_law_told") (st := HF.s__law_told) (ps := ["_law_asked"]) 38 38 rfl rfl fun fd F => FunD.bindsN F fun _ _ _ _ _ _ us hl => match us, hl with | [_], _ => rfl
  obtain ⟨T__law_partner, _⟩ := mkT X G c (x := "_law_partner") (st := HF.s__law_partner) (ps := ["_law_end"]) 39 39 rfl rfl fun fd F => FunD.bindsN F fun _ _ _ _ _ _ us hl => match us, hl with | [_], _ => rfl
  obtain ⟨T__law_faces, _⟩ := mkT X G c (x := "_law_faces") (st := HF.s__law_faces) (ps := ["_law_order"]) 40 40 rfl rfl fun fd F => FunD.bindsN F fun _ _ _ _ _ _ us hl => match us, hl with | [_], _ => rfl
  obtain ⟨T__law_parts, _⟩ := mkT X G c (x := "_law_parts") (st := HF.s__law_parts) (ps := ["_law_web_here"]) 41 41 rfl rfl fun fd F => FunD.bindsN F fun _ _ _ _ _ _ us hl => match us, hl with | [_], _ => rfl
  obtain ⟨T__law_holes, _⟩ := mkT X G c (x := "_law_holes") (st := HF.s__law_holes) (ps := ["_law_web_here", "_law_order"]) 42 42 rfl rfl fun fd F => FunD.bindsN F fun _ _ _ _ _ _ us hl => match us, hl with | [_, _], _ => rfl
  obtain ⟨T__law_is_order, _⟩ := mkT X G c (x := "_law_is_order") (st := HF.s__law_is_order) (ps := ["_law_web_here", "_law_found"]) 43 43 rfl rfl fun fd F => FunD.bindsN F fun _ _ _ _ _ _ us hl => match us, hl with | [_, _], _ => rfl
  obtain ⟨T__law_ties, _⟩ := mkT X G c (x := "_law_ties") (st := HF.s__law_ties) (ps := ["_law_web_here", "_law_things"]) 44 44 rfl rfl fun fd F => FunD.bindsN F fun _ _ _ _ _ _ us hl => match us, hl with | [_, _], _ => rfl
  obtain ⟨T__law_tree, _⟩ := mkT X G c (x := "_law_tree") (st := HF.s__law_tree) (ps := ["_law_web_here", "_law_paper"]) 45 45 rfl rfl fun fd F => FunD.bindsN F fun _ _ _ _ _ _ us hl => match us, hl with | [_, _], _ => rfl
  obtain ⟨T__law_drawn_tree, _⟩ := mkT X G c (x := "_law_drawn_tree") (st := HF.s__law_drawn_tree) (ps := ["_law_pen_here", "_law_web_here"]) 46 46 rfl rfl fun fd F => FunD.bindsN F fun _ _ _ _ _ _ us hl => match us, hl with | [_, _], _ => rfl
  obtain ⟨T__law_right, _⟩ := mkT X G c (x := "_law_right") (st := HF.s__law_right) (ps := ["_law_web_here", "_law_paper"]) 47 47 rfl rfl fun fd F => FunD.bindsN F fun _ _ _ _ _ _ us hl => match us, hl with | [_, _], _ => rfl
  obtain ⟨T_law, _⟩ := mkT X G c (x := "law") (st := HF.s_law) (ps := ["_law_script"]) 48 48 rfl rfl fun fd F => FunD.bindsN F fun _ _ _ _ _ _ us hl => match us, hl with | [_], _ => rfl
  exact ⟨⟨T_is_whole, T_is_row, T_are_whole, T_is_rising, T_partner, T_place_of, T_ends_of, T_ends_at, T_parts_by, T_parts_of, T_is_one_part, T_begun, T_row_of, T_order_of, T_follower, T_is_corner, T_corner_place, T_put_behind, T_put_in, T_onward, T_face_of, T_lone_faces, T_faces, T_is_tree, T_in_common, T_is_pair, T_tree_shows, T_corners_at, T_with_tie, T_in_one, T_renamed, T_laid, T__law_pen, T__law_draw, T__law_web, T__law_one, T__law_whole, T__law_word, T__law_told, T__law_partner, T__law_faces, T__law_parts, T__law_holes, T__law_is_order, T__law_ties, T__law_tree, T__law_drawn_tree, T__law_right, T_law, He.free_ok X G (c.fact 49 (f := .free "abs") rfl), He.free_ok X G (c.fact 50 (f := .free "isinstance") rfl), He.free_ok X G (c.fact 51 (f := .free "sorted") rfl), He.free_ok X G (c.fact 52 (f := .free "int") rfl), He.free_ok X G (c.fact 53 (f := .free "ValueError") rfl), He.free_ok X G (c.fact 54 (f := .free "max") rfl), He.free_ok X G (c.fact 55 (f := .free "enumerate") rfl), He.free_ok X G (c.fact 56 (f := .free "zip") rfl), He.free_ok X G (c.fact 57 (f := .free "len") rfl), He.free_ok X G (c.fact 58 (f := .free "list") rfl), He.free_ok X G (c.fact 59 (f := .free "all") rfl), He.free_ok X G (c.fact 60 (f := .free "tuple") rfl), He.free_ok X G (c.fact 61 (f := .free "min") rfl), He.free_ok X G (c.fact 62 (f := .free "bool") rfl), He.free_ok X G (c.fact 63 (f := .free "set") rfl), He.free_ok X G (c.fact 64 (f := .free "range") rfl), He.int_ok X G (c.fact 65 (f := .int "MOST_TIES" 24) rfl), ⟨_, He.glo_ok X G (c.fact 66 (f := .glo "FloorError") rfl)⟩⟩, trivial⟩
theorem exq (X : K.In h) (G : h.Ns mainGlobals mg) (c : He.SaysD fa fn K) : HF.Exq K mg (He.ga K "NoPaper") := by
  obtain ⟨h1, h2, h3, h4⟩ := He.exc_ok (c.fact 82 (f := .exc "NoPaper") rfl)
  exact ⟨He.glo_ok X G (c.fact 75 (f := .glo "NoPaper") rfl), h1, h2, h3, h4⟩
theorem kit_ {b : Bool} {x : Str} (h : (kits.all fun q => decide (PySem.W.kitOne K (.ref (He.ga K "NoPaper")) (.ref (He.ga K q.1)) = some q.2)) = true) (i : Nat) (hi : kits[i]? = some (x, b)) : PySem.W.kitOne K (.ref (He.ga K "NoPaper")) (.ref (He.ga K x)) = some b :=
  of_decide_eq_true (List.all_eq_true.mp h (x, b) (List.mem_of_getElem? hi))
theorem ey (X : K.In h) (G : h.Ns mainGlobals mg) (c : He.SaysD fa fn K) (x : xok K = true) : ∃ Y : HF.Ey K mg (He.ga K "NoPaper"), True := by
  obtain ⟨_, x⟩ := He.ba x
  obtain ⟨_, x⟩ := He.ba x
  obtain ⟨_, x⟩ := He.ba x
  obtain ⟨x1, x⟩ := He.ba x
  obtain ⟨x2, x⟩ := He.ba x
  exact ⟨⟨excB_ok x1, of_decide_eq_true x2, _, He.glo_ok X G (c.fact 76 (f := .glo "Apart") rfl), kit_ x 9 rfl, _, He.glo_ok X G (c.fact 70 (f := .glo "NoEnd") rfl), kit_ x 3 rfl, _, He.glo_ok X G (c.fact 79 (f := .glo "NoName") rfl), kit_ x 12 rfl, _, He.glo_ok X G (c.fact 69 (f := .glo "NoNumber") rfl), kit_ x 2 rfl, _, He.glo_ok X G (c.fact 68 (f := .glo "NoOrder") rfl), kit_ x 1 rfl, _, He.glo_ok X G (c.fact 75 (f := .glo "NoPaper") rfl), kit_ x 8 rfl, _, He.glo_ok X G (c.fact 72 (f := .glo "NoPlace") rfl), kit_ x 5 rfl, _, He.glo_ok X G (c.fact 74 (f := .glo "NoRing") rfl), kit_ x 7 rfl, _, He.glo_ok X G (c.fact 80 (f := .glo "NoRow") rfl), kit_ x 13 rfl, _, He.glo_ok X G (c.fact 73 (f := .glo "NoTable") rfl), kit_ x 6 rfl, _, He.glo_ok X G (c.fact 81 (f := .glo "NoText") rfl), kit_ x 14 rfl, _, He.glo_ok X G (c.fact 71 (f := .glo "NoTie") rfl), kit_ x 4 rfl, _, He.glo_ok X G (c.fact 67 (f := .glo "NoWeb") rfl), kit_ x 0 rfl, _, He.glo_ok X G (c.fact 78 (f := .glo "TooGreat") rfl), kit_ x 11 rfl, _, He.glo_ok X G (c.fact 77 (f := .glo "TooMany") rfl), kit_ x 10 rfl⟩, trivial⟩
theorem rt (X : K.In h) (G : h.Ns mainGlobals mg) (c : He.SaysD fa fn K) (x : xok K = true) : ∃ R : HF.Rt K mg (rc K), True := by
  obtain ⟨x, _⟩ := He.ba x
  obtain ⟨fd, F⟩ := c.def_ 47 (d := dd "_law_right" HF.s__law_right) rfl
  have b : L2.Binds K fd ["_law_web_here", "_law_paper"] [] := FunD.bindsN F fun _ _ _ _ _ _ us hl => match us, hl with | [_, _], _ => rfl
  obtain ⟨oc, od, dV, kV, doc, pm, an, cdv, ct, osl, efd, lk, cd, _, _⟩ := F.ex
  have lk2 : K.lookup (He.ga K "_law_right") = some ⟨oc, od, .func fd, osl⟩ := lk
  have e : cdv = .ref (rc K) := by
    unfold rcB at x
    unfold rc
    rw [lk2, efd] at x
    rw [lk2, efd]
    cases cdv with
    | ref a => rfl
    | _ => cases x
  rw [e] at efd cd
  exact ⟨⟨_, fd, ⟨oc, od, dV, kV, doc, pm, an, ct, osl, efd, lk, cd⟩, F.kp, He.glo_ok X G (c.fact 47 (f := .glo "_law_right") rfl), b⟩, trivial⟩
end
end Hx
open PySem PySem.W PySem.Calls PyProof.Rows
theorem PySem.Challenge.cw_holefloor_k59_whole_laid_by_trees_holds : PySem.Challenge.rw_holefloor_k59_whole_laid_by_trees.Holds := by
  w_on; o_law
  refine HandSHeadRun.head_any (r := OpenLaw.row PySem.Challenge.rw_holefloor_k59_whole_laid_by_trees) (q := view (OpenLaw.row PySem.Challenge.rw_holefloor_k59_whole_laid_by_trees).prog [73]) (H := Hx.hk) (ob := Hx.ob) (M := 20000) (loose := Hx.nms) (d := HandSHeadRun.topDef (OpenLaw.row PySem.Challenge.rw_holefloor_k59_whole_laid_by_trees).prog 73) (kwd := []) Hx.ob_eq
    (by kernel_rfl) (fun s => by kernel_rfl) Hx.run (by kernel_rfl) (by kernel_rfl) (by kernel_rfl) (by rfl) (by first | assumption | decide +kernel) (by decide +kernel) ⟨rfl, rfl, rfl, rfl, rfl, by decide +kernel⟩ ?hw ?hc
  case hw => w_witness2
  case hc =>
    refine LamX.walk_ofTsE (l := PySem.Challenge.rw_holefloor_k59_whole_laid_by_trees) (n := 63) (k := 11) (x := "_law_script") (CX := fun _ => L2.CX0) rfl (by decide) (by kernel_rfl) ⟨rfl, by decide, by decide⟩ ?F (fun _ _ _ _ _ z => z)
    intro w mg fa h Y G hmg0
    obtain ⟨K, KX, c, x, t⟩ := Y
    have hmg : mg ("law" : PySem.Str) = some (.ref fa) := by
      have e : (HandSHeadRun.topDef (OpenLaw.row PySem.Challenge.rw_holefloor_k59_whole_laid_by_trees).prog 73).name = ("law" : PySem.Str) := by kernel_rfl
      rw [← e]
      exact hmg0
    obtain ⟨fd, F⟩ := c.def_ 48 (d := Hx.dd "law" HF.s_law) rfl
    have e := hmg.symm.trans (He.glo_ok KX G (c.fact 48 (f := .glo "law") rfl))
    cases e
    have b := L2.FunD.bindsA (ps := ["_law_script"]) F fun _ _ _ _ _ _ us hl => match us, hl with | [_], _ => rfl
    obtain ⟨hc1, hc2⟩ := He.ba (He.ba x).2
    obtain ⟨hc3, _⟩ := He.ba hc2
    refine ⟨K, KX, fd, [(Hx.rc K, Hx.rp K)], HF.sp_law K (Hx.rp K), fun p hp => ?_, fun p hp => ?_, fun p hp => ?_, fun s v => b s [v] rfl, fun H a ns hl _ hT hS => ⟨a, ns, rfl, hS, fun q hq => ?_, fun _ => rfl⟩, fun base KB GB TB => ?_⟩
    · rw [List.mem_singleton.mp hp]; exact t
    · rw [List.mem_singleton.mp hp]; exact Option.isNone_iff_eq_none.mp hc3
    · rw [List.mem_singleton.mp hp]; exact codeHd_of_K KX hc1
    · rw [List.mem_singleton.mp hq]
      exact LamX.TabS.nil (hT _ (List.mem_singleton.mpr rfl))
    · obtain ⟨T, _⟩ := Hx.tx KX G c
      obtain ⟨Y, _⟩ := Hx.ey KX G c x
      obtain ⟨R, _⟩ := Hx.rt KX G c x
      exact HF.ok_law T (Hx.exq KX G c) Y (He.glo_ok KX G (c.fact 66 (f := .glo "FloorError") rfl)) (He.exm_ok (c.fact 83 (f := .exm "NoPaper" "FloorError" true) rfl)) R (TB _ (List.mem_singleton.mpr rfl)) F
end
