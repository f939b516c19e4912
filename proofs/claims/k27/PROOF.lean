import PyProof.Rows.All
import Wide.All
import OpenK.AllK
import Wide.FinOn
import HandS.ForMost
import HandS.Defaults
import HandS.HeadHook1
import HandS.HeadHook2
import HandS.HeadEnd
import HandS.IsInst
import HandS.Flow
import HandS.Style
import HandS.Zip
import HandS.Rev
import HandS.TupAny
import HandS.Strs
import HandS.SortInts
import HandS.Conv
import HandS.SetFor
import HandS.SetKeys
import HandS.TupLe
import HandS.Wide
import HandS.WideBits
import PySem.Challenge.RW_unwound_k27_whole_sparing_plays_and_tree
import KE.KStateDown
import HandS.Head0
import HandS.Head1
import HandS.Head2
import HandS.Walk
import KE.KDictList
import KE.KDictWalk
import KE.GoesEnum
import KE.KRevSl
set_option Elab.async false
set_option maxRecDepth 100000
set_option maxHeartbeats 4000000
namespace K27
open PySem L2
def top (i : Nat) : Stmt := PySem.Challenge.pw_unwound_k27_whole_sparing_plays_and_tree.main.body.getD i (.Pass ⟨0, 0, 0, 0⟩)
abbrev st_is_number : Stmt := top 1
abbrev st_tuple_of : Stmt := top 2
abbrev st_is_tuple_of : Stmt := top 3
abbrev st_is_set : Stmt := top 5
abbrev st_is_shape : Stmt := top 6
abbrev st_masks_of : Stmt := top 7
abbrev st_knots_of : Stmt := top 8
abbrev st_lots_behind : Stmt := top 9
abbrev st_gone_through : Stmt := top 10
abbrev st_way_back : Stmt := top 11
abbrev st_lots_to_top : Stmt := top 12
abbrev st_played : Stmt := top 13
abbrev st_web_cells : Stmt := top 14
abbrev st_is_play : Stmt := top 15
abbrev st_users_of : Stmt := top 16
abbrev st_kept_of : Stmt := top 17
abbrev st_sparing_way : Stmt := top 18
abbrev st_sparing_cells : Stmt := top 19
abbrev st_sparing_play : Stmt := top 20
abbrev st_is_sparing : Stmt := top 21
abbrev st_are_knots : Stmt := top 22
abbrev st_tree_knots : Stmt := top 23
abbrev st_is_tree : Stmt := top 24
abbrev st_law_box : Stmt := top 26
abbrev st_law_take : Stmt := top 27
abbrev st_law_cells : Stmt := top 28
abbrev st_law_same : Stmt := top 29
abbrev st_law_lists : Stmt := top 30
abbrev st_law_is_number : Stmt := top 31
abbrev st_law_shape : Stmt := top 32
abbrev st_law_plays : Stmt := top 33
abbrev st_law_tree_knots : Stmt := top 34
abbrev st_law_is_tree : Stmt := top 35
abbrev st_law_kept : Stmt := top 36
abbrev st_law_least : Stmt := top 37
abbrev st_law_spares : Stmt := top 38
abbrev st_law_rule : Stmt := top 39
abbrev st_law_lone_shape : Stmt := top 40
abbrev st_law_sprout : Stmt := top 41
abbrev st_law_by_hand_right : Stmt := top 42
abbrev st_law_right : Stmt := top 43
abbrev st_law : Stmt := top 44
abbrev FnP (K : PySem.W.Frag) (x : Str) (st : Stmt) (f : Addr) (fd : FuncData) : Prop := FunD K x x (defArgs st) (defBody st) (defScope st) [] [] f fd
/-- what the top leaves: each def at its name, the built-ins free -/
structure Txt (K : PySem.W.Frag) (mg : Str → Option Value) : Prop where
  d_is_number : ∃ f fd, mg "is_number" = some (.ref f) ∧ FnP K "is_number" st_is_number f fd
  d_tuple_of : ∃ f fd, mg "tuple_of" = some (.ref f) ∧ FnP K "tuple_of" st_tuple_of f fd
  d_is_tuple_of : ∃ f fd, mg "is_tuple_of" = some (.ref f) ∧ FnP K "is_tuple_of" st_is_tuple_of f fd
  d_is_set : ∃ f fd, mg "is_set" = some (.ref f) ∧ FnP K "is_set" st_is_set f fd
  d_is_shape : ∃ f fd, mg "is_shape" = some (.ref f) ∧ FnP K "is_shape" st_is_shape f fd
  d_masks_of : ∃ f fd, mg "masks_of" = some (.ref f) ∧ FnP K "masks_of" st_masks_of f fd
  d_knots_of : ∃ f fd, mg "knots_of" = some (.ref f) ∧ FnP K "knots_of" st_knots_of f fd
  d_lots_behind : ∃ f fd, mg "lots_behind" = some (.ref f) ∧ FnP K "lots_behind" st_lots_behind f fd
  d_gone_through : ∃ f fd, mg "gone_through" = some (.ref f) ∧ FnP K "gone_through" st_gone_through f fd
  d_way_back : ∃ f fd, mg "way_back" = some (.ref f) ∧ FnP K "way_back" st_way_back f fd
  d_lots_to_top : ∃ f fd, mg "lots_to_top" = some (.ref f) ∧ FnP K "lots_to_top" st_lots_to_top f fd
  d_played : ∃ f fd, mg "played" = some (.ref f) ∧ FnP K "played" st_played f fd
  d_web_cells : ∃ f fd, mg "web_cells" = some (.ref f) ∧ FnP K "web_cells" st_web_cells f fd
  d_is_play : ∃ f fd, mg "is_play" = some (.ref f) ∧ FnP K "is_play" st_is_play f fd
  d_users_of : ∃ f fd, mg "users_of" = some (.ref f) ∧ FnP K "users_of" st_users_of f fd
  d_kept_of : ∃ f fd, mg "kept_of" = some (.ref f) ∧ FnP K "kept_of" st_kept_of f fd
  d_sparing_way : ∃ f fd, mg "sparing_way" = some (.ref f) ∧ FnP K "sparing_way" st_sparing_way f fd
  d_sparing_cells : ∃ f fd, mg "sparing_cells" = some (.ref f) ∧ FnP K "sparing_cells" st_sparing_cells f fd
  d_sparing_play : ∃ f fd, mg "sparing_play" = some (.ref f) ∧ FnP K "sparing_play" st_sparing_play f fd
  d_is_sparing : ∃ f fd, mg "is_sparing" = some (.ref f) ∧ FnP K "is_sparing" st_is_sparing f fd
  d_are_knots : ∃ f fd, mg "are_knots" = some (.ref f) ∧ FnP K "are_knots" st_are_knots f fd
  d_tree_knots : ∃ f fd, mg "tree_knots" = some (.ref f) ∧ FnP K "tree_knots" st_tree_knots f fd
  d_is_tree : ∃ f fd, mg "is_tree" = some (.ref f) ∧ FnP K "is_tree" st_is_tree f fd
  d_law_box : ∃ f fd, mg "_law_box" = some (.ref f) ∧ FnP K "_law_box" st_law_box f fd
  d_law_take : ∃ f fd, mg "_law_take" = some (.ref f) ∧ FnP K "_law_take" st_law_take f fd
  d_law_cells : ∃ f fd, mg "_law_cells" = some (.ref f) ∧ FnP K "_law_cells" st_law_cells f fd
  d_law_same : ∃ f fd, mg "_law_same" = some (.ref f) ∧ FnP K "_law_same" st_law_same f fd
  d_law_lists : ∃ f fd, mg "_law_lists" = some (.ref f) ∧ FnP K "_law_lists" st_law_lists f fd
  d_law_is_number : ∃ f fd, mg "_law_is_number" = some (.ref f) ∧ FnP K "_law_is_number" st_law_is_number f fd
  d_law_shape : ∃ f fd, mg "_law_shape" = some (.ref f) ∧ FnP K "_law_shape" st_law_shape f fd
  d_law_plays : ∃ f fd, mg "_law_plays" = some (.ref f) ∧ FnP K "_law_plays" st_law_plays f fd
  d_law_tree_knots : ∃ f fd, mg "_law_tree_knots" = some (.ref f) ∧ FnP K "_law_tree_knots" st_law_tree_knots f fd
  d_law_is_tree : ∃ f fd, mg "_law_is_tree" = some (.ref f) ∧ FnP K "_law_is_tree" st_law_is_tree f fd
  d_law_kept : ∃ f fd, mg "_law_kept" = some (.ref f) ∧ FnP K "_law_kept" st_law_kept f fd
  d_law_least : ∃ f fd, mg "_law_least" = some (.ref f) ∧ FnP K "_law_least" st_law_least f fd
  d_law_spares : ∃ f fd, mg "_law_spares" = some (.ref f) ∧ FnP K "_law_spares" st_law_spares f fd
  d_law_rule : ∃ f fd, mg "_law_rule" = some (.ref f) ∧ FnP K "_law_rule" st_law_rule f fd
  d_law_lone_shape : ∃ f fd, mg "_law_lone_shape" = some (.ref f) ∧ FnP K "_law_lone_shape" st_law_lone_shape f fd
  d_law_sprout : ∃ f fd, mg "_law_sprout" = some (.ref f) ∧ FnP K "_law_sprout" st_law_sprout f fd
  d_law_by_hand_right : ∃ f fd, mg "_law_by_hand_right" = some (.ref f) ∧ FnP K "_law_by_hand_right" st_law_by_hand_right f fd
  d_law_right : ∃ f fd, mg "_law_right" = some (.ref f) ∧ FnP K "_law_right" st_law_right f fd
  d_law : ∃ f fd, mg "law" = some (.ref f) ∧ FnP K "law" st_law f fd
  z_isinstance : mg "isinstance" = none
  z_int : mg "int" = none
  z_bool : mg "bool" = none
  z_list : mg "list" = none
  z_tuple : mg "tuple" = none
  z_str : mg "str" = none
  z_len : mg "len" = none
  z_all : mg "all" = none
  z_range : mg "range" = none
  z_enumerate : mg "enumerate" = none
  z_sum : mg "sum" = none
  z_set : mg "set" = none
  z_min : mg "min" = none
  z_max : mg "max" = none
  z_abs : mg "abs" = none
  z_zip : mg "zip" = none
  z_sorted : mg "sorted" = none
end K27
set_option Elab.async false
set_option maxRecDepth 100000
set_option maxHeartbeats 0
namespace K27
open PySem PySem.Spec PyProof.Rows L2
def fnA : List He.DefD := [⟨("is_number", none), "is_number", "is_number", defArgs st_is_number, defBody st_is_number, defScope st_is_number, [], []⟩,
  ⟨("tuple_of", none), "tuple_of", "tuple_of", defArgs st_tuple_of, defBody st_tuple_of, defScope st_tuple_of, [], []⟩,
  ⟨("is_tuple_of", none), "is_tuple_of", "is_tuple_of", defArgs st_is_tuple_of, defBody st_is_tuple_of, defScope st_is_tuple_of, [], []⟩,
  ⟨("is_set", none), "is_set", "is_set", defArgs st_is_set, defBody st_is_set, defScope st_is_set, [], []⟩,
  ⟨("is_shape", none), "is_shape", "is_shape", defArgs st_is_shape, defBody st_is_shape, defScope st_is_shape, [], []⟩,
  ⟨("masks_of", none), "masks_of", "masks_of", defArgs st_masks_of, defBody st_masks_of, defScope st_masks_of, [], []⟩,
  ⟨("knots_of", none), "knots_of", "knots_of", defArgs st_knots_of, defBody st_knots_of, defScope st_knots_of, [], []⟩,
  ⟨("lots_behind", none), "lots_behind", "lots_behind", defArgs st_lots_behind, defBody st_lots_behind, defScope st_lots_behind, [], []⟩,
  ⟨("gone_through", none), "gone_through", "gone_through", defArgs st_gone_through, defBody st_gone_through, defScope st_gone_through, [], []⟩,
  ⟨("way_back", none), "way_back", "way_back", defArgs st_way_back, defBody st_way_back, defScope st_way_back, [], []⟩,
  ⟨("lots_to_top", none), "lots_to_top", "lots_to_top", defArgs st_lots_to_top, defBody st_lots_to_top, defScope st_lots_to_top, [], []⟩,
  ⟨("played", none), "played", "played", defArgs st_played, defBody st_played, defScope st_played, [], []⟩,
  ⟨("web_cells", none), "web_cells", "web_cells", defArgs st_web_cells, defBody st_web_cells, defScope st_web_cells, [], []⟩,
  ⟨("is_play", none), "is_play", "is_play", defArgs st_is_play, defBody st_is_play, defScope st_is_play, [], []⟩,
  ⟨("users_of", none), "users_of", "users_of", defArgs st_users_of, defBody st_users_of, defScope st_users_of, [], []⟩,
  ⟨("kept_of", none), "kept_of", "kept_of", defArgs st_kept_of, defBody st_kept_of, defScope st_kept_of, [], []⟩,
  ⟨("sparing_way", none), "sparing_way", "sparing_way", defArgs st_sparing_way, defBody st_sparing_way, defScope st_sparing_way, [], []⟩,
  ⟨("sparing_cells", none), "sparing_cells", "sparing_cells", defArgs st_sparing_cells, defBody st_sparing_cells, defScope st_sparing_cells, [], []⟩,
  ⟨("sparing_play", none), "sparing_play", "sparing_play", defArgs st_sparing_play, defBody st_sparing_play, defScope st_sparing_play, [], []⟩,
  ⟨("is_sparing", none), "is_sparing", "is_sparing", defArgs st_is_sparing, defBody st_is_sparing, defScope st_is_sparing, [], []⟩,
  ⟨("are_knots", none), "are_knots", "are_knots", defArgs st_are_knots, defBody st_are_knots, defScope st_are_knots, [], []⟩,
  ⟨("tree_knots", none), "tree_knots", "tree_knots", defArgs st_tree_knots, defBody st_tree_knots, defScope st_tree_knots, [], []⟩,
  ⟨("is_tree", none), "is_tree", "is_tree", defArgs st_is_tree, defBody st_is_tree, defScope st_is_tree, [], []⟩,
  ⟨("_law_box", none), "_law_box", "_law_box", defArgs st_law_box, defBody st_law_box, defScope st_law_box, [], []⟩,
  ⟨("_law_take", none), "_law_take", "_law_take", defArgs st_law_take, defBody st_law_take, defScope st_law_take, [], []⟩,
  ⟨("_law_cells", none), "_law_cells", "_law_cells", defArgs st_law_cells, defBody st_law_cells, defScope st_law_cells, [], []⟩,
  ⟨("_law_same", none), "_law_same", "_law_same", defArgs st_law_same, defBody st_law_same, defScope st_law_same, [], []⟩,
  ⟨("_law_lists", none), "_law_lists", "_law_lists", defArgs st_law_lists, defBody st_law_lists, defScope st_law_lists, [], []⟩,
  ⟨("_law_is_number", none), "_law_is_number", "_law_is_number", defArgs st_law_is_number, defBody st_law_is_number, defScope st_law_is_number, [], []⟩,
  ⟨("_law_shape", none), "_law_shape", "_law_shape", defArgs st_law_shape, defBody st_law_shape, defScope st_law_shape, [], []⟩,
  ⟨("_law_plays", none), "_law_plays", "_law_plays", defArgs st_law_plays, defBody st_law_plays, defScope st_law_plays, [], []⟩,
  ⟨("_law_tree_knots", none), "_law_tree_knots", "_law_tree_knots", defArgs st_law_tree_knots, defBody st_law_tree_knots, defScope st_law_tree_knots, [], []⟩,
  ⟨("_law_is_tree", none), "_law_is_tree", "_law_is_tree", defArgs st_law_is_tree, defBody st_law_is_tree, defScope st_law_is_tree, [], []⟩,
  ⟨("_law_kept", none), "_law_kept", "_law_kept", defArgs st_law_kept, defBody st_law_kept, defScope st_law_kept, [], []⟩,
  ⟨("_law_least", none), "_law_least", "_law_least", defArgs st_law_least, defBody st_law_least, defScope st_law_least, [], []⟩,
  ⟨("_law_spares", none), "_law_spares", "_law_spares", defArgs st_law_spares, defBody st_law_spares, defScope st_law_spares, [], []⟩,
  ⟨("_law_rule", none), "_law_rule", "_law_rule", defArgs st_law_rule, defBody st_law_rule, defScope st_law_rule, [], []⟩,
  ⟨("_law_lone_shape", none), "_law_lone_shape", "_law_lone_shape", defArgs st_law_lone_shape, defBody st_law_lone_shape, defScope st_law_lone_shape, [], []⟩,
  ⟨("_law_sprout", none), "_law_sprout", "_law_sprout", defArgs st_law_sprout, defBody st_law_sprout, defScope st_law_sprout, [], []⟩,
  ⟨("_law_by_hand_right", none), "_law_by_hand_right", "_law_by_hand_right", defArgs st_law_by_hand_right, defBody st_law_by_hand_right, defScope st_law_by_hand_right, [], []⟩,
  ⟨("_law_right", none), "_law_right", "_law_right", defArgs st_law_right, defBody st_law_right, defScope st_law_right, [], []⟩,
  ⟨("law", none), "law", "law", defArgs st_law, defBody st_law, defScope st_law, [], []⟩]
def faA : List He.Fa := [.glo "is_number", .glo "tuple_of", .glo "is_tuple_of", .glo "is_set", .glo "is_shape", .glo "masks_of", .glo "knots_of", .glo "lots_behind", .glo "gone_through", .glo "way_back", .glo "lots_to_top", .glo "played", .glo "web_cells", .glo "is_play", .glo "users_of", .glo "kept_of", .glo "sparing_way", .glo "sparing_cells", .glo "sparing_play", .glo "is_sparing", .glo "are_knots", .glo "tree_knots", .glo "is_tree", .glo "_law_box", .glo "_law_take", .glo "_law_cells", .glo "_law_same", .glo "_law_lists", .glo "_law_is_number", .glo "_law_shape", .glo "_law_plays", .glo "_law_tree_knots", .glo "_law_is_tree", .glo "_law_kept", .glo "_law_least", .glo "_law_spares", .glo "_law_rule", .glo "_law_lone_shape", .glo "_law_sprout", .glo "_law_by_hand_right", .glo "_law_right", .glo "law", .free "isinstance", .free "int", .free "bool", .free "list", .free "tuple", .free "str", .free "len", .free "all", .free "range", .free "enumerate", .free "sum", .free "set", .free "min", .free "max", .free "abs", .free "zip", .free "sorted"]
abbrev R : PySem.W.OpenRow := PySem.W.OpenLaw.row PySem.Challenge.rw_unwound_k27_whole_sparing_plays_and_tree
abbrev hk : PySem.W.Hook := He.hookD 4 faA fnA
def ob (s : PySem.W.SharedT) : He.AlD := He.obsDG 4 faA fnA (HandSHeadRun.getT s)
theorem ob_eq (s : PySem.W.SharedT) : ob s = hk.obs s.abs := He.obsDG_eq (HandSHeadRun.getT_eq s)
def ls1 : List Str := ["is_number", "tuple_of", "is_tuple_of", "is_set", "is_shape", "masks_of", "knots_of", "lots_behind", "gone_through", "way_back", "lots_to_top", "played", "web_cells", "is_play", "users_of", "kept_of", "sparing_way", "sparing_cells", "sparing_play", "is_sparing", "are_knots", "tree_knots", "is_tree", "_law_box", "_law_take", "_law_cells", "_law_same", "_law_lists", "_law_is_number", "_law_shape"]
def ls2 : List Str := ["_law_plays", "_law_tree_knots", "_law_is_tree", "_law_kept", "_law_least", "_law_spares", "_law_rule", "_law_lone_shape", "_law_sprout", "_law_by_hand_right", "_law_right"]
abbrev ls : List Str := ls1 ++ ls2
theorem run (w : World) : HandSHeadRun.RunEq R (PySem.W.view R.prog [44]) hk ob 2000 ls w := by
  intro os
  kernel_rfl
theorem txt_of {K : PySem.W.Frag} {h : Heap} {mg : Str → Option Value} (X : K.In h) (G : h.Ns mainGlobals mg) (c : He.SaysD faA fnA K) : Txt K mg := by
  constructor
  · obtain ⟨fd, F⟩ := c.def_ 0 rfl; exact ⟨_, fd, He.glo_ok X G (c.fact 0 (f := .glo "is_number") rfl), F⟩
  · obtain ⟨fd, F⟩ := c.def_ 1 rfl; exact ⟨_, fd, He.glo_ok X G (c.fact 1 (f := .glo "tuple_of") rfl), F⟩
  · obtain ⟨fd, F⟩ := c.def_ 2 rfl; exact ⟨_, fd, He.glo_ok X G (c.fact 2 (f := .glo "is_tuple_of") rfl), F⟩
  · obtain ⟨fd, F⟩ := c.def_ 3 rfl; exact ⟨_, fd, He.glo_ok X G (c.fact 3 (f := .glo "is_set") rfl), F⟩
  · obtain ⟨fd, F⟩ := c.def_ 4 rfl; exact ⟨_, fd, He.glo_ok X G (c.fact 4 (f := .glo "is_shape") rfl), F⟩
  · obtain ⟨fd, F⟩ := c.def_ 5 rfl; exact ⟨_, fd, He.glo_ok X G (c.fact 5 (f := .glo "masks_of") rfl), F⟩
  · obtain ⟨fd, F⟩ := c.def_ 6 rfl; exact ⟨_, fd, He.glo_ok X G (c.fact 6 (f := .glo "knots_of") rfl), F⟩
  · obtain ⟨fd, F⟩ := c.def_ 7 rfl; exact ⟨_, fd, He.glo_ok X G (c.fact 7 (f := .glo "lots_behind") rfl), F⟩
  · obtain ⟨fd, F⟩ := c.def_ 8 rfl; exact ⟨_, fd, He.glo_ok X G (c.fact 8 (f := .glo "gone_through") rfl), F⟩
  · obtain ⟨fd, F⟩ := c.def_ 9 rfl; exact ⟨_, fd, He.glo_ok X G (c.fact 9 (f := .glo "way_back") rfl), F⟩
  · obtain ⟨fd, F⟩ := c.def_ 10 rfl; exact ⟨_, fd, He.glo_ok X G (c.fact 10 (f := .glo "lots_to_top") rfl), F⟩
  · obtain ⟨fd, F⟩ := c.def_ 11 rfl; exact ⟨_, fd, He.glo_ok X G (c.fact 11 (f := .glo "played") rfl), F⟩
  · obtain ⟨fd, F⟩ := c.def_ 12 rfl; exact ⟨_, fd, He.glo_ok X G (c.fact 12 (f := .glo "web_cells") rfl), F⟩
  · obtain ⟨fd, F⟩ := c.def_ 13 rfl; exact ⟨_, fd, He.glo_ok X G (c.fact 13 (f := .glo "is_play") rfl), F⟩
  · obtain ⟨fd, F⟩ := c.def_ 14 rfl; exact ⟨_, fd, He.glo_ok X G (c.fact 14 (f := .glo "users_of") rfl), F⟩
  · obtain ⟨fd, F⟩ := c.def_ 15 rfl; exact ⟨_, fd, He.glo_ok X G (c.fact 15 (f := .glo "kept_of") rfl), F⟩
  · obtain ⟨fd, F⟩ := c.def_ 16 rfl; exact ⟨_, fd, He.glo_ok X G (c.fact 16 (f := .glo "sparing_way") rfl), F⟩
  · obtain ⟨fd, F⟩ := c.def_ 17 rfl; exact ⟨_, fd, He.glo_ok X G (c.fact 17 (f := .glo "sparing_cells") rfl), F⟩
  · obtain ⟨fd, F⟩ := c.def_ 18 rfl; exact ⟨_, fd, He.glo_ok X G (c.fact 18 (f := .glo "sparing_play") rfl), F⟩
  · obtain ⟨fd, F⟩ := c.def_ 19 rfl; exact ⟨_, fd, He.glo_ok X G (c.fact 19 (f := .glo "is_sparing") rfl), F⟩
  · obtain ⟨fd, F⟩ := c.def_ 20 rfl; exact ⟨_, fd, He.glo_ok X G (c.fact 20 (f := .glo "are_knots") rfl), F⟩
  · obtain ⟨fd, F⟩ := c.def_ 21 rfl; exact ⟨_, fd, He.glo_ok X G (c.fact 21 (f := .glo "tree_knots") rfl), F⟩
  · obtain ⟨fd, F⟩ := c.def_ 22 rfl; exact ⟨_, fd, He.glo_ok X G (c.fact 22 (f := .glo "is_tree") rfl), F⟩
  · obtain ⟨fd, F⟩ := c.def_ 23 rfl; exact ⟨_, fd, He.glo_ok X G (c.fact 23 (f := .glo "_law_box") rfl), F⟩
  · obtain ⟨fd, F⟩ := c.def_ 24 rfl; exact ⟨_, fd, He.glo_ok X G (c.fact 24 (f := .glo "_law_take") rfl), F⟩
  · obtain ⟨fd, F⟩ := c.def_ 25 rfl; exact ⟨_, fd, He.glo_ok X G (c.fact 25 (f := .glo "_law_cells") rfl), F⟩
  · obtain ⟨fd, F⟩ := c.def_ 26 rfl; exact ⟨_, fd, He.glo_ok X G (c.fact 26 (f := .glo "_law_same") rfl), F⟩
  · obtain ⟨fd, F⟩ := c.def_ 27 rfl; exact ⟨_, fd, He.glo_ok X G (c.fact 27 (f := .glo "_law_lists") rfl), F⟩
  · obtain ⟨fd, F⟩ := c.def_ 28 rfl; exact ⟨_, fd, He.glo_ok X G (c.fact 28 (f := .glo "_law_is_number") rfl), F⟩
  · obtain ⟨fd, F⟩ := c.def_ 29 rfl; exact ⟨_, fd, He.glo_ok X G (c.fact 29 (f := .glo "_law_shape") rfl), F⟩
  · obtain ⟨fd, F⟩ := c.def_ 30 rfl; exact ⟨_, fd, He.glo_ok X G (c.fact 30 (f := .glo "_law_plays") rfl), F⟩
  · obtain ⟨fd, F⟩ := c.def_ 31 rfl; exact ⟨_, fd, He.glo_ok X G (c.fact 31 (f := .glo "_law_tree_knots") rfl), F⟩
  · obtain ⟨fd, F⟩ := c.def_ 32 rfl; exact ⟨_, fd, He.glo_ok X G (c.fact 32 (f := .glo "_law_is_tree") rfl), F⟩
  · obtain ⟨fd, F⟩ := c.def_ 33 rfl; exact ⟨_, fd, He.glo_ok X G (c.fact 33 (f := .glo "_law_kept") rfl), F⟩
  · obtain ⟨fd, F⟩ := c.def_ 34 rfl; exact ⟨_, fd, He.glo_ok X G (c.fact 34 (f := .glo "_law_least") rfl), F⟩
  · obtain ⟨fd, F⟩ := c.def_ 35 rfl; exact ⟨_, fd, He.glo_ok X G (c.fact 35 (f := .glo "_law_spares") rfl), F⟩
  · obtain ⟨fd, F⟩ := c.def_ 36 rfl; exact ⟨_, fd, He.glo_ok X G (c.fact 36 (f := .glo "_law_rule") rfl), F⟩
  · obtain ⟨fd, F⟩ := c.def_ 37 rfl; exact ⟨_, fd, He.glo_ok X G (c.fact 37 (f := .glo "_law_lone_shape") rfl), F⟩
  · obtain ⟨fd, F⟩ := c.def_ 38 rfl; exact ⟨_, fd, He.glo_ok X G (c.fact 38 (f := .glo "_law_sprout") rfl), F⟩
  · obtain ⟨fd, F⟩ := c.def_ 39 rfl; exact ⟨_, fd, He.glo_ok X G (c.fact 39 (f := .glo "_law_by_hand_right") rfl), F⟩
  · obtain ⟨fd, F⟩ := c.def_ 40 rfl; exact ⟨_, fd, He.glo_ok X G (c.fact 40 (f := .glo "_law_right") rfl), F⟩
  · obtain ⟨fd, F⟩ := c.def_ 41 rfl; exact ⟨_, fd, He.glo_ok X G (c.fact 41 (f := .glo "law") rfl), F⟩
  · exact He.free_ok X G (c.fact 42 (f := .free "isinstance") rfl)
  · exact He.free_ok X G (c.fact 43 (f := .free "int") rfl)
  · exact He.free_ok X G (c.fact 44 (f := .free "bool") rfl)
  · exact He.free_ok X G (c.fact 45 (f := .free "list") rfl)
  · exact He.free_ok X G (c.fact 46 (f := .free "tuple") rfl)
  · exact He.free_ok X G (c.fact 47 (f := .free "str") rfl)
  · exact He.free_ok X G (c.fact 48 (f := .free "len") rfl)
  · exact He.free_ok X G (c.fact 49 (f := .free "all") rfl)
  · exact He.free_ok X G (c.fact 50 (f := .free "range") rfl)
  · exact He.free_ok X G (c.fact 51 (f := .free "enumerate") rfl)
  · exact He.free_ok X G (c.fact 52 (f := .free "sum") rfl)
  · exact He.free_ok X G (c.fact 53 (f := .free "set") rfl)
  · exact He.free_ok X G (c.fact 54 (f := .free "min") rfl)
  · exact He.free_ok X G (c.fact 55 (f := .free "max") rfl)
  · exact He.free_ok X G (c.fact 56 (f := .free "abs") rfl)
  · exact He.free_ok X G (c.fact 57 (f := .free "zip") rfl)
  · exact He.free_ok X G (c.fact 58 (f := .free "sorted") rfl)
end K27
set_option Elab.async false
set_option linter.all false
set_option maxRecDepth 100000
set_option maxHeartbeats 4000000
namespace K27
open PySem PySem.Spec PyProof.Rows L2

section
variable {X : Cx}
def gGetL (K : PySem.W.Frag) : V → V → Hp → VK → Prop := fun x y H Q => ∃ p xs i j v, x = .ref p ∧ y = .int i ∧ SqL K H p xs ∧ i = ((j : Nat) : Int) ∧ xs[j]? = some v ∧ Q v H
theorem get_list : PGet X (gGetL X.K) := by
  intro pins s σ H x y v u Q I rx ry h
  obtain ⟨p, xs, i, j, z, rfl, rfl, hq, rfl, he, q⟩ := h
  cases rx
  obtain ⟨t, rfl⟩ := ry
  obtain ⟨its, r, pl, hz⟩ := I.list hq
  obtain ⟨w, ew, rw'⟩ := r.get he
  have hl := r.length
  have hj : j < its.length := (List.getElem?_eq_some_iff.mp ew).1
  have hn := line63
  exact wpAny_getItem_list pl.isList (by omega) (by rw [hl] at hz; omega) (by simpa using ew) ⟨z, H, I, rw', q⟩

theorem getItem_tuple_rev {prog : Program} {w : World} {A : Around} {E : Value → Shared → Prop} {s : Shared} {t sl : Addr} {items : Array Value} {vl vu vs : Value} {Q : Value → Shared → Prop} (ht : IsTup s.heap t items) (hs : s.heap.IsSliceOf sl vl vu vs) (pl : IsPart vl none) (pu : IsPart vu none) (ps : IsPart vs (some (-1)))
    (h : Q (.ref s.heap.objs.size) { s with heap := s.heap.push { cls := .type "tuple", data := .seq items.toList.reverse.toArray } })
    (hsz : items.size ≤ sizeLine) : wpAny (model prog w) A (getItem (.ref t) (.ref sl)) Q E s := by
  obtain ⟨os, hos, hcs, hds⟩ := id hs
  have hTs : s.TypeIs (.ref sl) "slice" := ⟨os, hos, hcs⟩
  unfold getItem
  try with_reducible refine wpAny_holding ?_
  first | refine wpAny_bind (wpAny_pure ?_) | skip
  refine wpAny_bind (wpAny_sequenceKey ht.typeIs (by decide) ?_)
  refine wpAny_bind (wpAny_callSpecial?_slot (name := Str.ofString "__getitem__") ht.typeIs PyProof.Rows.slot_tuple_getitem
    (wpAny_call_entry PyProof.Rows.slot_tuple_getitem ht.typeIs entry_tuple_getitem ?_ (args_tuple_getitem _ _)))
  show wpAny _ _ (Builtin.Tuple.tupleItemsOf (.ref t) >>= _) _ _ s
  refine wpAny_bind (tupleItemsOf_ ht ?_)
  refine wpAny_bind (wpAny_typeOf hTs ?_)
  rw [if_pos (by decide)]
  have happ : wpAny (model prog w) A.in1 (Builtin.Slice.sliceApplied (.ref sl) (pure (items.size : Int))) (fun r s' => r = ((items.size : Int) - 1, (-1 : Int), items.size) ∧ s' = s) (fun _ _ => False) s := by
    unfold Builtin.Slice.sliceApplied Builtin.Slice.sliceFields
    refine wpAny_bind (wpAny_bind (wpAny_field hos hds (x := vl) rfl (wpAny_bind (wpAny_field hos hds (x := vu) rfl (wpAny_bind (wpAny_field hos hds (x := vs) rfl (wpAny_pure ?_)))))))
    refine wpAny_bind (HT.slicePart_ ps ?_)
    show wpAny _ _ (if ((-1 : Int) == 0) = true then _ else _) _ _ s
    rw [if_neg (by decide)]
    refine wpAny_bind (HT.slicePart_ pl (wpAny_bind (HT.slicePart_ pu (wpAny_bind (wpAny_pure ?_)))))
    show wpAny _ _ (match Builtin.Slice.sliceAdjust none none (-1) (items.size : Int) with | (lo, hi) => pure (lo, (-1 : Int), Builtin.Slice.slicePlaces lo hi (-1))) _ _ s
    have e1 : Builtin.Slice.sliceAdjust none none (-1) (items.size : Int) = ((items.size : Int) - 1, -1) := by
      unfold Builtin.Slice.sliceAdjust
      simp only [show ((-1 : Int) < 0) from by decide, if_true]
    rw [e1]
    show wpAny _ _ (pure ((items.size : Int) - 1, (-1 : Int), Builtin.Slice.slicePlaces ((items.size : Int) - 1) (-1) (-1))) _ _ s
    have e2 : Builtin.Slice.slicePlaces ((items.size : Int) - 1) (-1) (-1) = items.size := by
      unfold Builtin.Slice.slicePlaces
      have h1 : ¬ ((-1 : Int) > 0) := by omega
      simp only [h1, if_false]
      split
      · rw [show (- (-1 : Int)) = 1 from by decide, Int.ediv_one]
        omega
      · omega
    rw [e2]
    exact wpAny_pure ⟨rfl, rfl⟩
  refine wpAny_bind (wpAny_mono happ (fun r s' hr => ?_) fun _ _ z => z.elim)
  obtain ⟨rfl, rfl⟩ := hr
  show wpAny _ _ (if (((items.size : Int) - 1) == 0 && (-1 : Int) == 1 && items.size == items.size) = true then _ else _) _ _ _
  rw [if_neg (by simp)]
  have pk : ((List.range items.size).filterMap fun (k : Nat) => items[(((items.size : Int) - 1) + (k : Int) * (-1)).toNat]?).toArray = items.toList.reverse.toArray := by
    have fc : ∀ (l : List Nat) (f g : Nat → Option Value), (∀ k ∈ l, f k = g k) → l.filterMap f = l.filterMap g := fun l f g h => by
      induction l with
      | nil => rfl
      | cons a r ih =>
        rw [List.filterMap_cons, List.filterMap_cons, h a List.mem_cons_self, ih fun k hk => h k (List.mem_cons_of_mem _ hk)]
    have e : (List.range items.size).filterMap (fun (k : Nat) => items[(((items.size : Int) - 1) + (k : Int) * (-1)).toNat]?) = ((List.range items.size).map (fun k => items.size - 1 - k)).filterMap (items[·]?) := by
      rw [List.filterMap_map]
      refine fc _ _ _ fun k hk => ?_
      have := List.mem_range.mp hk
      show _ = items[items.size - 1 - k]?
      have e : (((items.size : Int) - 1) + (k : Int) * (-1)).toNat = items.size - 1 - k := by omega
      rw [e]
    rw [e, PySem.W.krv_range, List.filterMap_reverse, PySem.W.krv_all]
  rw [pk]
  have htake : sizeOk (.seq items.toList.reverse.toArray) := by
    show items.toList.reverse.toArray.size ≤ sizeLine
    rw [List.size_toArray, List.length_reverse, Array.length_toList]
    exact hsz
  first
    | exact wpAny_bind (m := Builtin.Tuple.tupleExact _) (wpAny_newObj_type (wpAny_pure ⟨_, rfl, wpAny_pure h⟩) htake)
    | exact wpAny_bind (m := Builtin.Tuple.tupleExact _) (wpAny_newObj_type (wpAny_bind (wpAny_pure (wpAny_pure ⟨_, rfl, wpAny_pure h⟩))) htake)
    | exact wpAny_bind (wpAny_bind (m := Builtin.Tuple.tupleExact _) (wpAny_newObj_type (wpAny_pure (wpAny_pure ⟨_, rfl, wpAny_pure h⟩)) htake))
    | exact wpAny_bind (wpAny_bind (m := Builtin.Tuple.tupleExact _) (wpAny_newObj_type (wpAny_pure ⟨_, rfl, wpAny_pure h⟩) htake))
def tRevT (K : PySem.W.Frag) (te : TE) : TE := fun σ H Q => te σ H fun x H1 => ∃ a xs, x = .ref a ∧ SqT K H1 a xs ∧ ∀ p, H1 p = none → Q (.ref p) (upd H1 p (.tup xs.reverse))
theorem pe_revT {e : Expr} {te : TE} {k : Nat} {p1 p2 p3 pos : Pos} (he : PE X e te) : PE X (.Subscript e (.Slice none none (some (.UnaryOp .USub (.Constant (.int 1) k p1) p2)) p3) pos) (tRevT X.K te) := by
  refine ⟨fun pins s σ H Q I h => ?_⟩
  refine Subscript_ (thn (he.run pins s σ H _ I h) fun v s1 ⟨x, H1, I1, r1, q1⟩ => ?_)
  obtain ⟨a, xs, ex, hx, q⟩ := q1
  subst ex
  cases r1
  have hst : PO X (some (.UnaryOp .USub (.Constant (.int 1) k p1) p2)) (tPart (tUn (rU fun i => .int (-i)) (tC (.int 1)))) := po_some (pe_un un_neg pe_int)
  refine wpAny_Slice (thn (po_none.run pins s1 σ H1 (fun o H2 => o = none ∧ H2 = H1) I1 ⟨rfl, rfl⟩) fun vl s2 ⟨l, H2, I2, pl, el, e2⟩ => ?_)
  subst el e2
  refine thn (po_none.run pins s2 σ H2 (fun o H3 => o = none ∧ H3 = H2) I2 ⟨rfl, rfl⟩) fun vu s3 ⟨u, H3, I3, pu, eu, e3⟩ => ?_
  subst eu e3
  refine thn (hst.run pins s3 σ H3 (fun o H4 => o = some (-1) ∧ H4 = H3) I3 ⟨1, rfl, -1, rfl, rfl, rfl⟩) fun vs s4 ⟨o, H4, I4, ps, eo, e4⟩ => ?_
  subst eo e4
  have I5 : Inv X pins σ H4 { s4 with heap := s4.heap.push { cls := .type "slice", data := .fields #[vl, vu, vs] } } := I4.kept (t' := s4.toks) fun b ob q => Heap.get?_push_of_some _ q
  obtain ⟨its, r, ht, hz⟩ := I5.tuple hx
  have hlen := r.length
  show wpAny (model X.prog X.w) X.A (subscriptTail e (.Slice none none (some (.UnaryOp .USub (.Constant (.int 1) k p1) p2)) p3) (.ref a) (.ref s4.heap.objs.size)) (EP X pins σ Q) X.xe { s4 with heap := s4.heap.push { cls := .type "slice", data := .fields #[vl, vu, vs] } }
  refine tail_any (ops := [.ref a, .ref s4.heap.objs.size]) ht.typeIs PyProof.Rows.slot_tuple_getitem.lookup ?_ (by with_unfolding_all rfl)
  refine getItem_tuple_rev ht (Heap.IsSliceOf.new _ vl vu vs) pl pu ps ?_ (by rw [List.size_toArray]; omega)
  refine ⟨.ref _, _, I5.laid (t' := s4.toks) (o := .tup xs.reverse) (fun b ob q => Heap.get?_push_of_some _ q) (Nat.le_refl _) ?_, rfl, q _ (I5.hok.fresh (Nat.le_refl _))⟩
  exact ⟨by rw [List.length_reverse]; exact hz, _, r.reverse, IsTup.new _ _⟩
end
set_option maxHeartbeats 4000000 in
theorem meets_enum_new1 {v : Value} {o : Obj} {H : Heap → Prop} (B : Begins v o H) :
    Meets (Builtin.«enumerate.__new__» ⟨[.type "enumerate", v], []⟩) (fun _ R s => H s.heap ∧
      R (.ok (.ret (.ref (s.heap.push o).objs.size))) { s with heap := (s.heap.push o).push { cls := .type "enumerate", data := .fields #[.none, .bool false, .ref s.heap.objs.size, rawInt 0, .none, .none] } }) :=
  .of_wp fun prog w A R s h => by
    obtain ⟨hp, g, d, tk, os⟩ := s; obtain ⟨h1, h⟩ := h
    have hsub := sub_enumerate
    have q1 : ∀ {A' : Around} {E : Value → Shared → Prop} {Q : Value → Shared → Prop}, Q (.ref hp.objs.size) ⟨hp.push o, g, d, tk, os⟩ → wpAny (model prog w) A' (pyIter v) Q E ⟨hp, g, d, tk, os⟩ :=
      fun q => B.iter prog w _ _ ⟨hp, g, d, tk, os⟩ _ h1 q
    wp_walk using q1
    refine wpAny_stack_any fun st => wpAny_pure ?_
    split
    · rename_i c _ _ _ _ _
      cases (c == Value.type "enumerate")
      · wp_walk using q1
        exact ⟨_, rfl, h⟩
      · wp_walk using q1
        exact ⟨_, rfl, h⟩
    · wp_walk using q1
      exact ⟨_, rfl, h⟩
theorem call_enum1 {prog : Program} {w : World} {A : Around} {E : Value → Shared → Prop} {s : Shared} {v : Value} {o : Obj} {H : Heap → Prop} {Q : Value → Shared → Prop} (B : Begins v o H) (h1 : H s.heap)
    (h : ∀ h', IsEnum h' (s.heap.objs.size + 1) s.heap.objs.size 0 .none → h'.get? s.heap.objs.size = some o → h'.objs.size = s.heap.objs.size + 2 →
      (∀ b o, s.heap.get? b = some o → h'.get? b = some o) → Q (.ref (s.heap.objs.size + 1)) { s with heap := h' }) :
    wpAny (model prog w) A (call (.type "enumerate") [v]) Q E s := by
  refine callType_new F.called_enumerate (by decide) (F.typeCall_enumerate_1 _) (F.newCall_enumerate_1 _) (fun obj => F.args_object_init_2 obj _) F.entry_enumerate_new
    (meets_enum_new1 B) ⟨h1, ?_⟩
  have hz : (s.heap.push o).objs.size = s.heap.objs.size + 1 := Heap.size_push ..
  show _ ∧ _
  rw [hz]
  have he : IsEnum ((s.heap.push o).push { cls := .type "enumerate", data := .fields #[.none, .bool false, .ref s.heap.objs.size, rawInt 0, .none, .none] }) (s.heap.objs.size + 1) s.heap.objs.size 0 .none := by
    have := Heap.get?_push_size (s.heap.push o) (o := { cls := .type "enumerate", data := .fields #[.none, .bool false, .ref s.heap.objs.size, rawInt 0, .none, .none] }) rfl
    rw [hz] at this; exact this
  refine ⟨⟨_, he, rfl⟩, h _ he (Heap.get?_push_of_some _ (Heap.get?_push_size _ B.free)) (by rw [Heap.size_push, hz]) fun b o x => Heap.get?_push_of_some _ (Heap.get?_push_of_some _ x)⟩
/-- the tuple at a as it stands at each turn, each item in a new pair -/
def IteT (K : PySem.W.Frag) (a : Addr) : It :=
  ⟨fun i H => ∃ (xs : List V) (x : V), SqT K H a xs ∧ xs[i]? = some x, fun i H v H' => ∃ T x, v = .ref T ∧ H T = none ∧ H' = upd H T (.tup [.int (i : Nat), x]) ∧ ∀ xs, SqT K H a xs → xs[i]? = some x, fun i H => ∃ xs : List V, SqT K H a xs ∧ xs.length ≤ i⟩
theorem turn_enumT {P : Program} {w : World} {K : PySem.W.Frag} {elts : List Expr} {kk : Nat} {tpos : Pos} (a e it : Addr) (hai : a ≠ it) (hae : a ≠ e) :
    Turn P w K (.Tuple elts kk tpos) (IteT K a) [e, it] e (fun i h => (∃ old, IsEnum h e it ((i : Nat) : Int) old) ∧ h.IsTupleIter it a i ∧ e ≠ it) where
  mem := by simp
  obj := fun i h st b hb => by
    obtain ⟨⟨old, he⟩, ⟨o, ho, hc, hd⟩, _⟩ := st
    have e' : b = e ∨ b = it := by simpa using hb
    rcases e' with z | z
    · rw [z]; exact ⟨_, he, fun v q => nomatch q⟩
    · rw [z]; exact ⟨o, ho, fun v q => by rw [hd] at q; cases q⟩
  keep := fun i h h' st k => let ⟨⟨old, he⟩, hi, hne⟩ := st; ⟨⟨old, k e (by simp) _ he⟩, hi.at fun o q => k it (by simp) o q, hne⟩
  item := by
    intro X hP hw hK hc i pins s σ H E I hf st hg
    subst hP hw hK
    obtain ⟨⟨old, he⟩, hit, hne⟩ := st
    obtain ⟨xs, x, hq, hx⟩ := hg
    obtain ⟨its, rv, p, hz⟩ := I.tuple hq
    obtain ⟨u, hu, ru⟩ := rv.get hx
    have hel : e < s.heap.objs.size := Heap.lt_size he
    have hil : it < s.heap.objs.size := by obtain ⟨_, q, _⟩ := hit; exact Heap.lt_size q
    have hlt : i < its.toArray.size := by rw [List.size_toArray]; exact (List.getElem?_eq_some_iff.mp hu).1
    have D := Draws.tuple (prog := X.prog) (w := X.w) (A := X.A.in1) (I.ok.hd hc) it a hai its.toArray
    refine wpAny_pyNext_enum_itemD D he ⟨hit, p⟩ hlt hne (fun hm => ?_) fun y h' tk hy ho hit' hT hsz hk => ?_
    · have q : e = it ∨ e = a := by simpa using hm
      rcases q with q | q
      · exact hne q
      · exact hae q.symm
    have ey : y = u := by
      have e1 : its.toArray[i]? = some u := by simpa using hu
      have e2 : its.toArray[i]? = some y := hy
      rw [e1] at e2
      exact (Option.some.inj e2).symm
    subst ey
    refine ⟨_, rfl, wpAny_letOwnedTupleGo_enum (s := { s with heap := h', toks := tk + 1 }) ho fun h'' he' sb => ?_⟩
    have hT2 : h''.get? s.heap.objs.size = some { cls := .type "tuple", data := .seq #[.int i tk, y] } := (sb.2 _ (Nat.ne_of_gt hel)).trans hT
    have new : ObjOk X.prog X.w (upd H s.heap.objs.size (.tup [.int (i : Nat), x])) h'' s.heap.objs.size (.tup [.int (i : Nat), x]) :=
      ⟨by show 2 ≤ sizeLine; decide, [.int i tk, y], .cons ⟨_, rfl⟩ (.cons ru .nil), ⟨_, hT2, rfl, _, rfl⟩⟩
    have I1 : Inv X pins σ (upd H s.heap.objs.size (.tup [.int (i : Nat), x])) { s with heap := h'', toks := tk + 1 } :=
      I.turnedNew (ch := [e, it]) (fun b ob hb q => (sb.2 b (fun z => hb (by simp [z]))).trans (hk b ob (fun z => hb (by simp [z])) (fun z => hb (by simp [z])) q)) hf (Nat.le_refl _) new
    refine ⟨.ref s.heap.objs.size, _, I1, rfl, ⟨_, x, rfl, I.hok.fresh (Nat.le_refl _), rfl, fun ys hy => by rw [I.tuple_inj hy hq]; exact hx⟩, ⟨⟨y, ?_⟩, hit'.1.at fun o q => (sb.2 it (Ne.symm hne)).trans q, hne⟩, fun b hb => ?_⟩
    · have e1 : ((i + 1 : Nat) : Int) = (i : Int) + 1 := by omega
      rw [e1]; exact he'
    · have hb' : b < s.heap.objs.size := by
        have e' : b = e ∨ b = it := by simpa using hb
        rcases e' with z | z
        · rw [z]; exact hel
        · rw [z]; exact hil
      rw [upd_ne (Nat.ne_of_lt hb')]
      exact (hf b hb).1
  done := by
    intro X hP hw hK hc i pins s σ H E I hf st hg
    subst hP hw hK
    obtain ⟨⟨old, he⟩, hit, hne⟩ := st
    obtain ⟨xs, hq, hx⟩ := hg
    obtain ⟨its, rv, p, hz⟩ := I.tuple hq
    obtain ⟨f0, f1, f2, f3, f4, f5⟩ := hf it (by simp)
    have hl := rv.length
    have hT : s.TypeIs (.ref e) "enumerate" := ⟨_, he, rfl⟩
    unfold pyNext
    refine wpAny_bind (wpAny_attempt (wpAny_callSpecial?_slot (name := Str.ofString "__next__") hT F.slot_enumerate_next
      (wpAny_call_entry F.slot_enumerate_next hT F.entry_enumerate_next ?_ (F.args_enumerate_next_1 _))))
    show wpAny _ _ (field (.ref e) 2 >>= _) _ _ _
    refine wpAny_bind (wpAny_field he rfl (x := .ref it) rfl ?_)
    refine wpAny_bind (wpAny_nextOf_tuple_end (I.ok.hd hc) hit p (by simp; omega) fun h' x he' hx' => ?_)
    obtain ⟨o, ho, hc⟩ := hx'
    refine wpAny_bind (wpAny_isInstance (T := "StopIteration") (b := true) ⟨o, ho, hc⟩ isSubtype_stop ?_)
    exact wpAny_pure ⟨rfl, I.turned (t' := s.toks) (fun b o hb q => he' b o hb q) f0 f1 f3 f4 f5⟩
  self := fun A i s Q E st h => let ⟨⟨_, he⟩, _⟩ := st; wpAny_pyIter_enum he h
def iEnumT (K : PySem.W.Frag) (ta : TA) : TI := fun σ H R => ta σ H fun vs H1 => ∃ a xs, vs = [.ref a] ∧ SqT K H1 a xs ∧ R (IteT K a) H1
theorem pi_enumT {X : Cx} {e : Expr} {ta : TA} {p pos tpos : Pos} {elts : List Expr} {kk : Nat} (hg : Gl X "enumerate") (hm : X.mg "enumerate" = none) (ha : PA X [e] ta) (hs : starEach [e] X.env = [(false, eval e X.env)] := by rfl) :
    PI X (.Tuple elts kk tpos) (.Call (.Name "enumerate" p) [e] [] pos) (iEnumT X.K ta) := by
  refine ⟨fun pins s σ H R I h => ?_⟩
  refine Call_ (ld_blt I hg hm boot_enumerate (PyProof.Rows.callWith_type1 (thn (ha.run pos pins s σ H _ I h) fun us s1 ⟨vs, H1, I1, r1, q1⟩ => ?_) hs rfl))
  obtain ⟨a, xs, ex, hq, q⟩ := q1
  subst ex
  cases r1 with
  | cons r rr =>
    cases rr
    cases r
    obtain ⟨its, rv, p', hz⟩ := I1.tuple hq
    have hal : a < s1.heap.objs.size := p'.lt
    refine call_enum1 (begins_tuple a its.toArray) p' fun h' he hit hsz hk => wpAny_pyIter_enum he ?_
    have I2 : Inv X pins σ H1 { s1 with heap := h' } := I1.kept (t' := s1.toks) hk
    refine ⟨s1.heap.objs.size + 1, [s1.heap.objs.size + 1, s1.heap.objs.size], _, _, H1, rfl, I2, turn_enumT a (s1.heap.objs.size + 1) s1.heap.objs.size (Nat.ne_of_lt hal) (Nat.ne_of_lt (Nat.lt_succ_of_lt hal)), ⟨⟨.none, he⟩, ⟨_, hit, rfl, rfl⟩, Nat.succ_ne_self _⟩, fun b hb => ?_, q⟩
    have e' : b = s1.heap.objs.size + 1 ∨ b = s1.heap.objs.size := by simpa using hb
    have hle : s1.heap.objs.size ≤ b := by
      rcases e' with z | z
      · rw [z]; exact Nat.le_add_right _ _
      · rw [z]; exact Nat.le_refl _
    exact I1.fpOk hle (I1.hok.fresh hle)
theorem walk_enumT {K : PySem.W.Frag} {a : Addr} {xs : List V} : Walk (IteT K a) xs.length (fun H => SqT K H a xs) (YPair (fun i => some (.int (i : Nat))) (fun i => xs[i]?)) := by
  refine ⟨fun i _ hi q => ⟨xs, xs[i], q, by simp [hi]⟩, fun _ q => ⟨xs, q, Nat.le_refl _⟩, fun i H v H' _ q y => ?_⟩
  obtain ⟨T, x, h1, h2, h3, h4⟩ := y
  exact ⟨T, .int (i : Nat), x, h1, h2, h3, rfl, h4 xs q⟩

def tListVals (te : TE) : TE := fun σ H Q => te σ H fun x H1 => ∃ d kvs, x = .ref d ∧ H1 d = some (.dK kvs) ∧ ∀ p, H1 p = none → Q (.ref p) (upd H1 p (.lst (kvs.map (·.2))))
theorem pe_listVals {X : Cx} {e : Expr} {te : TE} {p apos cpos pos : Pos} (hc : X.calm = true) (he : PE X e te) (hg : Gl X "list") (hm : X.mg "list" = none) (hv : bootBuiltins "list" = some (.type "list")) (hbase : attributeBase e "values" X.env (eval e X.env) = eval e X.env := by rfl) (hline : (apos.endLine == cpos.line) = true := by rfl)
    (hs : starEach [.Call (.Attribute e "values" apos) [] [] cpos] X.env = (false, eval (.Call (.Attribute e "values" apos) [] [] cpos) X.env) :: starEach [] X.env := by rfl) :
    PE X (.Call (.Name "list" p) [.Call (.Attribute e "values" apos) [] [] cpos] [] pos) (tListVals te) := by
  refine ⟨fun pins s σ H Q I hq => ?_⟩
  refine wpAny_Call_Name_kw (ld_blt I hg hm hv ?_)
  refine PyProof.Rows.callWith_type1 ?_ hs rfl
  rw [hs]
  show wpAny _ _ (spliced ((false, eval (.Call (.Attribute e "values" apos) [] [] cpos) X.env) :: backTo pos (starEach [] X.env))) _ _ s
  refine Calls.spliced_cons ?_
  refine wpAny_Call_method (T := "dict") (id := "dict.values") hbase rfl hline F.plainAttrs_dict F.slot_dict_values F.type_dict_values (thn (he.run pins s σ H _ I hq) fun u s1 ⟨x, H1, I1, rx, d, kvs, ex, hd, q⟩ => ?_)
  subst ex
  obtain rfl : u = Value.ref d := rx
  obtain ⟨hz, hs0, vs, kv, hdo⟩ := I1.hok d _ hd
  obtain ⟨ep, hat⟩ := hdo.dictAt
  have lk : kvs.length = vs.length := Paired.length kv
  have I2 : Inv X pins σ H1 { s1 with heap := s1.heap.push { cls := .type "dict_values", data := .fields #[.ref d] } } := I1.kept (t' := s1.toks) fun b ob q => Heap.get?_push_of_some _ q
  refine ⟨hdo.typeIs, hdo.mapOf.noDict, ?_⟩
  show wpAny _ _ (callWith cpos (.builtin "dict.values") [.ref d] [] []) _ X.xe s1
  refine method_meetsIn F.slot_dict_values F.entry_dict_values rfl (PySem.evalArgs_none ⟨rfl, hdo.typeIs, F.args_dict_values_1 _, _, meets_dict_values (mixKind X.prog X.w) d hs0, ⟨vs, hdo⟩, ?_⟩)
  refine Calls.spliced_nil ?_
  refine PySem.W.kdl_call (PySem.W.kdl_values (knd := mixKind X.prog X.w) (kvs := vs) (ep := ep)) (I1.ok.hd hc) ⟨⟨_, Heap.get?_push_size _ rfl, rfl, rfl⟩, hat.push _⟩ (by rw [← lk]; exact hz) fun h' tk acc' c' hkeep hS hacc => ?_
  have hfr := I2.hok.fresh (Nat.le_refl _)
  refine ⟨.ref _, upd H1 _ (.lst (kvs.map (·.2))), I2.laid hkeep (Nat.le_refl _) (show ObjOk X.prog X.w _ _ _ (.lst (kvs.map (·.2))) from ⟨?_, acc'.toList, c', ?_, ?_⟩), rfl, q _ hfr⟩
  · rw [List.length_map]; exact hz
  · have el : acc'.toList.length = acc'.size := by simp
    refine vals_of_at (by rw [List.length_map, el, hacc.1, lk]) fun j x w h1 h2 => ?_
    obtain ⟨k, hi⟩ := hacc.2 j w (by rw [← Array.getElem?_toList]; exact h2)
    rw [List.getElem?_map] at h1
    cases hk : kvs[j]? with
    | none => rw [hk] at h1; cases h1
    | some kv' =>
      rw [hk] at h1
      cases h1
      obtain ⟨k', x'⟩ := kv'
      obtain ⟨u, e1, r1⟩ := kv_get kv hk
      rw [hi] at e1
      cases e1
      exact r1
  · rw [Array.toArray_toList]; exact hS

/-- how many unlike ones there are -/
def dct (ns : List Int) : Nat := (ns.foldl PyProof.Rows.step_dedup []).length
def tLenSetD (K : PySem.W.Frag) (ta : TE) : TE := fun σ H Q => ta σ H fun x H1 => ∃ (l : Addr) (ns : List Int), x = .ref l ∧ SqL K H1 l (ns.map V.int) ∧ ns.length ≤ 4000 ∧ Q (.int (dct ns : Nat)) H1
theorem pe_lenSetD {X : Cx} {a : Expr} {ta : TE} {p p2 q pos : Pos} (hg : Gl X "len") (hm : X.mg "len" = none) (hg2 : Gl X "set") (hm2 : X.mg "set" = none) (ha : PE X a ta) (hc : X.calm = true := by rfl)
    (na : starEach [a] X.env = (false, eval a X.env) :: starEach [] X.env := by rfl) : PE X (.Call (.Name "len" p) [.Call (.Name "set" p2) [a] [] q] [] pos) (tLenSetD X.K ta) := by
  refine ⟨fun pins s σ H Q I h => ?_⟩
  refine Call_ (ld_blt I hg hm boot_len ?_)
  refine PyProof.Rows.callWith_builtin1 (PyProof.Rows.args_cons ?_ rfl) rfl rfl
  refine Call_ (ld_blt I hg2 hm2 boot_set ?_)
  refine PyProof.Rows.callWith_type1 (PyProof.Rows.args_cons (thn (ha.run pins s σ H _ I h) fun v s1 ⟨x, H1, I1, r1, q1⟩ => PyProof.Rows.args_nil ?_) na) na rfl
  obtain ⟨l, ns, rfl, hq, hl, q1⟩ := q1
  cases r1
  obtain ⟨its, r, pl, hz⟩ := I1.list hq
  have hlen : its.toArray.size = ns.length := by rw [List.size_toArray, ← r.length, List.length_map]
  refine call_set_list (I1.ok.hd hc) pl.isList (by simpa using RZ.intsAre_vals r) (by rw [hlen]; unfold scanBound; omega) fun h' tk hS hk => ?_
  refine PyProof.Rows.args_nil ?_
  have ef : PyProof.Rows.firstMet (fun i => ns.getD i 0) ns.length = ns.foldl PyProof.Rows.step_dedup [] := by
    unfold PyProof.Rows.firstMet
    have e : (List.range ns.length).map (fun i => ns.getD i 0) = ns := by
      apply List.ext_getElem
      · simp
      · intro i h1 h2
        simp [List.getD_eq_getElem?_getD, h2]
    rw [e]
  have hb : dct ns ≤ ns.length := by
    unfold dct
    rw [← ef]
    exact PyProof.Rows.firstMet_length_le _ _
  rw [hlen, ef] at hS
  obtain ⟨o, es, ep, t, ho, hex, hd, _, _, _, hf, hn⟩ := hS
  have hn : es.size = dct ns := hn
  have I2 : Inv X pins σ H1 { s1 with heap := h', toks := tk } := I1.kept fun b o e => hk b o (Heap.lt_size e) e
  exact call_len_set ho hex hd hf (by rw [hn]; omega) ⟨.int (dct ns : Nat), H1, I2.tok _, ⟨_, by rw [hn]⟩, q1⟩
end K27
set_option Elab.async false
set_option linter.all false
set_option maxRecDepth 100000
set_option maxHeartbeats 4000000
namespace K27
open PySem PySem.Spec PyProof.Rows L2

structure Got (P : Program) (w : World) (K : PySem.W.Frag) (mg : Str → Option Value) (base : Heap) (k : Nat) (x : Str) (ps : List Str) (sp : Sp) : Prop where
  ex : ∃ f fd, mg x = some (.ref f) ∧ FnOk P w K mg base CX0 k f fd ps sp ∧ PySem.W.keepIn K (.ref f) = true ∧ Binds K fd ps []
theorem Got.mono {P : Program} {w : World} {K : PySem.W.Frag} {mg : Str → Option Value} {base : Heap} {j k : Nat} {x : Str} {ps : List Str} {sp : Sp} (G : Got P w K mg base j x ps sp) (h : j ≤ k) : Got P w K mg base k x ps sp := by
  obtain ⟨f, fd, h1, h2, h3, h4⟩ := G.ex
  exact ⟨f, fd, h1, h2.mono h, h3, h4⟩
theorem Got.imp {P : Program} {w : World} {K : PySem.W.Frag} {mg : Str → Option Value} {base : Heap} {k : Nat} {x : Str} {ps : List Str} {sp sp' : Sp} (G : Got P w K mg base k x ps sp) (h : ∀ vs H Q E, sp' vs H Q E → sp vs H Q E) : Got P w K mg base k x ps sp' := by
  obtain ⟨f, fd, h1, h2, h3, h4⟩ := G.ex
  exact ⟨f, fd, h1, h2.imp h, h3, h4⟩
/-- THE RULE: from a def of the text, its scope, and its body's walk -/
theorem got_of {P : Program} {w : World} {K : PySem.W.Frag} {mg : Str → Option Value} {base : Heap} {x : Str} {st : Stmt} {N ps : List Str} {k : Nat} {sp : Sp} (D : ∃ f fd, mg x = some (.ref f) ∧ FnP K x st f fd) (S : FnScope N ps (defScope st))
    (hb : ∀ {f fd}, FnP K x st f fd → Binds K fd ps []) (len : ∀ vs H Q E, sp vs H Q E → vs.length = ps.length)
    (hbody : ∀ (f : Addr) (cdv : Value) (A : Around) (outer : List Env) (s : Shared) (H : Hp) (vs : List V) (Q : VK) (E : XK), Room k (A.deeper (envOfC x (defScope st) s.heap.objs.size f cdv)) → sp vs H Q E →
      ∃ t, PSs (cxOf CX0 P w K mg base N x (defScope st) f cdv A outer s H E).nox (defBody st) t ∧ t { nx := fun _ H' => Q .non H', rt := Q } (start N vs) H) : Got P w K mg base (k + 1) x ps sp := by
  obtain ⟨f, fd, h1, F⟩ := D
  refine ⟨f, fd, h1, F.ok S len fun cdv A outer s H vs Q E hr hsp => ?_, F.kp, hb F⟩
  obtain ⟨t, h, q⟩ := hbody f cdv A outer s H vs Q E hr hsp
  exact ⟨t, h.nox, q⟩

/-- tuples stay -/
def KeepT (H H' : Hp) : Prop := ∀ b xs, H b = some (.tup xs) → H' b = some (.tup xs)
/-- all but what stands at u is as it was -/
def SameX (u : Addr) (H H' : Hp) : Prop := ∀ b o, b ≠ u → H b = some o → H' b = some o
theorem same_new {H : Hp} {p : Addr} {o : HO} (h : H p = none) : Same H (upd H p o) := fun b u q => by rw [upd_ne (ne_of_none q h)]; exact q
theorem same_over {H0 H : Hp} {p : Addr} {o : HO} (s : Same H0 H) (h : H0 p = none) : Same H0 (upd H p o) := fun b u q => by rw [upd_ne (ne_of_none q h)]; exact s b u q
theorem keepT_refl (H : Hp) : KeepT H H := fun _ _ h => h
theorem KeepT.trans {A B C : Hp} (a : KeepT A B) (b : KeepT B C) : KeepT A C := fun x y h => b x y (a x y h)
theorem keepT_same {H H' : Hp} (s : Same H H') : KeepT H H' := fun b xs h => s b _ h
theorem keepT_upd {H : Hp} {p : Addr} {o : HO} (h : ∀ xs, H p ≠ some (.tup xs)) : KeepT H (upd H p o) := fun b xs q => by
  by_cases e : b = p
  · exact absurd (e ▸ q) (h xs)
  · rw [upd_ne e]; exact q
theorem keepT_lst {H : Hp} {p : Addr} {o : HO} {ys : List V} (h : H p = some (.lst ys)) : KeepT H (upd H p o) := keepT_upd fun xs q => by rw [h] at q; cases q
theorem keepT_dK {H : Hp} {p : Addr} {o : HO} {ys} (h : H p = some (.dK ys)) : KeepT H (upd H p o) := keepT_upd fun xs q => by rw [h] at q; cases q
theorem keepT_dT {H : Hp} {p : Addr} {o : HO} {ys} (h : H p = some (.dT ys)) : KeepT H (upd H p o) := keepT_upd fun xs q => by rw [h] at q; cases q
theorem keepT_none {H : Hp} {p : Addr} {o : HO} (h : H p = none) : KeepT H (upd H p o) := keepT_upd fun xs q => by rw [h] at q; cases q
theorem keepT_X {u : Addr} {H H' : Hp} (s : SameX u H H') (h : ∀ xs, H u ≠ some (.tup xs)) : KeepT H H' := fun b xs q => by
  by_cases e : b = u
  · exact absurd (e ▸ q) (h xs)
  · exact s b _ e q
theorem sameX_refl (u : Addr) (H : Hp) : SameX u H H := fun _ _ _ h => h
theorem SameX.trans {u : Addr} {A B C : Hp} (a : SameX u A B) (b : SameX u B C) : SameX u A C := fun x o hx h => b x o hx (a x o hx h)
theorem sameX_of {u : Addr} {H H' : Hp} (s : Same H H') : SameX u H H' := fun b o _ h => s b o h
theorem sameX_upd {u : Addr} {H : Hp} {o : HO} : SameX u H (upd H u o) := fun b v hb h => by rw [upd_ne hb]; exact h
theorem sameX_over {u p : Addr} {H0 H : Hp} {o : HO} (s : SameX u H0 H) (h : H0 p = none) : SameX u H0 (upd H p o) := fun b v hb q => by rw [upd_ne (ne_of_none q h)]; exact s b v hb q
theorem same_none {H H' : Hp} {p : Addr} (s : Same H H') (h : H' p = none) : H p = none := s.free h
theorem sameX_none {u : Addr} {H H' : Hp} {p : Addr} (s : SameX u H H') (hu : p ≠ u) (h : H' p = none) : H p = none := by
  cases q : H p with
  | none => rfl
  | some o => rw [s p o hu q] at h; cases h

abbrev rLenS (K : PySem.W.Frag) : List V → Hp → VK → Prop := fun xs H Q => ∃ p ys, xs = [.ref p] ∧ (SqL K H p ys ∨ SqT K H p ys) ∧ Q (.int ys.length) H
abbrev rTupOf (K : PySem.W.Frag) : List V → Hp → VK → Prop := fun xs H Q => ∃ p ys, xs = [.ref p] ∧ ((SqL K H p ys ∧ ∀ l, H l = none → Q (.ref l) (upd H l (.tup ys))) ∨ (SqT K H p ys ∧ Q (.ref p) H))
abbrev rListOf (K : PySem.W.Frag) : List V → Hp → VK → Prop := fun xs H Q => ∃ p ys, xs = [.ref p] ∧ (SqL K H p ys ∨ SqT K H p ys) ∧ ∀ l, H l = none → Q (.ref l) (upd H l (.lst ys))
theorem tAnd_of {t u : TT} {σ : L2.St} {H : Hp} {Q : Bool → Hp → Prop} (b1 b2 : Bool) (h1 : ∀ Q' : Bool → Hp → Prop, (∀ H', Same H H' → Q' b1 H') → t σ H Q') (h2 : b1 = true → ∀ H1, Same H H1 → ∀ Q' : Bool → Hp → Prop, (∀ H', Same H1 H' → Q' b2 H') → u σ H1 Q')
    (q : ∀ H', Same H H' → Q (b1 && b2) H') : tAnd t u σ H Q := by
  refine h1 _ fun H1 s1 => ?_
  cases b1 with
  | true => exact iteT (h2 rfl H1 s1 _ fun H2 s2 => q H2 (s1.trans s2))
  | false => exact iteF (q H1 s1)
theorem tOr_of {t u : TT} {σ : L2.St} {H : Hp} {Q : Bool → Hp → Prop} (b1 b2 : Bool) (h1 : ∀ Q' : Bool → Hp → Prop, (∀ H', Same H H' → Q' b1 H') → t σ H Q') (h2 : b1 = false → ∀ H1, Same H H1 → ∀ Q' : Bool → Hp → Prop, (∀ H', Same H1 H' → Q' b2 H') → u σ H1 Q')
    (q : ∀ H', Same H H' → Q (b1 || b2) H') : tOr t u σ H Q := by
  refine h1 _ fun H1 s1 => ?_
  cases b1 with
  | true => exact iteT (q H1 s1)
  | false => exact iteF (h2 rfl H1 s1 _ fun H2 s2 => q H2 (s1.trans s2))
def sq (l : Bool) (xs : List V) : HO := if l then .lst xs else .tup xs
/-- a list (l) or tuple of things -/
def Sq {α : Type} (l : Bool) (R : Hp → V → α → Prop) (H : Hp) (v : V) (xs : List α) : Prop := ∃ a vs, v = .ref a ∧ H a = some (sq l vs) ∧ Paired (R H) vs xs
def RN (_ : Hp) (v : V) (n : Nat) : Prop := v = .int n
def RI (_ : Hp) (v : V) (n : Int) : Prop := v = .int n
def RP (H : Hp) (v : V) (p : Nat × Nat) : Prop := ∃ a, v = .ref a ∧ H a = some (.tup [.int p.1, .int p.2])
abbrev nv (xs : List Nat) : List V := List.map (fun (n : Nat) => V.int (n : Int)) xs
theorem nv_take (xs : List Nat) (k : Nat) : (nv xs).take k = nv (xs.take k) := by
  show (List.map (fun (n : Nat) => V.int (n : Int)) xs).take k = List.map (fun (n : Nat) => V.int (n : Int)) (xs.take k)
  rw [List.map_take]
theorem nv_drop (xs : List Nat) (k : Nat) : (nv xs).drop k = nv (xs.drop k) := by
  show (List.map (fun (n : Nat) => V.int (n : Int)) xs).drop k = List.map (fun (n : Nat) => V.int (n : Int)) (xs.drop k)
  rw [List.map_drop]
theorem nv_append (xs ys : List Nat) : nv xs ++ nv ys = nv (xs ++ ys) := (List.map_append ..).symm
theorem nv_reverse (xs : List Nat) : (nv xs).reverse = nv xs.reverse := (List.map_reverse ..).symm
theorem nv_length (xs : List Nat) : (nv xs).length = xs.length := List.length_map _
theorem pmap {α β : Type} {F G : α → β → Prop} : ∀ {l₁ : List α} {l₂ : List β}, Paired F l₁ l₂ → (∀ a b, F a b → G a b) → Paired G l₁ l₂
  | _, _, .nil, _ => .nil
  | _, _, .cons r t, f => .cons (f _ _ r) (pmap t f)
/-- kept under KeepT -/
def MonoT {α : Type} (R : Hp → V → α → Prop) : Prop := ∀ H H' v x, KeepT H H' → R H v x → R H' v x
def MonoS {α : Type} (R : Hp → V → α → Prop) : Prop := ∀ H H' v x, Same H H' → R H v x → R H' v x
theorem MonoT.s {α : Type} {R : Hp → V → α → Prop} (m : MonoT R) : MonoS R := fun H H' v x s h => m H H' v x (keepT_same s) h
theorem monoT_RN : MonoT RN := fun _ _ _ _ _ h => h
theorem monoT_RI : MonoT RI := fun _ _ _ _ _ h => h
theorem monoT_RP : MonoT RP := fun _ _ _ _ s ⟨a, e, h⟩ => ⟨a, e, s _ _ h⟩
theorem monoT_Sq {α : Type} {R : Hp → V → α → Prop} (m : MonoT R) : MonoT (Sq false R) := fun H H' v x s ⟨a, vs, e, h, p⟩ => ⟨a, vs, e, s _ _ h, pmap p fun v y r => m H H' v y s r⟩
theorem monoS_Sq {α : Type} {l : Bool} {R : Hp → V → α → Prop} (m : MonoS R) : MonoS (Sq l R) := fun H H' v x s ⟨a, vs, e, h, p⟩ => ⟨a, vs, e, s _ _ h, pmap p fun v y r => m H H' v y s r⟩
abbrev TN : Hp → V → List Nat → Prop := Sq false RN
abbrev TS' : Hp → V → List (List Nat) → Prop := Sq false TN
abbrev SN (l : Bool) : Hp → V → List Nat → Prop := Sq l RN
abbrev SS (l : Bool) : Hp → V → List (List Nat) → Prop := Sq l (SN l)
theorem monoT_TN : MonoT TN := monoT_Sq monoT_RN
theorem monoT_TS : MonoT TS' := monoT_Sq monoT_TN
theorem monoS_SN {l} : MonoS (SN l) := monoS_Sq monoT_RN.s
theorem monoS_SS {l} : MonoS (SS l) := monoS_Sq monoS_SN
theorem paired_nv {H : Hp} {vs : List V} {xs : List Nat} (h : Paired (RN H) vs xs) : vs = nv xs := by
  induction h with
  | nil => rfl
  | cons r _ ih =>
    have e : _ = _ := r
    rw [e, ih]
    rfl
theorem paired_nv' (H : Hp) : ∀ xs : List Nat, Paired (RN H) (nv xs) xs
  | [] => .nil
  | x :: xs => .cons rfl (paired_nv' H xs)
theorem paired_iv {H : Hp} {vs : List V} {xs : List Int} (h : Paired (RI H) vs xs) : vs = xs.map V.int := by
  induction h with
  | nil => rfl
  | cons r _ ih =>
    have e : _ = _ := r
    rw [e, ih]
    rfl
theorem nv_int (xs : List Nat) : nv xs = (xs.map fun n => ((n : Nat) : Int)).map V.int := by rw [List.map_map]; rfl
theorem SN.of {l : Bool} {H : Hp} {v : V} {xs : List Nat} (h : SN l H v xs) : ∃ a, v = .ref a ∧ H a = some (sq l (nv xs)) := by
  obtain ⟨a, vs, e, h, p⟩ := h
  rw [paired_nv p] at h
  exact ⟨a, e, h⟩
theorem TN.of {H : Hp} {v : V} {xs : List Nat} (h : TN H v xs) : ∃ a, v = .ref a ∧ H a = some (.tup (nv xs)) := SN.of h
theorem SN.mk {l : Bool} {H : Hp} {a : Addr} {xs : List Nat} (h : H a = some (sq l (nv xs))) : SN l H (.ref a) xs := ⟨a, _, rfl, h, paired_nv' H xs⟩
theorem TN.mk {H : Hp} {a : Addr} {xs : List Nat} (h : H a = some (.tup (nv xs))) : TN H (.ref a) xs := SN.mk (l := false) h
theorem sq_seq {K : PySem.W.Frag} {l : Bool} {H : Hp} {a : Addr} {vs : List V} (h : H a = some (sq l vs)) : SqL K H a vs ∨ SqT K H a vs := by
  cases l with
  | true => exact .inl (SqL.of h)
  | false => exact .inr (SqT.of h)
theorem rIx_sq {K : PySem.W.Frag} {l : Bool} {H : Hp} {a : Addr} {vs : List V} (h : H a = some (sq l vs)) {z : Int} {j : Nat} {v : V} {Q : VK} (e : z = (j : Int)) (hv : vs[j]? = some v) (q : Q v H) : rIx K (.ref a) (.int z) H Q := by
  subst e
  cases l with
  | true => exact .inl ⟨a, vs, _, v, rfl, rfl, SqL.of h, atI_nat hv, q⟩
  | false => exact .inr (.inl ⟨a, vs, _, v, rfl, rfl, SqT.of h, atI_nat hv, q⟩)
theorem rIx_t {K : PySem.W.Frag} {H : Hp} {a : Addr} {vs : List V} (h : H a = some (.tup vs)) {z : Int} {j : Nat} {v : V} {Q : VK} (e : z = (j : Int)) (hv : vs[j]? = some v) (q : Q v H) : rIx K (.ref a) (.int z) H Q := rIx_sq (l := false) h e hv q
theorem rIx_l {K : PySem.W.Frag} {H : Hp} {a : Addr} {vs : List V} (h : H a = some (.lst vs)) {z : Int} {j : Nat} {v : V} {Q : VK} (e : z = (j : Int)) (hv : vs[j]? = some v) (q : Q v H) : rIx K (.ref a) (.int z) H Q := rIx_sq (l := true) h e hv q
theorem pget {α β : Type} {F : α → β → Prop} : ∀ {xs : List α} {ys : List β}, Paired F xs ys → ∀ {i : Nat} {y : β}, ys[i]? = some y → ∃ x, xs[i]? = some x ∧ F x y
  | _, _, .nil, i, y, h => by simp at h
  | _, _, .cons r t, 0, y, h => by simp at h; subst h; exact ⟨_, rfl, r⟩
  | _, _, .cons r t, i + 1, y, h => by
    obtain ⟨x, h1, h2⟩ := pget t (i := i) (y := y) (by simpa using h)
    exact ⟨x, by simpa using h1, h2⟩
theorem pgetL {α β : Type} {F : α → β → Prop} : ∀ {xs : List α} {ys : List β}, Paired F xs ys → ∀ {i : Nat} {x : α}, xs[i]? = some x → ∃ y, ys[i]? = some y ∧ F x y
  | _, _, .nil, i, y, h => by simp at h
  | _, _, .cons r t, 0, y, h => by simp at h; subst h; exact ⟨_, rfl, r⟩
  | _, _, .cons r t, i + 1, y, h => by
    obtain ⟨x, h1, h2⟩ := pgetL t (i := i) (x := y) (by simpa using h)
    exact ⟨x, by simpa using h1, h2⟩
theorem paired_append {α β : Type} {F : α → β → Prop} : ∀ {xs xs' : List α} {ys ys' : List β}, Paired F xs ys → Paired F xs' ys' → Paired F (xs ++ xs') (ys ++ ys')
  | _, _, _, _, .nil, h => h
  | _, _, _, _, .cons r t, h => .cons r (paired_append t h)
theorem paired_reverse {α β : Type} {F : α → β → Prop} : ∀ {xs : List α} {ys : List β}, Paired F xs ys → Paired F xs.reverse ys.reverse
  | _, _, .nil => .nil
  | _, _, .cons r t => by rw [List.reverse_cons, List.reverse_cons]; exact paired_append (paired_reverse t) (.cons r .nil)
theorem paired_take {α β : Type} {F : α → β → Prop} : ∀ {xs : List α} {ys : List β} (n : Nat), Paired F xs ys → Paired F (xs.take n) (ys.take n)
  | _, _, 0, _ => .nil
  | _, _, n + 1, .nil => .nil
  | _, _, n + 1, .cons r t => .cons r (paired_take n t)
theorem paired_drop {α β : Type} {F : α → β → Prop} : ∀ {xs : List α} {ys : List β} (n : Nat), Paired F xs ys → Paired F (xs.drop n) (ys.drop n)
  | _, _, 0, h => h
  | _, _, n + 1, .nil => .nil
  | _, _, n + 1, .cons r t => paired_drop n t
theorem atN {xs : List V} {j : Nat} {v : V} (h : xs[j]? = some v) : atI xs (j : Int) = some v := atI_nat h
theorem nv_get {xs : List Nat} {j n : Nat} (h : xs[j]? = some n) : (nv xs)[j]? = some (.int n) := by rw [List.getElem?_map, h]; rfl

section
variable {α : Type} {J : It} {n : Nat} {G : Hp → Prop} {Y : Nat → Hp → V → Hp → Prop}
/-- R tells an item, R' an element (both kept while tuples stay); p: the test -/
theorem lc_rel (w : Walk J n G Y) {g : TG} {tt : TT} {te : TE} {vs : List Nat} {σ : L2.St} {H1 : Hp} {D : Addr} {Qd : Hp → Prop} (R' : Hp → V → α → Prop) (mR : MonoT R') (p : Nat → Bool) (f : Nat → α) (hD : H1 D = none) (hn : n ≤ 1000000)
    (hG : ∀ H, Same H1 H → G H)
    (hs : ∀ i x H H', i < n → Same H1 H → Y i H x H' → ∀ (K1 : V → Hp → Prop) (K2 : Hp → Prop), (p i = true → ∀ y H4, Same H H4 → R' H4 y (f i) → K1 y H4) → (p i = false → ∀ H3, Same H H3 → K2 H3) →
      g x (wipe σ vs) H' fun σ2 H2 => wipe σ2 vs = wipe σ vs ∧ tt σ2 H2 fun b H3 => if b = true then te σ2 H3 K1 else K2 H3)
    (hd : ∀ H ys, Same H1 H → H D = some (.lst ys) → Paired (R' H) ys (((List.range n).filter p).map f) → Qd H) :
    ∃ W : Nat → Nat → Hp → Prop, (∃ m, W 0 m (upd H1 D (.lst []))) ∧ ∀ i m H, W i m H →
      (J.stop i H ∧ Qd H) ∨ (J.go i H ∧ ∃ Nx : Hp → Prop, (∀ H', Nx H' → ∃ m', m' < m ∧ W (i + 1) m' H') ∧ ∀ x H', J.yld i H x H' → g x (wipe σ vs) H' fun σ2 H2 => wipe σ2 vs = wipe σ vs ∧ tt σ2 H2 fun b H3 =>
        if b = true then te σ2 H3 fun y H4 => ∃ acc, H4 D = some (.lst acc) ∧ acc.length < sizeLine ∧ Nx (upd H4 D (.lst (acc ++ [y]))) else Nx H3) := by
  refine lc_it w (fun i H => Same H1 H ∧ ∃ ys, H D = some (.lst ys) ∧ Paired (R' H) ys (((List.range i).filter p).map f)) ⟨same_new hD, [], upd_same, .nil⟩ (fun i H _ h => hG H h.1) ?_ (fun H ⟨s, ys, h1, h2⟩ => hd H ys s h1 h2)
  rintro i x H H' hi ⟨s, ys, h1, h2⟩ y
  refine hs i x H H' hi s y _ _ (fun hp v H4 s4 r => ⟨ys, s4 _ _ h1, ?_, same_over (s.trans s4) hD, _, upd_same, ?_⟩) (fun hp H3 s3 => ⟨s.trans s3, ys, s3 _ _ h1, ?_⟩)
  · have e := Paired.length h2
    have e2 : (((List.range i).filter p).map f).length ≤ i := by
      rw [List.length_map]
      exact Nat.le_trans (List.length_filter_le _ _) (by simp)
    show ys.length < 2 ^ 24
    omega
  · have k1 : KeepT H4 (upd H4 D (.lst (ys ++ [v]))) := keepT_lst (s4 _ _ h1)
    rw [List.range_succ, List.filter_append, List.map_append]
    refine paired_append (pmap h2 fun a b r => mR _ _ _ _ k1 (mR _ _ _ _ (keepT_same s4) r)) ?_
    rw [List.filter_cons, if_pos hp]
    exact .cons (mR _ _ _ _ k1 r) .nil
  · rw [List.range_succ, List.filter_append, List.map_append, List.filter_cons, if_neg (by rw [hp]; exact Bool.false_ne_true)]
    rw [List.filter_nil, List.map_nil, List.append_nil]
    exact pmap h2 fun a b r => mR _ _ _ _ (keepT_same s3) r
end
def Its' (l : Bool) (K : PySem.W.Frag) (a : Addr) : It := if l then Itl K a else Itt K a
def iSq (l : Bool) (K : PySem.W.Frag) (tl : TE) : TI := fun σ H R => tl σ H fun x H1 => ∃ a, x = .ref a ∧ (∃ xs, H1 a = some (sq l xs)) ∧ R (Its' l K a) H1
theorem pi_sq {X : Cx} {tg : Expr} (l : Bool) {e : Expr} {tl : TE} (hl : PE X e tl) : PI X tg e (iSq l X.K tl) := by
  cases l with
  | true =>
    refine ⟨fun pins s σ H R I h => ?_⟩
    refine thn (hl.run pins s σ H _ I h) fun v s1 ⟨x, H1, I1, r1, q1⟩ => ?_
    obtain ⟨a, e, ⟨xs, hq⟩, q⟩ := q1
    subst e
    cases r1
    obtain ⟨its, rv, p, hz⟩ := I1.list (SqL.of (xs := xs) hq)
    refine wpAny_pyIter_list p.isList ?_
    refine ⟨s1.heap.objs.size, [s1.heap.objs.size], _, _, H1, rfl, I1.kept (t' := s1.toks) fun b o e => Heap.get?_push_of_some _ e, turn_list a _, ⟨_, Heap.get?_push_size _ rfl, rfl, rfl⟩, fun b hb => ?_, q⟩
    have e : b = s1.heap.objs.size := by simpa using hb
    subst e
    exact I1.fpOk (Nat.le_refl _) (I1.hok.fresh (Nat.le_refl _))
  | false =>
    refine ⟨fun pins s σ H R I h => ?_⟩
    refine thn (hl.run pins s σ H _ I h) fun v s1 ⟨x, H1, I1, r1, q1⟩ => ?_
    obtain ⟨a, e, ⟨xs, hq⟩, q⟩ := q1
    subst e
    cases r1
    obtain ⟨its, rv, p, hz⟩ := I1.tuple (SqT.of (xs := xs) hq)
    refine wpAny_pyIter_tuple (show s1.heap.IsTuple a its.toArray from p) ?_
    refine ⟨s1.heap.objs.size, [s1.heap.objs.size], _, _, H1, rfl, I1.kept (t' := s1.toks) fun b o e => Heap.get?_push_of_some _ e, turn_tuple a _, ⟨_, Heap.get?_push_size _ rfl, rfl, rfl⟩, fun b hb => ?_, q⟩
    have e : b = s1.heap.objs.size := by simpa using hb
    subst e
    exact I1.fpOk (Nat.le_refl _) (I1.hok.fresh (Nat.le_refl _))
theorem walk_sq (l : Bool) {K : PySem.W.Frag} {a : Addr} {xs : List V} : Walk (Its' l K a) xs.length (fun H => H a = some (sq l xs)) (YAt xs) := by
  cases l with
  | true => exact walk_list.mono (fun H h => SqL.of h) fun _ _ _ _ _ _ y => y
  | false => exact walk_tup.mono (fun H h => SqT.of h) fun _ _ _ _ _ _ y => y
/-- the reading of a comprehension, once its iterable is read -/
theorem range_map {α β : Type} (xs : List α) (p : α → Bool) (f : α → β) (d : α) : ((List.range xs.length).filter fun i => p (xs.getD i d)).map (fun i => f (xs.getD i d)) = (xs.filter p).map f := by
  have e : (List.range xs.length).map (fun i => xs.getD i d) = xs := by
    apply List.ext_getElem
    · simp
    · intro i h1 h2
      simp [List.getD_eq_getElem?_getD, h2]
  conv => rhs; rw [← e]
  rw [List.filter_map, List.map_map]
  rfl
theorem range_f {α β : Type} (xs : List α) (f : α → β) (d : α) : (((List.range xs.length).filter fun _ => true).map fun i => f (xs.getD i d)) = xs.map f := by
  have h := range_map xs (fun _ => true) f d
  rw [h, List.filter_eq_self.mpr (fun _ _ => rfl)]
theorem range_id {α : Type} (xs : List α) (d : α) : (((List.range xs.length).filter fun _ => true).map fun i => xs.getD i d) = xs := by
  have h := range_f xs (fun x => x) d
  simpa using h
theorem range_nf {β : Type} (n : Nat) (f : Nat → β) : (((List.range n).filter fun _ => true).map f) = (List.range n).map f := by
  rw [List.filter_eq_self.mpr (fun _ _ => rfl)]
theorem tyes_ok {σ : L2.St} {H : Hp} {Q : Bool → Hp → Prop} (h : Q true H) : tYes σ H Q := h
theorem getD_of {α : Type} {xs : List α} {i : Nat} {x d : α} (h : xs[i]? = some x) : xs.getD i d = x := by rw [List.getD_eq_getElem?_getD, h]; rfl
theorem int_cast_inj {a b : Nat} (h : ((a : Nat) : Int) = b) : a = b := by omega
end K27
set_option linter.all false
set_option maxHeartbeats 1000000
namespace K27
open PySem
theorem bitAnd_nat (m n : Nat) : Builtin.bitAnd (m : Int) (n : Int) = ((m &&& n : Nat) : Int) := by
  unfold Builtin.bitAnd
  rw [decide_eq_true (Int.natCast_nonneg m), decide_eq_true (Int.natCast_nonneg n)]
  simp
theorem bitOr_nat (m n : Nat) : Builtin.bitOr (m : Int) (n : Int) = ((m ||| n : Nat) : Int) := by
  unfold Builtin.bitOr Builtin.bitNot Builtin.bitAnd
  have h1 : ¬ (0 ≤ -(m : Int) - 1) := by omega
  have h2 : ¬ (0 ≤ -(n : Int) - 1) := by omega
  rw [decide_eq_false h1, decide_eq_false h2]
  simp only [Builtin.bitNot]
  have e1 : (-(-(m : Int) - 1) - 1).toNat = m := by omega
  have e2 : (-(-(n : Int) - 1) - 1).toNat = n := by omega
  first
    | (rw [e1, e2]; omega)
    | (simp only [e1, e2]; omega)

/-- the bits of these places -/
def mask (own : List Nat) : Nat := (own.map fun x => 2 ^ x).sum
theorem testBit_add_pow {m k : Nat} (h : m.testBit k = false) (j : Nat) : (m + 2 ^ k).testBit j = (m.testBit j || decide (j = k)) := by
  have e : m + 2 ^ k = m ||| 2 ^ k := by
    rw [Nat.add_comm]
    apply Nat.eq_of_testBit_eq
    intro i
    rw [Nat.testBit_or, Nat.testBit_two_pow]
    rcases Nat.lt_trichotomy i k with hi | hi | hi
    · rw [Nat.testBit_two_pow_add_gt hi]
      simp [Nat.ne_of_gt hi]
    · subst hi
      rw [Nat.testBit_two_pow_add_eq, h]
      simp
    · obtain ⟨d, rfl⟩ : ∃ d, i = k + 1 + d := ⟨i - (k + 1), by omega⟩
      have hne : k ≠ k + 1 + d := by omega
      simp only [hne, decide_false, Bool.or_false]
      have e1 : (2 ^ k + m) / 2 ^ (k + 1) = m / 2 ^ (k + 1) := by
        have hm := Nat.testBit_eq_decide_div_mod_eq (x := m) (i := k)
        rw [h] at hm
        have hm2 : m / 2 ^ k % 2 = 0 := by
          have := of_decide_eq_false hm.symm
          omega
        have hp : 0 < 2 ^ k := Nat.pow_pos (by omega)
        have h3 : m = 2 ^ k * (m / 2 ^ k) + m % 2 ^ k := (Nat.div_add_mod m (2 ^ k)).symm
        have hlt := Nat.mod_lt m hp
        have d1 : m / 2 ^ (k + 1) = m / 2 ^ k / 2 := by rw [Nat.pow_succ, Nat.div_div_eq_div_mul]
        have d2 : (2 ^ k + m) / 2 ^ (k + 1) = (2 ^ k + m) / 2 ^ k / 2 := by rw [Nat.pow_succ, Nat.div_div_eq_div_mul]
        have d3 : (2 ^ k + m) / 2 ^ k = m / 2 ^ k + 1 := by
          rw [Nat.add_comm, Nat.add_div_right m hp]
        rw [d1, d2, d3]
        omega
      have t : ∀ x : Nat, x.testBit (k + 1 + d) = (x / 2 ^ (k + 1)).testBit d := fun x => by
        rw [Nat.testBit_div_two_pow, Nat.add_comm]
      rw [t, t, e1]
  rw [e, Nat.testBit_or, Nat.testBit_two_pow]
  by_cases hj : k = j
  · subst hj; simp
  · simp [hj, Ne.symm hj]
theorem testBit_sub_pow {m k : Nat} (h : m.testBit k = true) (j : Nat) : (m - 2 ^ k).testBit j = (m.testBit j && !decide (j = k)) := by
  have hle : 2 ^ k ≤ m := Nat.ge_two_pow_of_testBit h
  have hf : (m - 2 ^ k).testBit k = false := by
    cases hq : (m - 2 ^ k).testBit k with
    | false => rfl
    | true =>
      have e : m = 2 ^ k + (m - 2 ^ k) := by omega
      have := Nat.testBit_two_pow_add_eq (m - 2 ^ k) k
      rw [← e, h, hq] at this
      cases this
  have e := testBit_add_pow hf j
  rw [Nat.sub_add_cancel hle] at e
  rw [e]
  by_cases hj : j = k
  · subst hj; simp [hf]
  · simp [hj]
theorem mask_nil : mask [] = 0 := rfl
theorem mask_cons (x : Nat) (r : List Nat) : mask (x :: r) = 2 ^ x + mask r := by simp [mask]
theorem testBit_mask : ∀ {own : List Nat}, own.Nodup → ∀ j, (mask own).testBit j = decide (j ∈ own)
  | [], _, j => by simp [mask]
  | x :: r, h, j => by
    have h' := List.nodup_cons.mp h
    have ih := testBit_mask h'.2
    have hf : (mask r).testBit x = false := by rw [ih]; simp [h'.1]
    rw [mask_cons, Nat.add_comm, testBit_add_pow hf, ih]
    simp only [List.mem_cons]
    by_cases h1 : j = x <;> by_cases h2 : j ∈ r <;> simp [h1, h2]
theorem and_mask_eq {own : List Nat} (h : own.Nodup) (m : Nat) : (m &&& mask own = mask own) ↔ ∀ x ∈ own, m.testBit x = true := by
  constructor
  · intro e x hx
    have := congrArg (fun z => z.testBit x) e
    simp only [Nat.testBit_and, testBit_mask h, hx, decide_true, Bool.and_true] at this
    exact this
  · intro hx
    apply Nat.eq_of_testBit_eq
    intro j
    rw [Nat.testBit_and, testBit_mask h]
    by_cases hj : j ∈ own
    · simp [hj, hx j hj]
    · simp [hj]
theorem and_pow_eq (m k : Nat) : (m &&& 2 ^ k = 0) ↔ m.testBit k = false := by
  constructor
  · intro e
    have := congrArg (fun z => z.testBit k) e
    simpa [Nat.testBit_and, Nat.testBit_two_pow_self] using this
  · intro h
    apply Nat.eq_of_testBit_eq
    intro j
    rw [Nat.testBit_and, Nat.testBit_two_pow]
    by_cases hj : k = j
    · subst hj; simp [h]
    · simp [hj]
theorem shr_and (m k : Nat) : ((m / 2 ^ k) &&& 1 = 1) ↔ m.testBit k = true := by
  rw [Nat.and_one_is_mod, Nat.testBit_eq_decide_div_mod_eq, decide_eq_true_iff]
/-- masks that do not hold all of a set -/
theorem and_mask_ne {own : List Nat} (h : own.Nodup) (m : Nat) : (mask own &&& m ≠ mask own) ↔ ∃ x ∈ own, m.testBit x = false := by
  rw [Nat.and_comm, ne_eq, and_mask_eq h]
  constructor
  · intro hn
    refine Classical.byContradiction fun hc => hn fun x hx => ?_
    cases q : m.testBit x with
    | true => rfl
    | false => exact absurd ⟨x, hx, q⟩ hc
  · rintro ⟨x, hx, q⟩ hall
    rw [hall x hx] at q
    cases q
theorem lt_pow_of_bits {m n : Nat} (h : ∀ j, m.testBit j = true → j < n) : m < 2 ^ n :=
  Nat.lt_pow_two_of_testBit m fun i hi => by
    cases q : m.testBit i with
    | false => rfl
    | true => exact absurd (h i q) (by omega)
theorem bits_lt {m n j : Nat} (h : m < 2 ^ n) (q : m.testBit j = true) : j < n := by
  refine Nat.lt_of_not_le fun hle => ?_
  rw [Nat.testBit_lt_two_pow (Nat.lt_of_lt_of_le h (Nat.pow_le_pow_right (by omega) hle))] at q
  cases q
theorem sum_natCast (xs : List Nat) : (xs.map fun n => ((n : Nat) : Int)).sum = ((xs.sum : Nat) : Int) := by
  induction xs with
  | nil => rfl
  | cons x r ih => rw [List.map_cons, List.sum_cons, List.sum_cons, ih]; omega
end K27
set_option linter.all false
set_option maxHeartbeats 1000000
namespace K27
theorem nodup_sub {α : Type} [DecidableEq α] : ∀ (xs ys : List α), xs.Nodup → (∀ x ∈ xs, x ∈ ys) → xs.length ≤ ys.length
  | [], ys, _, _ => Nat.zero_le _
  | x :: r, ys, h, hs => by
    have h' := List.nodup_cons.mp h
    have hx := hs x List.mem_cons_self
    have ih := nodup_sub r (ys.erase x) h'.2 fun y hy => (List.mem_erase_of_ne (fun (e : y = x) => h'.1 (e ▸ hy))).mpr (hs y (List.mem_cons_of_mem _ hy))
    have := List.length_erase_of_mem hx
    have := List.length_pos_of_mem hx
    rw [List.length_cons]
    omega
theorem nodup_le {ks : List Nat} {n : Nat} (h : ks.Nodup) (hl : ∀ x ∈ ks, x < n) : ks.length ≤ n := by
  have := nodup_sub ks (List.range n) h fun x hx => List.mem_range.mpr (hl x hx)
  rwa [List.length_range] at this
theorem nodup_len {ks : List Nat} {n : Nat} (h : ks.Nodup) (hl : ∀ x, x ∈ ks ↔ x < n) : ks.length = n := by
  have h1 := nodup_le h fun x hx => (hl x).mp hx
  have h2 := nodup_sub (List.range n) ks List.nodup_range fun x hx => (hl x).mpr (List.mem_range.mp hx)
  rw [List.length_range] at h2
  omega
/-- the parts of a knot -/
def parts (S : List (List Nat)) (k : Nat) : List Nat := S.getD k []
structure ShOk (S : List (List Nat)) : Prop where
  pos : 0 < S.length
  few : S.length ≤ 8
  asc : ∀ k, k < S.length → (parts S k).Pairwise (· < ·)
  low : ∀ k x, k < S.length → x ∈ parts S k → x < k
  use : ∀ k, k + 1 < S.length → ∃ j, j < S.length ∧ k ∈ parts S j
theorem parts_get {S : List (List Nat)} {k : Nat} {own : List Nat} (h : S[k]? = some own) : parts S k = own := by
  unfold parts; rw [List.getD_eq_getElem?_getD, h]; rfl
theorem get_parts {S : List (List Nat)} {k : Nat} (h : k < S.length) : S[k]? = some (parts S k) := by
  unfold parts; rw [List.getD_eq_getElem?_getD, List.getElem?_eq_getElem h]; rfl
theorem asc_nodup {own : List Nat} (h : own.Pairwise (· < ·)) : own.Nodup := h.imp fun hab => Nat.ne_of_lt hab
theorem ShOk.nd {S : List (List Nat)} (h : ShOk S) {k : Nat} (hk : k < S.length) : (parts S k).Nodup := asc_nodup (h.asc k hk)
theorem ShOk.lt {S : List (List Nat)} (h : ShOk S) {k x : Nat} (hk : k < S.length) (hx : x ∈ parts S k) : x < S.length := by
  have := h.low k x hk hx
  omega
/-- the knots with bits -/
def bitsOf (m n : Nat) : List Nat := (List.range n).filter fun k => m.testBit k
/-- the knots of which k is a part -/
def usr (S : List (List Nat)) (k : Nat) : List Nat := (List.range S.length).filter fun j => decide (k ∈ parts S j)
/-- the users as numbers -/
def usersL (S : List (List Nat)) : List Nat := ((List.range (S.length - 1)).map fun k => mask (usr S k)) ++ [2 ^ S.length]
/-- the knots made that are used by others not made yet, or the top -/
def kept (S : List (List Nat)) (m : Nat) : List Nat := (List.range S.length).filter fun k => m.testBit k && (decide (k + 1 = S.length) || (List.range S.length).any fun j => decide (k ∈ parts S j) && !m.testBit j)
/-- a step of a sparing way -/
structure SpStep (S : List (List Nat)) (many m k : Nat) : Prop where
  lt : k < S.length
  new : m.testBit k = false
  has : ∀ x ∈ parts S k, m.testBit x = true
  fits : (kept S (m ||| 2 ^ k)).length ≤ many
inductive WayTo (S : List (List Nat)) (many : Nat) : Nat → List (Nat × List Nat) → Prop where
  | nil : WayTo S many 0 []
  | snoc {m k : Nat} {way : List (Nat × List Nat)} : WayTo S many m way → SpStep S many m k → WayTo S many (m ||| 2 ^ k) (way ++ [(k, kept S (m ||| 2 ^ k))])
def goal (S : List (List Nat)) : Nat := 2 ^ S.length - 1
/-- a step of a web's lots -/
structure WStep (S : List (List Nat)) (many m k m' : Nat) : Prop where
  lt : k < S.length
  new : m.testBit k = false
  has : ∀ x ∈ parts S k, m.testBit x = true
  to : ((bitsOf m S.length).length = many ∧ ∃ g, m.testBit g = true ∧ m' = m - 2 ^ g + 2 ^ k) ∨ ((bitsOf m S.length).length ≠ many ∧ m' = m + 2 ^ k)
inductive Lot (S : List (List Nat)) (many : Nat) : Nat → Prop where
  | zero : Lot S many 0
  | step {m k m' : Nat} : Lot S many m → WStep S many m k m' → Lot S many m'
def Reach (S : List (List Nat)) (many : Nat) : Prop := ∃ m, Lot S many m ∧ m.testBit (S.length - 1) = true
/-- a way of a tree goes down along parts -/
structure WayOk (S : List (List Nat)) (way : List Nat) : Prop where
  ne : way ≠ []
  lt : ∀ x ∈ way, x < S.length
  down : ∀ (i x y : Nat), way[i]? = some x → way[i + 1]? = some y → y ∈ parts S x
/-- trees: a way, and nothing or two trees -/
inductive Tr where
  | lf (way : List Nat)
  | nd (way : List Nat) (a b : Tr)
def Tr.way : Tr → List Nat
  | .lf w => w
  | .nd w _ _ => w
def Tr.root (t : Tr) : Nat := t.way.headD 0
def Tr.hgt : Tr → Nat
  | .lf _ => 0
  | .nd _ a b => 1 + max a.hgt b.hgt
/-- the last knot of a way -/
def lastK (way : List Nat) : Nat := way.getLastD 0
def TOk (S : List (List Nat)) : Tr → Prop
  | .lf w => WayOk S w ∧ w.length ≤ 8
  | .nd w a b => WayOk S w ∧ w.length ≤ 8 ∧ TOk S a ∧ TOk S b ∧ a.root ∈ parts S (lastK w) ∧ b.root ∈ parts S (lastK w)
/-- the knots of a tree of this depth -/
def tk : Nat → Tr → Option (List Nat)
  | 0, .lf w => some w
  | 0, .nd _ _ _ => none
  | _ + 1, .lf _ => none
  | d + 1, .nd w a b => match tk d a, tk d b with
    | some x, some y => some (w ++ x ++ y)
    | _, _ => none
theorem tk_len {S : List (List Nat)} : ∀ (d : Nat) (t : Tr) (ks : List Nat), TOk S t → tk d t = some ks → ks.length ≤ 8 * 3 ^ d ∧ ks.head? = t.way.head? ∧ ks ≠ []
  | 0, .lf w, ks, ok, h => by
    cases h
    exact ⟨by simpa using ok.2, rfl, ok.1.ne⟩
  | 0, .nd _ _ _, ks, ok, h => by cases h
  | _ + 1, .lf _, ks, ok, h => by cases h
  | d + 1, .nd w a b, ks, ok, h => by
    obtain ⟨h1, h2, h3, h4, _, _⟩ := ok
    unfold tk at h
    cases ha : tk d a with
    | none => rw [ha] at h; cases h
    | some x =>
      cases hb : tk d b with
      | none => rw [ha, hb] at h; cases h
      | some y =>
        rw [ha, hb] at h
        cases h
        have ia := (tk_len d a x h3 ha).1
        have ib := (tk_len d b y h4 hb).1
        have hne := h1.ne
        have hp : 1 ≤ 3 ^ d := Nat.one_le_pow _ _ (by omega)
        refine ⟨?_, ?_, ?_⟩
        · rw [List.length_append, List.length_append, Nat.pow_succ]
          omega
        · cases w with
          | nil => exact absurd rfl hne
          | cons z r => rfl
        · simp [hne]
/-- the same, whatever the roots below are -/
def TOkW (S : List (List Nat)) : Tr → Prop
  | .lf w => WayOk S w ∧ w.length ≤ 8
  | .nd w a b => WayOk S w ∧ w.length ≤ 8 ∧ TOkW S a ∧ TOkW S b
def tkS (S : List (List Nat)) : Nat → Tr → Option (List Nat)
  | 0, .lf w => some w
  | 0, .nd _ _ _ => none
  | _ + 1, .lf _ => none
  | d + 1, .nd w a b => match tkS S d a, tkS S d b with
    | some x, some y => if a.root ∈ parts S (lastK w) ∧ b.root ∈ parts S (lastK w) then some (w ++ x ++ y) else none
    | _, _ => none
theorem TOk.w {S : List (List Nat)} : ∀ {t : Tr}, TOk S t → TOkW S t
  | .lf _, h => h
  | .nd _ _ _, ⟨h1, h2, h3, h4, _, _⟩ => ⟨h1, h2, h3.w, h4.w⟩
theorem tkS_eq {S : List (List Nat)} : ∀ (d : Nat) (t : Tr), TOk S t → tkS S d t = tk d t
  | 0, .lf w, _ => rfl
  | 0, .nd _ _ _, _ => rfl
  | _ + 1, .lf _, _ => rfl
  | d + 1, .nd w a b, ⟨h1, h2, h3, h4, h5, h6⟩ => by
    unfold tkS tk
    rw [tkS_eq d a h3, tkS_eq d b h4]
    cases tk d a <;> cases tk d b <;> simp [h5, h6]
theorem tkS_len {S : List (List Nat)} : ∀ (d : Nat) (t : Tr) (ks : List Nat), TOkW S t → tkS S d t = some ks → ks.length ≤ 8 * 3 ^ d ∧ ks.head? = t.way.head? ∧ ks ≠ []
  | 0, .lf w, ks, ok, h => by
    cases h
    exact ⟨by simpa using ok.2, rfl, ok.1.ne⟩
  | 0, .nd _ _ _, ks, ok, h => by cases h
  | _ + 1, .lf _, ks, ok, h => by cases h
  | d + 1, .nd w a b, ks, ok, h => by
    obtain ⟨h1, h2, h3, h4⟩ := ok
    unfold tkS at h
    cases ha : tkS S d a with
    | none => rw [ha] at h; cases h
    | some x =>
      cases hb : tkS S d b with
      | none => rw [ha, hb] at h; cases h
      | some y =>
        rw [ha, hb] at h
        dsimp only at h
        split at h
        · cases h
          have ia := (tkS_len d a x h3 ha).1
          have ib := (tkS_len d b y h4 hb).1
          have hne := h1.ne
          have hp : 1 ≤ 3 ^ d := Nat.one_le_pow _ _ (by omega)
          refine ⟨?_, ?_, ?_⟩
          · rw [List.length_append, List.length_append, Nat.pow_succ]
            omega
          · cases w with
            | nil => exact absurd rfl hne
            | cons z r => rfl
          · simp [hne]
        · cases h
end K27
set_option linter.all false
set_option maxHeartbeats 1000000
namespace K27
theorem bits_add {m k n : Nat} (hk : k < n) (h : m.testBit k = false) : (bitsOf (m + 2 ^ k) n).length = (bitsOf m n).length + 1 := by
  have hnd1 : (bitsOf (m + 2 ^ k) n).Nodup := List.nodup_range.sublist List.filter_sublist
  have hnd2 : (k :: bitsOf m n).Nodup := List.nodup_cons.mpr ⟨fun hm => by have := (List.mem_filter.mp hm).2; (rw [h] at this); exact Bool.noConfusion this, List.nodup_range.sublist List.filter_sublist⟩
  have hmem : ∀ x, x ∈ bitsOf (m + 2 ^ k) n ↔ x ∈ k :: bitsOf m n := fun x => by
    unfold bitsOf
    rw [List.mem_filter, testBit_add_pow h, List.mem_cons, List.mem_filter, List.mem_range]
    simp only [Bool.or_eq_true, decide_eq_true_eq]
    constructor
    · rintro ⟨h1, h2 | h2⟩
      · exact .inr ⟨h1, h2⟩
      · exact .inl h2
    · rintro (rfl | ⟨h1, h2⟩)
      · exact ⟨hk, .inr rfl⟩
      · exact ⟨h1, .inl h2⟩
  have h1 := nodup_sub _ _ hnd1 fun x hx => (hmem x).mp hx
  have h2 := nodup_sub _ _ hnd2 fun x hx => (hmem x).mpr hx
  rw [List.length_cons] at h1 h2
  omega
theorem bits_sub {m g n : Nat} (hg : g < n) (h : m.testBit g = true) : (bitsOf (m - 2 ^ g) n).length + 1 = (bitsOf m n).length := by
  have hf : (m - 2 ^ g).testBit g = false := by rw [testBit_sub_pow h]; simp
  have := bits_add hg hf
  rw [Nat.sub_add_cancel (Nat.ge_two_pow_of_testBit h)] at this
  omega
theorem bits_zero (n : Nat) : bitsOf 0 n = [] := by
  unfold bitsOf
  rw [List.filter_eq_nil_iff]
  intro x _
  simp
theorem bits_le (m n : Nat) : (bitsOf m n).length ≤ n := by
  have := List.length_filter_le (fun k => m.testBit k) (List.range n)
  rw [List.length_range] at this
  exact this
theorem low_bits (i j : Nat) : (2 ^ i - 1).testBit j = decide (j < i) := Nat.testBit_two_pow_sub_one i j
theorem low_or (i : Nat) : (2 ^ i - 1) ||| 2 ^ i = 2 ^ (i + 1) - 1 := by
  apply Nat.eq_of_testBit_eq
  intro j
  rw [Nat.testBit_or, low_bits, low_bits, Nat.testBit_two_pow]
  by_cases h : i = j
  · subst h; simp
  · simp [h]
    omega
theorem low_add (i : Nat) : (2 ^ i - 1) + 2 ^ i = 2 ^ (i + 1) - 1 := by
  have := Nat.one_le_two_pow (n := i)
  rw [Nat.pow_succ]
  omega
theorem kept_le (S : List (List Nat)) (m : Nat) : (kept S m).length ≤ S.length := by
  unfold kept
  have := List.length_filter_le (fun k => m.testBit k && (decide (k + 1 = S.length) || (List.range S.length).any fun j => decide (k ∈ parts S j) && !m.testBit j)) (List.range S.length)
  rw [List.length_range] at this
  exact this
/-- with as many cells as knots there is a sparing way -/
theorem way_full {S : List (List Nat)} (ok : ShOk S) : ∀ i, i ≤ S.length → ∃ way, WayTo S S.length (2 ^ i - 1) way
  | 0, _ => ⟨[], .nil⟩
  | i + 1, hi => by
    obtain ⟨way, h⟩ := way_full ok i (by omega)
    have hs : SpStep S S.length (2 ^ i - 1) i := ⟨by omega, by rw [low_bits]; simp, fun x hx => by rw [low_bits]; simpa using ok.low i x (by omega) hx, kept_le _ _⟩
    have := WayTo.snoc h hs
    rw [low_or] at this
    exact ⟨_, this⟩
theorem lot_full {S : List (List Nat)} (ok : ShOk S) : ∀ i, i ≤ S.length → Lot S S.length (2 ^ i - 1)
  | 0, _ => .zero
  | i + 1, hi => by
    have h := lot_full ok i (by omega)
    have hb : (2 ^ i - 1).testBit i = false := by rw [low_bits]; simp
    refine .step (k := i) h ⟨by omega, hb, fun x hx => by rw [low_bits]; simpa using ok.low i x (by omega) hx, .inr ⟨?_, (low_add i).symm⟩⟩
    have h1 := bits_add (show i < S.length by omega) hb
    have h2 := bits_le ((2 ^ i - 1) + 2 ^ i) S.length
    omega
theorem reach_full {S : List (List Nat)} (ok : ShOk S) : Reach S S.length :=
  ⟨_, lot_full ok S.length (Nat.le_refl _), by rw [low_bits]; have := ok.pos; simp; omega⟩
theorem wstep_lt {S : List (List Nat)} {many m k m' : Nat} (hm : m < 2 ^ S.length) (h : WStep S many m k m') : m' < 2 ^ S.length := by
  apply lt_pow_of_bits
  intro j hj
  rcases h.to with ⟨_, g, hg, rfl⟩ | ⟨_, rfl⟩
  · have hf : (m - 2 ^ g).testBit k = false := by
      rw [testBit_sub_pow hg, h.new]; rfl
    rw [testBit_add_pow hf, testBit_sub_pow hg] at hj
    simp only [Bool.or_eq_true, Bool.and_eq_true, decide_eq_true_eq] at hj
    rcases hj with ⟨h1, _⟩ | rfl
    · exact bits_lt hm h1
    · exact h.lt
  · rw [testBit_add_pow h.new] at hj
    simp only [Bool.or_eq_true, decide_eq_true_eq] at hj
    rcases hj with h1 | rfl
    · exact bits_lt hm h1
    · exact h.lt
theorem wstep_card {S : List (List Nat)} {many m k m' : Nat} (hm : m < 2 ^ S.length) (h : WStep S many m k m') :
    (bitsOf m' S.length).length = if (bitsOf m S.length).length = many then many else (bitsOf m S.length).length + 1 := by
  rcases h.to with ⟨hc, g, hg, rfl⟩ | ⟨hc, rfl⟩
  · rw [if_pos hc]
    have hf : (m - 2 ^ g).testBit k = false := by
      rw [testBit_sub_pow hg, h.new]; rfl
    rw [bits_add h.lt hf, bits_sub (bits_lt hm hg) hg, hc]
  · rw [if_neg hc, bits_add h.lt h.new]
theorem Lot.lt {S : List (List Nat)} {many m : Nat} (h : Lot S many m) : m < 2 ^ S.length := by
  induction h with
  | zero => exact Nat.pow_pos (by omega)
  | step _ s ih => exact wstep_lt ih s
theorem pow_inj {a b : Nat} (h : 2 ^ a = 2 ^ b) : a = b := by
  have := congrArg (fun z => z.testBit a) h
  simp only [Nat.testBit_two_pow, decide_true] at this
  exact (of_decide_eq_true this.symm).symm
end K27
set_option linter.all false
set_option maxHeartbeats 1000000
namespace K27
abbrev Cst := Nat → Option Nat
def putC (C : Cst) (c k : Nat) : Cst := fun x => if x = c then some k else C x
def afterC : Cst → List (Nat × Nat) → Cst
  | C, [] => C
  | C, (k, c) :: r => afterC (putC C c k) r
/-- all parts lie in cells below many -/
def hasAll (S : List (List Nat)) (many : Nat) (C : Cst) (k : Nat) : Bool := (parts S k).all fun p => (List.range many).any fun c => decide (C c = some p)
def playGo (S : List (List Nat)) (many : Nat) : Cst → List (Nat × Nat) → Bool
  | _, [] => true
  | C, (k, c) :: r => hasAll S many C k && playGo S many (putC C c k) r
def noC : Cst := fun _ => none
def isPlayB (S : List (List Nat)) (many : Nat) (ps : List (Nat × Nat)) : Bool := playGo S many noC ps && decide (ps.getLast?.map (·.1) = some (S.length - 1))
theorem afterC_snoc (C : Cst) (ps : List (Nat × Nat)) (k c : Nat) : afterC C (ps ++ [(k, c)]) = putC (afterC C ps) c k := by
  induction ps generalizing C with
  | nil => rfl
  | cons p r ih => obtain ⟨k', c'⟩ := p; exact ih _
theorem playGo_snoc (S : List (List Nat)) (many : Nat) (C : Cst) (ps : List (Nat × Nat)) (k c : Nat) : playGo S many C (ps ++ [(k, c)]) = (playGo S many C ps && hasAll S many (afterC C ps) k) := by
  induction ps generalizing C with
  | nil => simp [playGo, afterC]
  | cons p r ih =>
    obtain ⟨k', c'⟩ := p
    simp only [List.cons_append, playGo, afterC, ih, Bool.and_assoc]
theorem or_bits {m k j : Nat} : (m ||| 2 ^ k).testBit j = (m.testBit j || decide (j = k)) := by
  rw [Nat.testBit_or, Nat.testBit_two_pow]
  by_cases h : k = j
  · subst h; simp
  · simp [h, Ne.symm h]
theorem WayTo.bits {S : List (List Nat)} {many m : Nat} {way : List (Nat × List Nat)} (h : WayTo S many m way) (x : Nat) : m.testBit x = true ↔ x ∈ way.map (·.1) := by
  induction h with
  | nil => simp
  | snoc _ s ih => rw [or_bits, Bool.or_eq_true, ih, decide_eq_true_iff]; simp
theorem WayTo.nd {S : List (List Nat)} {many m : Nat} {way : List (Nat × List Nat)} (h : WayTo S many m way) : (way.map (·.1)).Nodup := by
  induction h with
  | nil => simp
  | @snoc m' k' way' h' s ih =>
    rw [List.map_append]
    refine List.nodup_append.mpr ⟨ih, by simp, fun a ha b hb e => ?_⟩
    have hb' : b = k' := by simpa using hb
    have := (h'.bits a).mpr ha
    rw [e, hb', s.new] at this
    cases this
/-- what is made holds its parts -/
theorem WayTo.down {S : List (List Nat)} {many m : Nat} {way : List (Nat × List Nat)} (h : WayTo S many m way) : ∀ j x, m.testBit j = true → x ∈ parts S j → m.testBit x = true := by
  induction h with
  | nil => intro j x hj; simp at hj
  | snoc h' s ih =>
    intro j x hj hx
    rw [or_bits] at hj ⊢
    rw [Bool.or_eq_true] at hj
    rcases hj with hj | hj
    · rw [ih j x hj hx]; rfl
    · have := of_decide_eq_true hj
      subst this
      rw [s.has x hx]; rfl
theorem WayTo.at {S : List (List Nat)} {many m : Nat} {way : List (Nat × List Nat)} (h : WayTo S many m way) : ∀ i k lot, way[i]? = some (k, lot) → ∃ mi, WayTo S many mi (way.take i) ∧ SpStep S many mi k ∧ lot = kept S (mi ||| 2 ^ k) := by
  induction h with
  | nil => intro i k lot h; simp at h
  | @snoc m' k' way' h' s ih =>
    intro i k lot hi
    by_cases hlt : i < way'.length
    · rw [List.getElem?_append_left hlt] at hi
      obtain ⟨mi, h1, h2, h3⟩ := ih i k lot hi
      exact ⟨mi, by rw [List.take_append_of_le_length (by omega)]; exact h1, h2, h3⟩
    · have e : i = way'.length := by
        have := (List.getElem?_eq_some_iff.mp hi).1
        simp at this
        omega
      subst e
      simp at hi
      obtain ⟨rfl, rfl⟩ := hi
      exact ⟨m', by rw [List.take_left']; exact h'; rfl, s, rfl⟩
theorem mem_kept {S : List (List Nat)} {m k : Nat} : k ∈ kept S m ↔ k < S.length ∧ m.testBit k = true ∧ (k + 1 = S.length ∨ ∃ j, j < S.length ∧ k ∈ parts S j ∧ m.testBit j = false) := by
  unfold kept
  rw [List.mem_filter, List.mem_range]
  simp only [Bool.and_eq_true, Bool.or_eq_true, decide_eq_true_iff, List.any_eq_true, List.mem_range, Bool.not_eq_true']
/-- the knot just made is kept -/
theorem kept_new {S : List (List Nat)} (ok : ShOk S) {many m k : Nat} {way : List (Nat × List Nat)} (h : WayTo S many m way) (s : SpStep S many m k) : k ∈ kept S (m ||| 2 ^ k) := by
  rw [mem_kept]
  refine ⟨s.lt, by rw [or_bits]; simp, ?_⟩
  by_cases ht : k + 1 = S.length
  · exact .inl ht
  · obtain ⟨j, hj, hkj⟩ := ok.use k (by have := s.lt; omega)
    refine .inr ⟨j, hj, hkj, ?_⟩
    have hne : j ≠ k := by have := ok.low j k hj hkj; omega
    rw [or_bits, decide_eq_false hne, Bool.or_false]
    cases q : m.testBit j with
    | false => rfl
    | true =>
      have := h.down j k q hkj
      rw [s.new] at this
      cases this
/-- parts of the knot to be made are kept -/
theorem kept_part {S : List (List Nat)} (ok : ShOk S) {many m k x : Nat} (s : SpStep S many m k) (hx : x ∈ parts S k) : x ∈ kept S m :=
  mem_kept.mpr ⟨ok.lt s.lt hx, s.has x hx, .inr ⟨k, s.lt, hx, s.new⟩⟩
theorem kept_before {S : List (List Nat)} {m k x : Nat} (h : x ∈ kept S (m ||| 2 ^ k)) (hne : x ≠ k) : x ∈ kept S m := by
  rw [mem_kept] at h ⊢
  obtain ⟨h1, h2, h3⟩ := h
  rw [or_bits, decide_eq_false hne, Bool.or_false] at h2
  refine ⟨h1, h2, h3.imp_right fun ⟨j, hj, hxj, hjm⟩ => ⟨j, hj, hxj, ?_⟩⟩
  rw [or_bits, Bool.or_eq_false_iff] at hjm
  exact hjm.1
/-- what is true of the cells when a way has been played so far -/
structure Playing (S : List (List Nat)) (many m : Nat) (ps : List (Nat × Nat)) : Prop where
  go : playGo S many noC ps = true
  lt : ∀ p ∈ ps, p.1 < S.length ∧ p.2 < many
  kept : ∀ x ∈ kept S m, ∃ c, c < many ∧ afterC noC ps c = some x
  old : ∀ c x, afterC noC ps c = some x → m.testBit x = true
  inj : ∀ c c' x, afterC noC ps c = some x → afterC noC ps c' = some x → c = c'
theorem Playing.start (S : List (List Nat)) (many : Nat) : Playing S many 0 [] where
  go := rfl
  lt := fun p hp => by cases hp
  kept := fun x hx => by
    have := (mem_kept.mp hx).2.1
    simp at this
  old := fun c x h => by cases h
  inj := fun c c' x h => by cases h
theorem Playing.next {S : List (List Nat)} (ok : ShOk S) {many m k c : Nat} {way : List (Nat × List Nat)} {ps : List (Nat × Nat)} (P : Playing S many m ps) (h : WayTo S many m way) (s : SpStep S many m k) (hc : c < many)
    (free : ∀ x, afterC noC ps c = some x → x ∉ K27.kept S (m ||| 2 ^ k)) : Playing S many (m ||| 2 ^ k) (ps ++ [(k, c)]) where
  go := by
    rw [playGo_snoc, P.go, Bool.true_and]
    unfold hasAll
    rw [List.all_eq_true]
    intro p hp
    obtain ⟨c', hc', e⟩ := P.kept p (kept_part ok s hp)
    exact List.any_eq_true.mpr ⟨c', List.mem_range.mpr hc', decide_eq_true e⟩
  lt := fun p hp => by
    rcases List.mem_append.mp hp with h' | h'
    · exact P.lt p h'
    · rw [List.mem_singleton.mp h']
      exact ⟨s.lt, hc⟩
  kept := fun x hx => by
    rw [afterC_snoc]
    by_cases hxk : x = k
    · subst hxk
      exact ⟨c, hc, by simp [putC]⟩
    · obtain ⟨c', hc', e⟩ := P.kept x (kept_before hx hxk)
      refine ⟨c', hc', ?_⟩
      have hne : c' ≠ c := by
        rintro rfl
        exact free x e hx
      simp [putC, hne, e]
  old := fun c' x h' => by
    rw [afterC_snoc] at h'
    unfold putC at h'
    rw [or_bits]
    split at h'
    · cases h'; simp
    · rw [P.old c' x h']; rfl
  inj := fun c1 c2 x h1 h2 => by
    rw [afterC_snoc] at h1 h2
    unfold putC at h1 h2
    split at h1 <;> split at h2
    · omega
    · cases h1
      have := P.old _ _ h2
      rw [s.new] at this
      cases this
    · cases h2
      have := P.old _ _ h1
      rw [s.new] at this
      cases this
    · exact P.inj c1 c2 x h1 h2
/-- there is a free cell -/
theorem Playing.free {S : List (List Nat)} (ok : ShOk S) {many m k : Nat} {way : List (Nat × List Nat)} {ps : List (Nat × Nat)} (P : Playing S many m ps) (h : WayTo S many m way) (s : SpStep S many m k) :
    ∃ c, c < many ∧ ∀ x, afterC noC ps c = some x → x ∉ K27.kept S (m ||| 2 ^ k) := by
  refine Classical.byContradiction fun hn => ?_
  have hall : ∀ c, c < many → ∃ x, afterC noC ps c = some x ∧ x ∈ K27.kept S (m ||| 2 ^ k) := fun c hc => by
    refine Classical.byContradiction fun hx => hn ⟨c, hc, fun x e hm => hx ⟨x, e, hm⟩⟩
  let f : Nat → Nat := fun c => (afterC noC ps c).getD 0
  have hf : ∀ c, c < many → afterC noC ps c = some (f c) ∧ f c ∈ K27.kept S (m ||| 2 ^ k) := fun c hc => by
    obtain ⟨x, e, hm⟩ := hall c hc
    have : f c = x := by show (afterC noC ps c).getD 0 = x; rw [e]; rfl
    rw [this]
    exact ⟨e, hm⟩
  have hnd : (k :: (List.range many).map f).Nodup := by
    refine List.nodup_cons.mpr ⟨fun hm => ?_, ?_⟩
    · obtain ⟨c, hc, e⟩ := List.mem_map.mp hm
      have h1 := P.old _ _ (hf c (List.mem_range.mp hc)).1
      rw [e, s.new] at h1
      cases h1
    · rw [List.nodup_iff_pairwise_ne, List.pairwise_map]
      refine List.nodup_range.imp_of_mem ?_
      intro a b ha hb hab e
      have h1 := (hf a (List.mem_range.mp ha)).1
      have h2 := (hf b (List.mem_range.mp hb)).1
      rw [← e] at h2
      exact hab (P.inj _ _ _ h1 h2)
  have hle := nodup_sub _ (K27.kept S (m ||| 2 ^ k)) hnd fun x hx => by
    rcases List.mem_cons.mp hx with rfl | hx
    · exact kept_new ok h s
    · obtain ⟨c, hc, rfl⟩ := List.mem_map.mp hx
      exact (hf c (List.mem_range.mp hc)).2
  have := s.fits
  simp at hle
  omega
theorem goal_bits (S : List (List Nat)) (x : Nat) : (goal S).testBit x = decide (x < S.length) := by
  unfold goal
  exact low_bits _ _
theorem way_len {S : List (List Nat)} {many : Nat} {way : List (Nat × List Nat)} (h : WayTo S many (goal S) way) : way.length = S.length := by
  have := nodup_len (n := S.length) h.nd fun x => by rw [← h.bits, goal_bits, decide_eq_true_iff]
  simpa using this
theorem way_last {S : List (List Nat)} (ok : ShOk S) {many : Nat} {way : List (Nat × List Nat)} (h : WayTo S many (goal S) way) : (way.map (·.1)).getLast? = some (S.length - 1) := by
  have hl := way_len h
  have pos := ok.pos
  obtain ⟨k, lot, hk⟩ : ∃ k lot, way[way.length - 1]? = some (k, lot) := by
    rw [List.getElem?_eq_getElem (by omega)]
    exact ⟨_, _, rfl⟩
  obtain ⟨mi, h1, h2, h3⟩ := h.at _ _ _ hk
  have hke : k = S.length - 1 := by
    refine Classical.byContradiction fun hne => ?_
    obtain ⟨j, hj, hkj⟩ := ok.use k (by have := h2.lt; omega)
    have hjk : j ≠ k := by have := ok.low j k hj hkj; omega
    have hjm : mi.testBit j = true := by
      rw [h1.bits]
      have hjw : j ∈ way.map (·.1) := by rw [← h.bits, goal_bits]; simpa using hj
      have hsplit : way = way.take (way.length - 1) ++ [(k, lot)] := by
        have := List.take_append_drop (way.length - 1) way
        have hd : way.drop (way.length - 1) = [(k, lot)] := by
          have hx := List.getElem?_eq_some_iff.mp hk
          obtain ⟨hx1, hx2⟩ := hx
          rw [List.drop_eq_getElem_cons hx1, hx2, List.drop_of_length_le (by omega)]
        rw [hd] at this
        exact this.symm
      rw [hsplit, List.map_append] at hjw
      rcases List.mem_append.mp hjw with h' | h'
      · exact h'
      · simp at h'
        exact absurd h' hjk
    have := h1.down j k hjm hkj
    rw [h2.new] at this
    cases this
  rw [List.getLast?_map, List.getLast?_eq_getElem?, hk, hke]
  rfl
/-- a sparing play, by plain data -/
structure GoodPlay (S : List (List Nat)) (many : Nat) (ps : List (Nat × Nat)) : Prop where
  len : ps.length = S.length
  lt : ∀ p ∈ ps, p.1 < S.length ∧ p.2 < many
  nd : (ps.map (·.1)).Nodup
  play : isPlayB S many ps = true
theorem good_of {S : List (List Nat)} (ok : ShOk S) {many : Nat} {way : List (Nat × List Nat)} {ps : List (Nat × Nat)} (h : WayTo S many (goal S) way) (P : Playing S many (goal S) ps) (he : ps.map (·.1) = way.map (·.1)) : GoodPlay S many ps where
  len := by
    have := congrArg List.length he
    simp at this
    rw [this, way_len h]
  lt := P.lt
  nd := by rw [he]; exact h.nd
  play := by
    unfold isPlayB
    rw [P.go, Bool.true_and, ← List.getLast?_map, he, way_last ok h]
    simp
end K27
set_option Elab.async false
set_option linter.all false
set_option maxRecDepth 100000
set_option maxHeartbeats 4000000
namespace K27
open PySem PySem.Spec PyProof.Rows L2
section
variable {P : Program} {w : World} {K : PySem.W.Frag} {mg : Str → Option Value} {base : Heap}
theorem kit_ii {K : PySem.W.Frag} : PySem.W.kitOne K (.type "int") (.type "int") = some true := kit_ty (by decide +kernel)
theorem kit_ib {K : PySem.W.Frag} : PySem.W.kitOne K (.type "int") (.type "bool") = some false := kit_ty (by decide +kernel)
theorem kit_bb {K : PySem.W.Frag} : PySem.W.kitOne K (.type "bool") (.type "bool") = some true := kit_ty (by decide +kernel)
theorem kit_lt {K : PySem.W.Frag} : PySem.W.kitOne K (.type "list") (.type "tuple") = some false := kit_ty (by decide +kernel)
theorem kit_ll {K : PySem.W.Frag} : PySem.W.kitOne K (.type "list") (.type "list") = some true := kit_ty (by decide +kernel)
theorem kit_tt {K : PySem.W.Frag} : PySem.W.kitOne K (.type "tuple") (.type "tuple") = some true := kit_ty (by decide +kernel)
theorem kit_tl {K : PySem.W.Frag} : PySem.W.kitOne K (.type "tuple") (.type "list") = some false := kit_ty (by decide +kernel)
theorem kit_il {K : PySem.W.Frag} : PySem.W.kitOne K (.type "int") (.type "list") = some false := kit_ty (by decide +kernel)
theorem kit_it {K : PySem.W.Frag} : PySem.W.kitOne K (.type "int") (.type "tuple") = some false := kit_ty (by decide +kernel)

/-- slots: 0=thing; cells:  -/
theorem sc_is_number : FnScope ["thing"] ["thing"] (defScope st_is_number) := ⟨rfl, rfl, rfl, by decide +kernel, rfl, by decide +kernel, by decide +kernel⟩
def sp_is_number : Sp := fun vs H Q _ => ∃ i : Int, vs = [.int i] ∧ Q (.bl true) H
theorem got_is_number (T : Txt K mg) : Got P w K mg base 1 "is_number" ["thing"] sp_is_number := by
  refine got_of T.d_is_number sc_is_number (fun F => (FunD.bindsN F fun _ _ _ _ _ _ us hl => match us, hl with | [_], _ => rfl)) (fun vs H Q E h => ?_) (fun f cdv A outer s H vs Q E hr h => ?_)
  · obtain ⟨i, rfl, _⟩ := h; rfl
  obtain ⟨i, rfl, k⟩ := h
  refine ⟨_, (pss_one (ps_ret (pe_and (pe_callB (r := rIsi K) call_isi (by rfl) T.z_isinstance (by decide +kernel) (pa_cons (pv 0) (pa_cons (pe_bltn (v := .ty "int") (by rfl) T.z_int (by decide +kernel) rfl) pa_nil))) (pe_one (pe_not (pe_callB (r := rIsi K) call_isi (by rfl) T.z_isinstance (by decide +kernel) (pa_cons (pv 0) (pa_cons (pe_bltn (v := .ty "bool") (by rfl) T.z_bool (by decide +kernel) rfl) pa_nil)))))))), ?_⟩
  refine ⟨_, rfl, _, _, _, _, _, rfl, .ty _, .base (.int _), kit_ii, _, rfl, iteT ?_⟩
  exact ⟨_, rfl, _, _, _, _, _, rfl, .ty _, .base (.int _), kit_ib, _, rfl, k⟩

/-- slots: 0=thing 1=many; cells:  -/
theorem sc_is_tuple_of : FnScope ["thing", "many"] ["thing", "many"] (defScope st_is_tuple_of) := ⟨rfl, rfl, rfl, by decide +kernel, rfl, by decide +kernel, by decide +kernel⟩
/-- a tuple of n things; or what is no tuple -/
def sp_is_tuple_of : Sp := fun vs H Q _ => ∃ (v : V) (m : Int), vs = [v, .int m] ∧ ((∃ a ts, v = .ref a ∧ H a = some (.tup ts) ∧ Q (.bl (decide ((ts.length : Int) = m))) H) ∨ (∃ a ts, v = .ref a ∧ H a = some (.lst ts) ∧ Q (.bl false) H))
theorem got_is_tuple_of (T : Txt K mg) : Got P w K mg base 1 "is_tuple_of" ["thing", "many"] sp_is_tuple_of := by
  refine got_of T.d_is_tuple_of sc_is_tuple_of (fun F => (FunD.bindsN F fun _ _ _ _ _ _ us hl => match us, hl with | [_, _], _ => rfl)) (fun vs H Q E h => ?_) (fun f cdv A outer s H vs Q E hr h => ?_)
  · obtain ⟨v, m, rfl, _⟩ := h; rfl
  obtain ⟨v, m, rfl, h⟩ := h
  refine ⟨_, (pss_one (ps_ret (pe_and (pe_callB (r := rIsi K) call_isi (by rfl) T.z_isinstance (by decide +kernel) (pa_cons (pv 0) (pa_cons (pe_bltn (v := .ty "tuple") (by rfl) T.z_tuple (by decide +kernel) rfl) pa_nil))) (pe_one (pe_cmpR op_eq (pe_callB (r := rLenS K) call_len_seq (by rfl) T.z_len (by decide +kernel) (pa_cons (pv 0) pa_nil)) (pv 1) (nomark _)))))), ?_⟩
  rcases h with ⟨a, ts, rfl, ha, k⟩ | ⟨a, ts, rfl, ha, k⟩
  · refine ⟨_, rfl, _, _, _, _, _, rfl, .ty _, .base (.tup ha), kit_tt, _, rfl, iteT ?_⟩
    refine ⟨_, rfl, a, _, rfl, .inr (SqT.of ha), _, rfl, rfl, ?_⟩
    rw [show decide (V.int ((ts.length : Nat) : Int) = V.int m) = decide ((ts.length : Int) = m) by rw [dec_int, Bool.beq_eq_decide_eq]]
    exact k
  · refine ⟨_, rfl, _, _, _, _, _, rfl, .ty _, .base (.lst ha), kit_lt, _, rfl, iteF ?_⟩
    exact k

/-- slots: 0=thing 1=part; cells:  -/
theorem sc_tuple_of : FnScope ["thing", "part"] ["thing"] (defScope st_tuple_of) := ⟨rfl, rfl, rfl, by decide +kernel, rfl, by decide +kernel, by decide +kernel⟩
def sp_tuple_of {α : Type} (R R' : Hp → V → α → Prop) : Sp := fun vs H Q _ => ∃ (v : V) (x : α), vs = [v] ∧ R H v x ∧ ∀ v' H', Same H H' → R' H' v' x → Q v' H'
theorem got_tuple_of_int (T : Txt K mg) : Got P w K mg base 1 "tuple_of" ["thing"] (sp_tuple_of RN RN) := by
  refine got_of T.d_tuple_of sc_tuple_of (fun F => (FunD.bindsN F fun _ _ _ _ _ _ us hl => match us, hl with | [_], _ => rfl)) (fun vs H Q E h => ?_) (fun f cdv A outer s H vs Q E hr h => ?_)
  · obtain ⟨v, x, rfl, _⟩ := h; rfl
  obtain ⟨v, x, rfl, hv, k⟩ := h
  cases hv
  refine ⟨_, pss_cons (ps_if (pt_val (pe_callB call_isiT (by rfl) T.z_isinstance (by decide +kernel) (pa_cons (pv 0) (pa_cons (pe_tup (pa_cons (pe_bltn (v := .ty "list") (by rfl) T.z_list (by decide +kernel) rfl) (pa_cons (pe_bltn (v := .ty "tuple") (by rfl) T.z_tuple (by decide +kernel) rfl) pa_nil))) pa_nil)))) pss_never pss_nil) (pss_one (ps_ret (pv 0))), ?_⟩
  refine ⟨_, rfl, (by show 2 ≤ sizeLine; decide), fun p hp => ?_⟩
  refine ⟨_, p, _, _, _, false, rfl, upd_same, .cons (.ty _) (.cons (.ty _) .nil), .base (.int _), kitAny_cons kit_il (fun _ => kitAny_cons kit_it (fun _ => kitAny_nil) (fun z => nomatch z)) (fun z => nomatch z), _, rfl, iteF ?_⟩
  exact ⟨_, rfl, k _ _ (same_new hp) rfl⟩
theorem got_tuple_of_seq {α : Type} (d : α) {R R' : Hp → V → α → Prop} (l : Bool) (mR : MonoS R) (mR' : MonoT R') {k : Nat} (T : Txt K mg) (G : Got P w K mg base k "tuple_of" ["thing"] (sp_tuple_of R R')) : Got P w K mg base (k + 1) "tuple_of" ["thing"] (fun vs H Q E => ∃ (v : V) (x : List α), x.length ≤ 1000 ∧ vs = [v] ∧ Sq l R H v x ∧ ∀ v' H', Same H H' → Sq false R' H' v' x → Q v' H') := by
  refine got_of T.d_tuple_of sc_tuple_of (fun F => (FunD.bindsN F fun _ _ _ _ _ _ us hl => match us, hl with | [_], _ => rfl)) (fun vs H Q E h => ?_) (fun f cdv A outer s H vs Q E hr h => ?_)
  · obtain ⟨v, x, _, rfl, _⟩ := h; rfl
  obtain ⟨v, x, hlen, rfl, ⟨a, vs, rfl, ha, pr⟩, k⟩ := h
  obtain ⟨f2, fd2, m_tuple_of, G_tuple_of, k_tuple_of, b_tuple_of⟩ := G.ex
  refine ⟨_, (pss_cons (ps_if (pt_val (pe_callB (r := rIsiT K) call_isiT (by rfl) T.z_isinstance (by decide +kernel) (pa_cons (pv 0) (pa_cons (pe_tup (pa_cons (pe_bltn (v := .ty "list") (by rfl) T.z_list (by decide +kernel) rfl) (pa_cons (pe_bltn (v := .ty "tuple") (by rfl) T.z_tuple (by decide +kernel) rfl) pa_nil))) pa_nil)))) (pss_one (ps_ret (pe_callTy (r := rTupOf K) call_tuple_of (by rfl) T.z_tuple (by decide +kernel) (pa_cons (pe_lc (own := [("part", 1)]) (g := (gName 1)) (tt := tYes) (wi := iSq l K _) rfl sc_tuple_of.nd (pi_sq l (pv 0)) (blkOk_by (N := ["thing", "part"]) (sc := (defScope st_tuple_of)) (by decide +kernel)) (fun _ _ _ _ _ => (pg_name (i := 1) sc_tuple_of.nd rfl (Or.inl rfl))) (fun _ _ _ _ _ => pts_nil) (fun _ _ _ _ _ => (pe_call G_tuple_of (hr.mono (by first | decide | omega)) rfl m_tuple_of k_tuple_of b_tuple_of .nil pass0 (pa_cons (pv 1) pa_nil)))) pa_nil)))) pss_nil)
      (pss_one (ps_ret (pv 0)))), ?_⟩
  have hlv : vs.length = x.length := Paired.length pr
  refine ⟨_, rfl, (by show 2 ≤ sizeLine; decide), fun p hp => ?_⟩
  have s1 : Same H (upd H p (.tup [.ty "list", .ty "tuple"])) := same_new hp
  have ha1 := s1 _ _ ha
  have hty : TyX K (upd H p (.tup [.ty "list", .ty "tuple"])) (.ref a) (.type (if l then "list" else "tuple")) := by
    cases l with
    | true => exact .base (.lst ha1)
    | false => exact .base (.tup ha1)
  have hkit : PySem.W.kitAny K (.type (if l then "list" else "tuple")) [.type "list", .type "tuple"] = some true := by
    cases l with
    | true => exact kitAny_cons kit_ll (fun z => nomatch z) (fun _ => rfl)
    | false => exact kitAny_cons kit_tl (fun _ => kitAny_cons kit_tt (fun z => nomatch z) (fun _ => rfl)) (fun z => nomatch z)
  refine ⟨_, p, _, _, _, true, rfl, upd_same, .cons (.ty _) (.cons (.ty _) .nil), hty, hkit, _, rfl, iteT ?_⟩
  refine ⟨_, rfl, a, rfl, ⟨vs, ha1⟩, fun D hD => ?_⟩
  refine lc_rel (walk_sq l) R' mR' (fun _ => true) (fun i => x.getD i d) hD (by omega) (fun H' s => s _ _ ha1) ?_ ?_
  · rintro i y H1 _ hi s2 ⟨rfl, hy⟩ K1 K2 h1 h2
    obtain ⟨z, hz, rz⟩ := pgetL pr hy
    refine ⟨rfl, tyes_ok (iteT ?_)⟩
    exact ⟨_, rfl, _, _, rfl, mR _ _ _ _ (s1.trans s2) rz, fun v' H' s3 r => h1 rfl _ _ s3 (by rw [getD_of hz]; exact r)⟩
  · intro H1 ys s2 hy py
    rw [hlv, range_id] at py
    refine ⟨_, _, rfl, .inl ⟨SqL.of hy, fun q hq => k _ _ ((s1.trans s2).trans (same_new hq)) ⟨q, _, rfl, upd_same, pmap py fun a b r => mR' _ _ _ _ (keepT_same (same_new hq)) r⟩⟩⟩
end
end K27
set_option Elab.async false
set_option linter.all false
set_option maxRecDepth 100000
set_option maxHeartbeats 4000000
namespace K27
open PySem PySem.Spec PyProof.Rows L2
def RB (_ : Hp) (v : V) (b : Bool) : Prop := v = .bl b
theorem monoT_RB : MonoT RB := fun _ _ _ _ _ h => h
theorem paired_bv {H : Hp} {vs : List V} {xs : List Bool} (h : Paired (RB H) vs xs) : vs = xs.map V.bl := by
  induction h with
  | nil => rfl
  | cons r _ ih =>
    have e : _ = _ := r
    rw [e, ih]
    rfl
theorem all_true (n : Nat) : ((((List.range n).filter fun _ => true).map fun _ => true).all id) = true := by
  rw [List.all_eq_true]
  intro x hx
  obtain ⟨_, _, e⟩ := List.mem_map.mp hx
  rw [← e]; rfl
section
variable {P : Program} {w : World} {K : PySem.W.Frag} {mg : Str → Option Value} {base : Heap}

/-- slots: 0=thing 1=many 2=one 3=k; cells: many thing -/
theorem sc_is_set : FnScope ["thing", "many", "one", "k"] ["thing", "many"] (defScope st_is_set) := ⟨rfl, rfl, rfl, by decide +kernel, rfl, by decide +kernel, by decide +kernel⟩
def sp_is_set : Sp := fun vs H Q _ => ∃ (v : V) (xs : List Nat) (n : Nat), vs = [v, .int n] ∧ TN H v xs ∧ xs.Pairwise (· < ·) ∧ (∀ x ∈ xs, x < n) ∧ xs.length ≤ 1000 ∧ ∀ H', Same H H' → Q (.bl true) H'
theorem got_is_set (T : Txt K mg) : Got P w K mg base 2 "is_set" ["thing", "many"] sp_is_set := by
  refine got_of T.d_is_set sc_is_set (fun F => (FunD.bindsN F fun _ _ _ _ _ _ us hl => match us, hl with | [_, _], _ => rfl)) (fun vs H Q E h => ?_) (fun f cdv A outer s H vs Q E hr h => ?_)
  · obtain ⟨v, x, n, rfl, _⟩ := h; rfl
  obtain ⟨v, xs, n, rfl, hv, hasc, hlt, hlen, k⟩ := h
  obtain ⟨a, rfl, ha⟩ := hv.of
  obtain ⟨_, _, m_is_number, G_is_number, k_is_number, b_is_number⟩ := (got_is_number (P := P) (w := w) (base := base) T).ex
  refine ⟨_, (pss_cons (ps_if (PW.pt (pw_or (pt_not (pt_val (pe_callB (r := rIsi K) call_isi (by rfl) T.z_isinstance (by decide +kernel) (pa_cons (pv 0) (pa_cons (pe_bltn (v := .ty "tuple") (by rfl) T.z_tuple (by decide +kernel) rfl) pa_nil))))) (pw_or1 (pt_not (pt_val (pe_callB (r := rAll K) (cr_all rfl) (by rfl) T.z_all (by decide +kernel) (pa_cons (pe_lc (own := [("one", 2)]) (g := (gName 2)) (tt := tYes) (wi := iTup K _) rfl sc_is_set.nd (pi_tup (pv 0)) (blkOk_by (N := ["thing", "many", "one", "k"]) (sc := (defScope st_is_set)) (by decide +kernel)) (fun _ _ _ _ _ => (pg_name (i := 2) sc_is_set.nd rfl (Or.inl rfl))) (fun _ _ _ _ _ => pts_nil) (fun _ _ _ _ _ => (pe_and (pe_call G_is_number (hr.mono (by first | decide | omega)) rfl m_is_number k_is_number b_is_number .nil pass0 (pa_cons (pv 2) pa_nil)) (pe_one (pe_chain op_le op_lt pe_int (pv 2) (pv 1)))))) pa_nil))))))) (pss_one (ps_ret pe_bl)) pss_nil)
      (pss_one (ps_ret (pe_callB (r := rAll K) (cr_all rfl) (by rfl) T.z_all (by decide +kernel) (pa_cons (pe_lc (own := [("k", 3)]) (g := (gName 3)) (tt := tYes) rfl sc_is_set.nd (pi_range1 (by rfl) T.z_range (pa_cons (pe_op op_sub (pe_callB (r := rLenS K) call_len_seq (by rfl) T.z_len (by decide +kernel) (pa_cons (pv 0) pa_nil)) pe_int) pa_nil)) (blkOk_by (N := ["thing", "many", "one", "k"]) (sc := (defScope st_is_set)) (by decide +kernel)) (fun _ _ _ _ _ => (pg_name (i := 3) sc_is_set.nd rfl (Or.inl rfl))) (fun _ _ _ _ _ => pts_nil) (fun _ _ _ _ _ => (pe_cmpR op_lt (pe_ix (r := rIx K) ix_seq (pv 0) (pv 3) (fun _ _ => rfl)) (pe_ix (r := rIx K) ix_seq (pv 0) (pe_op op_add (pv 3) pe_int) (fun _ _ => rfl)) (nomark _)))) pa_nil))))), ?_⟩
  refine ⟨_, rfl, _, _, _, _, _, rfl, .ty _, .base (.tup ha), kit_tt, _, rfl, ?_⟩
  refine iteF ?_
  refine ⟨_, rfl, a, rfl, ⟨_, SqT.of ha⟩, fun D hD => ?_⟩
  refine lc_rel (walk_tup (xs := nv xs)) RB monoT_RB (fun _ => true) (fun _ => true) hD (by simp; omega) (fun H' s => SqT.of (s _ _ ha)) ?_ ?_
  · rintro i y H1 _ hi s2 ⟨rfl, hy⟩ K1 K2 h1 h2
    obtain ⟨x, hx, rfl⟩ : ∃ x, xs[i]? = some x ∧ V.int (x : Int) = y := by
      rw [List.getElem?_map] at hy
      cases e : xs[i]? with
      | none => rw [e] at hy; cases hy
      | some x => rw [e] at hy; exact ⟨x, rfl, Option.some.inj hy⟩
    have hxn := hlt x (List.mem_of_getElem? hx)
    refine ⟨rfl, tyes_ok (iteT ?_)⟩
    refine ⟨_, rfl, _, rfl, _, rfl, iteT ?_⟩
    refine ⟨_, rfl, _, _, rfl, rfl, _, rfl, ?_⟩
    rw [if_pos (by simp)]
    refine ⟨_, rfl, _, _, rfl, rfl, ?_⟩
    exact h1 rfl _ _ (Same.refl _) (congrArg V.bl (decide_eq_true (by omega)))
  · intro H1 ys s2 hy py
    have e := paired_bv py
    refine ⟨_, _, rfl, SqL.of (by rw [hy, e]), _, rfl, ?_⟩
    rw [all_true]
    refine iteF ?_
    have ha1 := s2 _ _ ha
    refine ⟨_, rfl, a, _, rfl, .inr (SqT.of ha1), _, _, rfl, rfl, _, rfl, by simp; omega, by simp; omega, fun D2 hD2 => ?_⟩
    refine lc_rel walk_range RB monoT_RB (fun _ => true) (fun _ => true) hD2 (by simp; omega) (fun _ _ => trivial) ?_ ?_
    · rintro i y H2 _ hi s3 ⟨rfl, rfl⟩ K1 K2 h1 h2
      have hi' : i + 1 < xs.length := by simp at hi; omega
      have ha2 := s3 _ _ ha1
      refine ⟨rfl, tyes_ok (iteT ?_)⟩
      refine ⟨_, rfl, _, rfl, .inr (.inl ⟨a, _, _, _, rfl, rfl, SqT.of ha2, at_of (j := i) (by omega) (nv_get (List.getElem?_eq_getElem (by omega))), ?_⟩)⟩
      refine ⟨_, rfl, _, rfl, _, _, rfl, rfl, .inr (.inl ⟨a, _, _, _, rfl, rfl, SqT.of ha2, at_of (j := i + 1) (by omega) (nv_get (List.getElem?_eq_getElem hi')), ?_⟩)⟩
      refine ⟨_, _, rfl, rfl, ?_⟩
      refine h1 rfl _ _ (Same.refl _) (congrArg V.bl (decide_eq_true ?_))
      have := List.pairwise_iff_getElem.mp hasc i (i + 1) (by omega) hi' (by omega)
      omega
    · intro H2 zs s3 hz pz
      have e2 := paired_bv pz
      refine ⟨_, _, rfl, SqL.of (by rw [hz, e2]), ?_⟩
      rw [all_true]
      exact k _ (s2.trans s3)
end
end K27
set_option Elab.async false
set_option linter.all false
set_option maxRecDepth 100000
set_option maxHeartbeats 4000000
namespace K27
open PySem PySem.Spec PyProof.Rows L2
theorem inV_nv (y : Nat) (own : List Nat) : inV (.int (y : Int)) (nv own) = decide (y ∈ own) := by
  unfold inV
  induction own with
  | nil => rfl
  | cons x r ih =>
    show (eqV (.int (x : Int)) (.int (y : Int)) || _) = _
    rw [ih]
    have e : eqV (V.int (x : Int)) (V.int (y : Int)) = decide (y = x) := by
      rw [Bool.eq_iff_iff]
      simp [eqV]
      omega
    rw [e]
    by_cases h1 : y = x <;> by_cases h2 : y ∈ r <;> simp [h1, h2]
theorem flat_nv (own : List Nat) : (nv own).all flatV = true := by
  rw [List.all_eq_true]
  intro v hv
  obtain ⟨n, _, rfl⟩ := List.mem_map.mp hv
  rfl
theorem nv_at {xs : List Nat} {i : Nat} {y : V} (hy : (nv xs)[i]? = some y) : ∃ x, xs[i]? = some x ∧ y = V.int (x : Int) := by
  rw [List.getElem?_map] at hy
  cases e : xs[i]? with
  | none => rw [e] at hy; cases hy
  | some x => rw [e] at hy; exact ⟨x, rfl, (Option.some.inj hy).symm⟩
section
variable {P : Program} {w : World} {K : PySem.W.Frag} {mg : Str → Option Value} {base : Heap}
theorem SS.get {l : Bool} {H : Hp} {vs : List V} {S : List (List Nat)} (pr : Paired (SN l H) vs S) {k : Nat} (hk : k < S.length) : ∃ b, vs[k]? = some (.ref b) ∧ H b = some (sq l (nv (parts S k))) := by
  obtain ⟨v, h1, h2⟩ := pget pr (get_parts hk)
  obtain ⟨b, rfl, hb⟩ := h2.of
  exact ⟨b, h1, hb⟩

/-- slots: 0=shape 1=way 2=one 3=k; cells: shape way -/
theorem sc_are_knots : FnScope ["shape", "way", "one", "k"] ["shape", "way"] (defScope st_are_knots) := ⟨rfl, rfl, rfl, by decide +kernel, rfl, by decide +kernel, by decide +kernel⟩
def sp_are_knots : Sp := fun vs H Q _ => ∃ (l : Bool) (v u : V) (S : List (List Nat)) (way : List Nat), vs = [v, u] ∧ SS l H v S ∧ TN H u way ∧ WayOk S way ∧ S.length ≤ 1000 ∧ way.length ≤ 1000 ∧ ∀ H', Same H H' → Q (.bl true) H'
theorem got_are_knots (T : Txt K mg) : Got P w K mg base 3 "are_knots" ["shape", "way"] sp_are_knots := by
  refine got_of T.d_are_knots sc_are_knots (fun F => (FunD.bindsN F fun _ _ _ _ _ _ us hl => match us, hl with | [_, _], _ => rfl)) (fun vs H Q E h => ?_) (fun f cdv A outer s H vs Q E hr h => ?_)
  · obtain ⟨l, v, u, S, way, rfl, _⟩ := h; rfl
  obtain ⟨l, v, u, S, way, rfl, ⟨c, vs, rfl, hc, pr⟩, hu, ⟨hne, hlt, hdown⟩, hS, hW, k⟩ := h
  obtain ⟨a, rfl, ha⟩ := hu.of
  have hlv : vs.length = S.length := Paired.length pr
  obtain ⟨_, _, m_is_set, G_is_set, k_is_set, b_is_set⟩ := (got_is_set (P := P) (w := w) (base := base) T).ex
  refine ⟨_, (pss_cons (ps_if (PW.pt (pw_or (pt_not (pt_val (pe_callB (r := rIsi K) call_isi (by rfl) T.z_isinstance (by decide +kernel) (pa_cons (pv 1) (pa_cons (pe_bltn (v := .ty "tuple") (by rfl) T.z_tuple (by decide +kernel) rfl) pa_nil))))) (pw_or (pt_cmpR op_eq (pe_callB (r := rLenS K) call_len_seq (by rfl) T.z_len (by decide +kernel) (pa_cons (pv 1) pa_nil)) pe_int (nomark _)) (pw_or1 (pt_not (pt_val (pe_callB (r := rAll K) (cr_all rfl) (by rfl) T.z_all (by decide +kernel) (pa_cons (pe_lc (own := [("one", 2)]) (g := (gName 2)) (tt := tYes) (wi := iTup K _) rfl sc_are_knots.nd (pi_tup (pv 1)) (blkOk_by (N := ["shape", "way", "one", "k"]) (sc := (defScope st_are_knots)) (by decide +kernel)) (fun _ _ _ _ _ => (pg_name (i := 2) sc_are_knots.nd rfl (Or.inl rfl))) (fun _ _ _ _ _ => pts_nil) (fun _ _ _ _ _ => (pe_call G_is_set (hr.mono (by first | decide | omega)) rfl m_is_set k_is_set b_is_set .nil pass0 (pa_cons (pe_tup (pa_cons (pv 2) pa_nil)) (pa_cons (pe_callB (r := rLenS K) call_len_seq (by rfl) T.z_len (by decide +kernel) (pa_cons (pv 0) pa_nil)) pa_nil))))) pa_nil)))))))) (pss_one (ps_ret pe_bl)) pss_nil)
      (pss_one (ps_ret (pe_callB (r := rAll K) (cr_all rfl) (by rfl) T.z_all (by decide +kernel) (pa_cons (pe_lc (own := [("k", 3)]) (g := (gName 3)) (tt := tYes) rfl sc_are_knots.nd (pi_range1 (by rfl) T.z_range (pa_cons (pe_op op_sub (pe_callB (r := rLenS K) call_len_seq (by rfl) T.z_len (by decide +kernel) (pa_cons (pv 1) pa_nil)) pe_int) pa_nil)) (blkOk_by (N := ["shape", "way", "one", "k"]) (sc := (defScope st_are_knots)) (by decide +kernel)) (fun _ _ _ _ _ => (pg_name (i := 3) sc_are_knots.nd rfl (Or.inl rfl))) (fun _ _ _ _ _ => pts_nil) (fun _ _ _ _ _ => (pe_cmpR (r := rIn K false) op_in_seq (pe_ix (r := rIx K) ix_seq (pv 1) (pe_op op_add (pv 3) pe_int) (fun _ _ => rfl)) (pe_ix (r := rIx K) ix_seq (pv 0) (pe_ix (r := rIx K) ix_seq (pv 1) (pv 3) (fun _ _ => rfl)) (fun _ _ => rfl)) rfl))) pa_nil))))), ?_⟩
  refine ⟨_, rfl, _, _, _, _, _, rfl, .ty _, .base (.tup ha), kit_tt, _, rfl, ?_⟩
  refine iteF ?_
  refine ⟨_, rfl, a, _, rfl, .inr (SqT.of ha), rfl, _, rfl, ?_⟩
  have hl0 : decide (V.int (((nv way).length : Nat) : Int) = V.int 0) = false := by
    rw [dec_int]
    have : way.length ≠ 0 := fun e => hne (List.length_eq_zero_iff.mp e)
    simp
    exact hne
  rw [hl0]
  refine iteF ?_
  refine ⟨_, rfl, a, rfl, ⟨_, SqT.of ha⟩, fun D hD => ?_⟩
  refine lc_rel (walk_tup (xs := nv way)) RB monoT_RB (fun _ => true) (fun _ => true) hD (by simp; omega) (fun H' s => SqT.of (s _ _ ha)) ?_ ?_
  · rintro i y _ H1 hi s2 ⟨rfl, hy⟩ K1 K2 h1 h2
    obtain ⟨x, hx, rfl⟩ := nv_at hy
    have hxn := hlt x (List.mem_of_getElem? hx)
    refine ⟨rfl, tyes_ok (iteT ?_)⟩
    refine ⟨_, rfl, (by show 1 ≤ sizeLine; decide), fun p hp => ?_⟩
    have s3 : Same _ (upd _ p (.tup [.int (x : Int)])) := same_new hp
    have hc3 := s3 _ _ (s2 _ _ hc)
    refine ⟨_, rfl, c, _, rfl, sq_seq hc3, ?_⟩
    refine ⟨_, [x], S.length, (by rw [hlv]; rfl), TN.mk upd_same, List.pairwise_singleton _ _, (by simpa using hxn), (by simp), fun H4 s4 => ?_⟩
    exact h1 rfl _ _ (s3.trans s4) rfl
  · intro H1 ys s2 hy py
    have e := paired_bv py
    refine ⟨_, _, rfl, SqL.of (by rw [hy, e]), _, rfl, ?_⟩
    rw [all_true]
    refine iteF ?_
    have ha1 := s2 _ _ ha
    refine ⟨_, rfl, a, _, rfl, .inr (SqT.of ha1), _, _, rfl, rfl, _, rfl, by simp; omega, by simp; omega, fun D2 hD2 => ?_⟩
    refine lc_rel walk_range RB monoT_RB (fun _ => true) (fun _ => true) hD2 (by simp; omega) (fun _ _ => trivial) ?_ ?_
    · rintro i y _ H2 hi s3 ⟨rfl, rfl⟩ K1 K2 h1 h2
      have hi' : i + 1 < way.length := by simp at hi; omega
      have ha2 := s3 _ _ ha1
      have hc2 := s3 _ _ (s2 _ _ hc)
      have g0 : way[i]? = some way[i] := List.getElem?_eq_getElem (by omega)
      have g1 : way[i + 1]? = some way[i + 1] := List.getElem?_eq_getElem hi'
      have hlt0 := hlt _ (List.mem_of_getElem? g0)
      obtain ⟨b, hb, hb2⟩ := SS.get pr hlt0
      have hb3 := s3 _ _ (s2 _ _ hb2)
      refine ⟨rfl, tyes_ok (iteT ?_)⟩
      refine ⟨_, rfl, _, rfl, _, _, rfl, rfl, rIx_t ha2 (j := i + 1) (by omega) (nv_get g1) ?_⟩
      refine ⟨_, rfl, _, rfl, _, rfl, rIx_t ha2 (j := i) (by omega) (nv_get g0) (rIx_sq hc2 rfl hb ?_)⟩
      refine ⟨b, _, rfl, sq_seq hb3, rfl, flat_nv _, ?_⟩
      show K1 (.bl (inV _ _)) _
      rw [inV_nv]
      exact h1 rfl _ _ (Same.refl _) (congrArg V.bl (decide_eq_true (hdown i _ _ g0 g1)))
    · intro H2 zs s3 hz pz
      have e2 := paired_bv pz
      refine ⟨_, _, rfl, SqL.of (by rw [hz, e2]), ?_⟩
      rw [all_true]
      exact k _ (s2.trans s3)

/-- slots: 0=shape 1=part 2=own; cells:  -/
theorem sc_masks_of : FnScope ["shape", "part", "own"] ["shape"] (defScope st_masks_of) := ⟨rfl, rfl, rfl, by decide +kernel, rfl, by decide +kernel, by decide +kernel⟩
def sp_masks_of : Sp := fun vs H Q _ => ∃ (v : V) (S : List (List Nat)), vs = [v] ∧ TS' H v S ∧ S.length ≤ 1000 ∧ (∀ own ∈ S, own.length ≤ 1000 ∧ ∀ x ∈ own, x < 64) ∧ ∀ p H', H p = none → Same H H' → H' p = some (.lst (nv (S.map mask))) → Q (.ref p) H'
theorem got_masks_of (T : Txt K mg) : Got P w K mg base 1 "masks_of" ["shape"] sp_masks_of := by
  refine got_of T.d_masks_of sc_masks_of (fun F => (FunD.bindsN F fun _ _ _ _ _ _ us hl => match us, hl with | [_], _ => rfl)) (fun vs H Q E h => ?_) (fun f cdv A outer s H vs Q E hr h => ?_)
  · obtain ⟨v, S, rfl, _⟩ := h; rfl
  obtain ⟨v, S, rfl, ⟨a, vs, rfl, ha, pr⟩, hS, hown, k⟩ := h
  have ha : H a = some (.tup vs) := ha
  have hlv : vs.length = S.length := Paired.length pr
  refine ⟨_, (pss_one (ps_ret (pe_lc (own := [("own", 2)]) (g := (gName 2)) (tt := tYes) (wi := iTup K _) rfl sc_masks_of.nd (pi_tup (pv 0)) (blkOk_by (N := ["shape", "part", "own"]) (sc := (defScope st_masks_of)) (by decide +kernel)) (fun _ _ _ _ _ => (pg_name (i := 2) sc_masks_of.nd rfl (Or.inl rfl))) (fun _ _ _ _ _ => pts_nil) (fun _ _ _ _ _ => (pe_callB (r := rSum K) (cr_sum rfl) (by rfl) T.z_sum (by decide +kernel) (pa_cons (pe_lc (own := [("part", 1)]) (g := (gName 1)) (tt := tYes) (wi := iTup K _) rfl sc_masks_of.nd (pi_tup (pv 2)) (blkOk_by (N := ["shape", "part", "own"]) (sc := (relS _ (defScope st_masks_of))) (by decide +kernel)) (fun _ _ _ _ _ => (pg_name (i := 1) sc_masks_of.nd rfl (Or.inl rfl))) (fun _ _ _ _ _ => pts_nil) (fun _ _ _ _ _ => (pe_op op_shl pe_int (pv 1)))) pa_nil)))))), ?_⟩
  refine ⟨_, rfl, a, rfl, ⟨_, SqT.of ha⟩, fun D hD => ?_⟩
  refine lc_rel (walk_tup (xs := vs)) RN monoT_RN (fun _ => true) (fun i => mask (S.getD i [])) hD (by omega) (fun H' s => SqT.of (s _ _ ha)) ?_ ?_
  · rintro i y _ H1 hi s2 ⟨rfl, hy⟩ K1 K2 h1 h2
    obtain ⟨own, hown', r⟩ := pgetL pr hy
    obtain ⟨b, rfl, hb⟩ := TN.of r
    have hb1 := s2 _ _ hb
    obtain ⟨ol, ox⟩ := hown own (List.mem_of_getElem? hown')
    refine ⟨rfl, tyes_ok (iteT ?_)⟩
    refine ⟨_, rfl, b, rfl, ⟨_, SqT.of hb1⟩, fun D2 hD2 => ?_⟩
    refine lc_rel (walk_tup (xs := nv own)) RN monoT_RN (fun _ => true) (fun i => 2 ^ (own.getD i 0)) hD2 (by simp; omega) (fun H' s => SqT.of (s _ _ hb1)) ?_ ?_
    · rintro i2 y2 _ H2 hi2 s3 ⟨rfl, hy2⟩ K3 K4 h3 h4
      obtain ⟨x, hx, rfl⟩ := nv_at hy2
      have hx64 := ox x (List.mem_of_getElem? hx)
      refine ⟨rfl, tyes_ok (iteT ?_)⟩
      refine ⟨_, rfl, _, _, rfl, rfl, ⟨by omega, by omega, by decide⟩, ?_⟩
      refine h3 rfl _ _ (Same.refl _) ?_
      show V.int (1 * 2 ^ ((x : Int)).toNat) = V.int ((2 ^ (own.getD i2 0) : Nat) : Int)
      rw [getD_of hx, Int.one_mul, Int.toNat_natCast]
      simp
    · intro H2 zs s3 hz pz
      have e2 := paired_nv pz
      rw [show (nv own).length = own.length by simp, range_f] at e2
      rw [nv_int] at e2
      refine ⟨_, _, rfl, SqL.of (by rw [hz, e2]), ?_⟩
      refine h1 rfl _ _ s3 ?_
      rw [sum_natCast, getD_of hown']
      rfl
  · intro H1 ys s2 hy py
    have e := paired_nv py
    rw [hlv, range_f] at e
    exact k D H1 hD s2 (by rw [hy, e])

/-- slots: 0=lot 1=many 2=knot; cells: lot -/
theorem sc_knots_of : FnScope ["lot", "many", "knot"] ["lot", "many"] (defScope st_knots_of) := ⟨rfl, rfl, rfl, by decide +kernel, rfl, by decide +kernel, by decide +kernel⟩
def sp_knots_of : Sp := fun vs H Q _ => ∃ (m n : Nat), vs = [.int m, .int n] ∧ n ≤ 1000 ∧ ∀ v H', Same H H' → TN H' v (bitsOf m n) → Q v H'
theorem bit_test (m k : Nat) : decide (V.int (Builtin.bitAnd ((m : Int) / 2 ^ ((k : Int)).toNat) 1) = V.int 1) = m.testBit k := by
  have e1 : ((m : Int) / 2 ^ ((k : Int)).toNat) = ((m / 2 ^ k : Nat) : Int) := by
    rw [Int.toNat_natCast]; simp
  rw [e1, show (1 : Int) = ((1 : Nat) : Int) from rfl, bitAnd_nat, dec_int, Bool.eq_iff_iff]
  rw [beq_iff_eq]
  constructor
  · intro h; exact (shr_and m k).mp (by omega)
  · intro h; have := (shr_and m k).mpr h; omega
theorem got_knots_of (T : Txt K mg) : Got P w K mg base 1 "knots_of" ["lot", "many"] sp_knots_of := by
  refine got_of T.d_knots_of sc_knots_of (fun F => (FunD.bindsN F fun _ _ _ _ _ _ us hl => match us, hl with | [_, _], _ => rfl)) (fun vs H Q E h => ?_) (fun f cdv A outer s H vs Q E hr h => ?_)
  · obtain ⟨m, n, rfl, _⟩ := h; rfl
  obtain ⟨m, n, rfl, hn, k⟩ := h
  refine ⟨_, (pss_one (ps_ret (pe_callTy (r := rTupOf K) call_tuple_of (by rfl) T.z_tuple (by decide +kernel) (pa_cons (pe_lc (own := [("knot", 2)]) (g := (gName 2)) rfl sc_knots_of.nd (pi_range1 (by rfl) T.z_range (pa_cons (pv 1) pa_nil)) (blkOk_by (N := ["lot", "many", "knot"]) (sc := (defScope st_knots_of)) (by decide +kernel)) (fun _ _ _ _ _ => (pg_name (i := 2) sc_knots_of.nd rfl (Or.inl rfl))) (fun _ _ _ _ _ => (pts_one (pt_cmpR op_eq (pe_op op_and (pe_op op_shr (pv 0) (pv 2)) pe_int) pe_int (nomark _)))) (fun _ _ _ _ _ => (pv 2))) pa_nil)))), ?_⟩
  refine ⟨_, rfl, _, rfl, by omega, by omega, fun D hD => ?_⟩
  refine lc_rel walk_range RN monoT_RN (fun i => m.testBit i) (fun i => i) hD (by simp; omega) (fun H' s => trivial) ?_ ?_
  · rintro i y _ H1 hi s2 ⟨rfl, rfl⟩ K1 K2 h1 h2
    refine ⟨rfl, ?_⟩
    refine ⟨_, rfl, _, rfl, _, _, rfl, rfl, (by omega), _, _, rfl, rfl, rfl, _, rfl, ?_⟩
    rw [Int.zero_add, bit_test]
    refine ite2 (fun c => ?_) (fun c => ?_)
    · exact ⟨_, rfl, h1 c _ _ (Same.refl _) (by show V.int (0 + (i : Int)) = _; rw [Int.zero_add])⟩
    · exact h2 (by simpa using c) _ (Same.refl _)
  · intro H1 ys s2 hy py
    have e := paired_nv py
    refine ⟨_, _, rfl, .inl ⟨SqL.of hy, fun q hq => ?_⟩⟩
    refine k _ _ (s2.trans (same_new hq)) (TN.mk ?_)
    rw [upd_same, e]
    simp [bitsOf]

/-- slots: 0=lot 1=bit 2=bits 3=full 4=gone; cells: bit lot -/
theorem sc_lots_behind : FnScope ["lot", "bit", "bits", "full", "gone"] ["lot", "bit", "bits", "full"] (defScope st_lots_behind) := ⟨rfl, rfl, rfl, by decide +kernel, rfl, by decide +kernel, by decide +kernel⟩
def pows (n : Nat) : List Nat := (List.range n).map fun k => 2 ^ k
def behind (m k n : Nat) (full : Bool) : List Nat := if full then (bitsOf m n).map fun g => m - 2 ^ g + 2 ^ k else [m + 2 ^ k]
def sp_lots_behind : Sp := fun vs H Q _ => ∃ (m k n : Nat) (b : Addr) (full : Bool), vs = [.int m, .int ((2 ^ k : Nat) : Int), .ref b, .bl full] ∧ n ≤ 1000 ∧ H b = some (.lst (nv (pows n))) ∧ ∀ p H', H p = none → Same H H' → H' p = some (.lst (nv (behind m k n full))) → Q (.ref p) H'
theorem got_lots_behind (T : Txt K mg) : Got P w K mg base 1 "lots_behind" ["lot", "bit", "bits", "full"] sp_lots_behind := by
  refine got_of T.d_lots_behind sc_lots_behind (fun F => (FunD.bindsN F fun _ _ _ _ _ _ us hl => match us, hl with | [_, _, _, _], _ => rfl)) (fun vs H Q E h => ?_) (fun f cdv A outer s H vs Q E hr h => ?_)
  · obtain ⟨m, k, n, b, full, rfl, _⟩ := h; rfl
  obtain ⟨m, k, n, b, full, rfl, hn, hb, kk⟩ := h
  refine ⟨_, (pss_one (ps_ret (pe_ifExp (pt_val (pv 3)) (pe_lc (own := [("gone", 4)]) (g := (gName 4)) (wi := iList K _) rfl sc_lots_behind.nd (pi_list (pv 2)) (blkOk_by (N := ["lot", "bit", "bits", "full", "gone"]) (sc := (defScope st_lots_behind)) (by decide +kernel)) (fun _ _ _ _ _ => (pg_name (i := 4) sc_lots_behind.nd rfl (Or.inl rfl))) (fun _ _ _ _ _ => (pts_one (pt_cmpR op_ne (pe_op op_and (pv 0) (pv 4)) pe_int (nomark _)))) (fun _ _ _ _ _ => (pe_op op_add (pe_op op_sub (pv 0) (pv 4)) (pv 1)))) (pe_lst (pa_cons (pe_op op_add (pv 0) (pv 1)) pa_nil))))), ?_⟩
  refine ⟨_, rfl, _, rfl, ?_⟩
  cases full with
  | true =>
    refine iteT ?_
    refine ⟨_, rfl, b, rfl, ⟨_, SqL.of hb⟩, fun D hD => ?_⟩
    refine lc_rel (walk_list (xs := nv (pows n))) RN monoT_RN (fun i => m.testBit i) (fun g => m - 2 ^ g + 2 ^ k) hD (by simp [pows]; omega) (fun H' s => SqL.of (s _ _ hb)) ?_ ?_
    · rintro i y _ H1 hi s2 ⟨rfl, hy⟩ K1 K2 h1 h2
      obtain ⟨x, hx, rfl⟩ := nv_at hy
      have ex : x = 2 ^ i := by
        unfold pows at hx
        rw [List.getElem?_map] at hx
        have hi' : i < n := by simpa [pows] using hi
        rw [List.getElem?_range hi'] at hx
        exact (Option.some.inj hx).symm
      subst ex
      refine ⟨rfl, ?_⟩
      refine ⟨_, rfl, _, rfl, _, _, rfl, rfl, rfl, _, rfl, ?_⟩
      have et : (!decide (V.int (Builtin.bitAnd (m : Int) ((2 ^ i : Nat) : Int)) = V.int 0)) = m.testBit i := by
        rw [bitAnd_nat, dec_int, Bool.eq_iff_iff]
        rw [Bool.not_eq_true', beq_eq_false_iff_ne]
        constructor
        · intro hne
          cases q : m.testBit i with
          | true => rfl
          | false => exact absurd (by rw [(and_pow_eq m i).mpr q]; rfl) hne
        · intro ht hz
          have : m &&& 2 ^ i = 0 := by omega
          rw [(and_pow_eq m i).mp this] at ht
          cases ht
      rw [et]
      refine ite2 (fun c => ?_) (fun c => ?_)
      · refine ⟨_, rfl, _, rfl, _, _, rfl, rfl, _, rfl, _, _, rfl, rfl, h1 c _ _ (Same.refl _) ?_⟩
        have := Nat.ge_two_pow_of_testBit c
        show V.int ((m : Int) - ((2 ^ i : Nat) : Int) + ((2 ^ k : Nat) : Int)) = V.int ((m - 2 ^ i + 2 ^ k : Nat) : Int)
        congr 1
        omega
      · exact h2 (by simpa using c) _ (Same.refl _)
    · intro H1 ys s2 hy py
      have e := paired_nv py
      refine kk D H1 hD s2 ?_
      rw [hy, e]
      simp [behind, bitsOf, pows]
  | false =>
    refine iteF ?_
    refine ⟨_, rfl, _, rfl, _, _, rfl, rfl, (by show 1 ≤ sizeLine; decide), fun D hD => ?_⟩
    exact kk D _ hD (same_new hD) (by rw [upd_same]; simp [behind])

/-- slots: 0=users 1=made 2=knot 3=own; cells: made -/
theorem sc_kept_of : FnScope ["users", "made", "knot", "own"] ["users", "made"] (defScope st_kept_of) := ⟨rfl, rfl, rfl, by decide +kernel, rfl, by decide +kernel, by decide +kernel⟩
def keptL (us : List Nat) (m : Nat) : List Nat := (List.range us.length).filter fun k => m.testBit k && !decide (us.getD k 0 &&& m = us.getD k 0)
def sp_kept_of : Sp := fun vs H Q _ => ∃ (us : List Nat) (m : Nat) (u : Addr), vs = [.ref u, .int m] ∧ us.length ≤ 1000 ∧ H u = some (.lst (nv us)) ∧ ∀ v H', Same H H' → TN H' v (keptL us m) → Q v H'
theorem got_kept_of (T : Txt K mg) : Got P w K mg base 1 "kept_of" ["users", "made"] sp_kept_of := by
  refine got_of T.d_kept_of sc_kept_of (fun F => (FunD.bindsN F fun _ _ _ _ _ _ us hl => match us, hl with | [_, _], _ => rfl)) (fun vs H Q E h => ?_) (fun f cdv A outer s H vs Q E hr h => ?_)
  · obtain ⟨us, m, u, rfl, _⟩ := h; rfl
  obtain ⟨us, m, u, rfl, hn, hu, kk⟩ := h
  refine ⟨_, (pss_one (ps_ret (pe_callTy (r := rTupOf K) call_tuple_of (by rfl) T.z_tuple (by decide +kernel) (pa_cons (pe_lc (own := [("knot", 2), ("own", 3)]) (g := (gTup K 2 (gCons (gName 2) (gCons (gName 3) gNil)))) (wi := iEnum K _) rfl sc_kept_of.nd (pi_enum (by rfl) T.z_enumerate (pa_cons (pv 0) pa_nil)) (blkOk_by (N := ["users", "made", "knot", "own"]) (sc := (defScope st_kept_of)) (by decide +kernel)) (fun _ _ _ _ _ => (pg_tup rfl (pgs_cons (pg_name (i := 2) sc_kept_of.nd rfl (Or.inl rfl)) (pgs_cons (pg_name (i := 3) sc_kept_of.nd rfl (Or.inl rfl)) pgs_nil)))) (fun _ _ _ _ _ => (pts_one (PW.pt (pw_and (pt_cmpR op_eq (pe_op op_and (pe_op op_shr (pv 1) (pv 2)) pe_int) pe_int (nomark _)) (pw_and1 (pt_cmpR op_ne (pe_op op_and (pv 3) (pv 1)) (pv 3) (nomark _))))))) (fun _ _ _ _ _ => (pv 2))) pa_nil)))), ?_⟩
  refine ⟨_, rfl, u, _, rfl, SqL.of hu, fun D hD => ?_⟩
  refine lc_rel (walk_enum (xs := nv us)) RN monoT_RN (fun k => m.testBit k && !decide (us.getD k 0 &&& m = us.getD k 0)) (fun k => k) hD (by simp; omega) (fun H' s => SqL.of (s _ _ hu)) ?_ ?_
  · rintro i y _ H1 hi s2 ⟨T1, x1, x2, rfl, hT, rfl, hx1, hx2⟩ K1 K2 h1 h2
    cases hx1
    obtain ⟨x, hx, rfl⟩ := nv_at hx2
    have s3 := same_new (o := .tup [.int (i : Nat), .int (x : Int)]) hT
    refine ⟨T1, _, rfl, SqT.of upd_same, rfl, _, _, rfl, _, _, rfl, rfl, rfl, ?_⟩
    rw [getD_of hx] at h1 h2
    refine ⟨_, rfl, _, rfl, _, _, rfl, rfl, (by show (0 : Int) ≤ (i : Int); omega), _, _, rfl, rfl, rfl, _, rfl, ?_⟩
    rw [bit_test]
    have et : decide (V.int (Builtin.bitAnd (x : Int) (m : Int)) = V.int (x : Int)) = decide (x &&& m = x) := by
      rw [bitAnd_nat, dec_int, Bool.eq_iff_iff]
      simp
      omega
    cases hb : m.testBit i with
    | false =>
      rw [hb] at h1 h2
      refine iteF ?_
      exact iteF (h2 rfl _ s3)
    | true =>
      rw [hb] at h1 h2
      refine iteT ?_
      refine ⟨_, rfl, _, rfl, _, _, rfl, rfl, _, rfl, rfl, _, rfl, ?_⟩
      rw [et]
      cases hc : decide (x &&& m = x) with
      | true =>
        rw [hc] at h1 h2
        exact iteF (h2 rfl _ s3)
      | false =>
        rw [hc] at h1 h2
        exact iteT ⟨_, rfl, h1 rfl _ _ s3 rfl⟩
  · intro H1 ys s2 hy py
    have e := paired_nv py
    refine ⟨_, _, rfl, .inl ⟨SqL.of hy, fun q hq => ?_⟩⟩
    refine kk _ _ (s2.trans (same_new hq)) (TN.mk ?_)
    rw [upd_same, e]
    simp [keptL]
end
end K27
set_option Elab.async false
set_option linter.all false
set_option maxRecDepth 100000
set_option maxHeartbeats 4000000
namespace K27
open PySem PySem.Spec PyProof.Rows L2
theorem ixN_nat {n j : Nat} (h : j < n) : ixN n (j : Int) = some j := by
  unfold ixN
  rw [if_pos (by omega), if_pos (by omega)]
  simp
theorem nv_set (xs : List Nat) (j n : Nat) : (nv xs).set j (.int (n : Int)) = nv (xs.set j n) := by
  show (List.map (fun (n : Nat) => V.int (n : Int)) xs).set j _ = List.map (fun (n : Nat) => V.int (n : Int)) (xs.set j n)
  rw [List.map_set]
/-- the sums of users so far: knots below i, and of knot i the first t parts -/
def usAcc (S : List (List Nat)) (i t : Nat) : List Nat := (List.range S.length).map fun k => mask ((List.range i).filter fun j => decide (k ∈ parts S j)) + if k ∈ (parts S i).take t then 2 ^ i else 0
theorem usAcc_len (S : List (List Nat)) (i t : Nat) : (usAcc S i t).length = S.length := by simp [usAcc]
theorem usAcc_zero (S : List (List Nat)) : usAcc S 0 0 = (S.map fun _ => 0) := by
  unfold usAcc
  apply List.ext_getElem
  · simp
  · intro n h1 h2
    simp [mask]
theorem usAcc_next (S : List (List Nat)) (i : Nat) : usAcc S i (parts S i).length = usAcc S (i + 1) 0 := by
  unfold usAcc
  apply List.map_congr_left
  intro k _
  rw [List.take_length, List.range_succ, List.filter_append]
  by_cases h : k ∈ parts S i
  · simp [h, mask]
  · simp [h, mask]
theorem usAcc_step {S : List (List Nat)} {i t x : Nat} (hnd : (parts S i).Nodup) (hx : (parts S i)[t]? = some x) (hxS : x < S.length) :
    usAcc S i (t + 1) = (usAcc S i t).set x ((usAcc S i t).getD x 0 + 2 ^ i) := by
  have htk : (parts S i).take (t + 1) = (parts S i).take t ++ [x] := by rw [List.take_add_one, hx]; rfl
  have hno : x ∉ (parts S i).take t := by
    intro hm
    have := (List.nodup_append.mp (by rw [← htk]; exact hnd.sublist (List.take_sublist _ _) : ((parts S i).take t ++ [x]).Nodup)).2.2 x hm x (by simp)
    exact this rfl
  apply List.ext_getElem
  · simp [usAcc]
  · intro n h1 h2
    rw [List.getElem_set]
    have hn : n < S.length := by simpa [usAcc] using h1
    have g : (usAcc S i t).getD x 0 = mask ((List.range i).filter fun j => decide (x ∈ parts S j)) + if x ∈ (parts S i).take t then 2 ^ i else 0 := by
      rw [List.getD_eq_getElem?_getD, List.getElem?_eq_getElem (by rw [usAcc_len]; exact hxS)]
      simp [usAcc]
    by_cases e : x = n
    · subst e
      rw [if_pos rfl, g, if_neg hno]
      simp [usAcc, htk]
    · rw [if_neg e]
      have e' : n ≠ x := fun q => e q.symm
      simp [usAcc, htk, e']
theorem usAcc_done {S : List (List Nat)} : (usAcc S S.length 0).dropLast ++ [2 ^ S.length] = usersL S := by
  unfold usersL usAcc
  congr 1
  apply List.ext_getElem
  · simp
  · intro n h1 h2
    simp [usr]
section
variable {P : Program} {w : World} {K : PySem.W.Frag} {mg : Str → Option Value} {base : Heap}
/-- slots: 0=shape 1=found 2=_ 3=knot 4=own 5=part; cells:  -/
theorem sc_users_of : FnScope ["shape", "found", "_", "knot", "own", "part"] ["shape"] (defScope st_users_of) := ⟨rfl, rfl, rfl, by decide +kernel, rfl, by decide +kernel, by decide +kernel⟩
def sp_users_of : Sp := fun vs H Q _ => ∃ (v : V) (S : List (List Nat)), vs = [v] ∧ TS' H v S ∧ ShOk S ∧ ∀ p H', H p = none → Same H H' → H' p = some (.lst (nv (usersL S))) → Q (.ref p) H'
theorem got_users_of (T : Txt K mg) : Got P w K mg base 1 "users_of" ["shape"] sp_users_of := by
  refine got_of T.d_users_of sc_users_of (fun F => (FunD.bindsN F fun _ _ _ _ _ _ us hl => match us, hl with | [_], _ => rfl)) (fun vs H Q E h => ?_) (fun f cdv A outer s H vs Q E hr h => ?_)
  · obtain ⟨v, S, rfl, _⟩ := h; rfl
  obtain ⟨v, S, rfl, ⟨a, vs, rfl, ha, pr⟩, ok, k⟩ := h
  have ha : H a = some (.tup vs) := ha
  have hlv : vs.length = S.length := Paired.length pr
  have few := ok.few
  have pos := ok.pos
  refine ⟨_, (pss_cons (ps_setLc (i := 1) (own := [("_", 2)]) (g := (gName 2)) (tt := tYes) (wi := iTup K _) rfl sc_users_of.nd rfl rfl (sw_true rfl rfl rfl (by decide +kernel)) (pi_tup (pv 0)) (blkOk_by (N := ["shape", "found", "_", "knot", "own", "part"]) (sc := (defScope st_users_of)) (by decide +kernel)) (fun _ _ _ _ _ => (pg_name (i := 2) sc_users_of.nd rfl (Or.inl rfl))) (fun _ _ _ _ _ => pts_nil) (fun _ _ _ _ _ => pe_int))
      (pss_cons (ps_for PassesOwn.never rfl (pi_enumT (by rfl) T.z_enumerate (pa_cons (pv 0) pa_nil)) (pg_tup rfl (pgs_cons (pg_name (i := 3) sc_users_of.nd rfl (Or.inl rfl)) (pgs_cons (pg_name (i := 4) sc_users_of.nd rfl (Or.inl rfl)) pgs_nil))) (pss_one (ps_for PassesOwn.never rfl (pi_tup (pv 4)) (pg_name (i := 5) sc_users_of.nd rfl (Or.inl rfl)) (pss_one (ps_augS (pv 1) (pv 5) get_list (pe_op op_shl pe_int (pv 3)) ip_add set_list)))))
      (pss_one (ps_ret (pe_op op_cat (pe_slice (r := rSlL K) sl_list (pv 1) po_none (po_some (pe_un un_neg pe_int))) (pe_lst (pa_cons (pe_op op_shl pe_int (pe_callB (r := rLenS K) call_len_seq (by rfl) T.z_len (by decide +kernel) (pa_cons (pv 0) pa_nil))) pa_nil))))))), ?_⟩
  refine ⟨_, rfl, a, rfl, ⟨_, SqT.of ha⟩, fun D hD => ?_⟩
  refine lc_rel (walk_tup (xs := vs)) RN monoT_RN (fun _ => true) (fun i => 0) hD (by omega) (fun H' s => SqT.of (s _ _ ha)) ?_ ?_
  · rintro i y _ H1 hi s2 ⟨rfl, hy⟩ K1 K2 h1 h2
    exact ⟨rfl, tyes_ok (iteT (h1 rfl _ _ (Same.refl _) rfl))⟩
  intro H1 ys s1 hy py
  have e := paired_nv py
  rw [hlv, range_nf, show (List.range S.length).map (fun _ => 0) = usAcc S 0 0 by rw [usAcc_zero]; apply List.ext_getElem <;> simp] at e
  rw [e] at hy
  have ha1 := s1 _ _ ha
  refine ⟨_, rfl, a, _, rfl, SqT.of ha1, ?_⟩
  refine for_it (walk_enumT (xs := vs)) (fun i σ H' => ∃ x2 x3 x4 x5 : Option V, σ = [some (.ref a), some (.ref D), x2, x3, x4, x5] ∧ Same H H' ∧ H' D = some (.lst (nv (usAcc S i 0))))
    ⟨none, none, none, none, rfl, s1, hy⟩ (fun i σ H' _ ⟨_, _, _, _, _, s2, _⟩ => SqT.of (s2 _ _ ha)) ?_ ?_
  · rintro i y σ H2 _ hi ⟨x2, x3, x4, x5, rfl, s2, hD2⟩ ⟨T1, z1, z2, rfl, hT, rfl, hz1, hz2⟩
    cases hz1
    have hiS : i < S.length := by omega
    obtain ⟨b, hb1, hb2⟩ := SS.get (l := false) pr hiS
    have hz2 : vs[i]? = some z2 := hz2
    rw [hb1] at hz2
    cases hz2
    have hb2 : H b = some (.tup (nv (parts S i))) := hb2
    have s3 := s2.trans (same_new (o := .tup [.int (i : Nat), .ref b]) hT)
    have hD3 : upd H2 T1 (.tup [.int (i : Nat), .ref b]) D = some (.lst (nv (usAcc S i 0))) := same_new hT _ _ hD2
    have hb3 := s3 _ _ hb2
    refine ⟨T1, _, rfl, SqT.of upd_same, rfl, _, _, rfl, _, _, rfl, rfl, ?_⟩
    refine ⟨_, rfl, b, rfl, ⟨_, SqT.of hb3⟩, ?_⟩
    refine for_it (walk_tup (xs := nv (parts S i))) (fun t σ H' => ∃ x2 x5 : Option V, σ = [some (.ref a), some (.ref D), x2, some (.int (i : Nat)), some (.ref b), x5] ∧ Same H H' ∧ H' D = some (.lst (nv (usAcc S i t))))
      ⟨_, _, rfl, s3, hD3⟩ (fun i σ H' _ ⟨_, _, _, s4, _⟩ => SqT.of (s4 _ _ hb2)) ?_ ?_
    · rintro t y σ _ H4 ht ⟨y2, y5, rfl, s4, hD4⟩ ⟨rfl, hy4⟩
      obtain ⟨x, hx, rfl⟩ := nv_at hy4
      have hxS : x < S.length := ok.lt hiS (List.mem_of_getElem? hx)
      have hlen := usAcc_len S i t
      have hg : (usAcc S i t)[x]? = some ((usAcc S i t).getD x 0) := by
        rw [List.getD_eq_getElem?_getD, List.getElem?_eq_getElem (by rw [hlen]; exact hxS)]; rfl
      refine ⟨_, rfl, _, rfl, D, _, _, x, _, rfl, rfl, SqL.of hD4, rfl, nv_get hg, ?_⟩
      refine ⟨_, rfl, _, _, rfl, rfl, ⟨by omega, by omega, by decide⟩, _, _, rfl, rfl, ?_⟩
      refine ⟨D, _, _, x, rfl, rfl, hD4, ixN_nat (by simp [hlen, hxS]), ?_⟩
      refine ⟨_, _, rfl, same_over s4 hD, ?_⟩
      rw [upd_same, usAcc_step (ok.nd hiS) hx hxS, ← nv_set]
      congr 3
      show V.int (((usAcc S i t).getD x 0 : Nat) + 1 * 2 ^ ((i : Int)).toNat) = V.int (((usAcc S i t).getD x 0 + 2 ^ i : Nat) : Int)
      rw [Int.one_mul, Int.toNat_natCast]
      simp
    · rintro σ H4 ⟨y2, y5, rfl, s4, hD4⟩
      refine ⟨_, _, _, _, rfl, s4, ?_⟩
      rw [hD4, show (nv (parts S i)).length = (parts S i).length by simp, usAcc_next]
  · rintro σ H2 ⟨x2, x3, x4, x5, rfl, s2, hD2⟩
    rw [hlv] at hD2
    have hlen := usAcc_len S S.length 0
    refine ⟨_, rfl, _, rfl, _, rfl, D, _, rfl, SqL.of hD2, fun p hp => ?_⟩
    have s3 := s2.trans (same_new (o := .lst (cutV (nv (usAcc S S.length 0)) none (some (-1)))) hp)
    refine ⟨_, rfl, a, _, rfl, .inr (SqT.of (s3 _ _ ha)), _, _, rfl, rfl, ⟨by omega, by omega, by decide⟩, (by show 1 ≤ sizeLine; decide), fun q hq => ?_⟩
    have s4 := s3.trans (same_new (o := .lst [.int (1 * 2 ^ ((vs.length : Int)).toNat)]) hq)
    have hcut : cutV (nv (usAcc S S.length 0)) none (some (-1)) = nv (usAcc S S.length 0).dropLast := by
      unfold cutV
      have e1 : HT.sIx (nv (usAcc S S.length 0)).length (nv (usAcc S S.length 0)).length (some (-1)) = S.length - 1 := by
        unfold HT.sIx
        simp only [nv_length, hlen]
        rw [if_pos (by decide)]
        omega
      rw [e1, HT.sIx_none _ 0, List.drop_zero, Nat.sub_zero, List.dropLast_eq_take, hlen, nv_take]
    refine ⟨p, q, _, _, rfl, rfl, same_new hq _ _ upd_same, upd_same, ?_, fun r hr' => ?_⟩
    · rw [hcut]
      simp [hlen]
      show S.length - 1 + 1 ≤ 2 ^ 24
      omega
    · have s5 := s4.trans (same_new (o := .lst (cutV (nv (usAcc S S.length 0)) none (some (-1)) ++ [.int (1 * 2 ^ ((vs.length : Int)).toNat)])) hr')
      refine k r _ (same_none s4 hr') s5 ?_
      rw [upd_same, hcut, ← usAcc_done, ← nv_append]
      congr 3
      show [V.int (1 * 2 ^ ((vs.length : Int)).toNat)] = [V.int ((2 ^ S.length : Nat) : Int)]
      rw [hlv, Int.one_mul, Int.toNat_natCast]
      simp

/-- slots: 0=thing 1=needed 2=knot 3=own 4=part; cells:  -/
theorem sc_is_shape : FnScope ["thing", "needed", "knot", "own", "part"] ["thing"] (defScope st_is_shape) := ⟨rfl, rfl, rfl, by decide +kernel, rfl, by decide +kernel, by decide +kernel⟩
def keyd (ks : List Nat) : List (Key × V) := ks.map fun (k : Nat) => ((Sum.inl (k : Int) : Key), V.bl true)
theorem keyd_val : ∀ (ks : List Nat) (k : Nat), valV (keyd ks) (Sum.inl (k : Int) : Key) = if k ∈ ks then some (V.bl true) else none
  | [], k => rfl
  | x :: r, k => by
    show valV (((Sum.inl (x : Int) : Key), V.bl true) :: keyd r) _ = _
    by_cases e : x = k
    · subst e
      rw [valV_pos rfl, if_pos List.mem_cons_self]
    · rw [valV_neg (by intro q; exact e (int_cast_inj (Sum.inl.inj q))), keyd_val r k]
      simp [Ne.symm e]
theorem keyd_put (ks : List Nat) (k : Nat) : putK (keyd ks) (Sum.inl (k : Int) : Key) (V.bl true) = keyd (if k ∈ ks then ks else ks ++ [k]) := by
  by_cases h : k ∈ ks
  · rw [if_pos h]
    unfold putK
    rw [valV_any, keyd_val, if_pos h]
    rw [if_pos (by rfl)]
    unfold keyd
    rw [List.map_map]
    apply List.map_congr_left
    intro x _
    show (if (Sum.inl (x : Int) : Key) = _ then _ else _) = _
    split <;> rfl
  · rw [if_neg h, putK_new _ (by rw [keyd_val, if_neg h])]
    simp [keyd]
def sp_is_shape : Sp := fun vs H Q _ => ∃ (v : V) (S : List (List Nat)), vs = [v] ∧ TS' H v S ∧ ShOk S ∧ ∀ H', Same H H' → Q (.bl true) H'
theorem got_is_shape (T : Txt K mg) : Got P w K mg base 3 "is_shape" ["thing"] sp_is_shape := by
  refine got_of T.d_is_shape sc_is_shape (fun F => (FunD.bindsN F fun _ _ _ _ _ _ us hl => match us, hl with | [_], _ => rfl)) (fun vs H Q E h => ?_) (fun f cdv A outer s H vs Q E hr h => ?_)
  · obtain ⟨v, S, rfl, _⟩ := h; rfl
  obtain ⟨v, S, rfl, ⟨a, vs, rfl, ha, pr⟩, ok, k⟩ := h
  have ha : H a = some (.tup vs) := ha
  have hlv : vs.length = S.length := Paired.length pr
  have few := ok.few
  have pos := ok.pos
  have hu := hu_of hr
  obtain ⟨_, _, m_is_set, G_is_set, k_is_set, b_is_set⟩ := (got_is_set (P := P) (w := w) (base := base) T).ex
  refine ⟨_, (pss_cons (ps_if (PW.pt (pw_or (pt_not (pt_val (pe_callB (r := rIsi K) call_isi (by rfl) T.z_isinstance (by decide +kernel) (pa_cons (pv 0) (pa_cons (pe_bltn (v := .ty "tuple") (by rfl) T.z_tuple (by decide +kernel) rfl) pa_nil))))) (pw_or1 (pt_cmpR op_eq (pe_callB (r := rLenS K) call_len_seq (by rfl) T.z_len (by decide +kernel) (pa_cons (pv 0) pa_nil)) pe_int (nomark _))))) (pss_one (ps_ret pe_bl)) pss_nil)
      (pss_cons (ps_set (i := 1) sc_is_shape.nd rfl (Or.inl rfl) pe_dnewK)
      (pss_cons (ps_for PassesOwn.never rfl (pi_enumT (by rfl) T.z_enumerate (pa_cons (pv 0) pa_nil)) (pg_tup rfl (pgs_cons (pg_name (i := 2) sc_is_shape.nd rfl (Or.inl rfl)) (pgs_cons (pg_name (i := 3) sc_is_shape.nd rfl (Or.inl rfl)) pgs_nil))) (pss_cons (ps_if (pt_not (pt_val (pe_call G_is_set (hr.mono (by first | decide | omega)) rfl m_is_set k_is_set b_is_set .nil pass0 (pa_cons (pv 3) (pa_cons (pv 2) pa_nil))))) (pss_one (ps_ret pe_bl)) pss_nil)
      (pss_one (ps_for PassesOwn.never rfl (pi_tup (pv 3)) (pg_name (i := 4) sc_is_shape.nd rfl (Or.inl rfl)) (pss_one (ps_dput hu (pv 1) (pv 4) pe_bl rfl))))))
      (pss_one (ps_ret (pe_cmpR op_eq (pe_callB call_lenD (by rfl) T.z_len (by decide +kernel) (pa_cons (pv 1) pa_nil)) (pe_op op_sub (pe_callB (r := rLenS K) call_len_seq (by rfl) T.z_len (by decide +kernel) (pa_cons (pv 0) pa_nil)) pe_int) (nomark _))))))), ?_⟩
  refine ⟨_, rfl, _, _, _, _, _, rfl, .ty _, .base (.tup ha), kit_tt, _, rfl, ?_⟩
  refine iteF ⟨_, rfl, a, _, rfl, .inr (SqT.of ha), rfl, _, rfl, ?_⟩
  have hl0 : decide (V.int ((vs.length : Nat) : Int) = V.int 0) = false := by
    rw [dec_int, beq_eq_false_iff_ne]
    omega
  rw [hl0]
  refine iteF fun d hd => ?_
  have s1 := same_new (o := .dK []) hd
  refine ⟨_, rfl, a, _, rfl, SqT.of (s1 _ _ ha), ?_⟩
  refine for_it (walk_enumT (xs := vs)) (fun i σ H' => ∃ (x2 x3 x4 : Option V) (ks : List Nat), σ = [some (.ref a), some (.ref d), x2, x3, x4] ∧ Same H H' ∧ H' d = some (.dK (keyd ks)) ∧ ks.Nodup ∧ ∀ x, x ∈ ks ↔ ∃ j, j < i ∧ x ∈ parts S j)
    ⟨none, none, none, [], rfl, s1, upd_same, List.nodup_nil, fun x => by simp⟩ (fun i σ H' _ ⟨_, _, _, _, _, s2, _⟩ => SqT.of (s2 _ _ ha)) ?_ ?_
  · rintro i y σ H2 _ hi ⟨x2, x3, x4, ks, rfl, s2, hd2, hnd, hks⟩ ⟨T1, z1, z2, rfl, hT, rfl, hz1, hz2⟩
    cases hz1
    have hiS : i < S.length := by omega
    obtain ⟨b, hb1, hb2⟩ := SS.get (l := false) pr hiS
    have hz2 : vs[i]? = some z2 := hz2
    rw [hb1] at hz2
    cases hz2
    have hb2 : H b = some (.tup (nv (parts S i))) := hb2
    have s3 := s2.trans (same_new (o := .tup [.int (i : Nat), .ref b]) hT)
    have hd3 : upd H2 T1 (.tup [.int (i : Nat), .ref b]) d = some (.dK (keyd ks)) := same_new hT _ _ hd2
    have hb3 := s3 _ _ hb2
    refine ⟨T1, _, rfl, SqT.of upd_same, rfl, _, _, rfl, _, _, rfl, rfl, ?_⟩
    refine ⟨_, rfl, _, rfl, .ref b, parts S i, i, rfl, TN.mk hb3, ok.asc i hiS, fun x hx => ok.low i x hiS hx, ?_, fun H4 s4 => ?_⟩
    · have := nodup_le (ok.nd hiS) fun x hx => ok.lt hiS hx
      omega
    refine ⟨_, rfl, iteF ?_⟩
    have s5 := s3.trans s4
    refine ⟨_, rfl, b, rfl, ⟨_, SqT.of (s5 _ _ hb2)⟩, ?_⟩
    refine for_it (walk_tup (xs := nv (parts S i))) (fun t σ H' => ∃ (x4 : Option V) (ks : List Nat), σ = [some (.ref a), some (.ref d), some (.int (i : Nat)), some (.ref b), x4] ∧ Same H H' ∧ H' d = some (.dK (keyd ks)) ∧ ks.Nodup ∧ ∀ x, x ∈ ks ↔ (∃ j, j < i ∧ x ∈ parts S j) ∨ x ∈ (parts S i).take t)
      ⟨_, ks, rfl, s5, s4 _ _ hd3, hnd, fun x => by rw [hks]; simp⟩ (fun i σ H' _ ⟨_, _, _, s6, _⟩ => SqT.of (s6 _ _ hb2)) ?_ ?_
    · rintro t y σ _ H6 ht ⟨x4, ks, rfl, s6, hd6, hnd6, hks6⟩ ⟨rfl, hy6⟩
      obtain ⟨x, hx, rfl⟩ := nv_at hy6
      have hxS : x < S.length := ok.lt hiS (List.mem_of_getElem? hx)
      have hkl : ks.length ≤ S.length := nodup_le hnd6 fun z hz => by
        rcases (hks6 z).mp hz with ⟨j, hj, hz'⟩ | hz'
        · exact ok.lt (by omega) hz'
        · exact ok.lt hiS (List.mem_of_mem_take hz')
      refine ⟨_, rfl, _, rfl, d, _, rfl, DPut.k (k := Sum.inl (x : Int)) hd6 ?_, ?_⟩
      · show (keyd ks).length < 2 ^ 24
        simp [keyd]; omega
      refine ⟨_, if x ∈ ks then ks else ks ++ [x], rfl, same_over s6 hd, by rw [upd_same, keyd_put], ?_, fun z => ?_⟩
      · by_cases h : x ∈ ks
        · rw [if_pos h]; exact hnd6
        · rw [if_neg h]; exact nd_snoc hnd6 h
      · rw [List.take_add_one, hx]
        have e : z ∈ (if x ∈ ks then ks else ks ++ [x]) ↔ z ∈ ks ∨ z = x := by
          by_cases h : x ∈ ks
          · rw [if_pos h]
            constructor
            · exact Or.inl
            · rintro (h' | rfl); exact h'; exact h
          · rw [if_neg h]; simp
        rw [e, hks6]
        simp [or_assoc]
    · rintro σ H6 ⟨x4, ks, rfl, s6, hd6, hnd6, hks6⟩
      refine ⟨_, _, _, ks, rfl, s6, hd6, hnd6, fun x => ?_⟩
      rw [hks6, show (nv (parts S i)).length = (parts S i).length by simp, List.take_length]
      constructor
      · rintro (⟨j, hj, hx⟩ | hx)
        · exact ⟨j, by omega, hx⟩
        · exact ⟨i, by omega, hx⟩
      · rintro ⟨j, hj, hx⟩
        rcases Nat.lt_succ_iff_lt_or_eq.mp hj with h | rfl
        · exact .inl ⟨j, h, hx⟩
        · exact .inr hx
  · rintro σ H2 ⟨x2, x3, x4, ks, rfl, s2, hd2, hnd, hks⟩
    refine ⟨_, rfl, d, _, rfl, hd2, _, rfl, a, _, rfl, .inr (SqT.of (s2 _ _ ha)), _, _, rfl, rfl, rfl, ?_⟩
    have hlen : ks.length = S.length - 1 := nodup_len hnd fun x => by
      rw [hks]
      constructor
      · rintro ⟨j, hj, hx⟩
        have := ok.low j x (by omega) hx
        omega
      · intro hx
        obtain ⟨j, hj, hx'⟩ := ok.use x (by omega)
        exact ⟨j, by omega, hx'⟩
    have e : decide (V.int (((keyd ks).length : Nat) : Int) = V.int ((vs.length : Int) - 1)) = true := by
      rw [dec_int, beq_iff_eq]
      simp [keyd]
      omega
    show Q (.bl (decide (V.int (((keyd ks).length : Nat) : Int) = V.int ((vs.length : Int) - 1)))) H2
    rw [e]
    exact k _ s2
end
end K27
set_option Elab.async false
set_option linter.all false
set_option maxRecDepth 100000
set_option maxHeartbeats 4000000
namespace K27
open PySem PySem.Spec PyProof.Rows L2
abbrev Fd := List (Nat × Option (Nat × Nat))
def RTv (H : Hp) (v : V) : Option (Nat × Nat) → Prop
  | none => v = .non
  | some (a, k) => ∃ t, v = .ref t ∧ H t = some (.tup [.int a, .int k])
def RTr (H : Hp) (p : Key × V) (q : Nat × Option (Nat × Nat)) : Prop := p.1 = Sum.inl (q.1 : Int) ∧ RTv H p.2 q.2
theorem RTv.keep {H H' : Hp} (s : KeepT H H') {v : V} {q : Option (Nat × Nat)} (h : RTv H v q) : RTv H' v q := by
  cases q with
  | none => exact h
  | some p => obtain ⟨t, e, ht⟩ := h; exact ⟨t, e, s _ _ ht⟩
theorem RTr.keep {H H' : Hp} (s : KeepT H H') {p : Key × V} {q : Nat × Option (Nat × Nat)} (h : RTr H p q) : RTr H' p q := ⟨h.1, h.2.keep s⟩
abbrev keysF (fd : Fd) : List Nat := fd.map (·.1)
theorem trail_out {H : Hp} : ∀ {kvs : List (Key × V)} {fd : Fd}, Paired (RTr H) kvs fd → ∀ {n : Nat}, n ∉ keysF fd → valV kvs (Sum.inl (n : Int) : Key) = none
  | _, _, .nil, n, _ => rfl
  | _, _, .cons (a := p) (b := q) (l₂ := fr) r t, n, h => by
    have h' : n ≠ q.1 ∧ n ∉ keysF fr := by
      refine ⟨fun e => h ?_, fun e => h (List.mem_cons_of_mem _ e)⟩
      rw [e]
      exact List.mem_cons_self
    rw [valV_neg (by rw [r.1]; intro e; exact h'.1 (int_cast_inj (Sum.inl.inj e)).symm)]
    exact trail_out t h'.2
theorem trail_in {H : Hp} : ∀ {kvs : List (Key × V)} {fd : Fd}, Paired (RTr H) kvs fd → (keysF fd).Nodup → ∀ {i n : Nat} {q : Option (Nat × Nat)}, fd[i]? = some (n, q) → ∃ v, valV kvs (Sum.inl (n : Int) : Key) = some v ∧ RTv H v q
  | _, _, .nil, _, i, n, q, h => by simp at h
  | _, _, .cons (a := p) (b := q') r t, hnd, 0, n, q, h => by
    simp at h
    subst h
    exact ⟨p.2, valV_pos r.1, r.2⟩
  | _, _, .cons (a := p) (b := q') (l₂ := fr) r t, hnd, i + 1, n, q, h => by
    have hnd' := List.nodup_cons.mp (show (q'.1 :: keysF fr).Nodup from hnd)
    have h2 : fr[i]? = some (n, q) := by simpa using h
    obtain ⟨v, h3, h4⟩ := trail_in t hnd'.2 h2
    have hne : n ≠ q'.1 := fun e => hnd'.1 (e ▸ List.mem_map.mpr ⟨_, List.mem_of_getElem? h2, rfl⟩)
    exact ⟨v, by rw [valV_neg (by rw [r.1]; intro e; exact hne (int_cast_inj (Sum.inl.inj e)).symm)]; exact h3, h4⟩
structure TrailOk (step : Nat → Nat → Nat → Prop) (fd : Fd) : Prop where
  first : fd[0]? = some (0, Option.none)
  nd : (keysF fd).Nodup
  back : ∀ (i m a k : Nat), fd[i]? = some (m, some (a, k)) → step a k m ∧ ∃ (j : Nat) (o : Option (Nat × Nat)), j < i ∧ fd[j]? = some (a, o)
  none : ∀ (i m : Nat), fd[i]? = some (m, Option.none) → i = 0
theorem TrailOk.start (step : Nat → Nat → Nat → Prop) : TrailOk step [(0, Option.none)] where
  first := rfl
  nd := by simp [keysF]
  back := fun i m a k h => by cases i <;> simp at h
  none := fun i m h => by cases i with | zero => rfl | succ i => simp at h
theorem TrailOk.snoc {step : Nat → Nat → Nat → Prop} {fd : Fd} (ok : TrailOk step fd) {m a k : Nat} (hm : m ∉ keysF fd) (ha : a ∈ keysF fd) (hs : step a k m) : TrailOk step (fd ++ [(m, some (a, k))]) where
  first := by
    have := ok.first
    rw [List.getElem?_append_left (List.getElem?_eq_some_iff.mp this).1]
    exact this
  nd := by
    have e : keysF (fd ++ [(m, some (a, k))]) = keysF fd ++ [m] := by simp [keysF]
    rw [e]
    exact nd_snoc ok.nd hm
  back := fun i m' a' k' h => by
    by_cases hi : i < fd.length
    · rw [List.getElem?_append_left hi] at h
      obtain ⟨h1, j, o, hj, h2⟩ := ok.back i m' a' k' h
      exact ⟨h1, j, o, hj, by rw [List.getElem?_append_left (by omega)]; exact h2⟩
    · have hi' : i = fd.length := by
        have := (List.getElem?_eq_some_iff.mp h).1
        simp at this
        omega
      subst hi'
      simp at h
      obtain ⟨rfl, rfl, rfl⟩ := h
      refine ⟨hs, ?_⟩
      obtain ⟨q, hq, rfl⟩ := List.mem_map.mp ha
      obtain ⟨j, hj⟩ := List.mem_iff_getElem?.mp hq
      exact ⟨j, q.2, (List.getElem?_eq_some_iff.mp hj).1, by rw [List.getElem?_append_left (List.getElem?_eq_some_iff.mp hj).1]; exact hj⟩
  none := fun i m' h => by
    by_cases hi : i < fd.length
    · rw [List.getElem?_append_left hi] at h
      exact ok.none i m' h
    · have hi' : i = fd.length := by
        have := (List.getElem?_eq_some_iff.mp h).1
        simp at this
        omega
      subst hi'
      simp at h
theorem keysF_snoc (fd : Fd) (m : Nat) (q : Option (Nat × Nat)) : keysF (fd ++ [(m, q)]) = keysF fd ++ [m] := by simp [keysF]
theorem TrailOk.zero {step : Nat → Nat → Nat → Prop} {fd : Fd} (ok : TrailOk step fd) : 0 ∈ keysF fd := List.mem_map.mpr ⟨_, List.mem_of_getElem? ok.first, rfl⟩
/-- kept knots by the users' masks -/
theorem keptL_eq {S : List (List Nat)} (ok : ShOk S) {m : Nat} (hm : m < 2 ^ S.length) : keptL (usersL S) m = kept S m := by
  have hl : (usersL S).length = S.length := by
    have := ok.pos
    simp [usersL]
    omega
  unfold keptL kept
  rw [hl]
  apply List.filter_congr
  intro k hk
  have hk := List.mem_range.mp hk
  congr 1
  by_cases ht : k + 1 = S.length
  · have e : (usersL S).getD k 0 = 2 ^ S.length := by
      unfold usersL
      rw [List.getD_eq_getElem?_getD, List.getElem?_append_right (by simp; omega)]
      have : k - ((List.range (S.length - 1)).map fun k => mask (usr S k)).length = 0 := by simp; omega
      rw [this]
      rfl
    rw [e, decide_eq_true ht, Bool.true_or]
    have hn : 2 ^ S.length &&& m ≠ 2 ^ S.length := by
      intro h
      have := congrArg (fun z => z.testBit S.length) h
      simp only [Nat.testBit_and, Nat.testBit_two_pow_self, Bool.true_and] at this
      have := bits_lt hm this
      omega
    rw [decide_eq_false hn]
    rfl
  · have e : (usersL S).getD k 0 = mask (usr S k) := by
      unfold usersL
      rw [List.getD_eq_getElem?_getD, List.getElem?_append_left (by simp; omega), List.getElem?_map, List.getElem?_range (by omega)]
      rfl
    rw [e, decide_eq_false ht, Bool.false_or]
    have hnd : (usr S k).Nodup := List.nodup_range.sublist List.filter_sublist
    rw [Bool.eq_iff_iff]
    constructor
    · intro h
      have h' : mask (usr S k) &&& m ≠ mask (usr S k) := by simpa using h
      obtain ⟨x, hx, hb⟩ := (and_mask_ne hnd m).mp h'
      have hx' := List.mem_filter.mp hx
      exact List.any_eq_true.mpr ⟨x, hx'.1, by rw [hx'.2, hb]; rfl⟩
    · intro h
      obtain ⟨x, hx, hb⟩ := List.any_eq_true.mp h
      have hb' := Bool.and_eq_true_iff.mp hb
      have := (and_mask_ne hnd m).mpr ⟨x, List.mem_filter.mpr ⟨hx, hb'.1⟩, by simpa using hb'.2⟩
      simpa using this
theorem or_lt {S : List (List Nat)} {m k : Nat} (hm : m < 2 ^ S.length) (hk : k < S.length) : m ||| 2 ^ k < 2 ^ S.length :=
  Nat.or_lt_two_pow hm (Nat.pow_lt_pow_right (by omega) hk)
theorem WayTo.lt {S : List (List Nat)} {many m : Nat} {way : List (Nat × List Nat)} (h : WayTo S many m way) : m < 2 ^ S.length := by
  induction h with
  | nil => exact Nat.pow_pos (by omega)
  | snoc _ s ih => exact or_lt ih s.lt
/-- a way's pair: a knot, the knots kept -/
def RW (H : Hp) (v : V) (q : Nat × List Nat) : Prop := ∃ t u, v = .ref t ∧ H t = some (.tup [.int q.1, u]) ∧ TN H u q.2
theorem monoT_RW : MonoT RW := fun _ _ _ _ s ⟨t, u, e, h, r⟩ => ⟨t, u, e, s _ _ h, monoT_TN _ _ _ _ s r⟩
end K27
set_option Elab.async false
set_option linter.all false
set_option maxRecDepth 100000
set_option maxHeartbeats 8000000
namespace K27
open PySem PySem.Spec PyProof.Rows L2
section
variable {P : Program} {w : World} {K : PySem.W.Frag} {mg : Str → Option Value} {base : Heap}
/-- slots: 0=shape 1=many 2=masks 3=users 4=goal 5=found 6=now 7=later 8=made 9=knot 10=mask 11=own 12=way 13=ahead; cells:  -/
theorem sc_sparing_way : FnScope ["shape", "many", "masks", "users", "goal", "found", "now", "later", "made", "knot", "mask", "own", "way", "ahead"] ["shape", "many"] (defScope st_sparing_way) := ⟨rfl, rfl, rfl, by decide +kernel, rfl, by decide +kernel, by decide +kernel⟩
def sp_sparing_way : Sp := fun vs H Q _ => ∃ (v : V) (S : List (List Nat)) (many : Nat), vs = [v, .int many] ∧ TS' H v S ∧ ShOk S ∧
  (∀ H', Same H H' → (¬ ∃ way, WayTo S many (goal S) way) → Q .non H') ∧ (∀ p H' ys way, H p = none → Same H H' → H' p = some (.lst ys) → Paired (RW H') ys way → WayTo S many (goal S) way → Q (.ref p) H')
abbrev stepS (S : List (List Nat)) (many : Nat) : Nat → Nat → Nat → Prop := fun a k m => SpStep S many a k ∧ m = a ||| 2 ^ k
/-- what the dict tells, by plain data -/
structure Found (S : List (List Nat)) (many : Nat) (fd : Fd) : Prop where
  ok : TrailOk (stepS S many) fd
  lt : ∀ m ∈ keysF fd, m < 2 ^ S.length
theorem Found.len {S : List (List Nat)} {many : Nat} {fd : Fd} (f : Found S many fd) : fd.length ≤ 2 ^ S.length := by
  have := nodup_le f.ok.nd f.lt
  simpa [keysF] using this
theorem Found.snoc {S : List (List Nat)} {many : Nat} {fd : Fd} (f : Found S many fd) {a k : Nat} (ha : a ∈ keysF fd) (hn : a ||| 2 ^ k ∉ keysF fd) (hs : SpStep S many a k) : Found S many (fd ++ [(a ||| 2 ^ k, some (a, k))]) where
  ok := f.ok.snoc hn ha ⟨hs, rfl⟩
  lt := fun m hm => by
    rw [keysF_snoc] at hm
    rcases List.mem_append.mp hm with h | h
    · exact f.lt m h
    · rw [List.mem_singleton.mp h]
      exact or_lt (f.lt a ha) hs.lt
theorem closed_all {S : List (List Nat)} {many : Nat} {fd : Fd} (f : Found S many fd) (hc : ∀ m ∈ keysF fd, ∀ k, SpStep S many m k → m ||| 2 ^ k ∈ keysF fd) {m : Nat} {way : List (Nat × List Nat)} (h : WayTo S many m way) : m ∈ keysF fd := by
  induction h with
  | nil => exact f.ok.zero
  | snoc _ s ih => exact hc _ ih _ s
theorem two_pow_le {n : Nat} (h : n ≤ 8) : 2 ^ n ≤ 256 := Nat.pow_le_pow_right (by omega) h
theorem got_sparing_way (T : Txt K mg) : Got P w K mg base 2 "sparing_way" ["shape", "many"] sp_sparing_way := by
  refine got_of T.d_sparing_way sc_sparing_way (fun F => (FunD.bindsN F fun _ _ _ _ _ _ us hl => match us, hl with | [_, _], _ => rfl)) (fun vs H Q E h => ?_) (fun f cdv A outer s H vs Q E hr h => ?_)
  · obtain ⟨v, S, m, rfl, _⟩ := h; rfl
  obtain ⟨v, S, many, rfl, hv, ok, kN, kS⟩ := h
  have hu := hu_of hr
  have few := ok.few
  have pos := ok.pos
  have p256 := two_pow_le few
  obtain ⟨_, _, m_masks_of, G_masks_of, k_masks_of, b_masks_of⟩ := (got_masks_of (P := P) (w := w) (base := base) T).ex
  obtain ⟨_, _, m_users_of, G_users_of, k_users_of, b_users_of⟩ := (got_users_of (P := P) (w := w) (base := base) T).ex
  obtain ⟨_, _, m_kept_of, G_kept_of, k_kept_of, b_kept_of⟩ := (got_kept_of (P := P) (w := w) (base := base) T).ex
  refine ⟨_, (pss_cons (ps_par3 (i := 2) (j := 3) (l := 4) (by rfl) sc_sparing_way.nd rfl rfl rfl (by decide) (by decide) (by decide) rfl rfl rfl (pa_cons (pe_call G_masks_of (hr.mono (by first | decide | omega)) rfl m_masks_of k_masks_of b_masks_of .nil pass0 (pa_cons (pv 0) pa_nil)) (pa_cons (pe_call G_users_of (hr.mono (by first | decide | omega)) rfl m_users_of k_users_of b_users_of .nil pass0 (pa_cons (pv 0) pa_nil)) (pa_cons (pe_op op_sub (pe_op op_shl pe_int (pe_callB (r := rLenS K) call_len_seq (by rfl) T.z_len (by decide +kernel) (pa_cons (pv 0) pa_nil))) pe_int) pa_nil))) (by rfl))
      (pss_cons (ps_par (i := 5) (j := 6) (by rfl) sc_sparing_way.nd rfl rfl (by decide) rfl rfl (pa_cons (pe_disp (pps_cons pe_int pe_non pps_nil) (by rfl) (by rfl) (fun z => by cases z) (by decide)) (pa_cons (pe_lst (pa_cons pe_int pa_nil)) pa_nil)) (by rfl))
      (pss_cons (ps_while PassesOwn.never (PW.pt (pw_and (pt_cmpR op_gt (pe_callB (r := rLenS K) call_len_seq (by rfl) T.z_len (by decide +kernel) (pa_cons (pv 6) pa_nil)) pe_int (nomark _)) (pw_and1 (pt_cmp (pc_dnotin hu (pv 4) (pv 5)))))) (pss_cons (ps_set (i := 7) sc_sparing_way.nd rfl (Or.inl rfl) (pe_lst pa_nil))
      (pss_cons (ps_for PassesOwn.never rfl (pi_list (pv 6)) (pg_name (i := 8) sc_sparing_way.nd rfl (Or.inl rfl)) (pss_one (ps_for PassesOwn.never rfl (pi_enum (by rfl) T.z_enumerate (pa_cons (pv 2) pa_nil)) (pg_tup rfl (pgs_cons (pg_name (i := 9) sc_sparing_way.nd rfl (Or.inl rfl)) (pgs_cons (pg_name (i := 10) sc_sparing_way.nd rfl (Or.inl rfl)) pgs_nil))) (pss_cons (ps_set (i := 11) sc_sparing_way.nd rfl (Or.inl rfl) (pe_op op_or (pv 8) (pe_op op_shl pe_int (pv 9))))
      (pss_one (ps_if (PW.pt (pw_and (pt_cmp (pc_dnotin hu (pv 11) (pv 5))) (pw_and (pt_cmpR op_eq (pe_op op_and (pv 8) (pv 10)) (pv 10) (nomark _)) (pw_and1 (pt_cmpR op_le (pe_callB (r := rLenS K) call_len_seq (by rfl) T.z_len (by decide +kernel) (pa_cons (pe_call G_kept_of (hr.mono (by first | decide | omega)) rfl m_kept_of k_kept_of b_kept_of .nil pass0 (pa_cons (pv 3) (pa_cons (pv 11) pa_nil))) pa_nil)) (pv 1) (nomark _)))))) (pss_cons (ps_dput hu (pv 5) (pv 11) (pe_tup (pa_cons (pv 8) (pa_cons (pv 9) pa_nil))) rfl)
      (pss_one (ps_expr (pe_bm PySem.F.plainAttrs_list PySem.F.slot_list_append PySem.F.type_list_append mt_append (pv 7) (pa_cons (pv 11) pa_nil))))) pss_nil))))))
      (pss_one (ps_set (i := 6) sc_sparing_way.nd rfl (Or.inl rfl) (pv 7))))))
      (pss_cons (ps_if (pt_cmp (pc_dnotin hu (pv 4) (pv 5))) (pss_one (ps_ret pe_non)) pss_nil)
      (pss_cons (ps_par (i := 12) (j := 8) (by rfl) sc_sparing_way.nd rfl rfl (by decide) rfl rfl (pa_cons (pe_lst pa_nil) (pa_cons (pv 4) pa_nil)) (by rfl))
      (pss_cons (ps_while PassesOwn.never (pt_cmpR op_ne (pv 8) pe_int (nomark _)) (pss_cons (ps_asg (pe_dget hu (pv 5) (pv 8) (fun _ _ => rfl)) (pg_tup rfl (pgs_cons (pg_name (i := 13) sc_sparing_way.nd rfl (Or.inl rfl)) (pgs_cons (pg_name (i := 9) sc_sparing_way.nd rfl (Or.inl rfl)) pgs_nil))))
      (pss_cons (ps_expr (pe_bm PySem.F.plainAttrs_list PySem.F.slot_list_append PySem.F.type_list_append mt_append (pv 12) (pa_cons (pe_tup (pa_cons (pv 9) (pa_cons (pe_call G_kept_of (hr.mono (by first | decide | omega)) rfl m_kept_of k_kept_of b_kept_of .nil pass0 (pa_cons (pv 3) (pa_cons (pv 8) pa_nil))) pa_nil))) pa_nil)))
      (pss_one (ps_set (i := 8) sc_sparing_way.nd rfl (Or.inl rfl) (pv 13))))))
      (pss_one (ps_ret (pe_revL (pv 12)))))))))), ?_⟩
  have hml : ∀ own ∈ S, own.length ≤ 1000 ∧ ∀ x ∈ own, x < 64 := fun own ho => by
    obtain ⟨i, hi⟩ := List.mem_iff_getElem?.mp ho
    have hiS := (List.getElem?_eq_some_iff.mp hi).1
    have e := parts_get hi
    have nd := ok.nd hiS
    have hl := fun x (hx : x ∈ parts S i) => ok.lt hiS hx
    rw [e] at nd hl
    have := nodup_le nd hl
    exact ⟨by omega, fun x hx => by have := hl x hx; omega⟩
  -- masks, users, goal
  refine ⟨_, rfl, v, S, rfl, hv, by omega, hml, fun mk H1 nmk s1 hmk => ?_⟩
  refine ⟨_, rfl, v, S, rfl, monoT_TS _ _ _ _ (keepT_same s1) hv, ok, fun us H2 nus s2 hus => ?_⟩
  obtain ⟨a, vs0, rfl, ha, pr⟩ := id hv
  have ha : H a = some (.tup vs0) := ha
  have hlv : vs0.length = S.length := Paired.length pr
  have s12 := s1.trans s2
  refine ⟨_, rfl, a, _, rfl, .inr (SqT.of (s12 _ _ ha)), _, _, rfl, rfl, ⟨by omega, by omega, by decide⟩, _, _, rfl, rfl, _, _, _, rfl, ?_⟩
  have hgoal : (1 * 2 ^ ((vs0.length : Int)).toNat - 1 : Int) = ((goal S : Nat) : Int) := by
    rw [hlv, Int.one_mul, Int.toNat_natCast]
    unfold goal
    have : 1 ≤ 2 ^ S.length := Nat.one_le_two_pow
    rw [Int.ofNat_sub this]
    simp
  show _
  simp only [hgoal]
  -- found, now
  intro d hd
  refine ⟨upd_same, [(Sum.inl 0, .non)], rfl, (by decide), ?_⟩
  rw [upd_upd]
  have ekv : mergeK [] [((Sum.inl 0 : Key), V.non)] = [((Sum.inl 0 : Key), V.non)] := by decide +kernel
  rw [ekv]
  have s3 : Same H (upd H2 d (.dK [(Sum.inl 0, .non)])) := s12.trans (same_new hd)
  refine ⟨(by show 1 ≤ sizeLine; decide), fun nA hnA => ?_⟩
  have s4 := s3.trans (same_new (o := .lst [.int 0]) hnA)
  refine ⟨_, _, rfl, ?_⟩
  generalize hH3 : upd (upd H2 d (.dK [(Sum.inl 0, .non)])) nA (.lst [.int 0]) = H3 at s4
  have hd3 : H3 d = some (.dK [(Sum.inl 0, .non)]) := by rw [← hH3, upd_ne (ne_of_none upd_same hnA), upd_same]
  have hmk3 : H3 mk = some (.lst (nv (S.map mask))) := by rw [← hH3]; exact same_new hnA _ _ (same_new hd _ _ (s2 _ _ hmk))
  have hus3 : H3 us = some (.lst (nv (usersL S))) := by rw [← hH3]; exact same_new hnA _ _ (same_new hd _ _ hus)
  have hnA3 : H3 nA = some (.lst (nv [0])) := by rw [← hH3, upd_same]; rfl
  -- the while
  refine ⟨fun m σ H' => ∃ (fd : Fd) (kvs : List (Key × V)) (now : List Nat) (nA : Addr) (x7 x8 x9 x10 x11 : Option V), m = 2 * (2 ^ S.length - fd.length) + (if now = [] then 0 else 1) ∧
      σ = [some (.ref a), some (.int many), some (.ref mk), some (.ref us), some (.int (goal S : Nat)), some (.ref d), some (.ref nA), x7, x8, x9, x10, x11, none, none] ∧
      Same H H' ∧ H' mk = some (.lst (nv (S.map mask))) ∧ H' us = some (.lst (nv (usersL S))) ∧ H' d = some (.dK kvs) ∧ H' nA = some (.lst (nv now)) ∧ Paired (RTr H') kvs fd ∧ Found S many fd ∧
      (∀ x ∈ now, x ∈ keysF fd) ∧ (∀ x ∈ keysF fd, x ∉ now → ∀ k, SpStep S many x k → x ||| 2 ^ k ∈ keysF fd),
    ⟨_, [(0, none)], _, [0], nA, none, none, none, none, none, rfl, rfl, s4, hmk3, hus3, hd3, hnA3, .cons ⟨rfl, rfl⟩ .nil, ⟨TrailOk.start _, fun m hm => by simp [keysF] at hm; subst hm; exact Nat.pow_pos (by omega)⟩, fun x hx => by simpa [keysF] using hx, fun x hx hn => absurd (by simpa [keysF] using hx) hn⟩, ?_⟩
  rintro m σ H4 ⟨fd, kvs, now, nA', x7, x8, x9, x10, x11, rfl, rfl, s4, hmk4, hus4, hd4, hnA4, prk, fnd, hnow, hclo⟩
  have hlen4 := fnd.len
  refine tAnd_of _ (!decide (goal S ∈ keysF fd)) (fun Q' q => ⟨_, rfl, nA', _, rfl, .inl (SqL.of hnA4), _, _, rfl, rfl, _, rfl, q _ (Same.refl _)⟩) (fun _ H5 s5 Q' q => ?_) (fun H5 s5 => ?_)
  · refine ⟨_, rfl, _, rfl, d, _, rfl, DGet.k (k := Sum.inl ((goal S : Nat) : Int)) (s5 _ _ hd4), _, rfl, ?_⟩
    by_cases hg : goal S ∈ keysF fd
    · obtain ⟨q0, hq0, e0⟩ := List.mem_map.mp hg
      obtain ⟨i0, hi0⟩ := List.mem_iff_getElem?.mp hq0
      obtain ⟨v0, hv0, _⟩ := trail_in prk fnd.ok.nd (i := i0) (n := goal S) (q := q0.2) (by rw [hi0, ← e0])
      rw [hv0]
      rw [decide_eq_true hg] at q
      exact q _ (Same.refl _)
    · rw [trail_out prk hg]
      rw [decide_eq_false hg] at q
      exact q _ (Same.refl _)
  have s05 := s4.trans s5
  have hmk5 := s5 _ _ hmk4
  have hus5 := s5 _ _ hus4
  have hd5 := s5 _ _ hd4
  have hnA5 := s5 _ _ hnA4
  have prk5 := pmap prk fun _ _ r => RTr.keep (keepT_same s5) r
  refine ite2 (fun hb => ?_) (fun hb => ?_)
  · -- a turn
    obtain ⟨hb1, hb2⟩ := Bool.and_eq_true_iff.mp hb
    have hne : now ≠ [] := by
      intro e
      subst e
      simp at hb1
    refine ⟨_, fun _ _ h => h, ?_⟩
    refine ⟨Nat.zero_le _, fun L hL => ?_⟩
    have nmkL : mk ≠ L := ne_of_none hmk5 hL
    have nusL : us ≠ L := ne_of_none hus5 hL
    have ndL : d ≠ L := ne_of_none hd5 hL
    have nnAL : nA' ≠ L := ne_of_none hnA5 hL
    have hL0 : H L = none := same_none s05 hL
    have sL := same_new (o := .lst []) hL
    refine ⟨_, rfl, nA', rfl, ⟨_, SqL.of (sL _ _ hnA5)⟩, ?_⟩
    refine for_it (walk_list (xs := nv now)) (fun i σ H' => ∃ (fd' : Fd) (kvs' : List (Key × V)) (lt : List Nat) (x8 x9 x10 x11 : Option V),
        σ = [some (.ref a), some (.int many), some (.ref mk), some (.ref us), some (.int (goal S : Nat)), some (.ref d), some (.ref nA'), some (.ref L), x8, x9, x10, x11, none, none] ∧
        Same H H' ∧ H' mk = some (.lst (nv (S.map mask))) ∧ H' us = some (.lst (nv (usersL S))) ∧ H' d = some (.dK kvs') ∧ H' nA' = some (.lst (nv now)) ∧ H' L = some (.lst (nv lt)) ∧ Paired (RTr H') kvs' fd' ∧ Found S many fd' ∧
        keysF fd' = keysF fd ++ lt ∧ ∀ i' x, i' < i → now[i']? = some x → ∀ k, SpStep S many x k → x ||| 2 ^ k ∈ keysF fd')
      ⟨fd, kvs, [], x8, x9, x10, x11, rfl, s05.trans sL, sL _ _ hmk5, sL _ _ hus5, sL _ _ hd5, sL _ _ hnA5, upd_same, pmap prk5 fun _ _ r => RTr.keep (keepT_same sL) r, fnd, by simp, fun i' x hi' => absurd hi' (by omega)⟩
      (fun i σ H' _ ⟨_, _, _, _, _, _, _, _, _, _, _, _, h, _⟩ => SqL.of h) ?_ ?_
    · rintro i y σ _ H6 hi ⟨fd', kvs', lt, x8, x9, x10, x11, rfl, s6, hmk6, hus6, hd6, hnA6, hL6, prk6, fnd6, hkeys, hdone⟩ ⟨rfl, hy⟩
      obtain ⟨made, hmade, rfl⟩ := nv_at hy
      have hmk0 : made ∈ keysF fd := hnow made (List.mem_of_getElem? hmade)
      have hmlt : made < 2 ^ S.length := fnd.lt made hmk0
      refine ⟨_, rfl, mk, _, rfl, SqL.of hmk6, ?_⟩
      refine for_it (walk_enum (xs := nv (S.map mask))) (fun j σ H' => ∃ (fd' : Fd) (kvs' : List (Key × V)) (lt : List Nat) (x9 x10 x11 : Option V),
          σ = [some (.ref a), some (.int many), some (.ref mk), some (.ref us), some (.int (goal S : Nat)), some (.ref d), some (.ref nA'), some (.ref L), some (.int made), x9, x10, x11, none, none] ∧
          Same H H' ∧ H' mk = some (.lst (nv (S.map mask))) ∧ H' us = some (.lst (nv (usersL S))) ∧ H' d = some (.dK kvs') ∧ H' nA' = some (.lst (nv now)) ∧ H' L = some (.lst (nv lt)) ∧ Paired (RTr H') kvs' fd' ∧ Found S many fd' ∧
          keysF fd' = keysF fd ++ lt ∧ (∀ i' x, i' < i → now[i']? = some x → ∀ k, SpStep S many x k → x ||| 2 ^ k ∈ keysF fd') ∧ ∀ k, k < j → SpStep S many made k → made ||| 2 ^ k ∈ keysF fd')
        ⟨fd', kvs', lt, x9, x10, x11, rfl, s6, hmk6, hus6, hd6, hnA6, hL6, prk6, fnd6, hkeys, hdone, fun k hk => absurd hk (by omega)⟩
        (fun i σ H' _ ⟨_, _, _, _, _, _, _, _, h, _⟩ => SqL.of h) ?_ ?_
      · rintro j y σ H7 _ hj ⟨fd', kvs', lt, x9, x10, x11, rfl, s7, hmk7, hus7, hd7, hnA7, hL7, prk7, fnd7, hkeys7, hdone7, hdone7'⟩ ⟨T1, z1, z2, rfl, hT, rfl, hz1, hz2⟩
        cases hz1
        have hjS : j < S.length := by simpa using hj
        obtain ⟨msk, hmsk, rfl⟩ := nv_at (show (nv (S.map mask))[j]? = some z2 from hz2)
        have emsk : msk = mask (parts S j) := by
          rw [List.getElem?_map, get_parts hjS] at hmsk
          exact (Option.some.inj hmsk).symm
        subst emsk
        have st := same_new (o := .tup [.int (j : Nat), .int (mask (parts S j) : Nat)]) hT
        refine ⟨T1, _, rfl, SqT.of upd_same, rfl, _, _, rfl, _, _, rfl, rfl, ?_⟩
        generalize hH8 : upd H7 T1 (.tup [.int (j : Nat), .int (mask (parts S j) : Nat)]) = H8 at st
        have s8 := s7.trans st
        have hmk8 := st _ _ hmk7
        have hus8 := st _ _ hus7
        have hd8 := st _ _ hd7
        have hnA8 := st _ _ hnA7
        have hL8 := st _ _ hL7
        have prk8 := pmap prk7 fun _ _ r => RTr.keep (keepT_same st) r
        -- own = made | 1 << knot
        refine ⟨_, rfl, _, rfl, _, _, rfl, rfl, ⟨by omega, by omega, by decide⟩, _, _, rfl, rfl, ?_⟩
        have eown : Builtin.bitOr (made : Int) (1 * 2 ^ ((j : Nat) : Int).toNat) = ((made ||| 2 ^ j : Nat) : Int) := by
          rw [Int.one_mul, Int.toNat_natCast, show ((2 : Int) ^ j) = ((2 ^ j : Nat) : Int) by simp, bitOr_nat]
        simp only [eown]
        have hownlt := or_lt (S := S) hmlt hjS
        have hkl := Found.len fnd7
        -- the test
        refine tAnd_of (!decide (made ||| 2 ^ j ∈ keysF fd')) (decide (∀ x ∈ parts S j, made.testBit x = true) && decide ((kept S (made ||| 2 ^ j)).length ≤ many)) (fun Q' q => ?_) (fun _ H9 s9 Q' q => ?_) (fun H9 s9 => ?_)
        · refine ⟨_, rfl, _, rfl, d, _, rfl, DGet.k (k := Sum.inl ((made ||| 2 ^ j : Nat) : Int)) hd8, _, rfl, ?_⟩
          by_cases hg : made ||| 2 ^ j ∈ keysF fd'
          · obtain ⟨q0, hq0, e0⟩ := List.mem_map.mp hg
            obtain ⟨i0, hi0⟩ := List.mem_iff_getElem?.mp hq0
            obtain ⟨v0, hv0, _⟩ := trail_in prk8 fnd7.ok.nd (i := i0) (n := made ||| 2 ^ j) (q := q0.2) (by rw [hi0, ← e0])
            rw [hv0]
            rw [decide_eq_true hg] at q
            exact q _ (Same.refl _)
          · rw [trail_out prk8 hg]
            rw [decide_eq_false hg] at q
            exact q _ (Same.refl _)
        · refine tAnd_of (decide (∀ x ∈ parts S j, made.testBit x = true)) (decide ((kept S (made ||| 2 ^ j)).length ≤ many)) (fun Q' q => ?_) (fun _ H10 s10 Q' q => ?_) q
          · refine ⟨_, rfl, _, rfl, _, _, rfl, rfl, _, rfl, rfl, _, rfl, ?_⟩
            have e : decide (V.int (Builtin.bitAnd (made : Int) ((mask (parts S j) : Nat) : Int)) = V.int ((mask (parts S j) : Nat) : Int)) = decide (∀ x ∈ parts S j, made.testBit x = true) := by
              rw [bitAnd_nat, dec_int, Bool.eq_iff_iff, decide_eq_true_iff, ← and_mask_eq (ok.nd hjS) made, beq_iff_eq]
              omega
            rw [e]
            exact q _ (Same.refl _)
          · have hus10 := s10 _ _ (s9 _ _ hus8)
            refine ⟨_, rfl, _, rfl, usersL S, made ||| 2 ^ j, us, rfl, ?_, hus10, fun v' H11 s11 hv' => ?_⟩
            · simp [usersL]; omega
            rw [keptL_eq ok hownlt] at hv'
            obtain ⟨b, rfl, hb⟩ := hv'.of
            refine ⟨b, _, rfl, .inr (SqT.of hb), _, rfl, _, _, rfl, rfl, _, rfl, ?_⟩
            have e : decide ((((nv (kept S (made ||| 2 ^ j))).length : Nat) : Int) ≤ (many : Int)) = decide ((kept S (made ||| 2 ^ j)).length ≤ many) := by
              rw [nv_length, Bool.eq_iff_iff, decide_eq_true_iff, decide_eq_true_iff]
              omega
            rw [e]
            exact q _ s11
        have s09 := s8.trans s9
        have hmk9 := s9 _ _ hmk8
        have hus9 := s9 _ _ hus8
        have hd9 := s9 _ _ hd8
        have hnA9 := s9 _ _ hnA8
        have hL9 := s9 _ _ hL8
        have prk9 := pmap prk8 fun _ _ r => RTr.keep (keepT_same s9) r
        have hmade' : made ∈ keysF fd' := by rw [hkeys7]; exact List.mem_append_left _ hmk0
        refine ite2 (fun hc => ?_) (fun hc => ?_)
        · obtain ⟨hc1, hc23⟩ := Bool.and_eq_true_iff.mp hc
          obtain ⟨hc2, hc3⟩ := Bool.and_eq_true_iff.mp hc23
          have hnew : made ||| 2 ^ j ∉ keysF fd' := by simpa using hc1
          have hstep : SpStep S many made j := by
            refine ⟨hjS, ?_, of_decide_eq_true hc2, of_decide_eq_true hc3⟩
            cases q : made.testBit j with
            | false => rfl
            | true =>
              exfalso
              apply hnew
              have e : made ||| 2 ^ j = made := by
                apply Nat.eq_of_testBit_eq
                intro z
                rw [Nat.testBit_or, Nat.testBit_two_pow]
                by_cases hz : j = z
                · subst hz; simp [q]
                · simp [hz]
              rw [e]
              exact hmade'
          refine ⟨_, rfl, _, rfl, (by show 2 ≤ sizeLine; decide), fun t ht => ?_⟩
          have s10 := same_new (o := .tup [.int made, .int (j : Nat)]) ht
          generalize hH10 : upd H9 t (.tup [.int made, .int (j : Nat)]) = H10 at s10
          have ht10 : H10 t = some (.tup [.int made, .int (j : Nat)]) := by rw [← hH10, upd_same]
          have hd10 := s10 _ _ hd9
          have hL10 := s10 _ _ hL9
          have hkvl : kvs'.length = fd'.length := Paired.length prk9
          refine ⟨_, rfl, _, rfl, d, _, rfl, DPut.k (k := Sum.inl ((made ||| 2 ^ j : Nat) : Int)) hd10 (by show kvs'.length < 2 ^ 24; omega), ?_⟩
          have eput : putK kvs' (Sum.inl ((made ||| 2 ^ j : Nat) : Int) : Key) (V.ref t) = kvs' ++ [(Sum.inl ((made ||| 2 ^ j : Nat) : Int), V.ref t)] := putK_new _ (trail_out prk9 hnew)
          rw [eput]
          have k11 : KeepT H10 (upd H10 d (.dK (kvs' ++ [(Sum.inl ((made ||| 2 ^ j : Nat) : Int), V.ref t)]))) := keepT_dK hd10
          have hltl : lt.length ≤ 2 ^ S.length := by
            have h1 : (keysF fd').length = fd'.length := by simp [keysF]
            rw [hkeys7, List.length_append] at h1
            omega
          have hL11 : (upd H10 d (.dK (kvs' ++ [(Sum.inl ((made ||| 2 ^ j : Nat) : Int), V.ref t)]))) L = some (.lst (nv lt)) := by rw [upd_ne ndL.symm]; exact hL10
          refine ⟨_, rfl, .inl ⟨rfl, _, SqL.of hL11⟩, _, rfl, L, _, _, rfl, rfl, hL11, (by rw [nv_length]; show lt.length < 2 ^ 24; omega), ?_⟩
          have k12 := keepT_lst (o := .lst (nv lt ++ [.int ((made ||| 2 ^ j : Nat) : Int)])) hL11
          have f12 := Found.snoc fnd7 hmade' hnew hstep
          have hd0 : H d = none := same_none s12 hd
          refine ⟨fd' ++ [(made ||| 2 ^ j, some (made, j))], kvs' ++ [(Sum.inl ((made ||| 2 ^ j : Nat) : Int), V.ref t)], lt ++ [made ||| 2 ^ j], _, _, _, rfl, same_over (same_over (s09.trans s10) hd0) hL0, ?_, ?_, ?_, ?_, ?_, ?_, f12, ?_, ?_, ?_⟩
          · rw [upd_ne nmkL, upd_ne (ne_of hmk9 hd9 (by intro z; cases z))]; exact s10 _ _ hmk9
          · rw [upd_ne nusL, upd_ne (ne_of hus9 hd9 (by intro z; cases z))]; exact s10 _ _ hus9
          · rw [upd_ne ndL, upd_same]
          · rw [upd_ne nnAL, upd_ne (ne_of hnA9 hd9 (by intro z; cases z))]; exact s10 _ _ hnA9
          · rw [upd_same, ← nv_append]
            rfl
          · exact paired_append (pmap prk9 fun _ _ r => RTr.keep ((keepT_same s10).trans (k11.trans k12)) r) (.cons ⟨rfl, t, rfl, k12 _ _ (k11 _ _ ht10)⟩ .nil)
          · rw [keysF_snoc, hkeys7, List.append_assoc]
          · intro i' x hi' hx kk hs
            rw [keysF_snoc]
            exact List.mem_append_left _ (hdone7 i' x hi' hx kk hs)
          · intro kk hkk hs
            rw [keysF_snoc]
            rcases Nat.lt_succ_iff_lt_or_eq.mp hkk with h | rfl
            · exact List.mem_append_left _ (hdone7' kk h hs)
            · exact List.mem_append_right _ (by simp)
        · refine ⟨fd', kvs', lt, _, _, _, rfl, s09, hmk9, hus9, hd9, hnA9, hL9, prk9, fnd7, hkeys7, hdone7, fun kk hkk hs => ?_⟩
          rcases Nat.lt_succ_iff_lt_or_eq.mp hkk with h | rfl
          · exact hdone7' kk h hs
          · refine Classical.byContradiction fun hn => hc ?_
            rw [decide_eq_false hn, decide_eq_true hs.has, decide_eq_true hs.fits]
            rfl
      · rintro σ H7 ⟨fd', kvs', lt, x9, x10, x11, rfl, s7, hmk7, hus7, hd7, hnA7, hL7, prk7, fnd7, hkeys7, hdone7, hdone7'⟩
        refine ⟨fd', kvs', lt, _, _, _, _, rfl, s7, hmk7, hus7, hd7, hnA7, hL7, prk7, fnd7, hkeys7, fun i' x hi' hx kk hs => ?_⟩
        rcases Nat.lt_succ_iff_lt_or_eq.mp hi' with h | rfl
        · exact hdone7 i' x h hx kk hs
        · rw [hmade] at hx
          cases hx
          exact hdone7' kk (by simpa using hs.lt) hs
    · rintro σ H7 ⟨fd', kvs', lt, x8, x9, x10, x11, rfl, s7, hmk7, hus7, hd7, hnA7, hL7, prk7, fnd7, hkeys7, hdone7⟩
      -- now = later
      refine ⟨_, rfl, ?_⟩
      have hl1 : fd'.length = fd.length + lt.length := by
        have h1 : (keysF fd').length = fd'.length := by simp [keysF]
        have h2 : (keysF fd).length = fd.length := by simp [keysF]
        rw [hkeys7, List.length_append] at h1
        omega
      have hkl := Found.len fnd7
      refine ⟨_, ?_, fd', kvs', lt, L, _, _, _, _, _, rfl, rfl, s7, hmk7, hus7, hd7, hL7, prk7, fnd7, fun x hx => by rw [hkeys7]; exact List.mem_append_right _ hx, fun x hx hnx kk hs => ?_⟩
      · rw [if_neg hne]
        by_cases hlt0 : lt = []
        · subst hlt0
          simp at hl1
          rw [if_pos rfl, hl1]
          omega
        · rw [if_neg hlt0]
          have : 0 < lt.length := List.length_pos_iff.mpr hlt0
          omega
      · rw [hkeys7] at hx
        rcases List.mem_append.mp hx with h | h
        · by_cases hxn : x ∈ now
          · obtain ⟨i', hi'⟩ := List.mem_iff_getElem?.mp hxn
            exact hdone7 i' x (by rw [nv_length]; exact (List.getElem?_eq_some_iff.mp hi').1) hi' kk hs
          · rw [hkeys7]
            exact List.mem_append_left _ (hclo x h hxn kk hs)
        · exact absurd h hnx
  · -- the loop's end
    refine ⟨_, rfl, _, rfl, d, _, rfl, DGet.k (k := Sum.inl ((goal S : Nat) : Int)) hd5, _, rfl, ?_⟩
    by_cases hg : goal S ∈ keysF fd
    · obtain ⟨q0, hq0, e0⟩ := List.mem_map.mp hg
      obtain ⟨i0, hi0⟩ := List.mem_iff_getElem?.mp hq0
      obtain ⟨v0, hv0, _⟩ := trail_in prk5 fnd.ok.nd (i := i0) (n := goal S) (q := q0.2) (by rw [hi0, ← e0])
      rw [hv0]
      refine iteF ?_
      refine ⟨Nat.zero_le _, fun wA hwA => ?_⟩
      refine ⟨_, rfl, _, _, rfl, ?_⟩
      have sW := same_new (o := .lst []) hwA
      have hwA0 : H wA = none := same_none s05 hwA
      refine ⟨fun m σ H' => ∃ (i made : Nat) (o : Option (Nat × Nat)) (ys : List V) (wayR : List (Nat × List Nat)) (x7 x9 x10 x11 x13 : Option V), m = i ∧
          σ = [some (.ref a), some (.int many), some (.ref mk), some (.ref us), some (.int (goal S : Nat)), some (.ref d), some (.ref nA'), x7, some (.int made), x9, x10, x11, some (.ref wA), x13] ∧
          Same H H' ∧ H' us = some (.lst (nv (usersL S))) ∧ H' d = some (.dK kvs) ∧ Paired (RTr H') kvs fd ∧ H' wA = some (.lst ys) ∧ Paired (RW H') ys wayR ∧ fd[i]? = some (made, o) ∧ wayR.length + i ≤ fd.length ∧
          ∀ w0, WayTo S many made w0 → WayTo S many (goal S) (w0 ++ wayR.reverse),
        ⟨i0, i0, goal S, q0.2, [], [], _, _, _, _, _, rfl, rfl, s05.trans sW, sW _ _ hus5, sW _ _ hd5, pmap prk5 fun _ _ r => RTr.keep (keepT_same sW) r, upd_same, .nil, by rw [hi0, ← e0], by have := (List.getElem?_eq_some_iff.mp hi0).1; simp; omega, fun w0 hw => by simpa using hw⟩, ?_⟩
      rintro m σ H6 ⟨i, made, o, ys, wayR, x7, x9, x10, x11, x13, rfl, rfl, s6, hus6, hd6, prk6, hw6, prw6, hfi, hwl, hway⟩
      refine ⟨_, rfl, rfl, _, rfl, ?_⟩
      have ylen : ys.length = wayR.length := Paired.length prw6
      refine ite2 (fun hc => ?_) (fun hc => ?_)
      · have hm0 : made ≠ 0 := by
          intro e
          subst e
          simp at hc
        cases o with
        | none =>
          have hi := fnd.ok.none m made hfi
          subst hi
          rw [fnd.ok.first] at hfi
          cases hfi
          exact absurd rfl hm0
        | some ak =>
          obtain ⟨ah, kn⟩ := ak
          obtain ⟨⟨hst, hmade⟩, j, oj, hji, hfj⟩ := fnd.ok.back m made ah kn hfi
          obtain ⟨v6, hv6, t6, rfl, ht6⟩ := trail_in prk6 fnd.ok.nd hfi
          refine ⟨_, fun _ _ h => h, ?_⟩
          refine ⟨_, rfl, _, rfl, d, .ref t6, rfl, hv6 ▸ DGet.k (k := Sum.inl ((made : Nat) : Int)) hd6, t6, _, rfl, SqT.of ht6, rfl, _, _, rfl, _, _, rfl, rfl, ?_⟩
          have hmlt : made < 2 ^ S.length := fnd.lt made (List.mem_map.mpr ⟨_, List.mem_of_getElem? hfi, rfl⟩)
          refine ⟨_, rfl, .inl ⟨rfl, _, SqL.of hw6⟩, _, rfl, _, rfl, _, rfl, usersL S, made, us, rfl, (by simp [usersL]; omega), hus6, fun v' H7 s7 hv' => ?_⟩
          rw [keptL_eq ok hmlt] at hv'
          refine ⟨(by show 2 ≤ sizeLine; decide), fun t ht => ?_⟩
          have s8 := same_new (o := .tup [.int (kn : Nat), v']) ht
          generalize hH8 : upd H7 t (.tup [.int (kn : Nat), v']) = H8 at s8
          have ht8 : H8 t = some (.tup [.int (kn : Nat), v']) := by rw [← hH8, upd_same]
          have hw8 := s8 _ _ (s7 _ _ hw6)
          have s678 := (s6.trans s7).trans s8
          refine ⟨wA, _, _, rfl, rfl, hw8, (by show ys.length < 2 ^ 24; have := (List.getElem?_eq_some_iff.mp hfi).1; omega), ?_⟩
          have k9 := keepT_lst (o := .lst (ys ++ [.ref t])) hw8
          refine ⟨_, rfl, ?_⟩
          have hus8 := s8 _ _ (s7 _ _ hus6)
          have hd8 := s8 _ _ (s7 _ _ hd6)
          refine ⟨j, hji, j, ah, oj, ys ++ [.ref t], wayR ++ [(kn, kept S made)], _, _, _, _, _, rfl, rfl, same_over s678 hwA0, ?_, ?_, ?_, upd_same, ?_, hfj, ?_, ?_⟩
          · have nusW : us ≠ wA := ne_of_none hus5 hwA
            rw [upd_ne nusW]
            exact hus8
          · have ndW : d ≠ wA := ne_of_none hd5 hwA
            rw [upd_ne ndW]
            exact hd8
          · exact pmap prk6 fun _ _ r => RTr.keep ((keepT_same (s7.trans s8)).trans k9) r
          · refine paired_append (pmap prw6 fun _ _ r => monoT_RW _ _ _ _ ((keepT_same (s7.trans s8)).trans k9) r) (.cons ⟨t, v', rfl, k9 _ _ ht8, monoT_TN _ _ _ _ ((keepT_same s8).trans k9) hv'⟩ .nil)
          · rw [List.length_append, List.length_singleton]
            omega
          · intro w0 h0
            have h1 := WayTo.snoc h0 hst
            rw [← hmade] at h1
            have h2 := hway _ h1
            rw [List.reverse_append]
            simpa using h2
      · have hm0 : made = 0 := by
          refine Classical.byContradiction fun hn => hc ?_
          have : decide (V.int (made : Int) = V.int 0) = false := by
            rw [dec_int, beq_eq_false_iff_ne]
            omega
          rw [this]
          rfl
        subst hm0
        refine ⟨_, rfl, wA, _, rfl, SqL.of hw6, fun p hp => ?_⟩
        have s7 := same_new (o := .lst ys.reverse) hp
        exact kS p _ ys.reverse wayR.reverse (same_none s6 hp) (s6.trans s7) upd_same (paired_reverse (pmap prw6 fun _ _ r => monoT_RW _ _ _ _ (keepT_same s7) r)) (by simpa using hway [] .nil)
    · rw [trail_out prk5 hg]
      refine iteT ?_
      refine kN _ s05 ?_
      rintro ⟨way, hway⟩
      have hnow0 : now = [] := by
        refine Classical.byContradiction fun hn => hb ?_
        have : 0 < now.length := List.length_pos_iff.mpr hn
        rw [decide_eq_false hg, decide_eq_true (by rw [nv_length]; omega)]
        rfl
      subst hnow0
      exact hg (closed_all fnd (fun x hx kk hs => hclo x hx (by simp) kk hs) hway)
end
end K27
set_option Elab.async false
set_option linter.all false
set_option maxRecDepth 100000
set_option maxHeartbeats 8000000
namespace K27
open PySem PySem.Spec PyProof.Rows L2
abbrev stepW (S : List (List Nat)) (many : Nat) : Nat → Nat → Nat → Prop := fun a k m => WStep S many a k m
structure FoundW (S : List (List Nat)) (many : Nat) (fd : Fd) : Prop where
  ok : TrailOk (stepW S many) fd
  lot : ∀ m ∈ keysF fd, Lot S many m
theorem FoundW.lt {S : List (List Nat)} {many : Nat} {fd : Fd} (f : FoundW S many fd) : ∀ m ∈ keysF fd, m < 2 ^ S.length := fun m hm => (f.lot m hm).lt
theorem FoundW.len {S : List (List Nat)} {many : Nat} {fd : Fd} (f : FoundW S many fd) : fd.length ≤ 2 ^ S.length := by
  have := nodup_le f.ok.nd f.lt
  simpa [keysF] using this
theorem FoundW.snoc {S : List (List Nat)} {many : Nat} {fd : Fd} (f : FoundW S many fd) {a k m : Nat} (ha : a ∈ keysF fd) (hn : m ∉ keysF fd) (hs : WStep S many a k m) : FoundW S many (fd ++ [(m, some (a, k))]) where
  ok := f.ok.snoc hn ha hs
  lot := fun x hx => by
    rw [keysF_snoc] at hx
    rcases List.mem_append.mp hx with h | h
    · exact f.lot x h
    · rw [List.mem_singleton.mp h]
      exact .step (f.lot a ha) hs
theorem lots_all {S : List (List Nat)} {many : Nat} {fd : Fd} (f : FoundW S many fd) (hc : ∀ m ∈ keysF fd, ∀ k m', WStep S many m k m' → m' ∈ keysF fd) {m : Nat} (h : Lot S many m) : m ∈ keysF fd := by
  induction h with
  | zero => exact f.ok.zero
  | step _ s ih => exact hc _ ih _ _ s
/-- what lots_behind tells are the steps by this knot -/
theorem behind_step {S : List (List Nat)} {many m k m' : Nat} (hm : m < 2 ^ S.length) (hk : k < S.length) (hn : m.testBit k = false) (hh : ∀ x ∈ parts S k, m.testBit x = true) :
    m' ∈ behind m k S.length (decide ((bitsOf m S.length).length = many)) ↔ WStep S many m k m' := by
  unfold behind
  by_cases hc : (bitsOf m S.length).length = many
  · rw [decide_eq_true hc, if_pos rfl, List.mem_map]
    constructor
    · rintro ⟨g, hg, rfl⟩
      exact ⟨hk, hn, hh, .inl ⟨hc, g, (List.mem_filter.mp hg).2, rfl⟩⟩
    · intro h
      rcases h.to with ⟨_, g, hg, rfl⟩ | ⟨hc', _⟩
      · exact ⟨g, List.mem_filter.mpr ⟨List.mem_range.mpr (bits_lt hm hg), hg⟩, rfl⟩
      · exact absurd hc hc'
  · rw [decide_eq_false hc, if_neg Bool.false_ne_true, List.mem_singleton]
    constructor
    · rintro rfl
      exact ⟨hk, hn, hh, .inr ⟨hc, rfl⟩⟩
    · intro h
      rcases h.to with ⟨hc', _⟩ | ⟨_, rfl⟩
      · exact absurd hc' hc
      · rfl
theorem behind_nodup (m k n : Nat) (full : Bool) : (behind m k n full).Nodup := by
  unfold behind
  cases full with
  | false => simp
  | true =>
    rw [if_pos rfl]
    unfold bitsOf
    rw [List.nodup_iff_pairwise_ne, List.pairwise_map, List.pairwise_filter]
    refine List.nodup_range.imp_of_mem ?_
    intro a b ha hb hab h1 h2 e
    have g1 := Nat.ge_two_pow_of_testBit h1
    have g2 := Nat.ge_two_pow_of_testBit h2
    exact hab (pow_inj (by omega))
theorem wstep_has {S : List (List Nat)} {many m k m' : Nat} (h : WStep S many m k m') : m'.testBit k = true := by
  rcases h.to with ⟨_, g, hg, rfl⟩ | ⟨_, rfl⟩
  · have hf : (m - 2 ^ g).testBit k = false := by rw [testBit_sub_pow hg, h.new]; rfl
    rw [testBit_add_pow hf]; simp
  · rw [testBit_add_pow h.new]; simp
theorem atI_neg1 {xs : List V} {v : V} (h : xs[xs.length - 1]? = some v) : atI xs (-1) = some v := by
  have hl := (List.getElem?_eq_some_iff.mp h).1
  unfold atI ixN
  rw [if_neg (by decide), if_pos (by omega)]
  have e : ((-1 : Int) + (xs.length : Int)).toNat = xs.length - 1 := by omega
  rw [e]
  exact h
theorem rIx_last {K : PySem.W.Frag} {H : Hp} {a : Addr} {vs : List V} (h : H a = some (.lst vs)) {v : V} {Q : VK} (hv : vs[vs.length - 1]? = some v) (q : Q v H) : rIx K (.ref a) (.int (-1)) H Q :=
  .inl ⟨a, vs, _, v, rfl, rfl, SqL.of h, atI_neg1 hv, q⟩
section
variable {P : Program} {w : World} {K : PySem.W.Frag} {mg : Str → Option Value} {base : Heap}
/-- slots: 0=shape 1=many 2=masks 3=bits 4=knot 5=found 6=now 7=size 8=later 9=lot 10=bit 11=fresh 12=own; cells: found -/
theorem sc_gone_through : FnScope ["shape", "many", "masks", "bits", "knot", "found", "now", "size", "later", "lot", "bit", "fresh", "own"] ["shape", "many"] (defScope st_gone_through) := ⟨rfl, rfl, rfl, by decide +kernel, rfl, by decide +kernel, by decide +kernel⟩
def sp_gone_through : Sp := fun vs H Q _ => ∃ (v : V) (S : List (List Nat)) (many : Nat), vs = [v, .int many] ∧ TS' H v S ∧ ShOk S ∧ 1 ≤ many ∧
  ∀ d H' kvs fd, H d = none → Same H H' → H' d = some (.dK kvs) → Paired (RTr H') kvs fd → FoundW S many fd → ((∃ m ∈ keysF fd, m.testBit (S.length - 1) = true) ∨ ∀ m ∈ keysF fd, ∀ k m', WStep S many m k m' → m' ∈ keysF fd) → Q (.ref d) H'
theorem got_gone_through (T : Txt K mg) : Got P w K mg base 2 "gone_through" ["shape", "many"] sp_gone_through := by
  refine got_of T.d_gone_through sc_gone_through (fun F => (FunD.bindsN F fun _ _ _ _ _ _ us hl => match us, hl with | [_, _], _ => rfl)) (fun vs H Q E h => ?_) (fun f cdv A outer s H vs Q E hr h => ?_)
  · obtain ⟨v, S, m, rfl, _⟩ := h; rfl
  obtain ⟨v, S, many, rfl, hv, ok, hmany, kk⟩ := h
  have hu := hu_of hr
  have few := ok.few
  have pos := ok.pos
  have p256 : 2 ^ S.length ≤ 256 := Nat.pow_le_pow_right (by omega) few
  obtain ⟨_, _, m_masks_of, G_masks_of, k_masks_of, b_masks_of⟩ := (got_masks_of (P := P) (w := w) (base := base) T).ex
  obtain ⟨_, _, m_lots_behind, G_lots_behind, k_lots_behind, b_lots_behind⟩ := (got_lots_behind (P := P) (w := w) (base := base) T).ex
  refine ⟨_, (pss_cons (ps_par (i := 2) (j := 3) (by rfl) sc_gone_through.nd rfl rfl (by decide) rfl rfl (pa_cons (pe_call G_masks_of (hr.mono (by first | decide | omega)) rfl m_masks_of k_masks_of b_masks_of .nil pass0 (pa_cons (pv 0) pa_nil)) (pa_cons (pe_lc (own := [("knot", 4)]) (g := (gName 4)) (tt := tYes) rfl sc_gone_through.nd (pi_range1 (by rfl) T.z_range (pa_cons (pe_callB (r := rLenS K) call_len_seq (by rfl) T.z_len (by decide +kernel) (pa_cons (pv 0) pa_nil)) pa_nil)) (blkOk_by (N := ["shape", "many", "masks", "bits", "knot", "found", "now", "size", "later", "lot", "bit", "fresh", "own"]) (sc := (defScope st_gone_through)) (by decide +kernel)) (fun _ _ _ _ _ => (pg_name (i := 4) sc_gone_through.nd rfl (Or.inl rfl))) (fun _ _ _ _ _ => pts_nil) (fun _ _ _ _ _ => (pe_op op_shl pe_int (pv 4)))) pa_nil)) (by rfl))
      (pss_cons (ps_asg (pe_tup (pa_cons (pe_disp (pps_cons pe_int pe_non pps_nil) (by rfl) (by rfl) (fun z => by cases z) (by decide)) (pa_cons (pe_lst (pa_cons pe_int pa_nil)) (pa_cons pe_int pa_nil)))) (pg_tup rfl (pgs_cons (pg_name (i := 5) sc_gone_through.nd rfl (Or.inr rfl)) (pgs_cons (pg_name (i := 6) sc_gone_through.nd rfl (Or.inl rfl)) (pgs_cons (pg_name (i := 7) sc_gone_through.nd rfl (Or.inl rfl)) pgs_nil)))))
      (pss_cons (ps_while PassesOwn.never (pt_cmpR op_gt (pe_callB (r := rLenS K) call_len_seq (by rfl) T.z_len (by decide +kernel) (pa_cons (pv 6) pa_nil)) pe_int (nomark _)) (pss_cons (ps_set (i := 8) sc_gone_through.nd rfl (Or.inl rfl) (pe_lst pa_nil))
      (pss_cons (ps_for PassesOwn.never rfl (pi_list (pv 6)) (pg_name (i := 9) sc_gone_through.nd rfl (Or.inl rfl)) (pss_one (ps_for PassesOwn.never rfl (pi_enum (by rfl) T.z_enumerate (pa_cons (pv 3) pa_nil)) (pg_tup rfl (pgs_cons (pg_name (i := 4) sc_gone_through.nd rfl (Or.inl rfl)) (pgs_cons (pg_name (i := 10) sc_gone_through.nd rfl (Or.inl rfl)) pgs_nil))) (pss_one (ps_if (PW.pt (pw_and (pt_cmpR op_eq (pe_op op_and (pv 9) (pv 10)) pe_int (nomark _)) (pw_and1 (pt_cmpR op_eq (pe_op op_and (pv 9) (pe_ix (r := rIx K) ix_seq (pv 2) (pv 4) (fun _ _ => rfl))) (pe_ix (r := rIx K) ix_seq (pv 2) (pv 4) (fun _ _ => rfl)) (nomark _))))) (pss_cons (ps_setLc (i := 11) (own := [("own", 12)]) (g := (gName 12)) (wi := iList K _) rfl sc_gone_through.nd rfl rfl (sw_true rfl rfl rfl (by decide +kernel)) (pi_list (pe_call G_lots_behind (hr.mono (by first | decide | omega)) rfl m_lots_behind k_lots_behind b_lots_behind .nil pass0 (pa_cons (pv 9) (pa_cons (pv 10) (pa_cons (pv 3) (pa_cons (pe_cmpR op_eq (pv 7) (pv 1) (nomark _)) pa_nil)))))) (blkOk_by (N := ["shape", "many", "masks", "bits", "knot", "found", "now", "size", "later", "lot", "bit", "fresh", "own"]) (sc := (defScope st_gone_through)) (by decide +kernel)) (fun _ _ _ _ _ => (pg_name (i := 12) sc_gone_through.nd rfl (Or.inl rfl))) (fun _ _ _ _ _ => (pts_one (pt_cmp (pc_dnotin hu (pv 12) (pv 5))))) (fun _ _ _ _ _ => (pv 12)))
      (pss_cons (ps_for PassesOwn.never rfl (pi_list (pv 11)) (pg_name (i := 12) sc_gone_through.nd rfl (Or.inl rfl)) (pss_one (ps_dput hu (pv 5) (pv 12) (pe_tup (pa_cons (pv 9) (pa_cons (pv 4) pa_nil))) rfl)))
      (pss_cons (ps_expr (pe_bm PySem.F.plainAttrs_list PySem.F.slot_list_extend PySem.F.type_list_extend mt_extend (pv 8) (pa_cons (pv 11) pa_nil)))
      (pss_one (ps_if (PW.pt (pw_and (pt_cmpR op_gt (pe_callB (r := rLenS K) call_len_seq (by rfl) T.z_len (by decide +kernel) (pa_cons (pv 11) pa_nil)) pe_int (nomark _)) (pw_and1 (pt_cmpR op_eq (pv 10) (pe_ix (r := rIx K) ix_seq (pv 3) (pe_un un_neg pe_int) (fun _ _ => rfl)) (nomark _))))) (pss_one (ps_ret (pv 5))) pss_nil))))) pss_nil)))))
      (pss_one (ps_par (i := 6) (j := 7) (by rfl) sc_gone_through.nd rfl rfl (by decide) rfl rfl (pa_cons (pv 8) (pa_cons (pe_callB (call_min2 rfl) (by rfl) T.z_min (by decide +kernel) (pa_cons (pe_op op_add (pv 7) pe_int) (pa_cons (pv 1) pa_nil))) pa_nil)) (by rfl))))))
      (pss_one (ps_ret (pv 5)))))), ?_⟩
  have hml : ∀ own ∈ S, own.length ≤ 1000 ∧ ∀ x ∈ own, x < 64 := fun own ho => by
    obtain ⟨i, hi⟩ := List.mem_iff_getElem?.mp ho
    have hiS := (List.getElem?_eq_some_iff.mp hi).1
    have e := parts_get hi
    have nd := ok.nd hiS
    have hl := fun x (hx : x ∈ parts S i) => ok.lt hiS hx
    rw [e] at nd hl
    have := nodup_le nd hl
    exact ⟨by omega, fun x hx => by have := hl x hx; omega⟩
  obtain ⟨a, vs0, rfl, ha, pr⟩ := id hv
  have ha : H a = some (.tup vs0) := ha
  have hlv : vs0.length = S.length := Paired.length pr
  -- masks, bits
  refine ⟨_, rfl, _, S, rfl, hv, by omega, hml, fun mk H1 nmk s1 hmk => ?_⟩
  refine ⟨_, rfl, a, _, rfl, .inr (SqT.of (s1 _ _ ha)), _, rfl, by omega, by omega, fun bt hbt => ?_⟩
  refine lc_rel walk_range RN monoT_RN (fun _ => true) (fun i => 2 ^ i) hbt (by simp; omega) (fun H' s => trivial) ?_ ?_
  · rintro i y _ H2 hi s2 ⟨rfl, rfl⟩ K1 K2 h1 h2
    refine ⟨rfl, tyes_ok (iteT ?_)⟩
    refine ⟨_, rfl, _, _, rfl, rfl, ⟨by omega, by omega, by decide⟩, h1 rfl _ _ (Same.refl _) ?_⟩
    show V.int (1 * 2 ^ (0 + (i : Int)).toNat) = V.int ((2 ^ i : Nat) : Int)
    rw [Int.one_mul, Int.zero_add, Int.toNat_natCast]
    simp
  intro H2 ys s2 hy py
  have e := paired_nv py
  rw [hlv, Int.toNat_natCast, range_nf, show (List.range S.length).map (fun i => 2 ^ i) = pows S.length from rfl] at e
  rw [e] at hy
  have s12 := s1.trans s2
  have hmk2 := s2 _ _ hmk
  refine ⟨_, _, rfl, ?_⟩
  -- found, now, size
  intro d hd
  refine ⟨upd_same, [(Sum.inl 0, .non)], rfl, (by decide), ?_⟩
  rw [upd_upd]
  have ekv : mergeK [] [((Sum.inl 0 : Key), V.non)] = [((Sum.inl 0 : Key), V.non)] := by decide +kernel
  rw [ekv]
  have s3 : Same H (upd H2 d (.dK [(Sum.inl 0, .non)])) := s12.trans (same_new hd)
  have hd0 : H d = none := same_none s12 hd
  refine ⟨(by show 1 ≤ sizeLine; decide), fun nA hnA => ?_⟩
  have s4 := s3.trans (same_new (o := .lst [.int 0]) hnA)
  refine ⟨(by show 3 ≤ sizeLine; decide), fun tt ht => ?_⟩
  refine ⟨tt, _, rfl, SqT.of upd_same, rfl, _, _, rfl, _, _, rfl, _, _, rfl, rfl, ?_⟩
  have s5 := s4.trans (same_new (o := .tup [.ref d, .ref nA, .int 0]) ht)
  generalize hH3 : upd (upd (upd H2 d (.dK [(Sum.inl 0, .non)])) nA (.lst [.int 0])) tt (.tup [.ref d, .ref nA, .int 0]) = H3 at s5
  have sH3 : Same H2 H3 := by rw [← hH3]; exact ((same_new hd).trans (same_new hnA)).trans (same_new ht)
  have hd3 : H3 d = some (.dK [(Sum.inl 0, .non)]) := by rw [← hH3]; exact same_new ht _ _ (same_new hnA _ _ upd_same)
  have hmk3 : H3 mk = some (.lst (nv (S.map mask))) := sH3 _ _ hmk2
  have hbt3 : H3 bt = some (.lst (nv (pows S.length))) := sH3 _ _ hy
  have hnA3 : H3 nA = some (.lst (nv [0])) := by rw [← hH3]; exact same_new ht _ _ upd_same
  have mul0 : ∀ n, (pows n).length = n := fun n => by simp [pows]
  -- the while
  refine ⟨fun m σ H' => ∃ (fd : Fd) (kvs : List (Key × V)) (now : List Nat) (size : Nat) (nA : Addr) (x4 x8 x9 x10 x11 x12 : Option V), m = 2 * (2 ^ S.length - fd.length) + (if now = [] then 0 else 1) ∧
      σ = [some (.ref a), some (.int many), some (.ref mk), some (.ref bt), x4, some (.ref d), some (.ref nA), some (.int size), x8, x9, x10, x11, x12] ∧
      Same H H' ∧ H' mk = some (.lst (nv (S.map mask))) ∧ H' bt = some (.lst (nv (pows S.length))) ∧ H' d = some (.dK kvs) ∧ H' nA = some (.lst (nv now)) ∧ Paired (RTr H') kvs fd ∧ FoundW S many fd ∧
      size ≤ many ∧ (∀ x ∈ now, x ∈ keysF fd ∧ (bitsOf x S.length).length = size) ∧ (∀ x ∈ keysF fd, x ∉ now → ∀ k m', WStep S many x k m' → m' ∈ keysF fd),
    ⟨_, [(0, none)], _, [0], 0, nA, none, none, none, none, none, none, rfl, rfl, s5, hmk3, hbt3, hd3, hnA3, .cons ⟨rfl, rfl⟩ .nil, ⟨TrailOk.start _, fun m hm => by simp [keysF] at hm; subst hm; exact .zero⟩, Nat.zero_le _,
      fun x hx => by simp at hx; subst hx; exact ⟨by simp [keysF], by rw [bits_zero]; rfl⟩, fun x hx hn => absurd (by simpa [keysF] using hx) hn⟩, ?_⟩
  rintro m σ H4 ⟨fd, kvs, now, size, nA', x4, x8, x9, x10, x11, x12, rfl, rfl, s4, hmk4, hbt4, hd4, hnA4, prk, fnd, hsize, hnow, hclo⟩
  have hlen4 := fnd.len
  refine ⟨_, rfl, nA', _, rfl, .inl (SqL.of hnA4), _, _, rfl, rfl, _, rfl, ?_⟩
  refine ite2 (fun hb => ?_) (fun hb => ?_)
  · -- a turn
    have hne : now ≠ [] := by
      intro e
      subst e
      simp at hb
    refine ⟨_, fun _ _ h => h, ?_⟩
    refine ⟨Nat.zero_le _, fun L hL => ?_⟩
    have nmkL : mk ≠ L := ne_of_none hmk4 hL
    have nbtL : bt ≠ L := ne_of_none hbt4 hL
    have ndL : d ≠ L := ne_of_none hd4 hL
    have nnAL : nA' ≠ L := ne_of_none hnA4 hL
    have hL0 : H L = none := same_none s4 hL
    have sL := same_new (o := .lst []) hL
    refine ⟨_, rfl, nA', rfl, ⟨_, SqL.of (sL _ _ hnA4)⟩, ?_⟩
    refine for_it (walk_list (xs := nv now)) (fun i σ H' => ∃ (fd' : Fd) (kvs' : List (Key × V)) (lt : List Nat) (x4 x9 x10 x11 x12 : Option V),
        σ = [some (.ref a), some (.int many), some (.ref mk), some (.ref bt), x4, some (.ref d), some (.ref nA'), some (.int size), some (.ref L), x9, x10, x11, x12] ∧
        Same H H' ∧ H' mk = some (.lst (nv (S.map mask))) ∧ H' bt = some (.lst (nv (pows S.length))) ∧ H' d = some (.dK kvs') ∧ H' nA' = some (.lst (nv now)) ∧ H' L = some (.lst (nv lt)) ∧ Paired (RTr H') kvs' fd' ∧ FoundW S many fd' ∧
        keysF fd' = keysF fd ++ lt ∧ (∀ x ∈ lt, (bitsOf x S.length).length = if size = many then many else size + 1) ∧ ∀ i' x, i' < i → now[i']? = some x → ∀ k m', WStep S many x k m' → m' ∈ keysF fd')
      ⟨fd, kvs, [], x4, x9, x10, x11, x12, rfl, s4.trans sL, sL _ _ hmk4, sL _ _ hbt4, sL _ _ hd4, sL _ _ hnA4, upd_same, pmap prk fun _ _ r => RTr.keep (keepT_same sL) r, fnd, by simp, by simp, fun i' x hi' => absurd hi' (by omega)⟩
      (fun i σ H' _ ⟨_, _, _, _, _, _, _, _, _, _, _, _, _, h, _⟩ => SqL.of h) ?_ ?_
    · rintro i y σ _ H6 hi ⟨fd', kvs', lt, x4, x9, x10, x11, x12, rfl, s6, hmk6, hbt6, hd6, hnA6, hL6, prk6, fnd6, hkeys, hcard, hdone⟩ ⟨rfl, hy⟩
      obtain ⟨lot, hlot, rfl⟩ := nv_at hy
      obtain ⟨hlk0, hlcard⟩ := hnow lot (List.mem_of_getElem? hlot)
      have hlotlt : lot < 2 ^ S.length := fnd.lt lot hlk0
      refine ⟨_, rfl, bt, _, rfl, SqL.of hbt6, ?_⟩
      refine for_it (walk_enum (xs := nv (pows S.length))) (fun j σ H' => ∃ (fd' : Fd) (kvs' : List (Key × V)) (lt : List Nat) (x4 x10 x11 x12 : Option V),
          σ = [some (.ref a), some (.int many), some (.ref mk), some (.ref bt), x4, some (.ref d), some (.ref nA'), some (.int size), some (.ref L), some (.int lot), x10, x11, x12] ∧
          Same H H' ∧ H' mk = some (.lst (nv (S.map mask))) ∧ H' bt = some (.lst (nv (pows S.length))) ∧ H' d = some (.dK kvs') ∧ H' nA' = some (.lst (nv now)) ∧ H' L = some (.lst (nv lt)) ∧ Paired (RTr H') kvs' fd' ∧ FoundW S many fd' ∧
          keysF fd' = keysF fd ++ lt ∧ (∀ x ∈ lt, (bitsOf x S.length).length = if size = many then many else size + 1) ∧ (∀ i' x, i' < i → now[i']? = some x → ∀ k m', WStep S many x k m' → m' ∈ keysF fd') ∧
          ∀ k m', k < j → WStep S many lot k m' → m' ∈ keysF fd')
        ⟨fd', kvs', lt, x4, x10, x11, x12, rfl, s6, hmk6, hbt6, hd6, hnA6, hL6, prk6, fnd6, hkeys, hcard, hdone, fun k m' hk => absurd hk (by omega)⟩
        (fun i σ H' _ ⟨_, _, _, _, _, _, _, _, _, _, h, _⟩ => SqL.of h) ?_ ?_
      · rintro j y σ H7 _ hj ⟨fd', kvs', lt, x4, x10, x11, x12, rfl, s7, hmk7, hbt7, hd7, hnA7, hL7, prk7, fnd7, hkeys7, hcard7, hdone7, hdone7'⟩ ⟨T1, z1, z2, rfl, hT, rfl, hz1, hz2⟩
        cases hz1
        have hjS : j < S.length := by rw [nv_length, mul0] at hj; exact hj
        obtain ⟨bit, hbit, rfl⟩ := nv_at (show (nv (pows S.length))[j]? = some z2 from hz2)
        have ebit : bit = 2 ^ j := by
          unfold pows at hbit
          rw [List.getElem?_map, List.getElem?_range hjS] at hbit
          exact (Option.some.inj hbit).symm
        subst ebit
        have st := same_new (o := .tup [.int (j : Nat), .int (2 ^ j : Nat)]) hT
        refine ⟨T1, _, rfl, SqT.of upd_same, rfl, _, _, rfl, _, _, rfl, rfl, ?_⟩
        generalize hH8 : upd H7 T1 (.tup [.int (j : Nat), .int (2 ^ j : Nat)]) = H8 at st
        have s8 := s7.trans st
        have hmk8 := st _ _ hmk7
        have hbt8 := st _ _ hbt7
        have hd8 := st _ _ hd7
        have hnA8 := st _ _ hnA7
        have hL8 := st _ _ hL7
        have prk8 := pmap prk7 fun _ _ r => RTr.keep (keepT_same st) r
        have hkl := FoundW.len fnd7
        have hlk7 : lot ∈ keysF fd' := by rw [hkeys7]; exact List.mem_append_left _ hlk0
        have hltl : lt.length ≤ 2 ^ S.length := by
          have h1 : (keysF fd').length = fd'.length := by simp [keysF]
          rw [hkeys7, List.length_append] at h1
          omega
        have gmask : (nv (S.map mask))[j]? = some (.int (mask (parts S j) : Nat)) := nv_get (by rw [List.getElem?_map, get_parts hjS]; rfl)
        -- the test
        refine tAnd_of (!lot.testBit j) (decide (∀ x ∈ parts S j, lot.testBit x = true)) (fun Q' q => ?_) (fun _ H9 s9 Q' q => ?_) (fun H9 s9 => ?_)
        · refine ⟨_, rfl, _, rfl, _, _, rfl, rfl, rfl, _, rfl, ?_⟩
          have e : decide (V.int (Builtin.bitAnd (lot : Int) ((2 ^ j : Nat) : Int)) = V.int 0) = !lot.testBit j := by
            rw [bitAnd_nat, dec_int, Bool.eq_iff_iff, beq_iff_eq, Bool.not_eq_true', ← and_pow_eq]
            omega
          rw [e]
          exact q _ (Same.refl _)
        · have hmk9 := s9 _ _ hmk8
          refine ⟨_, rfl, _, rfl, _, rfl, rIx_l hmk9 rfl gmask ?_⟩
          refine ⟨_, _, rfl, rfl, _, rfl, _, rfl, rIx_l hmk9 rfl gmask ?_⟩
          refine ⟨rfl, _, rfl, ?_⟩
          have e : decide (V.int (Builtin.bitAnd (lot : Int) ((mask (parts S j) : Nat) : Int)) = V.int ((mask (parts S j) : Nat) : Int)) = decide (∀ x ∈ parts S j, lot.testBit x = true) := by
            rw [bitAnd_nat, dec_int, Bool.eq_iff_iff, decide_eq_true_iff, ← and_mask_eq (ok.nd hjS) lot, beq_iff_eq]
            omega
          rw [e]
          exact q _ (Same.refl _)
        have s09 := s8.trans s9
        have hmk9 := s9 _ _ hmk8
        have hbt9 := s9 _ _ hbt8
        have hd9 := s9 _ _ hd8
        have hnA9 := s9 _ _ hnA8
        have hL9 := s9 _ _ hL8
        have prk9 := pmap prk8 fun _ _ r => RTr.keep (keepT_same s9) r
        refine ite2 (fun hc => ?_) (fun hc => ?_)
        · obtain ⟨hc1, hc2⟩ := Bool.and_eq_true_iff.mp hc
          have hnew : lot.testBit j = false := by simpa using hc1
          have hhas := of_decide_eq_true hc2
          -- fresh
          refine ⟨_, rfl, _, rfl, _, rfl, _, rfl, _, rfl, rfl, lot, j, S.length, bt, decide (V.int (size : Int) = V.int (many : Int)), rfl, by omega, hbt9, fun p H10 np s10 hp => ?_⟩
          have efull : decide (V.int (size : Int) = V.int (many : Int)) = decide ((bitsOf lot S.length).length = many) := by
            rw [dec_int, Bool.eq_iff_iff, beq_iff_eq, decide_eq_true_iff, hlcard]
            omega
          rw [efull] at hp
          generalize houts : behind lot j S.length (decide ((bitsOf lot S.length).length = many)) = outs at hp
          have outsl : outs.length ≤ 1000 := by
            have : outs.length ≤ S.length + 1 := by
              rw [← houts]
              unfold behind
              split
              · rw [List.length_map]
                have := bits_le lot S.length
                omega
              · simp
            omega
          have hd10 := s10 _ _ hd9
          have prk10 := pmap prk9 fun _ _ r => RTr.keep (keepT_same s10) r
          refine ⟨p, rfl, ⟨_, SqL.of hp⟩, fun F hF => ?_⟩
          refine lc_rel (walk_list (xs := nv outs)) RN monoT_RN (fun i => !decide (outs.getD i 0 ∈ keysF fd')) (fun i => outs.getD i 0) hF (by rw [nv_length]; omega) (fun H' s => SqL.of (s _ _ hp)) ?_ ?_
          · rintro i2 y2 _ H11 hi2 s11 ⟨rfl, hy2⟩ K1 K2 h1 h2
            obtain ⟨own, hown, rfl⟩ := nv_at hy2
            rw [getD_of hown] at h1 h2
            refine ⟨rfl, ?_⟩
            refine ⟨_, rfl, _, rfl, d, _, rfl, DGet.k (k := Sum.inl ((own : Nat) : Int)) (s11 _ _ hd10), _, rfl, ?_⟩
            by_cases hg : own ∈ keysF fd'
            · obtain ⟨q0, hq0, e0⟩ := List.mem_map.mp hg
              obtain ⟨i0, hi0⟩ := List.mem_iff_getElem?.mp hq0
              obtain ⟨v0, hv0, _⟩ := trail_in prk10 fnd7.ok.nd (i := i0) (n := own) (q := q0.2) (by rw [hi0, ← e0])
              rw [hv0]
              exact iteF (h2 (by rw [decide_eq_true hg]; rfl) _ (Same.refl _))
            · rw [trail_out prk10 hg]
              exact iteT ⟨_, rfl, h1 (by rw [decide_eq_false hg]; rfl) _ _ (Same.refl _) rfl⟩
          intro H11 zs s11 hz pz
          have ez := paired_nv pz
          rw [nv_length, range_map outs (fun x => !decide (x ∈ keysF fd')) (fun x => x) 0, List.map_id'] at ez
          generalize hfr : outs.filter (fun x => !decide (x ∈ keysF fd')) = fr at ez
          rw [ez] at hz
          have hfrm : ∀ x, x ∈ fr ↔ WStep S many lot j x ∧ x ∉ keysF fd' := fun x => by
            rw [← hfr, List.mem_filter, ← houts, behind_step hlotlt hjS hnew hhas]
            simp
          have hfrnd : fr.Nodup := by
            rw [← hfr, ← houts]
            exact (behind_nodup _ _ _ _).sublist List.filter_sublist
          have hfrl : fr.length ≤ 1000 := by
            rw [← hfr]
            exact Nat.le_trans (List.length_filter_le _ _) outsl
          have s911 := s10.trans s11
          have s011 := s09.trans s911
          have hmk11 := s911 _ _ hmk9
          have hbt11 := s911 _ _ hbt9
          have hd11 := s911 _ _ hd9
          have hnA11 := s911 _ _ hnA9
          have hL11 := s911 _ _ hL9
          have prk11 := pmap prk9 fun _ _ r => RTr.keep (keepT_same s911) r
          have hF9 : H9 F = none := same_none s10 hF
          have nmkF : mk ≠ F := ne_of_none hmk9 hF9
          have nbtF : bt ≠ F := ne_of_none hbt9 hF9
          have ndF : d ≠ F := ne_of_none hd9 hF9
          have nLF : L ≠ F := ne_of_none hL9 hF9
          have nnAF : nA' ≠ F := ne_of_none hnA9 hF9
          have hF0 : H F = none := same_none s09 hF9
          refine ⟨_, rfl, F, rfl, ⟨_, SqL.of hz⟩, ?_⟩
          refine for_it (walk_list (xs := nv fr)) (fun t σ H' => ∃ (kvs' : List (Key × V)) (x12 : Option V),
              σ = [some (.ref a), some (.int many), some (.ref mk), some (.ref bt), some (.int (j : Nat)), some (.ref d), some (.ref nA'), some (.int size), some (.ref L), some (.int lot), some (.int (2 ^ j : Nat)), some (.ref F), x12] ∧
              Same H H' ∧ H' mk = some (.lst (nv (S.map mask))) ∧ H' bt = some (.lst (nv (pows S.length))) ∧ H' d = some (.dK kvs') ∧ H' nA' = some (.lst (nv now)) ∧ H' L = some (.lst (nv lt)) ∧ H' F = some (.lst (nv fr)) ∧
              Paired (RTr H') kvs' (fd' ++ (fr.take t).map fun o => (o, some (lot, j))) ∧ FoundW S many (fd' ++ (fr.take t).map fun o => (o, some (lot, j))))
            ⟨kvs', x12, rfl, s011, hmk11, hbt11, hd11, hnA11, hL11, hz, by simpa using prk11, by simpa using fnd7⟩
            (fun i σ H' _ ⟨_, _, _, _, _, _, _, _, _, h, _⟩ => SqL.of h) ?_ ?_
          · rintro t y3 σ _ H12 ht3 ⟨kvs12, x12, rfl, s12, hmk12, hbt12, hd12, hnA12, hL12, hF12, prk12, fnd12⟩ ⟨rfl, hy3⟩
            obtain ⟨own, hown, rfl⟩ := nv_at hy3
            obtain ⟨hws, hnk⟩ := (hfrm own).mp (List.mem_of_getElem? hown)
            have hkeys12 : keysF (fd' ++ (fr.take t).map fun o => (o, some (lot, j))) = keysF fd' ++ fr.take t := by
              unfold keysF
              rw [List.map_append, List.map_map]
              congr 1
              exact List.map_id' _
            have hown12 : own ∉ keysF (fd' ++ (fr.take t).map fun o => (o, some (lot, j))) := by
              rw [hkeys12]
              intro hm
              rcases List.mem_append.mp hm with h | h
              · exact hnk h
              · have htk : fr.take (t + 1) = fr.take t ++ [own] := by rw [List.take_add_one, hown]; rfl
                have := (List.nodup_append.mp (by rw [← htk]; exact hfrnd.sublist (List.take_sublist _ _) : (fr.take t ++ [own]).Nodup)).2.2 own h own (by simp)
                exact this rfl
            have hl12 := FoundW.len fnd12
            have hkl12 := Paired.length prk12
            refine ⟨_, rfl, _, rfl, (by show 2 ≤ sizeLine; decide), fun tq htq => ?_⟩
            have s13 := same_new (o := .tup [.int lot, .int (j : Nat)]) htq
            generalize hH13 : upd H12 tq (.tup [.int lot, .int (j : Nat)]) = H13 at s13
            have htq13 : H13 tq = some (.tup [.int lot, .int (j : Nat)]) := by rw [← hH13, upd_same]
            have hd13 := s13 _ _ hd12
            refine ⟨_, rfl, _, rfl, d, _, rfl, DPut.k (k := Sum.inl ((own : Nat) : Int)) hd13 (by show kvs12.length < 2 ^ 24; omega), ?_⟩
            have eput : putK kvs12 (Sum.inl ((own : Nat) : Int) : Key) (V.ref tq) = kvs12 ++ [(Sum.inl ((own : Nat) : Int), V.ref tq)] := putK_new _ (trail_out prk12 hown12)
            rw [eput]
            have k14 : KeepT H13 (upd H13 d (.dK (kvs12 ++ [(Sum.inl ((own : Nat) : Int), V.ref tq)]))) := keepT_dK hd13
            have etk : (fr.take (t + 1)).map (fun o => (o, some (lot, j))) = (fr.take t).map (fun o => (o, some (lot, j))) ++ [(own, some (lot, j))] := by
              rw [List.take_add_one, hown]
              simp
            refine ⟨kvs12 ++ [(Sum.inl ((own : Nat) : Int), V.ref tq)], _, rfl, same_over (s12.trans s13) hd0, ?_, ?_, upd_same, ?_, ?_, ?_, ?_, ?_⟩
            · rw [upd_ne (ne_of hmk12 hd12 (by intro z; cases z))]; exact s13 _ _ hmk12
            · rw [upd_ne (ne_of hbt12 hd12 (by intro z; cases z))]; exact s13 _ _ hbt12
            · rw [upd_ne (ne_of hnA12 hd12 (by intro z; cases z))]; exact s13 _ _ hnA12
            · rw [upd_ne (ne_of hL12 hd12 (by intro z; cases z))]; exact s13 _ _ hL12
            · rw [upd_ne (ne_of hF12 hd12 (by intro z; cases z))]; exact s13 _ _ hF12
            · rw [etk, ← List.append_assoc]
              exact paired_append (pmap prk12 fun _ _ r => RTr.keep ((keepT_same s13).trans k14) r) (.cons ⟨rfl, tq, rfl, k14 _ _ htq13⟩ .nil)
            · rw [etk, ← List.append_assoc]
              exact FoundW.snoc fnd12 (by rw [hkeys12]; exact List.mem_append_left _ hlk7) hown12 hws
          · rintro σ H12 ⟨kvs12, x12, rfl, s12, hmk12, hbt12, hd12, hnA12, hL12, hF12, prk12, fnd12⟩
            rw [nv_length, List.take_length] at prk12 fnd12
            generalize hfd : fd' ++ fr.map (fun o => (o, some (lot, j))) = fd12 at prk12 fnd12
            have hkeys12 : keysF fd12 = keysF fd' ++ fr := by
              rw [← hfd]
              unfold keysF
              rw [List.map_append, List.map_map]
              congr 1
              exact List.map_id' _
            -- later.extend(fresh)
            refine ⟨_, rfl, .inl ⟨rfl, _, SqL.of hL12⟩, _, rfl, L, F, _, _, rfl, rfl, hL12, hF12, (by rw [nv_length, nv_length]; show lt.length + fr.length ≤ 2 ^ 24; omega), ?_⟩
            rw [nv_append]
            have k13 := keepT_lst (o := .lst (nv (lt ++ fr))) hL12
            have s13 : Same H (upd H12 L (.lst (nv (lt ++ fr)))) := same_over s12 hL0
            generalize hH13 : upd H12 L (.lst (nv (lt ++ fr))) = H13 at s13 k13
            have hmk13 : H13 mk = some (.lst (nv (S.map mask))) := by rw [← hH13, upd_ne nmkL]; exact hmk12
            have hbt13 : H13 bt = some (.lst (nv (pows S.length))) := by rw [← hH13, upd_ne nbtL]; exact hbt12
            have hd13 : H13 d = some (.dK kvs12) := by rw [← hH13, upd_ne ndL]; exact hd12
            have hnA13 : H13 nA' = some (.lst (nv now)) := by rw [← hH13, upd_ne nnAL]; exact hnA12
            have hF13 : H13 F = some (.lst (nv fr)) := by rw [← hH13, upd_ne nLF.symm]; exact hF12
            have hL13 : H13 L = some (.lst (nv (lt ++ fr))) := by rw [← hH13, upd_same]
            have prk13 := pmap prk12 fun _ _ r => RTr.keep k13 r
            have glast : (nv (pows S.length))[(nv (pows S.length)).length - 1]? = some (.int ((2 ^ (S.length - 1) : Nat) : Int)) := by
              rw [nv_length, mul0]
              exact nv_get (by unfold pows; rw [List.getElem?_map, List.getElem?_range (by omega)]; rfl)
            dsimp only
            unfold tIfS
            refine tAnd_of (decide (fr ≠ [])) (decide (j = S.length - 1)) (fun Q' q => ?_) (fun _ H14 s14 Q' q => ?_) (fun H14 s14 => ?_)
            · refine ⟨_, rfl, F, _, rfl, .inl (SqL.of hF13), _, _, rfl, rfl, _, rfl, ?_⟩
              have e : decide ((0 : Int) < (((nv fr).length : Nat) : Int)) = decide (fr ≠ []) := by
                rw [nv_length, Bool.eq_iff_iff, decide_eq_true_iff, decide_eq_true_iff, ← List.length_pos_iff]
                omega
              rw [e]
              exact q _ (Same.refl _)
            · refine ⟨_, rfl, _, rfl, _, rfl, rIx_last (s14 _ _ hbt13) glast ?_⟩
              refine ⟨rfl, _, rfl, ?_⟩
              have e : decide (V.int ((2 ^ j : Nat) : Int) = V.int ((2 ^ (S.length - 1) : Nat) : Int)) = decide (j = S.length - 1) := by
                rw [dec_int, Bool.eq_iff_iff, beq_iff_eq, decide_eq_true_iff]
                constructor
                · intro h; exact pow_inj (by omega)
                · rintro rfl; rfl
              rw [e]
              exact q _ (Same.refl _)
            have prk14 := pmap prk13 fun _ _ r => RTr.keep (keepT_same s14) r
            refine ite2 (fun hr => ?_) (fun hr => ?_)
            · obtain ⟨hr1, hr2⟩ := Bool.and_eq_true_iff.mp hr
              have hfrne := of_decide_eq_true hr1
              have hjtop := of_decide_eq_true hr2
              refine ⟨_, rfl, ?_⟩
              refine kk d _ kvs12 fd12 hd0 (s13.trans s14) (s14 _ _ hd13) prk14 fnd12 (.inl ?_)
              obtain ⟨x, hx⟩ := List.exists_mem_of_ne_nil fr hfrne
              refine ⟨x, by rw [hkeys12]; exact List.mem_append_right _ hx, ?_⟩
              have := wstep_has ((hfrm x).mp hx).1
              rw [hjtop] at this
              exact this
            · refine ⟨fd12, kvs12, lt ++ fr, _, _, _, _, rfl, s13.trans s14, s14 _ _ hmk13, s14 _ _ hbt13, s14 _ _ hd13, s14 _ _ hnA13, s14 _ _ hL13, prk14, fnd12, ?_, ?_, ?_, ?_⟩
              · rw [hkeys12, hkeys7, List.append_assoc]
              · intro x hx
                rcases List.mem_append.mp hx with h | h
                · exact hcard7 x h
                · have := wstep_card hlotlt ((hfrm x).mp h).1
                  rw [hlcard] at this
                  exact this
              · intro i' x hi' hx kq m' hs
                rw [hkeys12]
                exact List.mem_append_left _ (hdone7 i' x hi' hx kq m' hs)
              · intro kq m' hkq hs
                rw [hkeys12]
                rcases Nat.lt_succ_iff_lt_or_eq.mp hkq with h | rfl
                · exact List.mem_append_left _ (hdone7' kq m' h hs)
                · by_cases hmk' : m' ∈ keysF fd'
                  · exact List.mem_append_left _ hmk'
                  · exact List.mem_append_right _ ((hfrm m').mpr ⟨hs, hmk'⟩)
        · refine ⟨fd', kvs', lt, _, _, _, _, rfl, s09, hmk9, hbt9, hd9, hnA9, hL9, prk9, fnd7, hkeys7, hcard7, hdone7, fun kq m' hkq hs => ?_⟩
          rcases Nat.lt_succ_iff_lt_or_eq.mp hkq with h | rfl
          · exact hdone7' kq m' h hs
          · exfalso
            apply hc
            rw [hs.new, decide_eq_true hs.has]
            rfl
      · rintro σ H7 ⟨fd', kvs', lt, x4, x10, x11, x12, rfl, s7, hmk7, hbt7, hd7, hnA7, hL7, prk7, fnd7, hkeys7, hcard7, hdone7, hdone7'⟩
        refine ⟨fd', kvs', lt, _, _, _, _, _, rfl, s7, hmk7, hbt7, hd7, hnA7, hL7, prk7, fnd7, hkeys7, hcard7, fun i' x hi' hx kq m' hs => ?_⟩
        rcases Nat.lt_succ_iff_lt_or_eq.mp hi' with h | rfl
        · exact hdone7 i' x h hx kq m' hs
        · rw [hlot] at hx
          cases hx
          exact hdone7' kq m' (by rw [nv_length, mul0]; exact hs.lt) hs
    · rintro σ H7 ⟨fd', kvs', lt, x4, x9, x10, x11, x12, rfl, s7, hmk7, hbt7, hd7, hnA7, hL7, prk7, fnd7, hkeys7, hcard7, hdone7⟩
      -- now, size = later, min(size + 1, many)
      refine ⟨_, rfl, _, rfl, _, _, rfl, rfl, _, rfl, _, _, rfl, _, _, rfl, ?_⟩
      have hl1 : fd'.length = fd.length + lt.length := by
        have h1 : (keysF fd').length = fd'.length := by simp [keysF]
        have h2 : (keysF fd).length = fd.length := by simp [keysF]
        rw [hkeys7, List.length_append] at h1
        omega
      have hkl := FoundW.len fnd7
      have esize : (if (many : Int) < (size : Int) + 1 then (many : Int) else (size : Int) + 1) = ((if size = many then many else size + 1 : Nat) : Int) := by
        split <;> split <;> omega
      simp only [esize]
      refine ⟨_, ?_, fd', kvs', lt, (if size = many then many else size + 1), L, _, _, _, _, _, _, rfl, rfl, s7, hmk7, hbt7, hd7, hL7, prk7, fnd7, ?_, fun x hx => ⟨by rw [hkeys7]; exact List.mem_append_right _ hx, hcard7 x hx⟩, fun x hx hnx kq m' hs => ?_⟩
      · rw [if_neg hne]
        by_cases hlt0 : lt = []
        · subst hlt0
          simp at hl1
          rw [if_pos rfl, hl1]
          omega
        · rw [if_neg hlt0]
          have : 0 < lt.length := List.length_pos_iff.mpr hlt0
          omega
      · split <;> omega
      · rw [hkeys7] at hx
        rcases List.mem_append.mp hx with h | h
        · by_cases hxn : x ∈ now
          · obtain ⟨i', hi'⟩ := List.mem_iff_getElem?.mp hxn
            exact hdone7 i' x (by rw [nv_length]; exact (List.getElem?_eq_some_iff.mp hi').1) hi' kq m' hs
          · rw [hkeys7]
            exact List.mem_append_left _ (hclo x h hxn kq m' hs)
        · exact absurd h hnx
  · -- the loop's end
    have hnow0 : now = [] := by
      refine Classical.byContradiction fun hn => hb ?_
      have : 0 < now.length := List.length_pos_iff.mpr hn
      exact decide_eq_true (by rw [nv_length]; omega)
    subst hnow0
    refine ⟨_, rfl, ?_⟩
    exact kk d _ kvs fd hd0 s4 hd4 prk fnd (.inr fun x hx kq m' hs => hclo x hx (by simp) kq m' hs)
end
end K27
set_option Elab.async false
set_option linter.all false
set_option maxRecDepth 100000
set_option maxHeartbeats 8000000
namespace K27
open PySem PySem.Spec PyProof.Rows L2
section
variable {P : Program} {w : World} {K : PySem.W.Frag} {mg : Str → Option Value} {base : Heap}
/-- slots: 0=found 1=lot 2=many 3=way 4=ahead 5=knot; cells:  -/
theorem sc_way_back : FnScope ["found", "lot", "many", "way", "ahead", "knot"] ["found", "lot", "many"] (defScope st_way_back) := ⟨rfl, rfl, rfl, by decide +kernel, rfl, by decide +kernel, by decide +kernel⟩
def sp_way_back : Sp := fun vs H Q _ => ∃ (S : List (List Nat)) (many : Nat) (d : Addr) (lot n : Nat) (kvs : List (Key × V)) (fd : Fd), vs = [.ref d, .int lot, .int n] ∧ n ≤ 1000 ∧ H d = some (.dK kvs) ∧ Paired (RTr H) kvs fd ∧ TrailOk (stepW S many) fd ∧ fd.length ≤ 1000 ∧ lot ∈ keysF fd ∧
  ∀ p H', Same H H' → Q (.ref p) H'
theorem got_way_back (T : Txt K mg) : Got P w K mg base 2 "way_back" ["found", "lot", "many"] sp_way_back := by
  refine got_of T.d_way_back sc_way_back (fun F => (FunD.bindsN F fun _ _ _ _ _ _ us hl => match us, hl with | [_, _, _], _ => rfl)) (fun vs H Q E h => ?_) (fun f cdv A outer s H vs Q E hr h => ?_)
  · obtain ⟨S, m, d, lot, n, kvs, fd, rfl, _⟩ := h; rfl
  obtain ⟨S, many, d, lot, n, kvs, fd, rfl, hn, hd, prk, ok, hfl, hlot, kk⟩ := h
  have hu := hu_of hr
  obtain ⟨_, _, m_knots_of, G_knots_of, k_knots_of, b_knots_of⟩ := (got_knots_of (P := P) (w := w) (base := base) T).ex
  refine ⟨_, (pss_cons (ps_set (i := 3) sc_way_back.nd rfl (Or.inl rfl) (pe_lst pa_nil))
      (pss_cons (ps_while PassesOwn.never (pt_cmpR op_ne (pv 1) pe_int (nomark _)) (pss_cons (ps_asg (pe_dget hu (pv 0) (pv 1) (fun _ _ => rfl)) (pg_tup rfl (pgs_cons (pg_name (i := 4) sc_way_back.nd rfl (Or.inl rfl)) (pgs_cons (pg_name (i := 5) sc_way_back.nd rfl (Or.inl rfl)) pgs_nil))))
      (pss_cons (ps_expr (pe_bm PySem.F.plainAttrs_list PySem.F.slot_list_append PySem.F.type_list_append mt_append (pv 3) (pa_cons (pe_tup (pa_cons (pv 5) (pa_cons (pe_call G_knots_of (hr.mono (by first | decide | omega)) rfl m_knots_of k_knots_of b_knots_of .nil pass0 (pa_cons (pv 1) (pa_cons (pv 2) pa_nil))) pa_nil))) pa_nil)))
      (pss_one (ps_set (i := 1) sc_way_back.nd rfl (Or.inl rfl) (pv 4))))))
      (pss_one (ps_ret (pe_revL (pv 3)))))), ?_⟩
  refine ⟨Nat.zero_le _, fun wA hwA => ?_⟩
  have sW := same_new (o := .lst []) hwA
  obtain ⟨q0, hq0, e0⟩ := List.mem_map.mp hlot
  obtain ⟨i0, hi0⟩ := List.mem_iff_getElem?.mp hq0
  refine ⟨fun m σ H' => ∃ (lot : Nat) (o : Option (Nat × Nat)) (ys : List V) (x4 x5 : Option V),
      σ = [some (.ref d), some (.int lot), some (.int n), some (.ref wA), x4, x5] ∧
      Same H H' ∧ H' wA = some (.lst ys) ∧ fd[m]? = some (lot, o) ∧ ys.length + m ≤ fd.length,
    ⟨i0, lot, q0.2, [], _, _, rfl, sW, upd_same, by rw [hi0, ← e0], by have := (List.getElem?_eq_some_iff.mp hi0).1; simp; omega⟩, ?_⟩
  rintro m σ H6 ⟨lot, o, ys, x4, x5, rfl, s6, hw6, hfi, hwl⟩
  have hd6 := s6 _ _ hd
  have prk6 := pmap prk fun _ _ r => RTr.keep (keepT_same s6) r
  refine ⟨_, rfl, rfl, _, rfl, ?_⟩
  refine ite2 (fun hc => ?_) (fun hc => ?_)
  · have hm0 : lot ≠ 0 := by
      intro e
      subst e
      simp at hc
    cases o with
    | none =>
      have hi := ok.none m lot hfi
      subst hi
      rw [ok.first] at hfi
      cases hfi
      exact absurd rfl hm0
    | some ak =>
      obtain ⟨ah, kn⟩ := ak
      obtain ⟨hst, j, oj, hji, hfj⟩ := ok.back m lot ah kn hfi
      obtain ⟨v6, hv6, t6, rfl, ht6⟩ := trail_in prk6 ok.nd hfi
      refine ⟨_, fun _ _ h => h, ?_⟩
      refine ⟨_, rfl, _, rfl, d, .ref t6, rfl, hv6 ▸ DGet.k (k := Sum.inl ((lot : Nat) : Int)) hd6, t6, _, rfl, SqT.of ht6, rfl, _, _, rfl, _, _, rfl, rfl, ?_⟩
      refine ⟨_, rfl, .inl ⟨rfl, _, SqL.of hw6⟩, _, rfl, _, rfl, _, rfl, lot, n, rfl, hn, fun v' H7 s7 hv' => ?_⟩
      refine ⟨(by show 2 ≤ sizeLine; decide), fun t ht => ?_⟩
      have s8 := same_new (o := .tup [.int (kn : Nat), v']) ht
      have hw8 := s8 _ _ (s7 _ _ hw6)
      have s678 := (s6.trans s7).trans s8
      refine ⟨wA, _, _, rfl, rfl, hw8, (by show ys.length < 2 ^ 24; omega), ?_⟩
      refine ⟨_, rfl, ?_⟩
      exact ⟨j, hji, ah, oj, ys ++ [.ref t], _, _, rfl, same_over s678 hwA, upd_same, hfj, by rw [List.length_append, List.length_singleton]; omega⟩
  · refine ⟨_, rfl, wA, _, rfl, SqL.of hw6, fun p hp => ?_⟩
    exact kk p _ (s6.trans (same_new hp))

/-- slots: 0=shape 1=many 2=found 3=top 4=lots 5=lot; cells: top -/
theorem sc_lots_to_top : FnScope ["shape", "many", "found", "top", "lots", "lot"] ["shape", "many"] (defScope st_lots_to_top) := ⟨rfl, rfl, rfl, by decide +kernel, rfl, by decide +kernel, by decide +kernel⟩
def sp_lots_to_top : Sp := fun vs H Q _ => ∃ (v : V) (S : List (List Nat)) (many : Nat), vs = [v, .int many] ∧ TS' H v S ∧ ShOk S ∧ 1 ≤ many ∧
  (∀ H', Same H H' → ¬ Reach S many → Q .non H') ∧ ∀ p H', Same H H' → Reach S many → Q (.ref p) H'
theorem got_lots_to_top (T : Txt K mg) : Got P w K mg base 3 "lots_to_top" ["shape", "many"] sp_lots_to_top := by
  refine got_of T.d_lots_to_top sc_lots_to_top (fun F => (FunD.bindsN F fun _ _ _ _ _ _ us hl => match us, hl with | [_, _], _ => rfl)) (fun vs H Q E h => ?_) (fun f cdv A outer s H vs Q E hr h => ?_)
  · obtain ⟨v, S, m, rfl, _⟩ := h; rfl
  obtain ⟨v, S, many, rfl, hv, ok, hmany, kN, kS⟩ := h
  have hu := hu_of hr
  have few := ok.few
  have pos := ok.pos
  have p256 : 2 ^ S.length ≤ 256 := Nat.pow_le_pow_right (by omega) few
  obtain ⟨_, _, m_gone_through, G_gone_through, k_gone_through, b_gone_through⟩ := (got_gone_through (P := P) (w := w) (base := base) T).ex
  obtain ⟨_, _, m_way_back, G_way_back, k_way_back, b_way_back⟩ := (got_way_back (P := P) (w := w) (base := base) T).ex
  obtain ⟨a, vs0, rfl, ha, pr⟩ := id hv
  have ha : H a = some (.tup vs0) := ha
  have hlv : vs0.length = S.length := Paired.length pr
  refine ⟨_, (pss_cons (ps_asg (pe_tup (pa_cons (pe_call G_gone_through (hr.mono (by first | decide | omega)) rfl m_gone_through k_gone_through b_gone_through .nil pass0 (pa_cons (pv 0) (pa_cons (pv 1) pa_nil))) (pa_cons (pe_op op_shl pe_int (pe_op op_sub (pe_callB (r := rLenS K) call_len_seq (by rfl) T.z_len (by decide +kernel) (pa_cons (pv 0) pa_nil)) pe_int)) pa_nil))) (pg_tup rfl (pgs_cons (pg_name (i := 2) sc_lots_to_top.nd rfl (Or.inl rfl)) (pgs_cons (pg_name (i := 3) sc_lots_to_top.nd rfl (Or.inr rfl)) pgs_nil))))
      (pss_cons (ps_lock (ps_setLc (i := 4) (own := [("lot", 5)]) (g := (gName 5)) rfl sc_lots_to_top.nd rfl rfl (sw_true rfl rfl rfl (by decide +kernel)) (pi_keys (pv 2)) (blkOk_by (N := ["shape", "many", "found", "top", "lots", "lot"]) (sc := (defScope st_lots_to_top)) (by decide +kernel)) (fun _ _ _ _ _ => (pg_name (i := 5) sc_lots_to_top.nd rfl (Or.inl rfl))) (fun _ _ _ _ _ => (pts_one (pt_cmpR op_ne (pe_op op_and (pv 5) (pv 3)) pe_int (nomark _)))) (fun _ _ _ _ _ => (pv 5))))
      (pss_one (ps_ret (pe_ifExp (pt_cmpR op_gt (pe_callB (r := rLenS K) call_len_seq (by rfl) T.z_len (by decide +kernel) (pa_cons (pv 4) pa_nil)) pe_int (nomark _)) (pe_call G_way_back (hr.mono (by first | decide | omega)) rfl m_way_back k_way_back b_way_back .nil pass0 (pa_cons (pv 2) (pa_cons (pe_ix (r := rIx K) ix_seq (pv 4) pe_int (fun _ _ => rfl)) (pa_cons (pe_callB (r := rLenS K) call_len_seq (by rfl) T.z_len (by decide +kernel) (pa_cons (pv 0) pa_nil)) pa_nil)))) pe_non))))), ?_⟩
  refine ⟨_, rfl, _, rfl, _, S, many, rfl, hv, ok, hmany, fun d H1 kvs fd nd s1 hd prk fnd hcl => ?_⟩
  refine ⟨_, rfl, a, _, rfl, .inr (SqT.of (s1 _ _ ha)), _, _, rfl, rfl, _, _, rfl, rfl, ⟨by omega, by omega, by decide⟩, (by show 2 ≤ sizeLine; decide), fun tt ht => ?_⟩
  have s2 := same_new (o := .tup [.ref d, .int (1 * 2 ^ ((vs0.length : Int) - 1).toNat)]) ht
  refine ⟨tt, _, rfl, SqT.of upd_same, rfl, _, _, rfl, _, _, rfl, rfl, ?_⟩
  have etop : (1 * 2 ^ ((vs0.length : Int) - 1).toNat : Int) = ((2 ^ (S.length - 1) : Nat) : Int) := by
    rw [Int.one_mul, hlv]
    have : ((S.length : Int) - 1).toNat = S.length - 1 := by omega
    rw [this]
    simp
  have s12 := s1.trans s2
  have hd2 := s2 _ _ hd
  have prk2 := pmap prk fun _ _ r => RTr.keep (keepT_same s2) r
  have hlen := fnd.len
  have hkl := Paired.length prk
  simp only [etop] at s12 s2 hd2 prk2 ⊢
  generalize hH2 : upd H1 tt (.tup [.ref d, .int ((2 ^ (S.length - 1) : Nat) : Int)]) = H2 at s12 s2 hd2 prk2
  -- lots
  refine ⟨d, _, hd2, trivial, fun od => ?_⟩
  refine ⟨_, rfl, d, od, rfl, .inl ⟨kvs, upd_same, fun D hD => ?_⟩⟩
  have ndD : D ≠ d := fun e => by rw [e, upd_same] at hD; cases hD
  refine lc_rel (walk_keys (kvs := kvs)) RN monoT_RN (fun i => (fd.getD i (0, none)).1.testBit (S.length - 1)) (fun i => (fd.getD i (0, none)).1) hD (by omega) (fun H' s => s _ _ upd_same) ?_ ?_
  · rintro i y _ H3 hi s3 ⟨rfl, kq, vq, hkv, rfl⟩ K1 K2 h1 h2
    obtain ⟨q, hq, r⟩ := pgetL prk2 hkv
    rw [getD_of hq] at h1 h2
    have ek : kq = Sum.inl (q.1 : Int) := r.1
    subst ek
    refine ⟨rfl, ?_⟩
    refine ⟨_, rfl, _, rfl, _, _, rfl, rfl, rfl, _, rfl, ?_⟩
    have e : (!decide (V.int (Builtin.bitAnd (q.1 : Int) ((2 ^ (S.length - 1) : Nat) : Int)) = V.int 0)) = q.1.testBit (S.length - 1) := by
      rw [bitAnd_nat, dec_int, Bool.eq_iff_iff, Bool.not_eq_true', beq_eq_false_iff_ne]
      constructor
      · intro hne
        cases hb : q.1.testBit (S.length - 1) with
        | true => rfl
        | false => exact absurd (by rw [(and_pow_eq _ _).mpr hb]; rfl) hne
      · intro ht hz
        have : q.1 &&& 2 ^ (S.length - 1) = 0 := by omega
        rw [(and_pow_eq _ _).mp this] at ht
        cases ht
    rw [e]
    refine ite2 (fun c => ?_) (fun c => ?_)
    · exact ⟨_, rfl, h1 c _ _ (Same.refl _) rfl⟩
    · exact h2 (by simpa using c) _ (Same.refl _)
  intro H3 ys s3 hy py
  have e := paired_nv py
  rw [hkl, range_map fd (fun q => q.1.testBit (S.length - 1)) (fun q => q.1) (0, none)] at e
  rw [e] at hy
  generalize hlots : (fd.filter (fun q => q.1.testBit (S.length - 1))).map (fun q => q.1) = lots at hy
  refine ⟨s3 _ _ upd_same, ?_⟩
  have s4 : Same H2 (upd H3 d (.dK kvs)) := fun b o h => by
    by_cases hb : b = d
    · subst hb
      rw [hd2] at h
      rw [upd_same]
      exact h
    · rw [upd_ne hb]
      exact s3 _ _ (by rw [upd_ne hb]; exact h)
  have hD4 : (upd H3 d (.dK kvs)) D = some (.lst (nv lots)) := by rw [upd_ne ndD]; exact hy
  generalize hH4 : upd H3 d (.dK kvs) = H4 at s4 hD4
  have s14 := s12.trans s4
  have hd4 := s4 _ _ hd2
  have prk4 := pmap prk2 fun _ _ r => RTr.keep (keepT_same s4) r
  have hmem : ∀ x, x ∈ lots ↔ x ∈ keysF fd ∧ x.testBit (S.length - 1) = true := fun x => by
    rw [← hlots, List.mem_map]
    constructor
    · rintro ⟨q, hq, rfl⟩
      exact ⟨List.mem_map.mpr ⟨q, (List.mem_filter.mp hq).1, rfl⟩, (List.mem_filter.mp hq).2⟩
    · rintro ⟨h1, h2⟩
      obtain ⟨q, hq, rfl⟩ := List.mem_map.mp h1
      exact ⟨q, List.mem_filter.mpr ⟨hq, h2⟩, rfl⟩
  refine ⟨_, rfl, D, _, rfl, .inl (SqL.of hD4), _, _, rfl, rfl, _, rfl, ?_⟩
  cases lots with
  | nil =>
    refine iteF ?_
    refine kN _ s14 ?_
    rintro ⟨m, hm, ht⟩
    have hc : ∀ m ∈ keysF fd, ∀ k m', WStep S many m k m' → m' ∈ keysF fd := by
      rcases hcl with ⟨x, hx, hxt⟩ | hc
      · have := (hmem x).mpr ⟨hx, hxt⟩
        simp at this
      · exact hc
    have := (hmem m).mpr ⟨lots_all fnd hc hm, ht⟩
    simp at this
  | cons l0 lr =>
    have hl0 := (hmem l0).mp List.mem_cons_self
    have ha4 := s14 _ _ ha
    refine ite2 (fun _ => ?_) (fun hn => ?_)
    · refine ⟨_, rfl, _, rfl, rIx_l hD4 (j := 0) rfl rfl ?_⟩
      refine ⟨_, rfl, a, _, rfl, .inr (SqT.of ha4), ?_⟩
      refine ⟨S, many, d, l0, vs0.length, kvs, fd, rfl, by omega, hd4, prk4, fnd.ok, by omega, hl0.1, fun p H5 s5 => ?_⟩
      exact kS p _ (s14.trans s5) ⟨l0, fnd.lot l0 hl0.1, hl0.2⟩
    · exfalso
      apply hn
      exact decide_eq_true (by rw [nv_length, List.length_cons]; omega)

/-- slots: 0=shape 1=own 2=many; cells:  -/
theorem sc_web_cells : FnScope ["shape", "own", "many"] ["shape"] (defScope st_web_cells) := ⟨rfl, rfl, rfl, by decide +kernel, rfl, by decide +kernel, by decide +kernel⟩
def IsWeb (S : List (List Nat)) (n : Nat) : Prop := 1 ≤ n ∧ Reach S n ∧ ∀ m, 1 ≤ m → m < n → ¬ Reach S m
def sp_web_cells : Sp := fun vs H Q _ => ∃ (l : Bool) (v : V) (S : List (List Nat)), vs = [v] ∧ SS l H v S ∧ ShOk S ∧ ∀ n H', Same H H' → IsWeb S n → Q (.int (n : Nat)) H'
theorem got_tuple_of2 (l : Bool) (T : Txt K mg) : Got P w K mg base 3 "tuple_of" ["thing"] (fun vs H Q E => ∃ (v : V) (x : List (List Nat)), x.length ≤ 1000 ∧ vs = [v] ∧ SS l H v x ∧ (∀ y ∈ x, y.length ≤ 1000) ∧ ∀ v' H', Same H H' → TS' H' v' x → Q v' H') := by
  have g1 : Got P w K mg base 2 "tuple_of" ["thing"] (sp_tuple_of (fun H v (x : List Nat) => SN l H v x ∧ x.length ≤ 1000) TN) :=
    (got_tuple_of_seq (P := P) (w := w) (base := base) 0 (R := RN) (R' := RN) l monoT_RN.s monoT_RN T (got_tuple_of_int T)).imp fun vs H Q E ⟨v, x, h1, h2, h3⟩ => ⟨v, x, h2.2, h1, h2.1, h3⟩
  exact (got_tuple_of_seq (P := P) (w := w) (base := base) [] (R := fun H v (x : List Nat) => SN l H v x ∧ x.length ≤ 1000) (R' := TN) l (fun H H' v x s h => ⟨monoS_SN _ _ _ _ s h.1, h.2⟩) monoT_TN T g1).imp fun vs H Q E ⟨v, x, h1, h2, h3, h4, h5⟩ => by
    obtain ⟨a, vs', e, ha, pr⟩ := h3
    refine ⟨v, x, h1, h2, ⟨a, vs', e, ha, ?_⟩, h5⟩
    have : ∀ (vs' : List V) (x : List (List Nat)), Paired (SN l H) vs' x → (∀ y ∈ x, y.length ≤ 1000) → Paired (fun v (x : List Nat) => SN l H v x ∧ x.length ≤ 1000) vs' x := by
      intro vs' x pr hx
      induction pr with
      | nil => exact .nil
      | cons r t ih => exact .cons ⟨r, hx _ List.mem_cons_self⟩ (ih fun y hy => hx y (List.mem_cons_of_mem _ hy))
    exact this vs' x pr h4
theorem ShOk.small {S : List (List Nat)} (ok : ShOk S) : ∀ y ∈ S, y.length ≤ 1000 := fun y hy => by
  obtain ⟨i, hi⟩ := List.mem_iff_getElem?.mp hy
  have hiS := (List.getElem?_eq_some_iff.mp hi).1
  have e := parts_get hi
  have nd := ok.nd hiS
  have hl := fun x (hx : x ∈ parts S i) => ok.lt hiS hx
  rw [e] at nd hl
  have := nodup_le nd hl
  have := ok.few
  omega
theorem got_web_cells (T : Txt K mg) : Got P w K mg base 4 "web_cells" ["shape"] sp_web_cells := by
  refine got_of T.d_web_cells sc_web_cells (fun F => (FunD.bindsN F fun _ _ _ _ _ _ us hl => match us, hl with | [_], _ => rfl)) (fun vs H Q E h => ?_) (fun f cdv A outer s H vs Q E hr h => ?_)
  · obtain ⟨l, v, S, rfl, _⟩ := h; rfl
  obtain ⟨l, v, S, rfl, hv, ok, kk⟩ := h
  obtain ⟨_, _, m_tuple_of, G_tuple_of, k_tuple_of, b_tuple_of⟩ := (got_tuple_of2 (P := P) (w := w) (base := base) l T).ex
  obtain ⟨_, _, m_lots_to_top, G_lots_to_top, k_lots_to_top, b_lots_to_top⟩ := (got_lots_to_top (P := P) (w := w) (base := base) T).ex
  have few := ok.few
  refine ⟨_, (pss_cons (ps_par (i := 1) (j := 2) (by rfl) sc_web_cells.nd rfl rfl (by decide) rfl rfl (pa_cons (pe_call G_tuple_of (hr.mono (by first | decide | omega)) rfl m_tuple_of k_tuple_of b_tuple_of .nil pass0 (pa_cons (pv 0) pa_nil)) (pa_cons pe_int pa_nil)) (by rfl))
      (pss_cons (ps_while PassesOwn.never (pt_cmpR op_isN (pe_call G_lots_to_top (hr.mono (by first | decide | omega)) rfl m_lots_to_top k_lots_to_top b_lots_to_top .nil pass0 (pa_cons (pv 1) (pa_cons (pv 2) pa_nil))) pe_non (nomark _)) (pss_one (ps_set (i := 2) sc_web_cells.nd rfl (Or.inl rfl) (pe_op op_add (pv 2) pe_int))))
      (pss_one (ps_ret (pv 2))))), ?_⟩
  refine ⟨_, rfl, _, S, by omega, rfl, hv, ok.small, fun v1 H1 s1 hv1 => ?_⟩
  refine ⟨_, _, rfl, ?_⟩
  refine ⟨fun m σ H' => ∃ n : Nat, m = S.length + 1 - n ∧ σ = [some v, some v1, some (.int n)] ∧ Same H1 H' ∧ 1 ≤ n ∧ n ≤ S.length ∧ ∀ q, 1 ≤ q → q < n → ¬ Reach S q,
    ⟨_, 1, rfl, rfl, Same.refl _, Nat.le_refl _, ok.pos, fun q h1 h2 => by omega⟩, ?_⟩
  rintro m σ H2 ⟨n, rfl, rfl, s2, h1, hn, hno⟩
  refine ⟨_, rfl, _, rfl, _, S, n, rfl, monoT_TS _ _ _ _ (keepT_same s2) hv1, ok, h1, fun H3 s3 hnr => ?_, fun p H3 s3 hre => ?_⟩
  · refine ⟨rfl, _, rfl, iteT ?_⟩
    refine ⟨_, fun _ _ h => h, ?_⟩
    refine ⟨_, rfl, _, _, rfl, rfl, _, ?_, n + 1, rfl, rfl, s2.trans s3, by omega, ?_, ?_⟩
    · omega
    · refine Classical.byContradiction fun hc => hnr ?_
      have : n = S.length := by omega
      rw [this]
      exact reach_full ok
    · intro q hq1 hq2
      by_cases hqn : q = n
      · rw [hqn]; exact hnr
      · exact hno q hq1 (by omega)
  · refine ⟨rfl, _, rfl, iteF ?_⟩
    exact ⟨_, rfl, kk n _ (s1.trans (s2.trans s3)) ⟨h1, hre, hno⟩⟩

/-- slots: 0=shape 1=own 2=many; cells:  -/
theorem sc_sparing_cells : FnScope ["shape", "own", "many"] ["shape"] (defScope st_sparing_cells) := ⟨rfl, rfl, rfl, by decide +kernel, rfl, by decide +kernel, by decide +kernel⟩
def SpReach (S : List (List Nat)) (many : Nat) : Prop := ∃ way, WayTo S many (goal S) way
def IsSp (S : List (List Nat)) (n : Nat) : Prop := 1 ≤ n ∧ SpReach S n ∧ ∀ m, 1 ≤ m → m < n → ¬ SpReach S m
def sp_sparing_cells : Sp := fun vs H Q _ => ∃ (l : Bool) (v : V) (S : List (List Nat)), vs = [v] ∧ SS l H v S ∧ ShOk S ∧ ∀ n H', Same H H' → IsSp S n → Q (.int (n : Nat)) H'
theorem got_sparing_cells (T : Txt K mg) : Got P w K mg base 4 "sparing_cells" ["shape"] sp_sparing_cells := by
  refine got_of T.d_sparing_cells sc_sparing_cells (fun F => (FunD.bindsN F fun _ _ _ _ _ _ us hl => match us, hl with | [_], _ => rfl)) (fun vs H Q E h => ?_) (fun f cdv A outer s H vs Q E hr h => ?_)
  · obtain ⟨l, v, S, rfl, _⟩ := h; rfl
  obtain ⟨l, v, S, rfl, hv, ok, kk⟩ := h
  obtain ⟨_, _, m_tuple_of, G_tuple_of, k_tuple_of, b_tuple_of⟩ := (got_tuple_of2 (P := P) (w := w) (base := base) l T).ex
  obtain ⟨_, _, m_sparing_way, G_sparing_way, k_sparing_way, b_sparing_way⟩ := (got_sparing_way (P := P) (w := w) (base := base) T).ex
  have few := ok.few
  refine ⟨_, (pss_cons (ps_par (i := 1) (j := 2) (by rfl) sc_sparing_cells.nd rfl rfl (by decide) rfl rfl (pa_cons (pe_call G_tuple_of (hr.mono (by first | decide | omega)) rfl m_tuple_of k_tuple_of b_tuple_of .nil pass0 (pa_cons (pv 0) pa_nil)) (pa_cons pe_int pa_nil)) (by rfl))
      (pss_cons (ps_while PassesOwn.never (pt_cmpR op_isN (pe_call G_sparing_way (hr.mono (by first | decide | omega)) rfl m_sparing_way k_sparing_way b_sparing_way .nil pass0 (pa_cons (pv 1) (pa_cons (pv 2) pa_nil))) pe_non (nomark _)) (pss_one (ps_set (i := 2) sc_sparing_cells.nd rfl (Or.inl rfl) (pe_op op_add (pv 2) pe_int))))
      (pss_one (ps_ret (pv 2))))), ?_⟩
  refine ⟨_, rfl, _, S, by omega, rfl, hv, ok.small, fun v1 H1 s1 hv1 => ?_⟩
  refine ⟨_, _, rfl, ?_⟩
  refine ⟨fun m σ H' => ∃ n : Nat, m = S.length + 1 - n ∧ σ = [some v, some v1, some (.int n)] ∧ Same H1 H' ∧ 1 ≤ n ∧ n ≤ S.length ∧ ∀ q, 1 ≤ q → q < n → ¬ SpReach S q,
    ⟨_, 1, rfl, rfl, Same.refl _, Nat.le_refl _, ok.pos, fun q h1 h2 => by omega⟩, ?_⟩
  rintro m σ H2 ⟨n, rfl, rfl, s2, h1, hn, hno⟩
  refine ⟨_, rfl, _, rfl, _, S, n, rfl, monoT_TS _ _ _ _ (keepT_same s2) hv1, ok, fun H3 s3 hnr => ?_, fun p H3 ys way np s3 hp pw hre => ?_⟩
  · refine ⟨rfl, _, rfl, iteT ?_⟩
    refine ⟨_, fun _ _ h => h, ?_⟩
    refine ⟨_, rfl, _, _, rfl, rfl, _, ?_, n + 1, rfl, rfl, s2.trans s3, by omega, ?_, ?_⟩
    · omega
    · refine Classical.byContradiction fun hc => hnr ?_
      have : n = S.length := by omega
      rw [this]
      exact way_full ok S.length (Nat.le_refl _)
    · intro q hq1 hq2
      by_cases hqn : q = n
      · rw [hqn]; exact hnr
      · exact hno q hq1 (by omega)
  · refine ⟨rfl, _, rfl, iteF ?_⟩
    exact ⟨_, rfl, kk n _ (s1.trans (s2.trans s3)) ⟨h1, ⟨way, hre⟩, hno⟩⟩
end
end K27
set_option Elab.async false
set_option linter.all false
set_option maxRecDepth 100000
set_option maxHeartbeats 8000000
namespace K27
open PySem PySem.Spec PyProof.Rows L2
abbrev Cl := List (Nat × Nat)
def kvC (cl : Cl) : List (Key × V) := cl.map fun p => ((Sum.inl (p.1 : Int) : Key), V.int (p.2 : Int))
def clPut (cl : Cl) (c k : Nat) : Cl := if (cl.lookup c).isSome then cl.map (fun p => if p.1 = c then (p.1, k) else p) else cl ++ [(c, k)]
theorem kvC_val : ∀ (cl : Cl) (c : Nat), valV (kvC cl) (Sum.inl (c : Int) : Key) = (cl.lookup c).map fun (k : Nat) => V.int ((k : Nat) : Int)
  | [], c => rfl
  | (a, b) :: r, c => by
    show valV (((Sum.inl (a : Int) : Key), V.int (b : Int)) :: kvC r) _ = _
    rw [List.lookup_cons]
    by_cases e : a = c
    · subst e
      rw [valV_pos rfl]
      simp
    · rw [valV_neg (by intro q; exact e (int_cast_inj (Sum.inl.inj q))), kvC_val r c]
      have : (c == a) = false := by rw [beq_eq_false_iff_ne]; exact fun q => e q.symm
      rw [this]
theorem kvC_vals : ∀ cl : Cl, (kvC cl).map (·.2) = nv (cl.map (·.2))
  | [] => rfl
  | p :: r => congrArg (List.cons (V.int (p.2 : Int))) (kvC_vals r)
theorem kvC_put (cl : Cl) (c k : Nat) : putK (kvC cl) (Sum.inl (c : Int) : Key) (V.int (k : Int)) = kvC (clPut cl c k) := by
  unfold clPut
  cases h : (cl.lookup c).isSome with
  | true =>
    rw [if_pos rfl]
    unfold putK
    rw [valV_any, kvC_val, Option.isSome_map, h, if_pos rfl]
    unfold kvC
    rw [List.map_map, List.map_map]
    apply List.map_congr_left
    intro p _
    show (if (Sum.inl (p.1 : Int) : Key) = Sum.inl (c : Int) then ((Sum.inl (p.1 : Int) : Key), V.int (k : Int)) else _) = ((Sum.inl ((if p.1 = c then (p.1, k) else p).1 : Int) : Key), V.int ((if p.1 = c then (p.1, k) else p).2 : Int))
    by_cases e : p.1 = c
    · rw [if_pos e, if_pos (by rw [e])]
    · rw [if_neg e, if_neg (by intro q; exact e (int_cast_inj (Sum.inl.inj q)))]
  | false =>
    rw [if_neg Bool.false_ne_true, putK_new _ (by
      rw [kvC_val]
      cases q : cl.lookup c with
      | none => rfl
      | some v => rw [q] at h; cases h)]
    simp [kvC]
theorem lookup_map_put (c k : Nat) : ∀ (cl : Cl) (x : Nat), (cl.map (fun p => if p.1 = c then (p.1, k) else p)).lookup x = if x = c then (cl.lookup x).map (fun _ => k) else cl.lookup x
  | [], x => by simp
  | (a, b) :: r, x => by
    rw [List.map_cons]
    by_cases e : a = c
    · subst e
      rw [if_pos rfl, List.lookup_cons, List.lookup_cons]
      by_cases hx : x = a
      · subst hx; simp
      · have : (x == a) = false := by rw [beq_eq_false_iff_ne]; exact hx
        rw [this, lookup_map_put _ k r x, if_neg hx]
    · rw [if_neg e, List.lookup_cons, List.lookup_cons]
      by_cases hx : x = a
      · subst hx; simp [e]
      · have : (x == a) = false := by rw [beq_eq_false_iff_ne]; exact hx
        rw [this]
        exact lookup_map_put c k r x
theorem clPut_lookup (cl : Cl) (c k x : Nat) : (clPut cl c k).lookup x = if x = c then some k else cl.lookup x := by
  unfold clPut
  cases h : (cl.lookup c).isSome with
  | true =>
    rw [if_pos rfl, lookup_map_put]
    by_cases hx : x = c
    · subst hx
      rw [if_pos rfl, if_pos rfl]
      cases q : cl.lookup x with
      | none => rw [q] at h; cases h
      | some v => rfl
    · rw [if_neg hx, if_neg hx]
  | false =>
    rw [if_neg Bool.false_ne_true, List.lookup_append]
    have hn : cl.lookup c = none := by
      cases q : cl.lookup c with
      | none => rfl
      | some v => rw [q] at h; cases h
    by_cases hx : x = c
    · subst hx
      rw [hn, if_pos rfl]
      simp
    · rw [if_neg hx]
      have : (x == c) = false := by rw [beq_eq_false_iff_ne]; exact hx
      simp [List.lookup_cons, this]
theorem clPut_len (cl : Cl) (c k : Nat) : (clPut cl c k).length ≤ cl.length + 1 := by
  unfold clPut
  split <;> simp
theorem clPut_keys (cl : Cl) (c k : Nat) : (clPut cl c k).map (·.1) = if (cl.lookup c).isSome then cl.map (·.1) else cl.map (·.1) ++ [c] := by
  unfold clPut
  split
  · rw [List.map_map]
    apply List.map_congr_left
    intro p _
    show (if p.1 = c then (p.1, k) else p).1 = p.1
    split <;> rfl
  · simp
theorem lookup_none_iff : ∀ (cl : Cl) (c : Nat), cl.lookup c = none ↔ c ∉ cl.map (·.1)
  | [], c => by simp
  | (a, b) :: r, c => by
    rw [List.lookup_cons]
    by_cases hx : c = a
    · subst hx; simp
    · have : (c == a) = false := by rw [beq_eq_false_iff_ne]; exact hx
      rw [this, lookup_none_iff r c]
      simp [hx]
theorem clPut_nd {cl : Cl} (h : (cl.map (·.1)).Nodup) (c k : Nat) : ((clPut cl c k).map (·.1)).Nodup := by
  rw [clPut_keys]
  split
  · exact h
  · rename_i hn
    refine nd_snoc h ((lookup_none_iff cl c).mp ?_)
    cases q : cl.lookup c with
    | none => rfl
    | some v => rw [q] at hn; exact absurd rfl hn
theorem vals_iff : ∀ {cl : Cl}, (cl.map (·.1)).Nodup → ∀ k, k ∈ cl.map (·.2) ↔ ∃ c, cl.lookup c = some k
  | [], _, k => by simp
  | (a, b) :: r, h, k => by
    have h' := List.nodup_cons.mp (show (a :: r.map (·.1)).Nodup from h)
    have ih := vals_iff h'.2 k
    rw [List.map_cons, List.mem_cons, ih]
    constructor
    · rintro (rfl | ⟨c, hc⟩)
      · exact ⟨a, by rw [List.lookup_cons]; simp⟩
      · refine ⟨c, ?_⟩
        rw [List.lookup_cons]
        have hne : c ≠ a := by
          rintro rfl
          have := (lookup_none_iff r c).mpr h'.1
          rw [this] at hc
          cases hc
        have : (c == a) = false := by rw [beq_eq_false_iff_ne]; exact hne
        rw [this]
        exact hc
    · rintro ⟨c, hc⟩
      rw [List.lookup_cons] at hc
      by_cases hx : c = a
      · subst hx
        simp at hc
        exact .inl hc.symm
      · have : (c == a) = false := by rw [beq_eq_false_iff_ne]; exact hx
        rw [this] at hc
        exact .inr ⟨c, hc⟩
section
variable {P : Program} {w : World} {K : PySem.W.Frag} {mg : Str → Option Value} {base : Heap}
/-- slots: 0=way 1=many 2=cells 3=found 4=knot 5=lot 6=free 7=cell; cells: cells lot -/
theorem sc_played : FnScope ["way", "many", "cells", "found", "knot", "lot", "free", "cell"] ["way", "many"] (defScope st_played) := ⟨rfl, rfl, rfl, by decide +kernel, rfl, by decide +kernel, by decide +kernel⟩
def sp_played : Sp := fun vs H Q _ => ∃ (S : List (List Nat)) (many : Nat) (a : Addr) (ys : List V) (way : List (Nat × List Nat)), vs = [.ref a, .int many] ∧ ShOk S ∧ many ≤ 1000 ∧ H a = some (.lst ys) ∧ Paired (RW H) ys way ∧ WayTo S many (goal S) way ∧
  ∀ v' H' ps, Same H H' → Sq false RP H' v' ps → GoodPlay S many ps → Q v' H'
theorem got_played (T : Txt K mg) : Got P w K mg base 1 "played" ["way", "many"] sp_played := by
  refine got_of T.d_played sc_played (fun F => (FunD.bindsN F fun _ _ _ _ _ _ us hl => match us, hl with | [_, _], _ => rfl)) (fun vs H Q E h => ?_) (fun f cdv A outer s H vs Q E hr h => ?_)
  · obtain ⟨S, m, a, ys, way, rfl, _⟩ := h; rfl
  obtain ⟨S, many, a, ys, way, rfl, ok, hmany, ha, pw, hway, kk⟩ := h
  have hu := hu_of hr
  have few := ok.few
  have hwl := way_len hway
  have hyl : ys.length = way.length := Paired.length pw
  refine ⟨_, (pss_cons (ps_asg (pe_tup (pa_cons pe_dnewK (pa_cons (pe_lst pa_nil) pa_nil))) (pg_tup rfl (pgs_cons (pg_name (i := 2) sc_played.nd rfl (Or.inr rfl)) (pgs_cons (pg_name (i := 3) sc_played.nd rfl (Or.inl rfl)) pgs_nil))))
      (pss_cons (ps_for PassesOwn.never rfl (pi_list (pv 0)) (pg_tup rfl (pgs_cons (pg_name (i := 4) sc_played.nd rfl (Or.inl rfl)) (pgs_cons (pg_name (i := 5) sc_played.nd rfl (Or.inr rfl)) pgs_nil))) (pss_cons (ps_setLc (i := 6) (own := [("cell", 7)]) (g := (gName 7)) rfl sc_played.nd rfl rfl (sw_true rfl rfl rfl (by decide +kernel)) (pi_range1 (by rfl) T.z_range (pa_cons (pv 1) pa_nil)) (blkOk_by (N := ["way", "many", "cells", "found", "knot", "lot", "free", "cell"]) (sc := (defScope st_played)) (by decide +kernel)) (fun _ _ _ _ _ => (pg_name (i := 7) sc_played.nd rfl (Or.inl rfl))) (fun _ _ _ _ _ => (pts_one (PW.pt (pw_or (pt_cmp (pc_dnotin hu (pv 7) (pv 2))) (pw_or1 (pt_cmpR (r := rIn K true) op_notIn_seq (pe_dget hu (pv 2) (pv 7) (fun _ _ => rfl)) (pv 5) rfl)))))) (fun _ _ _ _ _ => (pv 7)))
      (pss_cons (ps_expr (pe_bm PySem.F.plainAttrs_list PySem.F.slot_list_append PySem.F.type_list_append mt_append (pv 3) (pa_cons (pe_tup (pa_cons (pv 4) (pa_cons (pe_ix (r := rIx K) ix_seq (pv 6) pe_int (fun _ _ => rfl)) pa_nil))) pa_nil)))
      (pss_one (ps_dput hu (pv 2) (pe_ix (r := rIx K) ix_seq (pv 6) pe_int (fun _ _ => rfl)) (pv 4) rfl)))))
      (pss_one (ps_ret (pe_callTy (r := rTupOf K) call_tuple_of (by rfl) T.z_tuple (by decide +kernel) (pa_cons (pv 3) pa_nil)))))), ?_⟩
  refine fun d hd => ⟨Nat.zero_le _, fun fA hfA => ⟨(by show 2 ≤ sizeLine; decide), fun tt ht => ⟨tt, _, rfl, SqT.of upd_same, rfl, _, _, rfl, _, _, rfl, rfl, ?_⟩⟩⟩
  have s1 := ((same_new (o := .dK []) hd).trans (same_new (o := .lst []) hfA)).trans (same_new (o := .tup [.ref d, .ref fA]) ht)
  generalize hH1 : upd (upd (upd H d (.dK [])) fA (.lst [])) tt (.tup [.ref d, .ref fA]) = H1 at s1
  have hd1 : H1 d = some (.dK (kvC [])) := by rw [← hH1]; exact same_new ht _ _ (same_new hfA _ _ upd_same)
  have hf1 : H1 fA = some (.lst []) := by rw [← hH1]; exact same_new ht _ _ upd_same
  have hfA0 : H fA = none := same_none (same_new (o := .dK []) hd) hfA
  have ndf : d ≠ fA := ne_of_none upd_same hfA
  refine ⟨_, rfl, a, rfl, ⟨_, SqL.of (s1 _ _ ha)⟩, ?_⟩
  refine for_it (walk_list (xs := ys)) (fun i σ H' => ∃ (m : Nat) (ps : List (Nat × Nat)) (cl : Cl) (zs : List V) (x4 x5 x6 x7 : Option V), σ = [some (.ref a), some (.int many), some (.ref d), some (.ref fA), x4, x5, x6, x7] ∧ Same H H' ∧ H' d = some (.dK (kvC cl)) ∧ H' fA = some (.lst zs) ∧
      Paired (RP H') zs ps ∧ WayTo S many m (way.take i) ∧ Playing S many m ps ∧ (∀ c, cl.lookup c = afterC noC ps c) ∧ ps.map (·.1) = (way.take i).map (·.1) ∧ cl.length ≤ i ∧ ps.length = i)
    ⟨0, [], [], [], none, none, none, none, rfl, s1, hd1, hf1, .nil, .nil, Playing.start S many, fun c => rfl, rfl, Nat.le_refl _, rfl⟩ (fun i σ H' _ ⟨_, _, _, _, _, _, _, _, _, s2, _⟩ => SqL.of (s2 _ _ ha)) ?_ ?_
  · rintro i y σ _ H2 hi ⟨m, ps, cl, zs, x4, x5, x6, x7, rfl, s2, hd2, hf2, pz, hw2, pl, hcl, hps, hcll, hpsl⟩ ⟨rfl, hy⟩
    obtain ⟨⟨k, lot⟩, hk, t0, u0, rfl, ht0, hu0⟩ := pgetL pw hy
    obtain ⟨mi, hw3, hst, hlot⟩ := hway.at i k lot hk
    have emi : mi = m := by
      apply Nat.eq_of_testBit_eq
      intro j
      rw [Bool.eq_iff_iff, hw3.bits, hw2.bits]
    subst emi
    subst hlot
    obtain ⟨c0, hc0, hfree0⟩ := Playing.free ok pl hw2 hst
    have ht2 := s2 _ _ ht0
    have hu2 := monoT_TN _ _ _ _ (keepT_same s2) hu0
    obtain ⟨b0, rfl, hb2⟩ := hu2.of
    refine ⟨t0, _, rfl, SqT.of ht2, rfl, _, _, rfl, _, _, rfl, rfl, ?_⟩
    refine ⟨_, rfl, _, rfl, by omega, by omega, fun F hF => ?_⟩
    refine lc_rel walk_range RN monoT_RN (fun c => decide (∀ x, afterC noC ps c = some x → x ∉ kept S (mi ||| 2 ^ k))) (fun c => c) hF (by simp; omega) (fun H' s => trivial) ?_ ?_
    · rintro c y _ H3 hc s3 ⟨rfl, rfl⟩ K1 K2 h1 h2
      refine ⟨rfl, ?_⟩
      have hd3 := s3 _ _ hd2
      have hb3 := s3 _ _ hb2
      have ec : (0 + (c : Int)) = (c : Int) := Int.zero_add _
      simp only [ec]
      refine tOr_of (decide (afterC noC ps c = none)) (decide (∀ x, afterC noC ps c = some x → x ∉ kept S (mi ||| 2 ^ k))) (fun Q' q => ?_) (fun hne H4 s4 Q' q => ?_) (fun H4 s4 => ?_)
      · refine ⟨_, rfl, _, rfl, d, _, rfl, DGet.k (k := Sum.inl ((c : Nat) : Int)) hd3, _, rfl, ?_⟩
        rw [kvC_val, hcl]
        cases hq : afterC noC ps c with
        | none => rw [hq] at q; exact q _ (Same.refl _)
        | some x => rw [hq] at q; exact q _ (Same.refl _)
      · cases hq : afterC noC ps c with
        | none => rw [hq] at hne; cases hne
        | some x =>
          refine ⟨_, rfl, _, rfl, d, .int (x : Int), rfl, ?_, _, rfl, ?_⟩
          · have : some (V.int (x : Int)) = valV (kvC cl) (Sum.inl ((c : Nat) : Int) : Key) := by rw [kvC_val, hcl, hq]; rfl
            rw [this]
            exact DGet.k (k := Sum.inl ((c : Nat) : Int)) (s4 _ _ hd3)
          · refine ⟨b0, _, rfl, .inr (SqT.of (s4 _ _ hb3)), rfl, flat_nv _, _, rfl, ?_⟩
            show Q' (!inV _ _) _
            rw [inV_nv]
            rw [hq] at q
            have e : decide (∀ y, some x = some y → y ∉ kept S (mi ||| 2 ^ k)) = !decide (x ∈ kept S (mi ||| 2 ^ k)) := by
              rw [Bool.eq_iff_iff, decide_eq_true_iff, Bool.not_eq_true', decide_eq_false_iff_not]
              exact ⟨fun h => h x rfl, fun h y e => by cases e; exact h⟩
            rw [e] at q
            exact q _ (Same.refl _)
      · have e : (decide (afterC noC ps c = none) || decide (∀ x, afterC noC ps c = some x → x ∉ kept S (mi ||| 2 ^ k))) = decide (∀ x, afterC noC ps c = some x → x ∉ kept S (mi ||| 2 ^ k)) := by
          cases hq : afterC noC ps c with
          | none => simp
          | some x => simp
        rw [e]
        refine ite2 (fun c' => ?_) (fun c' => ?_)
        · exact ⟨_, rfl, h1 c' _ _ s4 rfl⟩
        · exact h2 (by simpa using c') _ s4
    intro H3 fs s3 hz pf
    have ef := paired_nv pf
    rw [Int.toNat_natCast, List.map_id'] at ef
    rw [ef] at hz
    generalize hfl : (List.range many).filter (fun c => decide (∀ x, afterC noC ps c = some x → x ∉ kept S (mi ||| 2 ^ k))) = fl at hz
    have hfm : ∀ c, c ∈ fl ↔ c < many ∧ ∀ x, afterC noC ps c = some x → x ∉ kept S (mi ||| 2 ^ k) := fun c => by
      rw [← hfl, List.mem_filter, List.mem_range, decide_eq_true_iff]
    cases fl with
    | nil =>
      have := (hfm c0).mpr ⟨hc0, hfree0⟩
      simp at this
    | cons c1 fr =>
      obtain ⟨hc1, hfree1⟩ := (hfm c1).mp List.mem_cons_self
      have g0 : (nv (c1 :: fr))[0]? = some (.int (c1 : Int)) := rfl
      have s23 := s2.trans s3
      have hf3 := s3 _ _ hf2
      have hd3 := s3 _ _ hd2
      have nFf : F ≠ fA := (ne_of_none hf2 hF).symm
      have nFd : F ≠ d := (ne_of_none hd2 hF).symm
      refine ⟨_, rfl, .inl ⟨rfl, _, SqL.of hf3⟩, _, rfl, _, rfl, rIx_l hz (j := 0) rfl g0 ?_⟩
      refine ⟨(by show 2 ≤ sizeLine; decide), fun t ht => ?_⟩
      have s4 := same_new (o := .tup [.int (k : Nat), .int (c1 : Nat)]) ht
      generalize hH4 : upd H3 t (.tup [.int (k : Nat), .int (c1 : Nat)]) = H4 at s4
      have ht4 : H4 t = some (.tup [.int (k : Nat), .int (c1 : Nat)]) := by rw [← hH4, upd_same]
      have hf4 := s4 _ _ hf3
      have hz4 := s4 _ _ hz
      have hd4 := s4 _ _ hd3
      have hzl : zs.length = ps.length := Paired.length pz
      refine ⟨fA, _, _, rfl, rfl, hf4, (by show zs.length < 2 ^ 24; omega), ?_⟩
      have k5 := keepT_lst (o := .lst (zs ++ [.ref t])) hf4
      have hd5 : (upd H4 fA (.lst (zs ++ [.ref t]))) d = some (.dK (kvC cl)) := by rw [upd_ne ndf]; exact hd4
      have hz5 : (upd H4 fA (.lst (zs ++ [.ref t]))) F = some (.lst (nv (c1 :: fr))) := by rw [upd_ne nFf]; exact hz4
      refine ⟨_, rfl, _, rfl, _, rfl, rIx_l hz5 (j := 0) rfl g0 ?_⟩
      refine ⟨d, _, rfl, DPut.k (k := Sum.inl ((c1 : Nat) : Int)) hd5 (by show (kvC cl).length < 2 ^ 24; simp [kvC]; omega), ?_⟩
      rw [kvC_put]
      have k6 := keepT_dK (o := .dK (kvC (clPut cl c1 k))) hd5
      have htk : way.take (i + 1) = way.take i ++ [(k, kept S (mi ||| 2 ^ k))] := by rw [List.take_add_one, hk]; rfl
      refine ⟨mi ||| 2 ^ k, ps ++ [(k, c1)], clPut cl c1 k, zs ++ [.ref t], _, _, _, _, rfl, same_over (same_over (s23.trans s4) hfA0) hd, upd_same, ?_, ?_, ?_, ?_, ?_, ?_, ?_, ?_⟩
      · rw [upd_ne ndf.symm, upd_same]
      · refine paired_append (pmap pz fun _ _ r => monoT_RP _ _ _ _ (((keepT_same (s3.trans s4)).trans k5).trans k6) r) (.cons ⟨t, rfl, k6 _ _ (k5 _ _ ht4)⟩ .nil)
      · rw [htk]; exact .snoc hw2 hst
      · exact Playing.next ok pl hw2 hst hc1 hfree1
      · intro c
        rw [clPut_lookup, afterC_snoc, hcl]
        rfl
      · rw [htk, List.map_append, List.map_append, hps]
        rfl
      · have := clPut_len cl c1 k
        omega
      · rw [List.length_append, List.length_singleton, hpsl]
  · rintro σ H2 ⟨m, ps, cl, zs, x4, x5, x6, x7, rfl, s2, hd2, hf2, pz, hw2, pl, hcl, hps, hcll, hpsl⟩
    rw [hyl, List.take_length] at hw2 hps
    have em : m = goal S := by
      apply Nat.eq_of_testBit_eq
      intro j
      rw [Bool.eq_iff_iff, hway.bits, hw2.bits]
    subst em
    refine ⟨_, rfl, _, _, rfl, .inl ⟨SqL.of hf2, fun q hq => ?_⟩⟩
    have s3 := same_new (o := .tup zs) hq
    exact kk _ _ ps (s2.trans s3) ⟨q, zs, rfl, upd_same, pmap pz fun _ _ r => monoT_RP _ _ _ _ (keepT_same s3) r⟩ (good_of ok hway pl hps)

/-- slots: 0=shape 1=many; cells:  -/
theorem sc_sparing_play : FnScope ["shape", "many"] ["shape"] (defScope st_sparing_play) := ⟨rfl, rfl, rfl, by decide +kernel, rfl, by decide +kernel, by decide +kernel⟩
theorem IsSp.le {S : List (List Nat)} (ok : ShOk S) {n : Nat} (h : IsSp S n) : n ≤ S.length := by
  refine Nat.le_of_not_lt fun hlt => h.2.2 S.length ok.pos hlt (way_full ok S.length (Nat.le_refl _))
def sp_sparing_play : Sp := fun vs H Q _ => ∃ (l : Bool) (v : V) (S : List (List Nat)), vs = [v] ∧ SS l H v S ∧ ShOk S ∧ ∀ n v' H' ps, Same H H' → IsSp S n → Sq false RP H' v' ps → GoodPlay S n ps → Q v' H'
theorem got_sparing_play (T : Txt K mg) : Got P w K mg base 5 "sparing_play" ["shape"] sp_sparing_play := by
  refine got_of T.d_sparing_play sc_sparing_play (fun F => (FunD.bindsN F fun _ _ _ _ _ _ us hl => match us, hl with | [_], _ => rfl)) (fun vs H Q E h => ?_) (fun f cdv A outer s H vs Q E hr h => ?_)
  · obtain ⟨l, v, S, rfl, _⟩ := h; rfl
  obtain ⟨l, v, S, rfl, hv, ok, kk⟩ := h
  obtain ⟨_, _, m_tuple_of, G_tuple_of, k_tuple_of, b_tuple_of⟩ := (got_tuple_of2 (P := P) (w := w) (base := base) l T).ex
  obtain ⟨_, _, m_sparing_way, G_sparing_way, k_sparing_way, b_sparing_way⟩ := (got_sparing_way (P := P) (w := w) (base := base) T).ex
  obtain ⟨_, _, m_sparing_cells, G_sparing_cells, k_sparing_cells, b_sparing_cells⟩ := (got_sparing_cells (P := P) (w := w) (base := base) T).ex
  obtain ⟨_, _, m_played, G_played, k_played, b_played⟩ := (got_played (P := P) (w := w) (base := base) T).ex
  have few := ok.few
  refine ⟨_, (pss_cons (ps_set (i := 1) sc_sparing_play.nd rfl (Or.inl rfl) (pe_call G_sparing_cells (hr.mono (by first | decide | omega)) rfl m_sparing_cells k_sparing_cells b_sparing_cells .nil pass0 (pa_cons (pv 0) pa_nil)))
      (pss_one (ps_ret (pe_call G_played (hr.mono (by first | decide | omega)) rfl m_played k_played b_played .nil pass0 (pa_cons (pe_call G_sparing_way (hr.mono (by first | decide | omega)) rfl m_sparing_way k_sparing_way b_sparing_way .nil pass0 (pa_cons (pe_call G_tuple_of (hr.mono (by first | decide | omega)) rfl m_tuple_of k_tuple_of b_tuple_of .nil pass0 (pa_cons (pv 0) pa_nil)) (pa_cons (pv 1) pa_nil))) (pa_cons (pv 1) pa_nil)))))), ?_⟩
  refine ⟨_, rfl, l, _, S, rfl, hv, ok, fun n H1 s1 hn => ?_⟩
  refine ⟨_, rfl, _, S, by omega, rfl, monoS_SS _ _ _ _ s1 hv, ok.small, fun v1 H2 s2 hv1 => ?_⟩
  have hnl := hn.le ok
  refine ⟨_, rfl, v1, S, n, rfl, hv1, ok, fun H3 s3 hnr => absurd hn.2.1 hnr, fun p H3 ys way np s3 hp pw hre => ?_⟩
  refine ⟨_, rfl, S, n, p, ys, way, rfl, ok, by omega, hp, pw, hre, fun v' H4 ps s4 hps g => ?_⟩
  exact kk n v' H4 ps (((s1.trans s2).trans s3).trans s4) hn hps g
/-- slots: 0=shape 1=many 2=thing 3=cells 4=own 5=part; cells: cells -/
theorem sc_is_play : FnScope ["shape", "many", "thing", "cells", "own", "part"] ["shape", "many", "thing"] (defScope st_is_play) := ⟨rfl, rfl, rfl, by decide +kernel, rfl, by decide +kernel, by decide +kernel⟩
def sp_is_play : Sp := fun vs H Q _ => ∃ (l : Bool) (v u : V) (S : List (List Nat)) (many : Nat) (ps : List (Nat × Nat)), vs = [v, .int many, u] ∧ TS' H v S ∧ ShOk S ∧ many ≤ 1000 ∧ Sq l RP H u ps ∧ ps.length ≤ 1000 ∧ (∀ p ∈ ps, p.1 < S.length ∧ p.2 < many) ∧
  ∀ H', Same H H' → Q (.bl (!l && isPlayB S many ps)) H'
theorem got_is_play (T : Txt K mg) : Got P w K mg base 3 "is_play" ["shape", "many", "thing"] sp_is_play := by
  refine got_of T.d_is_play sc_is_play (fun F => (FunD.bindsN F fun _ _ _ _ _ _ us hl => match us, hl with | [_, _, _], _ => rfl)) (fun vs H Q E h => ?_) (fun f cdv A outer s H vs Q E hr h => ?_)
  · obtain ⟨l, v, u, S, m, ps, rfl, _⟩ := h; rfl
  obtain ⟨l, v, u, S, many, ps, rfl, ⟨a, vs0, rfl, ha, pr⟩, ok, hmany, ⟨b, us, rfl, hb, pp⟩, hpl, hlt, kk⟩ := h
  have ha : H a = some (.tup vs0) := ha
  have hlv : vs0.length = S.length := Paired.length pr
  have hul : us.length = ps.length := Paired.length pp
  have hu := hu_of hr
  have few := ok.few
  obtain ⟨_, _, m_is_tuple_of, G_is_tuple_of, k_is_tuple_of, b_is_tuple_of⟩ := (got_is_tuple_of (P := P) (w := w) (base := base) T).ex
  obtain ⟨_, _, m_is_set, G_is_set, k_is_set, b_is_set⟩ := (got_is_set (P := P) (w := w) (base := base) T).ex
  refine ⟨_, (pss_cons (ps_if (PW.pt (pw_or (pt_not (pt_val (pe_callB (r := rIsi K) call_isi (by rfl) T.z_isinstance (by decide +kernel) (pa_cons (pv 2) (pa_cons (pe_bltn (v := .ty "tuple") (by rfl) T.z_tuple (by decide +kernel) rfl) pa_nil))))) (pw_or1 (pt_cmpR op_eq (pe_callB (r := rLenS K) call_len_seq (by rfl) T.z_len (by decide +kernel) (pa_cons (pv 2) pa_nil)) pe_int (nomark _))))) (pss_one (ps_ret pe_bl)) pss_nil)
      (pss_cons (ps_set (i := 3) sc_is_play.nd rfl (Or.inr rfl) pe_dnewK)
      (pss_cons (ps_for PassesOwn.never rfl (pi_sq l (pv 2)) (pg_name (i := 4) sc_is_play.nd rfl (Or.inl rfl)) (pss_cons (ps_if (PW.pt (pw_or (pt_not (pt_val (pe_call G_is_tuple_of (hr.mono (by first | decide | omega)) rfl m_is_tuple_of k_is_tuple_of b_is_tuple_of .nil pass0 (pa_cons (pv 4) (pa_cons pe_int pa_nil))))) (pw_or (pt_not (pt_val (pe_call G_is_set (hr.mono (by first | decide | omega)) rfl m_is_set k_is_set b_is_set .nil pass0 (pa_cons (pe_slice (r := rSlA K) sl_tupA (pv 4) po_none (po_some pe_int)) (pa_cons (pe_callB (r := rLenS K) call_len_seq (by rfl) T.z_len (by decide +kernel) (pa_cons (pv 0) pa_nil)) pa_nil))))) (pw_or1 (pt_not (pt_val (pe_call G_is_set (hr.mono (by first | decide | omega)) rfl m_is_set k_is_set b_is_set .nil pass0 (pa_cons (pe_slice (r := rSlA K) sl_tupA (pv 4) (po_some pe_int) po_none) (pa_cons (pv 1) pa_nil))))))))) (pss_one (ps_ret pe_bl)) pss_nil)
      (pss_cons (ps_if (pt_not (pt_val (pe_callB (r := rAll K) (cr_all rfl) (by rfl) T.z_all (by decide +kernel) (pa_cons (pe_lc (own := [("part", 5)]) (g := (gName 5)) (tt := tYes) (wi := iTup K _) rfl sc_is_play.nd (pi_tup (pe_ix (r := rIxT K) ix_tup (pv 0) (pe_ix (r := rIx K) ix_seq (pv 4) pe_int (fun _ _ => rfl)) (fun _ _ => rfl))) (blkOk_by (N := ["shape", "many", "thing", "cells", "own", "part"]) (sc := (defScope st_is_play)) (by decide +kernel)) (fun _ _ _ _ _ => (pg_name (i := 5) sc_is_play.nd rfl (Or.inl rfl))) (fun _ _ _ _ _ => pts_nil) (fun _ _ _ _ _ => (pe_cmpR (r := rIn K false) op_in_seq (pv 5) (pe_listVals rfl (pv 3) (by rfl) T.z_list (by decide +kernel)) rfl))) pa_nil)))) (pss_one (ps_ret pe_bl)) pss_nil)
      (pss_one (ps_dput hu (pv 3) (pe_ix (r := rIx K) ix_seq (pv 4) pe_int (fun _ _ => rfl)) (pe_ix (r := rIx K) ix_seq (pv 4) pe_int (fun _ _ => rfl)) rfl)))))
      (pss_one (ps_ret (pe_cmpR op_eq (pe_ix (r := rIx K) ix_seq (pe_ix (r := rIx K) ix_seq (pv 2) (pe_un un_neg pe_int) (fun _ _ => rfl)) pe_int (fun _ _ => rfl)) (pe_op op_sub (pe_callB (r := rLenS K) call_len_seq (by rfl) T.z_len (by decide +kernel) (pa_cons (pv 0) pa_nil)) pe_int) (nomark _))))))), ?_⟩
  cases l with
  | true =>
    have hb : H b = some (.lst us) := hb
    refine ⟨_, rfl, _, _, _, _, _, rfl, .ty _, .base (.lst hb), kit_lt, _, rfl, ?_⟩
    exact iteT (iteT (kk _ (Same.refl _)))
  | false =>
    have hb : H b = some (.tup us) := hb
    refine ⟨_, rfl, _, _, _, _, _, rfl, .ty _, .base (.tup hb), kit_tt, _, rfl, ?_⟩
    refine iteF ⟨_, rfl, b, _, rfl, .inr (SqT.of hb), rfl, _, rfl, ?_⟩
    cases ps with
    | nil =>
      have e : decide (V.int ((us.length : Nat) : Int) = V.int 0) = true := by rw [hul]; rfl
      rw [e]
      exact iteT (kk _ (Same.refl _))
    | cons p0 pr0 =>
    generalize hps : p0 :: pr0 = ps at pp hpl hlt kk hul
    have hpne : ps ≠ [] := by rw [← hps]; simp
    have hpos : 0 < ps.length := List.length_pos_iff.mpr hpne
    have e : decide (V.int ((us.length : Nat) : Int) = V.int 0) = false := by
      rw [dec_int, beq_eq_false_iff_ne]
      omega
    rw [e]
    refine iteF fun d hd => ?_
    have s1 := same_new (o := .dK []) hd
    refine ⟨_, rfl, b, rfl, ⟨us, s1 _ _ hb⟩, ?_⟩
    refine for_it (walk_sq false (xs := us)) (fun i σ H' => ∃ (cl : Cl) (x4 x5 : Option V), σ = [some (.ref a), some (.int many), some (.ref b), some (.ref d), x4, x5] ∧ Same H H' ∧ H' d = some (.dK (kvC cl)) ∧
        (∀ c, cl.lookup c = afterC noC (ps.take i) c) ∧ (cl.map (·.1)).Nodup ∧ cl.length ≤ i ∧ playGo S many noC (ps.take i) = true)
      ⟨[], none, none, rfl, s1, upd_same, fun c => rfl, List.nodup_nil, Nat.le_refl _, rfl⟩ (fun i σ H' _ ⟨_, _, _, _, s2, _⟩ => s2 _ _ hb) ?_ ?_
    · rintro i y σ _ H2 hi ⟨cl, x4, x5, rfl, s2, hd2, hcl, hnd, hcll, hgo⟩ ⟨rfl, hy⟩
      obtain ⟨⟨k, c⟩, hk, t0, rfl, ht0⟩ := pgetL pp hy
      obtain ⟨hkS, hcm⟩ := hlt _ (List.mem_of_getElem? hk)
      have hkS : k < S.length := hkS
      have hcm : c < many := hcm
      have ht2 : H2 t0 = some (.tup [.int (k : Int), .int (c : Int)]) := s2 _ _ ht0
      have htk : ps.take (i + 1) = ps.take i ++ [(k, c)] := by rw [List.take_add_one, hk]; rfl
      -- the checks
      refine ⟨_, rfl, _, _, rfl, .inl ⟨t0, _, rfl, ht2, _, rfl, ?_⟩⟩
      refine iteF ?_
      refine ⟨_, rfl, _, rfl, t0, _, rfl, SqT.of ht2, fun hh => absurd hh.2 (show ¬ (HT.sIx 2 2 (some 1) = 2) by decide), fun _ q1 hq1 => ?_⟩
      have s3 := same_new (o := .tup (cutV [.int (k : Int), .int (c : Int)] none (some 1))) hq1
      refine ⟨_, rfl, a, _, rfl, .inr (SqT.of (s3 _ _ (s2 _ _ ha))), ?_⟩
      refine ⟨_, [k], vs0.length, rfl, TN.mk (show _ = some (HO.tup [V.int (k : Int)]) from upd_same), List.pairwise_singleton _ _, (by simpa [hlv] using hkS), (by simp), fun H4 s4 => ?_⟩
      refine ⟨_, rfl, iteF ?_⟩
      have s24 := s2.trans (s3.trans s4)
      have ht4 := (s3.trans s4) _ _ ht2
      refine ⟨_, rfl, _, rfl, t0, _, rfl, SqT.of ht4, fun hh => absurd hh.1 (show ¬ (HT.sIx 2 0 (some 1) = 0) by decide), fun _ q2 hq2 => ?_⟩
      have s5 := same_new (o := .tup (cutV [.int (k : Int), .int (c : Int)] (some 1) none)) hq2
      refine ⟨_, rfl, ?_⟩
      refine ⟨_, [c], many, rfl, TN.mk (show _ = some (HO.tup [V.int (c : Int)]) from upd_same), List.pairwise_singleton _ _, (by simpa using hcm), (by simp), fun H6 s6 => ?_⟩
      refine ⟨_, rfl, iteF ?_⟩
      have s26 := s24.trans (s5.trans s6)
      have s06 : Same H2 H6 := (s3.trans s4).trans (s5.trans s6)
      have ht6 := s06 _ _ ht2
      have hd6 := s06 _ _ hd2
      -- all parts lie in cells
      obtain ⟨bk, hbk, hbk2⟩ := SS.get (l := false) pr hkS
      have hbk2 : H bk = some (.tup (nv (parts S k))) := hbk2
      have hbk6 := s26 _ _ hbk2
      refine ⟨_, rfl, _, rfl, rIx_t ht6 (j := 0) rfl rfl ?_⟩
      refine ⟨a, _, _, _, rfl, rfl, SqT.of (s26 _ _ ha), atN hbk, ?_⟩
      refine ⟨bk, rfl, ⟨_, SqT.of hbk6⟩, fun D hD => ?_⟩
      have hpn := nodup_le (ok.nd hkS) fun x hx => ok.lt hkS hx
      refine lc_rel (walk_tup (xs := nv (parts S k))) RB monoT_RB (fun _ => true) (fun j => decide ((parts S k).getD j 0 ∈ cl.map (·.2))) hD (by rw [nv_length]; omega) (fun H' s => SqT.of (s _ _ hbk6)) ?_ ?_
      · rintro j y _ H7 hj s7 ⟨rfl, hy7⟩ K1 K2 h1 h2
        obtain ⟨x, hx, rfl⟩ := nv_at hy7
        rw [getD_of hx] at h1
        refine ⟨rfl, tyes_ok (iteT ?_)⟩
        refine ⟨_, rfl, _, rfl, d, _, rfl, s7 _ _ hd6, fun q hq => ?_⟩
        have s8 := same_new (o := .lst ((kvC cl).map (·.2))) hq
        have ev := kvC_vals cl
        refine ⟨q, _, rfl, .inl (SqL.of (show _ = some (HO.lst (nv (cl.map (·.2)))) by rw [upd_same, ev])), rfl, flat_nv _, ?_⟩
        show K1 (.bl (inV _ _)) _
        rw [inV_nv]
        exact h1 rfl _ _ s8 rfl
      intro H7 bs s7 hz pz
      have ez := paired_bv pz
      rw [nv_length, range_f (parts S k) (fun x => decide (x ∈ cl.map (·.2))) 0] at ez
      have eall : ((parts S k).map fun x => decide (x ∈ cl.map (·.2))).all id = hasAll S many (afterC noC (ps.take i)) k := by
        unfold hasAll
        rw [List.all_map, Bool.eq_iff_iff, List.all_eq_true, List.all_eq_true]
        refine forall_congr' fun x => imp_congr_right fun _ => ?_
        show decide (x ∈ cl.map (·.2)) = true ↔ _
        rw [decide_eq_true_iff, vals_iff hnd, List.any_eq_true]
        constructor
        · rintro ⟨c', hc'⟩
          rw [hcl] at hc'
          have hcm' : c' < many := by
            have : ∀ (qs : List (Nat × Nat)) (C : Cst), (∀ p ∈ qs, p.2 < many) → (∀ z y, C z = some y → z < many) → ∀ z y, afterC C qs z = some y → z < many := by
              intro qs
              induction qs with
              | nil => intro C _ h z y hz; exact h z y hz
              | cons p r ih =>
                obtain ⟨pk, pc⟩ := p
                intro C hp h z y hz
                refine ih _ (fun q hq => hp q (List.mem_cons_of_mem _ hq)) (fun z' y' hz' => ?_) z y hz
                unfold putC at hz'
                split at hz'
                · rename_i e; rw [e]; exact hp _ List.mem_cons_self
                · exact h z' y' hz'
            exact this (ps.take i) noC (fun p hp => (hlt p (List.mem_of_mem_take hp)).2) (fun z y hz => by cases hz) c' x hc'
          exact ⟨c', List.mem_range.mpr hcm', decide_eq_true hc'⟩
        · rintro ⟨c', _, hc'⟩
          exact ⟨c', by rw [hcl]; exact of_decide_eq_true hc'⟩
      refine ⟨_, _, rfl, SqL.of (by rw [hz, ez]), _, rfl, ?_⟩
      rw [eall]
      have s27 := s26.trans s7
      cases hall : hasAll S many (afterC noC (ps.take i)) k with
      | false =>
        refine iteT ?_
        have ef : isPlayB S many ps = false := by
          have hsplit : ps = ps.take (i + 1) ++ ps.drop (i + 1) := (List.take_append_drop _ _).symm
          have hgen : ∀ (qs rs : List (Nat × Nat)) (C : Cst), playGo S many C qs = false → playGo S many C (qs ++ rs) = false := by
            intro qs
            induction qs with
            | nil => intro rs C h; cases h
            | cons p r ih =>
              obtain ⟨pk, pc⟩ := p
              intro rs C h
              simp only [playGo, List.cons_append, Bool.and_eq_false_iff] at h ⊢
              exact h.imp_right fun h => ih rs _ h
          unfold isPlayB
          rw [hsplit, hgen _ _ _ (by rw [htk, playGo_snoc, hall, Bool.and_false])]
          rfl
        rw [ef] at kk
        exact kk _ s27
      | true =>
        refine iteF ?_
        have ht7 := s7 _ _ ht6
        have hd7 := s7 _ _ hd6
        refine ⟨_, rfl, rIx_t ht7 (j := 0) rfl rfl ?_⟩
        refine ⟨_, rfl, _, rfl, rIx_t ht7 (j := 1) rfl rfl ?_⟩
        refine ⟨d, _, rfl, DPut.k (k := Sum.inl ((c : Nat) : Int)) hd7 (by show (kvC cl).length < 2 ^ 24; simp [kvC]; rw [hul] at hi; omega), ?_⟩
        rw [kvC_put]
        refine ⟨clPut cl c k, _, _, rfl, same_over s27 hd, upd_same, ?_, clPut_nd hnd c k, ?_, ?_⟩
        · intro c'
          rw [clPut_lookup, htk, afterC_snoc, hcl]
          rfl
        · have := clPut_len cl c k
          omega
        · rw [htk, playGo_snoc, hgo, hall]
          rfl
    · rintro σ H2 ⟨cl, x4, x5, rfl, s2, hd2, hcl, hnd, hcll, hgo⟩
      rw [hul, List.take_length] at hgo
      have hlast : us[us.length - 1]? = some us[us.length - 1] := List.getElem?_eq_getElem (by omega)
      obtain ⟨⟨k, c⟩, hk, t0, e0, ht0⟩ := pgetL pp hlast
      rw [hul] at hk
      have ht2 := s2 _ _ ht0
      have hg : us[us.length - 1]? = some (.ref t0) := by rw [hlast, e0]
      refine ⟨_, rfl, _, rfl, .inr (.inl ⟨b, us, _, _, rfl, rfl, SqT.of (s2 _ _ hb), atI_neg1 hg, ?_⟩)⟩
      refine rIx_t ht2 (j := 0) rfl rfl ?_
      refine ⟨_, rfl, a, _, rfl, .inr (SqT.of (s2 _ _ ha)), _, _, rfl, rfl, rfl, ?_⟩
      have ep : decide (V.int ((k : Nat) : Int) = V.int (((vs0.length : Nat) : Int) - 1)) = isPlayB S many ps := by
        unfold isPlayB
        rw [hgo, Bool.true_and, List.getLast?_eq_getElem?, hk, dec_int, Bool.eq_iff_iff, beq_iff_eq, decide_eq_true_iff]
        have pos := ok.pos
        simp
        omega
      show Q (.bl (decide (V.int ((k : Nat) : Int) = V.int (((vs0.length : Nat) : Int) - 1)))) H2
      rw [ep]
      exact kk _ s2

/-- slots: 0=shape 1=many 2=thing 3=own; cells:  -/
theorem sc_is_sparing : FnScope ["shape", "many", "thing", "own"] ["shape", "many", "thing"] (defScope st_is_sparing) := ⟨rfl, rfl, rfl, by decide +kernel, rfl, by decide +kernel, by decide +kernel⟩
def spareB (S : List (List Nat)) (many : Nat) (ps : List (Nat × Nat)) : Bool := isPlayB S many ps && decide (dct (ps.map fun p => ((p.1 : Nat) : Int)) = ps.length)
def sp_is_sparing : Sp := fun vs H Q _ => ∃ (l : Bool) (v u : V) (S : List (List Nat)) (many : Nat) (ps : List (Nat × Nat)), vs = [v, .int many, u] ∧ TS' H v S ∧ ShOk S ∧ many ≤ 1000 ∧ Sq l RP H u ps ∧ ps.length ≤ 1000 ∧ (∀ p ∈ ps, p.1 < S.length ∧ p.2 < many) ∧
  ∀ H', Same H H' → Q (.bl (!l && spareB S many ps)) H'
theorem got_is_sparing (T : Txt K mg) : Got P w K mg base 4 "is_sparing" ["shape", "many", "thing"] sp_is_sparing := by
  refine got_of T.d_is_sparing sc_is_sparing (fun F => (FunD.bindsN F fun _ _ _ _ _ _ us hl => match us, hl with | [_, _, _], _ => rfl)) (fun vs H Q E h => ?_) (fun f cdv A outer s H vs Q E hr h => ?_)
  · obtain ⟨l, v, u, S, m, ps, rfl, _⟩ := h; rfl
  obtain ⟨l, v, u, S, many, ps, rfl, hv, ok, hmany, hps, hpl, hlt, kk⟩ := h
  obtain ⟨_, _, m_is_play, G_is_play, k_is_play, b_is_play⟩ := (got_is_play (P := P) (w := w) (base := base) T).ex
  refine ⟨_, (pss_one (ps_ret (pe_and (pe_call G_is_play (hr.mono (by first | decide | omega)) rfl m_is_play k_is_play b_is_play .nil pass0 (pa_cons (pv 0) (pa_cons (pv 1) (pa_cons (pv 2) pa_nil)))) (pe_one (pe_cmpR op_eq (pe_lenSetD (by rfl) T.z_len (by rfl) T.z_set (pe_lc (own := [("own", 3)]) (g := (gName 3)) (tt := tYes) (wi := iTup K _) rfl sc_is_sparing.nd (pi_tup (pv 2)) (blkOk_by (N := ["shape", "many", "thing", "own"]) (sc := (defScope st_is_sparing)) (by decide +kernel)) (fun _ _ _ _ _ => (pg_name (i := 3) sc_is_sparing.nd rfl (Or.inl rfl))) (fun _ _ _ _ _ => pts_nil) (fun _ _ _ _ _ => (pe_ix (r := rIx K) ix_seq (pv 3) pe_int (fun _ _ => rfl))))) (pe_callB (r := rLenS K) call_len_seq (by rfl) T.z_len (by decide +kernel) (pa_cons (pv 2) pa_nil)) (nomark _)))))), ?_⟩
  refine ⟨_, rfl, _, rfl, _, rfl, l, _, _, S, many, ps, rfl, hv, ok, hmany, hps, hpl, hlt, fun H1 s1 => ?_⟩
  refine ⟨_, rfl, ?_⟩
  unfold spareB at kk
  cases hp : (!l && isPlayB S many ps) with
  | false =>
    rw [← Bool.and_assoc, hp] at kk
    exact iteF (kk _ s1)
  | true =>
    rw [← Bool.and_assoc, hp, Bool.true_and] at kk
    refine iteT ?_
    have hl : l = false := by cases l <;> simp at hp ⊢
    subst hl
    obtain ⟨b, us, rfl, hb, pp⟩ := hps
    have hb : H b = some (.tup us) := hb
    have hb1 := s1 _ _ hb
    have hul : us.length = ps.length := Paired.length pp
    refine ⟨_, rfl, b, rfl, ⟨us, SqT.of hb1⟩, fun D hD => ?_⟩
    refine lc_rel (walk_tup (xs := us)) RI monoT_RI (fun _ => true) (fun i => (((ps.getD i (0, 0)).1 : Nat) : Int)) hD (by omega) (fun H' s => SqT.of (s _ _ hb1)) ?_ ?_
    · rintro i y _ H2 hi s2 ⟨rfl, hy⟩ K1 K2 h1 h2
      obtain ⟨⟨k, c⟩, hk, t0, rfl, ht0⟩ := pgetL pp hy
      rw [getD_of hk] at h1
      refine ⟨rfl, tyes_ok (iteT ?_)⟩
      exact ⟨_, rfl, rIx_t (s2 _ _ (s1 _ _ ht0)) (j := 0) rfl rfl (h1 rfl _ _ (Same.refl _) rfl)⟩
    intro H2 zs s2 hz pz
    have ez := paired_iv pz
    rw [hul, range_f ps (fun p => ((p.1 : Nat) : Int)) (0, 0)] at ez
    refine ⟨D, _, rfl, SqL.of (by rw [hz, ez]), by rw [List.length_map]; omega, ?_⟩
    refine ⟨_, rfl, b, _, rfl, .inr (SqT.of (s2 _ _ hb1)), rfl, ?_⟩
    have e : decide (V.int ((dct (ps.map fun p => ((p.1 : Nat) : Int)) : Nat) : Int) = V.int ((us.length : Nat) : Int)) = decide (dct (ps.map fun p => ((p.1 : Nat) : Int)) = ps.length) := by
      rw [dec_int, Bool.eq_iff_iff, beq_iff_eq, decide_eq_true_iff, hul]
      omega
    show Q (.bl (decide (V.int ((dct (ps.map fun p => ((p.1 : Nat) : Int)) : Nat) : Int) = V.int ((us.length : Nat) : Int)))) H2
    rw [e]
    exact kk _ (s1.trans s2)
end
end K27
set_option Elab.async false
set_option linter.all false
set_option maxRecDepth 100000
set_option maxHeartbeats 8000000
namespace K27
open PySem PySem.Spec PyProof.Rows L2
def RT (H : Hp) : V → Tr → Prop
  | v, .lf w => ∃ a u e, v = .ref a ∧ H a = some (.tup [u, .ref e]) ∧ TN H u w ∧ H e = some (.tup [])
  | v, .nd w x y => ∃ a u b p q, v = .ref a ∧ H a = some (.tup [u, .ref b]) ∧ TN H u w ∧ H b = some (.tup [p, q]) ∧ RT H p x ∧ RT H q y
theorem monoT_RT : ∀ (t : Tr) (H H' : Hp) (v : V), KeepT H H' → RT H v t → RT H' v t
  | .lf w, H, H', v, s, ⟨a, u, e, h1, h2, h3, h4⟩ => ⟨a, u, e, h1, s _ _ h2, monoT_TN _ _ _ _ s h3, s _ _ h4⟩
  | .nd w x y, H, H', v, s, ⟨a, u, b, p, q, h1, h2, h3, h4, h5, h6⟩ => ⟨a, u, b, p, q, h1, s _ _ h2, monoT_TN _ _ _ _ s h3, s _ _ h4, monoT_RT x H H' p s h5, monoT_RT y H H' q s h6⟩
def treeB (d : Nat) (t : Tr) : Bool := match tk d t with
  | none => false
  | some ks => decide (dct (ks.map fun k => ((k : Nat) : Int)) = ks.length)
def treeBS (S : List (List Nat)) (d : Nat) (t : Tr) : Bool := match tkS S d t with
  | none => false
  | some ks => decide (dct (ks.map fun k => ((k : Nat) : Int)) = ks.length)
theorem rIx_lastT {K : PySem.W.Frag} {H : Hp} {a : Addr} {vs : List V} (h : H a = some (.tup vs)) {v : V} {Q : VK} (hv : vs[vs.length - 1]? = some v) (q : Q v H) : rIx K (.ref a) (.int (-1)) H Q :=
  .inr (.inl ⟨a, vs, _, v, rfl, rfl, SqT.of h, atI_neg1 hv, q⟩)
theorem lastK_get {w : List Nat} (h : w ≠ []) : (nv w)[(nv w).length - 1]? = some (.int (lastK w : Nat)) := by
  rw [nv_length]
  refine nv_get ?_
  unfold lastK
  rw [← List.getLast?_eq_getElem?, List.getLast?_eq_some_getLast h, List.getLastD_eq_getLast?, List.getLast?_eq_some_getLast h]
  rfl
theorem shaped_nil : SeqAt.shaped (.tuple []) = true := by decide +kernel
theorem eqv_nil : PyData.eqv (.tuple []) (.tuple []) = true := by decide +kernel
theorem shapedL_nil : SeqAt.shaped (.list []) = true := by decide +kernel
theorem eqvL_nil : PyData.eqv (.list []) (.list []) = true := by decide +kernel
theorem three_pow {d : Nat} (h : d ≤ 10) : 3 ^ d ≤ 59049 := Nat.pow_le_pow_right (by omega) h
def sp_tk (d : Nat) : Sp := fun vs H Q _ => ∃ (l : Bool) (v u : V) (S : List (List Nat)) (t : Tr), vs = [v, .int (d : Nat), u] ∧ SS l H v S ∧ S.length ≤ 1000 ∧ RT H u t ∧ TOkW S t ∧ t.hgt ≤ d ∧ d ≤ 10 ∧
  (tkS S d t = none → ∀ H', Same H H' → Q .non H') ∧ (∀ ks, tkS S d t = some ks → ∀ p H', H p = none → Same H H' → H' p = some (.lst (nv ks)) → Q (.ref p) H')
theorem lastK_lt {S : List (List Nat)} {w : List Nat} (h : WayOk S w) : lastK w < S.length := by
  unfold lastK
  rw [List.getLastD_eq_getLast?, List.getLast?_eq_some_getLast h.ne]
  exact h.lt _ (List.getLast_mem h.ne)
section
variable {P : Program} {w : World} {K : PySem.W.Frag} {mg : Str → Option Value} {base : Heap}
/-- slots: 0=shape 1=depth 2=thing 3=found 4=own 5=knots; cells:  -/
theorem sc_tree_knots : FnScope ["shape", "depth", "thing", "found", "own", "knots"] ["shape", "depth", "thing"] (defScope st_tree_knots) := ⟨rfl, rfl, rfl, by decide +kernel, rfl, by decide +kernel, by decide +kernel⟩
theorem got_tree_knots0 (T : Txt K mg) : Got P w K mg base 4 "tree_knots" ["shape", "depth", "thing"] (sp_tk 0) := by
  refine got_of T.d_tree_knots sc_tree_knots (fun F => (FunD.bindsN F fun _ _ _ _ _ _ us hl => match us, hl with | [_, _, _], _ => rfl)) (fun vs H Q E h => ?_) (fun f cdv A outer s H vs Q E hr h => ?_)
  · obtain ⟨l, v, u, S, t, rfl, _⟩ := h; rfl
  obtain ⟨l, v, u, S, t, rfl, hv, hS, ht, tok, hh, _, kN, kS⟩ := h
  obtain ⟨_, _, m_is_tuple_of, G_is_tuple_of, k_is_tuple_of, b_is_tuple_of⟩ := (got_is_tuple_of (P := P) (w := w) (base := base) T).ex
  obtain ⟨_, _, m_are_knots, G_are_knots, k_are_knots, b_are_knots⟩ := (got_are_knots (P := P) (w := w) (base := base) T).ex
  refine ⟨_, (pss_cons (ps_if (PW.pt (pw_or (pt_not (pt_val (pe_call G_is_tuple_of (hr.mono (by first | decide | omega)) rfl m_is_tuple_of k_is_tuple_of b_is_tuple_of .nil pass0 (pa_cons (pv 2) (pa_cons pe_int pa_nil))))) (pw_or1 (pt_not (pt_val (pe_call G_are_knots (hr.mono (by first | decide | omega)) rfl m_are_knots k_are_knots b_are_knots .nil pass0 (pa_cons (pv 0) (pa_cons (pe_ix (r := rIx K) ix_seq (pv 2) pe_int (fun _ _ => rfl)) pa_nil)))))))) (pss_one (ps_ret pe_non)) pss_nil)
      (pss_cons (ps_if (pt_cmpR op_eq (pv 1) pe_int (nomark _)) (pss_one (ps_ret (pe_ifExp (pt_cmpR (r := rEqD K) (op_eqD hr.units) (pe_ix (r := rIxT K) ix_tup (pv 2) pe_int (fun _ _ => rfl)) (pe_tup pa_nil) (nomark _)) (pe_callTy (r := rListOf K) call_list_of (by rfl) T.z_list (by decide +kernel) (pa_cons (pe_ix (r := rIx K) ix_seq (pv 2) pe_int (fun _ _ => rfl)) pa_nil)) pe_non))) pss_nil)
      pss_never)), ?_⟩
  cases t with
  | nd w x y => simp [Tr.hgt] at hh
  | lf w =>
    obtain ⟨a, u1, e, rfl, ha, hu1, he⟩ := ht
    obtain ⟨wok, wl⟩ := tok
    refine ⟨_, rfl, _, _, rfl, .inl ⟨a, _, rfl, ha, _, rfl, ?_⟩⟩
    refine iteF ?_
    refine ⟨_, rfl, _, rfl, rIx_t ha (j := 0) rfl rfl ?_⟩
    refine ⟨l, v, u1, S, w, rfl, hv, hu1, wok, hS, by omega, fun H1 s1 => ?_⟩
    refine ⟨_, rfl, iteF ?_⟩
    refine ⟨_, rfl, rfl, _, rfl, ?_⟩
    refine iteT ?_
    have ha1 := s1 _ _ ha
    refine ⟨_, rfl, a, _, _, _, rfl, rfl, SqT.of ha1, at_of (j := 1) rfl rfl, ?_⟩
    refine ⟨Nat.zero_le _, fun e2 he2 => ?_⟩
    have s2 := same_new (o := .tup []) he2
    refine ⟨.tuple [], .tuple [], .tup (SqT.of (s2 _ _ (s1 _ _ he))) .nil, .tup (SqT.of upd_same) .nil, shaped_nil, shaped_nil, _, rfl, ?_⟩
    rw [eqv_nil]
    refine iteT ?_
    obtain ⟨b, rfl, hb⟩ := hu1.of
    refine ⟨_, rfl, rIx_t (s2 _ _ ha1) (j := 0) rfl rfl ?_⟩
    refine ⟨b, _, rfl, .inr (SqT.of (s2 _ _ (s1 _ _ hb))), fun q hq => ?_⟩
    have s3 := same_new (o := .lst (nv w)) hq
    exact kS w rfl q _ (same_none (s1.trans s2) hq) ((s1.trans s2).trans s3) upd_same
theorem got_tree_knots1 {d k : Nat} (T : Txt K mg) (hk : 3 ≤ k) (hd10 : d < 10) (G : Got P w K mg base k "tree_knots" ["shape", "depth", "thing"] (sp_tk d)) : Got P w K mg base (k + 1) "tree_knots" ["shape", "depth", "thing"] (sp_tk (d + 1)) := by
  refine got_of T.d_tree_knots sc_tree_knots (fun F => (FunD.bindsN F fun _ _ _ _ _ _ us hl => match us, hl with | [_, _, _], _ => rfl)) (fun vs H Q E h => ?_) (fun f cdv A outer s H vs Q E hr h => ?_)
  · obtain ⟨l, v, u, S, t, rfl, _⟩ := h; rfl
  obtain ⟨l, v, u, S, t, rfl, hv, hS, ht, tok, hh, _, kN, kS⟩ := h
  obtain ⟨_, _, m_is_tuple_of, G_is_tuple_of, k_is_tuple_of, b_is_tuple_of⟩ := (got_is_tuple_of (P := P) (w := w) (base := base) T).ex
  obtain ⟨_, _, m_are_knots, G_are_knots, k_are_knots, b_are_knots⟩ := (got_are_knots (P := P) (w := w) (base := base) T).ex
  obtain ⟨_, _, m_tree_knots, G_tree_knots, k_tree_knots, b_tree_knots⟩ := G.ex
  refine ⟨_, (pss_cons (ps_if (PW.pt (pw_or (pt_not (pt_val (pe_call G_is_tuple_of (hr.mono (by first | decide | omega)) rfl m_is_tuple_of k_is_tuple_of b_is_tuple_of .nil pass0 (pa_cons (pv 2) (pa_cons pe_int pa_nil))))) (pw_or1 (pt_not (pt_val (pe_call G_are_knots (hr.mono (by first | decide | omega)) rfl m_are_knots k_are_knots b_are_knots .nil pass0 (pa_cons (pv 0) (pa_cons (pe_ix (r := rIx K) ix_seq (pv 2) pe_int (fun _ _ => rfl)) pa_nil)))))))) (pss_one (ps_ret pe_non)) pss_nil)
      (pss_cons (ps_if (pt_cmpR op_eq (pv 1) pe_int (nomark _)) (pss_one (ps_ret (pe_ifExp (pt_cmpR (r := rEqD K) (op_eqD hr.units) (pe_ix (r := rIxT K) ix_tup (pv 2) pe_int (fun _ _ => rfl)) (pe_tup pa_nil) (nomark _)) (pe_callTy (r := rListOf K) call_list_of (by rfl) T.z_list (by decide +kernel) (pa_cons (pe_ix (r := rIx K) ix_seq (pv 2) pe_int (fun _ _ => rfl)) pa_nil)) pe_non))) pss_nil)
      (pss_cons (ps_if (pt_not (pt_val (pe_call G_is_tuple_of (hr.mono (by first | decide | omega)) rfl m_is_tuple_of k_is_tuple_of b_is_tuple_of .nil pass0 (pa_cons (pe_ix (r := rIxT K) ix_tup (pv 2) pe_int (fun _ _ => rfl)) (pa_cons pe_int pa_nil))))) (pss_one (ps_ret pe_non)) pss_nil)
      (pss_cons (ps_set (i := 3) sc_tree_knots.nd rfl (Or.inl rfl) (pe_callTy (r := rListOf K) call_list_of (by rfl) T.z_list (by decide +kernel) (pa_cons (pe_ix (r := rIx K) ix_seq (pv 2) pe_int (fun _ _ => rfl)) pa_nil)))
      (pss_cons (ps_for PassesOwn.never rfl (pi_tup (pe_ix (r := rIxT K) ix_tup (pv 2) pe_int (fun _ _ => rfl))) (pg_name (i := 4) sc_tree_knots.nd rfl (Or.inl rfl)) (pss_cons (ps_set (i := 5) sc_tree_knots.nd rfl (Or.inl rfl) (pe_call G_tree_knots (hr.mono (by first | decide | omega)) rfl m_tree_knots k_tree_knots b_tree_knots .nil pass0 (pa_cons (pv 0) (pa_cons (pe_op op_sub (pv 1) pe_int) (pa_cons (pv 4) pa_nil)))))
      (pss_cons (ps_if (PW.pt (pw_or (pt_cmpR op_isN (pv 5) pe_non (nomark _)) (pw_or1 (pt_cmpR (r := rIn K true) op_notIn_seq (pe_ix (r := rIx K) ix_seq (pv 5) pe_int (fun _ _ => rfl)) (pe_ix (r := rIx K) ix_seq (pv 0) (pe_ix (r := rIx K) ix_seq (pe_ix (r := rIx K) ix_seq (pv 2) pe_int (fun _ _ => rfl)) (pe_un un_neg pe_int) (fun _ _ => rfl)) (fun _ _ => rfl)) rfl)))) (pss_one (ps_ret pe_non)) pss_nil)
      (pss_one (ps_expr (pe_bm PySem.F.plainAttrs_list PySem.F.slot_list_extend PySem.F.type_list_extend mt_extend (pv 3) (pa_cons (pv 5) pa_nil)))))))
      (pss_one (ps_ret (pv 3)))))))), ?_⟩
  have hdne : decide (V.int (((d + 1 : Nat) : Nat) : Int) = V.int 0) = false := by
    rw [dec_int, beq_eq_false_iff_ne]
    omega
  cases t with
  | lf w =>
    obtain ⟨a, u1, e, rfl, ha, hu1, he⟩ := ht
    obtain ⟨wok, wl⟩ := tok
    refine ⟨_, rfl, _, _, rfl, .inl ⟨a, _, rfl, ha, _, rfl, ?_⟩⟩
    refine iteF ?_
    refine ⟨_, rfl, _, rfl, rIx_t ha (j := 0) rfl rfl ?_⟩
    refine ⟨l, v, u1, S, w, rfl, hv, hu1, wok, hS, by omega, fun H1 s1 => ?_⟩
    refine ⟨_, rfl, iteF ?_⟩
    refine ⟨_, rfl, rfl, _, rfl, ?_⟩
    rw [hdne]
    refine iteF ?_
    have ha1 := s1 _ _ ha
    refine ⟨_, rfl, a, _, _, _, rfl, rfl, SqT.of ha1, at_of (j := 1) rfl rfl, ?_⟩
    refine ⟨_, _, rfl, .inl ⟨e, _, rfl, s1 _ _ he, _, rfl, ?_⟩⟩
    exact iteT (kN rfl _ s1)
  | nd w x y =>
    obtain ⟨a, u1, b, p, q, rfl, ha, hu1, hb, hx, hy⟩ := ht
    obtain ⟨wok, wl, xok, yok⟩ := tok
    have hhx : x.hgt ≤ d := by simp [Tr.hgt] at hh; omega
    have hhy : y.hgt ≤ d := by simp [Tr.hgt] at hh; omega
    obtain ⟨c, vs0, rfl, hc, pr⟩ := id hv
    obtain ⟨bw, rfl, hbw⟩ := hu1.of
    refine ⟨_, rfl, _, _, rfl, .inl ⟨a, _, rfl, ha, _, rfl, ?_⟩⟩
    refine iteF ?_
    refine ⟨_, rfl, _, rfl, rIx_t ha (j := 0) rfl rfl ?_⟩
    refine ⟨l, _, _, S, w, rfl, hv, hu1, wok, hS, by omega, fun H1 s1 => ?_⟩
    refine ⟨_, rfl, iteF ?_⟩
    refine ⟨_, rfl, rfl, _, rfl, ?_⟩
    rw [hdne]
    refine iteF ?_
    have ha1 := s1 _ _ ha
    have hb1 := s1 _ _ hb
    refine ⟨_, rfl, a, _, _, _, rfl, rfl, SqT.of ha1, at_of (j := 1) rfl rfl, ?_⟩
    refine ⟨_, _, rfl, .inl ⟨b, _, rfl, hb1, _, rfl, ?_⟩⟩
    refine iteF ?_
    -- found = list(thing[0])
    refine ⟨_, rfl, rIx_t ha1 (j := 0) rfl rfl ?_⟩
    refine ⟨bw, _, rfl, .inr (SqT.of (s1 _ _ hbw)), fun F hF => ?_⟩
    have s2 := s1.trans (same_new (o := .lst (nv w)) hF)
    have hF0 : H F = none := same_none s1 hF
    have hcs : Paired (RT H) [p, q] [x, y] := .cons hx (.cons hy .nil)
    have hprop : ∀ t ∈ [x, y], TOkW S t ∧ t.hgt ≤ d := fun t ht => by
      have : t = x ∨ t = y := by simpa using ht
      rcases this with rfl | rfl
      · exact ⟨xok, hhx⟩
      · exact ⟨yok, hhy⟩
    have h3 := three_pow (show d ≤ 10 by omega)
    refine ⟨_, rfl, a, _, _, _, rfl, rfl, SqT.of (s2 _ _ ha), at_of (j := 1) rfl rfl, b, rfl, ⟨_, SqT.of (s2 _ _ hb)⟩, ?_⟩
    refine for_it (walk_tup (xs := [p, q])) (fun i σ H' => ∃ (x4 x5 : Option V) (kss : List (List Nat)), σ = [some (.ref c), some (.int ((d + 1 : Nat) : Nat)), some (.ref a), some (.ref F), x4, x5] ∧ Same H H' ∧
        Paired (fun ks (t : Tr) => tkS S d t = some ks ∧ t.root ∈ parts S (lastK w)) kss ([x, y].take i) ∧ H' F = some (.lst (nv (w ++ kss.flatten))))
      ⟨none, none, [], rfl, s2, .nil, by rw [upd_same]; simp⟩ (fun i σ H' _ ⟨_, _, _, _, s3, _⟩ => SqT.of (s3 _ _ hb)) ?_ ?_
    · rintro i yv σ _ H3 hi ⟨x4, x5, kss, rfl, s3, hk3, hF3⟩ ⟨rfl, hyv⟩
      obtain ⟨t, ht, hrt⟩ := pgetL hcs hyv
      obtain ⟨tok, hht⟩ := hprop t (List.mem_of_getElem? ht)
      have hkl : kss.length ≤ 2 := by
        have := Paired.length hk3
        simp at this
        omega
      have hflat : kss.flatten.length ≤ kss.length * (8 * 3 ^ d) := by
        have : ∀ (kss : List (List Nat)) (ts : List Tr), Paired (fun ks (t : Tr) => tkS S d t = some ks ∧ t.root ∈ parts S (lastK w)) kss ts → (∀ t ∈ ts, TOkW S t) → kss.flatten.length ≤ kss.length * (8 * 3 ^ d) := by
          intro kss ts hp hts
          induction hp with
          | nil => simp
          | cons r _ ih =>
            have h1 := (tkS_len d _ _ (hts _ List.mem_cons_self) r.1).1
            have h2 := ih fun t ht => hts t (List.mem_cons_of_mem _ ht)
            rw [List.flatten_cons, List.length_append, List.length_cons, Nat.succ_mul]
            omega
        exact this _ _ hk3 fun t ht => (hprop t (List.mem_of_mem_take ht)).1
      have hflat2 : kss.flatten.length ≤ 2 * (8 * 59049) := Nat.le_trans hflat (Nat.mul_le_mul hkl (by omega))
      refine ⟨_, rfl, _, rfl, _, _, rfl, rfl, _, rfl, ?_⟩
      have ed : (((d + 1 : Nat) : Nat) : Int) - 1 = ((d : Nat) : Int) := by omega
      simp only [ed]
      have htake : [x, y].take (i + 1) = [x, y].take i ++ [t] := by rw [List.take_add_one, ht]; rfl
      refine ⟨l, _, _, S, t, rfl, monoS_SS _ _ _ _ s3 hv, hS, monoT_RT t _ _ _ (keepT_same s3) hrt, tok, hht, by omega, fun hnone H4 s4 => ?_, fun ks hks p4 H4 np4 s4 hp4 => ?_⟩
      · -- None
        refine ⟨_, rfl, rfl, _, rfl, ?_⟩
        refine iteT ?_
        refine iteT (kN ?_ _ (s3.trans s4))
        have : t = x ∨ t = y := by
          have := List.mem_of_getElem? ht
          simpa using this
        unfold tkS
        rcases this with rfl | rfl
        · rw [hnone]
        · rw [hnone]
          cases tkS S d x <;> rfl
      · obtain ⟨hl1, hh1, hne1⟩ := tkS_len d t ks tok hks
        have hF4 := s4 _ _ hF3
        have s34 := s3.trans s4
        have nFp : F ≠ p4 := ne_of_none hF3 np4
        have g0 : ks[0]? = some t.root := by
          rw [← List.head?_eq_getElem?, hh1]
          unfold Tr.root
          have : t.way ≠ [] := by
            cases t with
            | lf w => exact tok.1.ne
            | nd w _ _ => exact tok.1.ne
          cases hw : t.way with
          | nil => exact absurd hw this
          | cons z r => rfl
        have hlast := lastK_lt wok
        obtain ⟨bl, hbl, hbl2⟩ := SS.get pr hlast
        refine ⟨_, rfl, rfl, _, rfl, ?_⟩
        refine iteF ?_
        refine ⟨_, rfl, rIx_l hp4 (j := 0) rfl (nv_get g0) ?_⟩
        refine ⟨_, rfl, _, rfl, rIx_t (s34 _ _ ha) (j := 0) rfl rfl ?_⟩
        refine ⟨_, rfl, rIx_lastT (s34 _ _ hbw) (lastK_get wok.ne) ?_⟩
        refine rIx_sq (s34 _ _ hc) rfl hbl ?_
        refine ⟨bl, _, rfl, sq_seq (s34 _ _ hbl2), rfl, flat_nv _, _, rfl, ?_⟩
        have ein : (if (true : Bool) = true then !inV (.int (t.root : Nat)) (nv (parts S (lastK w))) else inV (.int (t.root : Nat)) (nv (parts S (lastK w)))) = !decide (t.root ∈ parts S (lastK w)) := by
          rw [if_pos rfl, inV_nv]
        rw [ein]
        by_cases hroot : t.root ∈ parts S (lastK w)
        case neg =>
          rw [decide_eq_false hroot]
          refine iteT (kN ?_ _ s34)
          have : t = x ∨ t = y := by
            have := List.mem_of_getElem? ht
            simpa using this
          unfold tkS
          rcases this with rfl | rfl
          · rw [hks]
            cases tkS S d y with
            | none => rfl
            | some ky => exact if_neg fun h => hroot h.1
          · rw [hks]
            cases tkS S d x with
            | none => rfl
            | some kx => exact if_neg fun h => hroot h.2
        rw [decide_eq_true hroot]
        refine iteF ?_
        refine ⟨_, rfl, .inl ⟨rfl, _, SqL.of hF4⟩, _, rfl, F, p4, _, _, rfl, rfl, hF4, hp4, ?_, ?_⟩
        · rw [nv_length, nv_length, List.length_append]
          show w.length + kss.flatten.length + ks.length ≤ 2 ^ 24
          omega
        · refine ⟨_, _, kss ++ [ks], rfl, same_over s34 hF0, ?_, ?_⟩
          · rw [htake]
            exact paired_append hk3 (.cons ⟨hks, hroot⟩ .nil)
          · rw [upd_same, nv_append]
            simp
    · rintro σ H3 ⟨x4, x5, kss, rfl, s3, hk3, hF3⟩
      refine ⟨_, rfl, ?_⟩
      have : ∃ k1 k2, kss = [k1, k2] ∧ (tkS S d x = some k1 ∧ x.root ∈ parts S (lastK w)) ∧ tkS S d y = some k2 ∧ y.root ∈ parts S (lastK w) := by
        have hk3 : Paired (fun ks (t : Tr) => tkS S d t = some ks ∧ t.root ∈ parts S (lastK w)) kss [x, y] := hk3
        cases hk3 with
        | cons r1 t1 =>
          cases t1 with
          | cons r2 t2 =>
            cases t2
            exact ⟨_, _, rfl, r1, r2⟩
      obtain ⟨k1, k2, rfl, h1, h2⟩ := this
      refine kS (w ++ k1 ++ k2) ?_ F H3 hF0 s3 (by rw [hF3]; simp)
      unfold tkS
      rw [h1.1, h2.1]
      exact if_pos ⟨h1.2, h2.2⟩
theorem got_tree_knots (T : Txt K mg) : ∀ d, d ≤ 10 → Got P w K mg base (d + 4) "tree_knots" ["shape", "depth", "thing"] (sp_tk d)
  | 0, _ => got_tree_knots0 T
  | d + 1, h => got_tree_knots1 T (by omega) (by omega) (got_tree_knots T d (by omega))
/-- slots: 0=shape 1=depth 2=thing 3=knots; cells:  -/
theorem sc_is_tree : FnScope ["shape", "depth", "thing", "knots"] ["shape", "depth", "thing"] (defScope st_is_tree) := ⟨rfl, rfl, rfl, by decide +kernel, rfl, by decide +kernel, by decide +kernel⟩
def sp_is_tree : Sp := fun vs H Q _ => ∃ (l : Bool) (v u : V) (S : List (List Nat)) (t : Tr) (d : Nat), vs = [v, .int (d : Nat), u] ∧ SS l H v S ∧ S.length ≤ 1000 ∧ RT H u t ∧ TOkW S t ∧ t.hgt ≤ d ∧ d ≤ 4 ∧ ∀ H', Same H H' → Q (.bl (treeBS S d t)) H'
theorem got_is_tree (T : Txt K mg) : Got P w K mg base 9 "is_tree" ["shape", "depth", "thing"] sp_is_tree := by
  refine got_of T.d_is_tree sc_is_tree (fun F => (FunD.bindsN F fun _ _ _ _ _ _ us hl => match us, hl with | [_, _, _], _ => rfl)) (fun vs H Q E h => ?_) (fun f cdv A outer s H vs Q E hr h => ?_)
  · obtain ⟨l, v, u, S, t, d, rfl, _⟩ := h; rfl
  obtain ⟨l, v, u, S, t, d, rfl, hv, hS, ht, tok, hh, hd, kk⟩ := h
  obtain ⟨_, _, m_tree_knots, G_tree_knots, k_tree_knots, b_tree_knots⟩ := ((got_tree_knots (P := P) (w := w) (base := base) T d (by omega)).mono (show d + 4 ≤ 8 by omega)).ex
  refine ⟨_, (pss_cons (ps_set (i := 3) sc_is_tree.nd rfl (Or.inl rfl) (pe_call G_tree_knots (hr.mono (by first | decide | omega)) rfl m_tree_knots k_tree_knots b_tree_knots .nil pass0 (pa_cons (pv 0) (pa_cons (pv 1) (pa_cons (pv 2) pa_nil)))))
      (pss_one (ps_ret (pe_and (pe_cmpR op_notN (pv 3) pe_non (nomark _)) (pe_one (pe_cmpR op_eq (pe_lenSetD (by rfl) T.z_len (by rfl) T.z_set (pv 3)) (pe_callB (r := rLenS K) call_len_seq (by rfl) T.z_len (by decide +kernel) (pa_cons (pv 3) pa_nil)) (nomark _))))))), ?_⟩
  unfold treeBS at kk
  refine ⟨_, rfl, _, rfl, _, rfl, l, _, _, S, t, rfl, hv, hS, ht, tok, hh, by omega, fun hnone H4 s4 => ?_, fun ks hks p4 H4 np4 s4 hp4 => ?_⟩
  · rw [hnone] at kk
    refine ⟨_, rfl, rfl, _, rfl, ?_⟩
    exact iteF (kk _ s4)
  · rw [hks] at kk
    have hl1 := (tkS_len d t ks tok hks).1
    have h3 : 3 ^ d ≤ 81 := Nat.pow_le_pow_right (by omega) (show d ≤ 4 by omega)
    refine ⟨_, rfl, rfl, _, rfl, ?_⟩
    refine iteT ?_
    refine ⟨_, rfl, p4, _, rfl, SqL.of (by rw [hp4, nv_int]), by rw [List.length_map]; omega, ?_⟩
    refine ⟨_, rfl, p4, _, rfl, .inl (SqL.of hp4), rfl, ?_⟩
    have e : decide (V.int ((dct (ks.map fun k => ((k : Nat) : Int)) : Nat) : Int) = V.int (((nv ks).length : Nat) : Int)) = decide (dct (ks.map fun k => ((k : Nat) : Int)) = ks.length) := by
      rw [dec_int, Bool.eq_iff_iff, beq_iff_eq, decide_eq_true_iff, nv_length]
      omega
    show Q (.bl (decide (V.int ((dct (ks.map fun k => ((k : Nat) : Int)) : Nat) : Int) = V.int (((nv ks).length : Nat) : Int)))) H4
    rw [e]
    exact kk _ s4
end
end K27
set_option Elab.async false
set_option linter.all false
set_option maxRecDepth 100000
set_option maxHeartbeats 8000000
namespace K27
open PySem PySem.Spec PyProof.Rows L2
/-- the source of draws: n draws at most were made so far -/
def UrnAt (H : Hp) (u : Addr) (n : Nat) : Prop := ∃ x y z : Int, H u = some (.lst [.int x, .int y, .int z]) ∧ 0 ≤ x ∧ 0 ≤ y ∧ y < 9223372036854775808 ∧ 0 ≤ z ∧ z ≤ (n : Int)
theorem UrnAt.le {H : Hp} {u : Addr} {m n : Nat} (h : UrnAt H u m) (hm : m ≤ n) : UrnAt H u n := by
  obtain ⟨x, y, z, h1, h2, h3, h4, h5, h6⟩ := h
  exact ⟨x, y, z, h1, h2, h3, h4, h5, by omega⟩
theorem UrnAt.same {H H' : Hp} {u : Addr} {n : Nat} (h : UrnAt H u n) (s : Same H H') : UrnAt H' u n := by
  obtain ⟨x, y, z, h1, h2⟩ := h
  exact ⟨x, y, z, s _ _ h1, h2⟩
theorem UrnAt.lst {H : Hp} {u : Addr} {n : Nat} (h : UrnAt H u n) : ∃ xs, H u = some (.lst xs) := by
  obtain ⟨x, y, z, h1, _⟩ := h
  exact ⟨_, h1⟩
theorem UrnAt.keepT {H H' : Hp} {u : Addr} {n : Nat} (h : UrnAt H u n) (s : SameX u H H') : KeepT H H' := by
  obtain ⟨xs, h1⟩ := h.lst
  exact keepT_X s fun ys q => by rw [h1] at q; cases q
section
variable {P : Program} {w : World} {K : PySem.W.Frag} {mg : Str → Option Value} {base : Heap}
/-- slots: 0=_law_urn 1=_law_low_so 2=_law_drawn 3=_law_once 4=_law_far 5=_law_twice; cells:  -/
theorem sc_law_take : FnScope ["_law_urn", "_law_low_so", "_law_drawn", "_law_once", "_law_far", "_law_twice"] ["_law_urn", "_law_low_so"] (defScope st_law_take) := ⟨rfl, rfl, rfl, by decide +kernel, rfl, by decide +kernel, by decide +kernel⟩
def sp_law_take : Sp := fun vs H Q _ => ∃ (u : Addr) (n low : Nat), vs = [.ref u, .int low] ∧ UrnAt H u n ∧ n ≤ 1000000 ∧ 1 ≤ low ∧ low ≤ 1000 ∧ ∀ (r : Nat) H', r < low → SameX u H H' → UrnAt H' u (n + 1) → Q (.int (r : Nat)) H'
theorem mod_nat {i : Int} {m : Nat} (h : 1 ≤ m) : ∃ r : Nat, i % (m : Int) = (r : Int) ∧ r < m := by
  have h1 := Int.emod_nonneg i (show (m : Int) ≠ 0 by omega)
  have h2 := Int.emod_lt_of_pos i (show (0 : Int) < (m : Int) by omega)
  exact ⟨(i % (m : Int)).toNat, by omega, by omega⟩
theorem mod_b (i : Int) {m : Int} (h : 0 < m) : 0 ≤ i % m ∧ i % m < m := ⟨Int.emod_nonneg i (by omega), Int.emod_lt_of_pos i h⟩
theorem got_law_take (T : Txt K mg) : Got P w K mg base 1 "_law_take" ["_law_urn", "_law_low_so"] sp_law_take := by
  refine got_of T.d_law_take sc_law_take (fun F => (FunD.bindsN F fun _ _ _ _ _ _ us hl => match us, hl with | [_, _], _ => rfl)) (fun vs H Q E h => ?_) (fun f cdv A outer s H vs Q E hr h => ?_)
  · obtain ⟨u, n, low, rfl, _⟩ := h; rfl
  obtain ⟨u, n, low, rfl, ⟨x, y, z, hu, hx, hy, hy2, hz, hzn⟩, hn, h1, h2, k⟩ := h
  have k' : ∀ (i : Int) H', SameX u H H' → UrnAt H' u (n + 1) → Q (.int (i % (low : Int))) H' := fun i H' s hu => by
    obtain ⟨r, er, hr⟩ := mod_nat (i := i) h1
    rw [er]
    exact k r H' hr s hu
  refine ⟨_, (pss_cons (ps_if (pt_cmpR op_gt (pe_ix (r := rIx K) ix_seq (pv 0) pe_int (fun _ _ => rfl)) pe_int (nomark _)) (pss_cons (ps_set (i := 2) sc_law_take.nd rfl (Or.inl rfl) (pe_op op_mod (pe_callTy call_int1 (by rfl) T.z_int (by decide +kernel) (pa_cons (pe_ix (r := rIx K) ix_seq (pv 0) pe_int (fun _ _ => rfl)) pa_nil)) (pv 1)))
      (pss_cons (ps_asg (pe_op op_fdiv (pe_ix (r := rIx K) ix_seq (pv 0) pe_int (fun _ _ => rfl)) (pv 1)) (pg_sub (pv 0) pe_int set_list))
      (pss_one (ps_ret (pv 2))))) pss_nil)
      (pss_cons (ps_asg (pe_op op_add (pe_ix (r := rIx K) ix_seq (pv 0) pe_int (fun _ _ => rfl)) pe_int) (pg_sub (pv 0) pe_int set_list))
      (pss_cons (ps_set (i := 3) sc_law_take.nd rfl (Or.inl rfl) (pe_op op_mod (pe_callTy call_int1 (by rfl) T.z_int (by decide +kernel) (pa_cons (pe_op op_mul (pe_op op_add (pe_ix (r := rIx K) ix_seq (pv 0) pe_int (fun _ _ => rfl)) (pe_op op_mul pe_int (pe_ix (r := rIx K) ix_seq (pv 0) pe_int (fun _ _ => rfl)))) (pe_op op_add pe_int (pe_ix (r := rIx K) ix_seq (pv 0) pe_int (fun _ _ => rfl)))) pa_nil)) pe_int))
      (pss_cons (ps_set (i := 4) sc_law_take.nd rfl (Or.inl rfl) (pe_op op_add (pe_op op_mod (pe_callTy call_int1 (by rfl) T.z_int (by decide +kernel) (pa_cons (pv 3) pa_nil)) pe_int) pe_int))
      (pss_cons (ps_set (i := 5) sc_law_take.nd rfl (Or.inl rfl) (pe_op op_mod (pe_callTy call_int1 (by rfl) T.z_int (by decide +kernel) (pa_cons (pe_op op_mul (pe_op op_add (pe_op op_add (pv 3) (pe_ix (r := rIx K) ix_seq (pv 0) pe_int (fun _ _ => rfl))) (pe_op op_fdiv (pe_ix (r := rIx K) ix_seq (pv 0) pe_int (fun _ _ => rfl)) pe_int)) (pv 4)) pa_nil)) pe_int))
      (pss_one (ps_ret (pe_op op_mod (pe_callTy call_int1 (by rfl) T.z_int (by decide +kernel) (pa_cons (pe_op op_fdiv (pe_op op_mod (pe_callTy call_int1 (by rfl) T.z_int (by decide +kernel) (pa_cons (pe_op op_add (pe_op op_mul (pv 5) pe_int) (pv 3)) pa_nil)) pe_int) pe_int) pa_nil)) (pv 1))))))))), ?_⟩
  refine ⟨_, rfl, rIx_l hu (j := 0) rfl rfl ?_⟩
  refine ⟨_, _, rfl, rfl, _, rfl, ?_⟩
  refine ite2 (fun hc => ?_) (fun hc => ?_)
  · refine ⟨_, rfl, rIx_l hu (j := 0) rfl rfl (.inl ⟨_, rfl, ?_⟩)⟩
    refine ⟨_, rfl, _, _, rfl, rfl, (by show (0 : Int) < (low : Int); omega), ?_⟩
    obtain ⟨r, er, hr1⟩ := mod_nat (i := x) h1
    simp only [er]
    refine ⟨_, rfl, rIx_l hu (j := 0) rfl rfl ?_⟩
    refine ⟨_, rfl, _, _, rfl, rfl, ⟨(by omega), (by omega)⟩, ?_⟩
    refine ⟨_, rfl, u, _, _, 0, rfl, rfl, hu, rfl, ?_⟩
    refine ⟨_, rfl, ?_⟩
    refine k r _ hr1 sameX_upd ⟨x / (low : Int), y, z, upd_same, ?_, hy, hy2, hz, by omega⟩
    exact Int.ediv_nonneg hx (by omega)
  · refine ⟨_, rfl, rIx_l hu (j := 2) rfl rfl ?_⟩
    refine ⟨_, _, rfl, rfl, _, rfl, u, _, _, 2, rfl, rfl, hu, rfl, ?_⟩
    have hu1 : (upd H u (.lst [.int x, .int y, .int (z + 1)])) u = some (.lst [.int x, .int y, .int (z + 1)]) := upd_same
    refine ⟨_, rfl, rIx_l hu1 (j := 1) rfl rfl ?_⟩
    refine ⟨_, rfl, rIx_l hu1 (j := 2) rfl rfl ?_⟩
    refine ⟨_, _, rfl, rfl, .inl ⟨by omega, by omega⟩, _, _, rfl, rfl, ?_⟩
    refine ⟨_, rfl, rIx_l hu1 (j := 2) rfl rfl ?_⟩
    refine ⟨_, _, rfl, rfl, _, _, rfl, rfl, .inl ⟨by omega, by omega⟩, .inl ⟨_, rfl, ?_⟩⟩
    refine ⟨_, _, rfl, rfl, (by show (0 : Int) < 2147483647; decide), ?_⟩
    refine ⟨_, rfl, .inl ⟨_, rfl, ?_⟩⟩
    refine ⟨_, _, rfl, rfl, (by show (0 : Int) < 40009; decide), _, _, rfl, rfl, ?_⟩
    refine ⟨_, rfl, _, rfl, rIx_l hu1 (j := 2) rfl rfl ?_⟩
    refine ⟨_, _, rfl, rfl, _, rfl, rIx_l hu1 (j := 1) rfl rfl ?_⟩
    refine ⟨_, _, rfl, rfl, ⟨by decide, by decide⟩, ?_⟩
    refine ⟨_, _, rfl, rfl, _, rfl, _, _, rfl, rfl, .inr ⟨by omega, by omega⟩, .inl ⟨_, rfl, ?_⟩⟩
    refine ⟨_, _, rfl, rfl, (by show (0 : Int) < 2147483629; decide), ?_⟩
    refine ⟨_, rfl, _, _, rfl, rfl, .inl ⟨by omega, by omega⟩, _, rfl, _, _, rfl, rfl, .inl ⟨_, rfl, ?_⟩⟩
    refine ⟨_, _, rfl, rfl, (by show (0 : Int) < 2147483587; decide), _, _, rfl, rfl, ⟨by decide, by decide⟩, .inl ⟨_, rfl, ?_⟩⟩
    refine ⟨_, rfl, _, _, rfl, rfl, (by show (0 : Int) < (low : Int); omega), ?_⟩
    exact k' _ _ sameX_upd ⟨x, y, z + 1, upd_same, hx, hy, hy2, by omega, by omega⟩

theorem b01 : ∀ k : Bool, -(2 ^ 64) < (if k = true then 1 else 0 : Int) ∧ (if k = true then 1 else 0 : Int) < 2 ^ 64 := by decide
theorem b01n : ∀ k : Bool, (0 : Int) ≤ if k = true then 1 else 0 := by decide
/-- slots: 0=_law_script 1=_law_k 2=_law_cell; cells:  -/
theorem sc_law_box : FnScope ["_law_script", "_law_k", "_law_cell"] ["_law_script", "_law_k"] (defScope st_law_box) := ⟨rfl, rfl, rfl, by decide +kernel, rfl, by decide +kernel, by decide +kernel⟩
def sp_law_box : Sp := fun vs H Q _ => ∃ (a : Addr) (ns : List Int), vs = [.ref a, .int 0] ∧ H a = some (.lst (ns.map V.int)) ∧ ∀ p H', H p = none → Same H H' → UrnAt H' p 0 → Q (.ref p) H'
theorem got_law_box (T : Txt K mg) : Got P w K mg base 1 "_law_box" ["_law_script", "_law_k"] sp_law_box := by
  refine got_of T.d_law_box sc_law_box (fun F => (FunD.bindsN F fun _ _ _ _ _ _ us hl => match us, hl with | [_, _], _ => rfl)) (fun vs H Q E h => ?_) (fun f cdv A outer s H vs Q E hr h => ?_)
  · obtain ⟨a, ns, rfl, _⟩ := h; rfl
  obtain ⟨a, ns, rfl, ha, k⟩ := h
  refine ⟨_, (pss_cons (ps_set (i := 2) sc_law_box.nd rfl (Or.inl rfl) (pe_ifExp (pt_cmpR op_lt (pv 1) (pe_callB (r := rLenS K) call_len_seq (by rfl) T.z_len (by decide +kernel) (pa_cons (pv 0) pa_nil)) (nomark _)) (pe_ix (r := rIx K) ix_seq (pv 0) (pv 1) (fun _ _ => rfl)) pe_int))
      (pss_one (ps_ret (pe_lst (pa_cons (pe_op op_mul (pe_callB call_abs (by rfl) T.z_abs (by decide +kernel) (pa_cons (pv 2) pa_nil)) (pe_callTy call_int1 (by rfl) T.z_int (by decide +kernel) (pa_cons (pe_cmpR op_ge (pe_callB call_abs (by rfl) T.z_abs (by decide +kernel) (pa_cons (pv 2) pa_nil)) (pe_op op_pow pe_int pe_int) (nomark _)) pa_nil))) (pa_cons (pe_op op_add (pe_op op_add (pe_op op_mod (pe_callTy call_int1 (by rfl) T.z_int (by decide +kernel) (pa_cons (pv 2) pa_nil)) pe_int) (pe_op op_mul pe_int (pv 1))) pe_int) (pa_cons pe_int pa_nil))))))), ?_⟩
  have body : ∀ c : Int, (tRet (tLst (tCons (tOp (rI CMul fun i j => V.int (i * j)) (tCB (fun xs H Q => ∃ i, xs = [.int i] ∧ Q (.int (if i < 0 then -i else i)) H) (tCons (tVar 2) tNil)) (tCB (fun xs H Q => (∃ i, xs = [.int i] ∧ Q (.int i) H) ∨ ∃ k, xs = [.bl k] ∧ Q (.int (if k then 1 else 0)) H) (tCons (tOp (rI0 fun i j => V.bl (decide (j ≤ i))) (tCB (fun xs H Q => ∃ i, xs = [.int i] ∧ Q (.int (if i < 0 then -i else i)) H) (tCons (tVar 2) tNil)) (tOp (rI CPow fun i j => V.int (i ^ j.toNat)) (tC (.int 10)) (tC (.int 18)))) tNil))) (tCons (tOp (rI0 fun i j => V.int (i + j)) (tOp (rI0 fun i j => V.int (i + j)) (tOp (rI (fun _ j => 0 < j) fun i j => V.int (i % j)) (tCB (fun xs H Q => (∃ i, xs = [.int i] ∧ Q (.int i) H) ∨ ∃ k, xs = [.bl k] ∧ Q (.int (if k then 1 else 0)) H) (tCons (tVar 2) tNil)) (tC (.int 2305843009213693951))) (tOp (rI CMul fun i j => V.int (i * j)) (tC (.int 39373)) (tVar 1))) (tC (.int 97151))) (tCons (tC (.int 0)) tNil))))) { nx := fun _ H' => Q .non H', rt := Q } [some (.ref a), some (.int 0), some (.int c)] H := by
    intro c
    have hab : (0 : Int) ≤ if c < 0 then -c else c := by split <;> omega
    refine ⟨_, rfl, _, rfl, _, rfl, _, rfl, _, _, rfl, rfl, ⟨by decide, by decide, by decide⟩, _, _, rfl, rfl, .inr ⟨_, rfl, ?_⟩⟩
    refine ⟨_, _, rfl, rfl, .inr (b01 _), ?_⟩
    refine ⟨_, rfl, .inl ⟨_, rfl, ?_⟩⟩
    refine ⟨_, _, rfl, rfl, (by show (0 : Int) < 2305843009213693951; decide), _, rfl, _, _, rfl, rfl, .inl ⟨by decide, by decide⟩, _, _, rfl, rfl, _, _, rfl, rfl, ?_⟩
    obtain ⟨m1, m2⟩ := mod_b c (show (0 : Int) < 2305843009213693951 by decide)
    refine ⟨(by show 3 ≤ sizeLine; decide), fun p hp => ?_⟩
    refine k p _ hp (same_new hp) ⟨_, _, _, upd_same, ?_, by omega, by omega, Int.le_refl _, Int.le_refl _⟩
    exact Int.mul_nonneg hab (b01n _)
  refine ⟨_, rfl, _, rfl, a, _, rfl, .inl (SqL.of ha), _, _, rfl, rfl, _, rfl, ?_⟩
  refine ite2 (fun hc => ?_) (fun hc => ?_)
  · have hpos : 0 < ns.length := by
      have := of_decide_eq_true hc
      simp at this
      omega
    refine ⟨_, rfl, _, rfl, rIx_l ha (j := 0) rfl (by rw [List.getElem?_map, List.getElem?_eq_getElem hpos]; rfl) ?_⟩
    exact body _
  · exact body 0
end
end K27
set_option Elab.async false
set_option linter.all false
set_option maxRecDepth 100000
set_option maxHeartbeats 8000000
namespace K27
open PySem PySem.Spec PyProof.Rows L2
theorem cutV_int (ns : List Int) (lo hi : Option Int) : ∃ ms : List Int, cutV (ns.map V.int) lo hi = ms.map V.int := by
  refine ⟨(ns.drop (HT.sIx ns.length 0 lo)).take (HT.sIx ns.length ns.length hi - HT.sIx ns.length 0 lo), ?_⟩
  unfold cutV
  rw [List.length_map, List.map_take, List.map_drop]
theorem orT_list {K : PySem.W.Frag} {σ : L2.St} {H1 : Hp} {p2 : Addr} (ms0 : List Int) (h : H1 p2 = some (.lst (ms0.map V.int))) {Q : VK} (q : ∀ p H3 (ms : List Int), Same H1 H3 → H3 p = some (.lst (ms.map V.int)) → ms ≠ [] → (p = p2 ∨ H1 p = none) → Q (.ref p) H3) :
    ∃ k, TruV K (.ref p2) H1 k ∧ if k = true then Q (.ref p2) H1 else tLst (tCons (tC (.int 0)) tNil) σ H1 Q := by
  refine ⟨_, .inl ⟨_, SqL.of h, rfl⟩, ?_⟩
  cases ms0 with
  | nil =>
    refine iteF ⟨(by show 1 ≤ sizeLine; decide), fun p hp => ?_⟩
    exact q p _ [0] (same_new hp) upd_same (by simp) (.inr hp)
  | cons m r =>
    exact iteT (q p2 _ (m :: r) (Same.refl _) h (by simp) (.inl rfl))
section
variable {P : Program} {w : World} {K : PySem.W.Frag} {mg : Str → Option Value} {base : Heap}
/-- slots: 0=_law_script 1=_law_top 2=_law_cells_here 3=_law_k 4=_law_cell 5=_law_at_so; cells:  -/
theorem sc_law_cells : FnScope ["_law_script", "_law_top", "_law_cells_here", "_law_k", "_law_cell", "_law_at_so"] ["_law_script", "_law_top"] (defScope st_law_cells) := ⟨rfl, rfl, rfl, by decide +kernel, rfl, by decide +kernel, by decide +kernel⟩
def sp_law_cells : Sp := fun vs H Q _ => ∃ (a : Addr) (ns : List Int), vs = [.ref a, .int 1] ∧ SqL K H a (ns.map V.int) ∧ ns.length ≤ 63 ∧ ∀ p H' (ms : List Int), H p = none → Same H H' → H' p = some (.lst (ms.map V.int)) → Q (.ref p) H'
theorem got_law_cells (T : Txt K mg) : Got P w K mg base 1 "_law_cells" ["_law_script", "_law_top"] (sp_law_cells (K := K)) := by
  refine got_of T.d_law_cells sc_law_cells (fun F => (FunD.bindsN F fun _ _ _ _ _ _ us hl => match us, hl with | [_, _], _ => rfl)) (fun vs H Q E h => ?_) (fun f cdv A outer s H vs Q E hr h => ?_)
  · obtain ⟨a, ns, rfl, _⟩ := h; rfl
  obtain ⟨a, ns, rfl, ha, hl, k⟩ := h
  refine ⟨_, (pss_cons (ps_set (i := 2) sc_law_cells.nd rfl (Or.inl rfl) (pe_orT (pe_callTy (r := rListOf K) call_list_of (by rfl) T.z_list (by decide +kernel) (pa_cons (pe_slice (r := rSlL K) sl_list (pv 0) po_none (po_some (pv 1))) pa_nil)) (pe_one (pe_lst (pa_cons pe_int pa_nil)))))
      (pss_cons (ps_for PassesOwn.never rfl (pi_enum (by rfl) T.z_enumerate (pa_cons (pe_slice (r := rSlL K) sl_list (pv 0) (po_some (pv 1)) (po_some pe_int)) pa_nil)) (pg_tup rfl (pgs_cons (pg_name (i := 3) sc_law_cells.nd rfl (Or.inl rfl)) (pgs_cons (pg_name (i := 4) sc_law_cells.nd rfl (Or.inl rfl)) pgs_nil))) (pss_cons (ps_set (i := 5) sc_law_cells.nd rfl (Or.inl rfl) (pe_op op_mod (pe_callTy call_int1 (by rfl) T.z_int (by decide +kernel) (pa_cons (pv 3) pa_nil)) (pv 1)))
      (pss_one (ps_asg (pe_op op_add (pe_ix (r := rIx K) ix_seq (pv 2) (pv 5) (fun _ _ => rfl)) (pe_op op_mul (pv 4) (pe_op op_add (pv 3) pe_int))) (pg_sub (pv 2) (pv 5) set_list)))))
      (pss_one (ps_ret (pv 2))))), ?_⟩
  refine ⟨_, rfl, _, rfl, _, rfl, a, _, rfl, ha, fun p1 hp1 => ?_⟩
  have s1 := same_new (o := .lst (cutV (ns.map V.int) none (some 1))) hp1
  obtain ⟨m0, em0⟩ := cutV_int ns none (some 1)
  refine ⟨p1, _, rfl, .inl (SqL.of upd_same), fun p2 hp2 => ?_⟩
  have s2 := s1.trans (same_new (o := .lst (cutV (ns.map V.int) none (some 1))) hp2)
  refine orT_list m0 (by rw [upd_same, em0]) fun q H3 ms s3 hq hne hfr => ?_
  have s03 := s2.trans s3
  have hq0 : H q = none := by
    rcases hfr with rfl | h
    · exact same_none s1 hp2
    · exact same_none s2 h
  obtain ⟨m1, em1⟩ := cutV_int ns (some 1) (some 63)
  have hm1 : m1.length ≤ 63 := by
    have h1 := congrArg List.length em1
    have h2 := cutV_length (ns.map V.int) (some 1) (some 63)
    rw [List.length_map] at h1 h2
    omega
  refine ⟨_, rfl, _, rfl, _, rfl, _, rfl, a, _, rfl, s03.seq ha, fun p3 hp3 => ?_⟩
  rw [em1]
  have s4 := s03.trans (same_new (o := .lst (m1.map V.int)) hp3)
  have np3 : q ≠ p3 := ne_of_none hq hp3
  have hp30 : H p3 = none := same_none s03 hp3
  refine ⟨p3, _, rfl, SqL.of upd_same, ?_⟩
  refine for_it (walk_enum (xs := m1.map V.int)) (fun i σ H' => ∃ (x3 x4 x5 : Option V) (ms : List Int), σ = [some (.ref a), some (.int 1), some (.ref q), x3, x4, x5] ∧ Same H H' ∧ H' q = some (.lst (ms.map V.int)) ∧ ms ≠ [] ∧ H' p3 = some (.lst (m1.map V.int)))
    ⟨none, none, none, ms, rfl, s4, by rw [upd_ne np3]; exact hq, hne, upd_same⟩ (fun i σ H' _ ⟨_, _, _, _, _, _, _, _, h⟩ => SqL.of h) ?_ ?_
  · rintro i y σ H4 _ hi ⟨x3, x4, x5, ms, rfl, s5, hq5, hne5, hp5⟩ ⟨T1, z1, z2, rfl, hT, rfl, hz1, hz2⟩
    cases hz1
    obtain ⟨c, hc, rfl⟩ : ∃ c, m1[i]? = some c ∧ V.int c = z2 := by
      have hz2 : (m1.map V.int)[i]? = some z2 := hz2
      rw [List.getElem?_map] at hz2
      cases e : m1[i]? with
      | none => rw [e] at hz2; cases hz2
      | some x => rw [e] at hz2; exact ⟨x, rfl, Option.some.inj hz2⟩
    have hi' : i < 63 := by rw [List.length_map] at hi; omega
    have s6 := s5.trans (same_new (o := .tup [.int (i : Nat), .int c]) hT)
    have hq6 := same_new (o := .tup [.int (i : Nat), .int c]) hT _ _ hq5
    have hp6 := same_new (o := .tup [.int (i : Nat), .int c]) hT _ _ hp5
    refine ⟨T1, _, rfl, SqT.of upd_same, rfl, _, _, rfl, _, _, rfl, rfl, ?_⟩
    refine ⟨_, rfl, .inl ⟨_, rfl, ?_⟩⟩
    refine ⟨_, rfl, _, _, rfl, rfl, (by show (0 : Int) < 1; decide), ?_⟩
    cases ms with
    | nil => exact absurd rfl hne5
    | cons m2 mr =>
    refine ⟨_, rfl, _, rfl, rIx_l hq6 (j := 0) (by omega) rfl ?_⟩
    refine ⟨_, rfl, _, rfl, _, _, rfl, rfl, _, _, rfl, rfl, .inr ⟨by omega, by omega⟩, _, _, rfl, rfl, ?_⟩
    refine ⟨_, rfl, _, rfl, q, _, _, 0, rfl, rfl, hq6, ?_, ?_⟩
    · have : ((i : Nat) : Int) % 1 = ((0 : Nat) : Int) := by omega
      rw [this]
      exact ixN_nat (by simp)
    · refine ⟨_, _, _, (m2 + c * ((i : Int) + 2)) :: mr, rfl, same_over s6 hq0, upd_same, by simp, ?_⟩
      rw [upd_ne np3.symm]
      exact hp6
  · rintro σ H4 ⟨x3, x4, x5, ms, rfl, s5, hq5, hne5, hp5⟩
    exact ⟨_, rfl, k q _ ms hq0 s5 hq5⟩

/-- slots: 0=_law_own; cells:  -/
theorem sc_law_is_number : FnScope ["_law_own"] ["_law_own"] (defScope st_law_is_number) := ⟨rfl, rfl, rfl, by decide +kernel, rfl, by decide +kernel, by decide +kernel⟩
theorem got_law_is_number (T : Txt K mg) : Got P w K mg base 1 "_law_is_number" ["_law_own"] sp_is_number := by
  refine got_of T.d_law_is_number sc_law_is_number (fun F => (FunD.bindsN F fun _ _ _ _ _ _ us hl => match us, hl with | [_], _ => rfl)) (fun vs H Q E h => ?_) (fun f cdv A outer s H vs Q E hr h => ?_)
  · obtain ⟨i, rfl, _⟩ := h; rfl
  obtain ⟨i, rfl, k⟩ := h
  refine ⟨_, (pss_one (ps_ret (pe_and (pe_callB (r := rIsi K) call_isi (by rfl) T.z_isinstance (by decide +kernel) (pa_cons (pv 0) (pa_cons (pe_bltn (v := .ty "int") (by rfl) T.z_int (by decide +kernel) rfl) pa_nil))) (pe_one (pe_not (pe_callB (r := rIsi K) call_isi (by rfl) T.z_isinstance (by decide +kernel) (pa_cons (pv 0) (pa_cons (pe_bltn (v := .ty "bool") (by rfl) T.z_bool (by decide +kernel) rfl) pa_nil)))))))), ?_⟩
  refine ⟨_, rfl, _, _, _, _, _, rfl, .ty _, .base (.int _), kit_ii, _, rfl, iteT ?_⟩
  exact ⟨_, rfl, _, _, _, _, _, rfl, .ty _, .base (.int _), kit_ib, _, rfl, k⟩

/-- slots: 0=_law_got 1=_law_goal 2=_law_mine_so 3=_law_own; cells:  -/
theorem sc_law_same : FnScope ["_law_got", "_law_goal", "_law_mine_so", "_law_own"] ["_law_got", "_law_goal"] (defScope st_law_same) := ⟨rfl, rfl, rfl, by decide +kernel, rfl, by decide +kernel, by decide +kernel⟩
/-- two ints, or two truth values -/
def Kin : V → V → Prop
  | .int _, .int _ => True
  | .bl _, .bl _ => True
  | _, _ => False
def sp_same0 : Sp := fun vs H Q _ => ∃ x y : V, vs = [x, y] ∧ Kin x y ∧ ∀ H', Same H H' → Q (.bl (decide (x = y))) H'
theorem kit_bli {K : PySem.W.Frag} : PySem.W.kitOne K (.type "bool") (.type "list") = some false := kit_ty (by decide +kernel)
theorem kit_bti {K : PySem.W.Frag} : PySem.W.kitOne K (.type "bool") (.type "tuple") = some false := kit_ty (by decide +kernel)
theorem kit_is {K : PySem.W.Frag} : PySem.W.kitOne K (.type "int") (.type "str") = some false := kit_ty (by decide +kernel)
theorem got_law_same0 (T : Txt K mg) : Got P w K mg base 1 "_law_same" ["_law_got", "_law_goal"] sp_same0 := by
  refine got_of T.d_law_same sc_law_same (fun F => (FunD.bindsN F fun _ _ _ _ _ _ us hl => match us, hl with | [_, _], _ => rfl)) (fun vs H Q E h => ?_) (fun f cdv A outer s H vs Q E hr h => ?_)
  · obtain ⟨x, y, rfl, _⟩ := h; rfl
  obtain ⟨x, y, rfl, hk, k⟩ := h
  refine ⟨_, (pss_cons (ps_if (pt_val (pe_callB (r := rIsiT K) call_isiT (by rfl) T.z_isinstance (by decide +kernel) (pa_cons (pv 1) (pa_cons (pe_tup (pa_cons (pe_bltn (v := .ty "list") (by rfl) T.z_list (by decide +kernel) rfl) (pa_cons (pe_bltn (v := .ty "tuple") (by rfl) T.z_tuple (by decide +kernel) rfl) pa_nil))) pa_nil)))) pss_never pss_nil)
      (pss_cons (ps_if (PW.pt (pw_or (pt_cmpR op_isN (pv 1) pe_non (nomark _)) (pw_or1 (pt_val (pe_callB (r := rIsiT K) call_isiT (by rfl) T.z_isinstance (by decide +kernel) (pa_cons (pv 1) (pa_cons (pe_tup (pa_cons (pe_bltn (v := .ty "bool") (by rfl) T.z_bool (by decide +kernel) rfl) (pa_cons (pe_bltn (v := .ty "str") (by rfl) T.z_str (by decide +kernel) rfl) pa_nil))) pa_nil))))))) (pss_one (ps_ret (pe_and (pe_cmpR op_eq (pv 0) (pv 1) (nomark _)) (pe_and (pe_cmpR op_eq (pe_callB (r := rIsi K) call_isi (by rfl) T.z_isinstance (by decide +kernel) (pa_cons (pv 0) (pa_cons (pe_bltn (v := .ty "bool") (by rfl) T.z_bool (by decide +kernel) rfl) pa_nil))) (pe_callB (r := rIsi K) call_isi (by rfl) T.z_isinstance (by decide +kernel) (pa_cons (pv 1) (pa_cons (pe_bltn (v := .ty "bool") (by rfl) T.z_bool (by decide +kernel) rfl) pa_nil))) (nomark _)) (pe_one (pe_cmpR op_eq (pe_cmpR op_isN (pv 0) pe_non (nomark _)) (pe_cmpR op_isN (pv 1) pe_non (nomark _)) (nomark _))))))) pss_nil)
      (pss_one (ps_ret (pe_and (pe_callB (r := rIsi K) call_isi (by rfl) T.z_isinstance (by decide +kernel) (pa_cons (pv 0) (pa_cons (pe_bltn (v := .ty "int") (by rfl) T.z_int (by decide +kernel) rfl) pa_nil))) (pe_and (pe_not (pe_callB (r := rIsi K) call_isi (by rfl) T.z_isinstance (by decide +kernel) (pa_cons (pv 0) (pa_cons (pe_bltn (v := .ty "bool") (by rfl) T.z_bool (by decide +kernel) rfl) pa_nil)))) (pe_one (pe_cmpR op_eq (pv 0) (pv 1) (nomark _))))))))), ?_⟩
  cases x with
  | int i =>
    cases y with
    | int j =>
      refine ⟨_, rfl, (by show 2 ≤ sizeLine; decide), fun p hp => ?_⟩
      have s1 := same_new (o := .tup [.ty "list", .ty "tuple"]) hp
      refine ⟨_, p, _, _, _, false, rfl, upd_same, .cons (.ty _) (.cons (.ty _) .nil), .base (.int _), kitAny_cons kit_il (fun _ => kitAny_cons kit_it (fun _ => kitAny_nil) (fun z => nomatch z)) (fun z => nomatch z), _, rfl, iteF ?_⟩
      refine ⟨_, rfl, rfl, _, rfl, ?_⟩
      refine iteF ?_
      refine ⟨_, rfl, (by show 2 ≤ sizeLine; decide), fun p2 hp2 => ?_⟩
      have s2 := s1.trans (same_new (o := .tup [.ty "bool", .ty "str"]) hp2)
      refine ⟨_, p2, _, _, _, false, rfl, upd_same, .cons (.ty _) (.cons (.ty _) .nil), .base (.int _), kitAny_cons kit_ib (fun _ => kitAny_cons kit_is (fun _ => kitAny_nil) (fun z => nomatch z)) (fun z => nomatch z), _, rfl, ?_⟩
      refine iteF ?_
      refine ⟨_, rfl, _, _, _, _, _, rfl, .ty _, .base (.int _), kit_ii, _, rfl, iteT ?_⟩
      refine ⟨_, rfl, _, _, _, _, _, rfl, .ty _, .base (.int _), kit_ib, _, rfl, _, rfl, iteT ?_⟩
      refine ⟨_, rfl, _, rfl, rfl, ?_⟩
      exact k _ s2
    | _ => exact hk.elim
  | bl i =>
    cases y with
    | bl j =>
      refine ⟨_, rfl, (by show 2 ≤ sizeLine; decide), fun p hp => ?_⟩
      have s1 := same_new (o := .tup [.ty "list", .ty "tuple"]) hp
      refine ⟨_, p, _, _, _, false, rfl, upd_same, .cons (.ty _) (.cons (.ty _) .nil), .base (.bl _), kitAny_cons kit_bli (fun _ => kitAny_cons kit_bti (fun _ => kitAny_nil) (fun z => nomatch z)) (fun z => nomatch z), _, rfl, iteF ?_⟩
      refine ⟨_, rfl, rfl, _, rfl, ?_⟩
      refine iteF ?_
      refine ⟨_, rfl, (by show 2 ≤ sizeLine; decide), fun p2 hp2 => ?_⟩
      have s2 := s1.trans (same_new (o := .tup [.ty "bool", .ty "str"]) hp2)
      refine ⟨_, p2, _, _, _, true, rfl, upd_same, .cons (.ty _) (.cons (.ty _) .nil), .base (.bl _), kitAny_cons kit_bb (fun z => nomatch z) (fun _ => rfl), _, rfl, ?_⟩
      refine iteT ?_
      refine ⟨_, rfl, _, rfl, rfl, _, rfl, ?_⟩
      cases hd : decide (V.bl i = V.bl j) with
      | false =>
        rw [hd] at k
        exact iteF (k _ s2)
      | true =>
        rw [hd] at k
        refine iteT ?_
        refine ⟨_, rfl, _, _, _, _, _, rfl, .ty _, .base (.bl _), kit_bb, ?_⟩
        refine ⟨_, rfl, _, _, _, _, _, rfl, .ty _, .base (.bl _), kit_bb, rfl, _, rfl, ?_⟩
        refine iteT ?_
        refine ⟨_, rfl, rfl, _, rfl, rfl, rfl, ?_⟩
        exact k _ s2
    | _ => exact hk.elim
  | _ => exact hk.elim
theorem all_eq {gs ls : List V} (h : gs.length = ls.length) : (((List.range gs.length).map fun i => decide (gs[i]? = ls[i]?)).all id) = decide (gs = ls) := by
  rw [Bool.eq_iff_iff, List.all_eq_true, decide_eq_true_iff]
  constructor
  · intro hx
    apply List.ext_getElem?
    intro i
    by_cases hi : i < gs.length
    · exact of_decide_eq_true (hx _ (List.mem_map.mpr ⟨i, List.mem_range.mpr hi, rfl⟩))
    · rw [List.getElem?_eq_none (by omega), List.getElem?_eq_none (by omega)]
  · rintro rfl b hb
    obtain ⟨i, _, rfl⟩ := List.mem_map.mp hb
    exact decide_eq_true rfl
def sp_law_same : Sp := fun vs H Q _ => ∃ (g l : Addr) (gs ls : List V), vs = [.ref g, .ref l] ∧ H g = some (.lst gs) ∧ H l = some (.lst ls) ∧ Paired Kin gs ls ∧ gs.length ≤ 1000 ∧ ∀ H', Same H H' → Q (.bl (decide (gs = ls))) H'
theorem got_law_same (T : Txt K mg) : Got P w K mg base 2 "_law_same" ["_law_got", "_law_goal"] sp_law_same := by
  refine got_of T.d_law_same sc_law_same (fun F => (FunD.bindsN F fun _ _ _ _ _ _ us hl => match us, hl with | [_, _], _ => rfl)) (fun vs H Q E h => ?_) (fun f cdv A outer s H vs Q E hr h => ?_)
  · obtain ⟨x, y, _, _, rfl, _⟩ := h; rfl
  obtain ⟨g, l, gs, ls, rfl, hg, hl, hk, hlen, k⟩ := h
  obtain ⟨_, _, m_law_same, G_law_same, k_law_same, b_law_same⟩ := (got_law_same0 (P := P) (w := w) (base := base) T).ex
  have hle : gs.length = ls.length := Paired.length hk
  refine ⟨_, (pss_cons (ps_if (pt_val (pe_callB (r := rIsiT K) call_isiT (by rfl) T.z_isinstance (by decide +kernel) (pa_cons (pv 1) (pa_cons (pe_tup (pa_cons (pe_bltn (v := .ty "list") (by rfl) T.z_list (by decide +kernel) rfl) (pa_cons (pe_bltn (v := .ty "tuple") (by rfl) T.z_tuple (by decide +kernel) rfl) pa_nil))) pa_nil)))) (pss_cons (ps_if (PW.pt (pw_or (pt_cmpR op_ne (pe_callB (r := rIsi K) call_isi (by rfl) T.z_isinstance (by decide +kernel) (pa_cons (pv 0) (pa_cons (pe_bltn (v := .ty "list") (by rfl) T.z_list (by decide +kernel) rfl) pa_nil))) (pe_callB (r := rIsi K) call_isi (by rfl) T.z_isinstance (by decide +kernel) (pa_cons (pv 1) (pa_cons (pe_bltn (v := .ty "list") (by rfl) T.z_list (by decide +kernel) rfl) pa_nil))) (nomark _)) (pw_or1 (pt_cmpR op_ne (pe_callB (r := rIsi K) call_isi (by rfl) T.z_isinstance (by decide +kernel) (pa_cons (pv 0) (pa_cons (pe_bltn (v := .ty "tuple") (by rfl) T.z_tuple (by decide +kernel) rfl) pa_nil))) (pe_callB (r := rIsi K) call_isi (by rfl) T.z_isinstance (by decide +kernel) (pa_cons (pv 1) (pa_cons (pe_bltn (v := .ty "tuple") (by rfl) T.z_tuple (by decide +kernel) rfl) pa_nil))) (nomark _))))) (pss_one (ps_ret pe_bl)) pss_nil)
      (pss_one (ps_ret (pe_and (pe_cmpR op_eq (pe_callB (r := rLenS K) call_len_seq (by rfl) T.z_len (by decide +kernel) (pa_cons (pv 0) pa_nil)) (pe_callB (r := rLenS K) call_len_seq (by rfl) T.z_len (by decide +kernel) (pa_cons (pv 1) pa_nil)) (nomark _)) (pe_one (pe_callB (r := rAll K) (cr_all rfl) (by rfl) T.z_all (by decide +kernel) (pa_cons (pe_lc (own := [("_law_mine_so", 2), ("_law_own", 3)]) (g := (gTup K 2 (gCons (gName 2) (gCons (gName 3) gNil)))) (tt := tYes) rfl sc_law_same.nd (RZ.pi_zipA (by rfl) T.z_zip (pa_cons (pv 0) (pa_cons (pv 1) pa_nil))) (blkOk_by (N := ["_law_got", "_law_goal", "_law_mine_so", "_law_own"]) (sc := (defScope st_law_same)) (by decide +kernel)) (fun _ _ _ _ _ => (pg_tup rfl (pgs_cons (pg_name (i := 2) sc_law_same.nd rfl (Or.inl rfl)) (pgs_cons (pg_name (i := 3) sc_law_same.nd rfl (Or.inl rfl)) pgs_nil)))) (fun _ _ _ _ _ => pts_nil) (fun _ _ _ _ _ => (pe_call G_law_same (hr.mono (by first | decide | omega)) rfl m_law_same k_law_same b_law_same .nil pass0 (pa_cons (pv 2) (pa_cons (pv 3) pa_nil))))) pa_nil))))))) pss_nil)
      (pss_cons (ps_if (PW.pt (pw_or (pt_cmpR op_isN (pv 1) pe_non (nomark _)) (pw_or1 (pt_val (pe_callB (r := rIsiT K) call_isiT (by rfl) T.z_isinstance (by decide +kernel) (pa_cons (pv 1) (pa_cons (pe_tup (pa_cons (pe_bltn (v := .ty "bool") (by rfl) T.z_bool (by decide +kernel) rfl) (pa_cons (pe_bltn (v := .ty "str") (by rfl) T.z_str (by decide +kernel) rfl) pa_nil))) pa_nil))))))) (pss_one (ps_ret (pe_and (pe_cmpR op_eq (pv 0) (pv 1) (nomark _)) (pe_and (pe_cmpR op_eq (pe_callB (r := rIsi K) call_isi (by rfl) T.z_isinstance (by decide +kernel) (pa_cons (pv 0) (pa_cons (pe_bltn (v := .ty "bool") (by rfl) T.z_bool (by decide +kernel) rfl) pa_nil))) (pe_callB (r := rIsi K) call_isi (by rfl) T.z_isinstance (by decide +kernel) (pa_cons (pv 1) (pa_cons (pe_bltn (v := .ty "bool") (by rfl) T.z_bool (by decide +kernel) rfl) pa_nil))) (nomark _)) (pe_one (pe_cmpR op_eq (pe_cmpR op_isN (pv 0) pe_non (nomark _)) (pe_cmpR op_isN (pv 1) pe_non (nomark _)) (nomark _))))))) pss_nil)
      (pss_one (ps_ret (pe_and (pe_callB (r := rIsi K) call_isi (by rfl) T.z_isinstance (by decide +kernel) (pa_cons (pv 0) (pa_cons (pe_bltn (v := .ty "int") (by rfl) T.z_int (by decide +kernel) rfl) pa_nil))) (pe_and (pe_not (pe_callB (r := rIsi K) call_isi (by rfl) T.z_isinstance (by decide +kernel) (pa_cons (pv 0) (pa_cons (pe_bltn (v := .ty "bool") (by rfl) T.z_bool (by decide +kernel) rfl) pa_nil)))) (pe_one (pe_cmpR op_eq (pv 0) (pv 1) (nomark _))))))))), ?_⟩
  refine ⟨_, rfl, (by show 2 ≤ sizeLine; decide), fun p hp => ?_⟩
  have s1 := same_new (o := .tup [.ty "list", .ty "tuple"]) hp
  have hg1 := s1 _ _ hg
  have hl1 := s1 _ _ hl
  refine ⟨_, p, _, _, _, true, rfl, upd_same, .cons (.ty _) (.cons (.ty _) .nil), .base (.lst hl1), kitAny_cons kit_ll (fun z => nomatch z) (fun _ => rfl), _, rfl, iteT ?_⟩
  refine ⟨_, rfl, _, _, _, _, _, rfl, .ty _, .base (.lst hg1), kit_ll, _, rfl, _, _, _, _, _, rfl, .ty _, .base (.lst hl1), kit_ll, rfl, _, rfl, ?_⟩
  refine iteF ?_
  refine ⟨_, rfl, _, _, _, _, _, rfl, .ty _, .base (.lst hg1), kit_lt, _, rfl, _, _, _, _, _, rfl, .ty _, .base (.lst hl1), kit_lt, rfl, _, rfl, ?_⟩
  refine iteF ?_
  refine ⟨_, rfl, g, _, rfl, .inl (SqL.of hg1), _, rfl, l, _, rfl, .inl (SqL.of hl1), rfl, _, rfl, ?_⟩
  have e : decide (V.int ((gs.length : Nat) : Int) = V.int ((ls.length : Nat) : Int)) = true := by rw [hle]; exact decide_eq_true rfl
  rw [e]
  refine iteT ?_
  refine ⟨_, rfl, _, rfl, _, _, gs, ls, rfl, .inl ⟨SqL.of hg1, SqL.of hl1, fun D hD => ?_⟩⟩
  refine lc_rel (walk_zip (xs := gs) (ys := ls) (n := gs.length) (by omega)) RB monoT_RB (fun _ => true) (fun i => decide (gs[i]? = ls[i]?)) hD (by omega) (fun H' s => ⟨SqL.of (s _ _ hg1), SqL.of (s _ _ hl1)⟩) ?_ ?_
  · rintro i y H2 _ hi s2 ⟨T1, x1, x2, rfl, hT, rfl, hx1, hx2⟩ K1 K2 h1 h2
    have hx1 : gs[i]? = some x1 := hx1
    have hx2 : ls[i]? = some x2 := hx2
    rw [hx1, hx2] at h1
    have s3 := same_new (o := .tup [x1, x2]) hT
    have hkin : Kin x1 x2 := by
      obtain ⟨z, hz, r⟩ := pgetL hk hx1
      rw [hx2] at hz
      cases hz
      exact r
    refine ⟨T1, _, rfl, SqT.of upd_same, rfl, _, _, rfl, _, _, rfl, rfl, rfl, tyes_ok (iteT ?_)⟩
    refine ⟨_, rfl, _, rfl, x1, x2, rfl, hkin, fun H4 s4 => ?_⟩
    refine h1 rfl _ _ (s3.trans s4) ?_
    show V.bl _ = V.bl _
    congr 1
    rw [Bool.eq_iff_iff, decide_eq_true_iff, decide_eq_true_iff]
    exact ⟨fun h => by rw [h], fun h => Option.some.inj h⟩
  · intro H2 ys s2 hy py
    have ey := paired_bv py
    rw [range_nf] at ey
    refine ⟨_, _, rfl, SqL.of (by rw [hy, ey]), ?_⟩
    rw [all_eq hle]
    exact k _ (s1.trans s2)

def tNeverE : TE := fun _ _ _ => False
theorem pe_never {X e} : PE X e tNeverE := ⟨fun _ _ _ _ _ _ h => h.elim⟩

/-- slots: 0=_law_matter 1=_law_own; cells:  -/
theorem sc_law_lists : FnScope ["_law_matter", "_law_own"] ["_law_matter"] (defScope st_law_lists) := ⟨rfl, rfl, rfl, by decide +kernel, rfl, by decide +kernel, by decide +kernel⟩
def sp_lists0 : Sp := fun vs H Q _ => ∃ n : Nat, vs = [.int n] ∧ ∀ H', Same H H' → Q (.int (n : Nat)) H'
theorem got_law_lists0 (T : Txt K mg) : Got P w K mg base 1 "_law_lists" ["_law_matter"] sp_lists0 := by
  refine got_of T.d_law_lists sc_law_lists (fun F => (FunD.bindsN F fun _ _ _ _ _ _ us hl => match us, hl with | [_], _ => rfl)) (fun vs H Q E h => ?_) (fun f cdv A outer s H vs Q E hr h => ?_)
  · obtain ⟨n, rfl, _⟩ := h; rfl
  obtain ⟨n, rfl, k⟩ := h
  refine ⟨_, (pss_one (ps_ret (pe_ifExp (pt_val (pe_callB (r := rIsiT K) call_isiT (by rfl) T.z_isinstance (by decide +kernel) (pa_cons (pv 0) (pa_cons (pe_tup (pa_cons (pe_bltn (v := .ty "list") (by rfl) T.z_list (by decide +kernel) rfl) (pa_cons (pe_bltn (v := .ty "tuple") (by rfl) T.z_tuple (by decide +kernel) rfl) pa_nil))) pa_nil)))) pe_never (pv 0)))), ?_⟩
  refine ⟨_, rfl, (by show 2 ≤ sizeLine; decide), fun p hp => ?_⟩
  refine ⟨_, p, _, _, _, false, rfl, upd_same, .cons (.ty _) (.cons (.ty _) .nil), .base (.int _), kitAny_cons kit_il (fun _ => kitAny_cons kit_it (fun _ => kitAny_nil) (fun z => nomatch z)) (fun z => nomatch z), _, rfl, iteF ?_⟩
  exact ⟨_, rfl, k _ (same_new hp)⟩
def sp_lists1 : Sp := fun vs H Q _ => ∃ (v : V) (xs : List Nat), vs = [v] ∧ TN H v xs ∧ xs.length ≤ 1000 ∧ ∀ p H', H p = none → Same H H' → H' p = some (.lst (nv xs)) → Q (.ref p) H'
theorem got_law_lists1 (T : Txt K mg) : Got P w K mg base 2 "_law_lists" ["_law_matter"] sp_lists1 := by
  refine got_of T.d_law_lists sc_law_lists (fun F => (FunD.bindsN F fun _ _ _ _ _ _ us hl => match us, hl with | [_], _ => rfl)) (fun vs H Q E h => ?_) (fun f cdv A outer s H vs Q E hr h => ?_)
  · obtain ⟨v, xs, rfl, _⟩ := h; rfl
  obtain ⟨v, xs, rfl, hv, hl, k⟩ := h
  obtain ⟨a, rfl, ha⟩ := hv.of
  obtain ⟨_, _, m_law_lists, G_law_lists, k_law_lists, b_law_lists⟩ := (got_law_lists0 (P := P) (w := w) (base := base) T).ex
  refine ⟨_, (pss_one (ps_ret (pe_ifExp (pt_val (pe_callB (r := rIsiT K) call_isiT (by rfl) T.z_isinstance (by decide +kernel) (pa_cons (pv 0) (pa_cons (pe_tup (pa_cons (pe_bltn (v := .ty "list") (by rfl) T.z_list (by decide +kernel) rfl) (pa_cons (pe_bltn (v := .ty "tuple") (by rfl) T.z_tuple (by decide +kernel) rfl) pa_nil))) pa_nil)))) (pe_lc (own := [("_law_own", 1)]) (g := (gName 1)) (tt := tYes) (wi := iTup K _) rfl sc_law_lists.nd (pi_tup (pv 0)) (blkOk_by (N := ["_law_matter", "_law_own"]) (sc := (defScope st_law_lists)) (by decide +kernel)) (fun _ _ _ _ _ => (pg_name (i := 1) sc_law_lists.nd rfl (Or.inl rfl))) (fun _ _ _ _ _ => pts_nil) (fun _ _ _ _ _ => (pe_call G_law_lists (hr.mono (by first | decide | omega)) rfl m_law_lists k_law_lists b_law_lists .nil pass0 (pa_cons (pv 1) pa_nil)))) (pv 0)))), ?_⟩
  refine ⟨_, rfl, (by show 2 ≤ sizeLine; decide), fun p hp => ?_⟩
  have s1 := same_new (o := .tup [.ty "list", .ty "tuple"]) hp
  have ha1 := s1 _ _ ha
  refine ⟨_, p, _, _, _, true, rfl, upd_same, .cons (.ty _) (.cons (.ty _) .nil), .base (.tup ha1), kitAny_cons kit_tl (fun _ => kitAny_cons kit_tt (fun z => nomatch z) (fun _ => rfl)) (fun z => nomatch z), _, rfl, iteT ?_⟩
  refine ⟨_, rfl, a, rfl, ⟨_, SqT.of ha1⟩, fun D hD => ?_⟩
  refine lc_rel (walk_tup (xs := nv xs)) RN monoT_RN (fun _ => true) (fun i => xs.getD i 0) hD (by rw [nv_length]; omega) (fun H' s => SqT.of (s _ _ ha1)) ?_ ?_
  · rintro i y _ H2 hi s2 ⟨rfl, hy⟩ K1 K2 h1 h2
    obtain ⟨x, hx, rfl⟩ := nv_at hy
    rw [getD_of hx] at h1
    refine ⟨rfl, tyes_ok (iteT ?_)⟩
    exact ⟨_, rfl, x, rfl, fun H4 s4 => h1 rfl _ _ s4 rfl⟩
  · intro H2 ys s2 hy py
    have ey := paired_nv py
    rw [nv_length, range_id] at ey
    exact k D _ (same_none s1 hD) (s1.trans s2) (by rw [hy, ey])
def sp_lists2 : Sp := fun vs H Q _ => ∃ (v : V) (S : List (List Nat)), vs = [v] ∧ TS' H v S ∧ S.length ≤ 1000 ∧ (∀ y ∈ S, y.length ≤ 1000) ∧ ∀ v' H', Same H H' → SS true H' v' S → Q v' H'
theorem got_law_lists (T : Txt K mg) : Got P w K mg base 3 "_law_lists" ["_law_matter"] sp_lists2 := by
  refine got_of T.d_law_lists sc_law_lists (fun F => (FunD.bindsN F fun _ _ _ _ _ _ us hl => match us, hl with | [_], _ => rfl)) (fun vs H Q E h => ?_) (fun f cdv A outer s H vs Q E hr h => ?_)
  · obtain ⟨v, S, rfl, _⟩ := h; rfl
  obtain ⟨v, S, rfl, ⟨a, vs, rfl, ha, pr⟩, hl, hsm, k⟩ := h
  have ha : H a = some (.tup vs) := ha
  have hlv : vs.length = S.length := Paired.length pr
  obtain ⟨_, _, m_law_lists, G_law_lists, k_law_lists, b_law_lists⟩ := (got_law_lists1 (P := P) (w := w) (base := base) T).ex
  refine ⟨_, (pss_one (ps_ret (pe_ifExp (pt_val (pe_callB (r := rIsiT K) call_isiT (by rfl) T.z_isinstance (by decide +kernel) (pa_cons (pv 0) (pa_cons (pe_tup (pa_cons (pe_bltn (v := .ty "list") (by rfl) T.z_list (by decide +kernel) rfl) (pa_cons (pe_bltn (v := .ty "tuple") (by rfl) T.z_tuple (by decide +kernel) rfl) pa_nil))) pa_nil)))) (pe_lc (own := [("_law_own", 1)]) (g := (gName 1)) (tt := tYes) (wi := iTup K _) rfl sc_law_lists.nd (pi_tup (pv 0)) (blkOk_by (N := ["_law_matter", "_law_own"]) (sc := (defScope st_law_lists)) (by decide +kernel)) (fun _ _ _ _ _ => (pg_name (i := 1) sc_law_lists.nd rfl (Or.inl rfl))) (fun _ _ _ _ _ => pts_nil) (fun _ _ _ _ _ => (pe_call G_law_lists (hr.mono (by first | decide | omega)) rfl m_law_lists k_law_lists b_law_lists .nil pass0 (pa_cons (pv 1) pa_nil)))) (pv 0)))), ?_⟩
  refine ⟨_, rfl, (by show 2 ≤ sizeLine; decide), fun p hp => ?_⟩
  have s1 := same_new (o := .tup [.ty "list", .ty "tuple"]) hp
  have ha1 := s1 _ _ ha
  refine ⟨_, p, _, _, _, true, rfl, upd_same, .cons (.ty _) (.cons (.ty _) .nil), .base (.tup ha1), kitAny_cons kit_tl (fun _ => kitAny_cons kit_tt (fun z => nomatch z) (fun _ => rfl)) (fun z => nomatch z), _, rfl, iteT ?_⟩
  refine ⟨_, rfl, a, rfl, ⟨_, SqT.of ha1⟩, fun D hD => ?_⟩
  have hD0 := same_none s1 hD
  refine lc_it (walk_tup (xs := vs)) (fun i H' => Same H H' ∧ ∃ ys, H' D = some (.lst ys) ∧ Paired (fun v (x : List Nat) => ∃ b, v = .ref b ∧ b ≠ D ∧ H' b = some (.lst (nv x))) ys (S.take i)) ⟨s1.trans (same_new hD), [], upd_same, .nil⟩ (fun i H' _ h => SqT.of (h.1 _ _ ha)) ?_ ?_
  · rintro i y _ H2 hi ⟨s2, ys, hy2, py⟩ ⟨rfl, hy⟩
    obtain ⟨x, hx, rx⟩ := pgetL pr hy
    refine ⟨rfl, tyes_ok (iteT ?_)⟩
    refine ⟨_, rfl, y, x, rfl, monoT_TN _ _ _ _ (keepT_same s2) rx, hsm x (List.mem_of_getElem? hx), fun q H4 nq s4 hq => ?_⟩
    have nqD : q ≠ D := (ne_of_none hy2 nq).symm
    have hD4 := s4 _ _ hy2
    have hyl := Paired.length py
    refine ⟨ys, hD4, ?_, same_over (s2.trans s4) hD0, ys ++ [.ref q], upd_same, ?_⟩
    · rw [hyl, List.length_take]
      show min i S.length < 2 ^ 24
      omega
    · rw [List.take_add_one, hx]
      refine paired_append (pmap py fun v x ⟨b, e, nb, hb⟩ => ⟨b, e, nb, by rw [upd_ne nb]; exact s4 _ _ hb⟩) (.cons ⟨q, rfl, nqD, by rw [upd_ne nqD]; exact hq⟩ .nil)
  · rintro H2 ⟨s2, ys, hy2, py⟩
    rw [hlv, List.take_length] at py
    exact k _ _ s2 ⟨D, ys, rfl, hy2, pmap py fun v x ⟨b, e, nb, hb⟩ => by rw [e]; exact SN.mk (l := true) hb⟩
end
end K27
set_option Elab.async false
set_option linter.all false
set_option maxRecDepth 100000
set_option maxHeartbeats 8000000
namespace K27
open PySem PySem.Spec PyProof.Rows L2
theorem dpAll_nv {K : PySem.W.Frag} {H : Hp} : ∀ xs : List Nat, DpAll K H (nv xs) (xs.map fun n => PyData.int ((n : Nat) : Int))
  | [] => .nil
  | x :: r => .cons (.int _) (dpAll_nv r)
theorem eqv_nil_iff (xs : List Nat) : PyData.eqv (.list (xs.map fun n => PyData.int ((n : Nat) : Int))) (.list []) = decide (xs = []) := by
  cases xs with
  | nil => simp [PyData.eqv, PyData.eqvAll]
  | cons x r => simp [PyData.eqv, PyData.eqvAll]
theorem eqvT_nil_iff (xs : List Nat) : PyData.eqv (.tuple (xs.map fun n => PyData.int ((n : Nat) : Int))) (.tuple []) = decide (xs = []) := by
  cases xs with
  | nil => simp [PyData.eqv, PyData.eqvAll]
  | cons x r => simp [PyData.eqv, PyData.eqvAll]
theorem lay_ints : ∀ xs : List Nat, PyData.canLayAll0 (xs.map fun n => PyData.int ((n : Nat) : Int)) = true ∧ PyData.depthAll (xs.map fun n => PyData.int ((n : Nat) : Int)) = 0
  | [] => ⟨rfl, rfl⟩
  | x :: r => by
    obtain ⟨h1, h2⟩ := lay_ints r
    simp [PyData.canLayAll0, PyData.canLay0, PyData.depthAll, PyData.depth, h1, h2]
theorem shaped_ints (xs : List Nat) : SeqAt.shaped (.list (xs.map fun n => PyData.int ((n : Nat) : Int))) = true := by
  obtain ⟨h1, h2⟩ := lay_ints xs
  simp [SeqAt.shaped, PyData.canLay0, PyData.depth, h1, h2]
theorem shapedT_ints (xs : List Nat) : SeqAt.shaped (.tuple (xs.map fun n => PyData.int ((n : Nat) : Int))) = true := by
  obtain ⟨h1, h2⟩ := lay_ints xs
  simp [SeqAt.shaped, PyData.canLay0, PyData.depth, h1, h2]
/-- the end of `[..] != []` -/
theorem rNe_nil {K : PySem.W.Frag} {H : Hp} {p e : Addr} {xs : List Nat} {Q : VK} (hp : H p = some (.lst (nv xs))) (he : H e = some (.lst [])) (q : Q (.bl (decide (xs ≠ []))) H) : rNeD K (.ref p) (.ref e) H Q := by
  refine ⟨_, _, .lst (SqL.of hp) (dpAll_nv xs), .lst (SqL.of he) .nil, shaped_ints xs, shapedL_nil, ?_⟩
  rw [eqv_nil_iff]
  have : (!decide (xs = [])) = decide (xs ≠ []) := by simp
  rw [this]
  exact q
theorem rEq_nilL {K : PySem.W.Frag} {H : Hp} {p e : Addr} {xs : List Nat} {Q : VK} (hp : H p = some (.lst (nv xs))) (he : H e = some (.lst [])) (q : Q (.bl (decide (xs = []))) H) : rEqD K (.ref p) (.ref e) H Q := by
  refine ⟨_, _, .lst (SqL.of hp) (dpAll_nv xs), .lst (SqL.of he) .nil, shaped_ints xs, shapedL_nil, ?_⟩
  rw [eqv_nil_iff]
  exact q
theorem rEq_nilT {K : PySem.W.Frag} {H : Hp} {p e : Addr} {xs : List Nat} {Q : VK} (hp : H p = some (.tup (nv xs))) (he : H e = some (.tup [])) (q : Q (.bl (decide (xs = []))) H) : rEqD K (.ref p) (.ref e) H Q := by
  refine ⟨_, _, .tup (SqT.of hp) (dpAll_nv xs), .tup (SqT.of he) .nil, shapedT_ints xs, shaped_nil, ?_⟩
  rw [eqvT_nil_iff]
  exact q
theorem rNe_nilT {K : PySem.W.Frag} {H : Hp} {p e : Addr} {xs : List Nat} {Q : VK} (hp : H p = some (.tup (nv xs))) (he : H e = some (.tup [])) (q : Q (.bl (decide (xs ≠ []))) H) : rNeD K (.ref p) (.ref e) H Q := by
  refine ⟨_, _, .tup (SqT.of hp) (dpAll_nv xs), .tup (SqT.of he) .nil, shapedT_ints xs, shaped_nil, ?_⟩
  rw [eqvT_nil_iff]
  have : (!decide (xs = [])) = decide (xs ≠ []) := by simp
  rw [this]
  exact q
def cV : Option Nat → V
  | none => .non
  | some k => .int (k : Int)
def cellsV (C : Cst) (many : Nat) : List V := (List.range many).map fun c => cV (C c)
theorem cellsV_put (C : Cst) (many c k : Nat) : (cellsV C many).set c (.int (k : Int)) = cellsV (putC C c k) many := by
  apply List.ext_getElem
  · simp [cellsV]
  · intro i h1 h2
    simp only [cellsV, List.getElem_set, List.getElem_map, List.getElem_range, putC]
    by_cases e : c = i
    · subst e; simp [cV]
    · rw [if_neg e, if_neg (Ne.symm e)]
theorem cellsV_flat (C : Cst) (many : Nat) : (cellsV C many).all flatV = true := by
  rw [List.all_eq_true]
  intro v hv
  obtain ⟨c, _, rfl⟩ := List.mem_map.mp hv
  cases C c <;> rfl
theorem inV_cells (C : Cst) (many x : Nat) : inV (.int (x : Int)) (cellsV C many) = (List.range many).any fun c => decide (C c = some x) := by
  unfold inV cellsV
  rw [List.any_map]
  congr 1
  funext c
  show eqV (cV (C c)) (.int (x : Int)) = _
  cases C c with
  | none => rfl
  | some k =>
    show ((k : Int) == (x : Int)) = _
    rw [Bool.eq_iff_iff, beq_iff_eq, decide_eq_true_iff]
    constructor
    · intro h; rw [int_cast_inj h]
    · intro h; rw [Option.some.inj h]
theorem filt_nil {α : Type} (xs : List α) (d : α) (q : α → Bool) : decide ((((List.range xs.length).filter fun i => !q (xs.getD i d)).map fun _ => (1 : Nat)) ≠ []) = !xs.all q := by
  have h := range_map xs (fun x => !q x) (fun _ => (1 : Nat)) d
  rw [h, Bool.eq_iff_iff, decide_eq_true_iff, Bool.not_eq_true', ← Bool.not_eq_true, List.all_eq_true]
  constructor
  · intro h1 h2
    apply h1
    rw [List.map_eq_nil_iff, List.filter_eq_nil_iff]
    intro x hx
    rw [h2 x hx]
    decide
  · intro h1 h2
    apply h1
    intro x hx
    rw [List.map_eq_nil_iff, List.filter_eq_nil_iff] at h2
    have := h2 x hx
    simpa using this
theorem playGo_false {S : List (List Nat)} {many : Nat} : ∀ (qs rs : List (Nat × Nat)) (C : Cst), playGo S many C qs = false → playGo S many C (qs ++ rs) = false := by
  intro qs
  induction qs with
  | nil => intro rs C h; cases h
  | cons p r ih =>
    obtain ⟨pk, pc⟩ := p
    intro rs C h
    simp only [playGo, List.cons_append, Bool.and_eq_false_iff] at h ⊢
    exact h.imp_right fun h => ih rs _ h
section
variable {P : Program} {w : World} {K : PySem.W.Frag} {mg : Str → Option Value} {base : Heap}
/-- slots: 0=_law_shape_here 1=_law_many 2=_law_told 3=_law_cells_here 4=_law_own 5=_law_part; cells: _law_cells_here -/
theorem sc_law_plays : FnScope ["_law_shape_here", "_law_many", "_law_told", "_law_cells_here", "_law_own", "_law_part"] ["_law_shape_here", "_law_many", "_law_told"] (defScope st_law_plays) := ⟨rfl, rfl, rfl, by decide +kernel, rfl, by decide +kernel, by decide +kernel⟩
def sp_law_plays : Sp := fun vs H Q _ => ∃ (l : Bool) (v u : V) (S : List (List Nat)) (many : Nat) (ps : List (Nat × Nat)), vs = [v, .int many, u] ∧ TS' H v S ∧ ShOk S ∧ many ≤ 1000 ∧ Sq l RP H u ps ∧ ps.length ≤ 400 ∧ (∀ p ∈ ps, p.1 < S.length ∧ p.2 < many) ∧
  ∀ H', Same H H' → Q (.bl (!l && isPlayB S many ps)) H'
theorem got_law_plays (T : Txt K mg) : Got P w K mg base 2 "_law_plays" ["_law_shape_here", "_law_many", "_law_told"] sp_law_plays := by
  refine got_of T.d_law_plays sc_law_plays (fun F => (FunD.bindsN F fun _ _ _ _ _ _ us hl => match us, hl with | [_, _, _], _ => rfl)) (fun vs H Q E h => ?_) (fun f cdv A outer s H vs Q E hr h => ?_)
  · obtain ⟨l, v, u, S, m, ps, rfl, _⟩ := h; rfl
  obtain ⟨l, v, u, S, many, ps, rfl, ⟨a, vs0, rfl, ha, pr⟩, ok, hmany, ⟨b, us, rfl, hb, pp⟩, hpl, hlt, kk⟩ := h
  have ha : H a = some (.tup vs0) := ha
  have hlv : vs0.length = S.length := Paired.length pr
  have hul : us.length = ps.length := Paired.length pp
  have few := ok.few
  obtain ⟨_, _, m_law_is_number, G_law_is_number, k_law_is_number, b_law_is_number⟩ := (got_law_is_number (P := P) (w := w) (base := base) T).ex
  refine ⟨_, (pss_cons (ps_if (PW.pt (pw_or (pt_not (pt_val (pe_callB (r := rIsi K) call_isi (by rfl) T.z_isinstance (by decide +kernel) (pa_cons (pv 2) (pa_cons (pe_bltn (v := .ty "tuple") (by rfl) T.z_tuple (by decide +kernel) rfl) pa_nil))))) (pw_or (pt_cmpR op_eq (pe_callB (r := rLenS K) call_len_seq (by rfl) T.z_len (by decide +kernel) (pa_cons (pv 2) pa_nil)) pe_int (nomark _)) (pw_or1 (pt_cmpR op_gt (pe_callB (r := rLenS K) call_len_seq (by rfl) T.z_len (by decide +kernel) (pa_cons (pv 2) pa_nil)) pe_int (nomark _)))))) (pss_one (ps_ret pe_bl)) pss_nil)
      (pss_cons (ps_set (i := 3) sc_law_plays.nd rfl (Or.inr rfl) (pe_op op_rep (pe_lst (pa_cons pe_non pa_nil)) (pv 1)))
      (pss_cons (ps_for PassesOwn.never rfl (pi_sq l (pv 2)) (pg_name (i := 4) sc_law_plays.nd rfl (Or.inl rfl)) (pss_cons (ps_if (PW.pt (pw_or (pt_not (pt_val (pe_callB (r := rIsi K) call_isi (by rfl) T.z_isinstance (by decide +kernel) (pa_cons (pv 4) (pa_cons (pe_bltn (v := .ty "tuple") (by rfl) T.z_tuple (by decide +kernel) rfl) pa_nil))))) (pw_or (pt_cmpR op_ne (pe_callB (r := rLenS K) call_len_seq (by rfl) T.z_len (by decide +kernel) (pa_cons (pv 4) pa_nil)) pe_int (nomark _)) (pw_or (pt_not (pt_val (pe_call G_law_is_number (hr.mono (by first | decide | omega)) rfl m_law_is_number k_law_is_number b_law_is_number .nil pass0 (pa_cons (pe_ix (r := rIx K) ix_seq (pv 4) pe_int (fun _ _ => rfl)) pa_nil)))) (pw_or1 (pt_not (pt_val (pe_call G_law_is_number (hr.mono (by first | decide | omega)) rfl m_law_is_number k_law_is_number b_law_is_number .nil pass0 (pa_cons (pe_ix (r := rIx K) ix_seq (pv 4) pe_int (fun _ _ => rfl)) pa_nil))))))))) (pss_one (ps_ret pe_bl)) pss_nil)
      (pss_cons (ps_if (PW.pt (pw_or (pt_not (pt_chain op_le op_lt pe_int (pe_ix (r := rIx K) ix_seq (pv 4) pe_int (fun _ _ => rfl)) (pe_callB (r := rLenS K) call_len_seq (by rfl) T.z_len (by decide +kernel) (pa_cons (pv 0) pa_nil)))) (pw_or (pt_not (pt_chain op_le op_lt pe_int (pe_ix (r := rIx K) ix_seq (pv 4) pe_int (fun _ _ => rfl)) (pv 1))) (pw_or1 (pt_cmpR (r := rNeD K) (op_neD hr.units) (pe_lc (own := [("_law_part", 5)]) (g := (gName 5)) (wi := iTup K _) rfl sc_law_plays.nd (pi_tup (pe_ix (r := rIxT K) ix_tup (pv 0) (pe_ix (r := rIx K) ix_seq (pv 4) pe_int (fun _ _ => rfl)) (fun _ _ => rfl))) (blkOk_by (N := ["_law_shape_here", "_law_many", "_law_told", "_law_cells_here", "_law_own", "_law_part"]) (sc := (defScope st_law_plays)) (by decide +kernel)) (fun _ _ _ _ _ => (pg_name (i := 5) sc_law_plays.nd rfl (Or.inl rfl))) (fun _ _ _ _ _ => (pts_one (pt_cmpR (r := rIn K true) op_notIn_seq (pv 5) (pv 3) rfl))) (fun _ _ _ _ _ => pe_int)) (pe_lst pa_nil) (nomark _)))))) (pss_one (ps_ret pe_bl)) pss_nil)
      (pss_one (ps_asg (pe_ix (r := rIx K) ix_seq (pv 4) pe_int (fun _ _ => rfl)) (pg_sub (pv 3) (pe_ix (r := rIx K) ix_seq (pv 4) pe_int (fun _ _ => rfl)) set_list))))))
      (pss_one (ps_ret (pe_cmpR op_eq (pe_ix (r := rIx K) ix_seq (pe_ix (r := rIx K) ix_seq (pv 2) (pe_un un_neg pe_int) (fun _ _ => rfl)) pe_int (fun _ _ => rfl)) (pe_op op_sub (pe_callB (r := rLenS K) call_len_seq (by rfl) T.z_len (by decide +kernel) (pa_cons (pv 0) pa_nil)) pe_int) (nomark _))))))), ?_⟩
  cases l with
  | true =>
    have hb : H b = some (.lst us) := hb
    refine ⟨_, rfl, _, _, _, _, _, rfl, .ty _, .base (.lst hb), kit_lt, _, rfl, ?_⟩
    exact iteT (iteT (kk _ (Same.refl _)))
  | false =>
    have hb : H b = some (.tup us) := hb
    refine ⟨_, rfl, _, _, _, _, _, rfl, .ty _, .base (.tup hb), kit_tt, _, rfl, ?_⟩
    refine iteF ⟨_, rfl, b, _, rfl, .inr (SqT.of hb), rfl, _, rfl, ?_⟩
    cases ps with
    | nil =>
      have e : decide (V.int ((us.length : Nat) : Int) = V.int 0) = true := by rw [hul]; rfl
      rw [e]
      exact iteT (iteT (kk _ (Same.refl _)))
    | cons p0 pr0 =>
    generalize hps : p0 :: pr0 = ps at pp hpl hlt kk hul
    have hpne : ps ≠ [] := by rw [← hps]; simp
    have hpos : 0 < ps.length := List.length_pos_iff.mpr hpne
    have e : decide (V.int ((us.length : Nat) : Int) = V.int 0) = false := by
      rw [dec_int, beq_eq_false_iff_ne]
      omega
    rw [e]
    refine iteF ⟨_, rfl, b, _, rfl, .inr (SqT.of hb), _, _, rfl, rfl, _, rfl, ?_⟩
    have e : decide ((400 : Int) < ((us.length : Nat) : Int)) = false := by
      rw [decide_eq_false_iff_not]
      omega
    rw [e]
    refine iteF ?_
    refine ⟨(by show 1 ≤ sizeLine; decide), fun c0 hc0 => ?_⟩
    have s1 := same_new (o := .lst [.non]) hc0
    refine ⟨_, rfl, c0, _, _, rfl, rfl, upd_same, (by omega), (by omega), (by show 1 * (many : Int).toNat ≤ 2 ^ 24; omega), fun d hd => ?_⟩
    have s2 := s1.trans (same_new (o := .lst (List.replicate (many : Int).toNat [V.non]).flatten) hd)
    have hd0 : H d = none := same_none s1 hd
    have ec0 : (List.replicate (many : Int).toNat [V.non]).flatten = cellsV noC many := by
      rw [Int.toNat_natCast]
      unfold cellsV
      have : ∀ n, (List.replicate n [V.non]).flatten = (List.range n).map fun c => cV (noC c) := by
        intro n
        induction n with
        | zero => rfl
        | succ n ih =>
          rw [List.replicate_succ', List.flatten_append, ih, List.range_succ, List.map_append]
          rfl
      exact this many
    refine ⟨_, rfl, b, rfl, ⟨us, s2 _ _ hb⟩, ?_⟩
    refine for_it (walk_sq false (xs := us)) (fun i σ H' => ∃ (x4 x5 : Option V), σ = [some (.ref a), some (.int many), some (.ref b), some (.ref d), x4, x5] ∧ Same H H' ∧ H' d = some (.lst (cellsV (afterC noC (ps.take i)) many)) ∧ playGo S many noC (ps.take i) = true)
      ⟨none, none, rfl, s2, by rw [upd_same, ec0]; rfl, rfl⟩ (fun i σ H' _ ⟨_, _, _, s2, _⟩ => s2 _ _ hb) ?_ ?_
    · rintro i y σ _ H2 hi ⟨x4, x5, rfl, s2, hd2, hgo⟩ ⟨rfl, hy⟩
      obtain ⟨⟨k, c⟩, hk, t0, rfl, ht0⟩ := pgetL pp hy
      obtain ⟨hkS, hcm⟩ := hlt _ (List.mem_of_getElem? hk)
      have hkS : k < S.length := hkS
      have hcm : c < many := hcm
      have ht2 : H2 t0 = some (.tup [.int (k : Int), .int (c : Int)]) := s2 _ _ ht0
      have htk : ps.take (i + 1) = ps.take i ++ [(k, c)] := by rw [List.take_add_one, hk]; rfl
      -- the checks
      refine ⟨_, rfl, _, _, _, _, _, rfl, .ty _, .base (.tup ht2), kit_tt, _, rfl, ?_⟩
      refine iteF ⟨_, rfl, t0, _, rfl, .inr (SqT.of ht2), rfl, _, rfl, ?_⟩
      refine iteF ⟨_, rfl, rIx_t ht2 (j := 0) rfl rfl ?_⟩
      refine ⟨_, rfl, _, rfl, ?_⟩
      refine iteF ⟨_, rfl, rIx_t ht2 (j := 1) rfl rfl ?_⟩
      refine ⟨_, rfl, _, rfl, ?_⟩
      refine iteF ?_
      have s02 : Same H H2 := s2
      refine ⟨_, rfl, rIx_t ht2 (j := 0) rfl rfl ⟨_, _, rfl, rfl, _, rfl, ?_⟩⟩
      rw [decide_eq_true (Int.natCast_nonneg k)]
      refine iteT ⟨_, rfl, a, _, rfl, .inr (SqT.of (s2 _ _ ha)), _, _, rfl, rfl, _, rfl, ?_⟩
      rw [decide_eq_true (show (k : Int) < ((vs0.length : Nat) : Int) by omega)]
      refine iteF ?_
      refine ⟨_, rfl, rIx_t ht2 (j := 1) rfl rfl ⟨_, _, rfl, rfl, _, rfl, ?_⟩⟩
      rw [decide_eq_true (Int.natCast_nonneg c)]
      refine iteT ⟨_, rfl, _, _, rfl, rfl, _, rfl, ?_⟩
      rw [decide_eq_true (show (c : Int) < (many : Int) by omega)]
      refine iteF ?_
      -- all parts lie in cells
      obtain ⟨bk, hbk, hbk2⟩ := SS.get (l := false) pr hkS
      have hbk2 : H bk = some (.tup (nv (parts S k))) := hbk2
      have hbk6 := s2 _ _ hbk2
      refine ⟨_, rfl, _, rfl, rIx_t ht2 (j := 0) rfl rfl ?_⟩
      refine ⟨a, _, _, _, rfl, rfl, SqT.of (s2 _ _ ha), atN hbk, ?_⟩
      refine ⟨bk, rfl, ⟨_, SqT.of hbk6⟩, fun D hD => ?_⟩
      have hpn := nodup_le (ok.nd hkS) fun x hx => ok.lt hkS hx
      refine lc_rel (walk_tup (xs := nv (parts S k))) RN monoT_RN (fun j => !((List.range many).any fun c => decide (afterC noC (ps.take i) c = some ((parts S k).getD j 0)))) (fun j => 1) hD (by rw [nv_length]; omega) (fun H' s => SqT.of (s _ _ hbk6)) ?_ ?_
      · rintro j y _ H7 hj s7 ⟨rfl, hy7⟩ K1 K2 h1 h2
        obtain ⟨x, hx, rfl⟩ := nv_at hy7
        rw [getD_of hx] at h1 h2
        refine ⟨rfl, ?_⟩
        refine ⟨_, rfl, _, rfl, d, _, rfl, .inl (SqL.of (s7 _ _ hd2)), rfl, cellsV_flat _ _, _, rfl, ?_⟩
        have ein : (if (true : Bool) = true then !inV (.int (x : Int)) (cellsV (afterC noC (ps.take i)) many) else inV (.int (x : Int)) (cellsV (afterC noC (ps.take i)) many)) = !((List.range many).any fun c => decide (afterC noC (ps.take i) c = some x)) := by
          rw [if_pos rfl, inV_cells]
        rw [ein]
        refine ite2 (fun c' => ?_) (fun c' => ?_)
        · exact h1 c' _ _ (Same.refl _) rfl
        · exact h2 (by simpa using c') _ (Same.refl _)
      intro H7 bs s7 hz pz
      have ez := paired_nv pz
      rw [ez, nv_length] at hz
      refine ⟨Nat.zero_le _, fun e2 he2 => ?_⟩
      have s8 := same_new (o := .lst []) he2
      refine rNe_nil (s8 _ _ hz) upd_same ?_
      rw [filt_nil (parts S k) 0 fun x => (List.range many).any fun c => decide (afterC noC (ps.take i) c = some x)]
      have eall : ((parts S k).all fun x => (List.range many).any fun c => decide (afterC noC (ps.take i) c = some x)) = hasAll S many (afterC noC (ps.take i)) k := rfl
      rw [eall]
      refine ⟨_, rfl, ?_⟩
      have s28 := s2.trans (s7.trans s8)
      cases hall : hasAll S many (afterC noC (ps.take i)) k with
      | false =>
        refine iteT ?_
        have ef : isPlayB S many ps = false := by
          have hsplit : ps = ps.take (i + 1) ++ ps.drop (i + 1) := (List.take_append_drop _ _).symm
          unfold isPlayB
          rw [hsplit, playGo_false _ _ _ (by rw [htk, playGo_snoc, hall, Bool.and_false])]
          rfl
        rw [ef] at kk
        exact kk _ s28
      | true =>
        refine iteF ?_
        have ht8 := (s7.trans s8) _ _ ht2
        have hd8 := (s7.trans s8) _ _ hd2
        refine ⟨_, rfl, rIx_t ht8 (j := 0) rfl rfl ?_⟩
        refine ⟨_, rfl, _, rfl, rIx_t ht8 (j := 1) rfl rfl ?_⟩
        refine ⟨d, _, _, c, rfl, rfl, hd8, ixN_nat (by simp [cellsV]; exact hcm), ?_⟩
        rw [cellsV_put]
        refine ⟨_, _, rfl, same_over s28 hd0, ?_, ?_⟩
        · rw [upd_same, htk, afterC_snoc]
        · rw [htk, playGo_snoc, hgo, hall]
          rfl
    · rintro σ H2 ⟨x4, x5, rfl, s2, hd2, hgo⟩
      rw [hul, List.take_length] at hgo
      have hlast : us[us.length - 1]? = some us[us.length - 1] := List.getElem?_eq_getElem (by omega)
      obtain ⟨⟨k, c⟩, hk, t0, e0, ht0⟩ := pgetL pp hlast
      rw [hul] at hk
      have ht2 := s2 _ _ ht0
      have hg : us[us.length - 1]? = some (.ref t0) := by rw [hlast, e0]
      refine ⟨_, rfl, _, rfl, .inr (.inl ⟨b, us, _, _, rfl, rfl, SqT.of (s2 _ _ hb), atI_neg1 hg, ?_⟩)⟩
      refine rIx_t ht2 (j := 0) rfl rfl ?_
      refine ⟨_, rfl, a, _, rfl, .inr (SqT.of (s2 _ _ ha)), _, _, rfl, rfl, rfl, ?_⟩
      have ep : decide (V.int ((k : Nat) : Int) = V.int (((vs0.length : Nat) : Int) - 1)) = isPlayB S many ps := by
        unfold isPlayB
        rw [hgo, Bool.true_and, List.getLast?_eq_getElem?, hk, dec_int, Bool.eq_iff_iff, beq_iff_eq, decide_eq_true_iff]
        have pos := ok.pos
        simp
        omega
      show Q (.bl (decide (V.int ((k : Nat) : Int) = V.int (((vs0.length : Nat) : Int) - 1)))) H2
      rw [ep]
      exact kk _ s2

/-- slots: 0=_law_shape_here 1=_law_many 2=_law_told 3=_law_own; cells:  -/
theorem sc_law_spares : FnScope ["_law_shape_here", "_law_many", "_law_told", "_law_own"] ["_law_shape_here", "_law_many", "_law_told"] (defScope st_law_spares) := ⟨rfl, rfl, rfl, by decide +kernel, rfl, by decide +kernel, by decide +kernel⟩
def sp_law_spares : Sp := fun vs H Q _ => ∃ (l : Bool) (v u : V) (S : List (List Nat)) (many : Nat) (ps : List (Nat × Nat)), vs = [v, .int many, u] ∧ TS' H v S ∧ ShOk S ∧ many ≤ 1000 ∧ Sq l RP H u ps ∧ ps.length ≤ 400 ∧ (∀ p ∈ ps, p.1 < S.length ∧ p.2 < many) ∧
  ∀ H', Same H H' → Q (.bl (!l && spareB S many ps)) H'
theorem got_law_spares (T : Txt K mg) : Got P w K mg base 3 "_law_spares" ["_law_shape_here", "_law_many", "_law_told"] sp_law_spares := by
  refine got_of T.d_law_spares sc_law_spares (fun F => (FunD.bindsN F fun _ _ _ _ _ _ us hl => match us, hl with | [_, _, _], _ => rfl)) (fun vs H Q E h => ?_) (fun f cdv A outer s H vs Q E hr h => ?_)
  · obtain ⟨l, v, u, S, m, ps, rfl, _⟩ := h; rfl
  obtain ⟨l, v, u, S, many, ps, rfl, hv, ok, hmany, hps, hpl, hlt, kk⟩ := h
  obtain ⟨_, _, m_law_plays, G_law_plays, k_law_plays, b_law_plays⟩ := (got_law_plays (P := P) (w := w) (base := base) T).ex
  refine ⟨_, (pss_one (ps_ret (pe_and (pe_call G_law_plays (hr.mono (by first | decide | omega)) rfl m_law_plays k_law_plays b_law_plays .nil pass0 (pa_cons (pv 0) (pa_cons (pv 1) (pa_cons (pv 2) pa_nil)))) (pe_one (pe_cmpR op_eq (pe_lenSetD (by rfl) T.z_len (by rfl) T.z_set (pe_lc (own := [("_law_own", 3)]) (g := (gName 3)) (tt := tYes) (wi := iTup K _) rfl sc_law_spares.nd (pi_tup (pv 2)) (blkOk_by (N := ["_law_shape_here", "_law_many", "_law_told", "_law_own"]) (sc := (defScope st_law_spares)) (by decide +kernel)) (fun _ _ _ _ _ => (pg_name (i := 3) sc_law_spares.nd rfl (Or.inl rfl))) (fun _ _ _ _ _ => pts_nil) (fun _ _ _ _ _ => (pe_ix (r := rIx K) ix_seq (pv 3) pe_int (fun _ _ => rfl))))) (pe_callB (r := rLenS K) call_len_seq (by rfl) T.z_len (by decide +kernel) (pa_cons (pv 2) pa_nil)) (nomark _)))))), ?_⟩
  refine ⟨_, rfl, _, rfl, _, rfl, l, _, _, S, many, ps, rfl, hv, ok, hmany, hps, hpl, hlt, fun H1 s1 => ?_⟩
  refine ⟨_, rfl, ?_⟩
  unfold spareB at kk
  cases hp : (!l && isPlayB S many ps) with
  | false =>
    rw [← Bool.and_assoc, hp] at kk
    exact iteF (kk _ s1)
  | true =>
    rw [← Bool.and_assoc, hp, Bool.true_and] at kk
    refine iteT ?_
    have hl : l = false := by cases l <;> simp at hp ⊢
    subst hl
    obtain ⟨b, us, rfl, hb, pp⟩ := hps
    have hb : H b = some (.tup us) := hb
    have hb1 := s1 _ _ hb
    have hul : us.length = ps.length := Paired.length pp
    refine ⟨_, rfl, b, rfl, ⟨us, SqT.of hb1⟩, fun D hD => ?_⟩
    refine lc_rel (walk_tup (xs := us)) RI monoT_RI (fun _ => true) (fun i => (((ps.getD i (0, 0)).1 : Nat) : Int)) hD (by omega) (fun H' s => SqT.of (s _ _ hb1)) ?_ ?_
    · rintro i y _ H2 hi s2 ⟨rfl, hy⟩ K1 K2 h1 h2
      obtain ⟨⟨k, c⟩, hk, t0, rfl, ht0⟩ := pgetL pp hy
      rw [getD_of hk] at h1
      refine ⟨rfl, tyes_ok (iteT ?_)⟩
      exact ⟨_, rfl, rIx_t (s2 _ _ (s1 _ _ ht0)) (j := 0) rfl rfl (h1 rfl _ _ (Same.refl _) rfl)⟩
    intro H2 zs s2 hz pz
    have ez := paired_iv pz
    rw [hul, range_f ps (fun p => ((p.1 : Nat) : Int)) (0, 0)] at ez
    refine ⟨D, _, rfl, SqL.of (by rw [hz, ez]), by rw [List.length_map]; omega, ?_⟩
    refine ⟨_, rfl, b, _, rfl, .inr (SqT.of (s2 _ _ hb1)), rfl, ?_⟩
    have e : decide (V.int ((dct (ps.map fun p => ((p.1 : Nat) : Int)) : Nat) : Int) = V.int ((us.length : Nat) : Int)) = decide (dct (ps.map fun p => ((p.1 : Nat) : Int)) = ps.length) := by
      rw [dec_int, Bool.eq_iff_iff, beq_iff_eq, decide_eq_true_iff, hul]
      omega
    show Q (.bl (decide (V.int ((dct (ps.map fun p => ((p.1 : Nat) : Int)) : Nat) : Int) = V.int ((us.length : Nat) : Int)))) H2
    rw [e]
    exact kk _ (s1.trans s2)
end
end K27
set_option Elab.async false
set_option linter.all false
set_option maxRecDepth 100000
set_option maxHeartbeats 8000000
namespace K27
open PySem PySem.Spec PyProof.Rows L2
theorem filt_false {α : Type} (n : Nat) (f : Nat → α) : (((List.range n).filter fun _ => false).map f) = [] := by
  have : (List.range n).filter (fun _ => false) = [] := List.filter_eq_nil_iff.mpr (fun _ _ => by simp)
  rw [this]
  rfl
def sp_ltk (d : Nat) : Sp := fun vs H Q _ => ∃ (v u : V) (S : List (List Nat)) (t : Tr), vs = [v, .int (d : Nat), u] ∧ TS' H v S ∧ S.length ≤ 1000 ∧ RT H u t ∧ TOk S t ∧ t.hgt ≤ d ∧ d ≤ 10 ∧
  (tk d t = none → ∀ H', Same H H' → Q .non H') ∧ (∀ ks, tk d t = some ks → ∀ p H', H p = none → Same H H' → H' p = some (.lst (nv ks)) → Q (.ref p) H')
section
variable {P : Program} {w : World} {K : PySem.W.Frag} {mg : Str → Option Value} {base : Heap}
/-- slots: 0=_law_shape_here 1=_law_depth 2=_law_told 3=_law_way 4=_law_one 5=_law_k 6=_law_found 7=_law_own 8=_law_knots; cells: _law_shape_here _law_way -/
theorem sc_law_tree_knots : FnScope ["_law_shape_here", "_law_depth", "_law_told", "_law_way", "_law_one", "_law_k", "_law_found", "_law_own", "_law_knots"] ["_law_shape_here", "_law_depth", "_law_told"] (defScope st_law_tree_knots) := ⟨rfl, rfl, rfl, by decide +kernel, rfl, by decide +kernel, by decide +kernel⟩
theorem got_law_tree_knots0 (T : Txt K mg) : Got P w K mg base 2 "_law_tree_knots" ["_law_shape_here", "_law_depth", "_law_told"] (sp_ltk 0) := by
  refine got_of T.d_law_tree_knots sc_law_tree_knots (fun F => (FunD.bindsN F fun _ _ _ _ _ _ us hl => match us, hl with | [_, _, _], _ => rfl)) (fun vs H Q E h => ?_) (fun f cdv A outer s H vs Q E hr h => ?_)
  · obtain ⟨v, u, S, t, rfl, _⟩ := h; rfl
  obtain ⟨v, u, S, t, rfl, hv, hS, ht, tok, hh, _, kN, kS⟩ := h
  obtain ⟨_, _, m_law_is_number, G_law_is_number, k_law_is_number, b_law_is_number⟩ := (got_law_is_number (P := P) (w := w) (base := base) T).ex
  obtain ⟨c, vs0, rfl, hc, pr⟩ := id hv
  have hc : H c = some (.tup vs0) := hc
  have hlv : vs0.length = S.length := Paired.length pr
  refine ⟨_, (pss_cons (ps_if (PW.pt (pw_or (pt_not (pt_val (pe_callB (r := rIsi K) call_isi (by rfl) T.z_isinstance (by decide +kernel) (pa_cons (pv 2) (pa_cons (pe_bltn (v := .ty "tuple") (by rfl) T.z_tuple (by decide +kernel) rfl) pa_nil))))) (pw_or (pt_cmpR op_ne (pe_callB (r := rLenS K) call_len_seq (by rfl) T.z_len (by decide +kernel) (pa_cons (pv 2) pa_nil)) pe_int (nomark _)) (pw_or (pt_not (pt_val (pe_callB (r := rIsi K) call_isi (by rfl) T.z_isinstance (by decide +kernel) (pa_cons (pe_ix (r := rIx K) ix_seq (pv 2) pe_int (fun _ _ => rfl)) (pa_cons (pe_bltn (v := .ty "tuple") (by rfl) T.z_tuple (by decide +kernel) rfl) pa_nil))))) (pw_or1 (pt_cmpR (r := rEqD K) (op_eqD hr.units) (pe_ix (r := rIx K) ix_seq (pv 2) pe_int (fun _ _ => rfl)) (pe_tup pa_nil) (nomark _))))))) (pss_one (ps_ret pe_non)) pss_nil)
      (pss_cons (ps_set (i := 3) sc_law_tree_knots.nd rfl (Or.inr rfl) (pe_ix (r := rIx K) ix_seq (pv 2) pe_int (fun _ _ => rfl)))
      (pss_cons (ps_if (pt_cmpR (r := rNeD K) (op_neD hr.units) (pe_lc (own := [("_law_one", 4)]) (g := (gName 4)) (wi := iTup K _) rfl sc_law_tree_knots.nd (pi_tup (pv 3)) (blkOk_by (N := ["_law_shape_here", "_law_depth", "_law_told", "_law_way", "_law_one", "_law_k", "_law_found", "_law_own", "_law_knots"]) (sc := (defScope st_law_tree_knots)) (by decide +kernel)) (fun _ _ _ _ _ => (pg_name (i := 4) sc_law_tree_knots.nd rfl (Or.inl rfl))) (fun _ _ _ _ _ => (pts_one (PW.pt (pw_or (pt_not (pt_val (pe_call G_law_is_number (hr.mono (by first | decide | omega)) rfl m_law_is_number k_law_is_number b_law_is_number .nil pass0 (pa_cons (pv 4) pa_nil)))) (pw_or1 (pt_not (pt_chain op_le op_lt pe_int (pv 4) (pe_callB (r := rLenS K) call_len_seq (by rfl) T.z_len (by decide +kernel) (pa_cons (pv 0) pa_nil))))))))) (fun _ _ _ _ _ => pe_int)) (pe_lst pa_nil) (nomark _)) (pss_one (ps_ret pe_non)) pss_nil)
      (pss_cons (ps_if (pt_cmpR (r := rNeD K) (op_neD hr.units) (pe_lc (own := [("_law_k", 5)]) (g := (gName 5)) rfl sc_law_tree_knots.nd (pi_range1 (by rfl) T.z_range (pa_cons (pe_op op_sub (pe_callB (r := rLenS K) call_len_seq (by rfl) T.z_len (by decide +kernel) (pa_cons (pv 3) pa_nil)) pe_int) pa_nil)) (blkOk_by (N := ["_law_shape_here", "_law_depth", "_law_told", "_law_way", "_law_one", "_law_k", "_law_found", "_law_own", "_law_knots"]) (sc := (defScope st_law_tree_knots)) (by decide +kernel)) (fun _ _ _ _ _ => (pg_name (i := 5) sc_law_tree_knots.nd rfl (Or.inl rfl))) (fun _ _ _ _ _ => (pts_one (pt_cmpR (r := rIn K true) op_notIn_seq (pe_ix (r := rIx K) ix_seq (pv 3) (pe_op op_add (pv 5) pe_int) (fun _ _ => rfl)) (pe_ix (r := rIx K) ix_seq (pv 0) (pe_ix (r := rIx K) ix_seq (pv 3) (pv 5) (fun _ _ => rfl)) (fun _ _ => rfl)) rfl))) (fun _ _ _ _ _ => pe_int)) (pe_lst pa_nil) (nomark _)) (pss_one (ps_ret pe_non)) pss_nil)
      (pss_cons (ps_if (pt_cmpR op_eq (pv 1) pe_int (nomark _)) (pss_one (ps_ret (pe_ifExp (pt_cmpR (r := rEqD K) (op_eqD hr.units) (pe_ix (r := rIxT K) ix_tup (pv 2) pe_int (fun _ _ => rfl)) (pe_tup pa_nil) (nomark _)) (pe_callTy (r := rListOf K) call_list_of (by rfl) T.z_list (by decide +kernel) (pa_cons (pv 3) pa_nil)) pe_non))) pss_nil)
      pss_never))))), ?_⟩
  cases t with
  | nd w x y => simp [Tr.hgt] at hh
  | lf w =>
    obtain ⟨a, u1, e, rfl, ha, hu1, he⟩ := ht
    obtain ⟨wok, wl⟩ := tok
    obtain ⟨b, rfl, hb⟩ := hu1.of
    refine ⟨_, rfl, _, _, _, _, _, rfl, .ty _, .base (.tup ha), kit_tt, _, rfl, ?_⟩
    refine iteF ⟨_, rfl, a, _, rfl, .inr (SqT.of ha), rfl, _, rfl, ?_⟩
    refine iteF ⟨_, rfl, rIx_t ha (j := 0) rfl rfl ?_⟩
    refine ⟨_, _, _, _, _, rfl, .ty _, .base (.tup hb), kit_tt, _, rfl, ?_⟩
    refine iteF ⟨_, rfl, rIx_t ha (j := 0) rfl rfl ?_⟩
    refine ⟨Nat.zero_le _, fun e1 he1 => ?_⟩
    have s1 := same_new (o := .tup []) he1
    refine rEq_nilT (s1 _ _ hb) upd_same ⟨_, rfl, ?_⟩
    rw [decide_eq_false wok.ne]
    refine iteF ?_
    refine ⟨_, rfl, rIx_t (s1 _ _ ha) (j := 0) rfl rfl ?_⟩
    refine ⟨_, rfl, b, rfl, ⟨_, SqT.of (s1 _ _ hb)⟩, fun D hD => ?_⟩
    refine lc_rel (walk_tup (xs := nv w)) RN monoT_RN (fun _ => false) (fun _ => 1) hD (by rw [nv_length]; omega) (fun H' s => SqT.of (s _ _ (s1 _ _ hb))) ?_ ?_
    · rintro j y _ H7 hj s7 ⟨rfl, hy7⟩ K1 K2 h1 h2
      obtain ⟨x, hx, rfl⟩ := nv_at hy7
      have hxS := wok.lt x (List.mem_of_getElem? hx)
      refine ⟨rfl, ?_⟩
      refine ⟨_, rfl, _, rfl, _, rfl, ?_⟩
      refine iteF ⟨_, rfl, _, _, rfl, rfl, _, rfl, ?_⟩
      rw [decide_eq_true (Int.natCast_nonneg x)]
      refine iteT ⟨_, rfl, c, _, rfl, .inr (SqT.of (s7 _ _ (s1 _ _ hc))), _, _, rfl, rfl, _, rfl, ?_⟩
      rw [decide_eq_true (show (x : Int) < ((vs0.length : Nat) : Int) by omega)]
      exact iteF (h2 rfl _ (Same.refl _))
    intro H2 zs s2 hz pz
    have ez := paired_nv pz
    rw [ez, filt_false] at hz
    refine ⟨Nat.zero_le _, fun e2 he2 => ?_⟩
    have s3 := s1.trans (s2.trans (same_new (o := .lst []) he2))
    refine rNe_nil (xs := []) (same_new he2 _ _ hz) upd_same ⟨_, rfl, iteF ?_⟩
    generalize upd H2 e2 (.lst []) = H3 at s3
    refine ⟨_, rfl, b, _, rfl, .inr (SqT.of (s3 _ _ hb)), _, _, rfl, rfl, _, rfl, (by have := nv_length w; omega), (by have := nv_length w; omega), fun D2 hD2 => ?_⟩
    have en : ((((nv w).length : Nat) : Int) - 1).toNat = w.length - 1 := by rw [nv_length]; omega
    refine lc_rel walk_range RN monoT_RN (fun _ => false) (fun _ => 1) hD2 (by rw [en]; omega) (fun H' s => trivial) ?_ ?_
    · rintro j y _ H7 hj s7 ⟨rfl, rfl⟩ K1 K2 h1 h2
      rw [en] at hj
      have ej : (0 + (j : Int)) = (j : Int) := Int.zero_add _
      simp only [ej]
      have s37 := s3.trans s7
      have g1 : w[j]? = some w[j] := List.getElem?_eq_getElem (by omega)
      have g2 : w[j + 1]? = some w[j + 1] := List.getElem?_eq_getElem (by omega)
      have hxS := wok.lt w[j] (List.getElem_mem _)
      have hdn := wok.down j _ _ g1 g2
      obtain ⟨bl, hbl, hbl2⟩ := SS.get (l := false) pr hxS
      have hbl2 : H bl = some (.tup (nv (parts S w[j]))) := hbl2
      refine ⟨rfl, ?_⟩
      refine ⟨_, rfl, _, rfl, _, _, rfl, rfl, ?_⟩
      refine rIx_t (s37 _ _ hb) (j := j + 1) (by omega) (nv_get g2) ?_
      refine ⟨_, rfl, _, rfl, _, rfl, rIx_t (s37 _ _ hb) (j := j) rfl (nv_get g1) ?_⟩
      refine rIx_t (s37 _ _ hc) rfl hbl ?_
      refine ⟨bl, _, rfl, .inr (SqT.of (s37 _ _ hbl2)), rfl, flat_nv _, _, rfl, ?_⟩
      have ein : (if (true : Bool) = true then !inV (.int (w[j + 1] : Nat)) (nv (parts S w[j])) else inV (.int (w[j + 1] : Nat)) (nv (parts S w[j]))) = false := by
        rw [if_pos rfl, inV_nv, decide_eq_true hdn]
        rfl
      rw [ein]
      exact iteF (h2 rfl _ (Same.refl _))
    intro H4 zs2 s4 hz2 pz2
    have ez2 := paired_nv pz2
    rw [ez2, filt_false] at hz2
    refine ⟨Nat.zero_le _, fun e4 he4 => ?_⟩
    have s5 := s3.trans (s4.trans (same_new (o := .lst []) he4))
    refine rNe_nil (xs := []) (same_new he4 _ _ hz2) upd_same ⟨_, rfl, iteF ?_⟩
    generalize upd H4 e4 (.lst []) = H1 at s5
    refine ⟨_, rfl, rfl, _, rfl, ?_⟩
    refine iteT ?_
    refine ⟨_, rfl, a, _, _, _, rfl, rfl, SqT.of (s5 _ _ ha), at_of (j := 1) rfl rfl, ?_⟩
    refine ⟨Nat.zero_le _, fun e6 he6 => ?_⟩
    have s6 := s5.trans (same_new (o := .tup []) he6)
    refine rEq_nilT (xs := []) (s6 _ _ he) upd_same ⟨_, rfl, iteT ?_⟩
    refine ⟨_, rfl, b, _, rfl, .inr (SqT.of (s6 _ _ hb)), fun q hq => ?_⟩
    exact kS w rfl q _ (same_none s6 hq) (s6.trans (same_new hq)) upd_same
theorem got_law_tree_knots1 {d k : Nat} (T : Txt K mg) (hk : 1 ≤ k) (hd10 : d < 10) (G : Got P w K mg base k "_law_tree_knots" ["_law_shape_here", "_law_depth", "_law_told"] (sp_ltk d)) : Got P w K mg base (k + 1) "_law_tree_knots" ["_law_shape_here", "_law_depth", "_law_told"] (sp_ltk (d + 1)) := by
  refine got_of T.d_law_tree_knots sc_law_tree_knots (fun F => (FunD.bindsN F fun _ _ _ _ _ _ us hl => match us, hl with | [_, _, _], _ => rfl)) (fun vs H Q E h => ?_) (fun f cdv A outer s H vs Q E hr h => ?_)
  · obtain ⟨v, u, S, t, rfl, _⟩ := h; rfl
  obtain ⟨v, u, S, t, rfl, hv, hS, ht, tok, hh, _, kN, kS⟩ := h
  obtain ⟨_, _, m_law_is_number, G_law_is_number, k_law_is_number, b_law_is_number⟩ := (got_law_is_number (P := P) (w := w) (base := base) T).ex
  obtain ⟨_, _, m_law_tree_knots, G_law_tree_knots, k_law_tree_knots, b_law_tree_knots⟩ := G.ex
  obtain ⟨c, vs0, rfl, hc, pr⟩ := id hv
  have hc : H c = some (.tup vs0) := hc
  have hlv : vs0.length = S.length := Paired.length pr
  refine ⟨_, (pss_cons (ps_if (PW.pt (pw_or (pt_not (pt_val (pe_callB (r := rIsi K) call_isi (by rfl) T.z_isinstance (by decide +kernel) (pa_cons (pv 2) (pa_cons (pe_bltn (v := .ty "tuple") (by rfl) T.z_tuple (by decide +kernel) rfl) pa_nil))))) (pw_or (pt_cmpR op_ne (pe_callB (r := rLenS K) call_len_seq (by rfl) T.z_len (by decide +kernel) (pa_cons (pv 2) pa_nil)) pe_int (nomark _)) (pw_or (pt_not (pt_val (pe_callB (r := rIsi K) call_isi (by rfl) T.z_isinstance (by decide +kernel) (pa_cons (pe_ix (r := rIx K) ix_seq (pv 2) pe_int (fun _ _ => rfl)) (pa_cons (pe_bltn (v := .ty "tuple") (by rfl) T.z_tuple (by decide +kernel) rfl) pa_nil))))) (pw_or1 (pt_cmpR (r := rEqD K) (op_eqD hr.units) (pe_ix (r := rIx K) ix_seq (pv 2) pe_int (fun _ _ => rfl)) (pe_tup pa_nil) (nomark _))))))) (pss_one (ps_ret pe_non)) pss_nil)
      (pss_cons (ps_set (i := 3) sc_law_tree_knots.nd rfl (Or.inr rfl) (pe_ix (r := rIx K) ix_seq (pv 2) pe_int (fun _ _ => rfl)))
      (pss_cons (ps_if (pt_cmpR (r := rNeD K) (op_neD hr.units) (pe_lc (own := [("_law_one", 4)]) (g := (gName 4)) (wi := iTup K _) rfl sc_law_tree_knots.nd (pi_tup (pv 3)) (blkOk_by (N := ["_law_shape_here", "_law_depth", "_law_told", "_law_way", "_law_one", "_law_k", "_law_found", "_law_own", "_law_knots"]) (sc := (defScope st_law_tree_knots)) (by decide +kernel)) (fun _ _ _ _ _ => (pg_name (i := 4) sc_law_tree_knots.nd rfl (Or.inl rfl))) (fun _ _ _ _ _ => (pts_one (PW.pt (pw_or (pt_not (pt_val (pe_call G_law_is_number (hr.mono (by first | decide | omega)) rfl m_law_is_number k_law_is_number b_law_is_number .nil pass0 (pa_cons (pv 4) pa_nil)))) (pw_or1 (pt_not (pt_chain op_le op_lt pe_int (pv 4) (pe_callB (r := rLenS K) call_len_seq (by rfl) T.z_len (by decide +kernel) (pa_cons (pv 0) pa_nil))))))))) (fun _ _ _ _ _ => pe_int)) (pe_lst pa_nil) (nomark _)) (pss_one (ps_ret pe_non)) pss_nil)
      (pss_cons (ps_if (pt_cmpR (r := rNeD K) (op_neD hr.units) (pe_lc (own := [("_law_k", 5)]) (g := (gName 5)) rfl sc_law_tree_knots.nd (pi_range1 (by rfl) T.z_range (pa_cons (pe_op op_sub (pe_callB (r := rLenS K) call_len_seq (by rfl) T.z_len (by decide +kernel) (pa_cons (pv 3) pa_nil)) pe_int) pa_nil)) (blkOk_by (N := ["_law_shape_here", "_law_depth", "_law_told", "_law_way", "_law_one", "_law_k", "_law_found", "_law_own", "_law_knots"]) (sc := (defScope st_law_tree_knots)) (by decide +kernel)) (fun _ _ _ _ _ => (pg_name (i := 5) sc_law_tree_knots.nd rfl (Or.inl rfl))) (fun _ _ _ _ _ => (pts_one (pt_cmpR (r := rIn K true) op_notIn_seq (pe_ix (r := rIx K) ix_seq (pv 3) (pe_op op_add (pv 5) pe_int) (fun _ _ => rfl)) (pe_ix (r := rIx K) ix_seq (pv 0) (pe_ix (r := rIx K) ix_seq (pv 3) (pv 5) (fun _ _ => rfl)) (fun _ _ => rfl)) rfl))) (fun _ _ _ _ _ => pe_int)) (pe_lst pa_nil) (nomark _)) (pss_one (ps_ret pe_non)) pss_nil)
      (pss_cons (ps_if (pt_cmpR op_eq (pv 1) pe_int (nomark _)) (pss_one (ps_ret (pe_ifExp (pt_cmpR (r := rEqD K) (op_eqD hr.units) (pe_ix (r := rIxT K) ix_tup (pv 2) pe_int (fun _ _ => rfl)) (pe_tup pa_nil) (nomark _)) (pe_callTy (r := rListOf K) call_list_of (by rfl) T.z_list (by decide +kernel) (pa_cons (pv 3) pa_nil)) pe_non))) pss_nil)
      (pss_cons (ps_if (PW.pt (pw_or (pt_not (pt_val (pe_callB (r := rIsi K) call_isi (by rfl) T.z_isinstance (by decide +kernel) (pa_cons (pe_ix (r := rIxT K) ix_tup (pv 2) pe_int (fun _ _ => rfl)) (pa_cons (pe_bltn (v := .ty "tuple") (by rfl) T.z_tuple (by decide +kernel) rfl) pa_nil))))) (pw_or1 (pt_cmpR op_ne (pe_callB (r := rLenS K) call_len_seq (by rfl) T.z_len (by decide +kernel) (pa_cons (pe_ix (r := rIxT K) ix_tup (pv 2) pe_int (fun _ _ => rfl)) pa_nil)) pe_int (nomark _))))) (pss_one (ps_ret pe_non)) pss_nil)
      (pss_cons (ps_set (i := 6) sc_law_tree_knots.nd rfl (Or.inl rfl) (pe_callTy (r := rListOf K) call_list_of (by rfl) T.z_list (by decide +kernel) (pa_cons (pv 3) pa_nil)))
      (pss_cons (ps_for PassesOwn.never rfl (pi_tup (pe_ix (r := rIxT K) ix_tup (pv 2) pe_int (fun _ _ => rfl))) (pg_name (i := 7) sc_law_tree_knots.nd rfl (Or.inl rfl)) (pss_cons (ps_set (i := 8) sc_law_tree_knots.nd rfl (Or.inl rfl) (pe_call G_law_tree_knots (hr.mono (by first | decide | omega)) rfl m_law_tree_knots k_law_tree_knots b_law_tree_knots .nil pass0 (pa_cons (pv 0) (pa_cons (pe_op op_sub (pv 1) pe_int) (pa_cons (pv 7) pa_nil)))))
      (pss_cons (ps_if (PW.pt (pw_or (pt_cmpR op_isN (pv 8) pe_non (nomark _)) (pw_or1 (pt_cmpR (r := rIn K true) op_notIn_seq (pe_ix (r := rIx K) ix_seq (pv 8) pe_int (fun _ _ => rfl)) (pe_ix (r := rIx K) ix_seq (pv 0) (pe_ix (r := rIx K) ix_seq (pv 3) (pe_un un_neg pe_int) (fun _ _ => rfl)) (fun _ _ => rfl)) rfl)))) (pss_one (ps_ret pe_non)) pss_nil)
      (pss_one (ps_set (i := 6) sc_law_tree_knots.nd rfl (Or.inl rfl) (pe_op op_cat (pv 6) (pv 8)))))))
      (pss_one (ps_ret (pv 6))))))))))), ?_⟩
  have hdne : decide (V.int (((d + 1 : Nat) : Nat) : Int) = V.int 0) = false := by
    rw [dec_int, beq_eq_false_iff_ne]
    omega
  cases t with
  | lf w =>
    obtain ⟨a, u1, e, rfl, ha, hu1, he⟩ := ht
    obtain ⟨wok, wl⟩ := tok
    obtain ⟨b, rfl, hb⟩ := hu1.of
    refine ⟨_, rfl, _, _, _, _, _, rfl, .ty _, .base (.tup ha), kit_tt, _, rfl, ?_⟩
    refine iteF ⟨_, rfl, a, _, rfl, .inr (SqT.of ha), rfl, _, rfl, ?_⟩
    refine iteF ⟨_, rfl, rIx_t ha (j := 0) rfl rfl ?_⟩
    refine ⟨_, _, _, _, _, rfl, .ty _, .base (.tup hb), kit_tt, _, rfl, ?_⟩
    refine iteF ⟨_, rfl, rIx_t ha (j := 0) rfl rfl ?_⟩
    refine ⟨Nat.zero_le _, fun e1 he1 => ?_⟩
    have s1 := same_new (o := .tup []) he1
    refine rEq_nilT (s1 _ _ hb) upd_same ⟨_, rfl, ?_⟩
    rw [decide_eq_false wok.ne]
    refine iteF ?_
    refine ⟨_, rfl, rIx_t (s1 _ _ ha) (j := 0) rfl rfl ?_⟩
    refine ⟨_, rfl, b, rfl, ⟨_, SqT.of (s1 _ _ hb)⟩, fun D hD => ?_⟩
    refine lc_rel (walk_tup (xs := nv w)) RN monoT_RN (fun _ => false) (fun _ => 1) hD (by rw [nv_length]; omega) (fun H' s => SqT.of (s _ _ (s1 _ _ hb))) ?_ ?_
    · rintro j y _ H7 hj s7 ⟨rfl, hy7⟩ K1 K2 h1 h2
      obtain ⟨x, hx, rfl⟩ := nv_at hy7
      have hxS := wok.lt x (List.mem_of_getElem? hx)
      refine ⟨rfl, ?_⟩
      refine ⟨_, rfl, _, rfl, _, rfl, ?_⟩
      refine iteF ⟨_, rfl, _, _, rfl, rfl, _, rfl, ?_⟩
      rw [decide_eq_true (Int.natCast_nonneg x)]
      refine iteT ⟨_, rfl, c, _, rfl, .inr (SqT.of (s7 _ _ (s1 _ _ hc))), _, _, rfl, rfl, _, rfl, ?_⟩
      rw [decide_eq_true (show (x : Int) < ((vs0.length : Nat) : Int) by omega)]
      exact iteF (h2 rfl _ (Same.refl _))
    intro H2 zs s2 hz pz
    have ez := paired_nv pz
    rw [ez, filt_false] at hz
    refine ⟨Nat.zero_le _, fun e2 he2 => ?_⟩
    have s3 := s1.trans (s2.trans (same_new (o := .lst []) he2))
    refine rNe_nil (xs := []) (same_new he2 _ _ hz) upd_same ⟨_, rfl, iteF ?_⟩
    generalize upd H2 e2 (.lst []) = H3 at s3
    refine ⟨_, rfl, b, _, rfl, .inr (SqT.of (s3 _ _ hb)), _, _, rfl, rfl, _, rfl, (by have := nv_length w; omega), (by have := nv_length w; omega), fun D2 hD2 => ?_⟩
    have en : ((((nv w).length : Nat) : Int) - 1).toNat = w.length - 1 := by rw [nv_length]; omega
    refine lc_rel walk_range RN monoT_RN (fun _ => false) (fun _ => 1) hD2 (by rw [en]; omega) (fun H' s => trivial) ?_ ?_
    · rintro j y _ H7 hj s7 ⟨rfl, rfl⟩ K1 K2 h1 h2
      rw [en] at hj
      have ej : (0 + (j : Int)) = (j : Int) := Int.zero_add _
      simp only [ej]
      have s37 := s3.trans s7
      have g1 : w[j]? = some w[j] := List.getElem?_eq_getElem (by omega)
      have g2 : w[j + 1]? = some w[j + 1] := List.getElem?_eq_getElem (by omega)
      have hxS := wok.lt w[j] (List.getElem_mem _)
      have hdn := wok.down j _ _ g1 g2
      obtain ⟨bl, hbl, hbl2⟩ := SS.get (l := false) pr hxS
      have hbl2 : H bl = some (.tup (nv (parts S w[j]))) := hbl2
      refine ⟨rfl, ?_⟩
      refine ⟨_, rfl, _, rfl, _, _, rfl, rfl, ?_⟩
      refine rIx_t (s37 _ _ hb) (j := j + 1) (by omega) (nv_get g2) ?_
      refine ⟨_, rfl, _, rfl, _, rfl, rIx_t (s37 _ _ hb) (j := j) rfl (nv_get g1) ?_⟩
      refine rIx_t (s37 _ _ hc) rfl hbl ?_
      refine ⟨bl, _, rfl, .inr (SqT.of (s37 _ _ hbl2)), rfl, flat_nv _, _, rfl, ?_⟩
      have ein : (if (true : Bool) = true then !inV (.int (w[j + 1] : Nat)) (nv (parts S w[j])) else inV (.int (w[j + 1] : Nat)) (nv (parts S w[j]))) = false := by
        rw [if_pos rfl, inV_nv, decide_eq_true hdn]
        rfl
      rw [ein]
      exact iteF (h2 rfl _ (Same.refl _))
    intro H4 zs2 s4 hz2 pz2
    have ez2 := paired_nv pz2
    rw [ez2, filt_false] at hz2
    refine ⟨Nat.zero_le _, fun e4 he4 => ?_⟩
    have s5 := s3.trans (s4.trans (same_new (o := .lst []) he4))
    refine rNe_nil (xs := []) (same_new he4 _ _ hz2) upd_same ⟨_, rfl, iteF ?_⟩
    generalize upd H4 e4 (.lst []) = H1 at s5
    refine ⟨_, rfl, rfl, _, rfl, ?_⟩
    rw [hdne]
    refine iteF ?_
    refine ⟨_, rfl, a, _, _, _, rfl, rfl, SqT.of (s5 _ _ ha), at_of (j := 1) rfl rfl, ?_⟩
    refine ⟨_, _, _, _, _, rfl, .ty _, .base (.tup (s5 _ _ he)), kit_tt, _, rfl, ?_⟩
    refine iteF ⟨_, rfl, a, _, _, _, rfl, rfl, SqT.of (s5 _ _ ha), at_of (j := 1) rfl rfl, ?_⟩
    refine ⟨e, _, rfl, .inr (SqT.of (s5 _ _ he)), rfl, _, rfl, ?_⟩
    exact iteT (kN rfl _ s5)
  | nd w x y =>
    obtain ⟨a, u1, b2, p, q, rfl, ha, hu1, hb2, hx, hy⟩ := ht
    obtain ⟨wok, wl, xok, yok, hrx, hry⟩ := tok
    have hhx : x.hgt ≤ d := by simp [Tr.hgt] at hh; omega
    have hhy : y.hgt ≤ d := by simp [Tr.hgt] at hh; omega
    obtain ⟨b, rfl, hb⟩ := hu1.of
    refine ⟨_, rfl, _, _, _, _, _, rfl, .ty _, .base (.tup ha), kit_tt, _, rfl, ?_⟩
    refine iteF ⟨_, rfl, a, _, rfl, .inr (SqT.of ha), rfl, _, rfl, ?_⟩
    refine iteF ⟨_, rfl, rIx_t ha (j := 0) rfl rfl ?_⟩
    refine ⟨_, _, _, _, _, rfl, .ty _, .base (.tup hb), kit_tt, _, rfl, ?_⟩
    refine iteF ⟨_, rfl, rIx_t ha (j := 0) rfl rfl ?_⟩
    refine ⟨Nat.zero_le _, fun e1 he1 => ?_⟩
    have s1 := same_new (o := .tup []) he1
    refine rEq_nilT (s1 _ _ hb) upd_same ⟨_, rfl, ?_⟩
    rw [decide_eq_false wok.ne]
    refine iteF ?_
    refine ⟨_, rfl, rIx_t (s1 _ _ ha) (j := 0) rfl rfl ?_⟩
    refine ⟨_, rfl, b, rfl, ⟨_, SqT.of (s1 _ _ hb)⟩, fun D hD => ?_⟩
    refine lc_rel (walk_tup (xs := nv w)) RN monoT_RN (fun _ => false) (fun _ => 1) hD (by rw [nv_length]; omega) (fun H' s => SqT.of (s _ _ (s1 _ _ hb))) ?_ ?_
    · rintro j y _ H7 hj s7 ⟨rfl, hy7⟩ K1 K2 h1 h2
      obtain ⟨x, hx, rfl⟩ := nv_at hy7
      have hxS := wok.lt x (List.mem_of_getElem? hx)
      refine ⟨rfl, ?_⟩
      refine ⟨_, rfl, _, rfl, _, rfl, ?_⟩
      refine iteF ⟨_, rfl, _, _, rfl, rfl, _, rfl, ?_⟩
      rw [decide_eq_true (Int.natCast_nonneg x)]
      refine iteT ⟨_, rfl, c, _, rfl, .inr (SqT.of (s7 _ _ (s1 _ _ hc))), _, _, rfl, rfl, _, rfl, ?_⟩
      rw [decide_eq_true (show (x : Int) < ((vs0.length : Nat) : Int) by omega)]
      exact iteF (h2 rfl _ (Same.refl _))
    intro H2 zs s2 hz pz
    have ez := paired_nv pz
    rw [ez, filt_false] at hz
    refine ⟨Nat.zero_le _, fun e2 he2 => ?_⟩
    have s3 := s1.trans (s2.trans (same_new (o := .lst []) he2))
    refine rNe_nil (xs := []) (same_new he2 _ _ hz) upd_same ⟨_, rfl, iteF ?_⟩
    generalize upd H2 e2 (.lst []) = H3 at s3
    refine ⟨_, rfl, b, _, rfl, .inr (SqT.of (s3 _ _ hb)), _, _, rfl, rfl, _, rfl, (by have := nv_length w; omega), (by have := nv_length w; omega), fun D2 hD2 => ?_⟩
    have en : ((((nv w).length : Nat) : Int) - 1).toNat = w.length - 1 := by rw [nv_length]; omega
    refine lc_rel walk_range RN monoT_RN (fun _ => false) (fun _ => 1) hD2 (by rw [en]; omega) (fun H' s => trivial) ?_ ?_
    · rintro j y _ H7 hj s7 ⟨rfl, rfl⟩ K1 K2 h1 h2
      rw [en] at hj
      have ej : (0 + (j : Int)) = (j : Int) := Int.zero_add _
      simp only [ej]
      have s37 := s3.trans s7
      have g1 : w[j]? = some w[j] := List.getElem?_eq_getElem (by omega)
      have g2 : w[j + 1]? = some w[j + 1] := List.getElem?_eq_getElem (by omega)
      have hxS := wok.lt w[j] (List.getElem_mem _)
      have hdn := wok.down j _ _ g1 g2
      obtain ⟨bl, hbl, hbl2⟩ := SS.get (l := false) pr hxS
      have hbl2 : H bl = some (.tup (nv (parts S w[j]))) := hbl2
      refine ⟨rfl, ?_⟩
      refine ⟨_, rfl, _, rfl, _, _, rfl, rfl, ?_⟩
      refine rIx_t (s37 _ _ hb) (j := j + 1) (by omega) (nv_get g2) ?_
      refine ⟨_, rfl, _, rfl, _, rfl, rIx_t (s37 _ _ hb) (j := j) rfl (nv_get g1) ?_⟩
      refine rIx_t (s37 _ _ hc) rfl hbl ?_
      refine ⟨bl, _, rfl, .inr (SqT.of (s37 _ _ hbl2)), rfl, flat_nv _, _, rfl, ?_⟩
      have ein : (if (true : Bool) = true then !inV (.int (w[j + 1] : Nat)) (nv (parts S w[j])) else inV (.int (w[j + 1] : Nat)) (nv (parts S w[j]))) = false := by
        rw [if_pos rfl, inV_nv, decide_eq_true hdn]
        rfl
      rw [ein]
      exact iteF (h2 rfl _ (Same.refl _))
    intro H4 zs2 s4 hz2 pz2
    have ez2 := paired_nv pz2
    rw [ez2, filt_false] at hz2
    refine ⟨Nat.zero_le _, fun e4 he4 => ?_⟩
    have s5 := s3.trans (s4.trans (same_new (o := .lst []) he4))
    refine rNe_nil (xs := []) (same_new he4 _ _ hz2) upd_same ⟨_, rfl, iteF ?_⟩
    generalize upd H4 e4 (.lst []) = H1 at s5
    refine ⟨_, rfl, rfl, _, rfl, ?_⟩
    rw [hdne]
    refine iteF ?_
    have ha1 := s5 _ _ ha
    have hb1 := s5 _ _ hb2
    refine ⟨_, rfl, a, _, _, _, rfl, rfl, SqT.of ha1, at_of (j := 1) rfl rfl, ?_⟩
    refine ⟨_, _, _, _, _, rfl, .ty _, .base (.tup hb1), kit_tt, _, rfl, ?_⟩
    refine iteF ⟨_, rfl, a, _, _, _, rfl, rfl, SqT.of ha1, at_of (j := 1) rfl rfl, ?_⟩
    refine ⟨b2, _, rfl, .inr (SqT.of hb1), rfl, _, rfl, ?_⟩
    refine iteF ?_
    -- found = list(way)
    refine ⟨_, rfl, b, _, rfl, .inr (SqT.of (s5 _ _ hb)), fun F hF => ?_⟩
    have s2 := s5.trans (same_new (o := .lst (nv w)) hF)
    have hF0 : H F = none := same_none s5 hF
    have hcs : Paired (RT H) [p, q] [x, y] := .cons hx (.cons hy .nil)
    have hprop : ∀ t ∈ [x, y], TOk S t ∧ t.hgt ≤ d ∧ t.root ∈ parts S (lastK w) := fun t ht => by
      have : t = x ∨ t = y := by simpa using ht
      rcases this with rfl | rfl
      · exact ⟨xok, hhx, hrx⟩
      · exact ⟨yok, hhy, hry⟩
    have h3 := three_pow (show d ≤ 10 by omega)
    refine ⟨_, rfl, a, _, _, _, rfl, rfl, SqT.of (s2 _ _ ha), at_of (j := 1) rfl rfl, ?_⟩
    refine ⟨b2, rfl, ⟨_, SqT.of (s2 _ _ hb2)⟩, ?_⟩
    refine for_it (walk_tup (xs := [p, q])) (fun i σ H' => ∃ (x4 x5 x7 x8 : Option V) (kss : List (List Nat)) (F : Addr), σ = [some (.ref c), some (.int ((d + 1 : Nat) : Nat)), some (.ref a), some (.ref b), x4, x5, some (.ref F), x7, x8] ∧ Same H H' ∧ H F = none ∧
        Paired (fun ks t => tk d t = some ks) kss ([x, y].take i) ∧ H' F = some (.lst (nv (w ++ kss.flatten))))
      ⟨_, _, none, none, [], F, rfl, s2, hF0, .nil, by rw [upd_same]; simp⟩ (fun i σ H' _ ⟨_, _, _, _, _, _, _, s3, _⟩ => SqT.of (s3 _ _ hb2)) ?_ ?_
    · rintro i yv σ _ H3 hi ⟨x4, x5, x7, x8, kss, F, rfl, s3, hF0, hk3, hF3⟩ ⟨rfl, hyv⟩
      obtain ⟨t, ht, hrt⟩ := pgetL hcs hyv
      obtain ⟨tok, hht, hroot⟩ := hprop t (List.mem_of_getElem? ht)
      have hkl : kss.length ≤ 2 := by
        have := Paired.length hk3
        simp at this
        omega
      have hflat : kss.flatten.length ≤ kss.length * (8 * 3 ^ d) := by
        have : ∀ (kss : List (List Nat)) (ts : List Tr), Paired (fun ks t => tk d t = some ks) kss ts → (∀ t ∈ ts, TOk S t) → kss.flatten.length ≤ kss.length * (8 * 3 ^ d) := by
          intro kss ts hp hts
          induction hp with
          | nil => simp
          | cons r _ ih =>
            have h1 := (tk_len d _ _ (hts _ List.mem_cons_self) r).1
            have h2 := ih fun t ht => hts t (List.mem_cons_of_mem _ ht)
            rw [List.flatten_cons, List.length_append, List.length_cons, Nat.succ_mul]
            omega
        exact this _ _ hk3 fun t ht => (hprop t (List.mem_of_mem_take ht)).1
      have hflat2 : kss.flatten.length ≤ 2 * (8 * 59049) := Nat.le_trans hflat (Nat.mul_le_mul hkl (by omega))
      refine ⟨_, rfl, _, rfl, _, _, rfl, rfl, _, rfl, ?_⟩
      have ed : (((d + 1 : Nat) : Nat) : Int) - 1 = ((d : Nat) : Int) := by omega
      simp only [ed]
      have htake : [x, y].take (i + 1) = [x, y].take i ++ [t] := by rw [List.take_add_one, ht]; rfl
      refine ⟨_, _, S, t, rfl, monoT_TS _ _ _ _ (keepT_same s3) hv, hS, monoT_RT t _ _ _ (keepT_same s3) hrt, tok, hht, by omega, fun hnone H4 s4 => ?_, fun ks hks p4 H4 np4 s4 hp4 => ?_⟩
      · -- None
        refine ⟨_, rfl, rfl, _, rfl, ?_⟩
        refine iteT ?_
        refine iteT (kN ?_ _ (s3.trans s4))
        have : t = x ∨ t = y := by
          have := List.mem_of_getElem? ht
          simpa using this
        unfold tk
        rcases this with rfl | rfl
        · rw [hnone]
        · rw [hnone]
          cases tk d x <;> rfl
      · obtain ⟨hl1, hh1, hne1⟩ := tk_len d t ks tok hks
        have hF4 := s4 _ _ hF3
        have s34 := s3.trans s4
        have nFp : F ≠ p4 := ne_of_none hF3 np4
        have g0 : ks[0]? = some t.root := by
          rw [← List.head?_eq_getElem?, hh1]
          unfold Tr.root
          have : t.way ≠ [] := by
            cases t with
            | lf w => exact tok.1.ne
            | nd w _ _ => exact tok.1.ne
          cases hw : t.way with
          | nil => exact absurd hw this
          | cons z r => rfl
        have hlast := lastK_lt wok
        obtain ⟨bl, hbl, hbl2⟩ := SS.get (l := false) pr hlast
        have hbl2 : H bl = some (.tup (nv (parts S (lastK w)))) := hbl2
        refine ⟨_, rfl, rfl, _, rfl, ?_⟩
        refine iteF ?_
        refine ⟨_, rfl, rIx_l hp4 (j := 0) rfl (nv_get g0) ?_⟩
        refine ⟨_, rfl, _, rfl, _, rfl, rIx_lastT (s34 _ _ hb) (lastK_get wok.ne) ?_⟩
        refine rIx_t (s34 _ _ hc) rfl hbl ?_
        refine ⟨bl, _, rfl, .inr (SqT.of (s34 _ _ hbl2)), rfl, flat_nv _, _, rfl, ?_⟩
        have ein : (if (true : Bool) = true then !inV (.int (t.root : Nat)) (nv (parts S (lastK w))) else inV (.int (t.root : Nat)) (nv (parts S (lastK w)))) = false := by
          rw [if_pos rfl, inV_nv, decide_eq_true hroot]
          rfl
        rw [ein]
        refine iteF ?_
        refine ⟨_, rfl, _, rfl, F, p4, _, _, rfl, rfl, hF4, hp4, ?_, fun F2 hF2 => ?_⟩
        · rw [nv_length, nv_length, List.length_append]
          show w.length + kss.flatten.length + ks.length ≤ 2 ^ 24
          omega
        · have s5 := s34.trans (same_new (o := .lst (nv (w ++ kss.flatten) ++ nv ks)) hF2)
          refine ⟨_, _, _, _, kss ++ [ks], F2, rfl, s5, same_none s34 hF2, ?_, ?_⟩
          · rw [htake]
            exact paired_append hk3 (.cons hks .nil)
          · rw [upd_same, nv_append]
            simp
    · rintro σ H3 ⟨x4, x5, x7, x8, kss, F, rfl, s3, hF0, hk3, hF3⟩
      refine ⟨_, rfl, ?_⟩
      have : ∃ k1 k2, kss = [k1, k2] ∧ tk d x = some k1 ∧ tk d y = some k2 := by
        have hk3 : Paired (fun ks t => tk d t = some ks) kss [x, y] := hk3
        cases hk3 with
        | cons r1 t1 =>
          cases t1 with
          | cons r2 t2 =>
            cases t2
            exact ⟨_, _, rfl, r1, r2⟩
      obtain ⟨k1, k2, rfl, h1, h2⟩ := this
      refine kS (w ++ k1 ++ k2) ?_ F H3 hF0 s3 (by rw [hF3]; simp)
      unfold tk
      rw [h1, h2]
theorem got_law_tree_knots (T : Txt K mg) : ∀ d, d ≤ 10 → Got P w K mg base (d + 2) "_law_tree_knots" ["_law_shape_here", "_law_depth", "_law_told"] (sp_ltk d)
  | 0, _ => got_law_tree_knots0 T
  | d + 1, h => got_law_tree_knots1 T (by omega) (by omega) (got_law_tree_knots T d (by omega))
/-- slots: 0=_law_shape_here 1=_law_depth 2=_law_told 3=_law_knots; cells:  -/
theorem sc_law_is_tree : FnScope ["_law_shape_here", "_law_depth", "_law_told", "_law_knots"] ["_law_shape_here", "_law_depth", "_law_told"] (defScope st_law_is_tree) := ⟨rfl, rfl, rfl, by decide +kernel, rfl, by decide +kernel, by decide +kernel⟩
def sp_law_is_tree : Sp := fun vs H Q _ => ∃ (v u : V) (S : List (List Nat)) (t : Tr) (d : Nat), vs = [v, .int (d : Nat), u] ∧ TS' H v S ∧ S.length ≤ 1000 ∧ RT H u t ∧ TOk S t ∧ t.hgt ≤ d ∧ d ≤ 4 ∧ ∀ H', Same H H' → Q (.bl (treeB d t)) H'
theorem got_law_is_tree (T : Txt K mg) : Got P w K mg base 7 "_law_is_tree" ["_law_shape_here", "_law_depth", "_law_told"] sp_law_is_tree := by
  refine got_of T.d_law_is_tree sc_law_is_tree (fun F => (FunD.bindsN F fun _ _ _ _ _ _ us hl => match us, hl with | [_, _, _], _ => rfl)) (fun vs H Q E h => ?_) (fun f cdv A outer s H vs Q E hr h => ?_)
  · obtain ⟨v, u, S, t, d, rfl, _⟩ := h; rfl
  obtain ⟨v, u, S, t, d, rfl, hv, hS, ht, tok, hh, hd, kk⟩ := h
  obtain ⟨_, _, m_law_tree_knots, G_law_tree_knots, k_law_tree_knots, b_law_tree_knots⟩ := ((got_law_tree_knots (P := P) (w := w) (base := base) T d (by omega)).mono (show d + 2 ≤ 6 by omega)).ex
  refine ⟨_, (pss_cons (ps_set (i := 3) sc_law_is_tree.nd rfl (Or.inl rfl) (pe_call G_law_tree_knots (hr.mono (by first | decide | omega)) rfl m_law_tree_knots k_law_tree_knots b_law_tree_knots .nil pass0 (pa_cons (pv 0) (pa_cons (pv 1) (pa_cons (pv 2) pa_nil)))))
      (pss_one (ps_ret (pe_and (pe_cmpR op_notN (pv 3) pe_non (nomark _)) (pe_one (pe_cmpR op_eq (pe_lenSetD (by rfl) T.z_len (by rfl) T.z_set (pv 3)) (pe_callB (r := rLenS K) call_len_seq (by rfl) T.z_len (by decide +kernel) (pa_cons (pv 3) pa_nil)) (nomark _))))))), ?_⟩
  unfold treeB at kk
  refine ⟨_, rfl, _, rfl, _, rfl, _, _, S, t, rfl, hv, hS, ht, tok, hh, by omega, fun hnone H4 s4 => ?_, fun ks hks p4 H4 np4 s4 hp4 => ?_⟩
  · rw [hnone] at kk
    refine ⟨_, rfl, rfl, _, rfl, ?_⟩
    exact iteF (kk _ s4)
  · rw [hks] at kk
    have hl1 := (tk_len d t ks tok hks).1
    have h3 : 3 ^ d ≤ 81 := Nat.pow_le_pow_right (by omega) (show d ≤ 4 by omega)
    refine ⟨_, rfl, rfl, _, rfl, ?_⟩
    refine iteT ?_
    refine ⟨_, rfl, p4, _, rfl, SqL.of (by rw [hp4, nv_int]), by rw [List.length_map]; omega, ?_⟩
    refine ⟨_, rfl, p4, _, rfl, .inl (SqL.of hp4), rfl, ?_⟩
    have e : decide (V.int ((dct (ks.map fun k => ((k : Nat) : Int)) : Nat) : Int) = V.int (((nv ks).length : Nat) : Int)) = decide (dct (ks.map fun k => ((k : Nat) : Int)) = ks.length) := by
      rw [dec_int, Bool.eq_iff_iff, beq_iff_eq, decide_eq_true_iff, nv_length]
      omega
    show Q (.bl (decide (V.int ((dct (ks.map fun k => ((k : Nat) : Int)) : Nat) : Int) = V.int (((nv ks).length : Nat) : Int)))) H4
    rw [e]
    exact kk _ s4
end
end K27
set_option Elab.async false
set_option linter.all false
set_option maxRecDepth 100000
set_option maxHeartbeats 8000000
namespace K27
open PySem PySem.Spec PyProof.Rows L2
theorem cutV_nv (xs : List Nat) (lo hi : Option Int) : ∃ ys : List Nat, cutV (nv xs) lo hi = nv ys ∧ ys.Sublist xs := by
  refine ⟨(xs.drop (HT.sIx xs.length 0 lo)).take (HT.sIx xs.length xs.length hi - HT.sIx xs.length 0 lo), ?_, (List.take_sublist _ _).trans (List.drop_sublist _ _)⟩
  unfold cutV
  rw [nv_length, nv_drop, nv_take]
theorem pair_snoc {zs : List Nat} {i : Nat} (h : zs.Pairwise (· < ·)) (hl : ∀ z ∈ zs, z < i) : (zs ++ [i]).Pairwise (· < ·) :=
  List.pairwise_append.mpr ⟨h, List.pairwise_singleton _ _, fun a ha b hb => by rw [List.mem_singleton.mp hb]; exact hl a ha⟩
/-- the continuation, named -/
theorem ifs_cut {c : TT} {A B : TS} {D : Ends} {σ : L2.St} {H : Hp} (I : L2.St → Hp → Prop) (rest : ∀ σ' H', I σ' H' → D.nx σ' H') (k : (∀ σ' H', I σ' H' → D.nx σ' H') → tIfS c A B D σ H) : tIfS c A B D σ H := k rest
theorem ifs_cut' {c : TT} {A B R : TS} {D : Ends} {σ : L2.St} {H : Hp} (I : L2.St → Hp → Prop) (rest : ∀ σ' H', I σ' H' → R D σ' H') (k : (∀ σ' H', I σ' H' → R D σ' H') → tIfS c A B { D with nx := R D } σ H) : tSeq (tIfS c A B) R D σ H := k rest
theorem gName_in {i : Nat} {v : V} {σ : L2.St} {H : Hp} {Q : L2.St → Hp → Prop} (h : Q (σ.set i (some v)) H) : gName i v σ H Q := h
theorem keyd_len (ks : List Nat) : (keyd ks).length = ks.length := List.length_map _
section
variable {P : Program} {w : World} {K : PySem.W.Frag} {mg : Str → Option Value} {base : Heap}
/-- slots: 0=_law_urn 1=_law_most_so 2=_law_many 3=_law_found 4=_law_used 5=_law_knot 6=_law_own 7=_law_part; cells: _law_own _law_urn _law_used -/
theorem sc_law_shape : FnScope ["_law_urn", "_law_most_so", "_law_many", "_law_found", "_law_used", "_law_knot", "_law_own", "_law_part"] ["_law_urn", "_law_most_so"] (defScope st_law_shape) := ⟨rfl, rfl, rfl, by decide +kernel, rfl, by decide +kernel, by decide +kernel⟩
/-- what is known of the knots drawn so far -/
structure Drawn (L : List (List Nat)) (ks : List Nat) : Prop where
  asc : ∀ (i : Nat) (y : List Nat), L[i]? = some y → y.Pairwise (· < ·)
  low : ∀ (i : Nat) (y : List Nat), L[i]? = some y → ∀ x ∈ y, x < i
  used : ∀ x ∈ ks, ∃ (i : Nat) (y : List Nat), L[i]? = some y ∧ x ∈ y
def sp_law_shape : Sp := fun vs H Q _ => ∃ (u : Addr) (n : Nat), vs = [.ref u, .int 7] ∧ UrnAt H u n ∧ n ≤ 1000 ∧ ∀ v H' S, SameX u H H' → UrnAt H' u (n + 100) → TS' H' v S → ShOk S → S.length ≤ 7 → Q v H'
theorem got_law_shape (T : Txt K mg) : Got P w K mg base 2 "_law_shape" ["_law_urn", "_law_most_so"] sp_law_shape := by
  refine got_of T.d_law_shape sc_law_shape (fun F => (FunD.bindsN F fun _ _ _ _ _ _ us hl => match us, hl with | [_, _], _ => rfl)) (fun vs H Q E h => ?_) (fun f cdv A outer s H vs Q E hr h => ?_)
  · obtain ⟨u, n, rfl, _⟩ := h; rfl
  obtain ⟨u, n, rfl, hur, hn, kk⟩ := h
  have hu := hu_of hr
  obtain ⟨_, _, m_law_take, G_law_take, k_law_take, b_law_take⟩ := (got_law_take (P := P) (w := w) (base := base) T).ex
  refine ⟨_, (pss_cons (ps_set (i := 2) sc_law_shape.nd rfl (Or.inl rfl) (pe_op op_add pe_int (pe_call G_law_take (hr.mono (by first | decide | omega)) rfl m_law_take k_law_take b_law_take .nil pass0 (pa_cons (pv 0) (pa_cons (pv 1) pa_nil)))))
      (pss_cons (ps_asg (pe_tup (pa_cons (pe_lst pa_nil) (pa_cons pe_dnewK pa_nil))) (pg_tup rfl (pgs_cons (pg_name (i := 3) sc_law_shape.nd rfl (Or.inl rfl)) (pgs_cons (pg_name (i := 4) sc_law_shape.nd rfl (Or.inr rfl)) pgs_nil))))
      (pss_cons (ps_for PassesOwn.never rfl (pi_range1 (by rfl) T.z_range (pa_cons (pv 2) pa_nil)) (pg_name (i := 5) sc_law_shape.nd rfl (Or.inl rfl)) (pss_cons (ps_set (i := 6) sc_law_shape.nd rfl (Or.inr rfl) (pe_slice (r := rSlL K) sl_list (pe_lc (own := [("_law_part", 7)]) (g := (gName 7)) rfl sc_law_shape.nd (pi_range1 (by rfl) T.z_range (pa_cons (pv 5) pa_nil)) (blkOk_by (N := ["_law_urn", "_law_most_so", "_law_many", "_law_found", "_law_used", "_law_knot", "_law_own", "_law_part"]) (sc := (defScope st_law_shape)) (by decide +kernel)) (fun _ _ _ _ _ => (pg_name (i := 7) sc_law_shape.nd rfl (Or.inl rfl))) (fun _ _ _ _ _ => (pts_one (pt_cmpR op_eq (pe_call G_law_take (hr.mono (by first | decide | omega)) rfl m_law_take k_law_take b_law_take .nil pass0 (pa_cons (pv 0) (pa_cons pe_int pa_nil))) pe_int (nomark _)))) (fun _ _ _ _ _ => (pv 7))) po_none (po_some pe_int)))
      (pss_cons (ps_if (pt_cmpR op_eq (pv 5) (pe_op op_sub (pv 2) pe_int) (nomark _)) (pss_one (ps_set (i := 6) sc_law_shape.nd rfl (Or.inr rfl) (pe_lc (own := [("_law_part", 7)]) (g := (gName 7)) rfl sc_law_shape.nd (pi_range1 (by rfl) T.z_range (pa_cons (pv 5) pa_nil)) (blkOk_by (N := ["_law_urn", "_law_most_so", "_law_many", "_law_found", "_law_used", "_law_knot", "_law_own", "_law_part"]) (sc := (defScope st_law_shape)) (by decide +kernel)) (fun _ _ _ _ _ => (pg_name (i := 7) sc_law_shape.nd rfl (Or.inl rfl))) (fun _ _ _ _ _ => (pts_one (PW.pt (pw_or (pt_cmpR (r := rIn K false) op_in_seq (pv 7) (pv 6) rfl) (pw_or1 (pt_cmp (pc_dnotin hu (pv 7) (pv 4)))))))) (fun _ _ _ _ _ => (pv 7))))) pss_nil)
      (pss_cons (ps_for PassesOwn.never rfl (pi_list (pv 6)) (pg_name (i := 7) sc_law_shape.nd rfl (Or.inl rfl)) (pss_one (ps_dput hu (pv 4) (pv 7) pe_bl rfl)))
      (pss_one (ps_expr (pe_bm PySem.F.plainAttrs_list PySem.F.slot_list_append PySem.F.type_list_append mt_append (pv 3) (pa_cons (pe_callTy (r := rTupOf K) call_tuple_of (by rfl) T.z_tuple (by decide +kernel) (pa_cons (pv 6) pa_nil)) pa_nil))))))))
      (pss_one (ps_ret (pe_callTy (r := rTupOf K) call_tuple_of (by rfl) T.z_tuple (by decide +kernel) (pa_cons (pv 3) pa_nil))))))), ?_⟩
  obtain ⟨xsu, hxu⟩ := hur.lst
  have fresh : ∀ {p : Addr} {H' : Hp}, SameX u H H' → UrnAt H' u (n + 100) → H' p = none → H p = none ∧ p ≠ u := fun {p H'} s hu' hp => by
    obtain ⟨xs, hx⟩ := hu'.lst
    have hne : p ≠ u := by rintro rfl; rw [hp] at hx; cases hx
    exact ⟨sameX_none s hne hp, hne⟩
  refine ⟨_, rfl, _, rfl, u, n, 7, rfl, hur, by omega, by omega, by omega, fun r H1 hr7 s1 hu1 => ?_⟩
  have em : (1 : Int) + (r : Int) = ((r + 1 : Nat) : Int) := by omega
  refine ⟨_, _, rfl, rfl, ?_⟩
  simp only [em]
  generalize hm : r + 1 = many
  refine ⟨Nat.zero_le _, fun fA hfA d hd => ⟨(by show 2 ≤ sizeLine; decide), fun tt htt => ⟨tt, _, rfl, SqT.of upd_same, rfl, _, _, rfl, _, _, rfl, rfl, ?_⟩⟩⟩
  have s2 := ((same_new (o := .lst []) hfA).trans (same_new (o := .dK []) hd)).trans (same_new (o := .tup [.ref fA, .ref d]) htt)
  generalize hH2 : upd (upd (upd H1 fA (.lst [])) d (.dK [])) tt (.tup [.ref fA, .ref d]) = H2 at s2
  have hf2 : H2 fA = some (.lst []) := by rw [← hH2]; exact same_new htt _ _ (same_new hd _ _ upd_same)
  have hd2 : H2 d = some (.dK (keyd [])) := by rw [← hH2]; exact same_new htt _ _ upd_same
  have hd1 : H1 d = none := same_none (same_new (o := .lst []) hfA) hd
  obtain ⟨hf0, nfu⟩ := fresh s1 (hu1.le (by omega)) hfA
  obtain ⟨hd0, ndu⟩ := fresh s1 (hu1.le (by omega)) hd1
  have ndf : d ≠ fA := (ne_of_none upd_same hd).symm
  have hu2 := hu1.same s2
  have sx2 : SameX u H H2 := s1.trans (sameX_of s2)
  refine ⟨_, rfl, _, rfl, by omega, by omega, ?_⟩
  refine for_it walk_range (fun i σ H' => ∃ (L : List (List Nat)) (ys : List V) (ks : List Nat) (x5 x6 x7 : Option V), σ = [some (.ref u), some (.int 7), some (.int (many : Nat)), some (.ref fA), some (.ref d), x5, x6, x7] ∧ SameX u H H' ∧ UrnAt H' u (n + 1 + 8 * i) ∧
      H' fA = some (.lst ys) ∧ Paired (TN H') ys L ∧ L.length = i ∧ H' d = some (.dK (keyd ks)) ∧ ks.Nodup ∧ (∀ x ∈ ks, x < many) ∧ Drawn L ks ∧ (i = many → ∀ k, k + 1 < many → ∃ (j : Nat) (y : List Nat), L[j]? = some y ∧ k ∈ y))
    ⟨[], [], [], none, none, none, rfl, sx2, hu2.le (by omega), hf2, .nil, rfl, hd2, List.nodup_nil, by simp, ⟨by simp, by simp, by simp⟩, fun h => by omega⟩ (fun i σ H' _ _ => trivial) ?_ ?_
  · rintro i y σ _ H3 hi ⟨L, ys, ks, x5, x6, x7, rfl, s3, hu3, hf3, py, hL, hd3, hnd, hkm, dr, hlast⟩ ⟨rfl, rfl⟩
    have hi : i < many := by simpa using hi
    have hi7 : i ≤ 6 := by omega
    have ei : (0 + (i : Int)) = (i : Int) := Int.zero_add _
    simp only [ei]
    refine ⟨_, rfl, _, rfl, by omega, by omega, fun D hD => ?_⟩
    obtain ⟨hD0, nDu⟩ := fresh s3 (hu3.le (by omega)) hD
    have nfD : fA ≠ D := ne_of_none hf3 hD
    have ndD : d ≠ D := ne_of_none hd3 hD
    refine lc_it walk_range (fun j H' => SameX u H3 H' ∧ UrnAt H' u (n + 1 + 8 * i + j) ∧ ∃ zs : List Nat, H' D = some (.lst (nv zs)) ∧ zs.Pairwise (· < ·) ∧ ∀ z ∈ zs, z < j)
      ⟨sameX_of (same_new hD), hu3.same (same_new hD), [], upd_same, .nil, by simp⟩ (fun i H' _ _ => trivial) ?_ ?_
    · rintro j y _ H4 hj ⟨s4, hu4, zs, hz, hzp, hzl⟩ ⟨rfl, rfl⟩
      have hj : j < i := by simpa using hj
      have ej : (0 + (j : Int)) = (j : Int) := Int.zero_add _
      simp only [ej]
      have nz : zs.length ≤ j := nodup_le (asc_nodup hzp) hzl
      refine ⟨rfl, ?_⟩
      refine ⟨_, rfl, u, _, 3, rfl, hu4, by omega, by omega, by omega, fun r H5 hr3 s5 hu5 => ?_⟩
      refine ⟨rfl, _, rfl, ?_⟩
      have hz5 := s5 _ _ nDu hz
      refine ite2 (fun hc => ?_) (fun hc => ?_)
      · refine ⟨_, rfl, nv zs, hz5, (by rw [nv_length]; show zs.length < 2 ^ 24; omega), ?_⟩
        have sD : SameX u H3 (upd H5 D (.lst (nv zs ++ [.int (j : Nat)]))) := sameX_over (s4.trans s5) hD
        refine ⟨sD, ?_, zs ++ [j], by rw [upd_same, ← nv_append]; rfl, pair_snoc hzp hzl, fun z hz' => ?_⟩
        · obtain ⟨x, y, z, h1, h2⟩ := hu5
          exact ⟨x, y, z, by rw [upd_ne nDu.symm]; exact h1, h2⟩
        · rcases List.mem_append.mp hz' with h | h
          · have := hzl z h; omega
          · rw [List.mem_singleton.mp h]; omega
      · exact ⟨s4.trans s5, hu5, zs, hz5, hzp, fun z h => by have := hzl z h; omega⟩
    rintro H4 ⟨s4, hu4, zs, hz, hzp, hzl⟩
    have hzl : ∀ z ∈ zs, z < i := by simpa using hzl
    have hu4 : UrnAt H4 u (n + 1 + 8 * i + i) := by simpa using hu4
    refine ⟨_, rfl, D, _, rfl, SqL.of hz, fun p hp => ?_⟩
    obtain ⟨own, ecut, hsub⟩ := cutV_nv zs none (some 3)
    rw [ecut]
    have s5 := same_new (o := .lst (nv own)) hp
    obtain ⟨hp0, npu⟩ := fresh (s3.trans s4) (hu4.le (by omega)) hp
    have hp3 : H3 p = none := sameX_none s4 npu hp
    refine gName_in ?_
    dsimp only
    refine ifs_cut' (fun σ' H' => ∃ (x7 : Option V) (p : Addr) (own : List Nat), σ' = [some (.ref u), some (.int 7), some (.int (many : Nat)), some (.ref fA), some (.ref d), some (.int (i : Nat)), some (.ref p), x7] ∧ SameX u H3 H' ∧ UrnAt H' u (n + 1 + 8 * i + i) ∧
      H' p = some (.lst (nv own)) ∧ H3 p = none ∧ p ≠ u ∧ own.Pairwise (· < ·) ∧ (∀ x ∈ own, x < i) ∧ (i + 1 = many → ∀ k, k < i → k ∉ ks → k ∈ own)) ?_ ?_
    · rintro σ H5 ⟨x7, p, own, rfl, s5, hu5, hp5, hp3, npu, hop, hol, hlst⟩
      have nfp : fA ≠ p := ne_of_none hf3 hp3
      have ndp : d ≠ p := ne_of_none hd3 hp3
      have hf5 := s5 _ _ nfu hf3
      have hd5 := s5 _ _ ndu hd3
      have py5 := pmap py fun _ _ r => monoT_TN _ _ _ _ (hu3.keepT s5) r
      have holen : own.length ≤ i := nodup_le (asc_nodup hop) hol
      refine ⟨_, rfl, p, rfl, ⟨_, SqL.of hp5⟩, ?_⟩
      refine for_it (walk_list (xs := nv own)) (fun t σ H' => ∃ (x7 : Option V) (ks' : List Nat), σ = [some (.ref u), some (.int 7), some (.int (many : Nat)), some (.ref fA), some (.ref d), some (.int (i : Nat)), some (.ref p), x7] ∧ SameX u H H' ∧ UrnAt H' u (n + 1 + 8 * i + i) ∧ KeepT H5 H' ∧
          H' p = some (.lst (nv own)) ∧ H' fA = some (.lst ys) ∧ H' d = some (.dK (keyd ks')) ∧ ks'.Nodup ∧ ∀ x, x ∈ ks' ↔ x ∈ ks ∨ x ∈ own.take t)
        ⟨_, ks, rfl, s3.trans s5, hu5, keepT_refl _, hp5, hf5, hd5, hnd, by simp⟩ (fun i σ H' _ ⟨_, _, _, _, _, _, h, _⟩ => SqL.of h) ?_ ?_
      · rintro t y σ _ H6 ht ⟨x7, ks', rfl, s6, hu6, k6, hp6, hf6, hd6, hnd6, hks6⟩ ⟨rfl, hy6⟩
        obtain ⟨x, hx, rfl⟩ := nv_at hy6
        have hxi : x < i := hol x (List.mem_of_getElem? hx)
        have hkl : ks'.length ≤ many := nodup_le hnd6 fun z hz => by
          rcases (hks6 z).mp hz with hz' | hz'
          · exact hkm z hz'
          · have := hol z (List.mem_of_mem_take hz'); omega
        refine ⟨_, rfl, _, rfl, d, _, rfl, DPut.k (k := Sum.inl (x : Int)) hd6 (by rw [keyd_len]; show ks'.length < 2 ^ 24; omega), ?_⟩
        refine ⟨_, if x ∈ ks' then ks' else ks' ++ [x], rfl, sameX_over s6 hd0, ?_, k6.trans (keepT_dK hd6), ?_, ?_, by rw [upd_same, keyd_put], ?_, fun z => ?_⟩
        · obtain ⟨x, y, z, h1, h2⟩ := hu6
          exact ⟨x, y, z, by rw [upd_ne ndu.symm]; exact h1, h2⟩
        · rw [upd_ne ndp.symm]; exact hp6
        · rw [upd_ne ndf.symm]; exact hf6
        · by_cases h : x ∈ ks'
          · rw [if_pos h]; exact hnd6
          · rw [if_neg h]; exact nd_snoc hnd6 h
        · rw [List.take_add_one, hx]
          have e : z ∈ (if x ∈ ks' then ks' else ks' ++ [x]) ↔ z ∈ ks' ∨ z = x := by
            by_cases h : x ∈ ks'
            · rw [if_pos h]
              constructor
              · exact Or.inl
              · rintro (h' | rfl); exact h'; exact h
            · rw [if_neg h]; simp
          rw [e, hks6]
          simp [or_assoc]
      · rintro σ H6 ⟨x7, ks', rfl, s6, hu6, k6, hp6, hf6, hd6, hnd6, hks6⟩
        rw [nv_length, List.take_length] at hks6
        refine ⟨_, rfl, .inl ⟨rfl, _, SqL.of hf6⟩, _, rfl, p, _, rfl, .inl ⟨SqL.of hp6, fun q hq => ?_⟩⟩
        have s7 := same_new (o := .tup (nv own)) hq
        have hf7 := s7 _ _ hf6
        have hyl := Paired.length py
        refine ⟨fA, _, _, rfl, rfl, hf7, (by show ys.length < 2 ^ 24; omega), ?_⟩
        have k8 := keepT_lst (o := .lst (ys ++ [.ref q])) hf7
        have hqf : q ≠ fA := (ne_of_none hf6 hq).symm
        refine ⟨L ++ [own], ys ++ [.ref q], ks', _, _, _, rfl, sameX_over (s6.trans (sameX_of s7)) hf0, ?_, upd_same, ?_, by simp [hL], ?_, hnd6, ?_, ⟨?_, ?_, ?_⟩, ?_⟩
        · obtain ⟨x, y, z, h1, h2⟩ := (hu6.same s7).le (show n + 1 + 8 * i + i ≤ n + 1 + 8 * (i + 1) by omega)
          exact ⟨x, y, z, by rw [upd_ne nfu.symm]; exact h1, h2⟩
        · exact paired_append (pmap py5 fun _ _ r => monoT_TN _ _ _ _ ((k6.trans (keepT_same s7)).trans k8) r) (.cons (TN.mk (k8 _ _ upd_same)) .nil)
        · rw [upd_ne ndf]; exact s7 _ _ hd6
        · intro x hx
          rcases (hks6 x).mp hx with h | h
          · exact hkm x h
          · have := hol x h; omega
        · intro j y hj
          rcases Nat.lt_or_ge j L.length with h | h
          · rw [List.getElem?_append_left h] at hj; exact dr.asc j y hj
          · have e : j = L.length := by
              have := (List.getElem?_eq_some_iff.mp hj).1
              simp at this; omega
            subst e
            simp at hj; subst hj; exact hop
        · intro j y hj
          rcases Nat.lt_or_ge j L.length with h | h
          · rw [List.getElem?_append_left h] at hj; exact dr.low j y hj
          · have e : j = L.length := by
              have := (List.getElem?_eq_some_iff.mp hj).1
              simp at this; omega
            subst e
            simp at hj; subst hj; rw [hL]; exact hol
        · intro x hx
          rcases (hks6 x).mp hx with h | h
          · obtain ⟨j, y, h1, h2⟩ := dr.used x h
            exact ⟨j, y, by rw [List.getElem?_append_left (List.getElem?_eq_some_iff.mp h1).1]; exact h1, h2⟩
          · exact ⟨L.length, own, by simp, h⟩
        · intro hm' k hk
          by_cases hkk : k ∈ ks
          · obtain ⟨j, y, h1, h2⟩ := dr.used k hkk
            exact ⟨j, y, by rw [List.getElem?_append_left (List.getElem?_eq_some_iff.mp h1).1]; exact h1, h2⟩
          · exact ⟨L.length, own, by simp, hlst hm' k (by omega) hkk⟩
    · intro rest
      have hown1 : own.Pairwise (· < ·) := hzp.sublist hsub
      have hown2 : ∀ x ∈ own, x < i := fun x hx => hzl x (hsub.subset hx)
      refine ⟨_, rfl, _, rfl, _, _, rfl, rfl, rfl, _, rfl, ?_⟩
      have e : decide (V.int ((i : Nat) : Int) = V.int (((many : Nat) : Int) - 1)) = decide (i + 1 = many) := by
        rw [dec_int, Bool.eq_iff_iff, beq_iff_eq, decide_eq_true_iff]
        omega
      rw [e]
      have hd4 := s5 _ _ (s4 _ _ ndu hd3)
      generalize hH5 : upd H4 p (.lst (nv own)) = H5 at s5 hd4
      have hp5 : H5 p = some (.lst (nv own)) := by rw [← hH5, upd_same]
      have s35 := s4.trans (sameX_of s5)
      refine ite2 (fun hc => ?_) (fun hc => ?_)
      · refine ⟨_, rfl, _, rfl, by omega, by omega, fun D2 hD2 => ?_⟩
        refine lc_rel walk_range RN monoT_RN (fun k => decide (k ∈ own) || !decide (k ∈ ks)) (fun k => k) hD2 (by simp; omega) (fun H' s => trivial) ?_ ?_
        · rintro k y _ H6 hk s6 ⟨rfl, rfl⟩ K1 K2 h1 h2
          have ek : (0 + (k : Int)) = (k : Int) := Int.zero_add _
          simp only [ek]
          refine ⟨rfl, ?_⟩
          refine tOr_of (decide (k ∈ own)) (!decide (k ∈ ks)) (fun Q' q => ?_) (fun hne H7 s7 Q' q => ?_) (fun H7 s7 => ?_)
          · refine ⟨_, rfl, _, rfl, p, _, rfl, .inl (SqL.of (s6 _ _ hp5)), rfl, flat_nv _, _, rfl, ?_⟩
            have ein : (if (false : Bool) = true then !inV (.int (k : Int)) (nv own) else inV (.int (k : Int)) (nv own)) = decide (k ∈ own) := by
              rw [if_neg Bool.false_ne_true, inV_nv]
            rw [ein]
            exact q _ (Same.refl _)
          · refine ⟨_, rfl, _, rfl, d, _, rfl, DGet.k (k := Sum.inl ((k : Nat) : Int)) (s7 _ _ (s6 _ _ hd4)), _, rfl, ?_⟩
            rw [keyd_val]
            by_cases hkk : k ∈ ks
            · rw [if_pos hkk]
              rw [decide_eq_true hkk] at q
              exact q _ (Same.refl _)
            · rw [if_neg hkk]
              rw [decide_eq_false hkk] at q
              exact q _ (Same.refl _)
          · refine ite2 (fun c' => ?_) (fun c' => ?_)
            · exact ⟨_, rfl, h1 c' _ _ s7 rfl⟩
            · exact h2 (by simpa using c') _ s7
        intro H6 ws s6 hw pw
        have ew := paired_nv pw
        rw [Int.toNat_natCast, List.map_id'] at ew
        rw [ew] at hw
        have hD20 : H4 D2 = none := same_none s5 hD2
        obtain ⟨_, nD2u⟩ := fresh (s3.trans s4) (hu4.le (by omega)) hD20
        refine rest _ _ ⟨_, D2, _, rfl, s35.trans (sameX_of s6), (hu4.same s5).same s6, hw, sameX_none s4 nD2u hD20, nD2u, ?_, ?_, ?_⟩
        · exact List.pairwise_lt_range.sublist List.filter_sublist
        · intro x hx
          simpa using (List.mem_filter.mp hx).1
        · intro _ k hk hkk
          refine List.mem_filter.mpr ⟨List.mem_range.mpr hk, ?_⟩
          rw [decide_eq_false hkk]
          simp
      · refine rest _ _ ⟨_, p, own, rfl, s35, hu4.same s5, hp5, hp3, npu, hown1, hown2, fun h => ?_⟩
        rw [decide_eq_true h] at hc
        exact absurd rfl hc
  · rintro σ H3 ⟨L, ys, ks, x5, x6, x7, rfl, s3, hu3, hf3, py, hL, hd3, hnd, hkm, dr, hlast⟩
    have hL : L.length = many := by simpa using hL
    refine ⟨_, rfl, fA, _, rfl, .inl ⟨SqL.of hf3, fun q hq => ?_⟩⟩
    have s4 := same_new (o := .tup ys) hq
    refine kk _ _ L (s3.trans (sameX_of s4)) ((hu3.same s4).le (by simp; omega)) ⟨q, ys, rfl, upd_same, pmap py fun _ _ r => monoT_TN _ _ _ _ (keepT_same s4) r⟩ ⟨by omega, by omega, fun k hk => ?_, fun k x hk hx => ?_, fun k hk => ?_⟩ (by omega)
    · exact dr.asc k _ (get_parts hk)
    · exact dr.low k _ (get_parts hk) x hx
    · obtain ⟨j, y, h1, h2⟩ := hlast (by simp) k (by omega)
      exact ⟨j, (List.getElem?_eq_some_iff.mp h1).1, by rw [parts_get h1]; exact h2⟩
end
end K27
set_option Elab.async false
set_option linter.all false
set_option maxRecDepth 100000
set_option maxHeartbeats 8000000
namespace K27
open PySem PySem.Spec PyProof.Rows L2
theorem filt_nil_r (n : Nat) (q : Nat → Bool) : decide ((((List.range n).filter q).map fun _ => (1 : Nat)) ≠ []) = (List.range n).any q := by
  rw [Bool.eq_iff_iff, decide_eq_true_iff, List.any_eq_true]
  constructor
  · intro h
    rw [Ne, List.map_eq_nil_iff, List.filter_eq_nil_iff] at h
    refine Classical.byContradiction fun hn => h fun x hx hq => hn ⟨x, hx, hq⟩
  · rintro ⟨x, hx, hq⟩ h
    rw [List.map_eq_nil_iff, List.filter_eq_nil_iff] at h
    exact h x hx hq
theorem bits_nd (m n : Nat) : (bitsOf m n).Nodup := List.nodup_range.sublist List.filter_sublist
theorem mem_bits {m n x : Nat} : x ∈ bitsOf m n ↔ x < n ∧ m.testBit x = true := by
  unfold bitsOf
  rw [List.mem_filter, List.mem_range]
theorem kept_bits (S : List (List Nat)) (m : Nat) : kept S m = (bitsOf m S.length).filter fun k => decide (k + 1 = S.length) || (List.range S.length).any fun j => !decide (j ∈ bitsOf m S.length) && decide (k ∈ parts S j) := by
  unfold kept bitsOf
  rw [List.filter_filter]
  apply List.filter_congr
  intro k hk
  rw [Bool.and_comm]
  congr 2
  rw [Bool.eq_iff_iff, List.any_eq_true, List.any_eq_true]
  refine exists_congr fun j => and_congr_right fun hj => ?_
  have : decide (j ∈ (List.range S.length).filter fun k => m.testBit k) = m.testBit j := by
    rw [Bool.eq_iff_iff, decide_eq_true_iff, List.mem_filter]
    exact ⟨fun h => h.2, fun h => ⟨hj, h⟩⟩
  rw [this, Bool.and_comm]
section
variable {P : Program} {w : World} {K : PySem.W.Frag} {mg : Str → Option Value} {base : Heap}
/-- slots: 0=_law_shape_here 1=_law_made 2=_law_top 3=_law_one 4=_law_other; cells: _law_made _law_shape_here _law_top -/
theorem sc_law_kept : FnScope ["_law_shape_here", "_law_made", "_law_top", "_law_one", "_law_other"] ["_law_shape_here", "_law_made"] (defScope st_law_kept) := ⟨rfl, rfl, rfl, by decide +kernel, rfl, by decide +kernel, by decide +kernel⟩
def sp_law_kept : Sp := fun vs H Q _ => ∃ (v : V) (b : Addr) (S : List (List Nat)) (m : Nat), vs = [v, .ref b] ∧ TS' H v S ∧ 0 < S.length ∧ S.length ≤ 8 ∧ H b = some (.tup (nv (bitsOf m S.length))) ∧ ∀ H', Same H H' → Q (.int ((kept S m).length : Nat)) H'
theorem got_law_kept (T : Txt K mg) : Got P w K mg base 1 "_law_kept" ["_law_shape_here", "_law_made"] sp_law_kept := by
  refine got_of T.d_law_kept sc_law_kept (fun F => (FunD.bindsN F fun _ _ _ _ _ _ us hl => match us, hl with | [_, _], _ => rfl)) (fun vs H Q E h => ?_) (fun f cdv A outer s H vs Q E hr h => ?_)
  · obtain ⟨v, b, S, m, rfl, _⟩ := h; rfl
  obtain ⟨v, b, S, m, rfl, ⟨a, vs0, rfl, ha, pr⟩, pos, few, hb, kk⟩ := h
  have ha : H a = some (.tup vs0) := ha
  have hlv : vs0.length = S.length := Paired.length pr
  refine ⟨_, (pss_cons (ps_set (i := 2) sc_law_kept.nd rfl (Or.inr rfl) (pe_op op_sub (pe_callB (r := rLenS K) call_len_seq (by rfl) T.z_len (by decide +kernel) (pa_cons (pv 0) pa_nil)) pe_int))
      (pss_one (ps_ret (pe_callB (r := rLenS K) call_len_seq (by rfl) T.z_len (by decide +kernel) (pa_cons (pe_lc (own := [("_law_one", 3)]) (g := (gName 3)) (wi := iTup K _) rfl sc_law_kept.nd (pi_tup (pv 1)) (blkOk_by (N := ["_law_shape_here", "_law_made", "_law_top", "_law_one", "_law_other"]) (sc := (defScope st_law_kept)) (by decide +kernel)) (fun _ _ _ _ _ => (pg_name (i := 3) sc_law_kept.nd rfl (Or.inr rfl))) (fun _ _ _ _ _ => (pts_one (PW.pt (pw_or (pt_cmpR op_eq (pv 3) (pv 2) (nomark _)) (pw_or1 (pt_cmpR (r := rNeD K) (op_neD hr.units) (pe_lc (own := [("_law_other", 4)]) (g := (gName 4)) rfl sc_law_kept.nd (pi_range1 (by rfl) T.z_range (pa_cons (pe_callB (r := rLenS K) call_len_seq (by rfl) T.z_len (by decide +kernel) (pa_cons (pv 0) pa_nil)) pa_nil)) (blkOk_by (N := ["_law_shape_here", "_law_made", "_law_top", "_law_one", "_law_other"]) (sc := (relS _ (defScope st_law_kept))) (by decide +kernel)) (fun _ _ _ _ _ => (pg_name (i := 4) sc_law_kept.nd rfl (Or.inl rfl))) (fun _ _ _ _ _ => (pts_one (PW.pt (pw_and (pt_cmpR (r := rIn K true) op_notIn_seq (pv 4) (pv 1) rfl) (pw_and1 (pt_cmpR (r := rIn K false) op_in_seq (pv 3) (pe_ix (r := rIx K) ix_seq (pv 0) (pv 4) (fun _ _ => rfl)) rfl)))))) (fun _ _ _ _ _ => pe_int)) (pe_lst pa_nil) (nomark _))))))) (fun _ _ _ _ _ => (pv 3))) pa_nil))))), ?_⟩
  have hbl := bits_le m S.length
  rw [kept_bits] at kk
  generalize hms : bitsOf m S.length = ms at hb hbl kk
  refine ⟨_, rfl, a, _, rfl, .inr (SqT.of ha), _, _, rfl, rfl, ?_⟩
  refine ⟨_, rfl, b, rfl, ⟨_, SqT.of hb⟩, fun D hD => ?_⟩
  refine lc_rel (walk_tup (xs := nv ms)) RN monoT_RN (fun i => decide (ms.getD i 0 + 1 = S.length) || (List.range S.length).any fun j => !decide (j ∈ ms) && decide (ms.getD i 0 ∈ parts S j)) (fun i => ms.getD i 0) hD (by rw [nv_length]; omega) (fun H' s => SqT.of (s _ _ hb)) ?_ ?_
  · rintro i y _ H2 hi s2 ⟨rfl, hy⟩ K1 K2 h1 h2
    obtain ⟨one, hone, rfl⟩ := nv_at hy
    rw [getD_of hone] at h1 h2
    refine ⟨rfl, ?_⟩
    refine tOr_of (decide (one + 1 = S.length)) ((List.range S.length).any fun j => !decide (j ∈ ms) && decide (one ∈ parts S j)) (fun Q' q => ?_) (fun hne H7 s7 Q' q => ?_) (fun H7 s7 => ?_)
    · refine ⟨_, rfl, _, rfl, rfl, _, rfl, ?_⟩
      have e : decide (V.int ((one : Nat) : Int) = V.int (((vs0.length : Nat) : Int) - 1)) = decide (one + 1 = S.length) := by
        rw [dec_int, Bool.eq_iff_iff, beq_iff_eq, decide_eq_true_iff]
        omega
      rw [e]
      exact q _ (Same.refl _)
    · have s27 := s2.trans s7
      refine ⟨_, rfl, a, _, rfl, .inr (SqT.of (s27 _ _ ha)), _, rfl, by omega, by omega, fun D2 hD2 => ?_⟩
      refine lc_rel walk_range RN monoT_RN (fun j => !decide (j ∈ ms) && decide (one ∈ parts S j)) (fun _ => 1) hD2 (by simp; omega) (fun H' s => trivial) ?_ ?_
      · rintro j y _ H8 hj s8 ⟨rfl, rfl⟩ L1 L2 g1 g2
        have hj : j < S.length := by simpa [hlv] using hj
        have ej : (0 + (j : Int)) = (j : Int) := Int.zero_add _
        simp only [ej]
        have s28 := s27.trans s8
        refine ⟨rfl, ?_⟩
        refine tAnd_of (!decide (j ∈ ms)) (decide (one ∈ parts S j)) (fun Q' q => ?_) (fun hne H9 s9 Q' q => ?_) (fun H9 s9 => ?_)
        · refine ⟨_, rfl, _, rfl, b, _, rfl, .inr (SqT.of (s28 _ _ hb)), rfl, flat_nv _, _, rfl, ?_⟩
          have ein : (if (true : Bool) = true then !inV (.int (j : Int)) (nv ms) else inV (.int (j : Int)) (nv ms)) = !decide (j ∈ ms) := by
            rw [if_pos rfl, inV_nv]
          rw [ein]
          exact q _ (Same.refl _)
        · obtain ⟨bl, hbl, hbl2⟩ := SS.get (l := false) pr hj
          have hbl2 : H bl = some (.tup (nv (parts S j))) := hbl2
          have s29 := s28.trans s9
          refine ⟨_, rfl, _, rfl, _, rfl, rIx_t (s29 _ _ ha) rfl hbl ?_⟩
          refine ⟨bl, _, rfl, .inr (SqT.of (s29 _ _ hbl2)), rfl, flat_nv _, _, rfl, ?_⟩
          have ein : (if (false : Bool) = true then !inV (.int (one : Int)) (nv (parts S j)) else inV (.int (one : Int)) (nv (parts S j))) = decide (one ∈ parts S j) := by
            rw [if_neg Bool.false_ne_true, inV_nv]
          rw [ein]
          exact q _ (Same.refl _)
        · refine ite2 (fun c' => ?_) (fun c' => ?_)
          · exact g1 c' _ _ s9 rfl
          · exact g2 (by simpa using c') _ s9
      intro H8 ws s8 hw pw
      have ew := paired_nv pw
      rw [Int.toNat_natCast, hlv] at ew
      rw [ew] at hw
      refine ⟨Nat.zero_le _, fun e2 he2 => ?_⟩
      have s9 := same_new (o := .lst []) he2
      refine rNe_nil (s9 _ _ hw) upd_same ⟨_, rfl, ?_⟩
      rw [filt_nil_r]
      exact q _ (s8.trans s9)
    · refine ite2 (fun c' => ?_) (fun c' => ?_)
      · exact ⟨_, rfl, h1 c' _ _ s7 rfl⟩
      · exact h2 (by simpa using c') _ s7
  intro H2 zs s2 hz pz
  have ez := paired_nv pz
  rw [nv_length, range_map ms (fun k => decide (k + 1 = S.length) || (List.range S.length).any fun j => !decide (j ∈ ms) && decide (k ∈ parts S j)) (fun x => x) 0, List.map_id'] at ez
  rw [ez] at hz
  refine ⟨D, _, rfl, .inl (SqL.of hz), ?_⟩
  rw [nv_length]
  exact kk _ s2
end
end K27
set_option linter.all false
set_option maxHeartbeats 1000000
namespace K27
def CanWay (S : List (List Nat)) (v m : Nat) : Prop := ∃ way, WayTo S v m way
def IsL (S : List (List Nat)) (m v : Nat) : Prop := CanWay S v m ∧ ∀ v', v' < v → ¬ CanWay S v' m
def Down (S : List (List Nat)) (m : Nat) : Prop := ∀ j x, m.testBit j = true → x ∈ parts S j → m.testBit x = true
/-- nothing else of m has k as a part -/
def Last (S : List (List Nat)) (m k : Nat) : Prop := ∀ j, j ∈ bitsOf (m - 2 ^ k) S.length → k ∉ parts S j
theorem way_mono {S : List (List Nat)} {v v' m : Nat} {way : List (Nat × List Nat)} (hv : v ≤ v') (h : WayTo S v m way) : WayTo S v' m way := by
  induction h with
  | nil => exact .nil
  | snoc _ s ih => exact .snoc ih ⟨s.lt, s.new, s.has, Nat.le_trans s.fits hv⟩
theorem can_mono {S : List (List Nat)} {v v' m : Nat} (hv : v ≤ v') (h : CanWay S v m) : CanWay S v' m := by
  obtain ⟨way, h⟩ := h
  exact ⟨way, way_mono hv h⟩
theorem isL_zero (S : List (List Nat)) : IsL S 0 0 := ⟨⟨[], .nil⟩, fun v' h => by omega⟩
theorem isL_inj {S : List (List Nat)} {m v v' : Nat} (h : IsL S m v) (h' : IsL S m v') : v = v' := by
  rcases Nat.lt_trichotomy v v' with q | q | q
  · exact absurd h.1 (h'.2 v q)
  · exact q
  · exact absurd h'.1 (h.2 v' q)
theorem bits_zero_of {m n : Nat} (h : m < 2 ^ n) (e : bitsOf m n = []) : m = 0 := by
  apply Nat.eq_of_testBit_eq
  intro j
  rw [Nat.zero_testBit]
  refine Bool.eq_false_iff.mpr fun q => ?_
  have : j ∈ bitsOf m n := mem_bits.mpr ⟨bits_lt h q, q⟩
  rw [e] at this
  cases this
theorem bits_inj {m m' n : Nat} (h : m < 2 ^ n) (h' : m' < 2 ^ n) (e : bitsOf m n = bitsOf m' n) : m = m' := by
  apply Nat.eq_of_testBit_eq
  intro j
  rw [Bool.eq_iff_iff]
  constructor
  · intro q
    have : j ∈ bitsOf m n := mem_bits.mpr ⟨bits_lt h q, q⟩
    rw [e] at this
    exact (mem_bits.mp this).2
  · intro q
    have : j ∈ bitsOf m' n := mem_bits.mpr ⟨bits_lt h' q, q⟩
    rw [← e] at this
    exact (mem_bits.mp this).2
theorem bits_filter {m n k : Nat} (hk : m.testBit k = true) : (bitsOf m n).filter (fun x => decide (x ≠ k)) = bitsOf (m - 2 ^ k) n := by
  unfold bitsOf
  rw [List.filter_filter]
  apply List.filter_congr
  intro x _
  rw [testBit_sub_pow hk, Bool.and_comm]
  congr 1
  simp
theorem sub_lt {m n k : Nat} (h : m < 2 ^ n) : m - 2 ^ k < 2 ^ n := Nat.lt_of_le_of_lt (Nat.sub_le _ _) h
theorem or_sub {m k : Nat} (h : m.testBit k = false) : (m ||| 2 ^ k) - 2 ^ k = m := by
  have h1 : (m ||| 2 ^ k).testBit k = true := by rw [or_bits]; simp
  apply Nat.eq_of_testBit_eq
  intro j
  rw [testBit_sub_pow h1, or_bits]
  by_cases e : j = k
  · subst e; rw [h]; simp
  · simp [e]
theorem sub_or {m k : Nat} (h : m.testBit k = true) : (m - 2 ^ k) ||| 2 ^ k = m := by
  apply Nat.eq_of_testBit_eq
  intro j
  rw [or_bits, testBit_sub_pow h]
  by_cases e : j = k
  · subst e; rw [h]; simp
  · simp [e]
theorem can_of {S : List (List Nat)} (ok : ShOk S) {v m k : Nat} (hm : m < 2 ^ S.length) (dn : Down S m) (hk : m.testBit k = true) (h : CanWay S v (m - 2 ^ k)) (hf : (kept S m).length ≤ v) : CanWay S v m := by
  obtain ⟨way, h⟩ := h
  have hkS := bits_lt hm hk
  have hs : SpStep S v (m - 2 ^ k) k := ⟨hkS, by rw [testBit_sub_pow hk]; simp, fun x hx => by
    rw [testBit_sub_pow hk, dn k x hk hx]
    have := ok.low k x hkS hx
    simp; omega, by rw [sub_or hk]; exact hf⟩
  have := WayTo.snoc h hs
  rw [sub_or hk] at this
  exact ⟨_, this⟩
theorem can_inv {S : List (List Nat)} {v m : Nat} (h : CanWay S v m) : m = 0 ∨ ((kept S m).length ≤ v ∧ ∃ k, k < S.length ∧ m.testBit k = true ∧ CanWay S v (m - 2 ^ k)) := by
  obtain ⟨way, h⟩ := h
  cases h with
  | nil => exact .inl rfl
  | @snoc m' k way' h' s => exact .inr ⟨s.fits, k, s.lt, by rw [or_bits]; simp, way', by rw [or_sub s.new]; exact h'⟩
theorem last_of {S : List (List Nat)} {v m k : Nat} (hk : m.testBit k = true) (h : CanWay S v (m - 2 ^ k)) : Last S m k := by
  intro j hj hkj
  obtain ⟨way, h⟩ := h
  have := h.down j k (mem_bits.mp hj).2 hkj
  rw [testBit_sub_pow hk] at this
  simp at this
theorem down_sub {S : List (List Nat)} {m k : Nat} (hm : m < 2 ^ S.length) (dn : Down S m) (hk : m.testBit k = true) (l : Last S m k) : Down S (m - 2 ^ k) := by
  intro j x hj hx
  have hj' := hj
  rw [testBit_sub_pow hk, Bool.and_eq_true] at hj'
  rw [testBit_sub_pow hk, dn j x hj'.1 hx]
  have : x ≠ k := by
    rintro rfl
    exact l j (mem_bits.mpr ⟨bits_lt hm hj'.1, hj⟩) hx
  simp [this]
/-- the greatest knot can go last -/
theorem last_max {S : List (List Nat)} (ok : ShOk S) {m : Nat} (hm : m < 2 ^ S.length) (h0 : bitsOf m S.length ≠ []) : ∃ k ∈ bitsOf m S.length, Last S m k := by
  have hp : (bitsOf m S.length).Pairwise (· < ·) := List.pairwise_lt_range.sublist List.filter_sublist
  have hmax : ∃ k ∈ bitsOf m S.length, ∀ j ∈ bitsOf m S.length, j ≤ k := by
    generalize bitsOf m S.length = ms at hp h0
    induction ms with
    | nil => exact absurd rfl h0
    | cons x r ih =>
      by_cases hr : r = []
      · subst hr
        exact ⟨x, by simp, by simp⟩
      · obtain ⟨k, h1, h2⟩ := ih (List.pairwise_cons.mp hp).2 hr
        refine ⟨k, List.mem_cons_of_mem _ h1, fun j hj => ?_⟩
        rcases List.mem_cons.mp hj with rfl | hj
        · exact Nat.le_of_lt ((List.pairwise_cons.mp hp).1 k h1)
        · exact h2 j hj
  obtain ⟨k, hk, hle⟩ := hmax
  refine ⟨k, hk, fun j hj hkj => ?_⟩
  obtain ⟨h1, h2⟩ := mem_bits.mp hj
  rw [testBit_sub_pow (mem_bits.mp hk).2, Bool.and_eq_true] at h2
  have := hle j (mem_bits.mpr ⟨h1, h2.1⟩)
  have := ok.low j k h1 hkj
  omega
theorem isL_step {S : List (List Nat)} (ok : ShOk S) {m mn : Nat} (hm : m < 2 ^ S.length) (dn : Down S m) (h0 : bitsOf m S.length ≠ []) (hmn : ∃ k ∈ bitsOf m S.length, IsL S (m - 2 ^ k) mn)
    (hle : ∀ k ∈ bitsOf m S.length, Last S m k → ∃ v, IsL S (m - 2 ^ k) v ∧ mn ≤ v) : IsL S m (if mn < (kept S m).length then (kept S m).length else mn) := by
  obtain ⟨k, hk, hl⟩ := hmn
  refine ⟨can_of ok hm dn (mem_bits.mp hk).2 (can_mono (by split <;> omega) hl.1) (by split <;> omega), fun v' hv' hc => ?_⟩
  rcases can_inv hc with rfl | ⟨hf, j, hj, hjm, hcj⟩
  · exact h0 (bits_zero _)
  · obtain ⟨v, hv, hmv⟩ := hle j (mem_bits.mpr ⟨hj, hjm⟩) (last_of hjm hcj)
    have : v ≤ v' := Nat.le_of_not_lt fun h => hv.2 v' h hcj
    split at hv' <;> omega
theorem goal_lt (S : List (List Nat)) : goal S < 2 ^ S.length := by
  unfold goal
  have := Nat.one_le_two_pow (n := S.length)
  omega
theorem bits_goal (S : List (List Nat)) : bitsOf (goal S) S.length = List.range S.length := by
  unfold bitsOf
  rw [List.filter_eq_self]
  intro x hx
  rw [goal_bits]
  simpa using hx
theorem down_goal {S : List (List Nat)} (ok : ShOk S) : Down S (goal S) := by
  intro j x hj hx
  rw [goal_bits] at hj ⊢
  have hj := of_decide_eq_true hj
  exact decide_eq_true (ok.lt hj hx)
theorem isL_sp {S : List (List Nat)} (ok : ShOk S) {v n : Nat} (h : IsL S (goal S) v) (hn : IsSp S n) : v = n := by
  have hpos : 1 ≤ v := by
    refine Nat.pos_of_ne_zero ?_
    rintro rfl
    rcases can_inv h.1 with h0 | ⟨hf, _⟩
    · have := bits_goal S
      rw [h0, bits_zero] at this
      have pos := ok.pos
      have := congrArg List.length this
      simp at this
      omega
    · have : S.length - 1 ∈ kept S (goal S) := mem_kept.mpr ⟨by have := ok.pos; omega, by rw [goal_bits]; have := ok.pos; simp; omega, .inl (by have := ok.pos; omega)⟩
      have := List.length_pos_of_mem this
      omega
  rcases Nat.lt_trichotomy v n with q | q | q
  · exact absurd h.1 (hn.2.2 v hpos q)
  · exact q
  · exact absurd hn.2.1 (h.2 n q)
end K27
set_option Elab.async false
set_option linter.all false
set_option maxRecDepth 100000
set_option maxHeartbeats 8000000
namespace K27
open PySem PySem.Spec PyProof.Rows L2
def keyT (ms : List Nat) : List Key := ms.map fun (k : Nat) => (Sum.inl (k : Int) : Key)
theorem keyT_kV (ms : List Nat) : (keyT ms).map kV = nv ms := by
  unfold keyT
  rw [List.map_map]
  rfl
theorem keyT_inj : ∀ {a b : List Nat}, keyT a = keyT b → a = b
  | [], [], _ => rfl
  | [], _ :: _, h => by cases h
  | _ :: _, [], h => by cases h
  | x :: r, y :: t, h => by
    have h1 := (List.cons.inj h).1
    have h2 := (List.cons.inj h).2
    rw [int_cast_inj (Sum.inl.inj h1), keyT_inj h2]
def MemoOk (S : List (List Nat)) (kvs : List (List Key × V)) : Prop := ∀ m v, m < 2 ^ S.length → valV kvs (keyT (bitsOf m S.length)) = some v → ∃ z : Nat, v = .int (z : Int) ∧ IsL S m z
def FL : Nat → Nat
  | 0 => 0
  | c + 1 => (c + 1) * FL c + 1
theorem memo_put {S : List (List Nat)} {kvs : List (List Key × V)} (h : MemoOk S kvs) {m z : Nat} (hm : m < 2 ^ S.length) (hz : IsL S m z) : MemoOk S (putK kvs (keyT (bitsOf m S.length)) (.int (z : Int))) := by
  intro m' v hm' hv
  rw [valV_put] at hv
  split at hv
  · rename_i e
    have := bits_inj hm' hm (keyT_inj e)
    subst this
    exact ⟨z, (Option.some.inj hv).symm, hz⟩
  · exact h m' v hm' hv
theorem putK_len (kvs : List (List Key × V)) (k : List Key) (v : V) : (putK kvs k v).length ≤ kvs.length + 1 := by
  unfold putK
  split <;> simp
def sp_least (c : Nat) : Sp := fun vs H Q _ => ∃ (v : V) (b t : Addr) (S : List (List Nat)) (m : Nat) (kvs : List (List Key × V)), vs = [v, .ref b, .ref t] ∧ TS' H v S ∧ ShOk S ∧ H b = some (.tup (nv (bitsOf m S.length))) ∧ (bitsOf m S.length).length ≤ c ∧ m < 2 ^ S.length ∧ Down S m ∧
  H t = some (.dT kvs) ∧ MemoOk S kvs ∧ kvs.length + FL c ≤ 1000000 ∧ ∀ (z : Nat) H' kvs', IsL S m z → SameX t H H' → H' t = some (.dT kvs') → MemoOk S kvs' → kvs'.length ≤ kvs.length + FL c → Q (.int (z : Nat)) H'
section
variable {P : Program} {w : World} {K : PySem.W.Frag} {mg : Str → Option Value} {base : Heap}
/-- slots: 0=_law_shape_here 1=_law_made 2=_law_told 3=_law_found 4=_law_last 5=_law_rest 6=_law_one; cells: _law_last _law_shape_here -/
theorem sc_law_least : FnScope ["_law_shape_here", "_law_made", "_law_told", "_law_found", "_law_last", "_law_rest", "_law_one"] ["_law_shape_here", "_law_made", "_law_told"] (defScope st_law_least) := ⟨rfl, rfl, rfl, by decide +kernel, rfl, by decide +kernel, by decide +kernel⟩
theorem got_law_least0 (T : Txt K mg) : Got P w K mg base 2 "_law_least" ["_law_shape_here", "_law_made", "_law_told"] (sp_least 0) := by
  refine got_of T.d_law_least sc_law_least (fun F => (FunD.bindsN F fun _ _ _ _ _ _ us hl => match us, hl with | [_, _, _], _ => rfl)) (fun vs H Q E h => ?_) (fun f cdv A outer s H vs Q E hr h => ?_)
  · obtain ⟨v, b, t, S, m, kvs, rfl, _⟩ := h; rfl
  obtain ⟨v, b, t, S, m, kvs, rfl, hv, ok, hb, hc, hm, dn, ht, mo, hkl, kk⟩ := h
  refine ⟨_, (pss_cons (ps_if (pt_cmpR (r := rEqD K) (op_eqD hr.units) (pv 1) (pe_tup pa_nil) (nomark _)) (pss_one (ps_ret pe_int)) pss_nil)
      pss_never), ?_⟩
  have hnil : bitsOf m S.length = [] := List.length_eq_zero_iff.mp (by omega)
  have h0 := bits_zero_of hm hnil
  subst h0
  rw [hnil] at hb
  refine ⟨_, rfl, ?_⟩
  refine ⟨Nat.zero_le _, fun e1 he1 => ?_⟩
  have s1 := same_new (o := .tup []) he1
  refine rEq_nilT (xs := []) (s1 _ _ hb) upd_same ⟨_, rfl, ?_⟩
  refine iteT ?_
  exact kk 0 _ kvs (isL_zero S) (sameX_of s1) (s1 _ _ ht) mo (by omega)
theorem got_law_least1 {c k : Nat} (T : Txt K mg) (hk : 1 ≤ k) (G : Got P w K mg base k "_law_least" ["_law_shape_here", "_law_made", "_law_told"] (sp_least c)) : Got P w K mg base (k + 1) "_law_least" ["_law_shape_here", "_law_made", "_law_told"] (sp_least (c + 1)) := by
  refine got_of T.d_law_least sc_law_least (fun F => (FunD.bindsN F fun _ _ _ _ _ _ us hl => match us, hl with | [_, _, _], _ => rfl)) (fun vs H Q E h => ?_) (fun f cdv A outer s H vs Q E hr h => ?_)
  · obtain ⟨v, b, t, S, m, kvs, rfl, _⟩ := h; rfl
  obtain ⟨v, b, t, S, m, kvs, rfl, hv, ok, hb, hc, hm, dn, ht, mo, hkl, kk⟩ := h
  obtain ⟨_, _, m_law_kept, G_law_kept, k_law_kept, b_law_kept⟩ := (got_law_kept (P := P) (w := w) (base := base) T).ex
  obtain ⟨_, _, m_law_least, G_law_least, k_law_least, b_law_least⟩ := G.ex
  obtain ⟨a, vs0, rfl, ha, pr⟩ := id hv
  have ha : H a = some (.tup vs0) := ha
  have hlv : vs0.length = S.length := Paired.length pr
  have hu := hu_of hr
  have few := ok.few
  have pos := ok.pos
  have hbl := bits_le m S.length
  refine ⟨_, (pss_cons (ps_if (pt_cmpR (r := rEqD K) (op_eqD hr.units) (pv 1) (pe_tup pa_nil) (nomark _)) (pss_one (ps_ret pe_int)) pss_nil)
      (pss_cons (ps_if (pt_cmp (pc_dnotin hu (pv 1) (pv 2))) (pss_cons (ps_set (i := 3) sc_law_least.nd rfl (Or.inl rfl) (pe_lst pa_nil))
      (pss_cons (ps_for PassesOwn.never rfl (pi_tup (pv 1)) (pg_name (i := 4) sc_law_least.nd rfl (Or.inr rfl)) (pss_cons (ps_set (i := 5) sc_law_least.nd rfl (Or.inl rfl) (pe_callTy (r := rTupOf K) call_tuple_of (by rfl) T.z_tuple (by decide +kernel) (pa_cons (pe_lc (own := [("_law_one", 6)]) (g := (gName 6)) (wi := iTup K _) rfl sc_law_least.nd (pi_tup (pv 1)) (blkOk_by (N := ["_law_shape_here", "_law_made", "_law_told", "_law_found", "_law_last", "_law_rest", "_law_one"]) (sc := (defScope st_law_least)) (by decide +kernel)) (fun _ _ _ _ _ => (pg_name (i := 6) sc_law_least.nd rfl (Or.inl rfl))) (fun _ _ _ _ _ => (pts_one (pt_cmpR op_ne (pv 6) (pv 4) (nomark _)))) (fun _ _ _ _ _ => (pv 6))) pa_nil)))
      (pss_one (ps_if (pt_cmpR (r := rEqD K) (op_eqD hr.units) (pe_lc (own := [("_law_one", 6)]) (g := (gName 6)) (wi := iTup K _) rfl sc_law_least.nd (pi_tup (pv 5)) (blkOk_by (N := ["_law_shape_here", "_law_made", "_law_told", "_law_found", "_law_last", "_law_rest", "_law_one"]) (sc := (defScope st_law_least)) (by decide +kernel)) (fun _ _ _ _ _ => (pg_name (i := 6) sc_law_least.nd rfl (Or.inl rfl))) (fun _ _ _ _ _ => (pts_one (pt_cmpR (r := rIn K false) op_in_seq (pv 4) (pe_ix (r := rIx K) ix_seq (pv 0) (pv 6) (fun _ _ => rfl)) rfl))) (fun _ _ _ _ _ => pe_int)) (pe_lst pa_nil) (nomark _)) (pss_one (ps_expr (pe_bm PySem.F.plainAttrs_list PySem.F.slot_list_append PySem.F.type_list_append mt_append (pv 3) (pa_cons (pe_call G_law_least (hr.mono (by first | decide | omega)) rfl m_law_least k_law_least b_law_least .nil pass0 (pa_cons (pv 0) (pa_cons (pv 5) (pa_cons (pv 2) pa_nil)))) pa_nil)))) pss_nil))))
      (pss_one (ps_dput hu (pv 2) (pv 1) (pe_callB (call_max2 rfl) (by rfl) T.z_max (by decide +kernel) (pa_cons (pe_callB (r := rMin K) (cr_min rfl) (by rfl) T.z_min (by decide +kernel) (pa_cons (pv 3) pa_nil)) (pa_cons (pe_call G_law_kept (hr.mono (by first | decide | omega)) rfl m_law_kept k_law_kept b_law_kept .nil pass0 (pa_cons (pv 0) (pa_cons (pv 1) pa_nil))) pa_nil))) rfl)))) pss_nil)
      (pss_one (ps_ret (pe_dget hu (pv 2) (pv 1) (fun _ _ => rfl)))))), ?_⟩
  refine ⟨_, rfl, ?_⟩
  refine ⟨Nat.zero_le _, fun e1 he1 => ?_⟩
  have s1 := same_new (o := .tup []) he1
  refine rEq_nilT (s1 _ _ hb) upd_same ⟨_, rfl, ?_⟩
  refine ite2 (fun hc0 => ?_) (fun hc0 => ?_)
  · have hnil := of_decide_eq_true hc0
    have h0 := bits_zero_of hm hnil
    subst h0
    exact kk 0 _ kvs (isL_zero S) (sameX_of s1) (s1 _ _ ht) mo (by omega)
  have hne : bitsOf m S.length ≠ [] := fun h => hc0 (decide_eq_true h)
  have nbt : b ≠ t := fun h => by rw [h, ht] at hb; cases hb
  generalize upd H e1 (.tup []) = H1 at s1
  have hb1 := s1 _ _ hb
  have ht1 := s1 _ _ ht
  have hval : DGet H1 t (.ref b) (valV kvs (keyT (bitsOf m S.length))) := DGet.t ht1 (by rw [hb1, keyT_kV])
  -- the last line
  have fin : ∀ (H' : Hp) (kvs' : List (List Key × V)) (z : Nat), SameX t H H' → H' t = some (.dT kvs') → MemoOk S kvs' → kvs'.length ≤ kvs.length + FL (c + 1) → IsL S m z → valV kvs' (keyT (bitsOf m S.length)) = some (.int (z : Int)) →
      DGet H' t (.ref b) (some (.int (z : Int))) ∧ Q (.int (z : Int)) H' := fun H' kvs' z s h1 h2 h3 h4 h5 => by
    refine ⟨?_, kk z H' kvs' h4 s h1 h2 h3⟩
    rw [← h5]
    exact DGet.t h1 (by rw [s _ _ nbt hb, keyT_kV])
  refine ⟨_, rfl, _, rfl, t, _, rfl, hval, _, rfl, ?_⟩
  cases hin : valV kvs (keyT (bitsOf m S.length)) with
  | some v0 =>
    obtain ⟨z, rfl, hz⟩ := mo m v0 hm hin
    refine iteF ?_
    obtain ⟨f1, f2⟩ := fin H1 kvs z (sameX_of s1) ht1 mo (by omega) hz hin
    exact ⟨_, rfl, _, rfl, t, _, rfl, f1, f2⟩
  | none =>
    refine iteT ?_
    refine ⟨Nat.zero_le _, fun F hF => ?_⟩
    have s2 := s1.trans (same_new (o := .lst []) hF)
    have hF0 : H F = none := same_none s1 hF
    have nFt : F ≠ t := (ne_of_none ht1 hF).symm
    refine ⟨_, rfl, b, rfl, ⟨_, SqT.of (s2 _ _ hb)⟩, ?_⟩
    have hFLpos : 1 ≤ FL (c + 1) := by unfold FL; omega
    refine for_it (walk_tup (xs := nv (bitsOf m S.length))) (fun i σ H' => ∃ (x4 x5 x6 : Option V) (zs : List Nat) (kvs' : List (List Key × V)), σ = [some (.ref a), some (.ref b), some (.ref t), some (.ref F), x4, x5, x6] ∧ SameX t H H' ∧ H' t = some (.dT kvs') ∧ MemoOk S kvs' ∧ kvs'.length ≤ kvs.length + i * FL c ∧
        H' F = some (.lst (nv zs)) ∧ zs.length ≤ i ∧ (∀ z ∈ zs, ∃ k ∈ (bitsOf m S.length).take i, IsL S (m - 2 ^ k) z) ∧ (∀ k ∈ (bitsOf m S.length).take i, Last S m k → ∃ z ∈ zs, IsL S (m - 2 ^ k) z))
      ⟨none, none, none, [], kvs, rfl, sameX_of s2, s2 _ _ ht, mo, by omega, upd_same, Nat.le_refl _, by simp, by simp⟩ (fun i σ H' _ ⟨_, _, _, _, _, _, s, _⟩ => SqT.of (s _ _ nbt hb)) ?_ ?_
    · rintro i y σ _ H2 hi ⟨x4, x5, x6, zs, kvs', rfl, s2, ht2, mo2, hkl2, hF2, hzl, hz1, hz2⟩ ⟨rfl, hy⟩
      obtain ⟨last, hlast, rfl⟩ := nv_at hy
      rw [nv_length] at hi
      have hlm := List.mem_of_getElem? hlast
      obtain ⟨hlS, hlb⟩ := mem_bits.mp hlm
      have htk : (bitsOf m S.length).take (i + 1) = (bitsOf m S.length).take i ++ [last] := by rw [List.take_add_one, hlast]; rfl
      have hb2 := s2 _ _ nbt hb
      -- rest
      refine ⟨_, rfl, b, rfl, ⟨_, SqT.of hb2⟩, fun D hD => ?_⟩
      refine lc_rel (walk_tup (xs := nv (bitsOf m S.length))) RN monoT_RN (fun i => decide ((bitsOf m S.length).getD i 0 ≠ last)) (fun i => (bitsOf m S.length).getD i 0) hD (by rw [nv_length]; omega) (fun H' s => SqT.of (s _ _ hb2)) ?_ ?_
      · rintro j y _ H3 hj s3 ⟨rfl, hy⟩ K1 K2 h1 h2
        obtain ⟨x, hx, rfl⟩ := nv_at hy
        rw [getD_of hx] at h1 h2
        refine ⟨rfl, ?_⟩
        refine ⟨_, rfl, _, rfl, rfl, _, rfl, ?_⟩
        have e : (!decide (V.int ((x : Nat) : Int) = V.int ((last : Nat) : Int))) = decide (x ≠ last) := by
          rw [dec_int, Bool.eq_iff_iff, Bool.not_eq_true', beq_eq_false_iff_ne, decide_eq_true_iff]
          omega
        rw [e]
        refine ite2 (fun c' => ?_) (fun c' => ?_)
        · exact ⟨_, rfl, h1 c' _ _ (Same.refl _) rfl⟩
        · exact h2 (by simpa using c') _ (Same.refl _)
      intro H3 ws s3 hw pw
      have ew := paired_nv pw
      rw [nv_length, range_map (bitsOf m S.length) (fun x => decide (x ≠ last)) (fun x => x) 0, List.map_id', bits_filter hlb] at ew
      rw [ew] at hw
      refine ⟨D, _, rfl, .inl ⟨SqL.of hw, fun r hr' => ?_⟩⟩
      have s4 := s3.trans (same_new (o := .tup (nv (bitsOf (m - 2 ^ last) S.length))) hr')
      generalize hH4 : upd H3 r (.tup (nv (bitsOf (m - 2 ^ last) S.length))) = H4 at s4
      have hr4 : H4 r = some (.tup (nv (bitsOf (m - 2 ^ last) S.length))) := by rw [← hH4, upd_same]
      refine gName_in ?_
      dsimp only
      have hbl2 := bits_le (m - 2 ^ last) S.length
      refine ⟨_, rfl, r, rfl, ⟨_, SqT.of hr4⟩, fun D2 hD2 => ?_⟩
      refine lc_rel (walk_tup (xs := nv (bitsOf (m - 2 ^ last) S.length))) RN monoT_RN (fun i => !!decide (last ∈ parts S ((bitsOf (m - 2 ^ last) S.length).getD i 0))) (fun i => 1) hD2 (by rw [nv_length]; omega) (fun H' s => SqT.of (s _ _ hr4)) ?_ ?_
      · rintro j y _ H5 hj s5 ⟨rfl, hy⟩ K1 K2 h1 h2
        obtain ⟨x, hx, rfl⟩ := nv_at hy
        rw [getD_of hx] at h1 h2
        have hxS := (mem_bits.mp (List.mem_of_getElem? hx)).1
        obtain ⟨bl, hbl, hbl2⟩ := SS.get (l := false) pr hxS
        have hbl2 : H bl = some (.tup (nv (parts S x))) := hbl2
        have nat : a ≠ t := fun h => by rw [h, ht] at ha; cases ha
        have nbl : bl ≠ t := fun h => by rw [h, ht] at hbl2; cases hbl2
        have s25 := s2.trans (sameX_of (s4.trans s5))
        refine ⟨rfl, ?_⟩
        refine ⟨_, rfl, _, rfl, _, rfl, rIx_t (s25 _ _ nat ha) rfl hbl ?_⟩
        refine ⟨bl, _, rfl, .inr (SqT.of (s25 _ _ nbl hbl2)), rfl, flat_nv _, _, rfl, ?_⟩
        have ein : (if (false : Bool) = true then !inV (.int (last : Int)) (nv (parts S x)) else inV (.int (last : Int)) (nv (parts S x))) = !!decide (last ∈ parts S x) := by
          rw [if_neg Bool.false_ne_true, inV_nv, Bool.not_not]
        rw [ein]
        refine ite2 (fun c' => ?_) (fun c' => ?_)
        · exact h1 c' _ _ (Same.refl _) rfl
        · exact h2 (by simpa using c') _ (Same.refl _)
      intro H5 us s5 hus pus
      have eus := paired_nv pus
      rw [nv_length] at eus
      rw [eus] at hus
      refine ⟨Nat.zero_le _, fun e2 he2 => ?_⟩
      have s6 := s4.trans (s5.trans (same_new (o := .lst []) he2))
      refine rEq_nilL (same_new he2 _ _ hus) upd_same ⟨_, rfl, ?_⟩
      have efil := filt_nil (bitsOf (m - 2 ^ last) S.length) 0 (fun x => !decide (last ∈ parts S x))
      have hlastiff : Last S m last ↔ (bitsOf (m - 2 ^ last) S.length).all (fun x => !decide (last ∈ parts S x)) = true := by
        rw [List.all_eq_true]
        unfold Last
        refine forall_congr' fun x => imp_congr_right fun _ => ?_
        simp
      generalize hus' : ((List.range (bitsOf (m - 2 ^ last) S.length).length).filter fun i => !!decide (last ∈ parts S ((bitsOf (m - 2 ^ last) S.length).getD i 0))).map (fun _ => (1 : Nat)) = ones at efil
      have eones : decide (ones = []) = (bitsOf (m - 2 ^ last) S.length).all (fun x => !decide (last ∈ parts S x)) := by
        have : decide (ones = []) = !decide (ones ≠ []) := by simp
        rw [this, efil, Bool.not_not]
      rw [eones]
      have hr6 := (s5.trans (same_new (o := .lst []) he2)) _ _ hr4
      generalize upd H5 e2 (.lst []) = H6 at s6 hr6
      have ht6 := s6 _ _ ht2
      have hF6 := s6 _ _ hF2
      have s26 := s2.trans (sameX_of s6)
      refine ite2 (fun hc1 => ?_) (fun hc1 => ?_)
      · have hL := hlastiff.mpr hc1
        have hcard := bits_sub hlS hlb
        have hsucc : FL (c + 1) = (c + 1) * FL c + 1 := rfl
        have hib : i * FL c + FL c ≤ FL (c + 1) := by
          rw [hsucc]
          have : (i + 1) * FL c ≤ (c + 1) * FL c := Nat.mul_le_mul_right _ (by omega)
          rw [Nat.add_mul, Nat.one_mul] at this
          omega
        refine ⟨_, rfl, .inl ⟨rfl, _, SqL.of hF6⟩, _, rfl, _, rfl, _, rfl, ?_⟩
        refine ⟨.ref a, r, t, S, m - 2 ^ last, kvs', rfl, monoT_TS _ _ _ _ (keepT_X s26 fun xs q => by rw [ht] at q; cases q) hv, ok, hr6, by omega, sub_lt hm, down_sub hm dn hlb hL, ht6, mo2, by omega, fun z H7 kvs7 hz s7 ht7 mo7 hkl7 => ?_⟩
        have hF7 := s7 _ _ nFt hF6
        refine ⟨F, _, _, rfl, rfl, hF7, (by rw [nv_length]; show zs.length < 2 ^ 24; omega), ?_⟩
        refine ⟨_, _, _, zs ++ [z], kvs7, rfl, sameX_over (s26.trans s7) hF0, by rw [upd_ne nFt.symm]; exact ht7, mo7, ?_, by rw [upd_same, ← nv_append]; rfl, by simp; omega, ?_, ?_⟩
        · rw [Nat.add_mul, Nat.one_mul]; omega
        · intro z' hz'
          rw [htk]
          rcases List.mem_append.mp hz' with h | h
          · obtain ⟨k, h1, h2⟩ := hz1 z' h
            exact ⟨k, List.mem_append_left _ h1, h2⟩
          · rw [List.mem_singleton.mp h]
            exact ⟨last, List.mem_append_right _ (List.mem_singleton.mpr rfl), hz⟩
        · intro k hk hLk
          rw [htk] at hk
          rcases List.mem_append.mp hk with h | h
          · obtain ⟨z', h1, h2⟩ := hz2 k h hLk
            exact ⟨z', List.mem_append_left _ h1, h2⟩
          · rw [List.mem_singleton.mp h]
            exact ⟨z, List.mem_append_right _ (List.mem_singleton.mpr rfl), hz⟩
      · refine ⟨_, _, _, zs, kvs', rfl, s26, ht6, mo2, ?_, hF6, by omega, ?_, ?_⟩
        · rw [Nat.add_mul, Nat.one_mul]; omega
        · intro z' hz'
          rw [htk]
          obtain ⟨k, h1, h2⟩ := hz1 z' hz'
          exact ⟨k, List.mem_append_left _ h1, h2⟩
        · intro k hk hLk
          rw [htk] at hk
          rcases List.mem_append.mp hk with h | h
          · exact hz2 k h hLk
          · rw [List.mem_singleton.mp h] at hLk
            exact absurd (hlastiff.mp hLk) hc1
    · rintro σ H2 ⟨x4, x5, x6, zs, kvs', rfl, s2, ht2, mo2, hkl2, hF2, hzl, hz1, hz2⟩
      rw [nv_length, List.take_length] at hz1 hz2
      rw [nv_length] at hkl2 hzl
      obtain ⟨k0, hk0, hL0⟩ := last_max ok hm hne
      obtain ⟨z0, hz0, _⟩ := hz2 k0 hk0 hL0
      have hzpos : 0 < zs.length := List.length_pos_of_mem hz0
      have hb2 := s2 _ _ nbt hb
      refine ⟨_, rfl, F, zs.map (fun n => ((n : Nat) : Int)), rfl, SqL.of (by rw [hF2, nv_int]), by rw [List.length_map]; exact hzpos, fun mn hmn hle => ?_⟩
      obtain ⟨mz, hmz, rfl⟩ := List.mem_map.mp hmn
      have hle' : ∀ z ∈ zs, mz ≤ z := fun z hz => by
        have := hle _ (List.mem_map.mpr ⟨z, hz, rfl⟩)
        omega
      refine ⟨_, rfl, _, rfl, .ref a, b, S, m, rfl, monoT_TS _ _ _ _ (keepT_X s2 fun xs q => by rw [ht] at q; cases q) hv, pos, few, hb2, fun H3 s3 => ?_⟩
      have hstep := isL_step ok hm dn hne (hz1 mz hmz) (fun k hk hL => by
        obtain ⟨z, h1, h2⟩ := hz2 k hk hL
        exact ⟨z, h2, hle' z h1⟩)
      have er : (if ((kept S m).length : Int) > (mz : Int) then ((kept S m).length : Int) else (mz : Int)) = ((if mz < (kept S m).length then (kept S m).length else mz : Nat) : Int) := by
        split <;> split <;> omega
      refine ⟨_, _, rfl, ?_⟩
      simp only [er]
      generalize (if mz < (kept S m).length then (kept S m).length else mz) = z at hstep
      have ht3 := s3 _ _ ht2
      have hb3 := s3 _ _ hb2
      have s23 := s2.trans (sameX_of s3)
      have hsucc : FL (c + 1) = (c + 1) * FL c + 1 := rfl
      have hib : (bitsOf m S.length).length * FL c ≤ (c + 1) * FL c := Nat.mul_le_mul_right _ hc
      have hput : DPut H3 t (.ref b) (.int (z : Int)) (upd H3 t (.dT (putK kvs' (keyT (bitsOf m S.length)) (.int (z : Int))))) := DPut.t ht3 (by rw [hb3, keyT_kV]) (by show kvs'.length < 2 ^ 24; omega)
      have hpl := putK_len kvs' (keyT (bitsOf m S.length)) (.int (z : Int))
      obtain ⟨f1, f2⟩ := fin (upd H3 t (.dT (putK kvs' (keyT (bitsOf m S.length)) (.int (z : Int))))) (putK kvs' (keyT (bitsOf m S.length)) (.int (z : Int))) z (s23.trans sameX_upd) upd_same (memo_put mo2 hm hstep) (by omega) hstep (by rw [valV_put, if_pos rfl])
      refine ⟨_, rfl, _, rfl, t, _, rfl, hput, ?_⟩
      exact ⟨_, rfl, _, rfl, t, _, rfl, f1, f2⟩
theorem got_law_least (T : Txt K mg) : ∀ c, Got P w K mg base (c + 2) "_law_least" ["_law_shape_here", "_law_made", "_law_told"] (sp_least c)
  | 0 => got_law_least0 T
  | c + 1 => got_law_least1 T (by omega) (got_law_least T c)
end
end K27
set_option Elab.async false
set_option linter.all false
set_option maxRecDepth 100000
set_option maxHeartbeats 8000000
namespace K27
open PySem PySem.Spec PyProof.Rows L2
def ins (x : Nat) : List Nat → List Nat
  | [] => [x]
  | y :: r => if x ≤ y then x :: y :: r else y :: ins x r
def isort : List Nat → List Nat
  | [] => []
  | x :: r => ins x (isort r)
theorem ins_perm (x : Nat) : ∀ r, (ins x r).Perm (x :: r)
  | [] => .refl _
  | y :: r => by
    unfold ins
    split
    · exact .refl _
    · exact (List.Perm.cons y (ins_perm x r)).trans (List.Perm.swap x y r)
theorem isort_perm : ∀ r, (isort r).Perm r
  | [] => .refl _
  | x :: r => (ins_perm x _).trans (List.Perm.cons x (isort_perm r))
theorem ins_sorted (x : Nat) : ∀ {r : List Nat}, r.Pairwise (· ≤ ·) → (ins x r).Pairwise (· ≤ ·)
  | [], _ => List.pairwise_singleton _ _
  | y :: r, h => by
    have h' := List.pairwise_cons.mp h
    unfold ins
    split
    · rename_i hxy
      refine List.pairwise_cons.mpr ⟨fun z hz => ?_, h⟩
      rcases List.mem_cons.mp hz with rfl | hz
      · exact hxy
      · exact Nat.le_trans hxy (h'.1 z hz)
    · rename_i hxy
      refine List.pairwise_cons.mpr ⟨fun z hz => ?_, ins_sorted x h'.2⟩
      rcases List.mem_cons.mp ((ins_perm x r).mem_iff.mp hz) with rfl | hz
      · omega
      · exact h'.1 z hz
theorem isort_sorted : ∀ r, (isort r).Pairwise (· ≤ ·)
  | [] => .nil
  | x :: r => ins_sorted x (isort_sorted r)
theorem sorted_uniq : ∀ {a b : List Int}, a.Perm b → a.Pairwise (· ≤ ·) → b.Pairwise (· ≤ ·) → a = b
  | [], b, h, _, _ => (List.nil_perm.mp h).symm
  | x :: r, [], h, _, _ => absurd (List.Perm.length_eq h) (by simp)
  | x :: r, y :: t, h, ha, hb => by
    have ha' := List.pairwise_cons.mp ha
    have hb' := List.pairwise_cons.mp hb
    have e : x = y := by
      have h1 : x ∈ y :: t := h.mem_iff.mp List.mem_cons_self
      have h2 : y ∈ x :: r := h.mem_iff.mpr List.mem_cons_self
      rcases List.mem_cons.mp h1 with h1 | h1
      · exact h1
      · rcases List.mem_cons.mp h2 with h2 | h2
        · exact h2.symm
        · have := ha'.1 y h2
          have := hb'.1 x h1
          omega
    subst e
    rw [sorted_uniq (List.Perm.cons_inv h) ha'.2 hb'.2]
theorem sorted_nat {xs : List Nat} {ns : List Int} (hp : ns.Perm (xs.map fun n => ((n : Nat) : Int))) (hs : ns.Pairwise (· ≤ ·)) : ns = (isort xs).map fun n => ((n : Nat) : Int) := by
  refine sorted_uniq (hp.trans ((isort_perm xs).symm.map _)) hs ?_
  rw [List.pairwise_map]
  exact (isort_sorted xs).imp fun h => by omega
theorem sorted_asc {xs : List Nat} (h : xs.Pairwise (· < ·)) {ns : List Int} (hp : ns.Perm (xs.map fun n => ((n : Nat) : Int))) (hs : ns.Pairwise (· ≤ ·)) : ns = xs.map fun n => ((n : Nat) : Int) := by
  refine sorted_uniq hp hs ?_
  rw [List.pairwise_map]
  exact h.imp fun h => by omega
/-- the rule for shapes that are trees -/
def ruleOf (nums : List Nat) : Nat := (((List.range nums.length).map fun i => (isort nums).reverse.getD i 0 + i)).foldr max 1
def ruleN : Nat → List (List Nat) → Nat → Nat
  | 0, _, _ => 0
  | d + 1, S, k => ruleOf ((parts S k).map (ruleN d S))
theorem foldr_max : ∀ (xs : List Nat) (m : Nat), m ∈ 1 :: xs → (∀ y ∈ 1 :: xs, y ≤ m) → m = xs.foldr max 1
  | [], m, h, _ => by simpa using h
  | x :: r, m, h, hle => by
    have ih : (r.foldr max 1) ∈ 1 :: r ∧ ∀ y ∈ 1 :: r, y ≤ r.foldr max 1 := by
      clear h hle
      induction r with
      | nil => simp
      | cons z t ih' =>
        obtain ⟨h1, h2⟩ := ih'
        rw [List.foldr_cons]
        refine ⟨?_, fun y hy => ?_⟩
        · rcases Nat.le_total z (t.foldr max 1) with q | q
          · rw [Nat.max_eq_right q]
            rcases List.mem_cons.mp h1 with e | e
            · rw [e]; exact List.mem_cons_self
            · exact List.mem_cons_of_mem _ (List.mem_cons_of_mem _ e)
          · rw [Nat.max_eq_left q]; simp
        · rcases List.mem_cons.mp hy with rfl | hy
          · have := h2 1 List.mem_cons_self
            omega
          · rcases List.mem_cons.mp hy with rfl | hy
            · omega
            · have := h2 y (List.mem_cons_of_mem _ hy)
              omega
    rw [List.foldr_cons]
    have a1 : x ≤ m := hle x (by simp)
    have a2 : r.foldr max 1 ≤ m := hle _ (by
      rcases List.mem_cons.mp ih.1 with e | e
      · rw [e]; simp
      · simp [e])
    rcases List.mem_cons.mp h with e | h
    · have := ih.2 1 List.mem_cons_self
      omega
    · rcases List.mem_cons.mp h with e | h
      · omega
      · have := ih.2 m (List.mem_cons_of_mem _ h)
        omega
def sp_rule (d : Nat) : Sp := fun vs H Q _ => ∃ (v : V) (S : List (List Nat)) (k : Nat), vs = [v, .int (k : Nat)] ∧ TS' H v S ∧ ShOk S ∧ k < S.length ∧ k < d ∧ ∀ H', Same H H' → Q (.int (ruleN d S k : Nat)) H'
section
variable {P : Program} {w : World} {K : PySem.W.Frag} {mg : Str → Option Value} {base : Heap}
/-- slots: 0=_law_shape_here 1=_law_knot 2=_law_numbers 3=_law_part 4=_law_k 5=_law_own; cells: _law_shape_here -/
theorem sc_law_rule : FnScope ["_law_shape_here", "_law_knot", "_law_numbers", "_law_part", "_law_k", "_law_own"] ["_law_shape_here", "_law_knot"] (defScope st_law_rule) := ⟨rfl, rfl, rfl, by decide +kernel, rfl, by decide +kernel, by decide +kernel⟩
theorem got_law_rule0 (T : Txt K mg) : Got P w K mg base 1 "_law_rule" ["_law_shape_here", "_law_knot"] (sp_rule 0) := by
  refine got_of T.d_law_rule sc_law_rule (fun F => (FunD.bindsN F fun _ _ _ _ _ _ us hl => match us, hl with | [_, _], _ => rfl)) (fun vs H Q E h => ?_) (fun f cdv A outer s H vs Q E hr h => ?_)
  · obtain ⟨v, S, k, rfl, _⟩ := h; rfl
  obtain ⟨v, S, k, rfl, _, _, _, hk, _⟩ := h
  omega
theorem got_law_rule1 {d k : Nat} (T : Txt K mg) (G : Got P w K mg base k "_law_rule" ["_law_shape_here", "_law_knot"] (sp_rule d)) : Got P w K mg base (k + 1) "_law_rule" ["_law_shape_here", "_law_knot"] (sp_rule (d + 1)) := by
  refine got_of T.d_law_rule sc_law_rule (fun F => (FunD.bindsN F fun _ _ _ _ _ _ us hl => match us, hl with | [_, _], _ => rfl)) (fun vs H Q E h => ?_) (fun f cdv A outer s H vs Q E hr h => ?_)
  · obtain ⟨v, S, k, rfl, _⟩ := h; rfl
  obtain ⟨v, S, kn, rfl, hv, ok, hkS, hkd, kk⟩ := h
  obtain ⟨_, _, m_law_rule, G_law_rule, k_law_rule, b_law_rule⟩ := G.ex
  obtain ⟨a, vs0, rfl, ha, pr⟩ := id hv
  have ha : H a = some (.tup vs0) := ha
  have few := ok.few
  have hpn := nodup_le (ok.nd hkS) fun x hx => ok.lt hkS hx
  obtain ⟨bk, hbk, hbk2⟩ := SS.get (l := false) pr hkS
  have hbk2 : H bk = some (.tup (nv (parts S kn))) := hbk2
  refine ⟨_, (pss_cons (ps_set (i := 2) sc_law_rule.nd rfl (Or.inl rfl) (pe_revL (pe_callB (r := rSortedI K) cr_sortedI (by rfl) T.z_sorted (by decide +kernel) (pa_cons (pe_lc (own := [("_law_part", 3)]) (g := (gName 3)) (tt := tYes) (wi := iTup K _) rfl sc_law_rule.nd (pi_tup (pe_ix (r := rIxT K) ix_tup (pv 0) (pv 1) (fun _ _ => rfl))) (blkOk_by (N := ["_law_shape_here", "_law_knot", "_law_numbers", "_law_part", "_law_k", "_law_own"]) (sc := (defScope st_law_rule)) (by decide +kernel)) (fun _ _ _ _ _ => (pg_name (i := 3) sc_law_rule.nd rfl (Or.inl rfl))) (fun _ _ _ _ _ => pts_nil) (fun _ _ _ _ _ => (pe_call G_law_rule (hr.mono (by first | decide | omega)) rfl m_law_rule k_law_rule b_law_rule .nil pass0 (pa_cons (pv 0) (pa_cons (pv 3) pa_nil))))) pa_nil))))
      (pss_one (ps_ret (pe_callB (r := rMax K) (cr_max rfl) (by rfl) T.z_max (by decide +kernel) (pa_cons (pe_op op_cat (pe_lst (pa_cons pe_int pa_nil)) (pe_lc (own := [("_law_k", 4), ("_law_own", 5)]) (g := (gTup K 2 (gCons (gName 4) (gCons (gName 5) gNil)))) (tt := tYes) (wi := iEnum K _) rfl sc_law_rule.nd (pi_enum (by rfl) T.z_enumerate (pa_cons (pv 2) pa_nil)) (blkOk_by (N := ["_law_shape_here", "_law_knot", "_law_numbers", "_law_part", "_law_k", "_law_own"]) (sc := (defScope st_law_rule)) (by decide +kernel)) (fun _ _ _ _ _ => (pg_tup rfl (pgs_cons (pg_name (i := 4) sc_law_rule.nd rfl (Or.inl rfl)) (pgs_cons (pg_name (i := 5) sc_law_rule.nd rfl (Or.inl rfl)) pgs_nil)))) (fun _ _ _ _ _ => pts_nil) (fun _ _ _ _ _ => (pe_op op_add (pv 5) (pv 4))))) pa_nil))))), ?_⟩
  refine ⟨_, rfl, _, rfl, a, _, _, _, rfl, rfl, SqT.of ha, atN hbk, ?_⟩
  refine ⟨bk, rfl, ⟨_, SqT.of hbk2⟩, fun D hD => ?_⟩
  refine lc_rel (walk_tup (xs := nv (parts S kn))) RN monoT_RN (fun _ => true) (fun i => ruleN d S ((parts S kn).getD i 0)) hD (by rw [nv_length]; omega) (fun H' s => SqT.of (s _ _ hbk2)) ?_ ?_
  · rintro i y _ H2 hi s2 ⟨rfl, hy⟩ K1 K2 h1 h2
    obtain ⟨x, hx, rfl⟩ := nv_at hy
    rw [getD_of hx] at h1
    have hxk := ok.low kn x hkS (List.mem_of_getElem? hx)
    refine ⟨rfl, tyes_ok (iteT ?_)⟩
    refine ⟨_, rfl, _, rfl, _, S, x, rfl, monoT_TS _ _ _ _ (keepT_same s2) hv, ok, by omega, by omega, fun H4 s4 => h1 rfl _ _ s4 rfl⟩
  intro H2 zs s2 hz pz
  have ez := paired_nv pz
  rw [nv_length, range_f (parts S kn) (ruleN d S) 0] at ez
  rw [ez] at hz
  have hrule : ruleN (d + 1) S kn = ruleOf ((parts S kn).map (ruleN d S)) := rfl
  rw [hrule] at kk
  have hnl : ((parts S kn).map (ruleN d S)).length ≤ 8 := by rw [List.length_map]; omega
  generalize (parts S kn).map (ruleN d S) = nums at hz kk hnl
  refine ⟨D, nums.map (fun n => ((n : Nat) : Int)), rfl, SqL.of (by rw [hz, nv_int]), fun ns' p hp hs hpf => ?_⟩
  rw [sorted_nat hp hs, ← nv_int]
  refine ⟨p, _, rfl, SqL.of upd_same, fun q hq => ?_⟩
  have s4 := (s2.trans (same_new (o := .lst (nv (isort nums))) hpf)).trans (same_new (o := .lst (nv (isort nums)).reverse) hq)
  generalize hH4 : upd (upd H2 p (.lst (nv (isort nums)))) q (.lst (nv (isort nums)).reverse) = H4 at s4
  have hq4 : H4 q = some (.lst (nv (isort nums).reverse)) := by rw [← hH4, upd_same, nv_reverse]
  have hsl : (isort nums).reverse.length = nums.length := by rw [List.length_reverse, (isort_perm nums).length_eq]
  unfold ruleOf at kk
  generalize hdes : (isort nums).reverse = des at hq4 hsl kk
  refine gName_in ?_
  dsimp only
  refine ⟨(by show 1 ≤ sizeLine; decide), fun o ho => ?_⟩
  have s5 := s4.trans (same_new (o := .lst [.int 1]) ho)
  have hq5 := same_new (o := .lst [.int 1]) ho _ _ hq4
  have ho5 : (upd H4 o (.lst [.int 1])) o = some (.lst (nv [1])) := upd_same
  generalize upd H4 o (.lst [.int 1]) = H5 at s5 hq5 ho5
  refine ⟨_, rfl, q, _, rfl, SqL.of hq5, fun D2 hD2 => ?_⟩
  refine lc_rel (walk_enum (xs := nv des)) RN monoT_RN (fun _ => true) (fun i => des.getD i 0 + i) hD2 (by rw [nv_length]; omega) (fun H' s => SqL.of (s _ _ hq5)) ?_ ?_
  · rintro i y H6 _ hi s6 ⟨T1, z1, z2, rfl, hT, rfl, hz1, hz2⟩ K1 K2 h1 h2
    cases hz1
    have hz2 : (nv des)[i]? = some z2 := hz2
    obtain ⟨x, hx, rfl⟩ := nv_at hz2
    rw [getD_of hx] at h1
    have s7 := same_new (o := .tup [.int (i : Nat), .int (x : Nat)]) hT
    refine ⟨T1, _, rfl, SqT.of upd_same, rfl, _, _, rfl, _, _, rfl, rfl, rfl, tyes_ok (iteT ?_)⟩
    refine ⟨_, rfl, _, rfl, _, _, rfl, rfl, ?_⟩
    exact h1 rfl _ _ s7 (by show V.int _ = V.int _; congr 1)
  intro H6 ws s6 hw pw
  have ew := paired_nv pw
  rw [nv_length, range_nf] at ew
  rw [ew] at hw
  have ho6 := s6 _ _ ho5
  refine ⟨o, D2, _, _, rfl, rfl, ho6, hw, ?_, fun R hR => ?_⟩
  · rw [nv_length, nv_length, List.length_map, List.length_range]
    show 1 + des.length ≤ 2 ^ 24
    omega
  · rw [nv_append]
    have s8 := s6.trans (same_new (o := .lst (nv ([1] ++ (List.range des.length).map fun i => des.getD i 0 + i))) hR)
    refine ⟨R, ([1] ++ (List.range des.length).map fun i => des.getD i 0 + i).map (fun n => ((n : Nat) : Int)), rfl, SqL.of (by rw [upd_same, nv_int]), by simp, fun m hm hle => ?_⟩
    obtain ⟨mz, hmz, rfl⟩ := List.mem_map.mp hm
    have hle' : ∀ y ∈ 1 :: ((List.range des.length).map fun i => des.getD i 0 + i), y ≤ mz := fun y hy => by
      have := hle _ (List.mem_map.mpr ⟨y, hy, rfl⟩)
      omega
    rw [foldr_max _ mz hmz hle']
    rw [← hsl] at kk
    exact kk _ (s5.trans s8)
theorem got_law_rule (T : Txt K mg) : ∀ d, Got P w K mg base (d + 1) "_law_rule" ["_law_shape_here", "_law_knot"] (sp_rule d)
  | 0 => got_law_rule0 T
  | d + 1 => got_law_rule1 T (got_law_rule T d)
end
end K27
set_option Elab.async false
set_option linter.all false
set_option maxRecDepth 100000
set_option maxHeartbeats 8000000
namespace K27
open PySem PySem.Spec PyProof.Rows L2
abbrev LSt := List (List Nat) × List Nat
def loneStep (st : LSt) (r : Nat) : LSt := (st.1 ++ [st.2.drop (st.2.length - min st.2.length r)], st.2.take (st.2.length - min st.2.length r) ++ [st.1.length])
def loneGo (ms : List Nat) : LSt := ms.foldl loneStep ([], [])
def loneOf (ms : List Nat) : List (List Nat) := (loneGo ms).1 ++ (if 1 < (loneGo ms).2.length then [(loneGo ms).2] else [])
theorem loneGo_snoc (ms : List Nat) (r : Nat) : loneGo (ms ++ [r]) = loneStep (loneGo ms) r := by
  unfold loneGo
  rw [List.foldl_append]
  rfl
theorem lone_inv (ms : List Nat) : (loneGo ms).1.length = ms.length ∧ (loneGo ms).2.Pairwise (· < ·) ∧ (∀ x ∈ (loneGo ms).2, x < ms.length) ∧ (loneGo ms).2.length ≤ ms.length := by
  have : ∀ n (ms : List Nat), ms.length = n → (loneGo ms).1.length = ms.length ∧ (loneGo ms).2.Pairwise (· < ·) ∧ (∀ x ∈ (loneGo ms).2, x < ms.length) ∧ (loneGo ms).2.length ≤ ms.length := by
    intro n
    induction n with
    | zero =>
      intro ms h
      have := List.length_eq_zero_iff.mp h
      subst this
      exact ⟨rfl, .nil, fun x hx => (by cases hx), Nat.le_refl _⟩
    | succ n ih =>
      intro ms h
      obtain ⟨ms', r, rfl⟩ : ∃ ms' r, ms = ms' ++ [r] := by
        have hne : ms ≠ [] := by rintro rfl; cases h
        exact ⟨ms.dropLast, ms.getLast hne, (List.dropLast_concat_getLast hne).symm⟩
      obtain ⟨h1, h2, h3, h4⟩ := ih ms' (by simpa using h)
      rw [loneGo_snoc]
      generalize loneGo ms' = st at h1 h2 h3 h4
      unfold loneStep
      refine ⟨by simp [h1], ?_, ?_, ?_⟩
      · rw [h1]
        exact pair_snoc (h2.sublist (List.take_sublist _ _)) fun z hz => h3 z (List.mem_of_mem_take hz)
      · intro x hx
        rcases List.mem_append.mp hx with h | h
        · have := h3 x (List.mem_of_mem_take h)
          simp; omega
        · rw [List.mem_singleton.mp h, h1]; simp
      · rw [List.length_append, List.length_take, List.length_append]
        simp; omega
  exact this _ ms rfl
theorem cutV_from (xs : List Nat) {k : Nat} {z : Int} (hz : z = (k : Int)) (h : k ≤ xs.length) : cutV (nv xs) (some z) none = nv (xs.drop k) := by
  subst hz
  unfold cutV
  rw [nv_length, HT.sIx_none, HT.sIx_nat, nv_drop, nv_take, Nat.min_eq_left h]
  congr 1
  rw [List.take_of_length_le (by rw [List.length_drop]; omega)]
theorem cutV_to (xs : List Nat) {k : Nat} {z : Int} (hz : z = (k : Int)) (h : k ≤ xs.length) : cutV (nv xs) none (some z) = nv (xs.take k) := by
  subst hz
  unfold cutV
  rw [nv_length, HT.sIx_none, HT.sIx_nat, nv_drop, nv_take, Nat.min_eq_left h]
  rfl
section
variable {P : Program} {w : World} {K : PySem.W.Frag} {mg : Str → Option Value} {base : Heap}
/-- slots: 0=_law_urn 1=_law_found 2=_law_free 3=_law_lap 4=_law_many; cells:  -/
theorem sc_law_lone_shape : FnScope ["_law_urn", "_law_found", "_law_free", "_law_lap", "_law_many"] ["_law_urn"] (defScope st_law_lone_shape) := ⟨rfl, rfl, rfl, by decide +kernel, rfl, by decide +kernel, by decide +kernel⟩
def sp_lone : Sp := fun vs H Q _ => ∃ (u : Addr) (n : Nat), vs = [.ref u] ∧ UrnAt H u n ∧ n ≤ 1000 ∧ ∀ v H' ms, 1 ≤ ms.length → ms.length ≤ 5 → (∀ r ∈ ms, r < 3) → SameX u H H' → UrnAt H' u (n + 6) → TS' H' v (loneOf ms) → Q v H'
theorem got_law_lone_shape (T : Txt K mg) : Got P w K mg base 2 "_law_lone_shape" ["_law_urn"] sp_lone := by
  refine got_of T.d_law_lone_shape sc_law_lone_shape (fun F => (FunD.bindsN F fun _ _ _ _ _ _ us hl => match us, hl with | [_], _ => rfl)) (fun vs H Q E h => ?_) (fun f cdv A outer s H vs Q E hr h => ?_)
  · obtain ⟨u, n, rfl, _⟩ := h; rfl
  obtain ⟨u, n, rfl, hur, hn, kk⟩ := h
  obtain ⟨_, _, m_law_take, G_law_take, k_law_take, b_law_take⟩ := (got_law_take (P := P) (w := w) (base := base) T).ex
  refine ⟨_, (pss_cons (ps_par (i := 1) (j := 2) (by rfl) sc_law_lone_shape.nd rfl rfl (by decide) rfl rfl (pa_cons (pe_lst pa_nil) (pa_cons (pe_lst pa_nil) pa_nil)) (by rfl))
      (pss_cons (ps_for PassesOwn.never rfl (pi_range1 (by rfl) T.z_range (pa_cons (pe_op op_add pe_int (pe_call G_law_take (hr.mono (by first | decide | omega)) rfl m_law_take k_law_take b_law_take .nil pass0 (pa_cons (pv 0) (pa_cons pe_int pa_nil)))) pa_nil)) (pg_name (i := 3) sc_law_lone_shape.nd rfl (Or.inl rfl)) (pss_cons (ps_set (i := 4) sc_law_lone_shape.nd rfl (Or.inl rfl) (pe_callB (call_min2 rfl) (by rfl) T.z_min (by decide +kernel) (pa_cons (pe_callB (r := rLenS K) call_len_seq (by rfl) T.z_len (by decide +kernel) (pa_cons (pv 2) pa_nil)) (pa_cons (pe_call G_law_take (hr.mono (by first | decide | omega)) rfl m_law_take k_law_take b_law_take .nil pass0 (pa_cons (pv 0) (pa_cons pe_int pa_nil))) pa_nil))))
      (pss_cons (ps_expr (pe_bm PySem.F.plainAttrs_list PySem.F.slot_list_append PySem.F.type_list_append mt_append (pv 1) (pa_cons (pe_callTy (r := rTupOf K) call_tuple_of (by rfl) T.z_tuple (by decide +kernel) (pa_cons (pe_callB (r := rSortedI K) cr_sortedI (by rfl) T.z_sorted (by decide +kernel) (pa_cons (pe_slice (r := rSlL K) sl_list (pv 2) (po_some (pe_op op_sub (pe_callB (r := rLenS K) call_len_seq (by rfl) T.z_len (by decide +kernel) (pa_cons (pv 2) pa_nil)) (pv 4))) po_none) pa_nil)) pa_nil)) pa_nil)))
      (pss_one (ps_set (i := 2) sc_law_lone_shape.nd rfl (Or.inl rfl) (pe_op op_cat (pe_slice (r := rSlL K) sl_list (pv 2) po_none (po_some (pe_op op_sub (pe_callB (r := rLenS K) call_len_seq (by rfl) T.z_len (by decide +kernel) (pa_cons (pv 2) pa_nil)) (pv 4)))) (pe_lst (pa_cons (pe_op op_sub (pe_callB (r := rLenS K) call_len_seq (by rfl) T.z_len (by decide +kernel) (pa_cons (pv 1) pa_nil)) pe_int) pa_nil))))))))
      (pss_one (ps_ret (pe_callTy (r := rTupOf K) call_tuple_of (by rfl) T.z_tuple (by decide +kernel) (pa_cons (pe_op op_cat (pv 1) (pe_ifExp (pt_cmpR op_gt (pe_callB (r := rLenS K) call_len_seq (by rfl) T.z_len (by decide +kernel) (pa_cons (pv 2) pa_nil)) pe_int (nomark _)) (pe_lst (pa_cons (pe_callTy (r := rTupOf K) call_tuple_of (by rfl) T.z_tuple (by decide +kernel) (pa_cons (pv 2) pa_nil)) pa_nil)) (pe_lst pa_nil))) pa_nil)))))), ?_⟩
  obtain ⟨xsu, hxu⟩ := hur.lst
  have fresh : ∀ {p : Addr} {H' : Hp}, SameX u H H' → UrnAt H' u (n + 100) → H' p = none → H p = none ∧ p ≠ u := fun {p H'} s hu' hp => by
    obtain ⟨xs, hx⟩ := hu'.lst
    have hne : p ≠ u := by rintro rfl; rw [hp] at hx; cases hx
    exact ⟨sameX_none s hne hp, hne⟩
  refine ⟨Nat.zero_le _, fun F hF => ⟨Nat.zero_le _, fun R hR => ⟨_, _, rfl, ?_⟩⟩⟩
  have s1 := (same_new (o := .lst []) hF).trans (same_new (o := .lst []) hR)
  have hF1 : upd (upd H F (.lst [])) R (.lst []) F = some (.lst []) := same_new hR _ _ upd_same
  have hR1 : upd (upd H F (.lst [])) R (.lst []) R = some (.lst (nv [])) := upd_same
  have hR0 : H R = none := same_none (same_new (o := .lst []) hF) hR
  have nFR : F ≠ R := ne_of_none upd_same hR
  have nFu : F ≠ u := by rintro rfl; rw [hF] at hxu; cases hxu
  have nRu : R ≠ u := by rintro rfl; rw [hR0] at hxu; cases hxu
  generalize upd (upd H F (.lst [])) R (.lst []) = H1 at s1 hF1 hR1
  refine ⟨_, rfl, u, n, 5, rfl, hur.same s1, by omega, by omega, by omega, fun r H2 hr5 s2 hu2 => ?_⟩
  have sx2 : SameX u H H2 := (sameX_of s1).trans s2
  have em : (1 : Int) + (r : Int) = ((r + 1 : Nat) : Int) := by omega
  refine ⟨_, _, rfl, rfl, ((r + 1 : Nat) : Int), congrArg (fun z => [V.int z]) em, by omega, by omega, ?_⟩
  refine for_it walk_range (fun i σ H' => ∃ (ms : List Nat) (R : Addr) (ys : List V) (x3 x4 : Option V), σ = [some (.ref u), some (.ref F), some (.ref R), x3, x4] ∧ SameX u H H' ∧ UrnAt H' u (n + 1 + i) ∧ ms.length = i ∧ (∀ r ∈ ms, r < 3) ∧
      H' F = some (.lst ys) ∧ Paired (TN H') ys (loneGo ms).1 ∧ H' R = some (.lst (nv (loneGo ms).2)) ∧ H R = none ∧ R ≠ u ∧ F ≠ R)
    ⟨[], R, [], none, none, rfl, sx2, hu2, rfl, by simp, s2 _ _ nFu hF1, .nil, s2 _ _ nRu hR1, hR0, nRu, nFR⟩ (fun i σ H' _ _ => trivial) ?_ ?_
  · clear hR hR1 hR0 nFR nRu
    rintro i y σ _ H3 hi ⟨ms, R, ys, x3, x4, rfl, s3, hu3, hms, hlt, hF3, py, hR3, hR0, nRu, nFR⟩ ⟨rfl, rfl⟩
    have hi : i < r + 1 := by simpa using hi
    obtain ⟨hl1, hl2, hl3, hl4⟩ := lone_inv ms
    have hyl := Paired.length py
    -- many
    refine ⟨_, rfl, R, _, rfl, .inl (SqL.of hR3), ?_⟩
    refine ⟨_, rfl, u, _, 3, rfl, hu3, by omega, by omega, by omega, fun r2 H4 hr3 s4 hu4 => ?_⟩
    refine ⟨_, _, rfl, ?_⟩
    have s04 := s3.trans s4
    have hgo := loneGo_snoc ms r2
    have py4 := pmap py fun _ _ r => monoT_TN _ _ _ _ (hu3.keepT s4) r
    have hR4 := s4 _ _ nRu hR3
    have hF4 := s4 _ _ nFu hF3
    generalize hst : loneGo ms = st at hl1 hl2 hl3 hl4 hyl py py4 hR3 hR4 hgo
    have emany : (if (r2 : Int) < (((nv st.2).length : Nat) : Int) then (r2 : Int) else (((nv st.2).length : Nat) : Int)) = ((min st.2.length r2 : Nat) : Int) := by
      rw [nv_length]
      split <;> omega
    simp only [emany]
    generalize hmany : min st.2.length r2 = many
    have hmle : many ≤ st.2.length := by omega
    refine gName_in ?_
    -- found.append(tuple(sorted(free[..])))
    refine ⟨_, rfl, .inl ⟨rfl, _, SqL.of hF4⟩, _, rfl, ?_⟩
    refine ⟨_, rfl, R, _, rfl, .inl (SqL.of hR4), _, rfl, _, _, rfl, rfl, _, rfl, R, _, rfl, SqL.of hR4, fun p hp => ?_⟩
    rw [cutV_from st.2 (k := st.2.length - many) (by rw [nv_length]; omega) (by omega)]
    have s5 := same_new (o := .lst (nv (st.2.drop (st.2.length - many)))) hp
    refine ⟨p, (st.2.drop (st.2.length - many)).map (fun n => ((n : Nat) : Int)), rfl, SqL.of (by rw [upd_same, nv_int]), fun ns' q hpm hs hq => ?_⟩
    rw [sorted_asc (hl2.sublist (List.drop_sublist _ _)) hpm hs, ← nv_int]
    have s6 := s5.trans (same_new (o := .lst (nv (st.2.drop (st.2.length - many)))) hq)
    refine ⟨q, _, rfl, .inl ⟨SqL.of upd_same, fun t ht => ?_⟩⟩
    have s7 := s6.trans (same_new (o := .tup (nv (st.2.drop (st.2.length - many)))) ht)
    generalize hH7 : upd (upd (upd H4 p (.lst (nv (st.2.drop (st.2.length - many))))) q (.lst (nv (st.2.drop (st.2.length - many))))) t (.tup (nv (st.2.drop (st.2.length - many)))) = H7 at s7
    have ht7 : H7 t = some (.tup (nv (st.2.drop (st.2.length - many)))) := by rw [← hH7, upd_same]
    have hF7 := s7 _ _ hF4
    have hR7 := s7 _ _ hR4
    refine ⟨F, _, _, rfl, rfl, hF7, (by show ys.length < 2 ^ 24; omega), ?_⟩
    have k8 := keepT_lst (o := .lst (ys ++ [.ref t])) hF7
    generalize hH8 : upd H7 F (.lst (ys ++ [.ref t])) = H8 at k8
    have hF8 : H8 F = some (.lst (ys ++ [.ref t])) := by rw [← hH8, upd_same]
    have hR8 : H8 R = some (.lst (nv st.2)) := by rw [← hH8, upd_ne nFR.symm]; exact hR7
    have sx8 : SameX u H H8 := by rw [← hH8]; exact sameX_over (s04.trans (sameX_of s7)) hF
    have hu8 : UrnAt H8 u (n + 1 + i + 1) := by
      obtain ⟨x, y, z, h1, h2⟩ := hu4.same s7
      exact ⟨x, y, z, by rw [← hH8, upd_ne nFu.symm]; exact h1, h2⟩
    -- free
    refine ⟨_, rfl, _, rfl, R, _, rfl, .inl (SqL.of hR8), _, rfl, _, _, rfl, rfl, _, rfl, R, _, rfl, SqL.of hR8, fun p2 hp2 => ?_⟩
    rw [cutV_to st.2 (k := st.2.length - many) (by rw [nv_length]; omega) (by omega)]
    have s9 := same_new (o := .lst (nv (st.2.take (st.2.length - many)))) hp2
    refine ⟨_, rfl, F, _, rfl, .inl (SqL.of (s9 _ _ hF8)), _, _, rfl, rfl, ?_⟩
    refine ⟨(by show 1 ≤ sizeLine; decide), fun q2 hq2 => ?_⟩
    have elen : V.int ((((ys ++ [V.ref t]).length : Nat) : Int) - 1) = V.int ((st.1.length : Nat) : Int) := by
      congr 1
      rw [List.length_append, List.length_singleton, hyl]
      omega
    simp only [elen]
    have s10 := s9.trans (same_new (o := .lst [V.int ((st.1.length : Nat) : Int)]) hq2)
    refine ⟨p2, q2, _, _, rfl, rfl, same_new hq2 _ _ upd_same, upd_same, ?_, fun R2 hR2 => ?_⟩
    · rw [nv_length, List.length_take, List.length_singleton]
      show min (st.2.length - many) st.2.length + 1 ≤ 2 ^ 24
      omega
    have s11 := s10.trans (same_new (o := .lst (nv (st.2.take (st.2.length - many)) ++ [V.int ((st.1.length : Nat) : Int)])) hR2)
    obtain ⟨hR20, nR2u⟩ := fresh (sx8.trans (sameX_of s10)) ((hu8.same s10).le (by omega)) hR2
    refine ⟨ms ++ [r2], R2, ys ++ [.ref t], _, _, rfl, sx8.trans (sameX_of s11), hu8.same s11, by simp [hms], ?_, s11 _ _ hF8, ?_, ?_, hR20, nR2u, ?_⟩
    · intro x hx
      rcases List.mem_append.mp hx with h | h
      · exact hlt x h
      · rw [List.mem_singleton.mp h]; exact hr3
    · rw [hgo]
      unfold loneStep
      rw [hmany]
      refine paired_append (pmap py4 fun _ _ r => monoT_TN _ _ _ _ (((keepT_same s7).trans k8).trans (keepT_same s11)) r) (.cons (TN.mk ?_) .nil)
      exact (k8.trans (keepT_same s11)) _ _ ht7
    · rw [upd_same, hgo]
      unfold loneStep
      rw [hmany, ← nv_append]
      rfl
    · exact ne_of_none (s10 _ _ hF8) hR2
  · clear hR hR1 hR0 nFR nRu
    rintro σ H3 ⟨ms, R, ys, x3, x4, rfl, s3, hu3, hms, hlt, hF3, py, hR3, hR0, nRu, nFR⟩
    have hms : ms.length = r + 1 := by simpa using hms
    have hu3 : UrnAt H3 u (n + 6) := hu3.le (by simp; omega)
    obtain ⟨hl1, hl2, hl3, hl4⟩ := lone_inv ms
    have hyl := Paired.length py
    have kk' := fun v H' => kk v H' ms (by omega) (by omega) hlt
    unfold loneOf at kk'
    generalize hst : loneGo ms = st at hl1 hl2 hl3 hl4 hyl py hR3 kk'
    refine ⟨_, rfl, _, rfl, R, _, rfl, .inl (SqL.of hR3), _, _, rfl, rfl, _, rfl, ?_⟩
    have e : decide ((1 : Int) < (((nv st.2).length : Nat) : Int)) = decide (1 < st.2.length) := by
      rw [nv_length, Bool.eq_iff_iff, decide_eq_true_iff, decide_eq_true_iff]
      omega
    rw [e]
    have hul : ∀ {H' : Hp}, Same H3 H' → UrnAt H' u (n + 6) := fun s => hu3.same s
    refine ite2 (fun hc => ?_) (fun hc => ?_)
    · have hc := of_decide_eq_true hc
      refine ⟨_, rfl, R, _, rfl, .inl ⟨SqL.of hR3, fun t ht => ⟨(by show 1 ≤ sizeLine; decide), fun q hq => ?_⟩⟩⟩
      have s4 := (same_new (o := .tup (nv st.2)) ht).trans (same_new (o := .lst [.ref t]) hq)
      have ht4 := same_new (o := .lst [.ref t]) hq _ _ (show upd H3 t (.tup (nv st.2)) t = _ from upd_same)
      refine ⟨F, q, ys, [.ref t], rfl, rfl, s4 _ _ hF3, upd_same, (by simp; show ys.length + 1 ≤ 2 ^ 24; omega), fun z hz => ?_⟩
      have s5 := s4.trans (same_new (o := .lst (ys ++ [.ref t])) hz)
      have ht5 := same_new (o := .lst (ys ++ [.ref t])) hz _ _ ht4
      refine ⟨z, _, rfl, .inl ⟨SqL.of upd_same, fun o ho => ?_⟩⟩
      have s6 := s5.trans (same_new (o := .tup (ys ++ [.ref t])) ho)
      have ht6 := same_new (o := .tup (ys ++ [.ref t])) ho _ _ ht5
      refine kk' _ _ (s3.trans (sameX_of s6)) (hul s6) ⟨o, _, rfl, upd_same, ?_⟩
      rw [if_pos hc]
      exact paired_append (pmap py fun _ _ r => monoT_TN _ _ _ _ (keepT_same s6) r) (.cons (TN.mk ht6) .nil)
    · refine ⟨Nat.zero_le _, fun q hq => ?_⟩
      have s4 := same_new (o := .lst []) hq
      refine ⟨F, q, ys, [], rfl, rfl, s4 _ _ hF3, upd_same, (by simp; show ys.length ≤ 2 ^ 24; omega), fun z hz => ?_⟩
      rw [List.append_nil]
      have s5 := s4.trans (same_new (o := .lst ys) hz)
      refine ⟨z, _, rfl, .inl ⟨SqL.of upd_same, fun o ho => ?_⟩⟩
      have s6 := s5.trans (same_new (o := .tup ys) ho)
      refine kk' _ _ (s3.trans (sameX_of s6)) (hul s6) ⟨o, _, rfl, upd_same, ?_⟩
      rw [if_neg (fun h => hc (decide_eq_true h)), List.append_nil]
      exact pmap py fun _ _ r => monoT_TN _ _ _ _ (keepT_same s6) r
end
end K27
set_option Elab.async false
set_option linter.all false
set_option maxRecDepth 100000
set_option maxHeartbeats 8000000
namespace K27
open PySem PySem.Spec PyProof.Rows L2
theorem q_cut {t : TT} {σ : L2.St} {H : Hp} {Q : Bool → Hp → Prop} (I : Hp → Prop) (rest : ∀ H', I H' → Q false H') (k : (∀ H', I H' → Q false H') → t σ H Q) : t σ H Q := k rest
def GS : Nat → Nat
  | 0 => 20
  | d + 1 => 22 + 2 * GS d
theorem rIx_lastL {K : PySem.W.Frag} {H : Hp} {a : Addr} {vs : List V} (h : H a = some (.lst vs)) {v : V} {Q : VK} (hv : vs[vs.length - 1]? = some v) (q : Q v H) : rIx K (.ref a) (.int (-1)) H Q :=
  .inl ⟨a, vs, _, v, rfl, rfl, SqL.of h, atI_neg1 hv, q⟩
theorem wayOk_snoc {S : List (List Nat)} {ws : List Nat} {x : Nat} (h : WayOk S ws) (hx : x ∈ parts S (lastK ws)) (hl : x < S.length) : WayOk S (ws ++ [x]) where
  ne := by simp
  lt := fun y hy => by
    rcases List.mem_append.mp hy with h' | h'
    · exact h.lt y h'
    · rw [List.mem_singleton.mp h']; exact hl
  down := fun i a b ha hb => by
    have hi : i + 1 < (ws ++ [x]).length := (List.getElem?_eq_some_iff.mp hb).1
    simp at hi
    rw [List.getElem?_append_left hi] at ha
    by_cases hlt : i + 1 < ws.length
    · rw [List.getElem?_append_left hlt] at hb
      exact h.down i a b ha hb
    · have e : i + 1 = ws.length := by omega
      rw [List.getElem?_append_right (by omega), e] at hb
      simp at hb
      subst hb
      have hla : lastK ws = a := by
        unfold lastK
        rw [List.getLastD_eq_getLast?, List.getLast?_eq_getElem?, show ws.length - 1 = i by omega, ha]
        rfl
      rw [← hla]
      exact hx
theorem lastK_snoc (ws : List Nat) (x : Nat) : lastK (ws ++ [x]) = x := by
  unfold lastK
  rw [List.getLastD_eq_getLast?, List.getLast?_append]
  rfl
def sp_sprout (d : Nat) : Sp := fun vs H Q _ => ∃ (u : Addr) (v : V) (S : List (List Nat)) (k n : Nat), vs = [.ref u, v, .int (k : Nat), .int (d : Nat)] ∧ TS' H v S ∧ ShOk S ∧ k < S.length ∧ UrnAt H u n ∧ n + GS d ≤ 100000 ∧
  ∀ v' H' t, SameX u H H' → UrnAt H' u (n + GS d) → RT H' v' t → TOk S t → t.hgt ≤ d → t.root = k → Q v' H'
def sp_spr (D : Nat) : Sp := fun vs H Q E => ∃ d, d ≤ D ∧ sp_sprout d vs H Q E
section
variable {P : Program} {w : World} {K : PySem.W.Frag} {mg : Str → Option Value} {base : Heap}
/-- slots: 0=_law_urn 1=_law_shape_here 2=_law_knot 3=_law_depth 4=_law_way 5=_law_own 6=_law_k 7=_law_far; cells:  -/
theorem sc_law_sprout : FnScope ["_law_urn", "_law_shape_here", "_law_knot", "_law_depth", "_law_way", "_law_own", "_law_k", "_law_far"] ["_law_urn", "_law_shape_here", "_law_knot", "_law_depth"] (defScope st_law_sprout) := ⟨rfl, rfl, rfl, by decide +kernel, rfl, by decide +kernel, by decide +kernel⟩
theorem got_law_sprout0 (T : Txt K mg) : Got P w K mg base 2 "_law_sprout" ["_law_urn", "_law_shape_here", "_law_knot", "_law_depth"] (sp_sprout 0) := by
  refine got_of T.d_law_sprout sc_law_sprout (fun F => (FunD.bindsN F fun _ _ _ _ _ _ us hl => match us, hl with | [_, _, _, _], _ => rfl)) (fun vs H Q E h => ?_) (fun f cdv A outer s H vs Q E hr h => ?_)
  · obtain ⟨u, v, S, k, n, rfl, _⟩ := h; rfl
  obtain ⟨u, v, S, kn, n, rfl, hv, ok, hkS, hur, hn, kk⟩ := h
  obtain ⟨_, _, m_law_take, G_law_take, k_law_take, b_law_take⟩ := (got_law_take (P := P) (w := w) (base := base) T).ex
  refine ⟨_, (pss_cons (ps_set (i := 4) sc_law_sprout.nd rfl (Or.inl rfl) (pe_lst (pa_cons (pv 2) pa_nil)))
      (pss_cons (ps_while PassesOwn.never (PW.pt (pw_and (pt_cmpR (r := rNeD K) (op_neD hr.units) (pe_ix (r := rIx K) ix_seq (pv 1) (pe_ix (r := rIx K) ix_seq (pv 4) (pe_un un_neg pe_int) (fun _ _ => rfl)) (fun _ _ => rfl)) (pe_tup pa_nil) (nomark _)) (pw_and1 (pt_cmpR op_eq (pe_call G_law_take (hr.mono (by first | decide | omega)) rfl m_law_take k_law_take b_law_take .nil pass0 (pa_cons (pv 0) (pa_cons pe_int pa_nil))) pe_int (nomark _))))) (pss_one (ps_expr (pe_bm PySem.F.plainAttrs_list PySem.F.slot_list_append PySem.F.type_list_append mt_append (pv 4) (pa_cons (pe_ix (r := rIx K) ix_seq (pe_ix (r := rIx K) ix_seq (pv 1) (pe_ix (r := rIx K) ix_seq (pv 4) (pe_un un_neg pe_int) (fun _ _ => rfl)) (fun _ _ => rfl)) (pe_call G_law_take (hr.mono (by first | decide | omega)) rfl m_law_take k_law_take b_law_take .nil pass0 (pa_cons (pv 0) (pa_cons (pe_callB (r := rLenS K) call_len_seq (by rfl) T.z_len (by decide +kernel) (pa_cons (pe_ix (r := rIx K) ix_seq (pv 1) (pe_ix (r := rIx K) ix_seq (pv 4) (pe_un un_neg pe_int) (fun _ _ => rfl)) (fun _ _ => rfl)) pa_nil)) pa_nil))) (fun _ _ => rfl)) pa_nil)))))
      (pss_cons (ps_set (i := 5) sc_law_sprout.nd rfl (Or.inl rfl) (pe_ix (r := rIx K) ix_seq (pv 1) (pe_ix (r := rIx K) ix_seq (pv 4) (pe_un un_neg pe_int) (fun _ _ => rfl)) (fun _ _ => rfl)))
      (pss_cons (ps_if (PW.pt (pw_or (pt_cmpR op_eq (pv 3) pe_int (nomark _)) (pw_or1 (pt_cmpR (r := rEqD K) (op_eqD hr.units) (pv 5) (pe_tup pa_nil) (nomark _))))) (pss_one (ps_ret (pe_tup (pa_cons (pe_callTy (r := rTupOf K) call_tuple_of (by rfl) T.z_tuple (by decide +kernel) (pa_cons (pv 4) pa_nil)) (pa_cons (pe_tup pa_nil) pa_nil))))) pss_nil)
      pss_never)))), ?_⟩
  obtain ⟨a, vs0, rfl, ha, pr⟩ := id hv
  have ha : H a = some (.tup vs0) := ha
  have few := ok.few
  obtain ⟨xsu, hxu⟩ := hur.lst
  have nau : a ≠ u := by rintro rfl; rw [ha] at hxu; cases hxu
  have hGS : 20 ≤ GS (0) := by unfold GS; omega
  refine ⟨_, rfl, (by show 1 ≤ sizeLine; decide), fun W hW => ?_⟩
  have s1 := same_new (o := .lst [.int (kn : Nat)]) hW
  have nWu : W ≠ u := by rintro rfl; rw [hW] at hxu; cases hxu
  -- the parts of a knot
  have own : ∀ x, x < S.length → ∃ bl, vs0[x]? = some (.ref bl) ∧ H bl = some (.tup (nv (parts S x))) ∧ bl ≠ u := fun x hx => by
    obtain ⟨bl, hbl, hbl2⟩ := SS.get (l := false) pr hx
    have hbl2 : H bl = some (.tup (nv (parts S x))) := hbl2
    exact ⟨bl, hbl, hbl2, by rintro rfl; rw [hbl2] at hxu; cases hxu⟩
  refine ⟨fun m σ H' => ∃ (ws : List Nat), σ = [some (.ref u), some (.ref a), some (.int (kn : Nat)), some (.int ((0 : Nat) : Nat)), some (.ref W), none, none, none] ∧ SameX u H H' ∧ UrnAt H' u (n + 2 * (ws.length - 1)) ∧
      H' W = some (.lst (nv ws)) ∧ WayOk S ws ∧ ws.head? = some kn ∧ m = lastK ws ∧ 1 ≤ ws.length ∧ ws.length + lastK ws ≤ S.length,
    ⟨kn, [kn], rfl, sameX_of s1, hur.same s1, upd_same, ⟨by simp, by simpa using hkS, fun i x y _ hy => by simp at hy⟩, rfl, rfl, Nat.le_refl _, by show 1 + kn ≤ S.length; omega⟩, ?_⟩
  rintro m σ H2 ⟨ws, rfl, s2, hu2, hW2, wok, hhd, rfl, hwl, hwl2⟩
  have hlast := lastK_lt wok
  obtain ⟨bl, hbl, hbl2, nbu⟩ := own _ hlast
  have hpn := nodup_le (ok.nd hlast) fun x hx => ok.lt hlast hx
  refine q_cut (fun H' => SameX u H H' ∧ UrnAt H' u (n + 2 * (ws.length - 1) + 1) ∧ H' W = some (.lst (nv ws))) ?_ ?_
  · rintro H3 ⟨s3, hu3, hW3⟩
    refine iteF ?_
    refine ⟨_, rfl, _, rfl, _, rfl, rIx_lastL hW3 (lastK_get wok.ne) ?_⟩
    refine rIx_t (s3 _ _ nau ha) rfl hbl ?_
    refine ⟨_, rfl, rfl, _, rfl, ?_⟩
    refine iteT ?_
    refine ⟨_, rfl, W, _, rfl, .inl ⟨SqL.of hW3, fun tw htw => ?_⟩⟩
    have sl1 := same_new (o := .tup (nv ws)) htw
    refine ⟨Nat.zero_le _, fun te hte => ?_⟩
    have sl2 := sl1.trans (same_new (o := .tup []) hte)
    have htw2 := same_new (o := .tup []) hte _ _ (show upd _ tw (.tup (nv ws)) tw = _ from upd_same)
    refine ⟨(by show 2 ≤ sizeLine; decide), fun to hto => ?_⟩
    have sl3 := sl2.trans (same_new (o := .tup [.ref tw, .ref te]) hto)
    have htw3 := same_new (o := .tup [.ref tw, .ref te]) hto _ _ htw2
    have hte3 := same_new (o := .tup [.ref tw, .ref te]) hto _ _ (show upd _ te (.tup []) te = _ from upd_same)
    refine kk _ _ (.lf ws) (s3.trans (sameX_of sl3)) ((hu3.same sl3).le (by omega)) ⟨to, _, te, rfl, upd_same, TN.mk htw3, hte3⟩ ⟨wok, by omega⟩ (by simp [Tr.hgt]) ?_
    show ws.headD 0 = kn
    rw [List.headD_eq_head?_getD, hhd]
    rfl
  · intro rest
    refine ⟨_, rfl, _, rfl, _, rfl, rIx_lastL hW2 (lastK_get wok.ne) ?_⟩
    refine rIx_t (s2 _ _ nau ha) rfl hbl ?_
    refine ⟨Nat.zero_le _, fun e1 he1 => ?_⟩
    have s3 := same_new (o := .tup []) he1
    refine rNe_nilT (s3 _ _ (s2 _ _ nbu hbl2)) upd_same ⟨_, rfl, ?_⟩
    have s23 := s2.trans (sameX_of s3)
    refine ite2 (fun hc => ?_) (fun hc => ?_)
    · have hne := of_decide_eq_true hc
      refine ⟨_, rfl, u, _, 3, rfl, hu2.same s3, by omega, by omega, by omega, fun r H4 hr3 s4 hu4 => ?_⟩
      have s24 := s23.trans s4
      have hW4 := s4 _ _ nWu (s3 _ _ hW2)
      refine ⟨rfl, _, rfl, ?_⟩
      cases hd : decide (V.int ((r : Nat) : Int) = V.int 0) with
      | false => exact rest _ ⟨s24, hu4, hW4⟩
      | true =>
        refine iteT ?_
        refine ⟨_, fun _ _ h => h, ?_⟩
        refine ⟨_, rfl, .inl ⟨rfl, _, SqL.of hW4⟩, _, rfl, _, rfl, _, rfl, rIx_lastL hW4 (lastK_get wok.ne) ?_⟩
        refine rIx_t (s24 _ _ nau ha) rfl hbl ?_
        refine ⟨_, rfl, _, rfl, _, rfl, _, rfl, rIx_lastL hW4 (lastK_get wok.ne) ?_⟩
        refine rIx_t (s24 _ _ nau ha) rfl hbl ?_
        refine ⟨bl, _, rfl, .inr (SqT.of (s24 _ _ nbu hbl2)), ?_⟩
        rw [nv_length]
        have hplen : 0 < (parts S (lastK ws)).length := List.length_pos_iff.mpr hne
        refine ⟨u, _, (parts S (lastK ws)).length, rfl, hu4, by omega, by omega, by omega, fun r5 H5 hr5 s5 hu5 => ?_⟩
        have s25 := s24.trans s5
        have hW5 := s5 _ _ nWu hW4
        have hx : (parts S (lastK ws))[r5]? = some (parts S (lastK ws))[r5] := List.getElem?_eq_getElem hr5
        have hxm : (parts S (lastK ws))[r5] ∈ parts S (lastK ws) := List.getElem_mem _
        generalize (parts S (lastK ws))[r5] = x at hx hxm
        have hxS := ok.lt hlast hxm
        have hxl := ok.low _ x hlast hxm
        refine rIx_t (s25 _ _ nbu hbl2) rfl (nv_get hx) ?_
        refine ⟨W, _, _, rfl, rfl, hW5, (by rw [nv_length]; show ws.length < 2 ^ 24; omega), ?_⟩
        refine ⟨x, hxl, ws ++ [x], rfl, sameX_over s25 hW, ?_, ?_, wayOk_snoc wok hxm hxS, ?_, (lastK_snoc _ _).symm, by simp, ?_⟩
        · obtain ⟨x, y, z, h1, h2⟩ := hu5.le (show n + 2 * (ws.length - 1) + 1 + 1 ≤ n + 2 * ((ws ++ [x]).length - 1) by simp; omega)
          exact ⟨x, y, z, by rw [upd_ne nWu.symm]; exact h1, h2⟩
        · rw [upd_same, ← nv_append]; rfl
        · rw [List.head?_append, hhd]; rfl
        · rw [lastK_snoc, List.length_append, List.length_singleton]; omega
    · exact rest _ ⟨s23, (hu2.same s3).le (by omega), s3 _ _ hW2⟩
theorem got_law_sprout1 {D k : Nat} (T : Txt K mg) (hk : 1 ≤ k) (G : Got P w K mg base k "_law_sprout" ["_law_urn", "_law_shape_here", "_law_knot", "_law_depth"] (sp_spr D)) : Got P w K mg base (k + 1) "_law_sprout" ["_law_urn", "_law_shape_here", "_law_knot", "_law_depth"] (sp_spr (D + 1)) := by
  refine got_of T.d_law_sprout sc_law_sprout (fun F => (FunD.bindsN F fun _ _ _ _ _ _ us hl => match us, hl with | [_, _, _, _], _ => rfl)) (fun vs H Q E h => ?_) (fun f cdv A outer s H vs Q E hr h => ?_)
  · obtain ⟨d', _, u, v, S, k, n, rfl, _⟩ := h; rfl
  obtain ⟨d', hd', u, v, S, kn, n, rfl, hv, ok, hkS, hur, hn, kk⟩ := h
  obtain ⟨_, _, m_law_take, G_law_take, k_law_take, b_law_take⟩ := (got_law_take (P := P) (w := w) (base := base) T).ex
  obtain ⟨_, _, m_law_sprout, G_law_sprout, k_law_sprout, b_law_sprout⟩ := G.ex
  refine ⟨_, (pss_cons (ps_set (i := 4) sc_law_sprout.nd rfl (Or.inl rfl) (pe_lst (pa_cons (pv 2) pa_nil)))
      (pss_cons (ps_while PassesOwn.never (PW.pt (pw_and (pt_cmpR (r := rNeD K) (op_neD hr.units) (pe_ix (r := rIx K) ix_seq (pv 1) (pe_ix (r := rIx K) ix_seq (pv 4) (pe_un un_neg pe_int) (fun _ _ => rfl)) (fun _ _ => rfl)) (pe_tup pa_nil) (nomark _)) (pw_and1 (pt_cmpR op_eq (pe_call G_law_take (hr.mono (by first | decide | omega)) rfl m_law_take k_law_take b_law_take .nil pass0 (pa_cons (pv 0) (pa_cons pe_int pa_nil))) pe_int (nomark _))))) (pss_one (ps_expr (pe_bm PySem.F.plainAttrs_list PySem.F.slot_list_append PySem.F.type_list_append mt_append (pv 4) (pa_cons (pe_ix (r := rIx K) ix_seq (pe_ix (r := rIx K) ix_seq (pv 1) (pe_ix (r := rIx K) ix_seq (pv 4) (pe_un un_neg pe_int) (fun _ _ => rfl)) (fun _ _ => rfl)) (pe_call G_law_take (hr.mono (by first | decide | omega)) rfl m_law_take k_law_take b_law_take .nil pass0 (pa_cons (pv 0) (pa_cons (pe_callB (r := rLenS K) call_len_seq (by rfl) T.z_len (by decide +kernel) (pa_cons (pe_ix (r := rIx K) ix_seq (pv 1) (pe_ix (r := rIx K) ix_seq (pv 4) (pe_un un_neg pe_int) (fun _ _ => rfl)) (fun _ _ => rfl)) pa_nil)) pa_nil))) (fun _ _ => rfl)) pa_nil)))))
      (pss_cons (ps_set (i := 5) sc_law_sprout.nd rfl (Or.inl rfl) (pe_ix (r := rIx K) ix_seq (pv 1) (pe_ix (r := rIx K) ix_seq (pv 4) (pe_un un_neg pe_int) (fun _ _ => rfl)) (fun _ _ => rfl)))
      (pss_cons (ps_if (PW.pt (pw_or (pt_cmpR op_eq (pv 3) pe_int (nomark _)) (pw_or1 (pt_cmpR (r := rEqD K) (op_eqD hr.units) (pv 5) (pe_tup pa_nil) (nomark _))))) (pss_one (ps_ret (pe_tup (pa_cons (pe_callTy (r := rTupOf K) call_tuple_of (by rfl) T.z_tuple (by decide +kernel) (pa_cons (pv 4) pa_nil)) (pa_cons (pe_tup pa_nil) pa_nil))))) pss_nil)
      (pss_cons (ps_set (i := 6) sc_law_sprout.nd rfl (Or.inl rfl) (pe_call G_law_take (hr.mono (by first | decide | omega)) rfl m_law_take k_law_take b_law_take .nil pass0 (pa_cons (pv 0) (pa_cons (pe_callB (r := rLenS K) call_len_seq (by rfl) T.z_len (by decide +kernel) (pa_cons (pv 5) pa_nil)) pa_nil))))
      (pss_cons (ps_set (i := 7) sc_law_sprout.nd rfl (Or.inl rfl) (pe_ix (r := rIx K) ix_seq (pv 5) (pe_op op_mod (pe_op op_add (pv 6) pe_int) (pe_callB (r := rLenS K) call_len_seq (by rfl) T.z_len (by decide +kernel) (pa_cons (pv 5) pa_nil))) (fun _ _ => rfl)))
      (pss_one (ps_ret (pe_tup (pa_cons (pe_callTy (r := rTupOf K) call_tuple_of (by rfl) T.z_tuple (by decide +kernel) (pa_cons (pv 4) pa_nil)) (pa_cons (pe_tup (pa_cons (pe_call G_law_sprout (hr.mono (by first | decide | omega)) rfl m_law_sprout k_law_sprout b_law_sprout .nil pass0 (pa_cons (pv 0) (pa_cons (pv 1) (pa_cons (pe_ix (r := rIx K) ix_seq (pv 5) (pv 6) (fun _ _ => rfl)) (pa_cons (pe_op op_sub (pv 3) pe_int) pa_nil))))) (pa_cons (pe_call G_law_sprout (hr.mono (by first | decide | omega)) rfl m_law_sprout k_law_sprout b_law_sprout .nil pass0 (pa_cons (pv 0) (pa_cons (pv 1) (pa_cons (pv 7) (pa_cons (pe_op op_sub (pv 3) pe_int) pa_nil))))) pa_nil))) pa_nil))))))))))), ?_⟩
  cases d' with
  | zero =>
    obtain ⟨a, vs0, rfl, ha, pr⟩ := id hv
    have ha : H a = some (.tup vs0) := ha
    have few := ok.few
    obtain ⟨xsu, hxu⟩ := hur.lst
    have nau : a ≠ u := by rintro rfl; rw [ha] at hxu; cases hxu
    have hGS : 20 ≤ GS (0) := by unfold GS; omega
    refine ⟨_, rfl, (by show 1 ≤ sizeLine; decide), fun W hW => ?_⟩
    have s1 := same_new (o := .lst [.int (kn : Nat)]) hW
    have nWu : W ≠ u := by rintro rfl; rw [hW] at hxu; cases hxu
    -- the parts of a knot
    have own : ∀ x, x < S.length → ∃ bl, vs0[x]? = some (.ref bl) ∧ H bl = some (.tup (nv (parts S x))) ∧ bl ≠ u := fun x hx => by
      obtain ⟨bl, hbl, hbl2⟩ := SS.get (l := false) pr hx
      have hbl2 : H bl = some (.tup (nv (parts S x))) := hbl2
      exact ⟨bl, hbl, hbl2, by rintro rfl; rw [hbl2] at hxu; cases hxu⟩
    refine ⟨fun m σ H' => ∃ (ws : List Nat), σ = [some (.ref u), some (.ref a), some (.int (kn : Nat)), some (.int ((0 : Nat) : Nat)), some (.ref W), none, none, none] ∧ SameX u H H' ∧ UrnAt H' u (n + 2 * (ws.length - 1)) ∧
        H' W = some (.lst (nv ws)) ∧ WayOk S ws ∧ ws.head? = some kn ∧ m = lastK ws ∧ 1 ≤ ws.length ∧ ws.length + lastK ws ≤ S.length,
      ⟨kn, [kn], rfl, sameX_of s1, hur.same s1, upd_same, ⟨by simp, by simpa using hkS, fun i x y _ hy => by simp at hy⟩, rfl, rfl, Nat.le_refl _, by show 1 + kn ≤ S.length; omega⟩, ?_⟩
    rintro m σ H2 ⟨ws, rfl, s2, hu2, hW2, wok, hhd, rfl, hwl, hwl2⟩
    have hlast := lastK_lt wok
    obtain ⟨bl, hbl, hbl2, nbu⟩ := own _ hlast
    have hpn := nodup_le (ok.nd hlast) fun x hx => ok.lt hlast hx
    refine q_cut (fun H' => SameX u H H' ∧ UrnAt H' u (n + 2 * (ws.length - 1) + 1) ∧ H' W = some (.lst (nv ws))) ?_ ?_
    · rintro H3 ⟨s3, hu3, hW3⟩
      refine iteF ?_
      refine ⟨_, rfl, _, rfl, _, rfl, rIx_lastL hW3 (lastK_get wok.ne) ?_⟩
      refine rIx_t (s3 _ _ nau ha) rfl hbl ?_
      refine ⟨_, rfl, rfl, _, rfl, ?_⟩
      refine iteT ?_
      refine ⟨_, rfl, W, _, rfl, .inl ⟨SqL.of hW3, fun tw htw => ?_⟩⟩
      have sl1 := same_new (o := .tup (nv ws)) htw
      refine ⟨Nat.zero_le _, fun te hte => ?_⟩
      have sl2 := sl1.trans (same_new (o := .tup []) hte)
      have htw2 := same_new (o := .tup []) hte _ _ (show upd _ tw (.tup (nv ws)) tw = _ from upd_same)
      refine ⟨(by show 2 ≤ sizeLine; decide), fun to hto => ?_⟩
      have sl3 := sl2.trans (same_new (o := .tup [.ref tw, .ref te]) hto)
      have htw3 := same_new (o := .tup [.ref tw, .ref te]) hto _ _ htw2
      have hte3 := same_new (o := .tup [.ref tw, .ref te]) hto _ _ (show upd _ te (.tup []) te = _ from upd_same)
      refine kk _ _ (.lf ws) (s3.trans (sameX_of sl3)) ((hu3.same sl3).le (by omega)) ⟨to, _, te, rfl, upd_same, TN.mk htw3, hte3⟩ ⟨wok, by omega⟩ (by simp [Tr.hgt]) ?_
      show ws.headD 0 = kn
      rw [List.headD_eq_head?_getD, hhd]
      rfl
    · intro rest
      refine ⟨_, rfl, _, rfl, _, rfl, rIx_lastL hW2 (lastK_get wok.ne) ?_⟩
      refine rIx_t (s2 _ _ nau ha) rfl hbl ?_
      refine ⟨Nat.zero_le _, fun e1 he1 => ?_⟩
      have s3 := same_new (o := .tup []) he1
      refine rNe_nilT (s3 _ _ (s2 _ _ nbu hbl2)) upd_same ⟨_, rfl, ?_⟩
      have s23 := s2.trans (sameX_of s3)
      refine ite2 (fun hc => ?_) (fun hc => ?_)
      · have hne := of_decide_eq_true hc
        refine ⟨_, rfl, u, _, 3, rfl, hu2.same s3, by omega, by omega, by omega, fun r H4 hr3 s4 hu4 => ?_⟩
        have s24 := s23.trans s4
        have hW4 := s4 _ _ nWu (s3 _ _ hW2)
        refine ⟨rfl, _, rfl, ?_⟩
        cases hd : decide (V.int ((r : Nat) : Int) = V.int 0) with
        | false => exact rest _ ⟨s24, hu4, hW4⟩
        | true =>
          refine iteT ?_
          refine ⟨_, fun _ _ h => h, ?_⟩
          refine ⟨_, rfl, .inl ⟨rfl, _, SqL.of hW4⟩, _, rfl, _, rfl, _, rfl, rIx_lastL hW4 (lastK_get wok.ne) ?_⟩
          refine rIx_t (s24 _ _ nau ha) rfl hbl ?_
          refine ⟨_, rfl, _, rfl, _, rfl, _, rfl, rIx_lastL hW4 (lastK_get wok.ne) ?_⟩
          refine rIx_t (s24 _ _ nau ha) rfl hbl ?_
          refine ⟨bl, _, rfl, .inr (SqT.of (s24 _ _ nbu hbl2)), ?_⟩
          rw [nv_length]
          have hplen : 0 < (parts S (lastK ws)).length := List.length_pos_iff.mpr hne
          refine ⟨u, _, (parts S (lastK ws)).length, rfl, hu4, by omega, by omega, by omega, fun r5 H5 hr5 s5 hu5 => ?_⟩
          have s25 := s24.trans s5
          have hW5 := s5 _ _ nWu hW4
          have hx : (parts S (lastK ws))[r5]? = some (parts S (lastK ws))[r5] := List.getElem?_eq_getElem hr5
          have hxm : (parts S (lastK ws))[r5] ∈ parts S (lastK ws) := List.getElem_mem _
          generalize (parts S (lastK ws))[r5] = x at hx hxm
          have hxS := ok.lt hlast hxm
          have hxl := ok.low _ x hlast hxm
          refine rIx_t (s25 _ _ nbu hbl2) rfl (nv_get hx) ?_
          refine ⟨W, _, _, rfl, rfl, hW5, (by rw [nv_length]; show ws.length < 2 ^ 24; omega), ?_⟩
          refine ⟨x, hxl, ws ++ [x], rfl, sameX_over s25 hW, ?_, ?_, wayOk_snoc wok hxm hxS, ?_, (lastK_snoc _ _).symm, by simp, ?_⟩
          · obtain ⟨x, y, z, h1, h2⟩ := hu5.le (show n + 2 * (ws.length - 1) + 1 + 1 ≤ n + 2 * ((ws ++ [x]).length - 1) by simp; omega)
            exact ⟨x, y, z, by rw [upd_ne nWu.symm]; exact h1, h2⟩
          · rw [upd_same, ← nv_append]; rfl
          · rw [List.head?_append, hhd]; rfl
          · rw [lastK_snoc, List.length_append, List.length_singleton]; omega
      · exact rest _ ⟨s23, (hu2.same s3).le (by omega), s3 _ _ hW2⟩
  | succ d =>
    obtain ⟨a, vs0, rfl, ha, pr⟩ := id hv
    have ha : H a = some (.tup vs0) := ha
    have few := ok.few
    obtain ⟨xsu, hxu⟩ := hur.lst
    have nau : a ≠ u := by rintro rfl; rw [ha] at hxu; cases hxu
    have hGS : 20 ≤ GS (d + 1) := by unfold GS; omega
    refine ⟨_, rfl, (by show 1 ≤ sizeLine; decide), fun W hW => ?_⟩
    have s1 := same_new (o := .lst [.int (kn : Nat)]) hW
    have nWu : W ≠ u := by rintro rfl; rw [hW] at hxu; cases hxu
    -- the parts of a knot
    have own : ∀ x, x < S.length → ∃ bl, vs0[x]? = some (.ref bl) ∧ H bl = some (.tup (nv (parts S x))) ∧ bl ≠ u := fun x hx => by
      obtain ⟨bl, hbl, hbl2⟩ := SS.get (l := false) pr hx
      have hbl2 : H bl = some (.tup (nv (parts S x))) := hbl2
      exact ⟨bl, hbl, hbl2, by rintro rfl; rw [hbl2] at hxu; cases hxu⟩
    refine ⟨fun m σ H' => ∃ (ws : List Nat), σ = [some (.ref u), some (.ref a), some (.int (kn : Nat)), some (.int ((d + 1 : Nat) : Nat)), some (.ref W), none, none, none] ∧ SameX u H H' ∧ UrnAt H' u (n + 2 * (ws.length - 1)) ∧
        H' W = some (.lst (nv ws)) ∧ WayOk S ws ∧ ws.head? = some kn ∧ m = lastK ws ∧ 1 ≤ ws.length ∧ ws.length + lastK ws ≤ S.length,
      ⟨kn, [kn], rfl, sameX_of s1, hur.same s1, upd_same, ⟨by simp, by simpa using hkS, fun i x y _ hy => by simp at hy⟩, rfl, rfl, Nat.le_refl _, by show 1 + kn ≤ S.length; omega⟩, ?_⟩
    rintro m σ H2 ⟨ws, rfl, s2, hu2, hW2, wok, hhd, rfl, hwl, hwl2⟩
    have hlast := lastK_lt wok
    obtain ⟨bl, hbl, hbl2, nbu⟩ := own _ hlast
    have hpn := nodup_le (ok.nd hlast) fun x hx => ok.lt hlast hx
    refine q_cut (fun H' => SameX u H H' ∧ UrnAt H' u (n + 2 * (ws.length - 1) + 1) ∧ H' W = some (.lst (nv ws))) ?_ ?_
    · rintro H3 ⟨s3, hu3, hW3⟩
      refine iteF ?_
      refine ⟨_, rfl, _, rfl, _, rfl, rIx_lastL hW3 (lastK_get wok.ne) ?_⟩
      refine rIx_t (s3 _ _ nau ha) rfl hbl ?_
      refine ⟨_, rfl, rfl, _, rfl, ?_⟩
      have hdne : decide (V.int (((d + 1 : Nat) : Nat) : Int) = V.int 0) = false := by
        rw [dec_int, beq_eq_false_iff_ne]
        omega
      rw [hdne]
      refine iteF ?_
      refine ⟨_, rfl, Nat.zero_le _, fun e1 he1 => ?_⟩
      have s4 := same_new (o := .tup []) he1
      refine rEq_nilT (s4 _ _ (s3 _ _ nbu hbl2)) upd_same ⟨_, rfl, ?_⟩
      have s34 := s3.trans (sameX_of s4)
      have hW4 := s4 _ _ hW3
      have hu4 := hu3.same s4
      generalize upd H3 e1 (.tup []) = H4 at s4 s34 hW4 hu4
      refine ite2 (fun hc => ?_) (fun hc => ?_)
      · have hc := of_decide_eq_true hc
        refine ⟨_, rfl, W, _, rfl, .inl ⟨SqL.of hW4, fun tw htw => ?_⟩⟩
        have sl1 := same_new (o := .tup (nv ws)) htw
        refine ⟨Nat.zero_le _, fun te hte => ?_⟩
        have sl2 := sl1.trans (same_new (o := .tup []) hte)
        have htw2 := same_new (o := .tup []) hte _ _ (show upd _ tw (.tup (nv ws)) tw = _ from upd_same)
        refine ⟨(by show 2 ≤ sizeLine; decide), fun to hto => ?_⟩
        have sl3 := sl2.trans (same_new (o := .tup [.ref tw, .ref te]) hto)
        have htw3 := same_new (o := .tup [.ref tw, .ref te]) hto _ _ htw2
        have hte3 := same_new (o := .tup [.ref tw, .ref te]) hto _ _ (show upd _ te (.tup []) te = _ from upd_same)
        refine kk _ _ (.lf ws) (s34.trans (sameX_of sl3)) ((hu4.same sl3).le (by omega)) ⟨to, _, te, rfl, upd_same, TN.mk htw3, hte3⟩ ⟨wok, by omega⟩ (by simp [Tr.hgt]) ?_
        show ws.headD 0 = kn
        rw [List.headD_eq_head?_getD, hhd]
        rfl
      have hne : parts S (lastK ws) ≠ [] := fun h => hc (decide_eq_true h)
      have hplen : 0 < (parts S (lastK ws)).length := List.length_pos_iff.mpr hne
      -- k
      refine ⟨_, rfl, _, rfl, bl, _, rfl, .inr (SqT.of (s34 _ _ nbu hbl2)), ?_⟩
      rw [nv_length]
      refine ⟨u, _, (parts S (lastK ws)).length, rfl, hu4, by omega, by omega, by omega, fun r5 H5 hr5 s5 hu5 => ?_⟩
      have s25 := s34.trans s5
      have hW5 := s5 _ _ nWu hW4
      have hb5 := s25 _ _ nbu hbl2
      -- far
      refine ⟨_, rfl, _, rfl, _, _, rfl, rfl, _, rfl, bl, _, rfl, .inr (SqT.of hb5), ?_⟩
      rw [nv_length]
      refine ⟨_, _, rfl, rfl, (by show (0 : Int) < (((parts S (lastK ws)).length : Nat) : Int); omega), ?_⟩
      have hfl : (r5 + 1) % (parts S (lastK ws)).length < (parts S (lastK ws)).length := Nat.mod_lt _ hplen
      have hx : (parts S (lastK ws))[r5]? = some (parts S (lastK ws))[r5] := List.getElem?_eq_getElem hr5
      have hxm : (parts S (lastK ws))[r5] ∈ parts S (lastK ws) := List.getElem_mem _
      have hy : (parts S (lastK ws))[(r5 + 1) % (parts S (lastK ws)).length]? = some (parts S (lastK ws))[(r5 + 1) % (parts S (lastK ws)).length] := List.getElem?_eq_getElem hfl
      have hym : (parts S (lastK ws))[(r5 + 1) % (parts S (lastK ws)).length] ∈ parts S (lastK ws) := List.getElem_mem _
      generalize (parts S (lastK ws))[r5] = x at hx hxm
      generalize (parts S (lastK ws))[(r5 + 1) % (parts S (lastK ws)).length] = y at hy hym
      refine rIx_t hb5 (j := (r5 + 1) % (parts S (lastK ws)).length) (by push_cast; rfl) (nv_get hy) ?_
      have hxS := ok.lt hlast hxm
      have hyS := ok.lt hlast hym
      -- the tree
      refine ⟨_, rfl, W, _, rfl, .inl ⟨SqL.of hW5, fun tw htw => ?_⟩⟩
      have s6 := same_new (o := .tup (nv ws)) htw
      have htw6 : upd H5 tw (.tup (nv ws)) tw = some (.tup (nv ws)) := upd_same
      have hu6 := hu5.same s6
      have s26 := s25.trans (sameX_of s6)
      generalize upd H5 tw (.tup (nv ws)) = H6 at s6 htw6 hu6 s26
      have hGS1 : GS (d + 1) = 22 + 2 * GS d := rfl
      have ntwu : tw ≠ u := by
        obtain ⟨xs, h1⟩ := hu5.lst
        rintro rfl
        rw [htw] at h1
        cases h1
      refine ⟨_, rfl, _, rfl, _, rfl, _, rfl, rIx_t (s26 _ _ nbu hbl2) rfl (nv_get hx) ?_⟩
      refine ⟨_, rfl, _, _, rfl, rfl, ?_⟩
      have ed : (((d + 1 : Nat) : Nat) : Int) - 1 = ((d : Nat) : Int) := by omega
      simp only [ed]
      refine ⟨d, by omega, u, .ref a, S, x, _, rfl, monoT_TS _ _ _ _ (keepT_X s26 fun xs q => by rw [hxu] at q; cases q) hv, ok, hxS, hu6, by omega, fun v1 H7 t1 s7 hu7 ht1 tok1 hh1 hr1 => ?_⟩
      have s27 := s26.trans s7
      refine ⟨_, rfl, _, rfl, _, rfl, _, rfl, _, _, rfl, rfl, ?_⟩
      simp only [ed]
      refine ⟨d, by omega, u, .ref a, S, y, _, rfl, monoT_TS _ _ _ _ (keepT_X s27 fun xs q => by rw [hxu] at q; cases q) hv, ok, hyS, hu7, by omega, fun v2 H8 t2 s8 hu8 ht2 tok2 hh2 hr2 => ?_⟩
      have s28 := s27.trans s8
      have ht18 := monoT_RT t1 _ _ _ (hu7.keepT s8) ht1
      have htw8 := s8 _ _ ntwu (s7 _ _ ntwu htw6)
      refine ⟨(by show 2 ≤ sizeLine; decide), fun ti hti => ?_⟩
      have s9 := same_new (o := .tup [v1, v2]) hti
      refine ⟨(by show 2 ≤ sizeLine; decide), fun to hto => ?_⟩
      have s10 := s9.trans (same_new (o := .tup [.ref tw, .ref ti]) hto)
      have hti10 := same_new (o := .tup [.ref tw, .ref ti]) hto _ _ (show upd H8 ti (.tup [v1, v2]) ti = _ from upd_same)
      refine kk _ _ (.nd ws t1 t2) (s28.trans (sameX_of s10)) ((hu8.same s10).le (by omega)) ⟨to, _, ti, v1, v2, rfl, upd_same, TN.mk (s10 _ _ htw8), hti10, monoT_RT t1 _ _ _ (keepT_same s10) ht18, monoT_RT t2 _ _ _ (keepT_same s10) ht2⟩ ⟨wok, by omega, tok1, tok2, by rw [hr1]; exact hxm, by rw [hr2]; exact hym⟩ ?_ ?_
      · show 1 + max t1.hgt t2.hgt ≤ d + 1
        omega
      · show ws.headD 0 = kn
        rw [List.headD_eq_head?_getD, hhd]
        rfl
    · intro rest
      refine ⟨_, rfl, _, rfl, _, rfl, rIx_lastL hW2 (lastK_get wok.ne) ?_⟩
      refine rIx_t (s2 _ _ nau ha) rfl hbl ?_
      refine ⟨Nat.zero_le _, fun e1 he1 => ?_⟩
      have s3 := same_new (o := .tup []) he1
      refine rNe_nilT (s3 _ _ (s2 _ _ nbu hbl2)) upd_same ⟨_, rfl, ?_⟩
      have s23 := s2.trans (sameX_of s3)
      refine ite2 (fun hc => ?_) (fun hc => ?_)
      · have hne := of_decide_eq_true hc
        refine ⟨_, rfl, u, _, 3, rfl, hu2.same s3, by omega, by omega, by omega, fun r H4 hr3 s4 hu4 => ?_⟩
        have s24 := s23.trans s4
        have hW4 := s4 _ _ nWu (s3 _ _ hW2)
        refine ⟨rfl, _, rfl, ?_⟩
        cases hd : decide (V.int ((r : Nat) : Int) = V.int 0) with
        | false => exact rest _ ⟨s24, hu4, hW4⟩
        | true =>
          refine iteT ?_
          refine ⟨_, fun _ _ h => h, ?_⟩
          refine ⟨_, rfl, .inl ⟨rfl, _, SqL.of hW4⟩, _, rfl, _, rfl, _, rfl, rIx_lastL hW4 (lastK_get wok.ne) ?_⟩
          refine rIx_t (s24 _ _ nau ha) rfl hbl ?_
          refine ⟨_, rfl, _, rfl, _, rfl, _, rfl, rIx_lastL hW4 (lastK_get wok.ne) ?_⟩
          refine rIx_t (s24 _ _ nau ha) rfl hbl ?_
          refine ⟨bl, _, rfl, .inr (SqT.of (s24 _ _ nbu hbl2)), ?_⟩
          rw [nv_length]
          have hplen : 0 < (parts S (lastK ws)).length := List.length_pos_iff.mpr hne
          refine ⟨u, _, (parts S (lastK ws)).length, rfl, hu4, by omega, by omega, by omega, fun r5 H5 hr5 s5 hu5 => ?_⟩
          have s25 := s24.trans s5
          have hW5 := s5 _ _ nWu hW4
          have hx : (parts S (lastK ws))[r5]? = some (parts S (lastK ws))[r5] := List.getElem?_eq_getElem hr5
          have hxm : (parts S (lastK ws))[r5] ∈ parts S (lastK ws) := List.getElem_mem _
          generalize (parts S (lastK ws))[r5] = x at hx hxm
          have hxS := ok.lt hlast hxm
          have hxl := ok.low _ x hlast hxm
          refine rIx_t (s25 _ _ nbu hbl2) rfl (nv_get hx) ?_
          refine ⟨W, _, _, rfl, rfl, hW5, (by rw [nv_length]; show ws.length < 2 ^ 24; omega), ?_⟩
          refine ⟨x, hxl, ws ++ [x], rfl, sameX_over s25 hW, ?_, ?_, wayOk_snoc wok hxm hxS, ?_, (lastK_snoc _ _).symm, by simp, ?_⟩
          · obtain ⟨x, y, z, h1, h2⟩ := hu5.le (show n + 2 * (ws.length - 1) + 1 + 1 ≤ n + 2 * ((ws ++ [x]).length - 1) by simp; omega)
            exact ⟨x, y, z, by rw [upd_ne nWu.symm]; exact h1, h2⟩
          · rw [upd_same, ← nv_append]; rfl
          · rw [List.head?_append, hhd]; rfl
          · rw [lastK_snoc, List.length_append, List.length_singleton]; omega
      · exact rest _ ⟨s23, (hu2.same s3).le (by omega), s3 _ _ hW2⟩
theorem got_law_sprout (T : Txt K mg) : ∀ d, Got P w K mg base (d + 2) "_law_sprout" ["_law_urn", "_law_shape_here", "_law_knot", "_law_depth"] (sp_spr d)
  | 0 => (got_law_sprout0 T).imp fun vs H Q E ⟨d, hd, h⟩ => by
    have : d = 0 := by omega
    subst this
    exact h
  | d + 1 => got_law_sprout1 T (by omega) (got_law_sprout T d)
end
end K27
set_option linter.all false
set_option maxHeartbeats 1000000
namespace K27
theorem mem_bitsP {m n x : Nat} : x ∈ bitsOf m n ↔ x < n ∧ m.testBit x = true := by
  unfold bitsOf
  rw [List.mem_filter, List.mem_range]
theorem bits_ndP (m n : Nat) : (bitsOf m n).Nodup := List.nodup_range.sublist List.filter_sublist
theorem kept_nd (S : List (List Nat)) (m : Nat) : (kept S m).Nodup := List.nodup_range.sublist List.filter_sublist
/-- what is kept is held -/
theorem dominate {S : List (List Nat)} (ok : ShOk S) {v made : Nat} {way : List (Nat × List Nat)} (h : WayTo S v made way) :
    ∃ m, Lot S v m ∧ (∀ x ∈ kept S made, m.testBit x = true) ∧ (∀ x, m.testBit x = true → made.testBit x = true) ∧ (bitsOf m S.length).length ≤ v := by
  induction h with
  | nil =>
    refine ⟨0, .zero, fun x hx => ?_, fun x hx => by simp at hx, by rw [bits_zero]; simp⟩
    have := (mem_kept.mp hx).2.1
    simp at this
  | @snoc made k way h s ih =>
    obtain ⟨m, hl, hk, hs, hc⟩ := ih
    have hmk : m.testBit k = false := by
      cases q : m.testBit k with
      | false => rfl
      | true => rw [← hs k q, s.new]
    have hpar : ∀ x ∈ parts S k, m.testBit x = true := fun x hx => hk x (kept_part ok s hx)
    have hlt := hl.lt
    by_cases hfull : (bitsOf m S.length).length = v
    · -- a knot that is not kept
      have hex : ∃ g, g ∈ bitsOf m S.length ∧ g ∉ kept S (made ||| 2 ^ k) := by
        refine Classical.byContradiction fun hn => ?_
        have hall : ∀ g ∈ bitsOf m S.length, g ∈ kept S (made ||| 2 ^ k) := fun g hg => Classical.byContradiction fun hx => hn ⟨g, hg, hx⟩
        have hkn : k ∉ bitsOf m S.length := fun hm => by
          have := (mem_bitsP.mp hm).2
          rw [hmk] at this
          cases this
        have hnd : (k :: bitsOf m S.length).Nodup := List.nodup_cons.mpr ⟨hkn, bits_ndP _ _⟩
        have := nodup_sub _ (kept S (made ||| 2 ^ k)) hnd fun x hx => by
          rcases List.mem_cons.mp hx with rfl | hx
          · exact kept_new ok h s
          · exact hall x hx
        have := s.fits
        simp at *
        omega
      obtain ⟨g, hg, hgk⟩ := hex
      have hgb := (mem_bitsP.mp hg).2
      have hst : WStep S v m k (m - 2 ^ g + 2 ^ k) := ⟨s.lt, hmk, hpar, .inl ⟨hfull, g, hgb, rfl⟩⟩
      have hf : (m - 2 ^ g).testBit k = false := by rw [testBit_sub_pow hgb, hmk]; rfl
      refine ⟨_, .step hl hst, fun x hx => ?_, fun x hx => ?_, ?_⟩
      · rw [testBit_add_pow hf, testBit_sub_pow hgb]
        by_cases hxk : x = k
        · simp [hxk]
        · have hxg : x ≠ g := by rintro rfl; exact hgk hx
          rw [hk x (kept_before hx hxk)]
          simp [hxg]
      · rw [testBit_add_pow hf, testBit_sub_pow hgb, Bool.or_eq_true, Bool.and_eq_true] at hx
        rw [or_bits]
        rcases hx with ⟨hx, _⟩ | hx
        · rw [hs x hx]; rfl
        · rw [hx]; simp
      · have := wstep_card hlt hst
        rw [this, if_pos hfull]
        exact Nat.le_refl _
    · have hst : WStep S v m k (m + 2 ^ k) := ⟨s.lt, hmk, hpar, .inr ⟨hfull, rfl⟩⟩
      refine ⟨_, .step hl hst, fun x hx => ?_, fun x hx => ?_, ?_⟩
      · rw [testBit_add_pow hmk]
        by_cases hxk : x = k
        · simp [hxk]
        · rw [hk x (kept_before hx hxk)]; rfl
      · rw [testBit_add_pow hmk, Bool.or_eq_true] at hx
        rw [or_bits]
        rcases hx with hx | hx
        · rw [hs x hx]; rfl
        · rw [hx]; simp
      · have := wstep_card hlt hst
        rw [this, if_neg hfull]
        omega
theorem reach_of_way {S : List (List Nat)} (ok : ShOk S) {v : Nat} {way : List (Nat × List Nat)} (h : WayTo S v (goal S) way) : Reach S v := by
  obtain ⟨m, hl, hk, _, _⟩ := dominate ok h
  have pos := ok.pos
  exact ⟨m, hl, hk _ (mem_kept.mpr ⟨by omega, by rw [goal_bits]; simp; omega, .inl (by omega)⟩)⟩

structure Path (S : List (List Nat)) (many N : Nat) (p : Nat → Nat) : Prop where
  first : p 0 = 0
  step : ∀ l, l < N → ∃ k, WStep S many (p l) k (p (l + 1))
theorem lot_path {S : List (List Nat)} {many m : Nat} (h : Lot S many m) : ∃ N p, Path S many N p ∧ p N = m := by
  induction h with
  | zero => exact ⟨0, fun _ => 0, ⟨rfl, fun l h => by omega⟩, rfl⟩
  | @step m k m' _ s ih =>
    obtain ⟨N, p, hp, hN⟩ := ih
    refine ⟨N + 1, fun l => if l ≤ N then p l else m', ⟨by simp [hp.first], fun l hl => ?_⟩, if_neg (by omega)⟩
    by_cases h : l < N
    · obtain ⟨k', h'⟩ := hp.step l h
      exact ⟨k', by simp only [if_pos (show l ≤ N by omega), if_pos (show l + 1 ≤ N by omega)]; exact h'⟩
    · have e : l = N := by omega
      subst e
      exact ⟨k, by simp only [if_pos (Nat.le_refl l), if_neg (show ¬ l + 1 ≤ l by omega)]; rw [hN]; exact s⟩
theorem Path.lt {S : List (List Nat)} {many N : Nat} {p : Nat → Nat} (h : Path S many N p) : ∀ l, l ≤ N → p l < 2 ^ S.length
  | 0, _ => by rw [h.first]; exact Nat.pow_pos (by omega)
  | l + 1, hl => by
    obtain ⟨k, hs⟩ := h.step l (by omega)
    exact wstep_lt (h.lt l (by omega)) hs
theorem Path.card {S : List (List Nat)} {many N : Nat} {p : Nat → Nat} (h : Path S many N p) : ∀ l, l ≤ N → (bitsOf (p l) S.length).length ≤ many
  | 0, _ => by rw [h.first, bits_zero]; simp
  | l + 1, hl => by
    obtain ⟨k, hs⟩ := h.step l (by omega)
    have := h.card l (by omega)
    rw [wstep_card (h.lt l (by omega)) hs]
    split <;> omega
theorem wstep_in {S : List (List Nat)} {many m k m' x : Nat} (h : WStep S many m k m') (hx : m'.testBit x = true) : m.testBit x = true ∨ x = k := by
  rcases h.to with ⟨_, g, hg, rfl⟩ | ⟨_, rfl⟩
  · have hf : (m - 2 ^ g).testBit k = false := by rw [testBit_sub_pow hg, h.new]; rfl
    rw [testBit_add_pow hf, testBit_sub_pow hg, Bool.or_eq_true, Bool.and_eq_true] at hx
    rcases hx with ⟨h1, _⟩ | h1
    · exact .inl h1
    · exact .inr (of_decide_eq_true h1)
  · rw [testBit_add_pow h.new, Bool.or_eq_true] at hx
    exact hx.imp_right of_decide_eq_true
/-- the time just before a knot is made -/
theorem Path.made {S : List (List Nat)} {many N : Nat} {p : Nat → Nat} (h : Path S many N p) {i x : Nat} : ∀ {j : Nat}, i ≤ j → j ≤ N → (p i).testBit x = false → (p j).testBit x = true → ∃ l, i ≤ l ∧ l < j ∧ ∀ y ∈ parts S x, (p l).testBit y = true
  | 0, hij, hj, h0, h1 => by
    have : i = 0 := by omega
    subst this
    rw [h0] at h1
    cases h1
  | j + 1, hij, hj, h0, h1 => by
    by_cases e : i = j + 1
    · subst e; rw [h0] at h1; cases h1
    obtain ⟨k, hs⟩ := h.step j (by omega)
    rcases wstep_in hs h1 with h2 | rfl
    · obtain ⟨l, a, b, c⟩ := h.made (j := j) (by omega) (by omega) h0 h2
      exact ⟨l, a, by omega, c⟩
    · exact ⟨j, by omega, by omega, hs.has⟩
/-- the knots of ks in a lot -/
def inLot (ks : List Nat) (m : Nat) : List Nat := ks.filter fun k => m.testBit k
theorem last_time (E : Nat → Prop) [DecidablePred E] {i : Nat} : ∀ {j : Nat}, i ≤ j → E i → ¬ E j → ∃ l, i ≤ l ∧ l < j ∧ E l ∧ ∀ l', l < l' → l' ≤ j → ¬ E l'
  | 0, hij, h0, h1 => by
    have : i = 0 := by omega
    subst this
    exact absurd h0 h1
  | j + 1, hij, h0, h1 => by
    by_cases e : i = j + 1
    · subst e; exact absurd h0 h1
    by_cases hj : E j
    · refine ⟨j, by omega, by omega, hj, fun l' a b => ?_⟩
      have e2 : l' = j + 1 := by omega
      rw [e2]
      exact h1
    · obtain ⟨l, a, b, c, d⟩ := last_time E (j := j) (by omega) h0 hj
      refine ⟨l, a, by omega, c, fun l' a' b' => ?_⟩
      by_cases e' : l' = j + 1
      · rw [e']; exact h1
      · exact d l' a' (by omega)
theorem inLot_nil {ks : List Nat} {m : Nat} : inLot ks m = [] ↔ ∀ k ∈ ks, m.testBit k = false := by
  unfold inLot
  rw [List.filter_eq_nil_iff]
  refine forall_congr' fun k => imp_congr_right fun _ => ?_
  rw [Bool.not_eq_true]
theorem inLot_append (a b : List Nat) (m : Nat) : inLot (a ++ b) m = inLot a m ++ inLot b m := List.filter_append ..
/-- along a way, down to its last knot -/
theorem down_way {S : List (List Nat)} {many N : Nat} {p : Nat → Nat} (h : Path S many N p) {i : Nat} : ∀ (ws : List Nat) {j : Nat}, i ≤ j → j ≤ N → (∀ k ∈ ws, (p i).testBit k = false) →
    (∀ (t x y : Nat), ws[t]? = some x → ws[t + 1]? = some y → y ∈ parts S x) → ws ≠ [] → (p j).testBit (ws.headD 0) = true → ∃ j', i ≤ j' ∧ j' ≤ j ∧ (p j').testBit (lastK ws) = true
  | [], _, _, _, _, _, hne, _ => absurd rfl hne
  | [x], j, hij, _, _, _, _, hx => ⟨j, hij, Nat.le_refl _, hx⟩
  | x :: y :: r, j, hij, hj, h0, hd, _, hx => by
    have hx : (p j).testBit x = true := hx
    obtain ⟨l, a, b, c⟩ := h.made hij hj (h0 x List.mem_cons_self) hx
    have hy := c y (hd 0 x y rfl rfl)
    obtain ⟨j', a', b', c'⟩ := down_way h (y :: r) (j := l) a (by omega) (fun k hk => h0 k (List.mem_cons_of_mem _ hk)) (fun t x' y' h1 h2 => hd (t + 1) x' y' h1 h2) (by simp) hy
    refine ⟨j', a', by omega, ?_⟩
    have e : lastK (x :: y :: r) = lastK (y :: r) := by unfold lastK; simp [List.getLastD]
    rw [e]
    exact c'
theorem root_mem {S : List (List Nat)} {d : Nat} {t : Tr} {ks : List Nat} (ok : TOk S t) (h : tk d t = some ks) : t.root ∈ ks := by
  obtain ⟨_, h2, h3⟩ := tk_len d t ks ok h
  unfold Tr.root
  cases hw : t.way with
  | nil =>
    rw [hw] at h2
    cases ks with
    | nil => exact absurd rfl h3
    | cons x r => cases h2
  | cons z r =>
    rw [hw] at h2
    exact List.mem_of_head? h2
/-- some lot holds one knot more than the tree is deep -/
theorem tree_need {S : List (List Nat)} {many N : Nat} {p : Nat → Nat} (h : Path S many N p) : ∀ (d : Nat) (t : Tr) (ks : List Nat), TOk S t → tk d t = some ks → ∀ i j, i ≤ j → j ≤ N → inLot ks (p i) = [] → (p j).testBit t.root = true →
    ∃ l, i ≤ l ∧ l ≤ j ∧ d + 1 ≤ (inLot ks (p l)).length
  | 0, .lf w, ks, ok, hk, i, j, hij, hj, h0, h1 => by
    refine ⟨j, hij, Nat.le_refl _, ?_⟩
    have hm := root_mem ok hk
    exact List.length_pos_of_mem (List.mem_filter.mpr ⟨hm, h1⟩)
  | 0, .nd _ _ _, ks, ok, hk, i, j, hij, hj, h0, h1 => by cases hk
  | _ + 1, .lf _, ks, ok, hk, i, j, hij, hj, h0, h1 => by cases hk
  | d + 1, .nd w a b, ks, ok, hk, i, j, hij, hj, h0, h1 => by
    obtain ⟨wok, _, aok, bok, hra, hrb⟩ := ok
    unfold tk at hk
    cases ha : tk d a with
    | none => rw [ha] at hk; cases hk
    | some x =>
      cases hb : tk d b with
      | none => rw [ha, hb] at hk; cases hk
      | some y =>
        rw [ha, hb] at hk
        cases hk
        rw [inLot_append, inLot_append, List.append_eq_nil_iff, List.append_eq_nil_iff] at h0
        obtain ⟨⟨h0w, h0x⟩, h0y⟩ := h0
        have hroot : (p j).testBit (w.headD 0) = true := h1
        obtain ⟨j1, a1, b1, c1⟩ := down_way h w hij hj (inLot_nil.mp h0w) wok.down wok.ne hroot
        have hlm : lastK w ∈ w := by
          unfold lastK
          rw [List.getLastD_eq_getLast?, List.getLast?_eq_some_getLast wok.ne]
          exact List.getLast_mem wok.ne
        obtain ⟨j0, a0, b0, c0⟩ := h.made a1 (by omega) (inLot_nil.mp h0w _ hlm) c1
        have hA := c0 _ hra
        have hB := c0 _ hrb
        have neA : ¬ inLot x (p j0) = [] := fun e => by
          have := inLot_nil.mp e _ (root_mem aok ha)
          rw [hA] at this
          cases this
        have neB : ¬ inLot y (p j0) = [] := fun e => by
          have := inLot_nil.mp e _ (root_mem bok hb)
          rw [hB] at this
          cases this
        obtain ⟨la, la1, la2, la3, la4⟩ := last_time (fun l => inLot x (p l) = []) a0 h0x neA
        obtain ⟨lb, lb1, lb2, lb3, lb4⟩ := last_time (fun l => inLot y (p l) = []) a0 h0y neB
        rcases Nat.le_total la lb with hle | hle
        · obtain ⟨l, e1, e2, e3⟩ := tree_need h d b y bok hb lb j0 (by omega) (by omega) lb3 hB
          have hl : lb < l := by
            refine Nat.lt_of_le_of_ne e1 ?_
            rintro rfl
            rw [lb3] at e3
            simp at e3
          have : 1 ≤ (inLot x (p l)).length := by
            have := la4 l (by omega) e2
            exact List.length_pos_iff.mpr this
          refine ⟨l, by omega, by omega, ?_⟩
          rw [inLot_append, inLot_append, List.length_append, List.length_append]
          omega
        · obtain ⟨l, e1, e2, e3⟩ := tree_need h d a x aok ha la j0 (by omega) (by omega) la3 hA
          have hl : la < l := by
            refine Nat.lt_of_le_of_ne e1 ?_
            rintro rfl
            rw [la3] at e3
            simp at e3
          have : 1 ≤ (inLot y (p l)).length := by
            have := lb4 l (by omega) e2
            exact List.length_pos_iff.mpr this
          refine ⟨l, by omega, by omega, ?_⟩
          rw [inLot_append, inLot_append, List.length_append, List.length_append]
          omega
theorem tk_lt {S : List (List Nat)} : ∀ (d : Nat) (t : Tr) (ks : List Nat), TOk S t → tk d t = some ks → ∀ x ∈ ks, x < S.length
  | 0, .lf w, ks, ok, h => by cases h; exact ok.1.lt
  | 0, .nd _ _ _, ks, ok, h => by cases h
  | _ + 1, .lf _, ks, ok, h => by cases h
  | d + 1, .nd w a b, ks, ok, h => by
    obtain ⟨h1, h2, h3, h4, _, _⟩ := ok
    unfold tk at h
    cases ha : tk d a with
    | none => rw [ha] at h; cases h
    | some x =>
      cases hb : tk d b with
      | none => rw [ha, hb] at h; cases h
      | some y =>
        rw [ha, hb] at h
        cases h
        intro z hz
        rcases List.mem_append.mp hz with hz | hz
        · rcases List.mem_append.mp hz with hz | hz
          · exact h1.lt z hz
          · exact tk_lt d a x h3 ha z hz
        · exact tk_lt d b y h4 hb z hz
/-- every knot is made before the top is -/
theorem all_made {S : List (List Nat)} (ok : ShOk S) {many N : Nat} {p : Nat → Nat} (h : Path S many N p) (ht : (p N).testBit (S.length - 1) = true) : ∀ (e x : Nat), x + e = S.length - 1 → ∃ j, j ≤ N ∧ (p j).testBit x = true
  | e, x, hx => by
    have pos := ok.pos
    by_cases he : e = 0
    · have : x = S.length - 1 := by omega
      subst this
      exact ⟨N, Nat.le_refl _, ht⟩
    · obtain ⟨u, hu, hxu⟩ := ok.use x (by omega)
      have hlow := ok.low u x hu hxu
      obtain ⟨j, hj, hb⟩ := all_made ok h ht (S.length - 1 - u) u (by omega)
      obtain ⟨l, _, b, c⟩ := h.made (Nat.zero_le j) hj (by rw [h.first]; simp) hb
      exact ⟨l, by omega, c x hxu⟩
  termination_by e => e
theorem tree_bound {S : List (List Nat)} (ok : ShOk S) {many d : Nat} {t : Tr} {ks : List Nat} (hr : Reach S many) (tok : TOk S t) (hk : tk d t = some ks) (nd : ks.Nodup) : d + 1 ≤ many := by
  obtain ⟨m, hl, hm⟩ := hr
  obtain ⟨N, p, hp, hN⟩ := lot_path hl
  have hroot := root_mem tok hk
  have hlt := tk_lt d t ks tok hk
  have pos := ok.pos
  obtain ⟨j, hj, hb⟩ := all_made ok hp (by rw [hN]; exact hm) (S.length - 1 - t.root) t.root (by have := hlt _ hroot; omega)
  obtain ⟨l, _, h2, h3⟩ := tree_need hp d t ks tok hk 0 j (Nat.zero_le _) hj (inLot_nil.mpr fun k _ => by rw [hp.first]; simp) hb
  have hc := hp.card l (by omega)
  have := nodup_sub (inLot ks (p l)) (bitsOf (p l) S.length) (nd.sublist List.filter_sublist) fun x hx => by
    obtain ⟨a, b⟩ := List.mem_filter.mp hx
    exact mem_bitsP.mpr ⟨hlt x a, b⟩
  omega
/-- a lower tree is none of a greater depth -/
theorem tk_deep : ∀ (d : Nat) (t : Tr), t.hgt ≤ d → tk (d + 1) t = none
  | d, .lf _, _ => rfl
  | 0, .nd _ _ _, h => by simp [Tr.hgt] at h
  | d + 1, .nd w a b, h => by
    have : a.hgt ≤ d := by simp [Tr.hgt] at h; omega
    show (match tk (d + 1) a, tk (d + 1) b with
      | some x, some y => some (w ++ x ++ y)
      | _, _ => none) = none
    rw [tk_deep d a this]
end K27
set_option linter.all false
set_option maxRecDepth 100000
set_option maxHeartbeats 4000000
namespace K27
theorem blt_ok {a b : Nat} (h : Nat.blt a b = true) : a < b := Nat.le_of_ble_eq_true h
def ascB : List Nat → Bool
  | x :: y :: r => decide (x < y) && ascB (y :: r)
  | _ => true
theorem ascB_ok : ∀ {xs : List Nat}, ascB xs = true → xs.Pairwise (· < ·)
  | [], _ => .nil
  | [x], _ => List.pairwise_singleton _ _
  | x :: y :: r, h => by
    simp only [ascB, Bool.and_eq_true, decide_eq_true_eq] at h
    have ih := ascB_ok h.2
    refine List.pairwise_cons.mpr ⟨fun z hz => ?_, ih⟩
    rcases List.mem_cons.mp hz with rfl | hz
    · exact h.1
    · exact Nat.lt_trans h.1 ((List.pairwise_cons.mp ih).1 z hz)
def hasB (x : Nat) (xs : List Nat) : Bool := xs.any fun y => Nat.beq x y
theorem hasB_iff {x : Nat} {xs : List Nat} : hasB x xs = true ↔ x ∈ xs := by
  unfold hasB
  rw [List.any_eq_true]
  constructor
  · rintro ⟨y, h1, h2⟩
    rw [Nat.eq_of_beq_eq_true h2]; exact h1
  · intro h
    exact ⟨x, h, Nat.beq_refl x⟩
def shB (S : List (List Nat)) : Bool := Nat.blt 0 S.length && Nat.ble S.length 8 && ((List.range S.length).all fun k => ascB (parts S k) && (parts S k).all fun x => Nat.blt x k) && (List.range (S.length - 1)).all fun k => (List.range S.length).any fun j => hasB k (parts S j)
theorem shB_ok {S : List (List Nat)} (h : shB S = true) : ShOk S := by
  unfold shB at h
  simp only [Bool.and_eq_true, List.all_eq_true, List.any_eq_true, List.mem_range] at h
  obtain ⟨⟨⟨h1, h2⟩, h3⟩, h4⟩ := h
  refine ⟨blt_ok h1, Nat.le_of_ble_eq_true h2, fun k hk => ascB_ok (h3 k hk).1, fun k x hk hx => ?_, fun k hk => ?_⟩
  · exact blt_ok ((h3 k hk).2 x hx)
  · obtain ⟨j, hj, hkj⟩ := h4 k (by omega)
    exact ⟨j, hj, hasB_iff.mp hkj⟩
def ordB (S : List (List Nat)) (v : Nat) : Nat → List Nat → Bool
  | m, [] => Nat.beq m (goal S)
  | m, k :: r => Nat.blt k S.length && !m.testBit k && (parts S k).all (fun x => m.testBit x) && Nat.ble (kept S (m ||| 2 ^ k)).length v && ordB S v (m ||| 2 ^ k) r
theorem ordB_ok {S : List (List Nat)} {v : Nat} : ∀ {r : List Nat} {m : Nat}, CanWay S v m → ordB S v m r = true → CanWay S v (goal S)
  | [], m, hc, h => by
    have h : Nat.beq m (goal S) = true := h
    rw [Nat.eq_of_beq_eq_true h] at hc
    exact hc
  | k :: r, m, ⟨way, hw⟩, h => by
    simp only [ordB, Bool.and_eq_true, List.all_eq_true, Bool.not_eq_true'] at h
    obtain ⟨⟨⟨⟨h1, h2⟩, h3⟩, h4⟩, h5⟩ := h
    exact ordB_ok ⟨_, .snoc hw ⟨blt_ok h1, h2, h3, Nat.le_of_ble_eq_true h4⟩⟩ h5
/-- a list of lots that no step leaves, none with the top -/
def closB (S : List (List Nat)) (many : Nat) (lots : List Nat) : Bool := hasB 0 lots && lots.all fun m => !m.testBit (S.length - 1) && (List.range S.length).all fun k => m.testBit k || !((parts S k).all fun x => m.testBit x) ||
  (if Nat.beq (bitsOf m S.length).length many then (bitsOf m S.length).all fun g => hasB (m - 2 ^ g + 2 ^ k) lots else hasB (m + 2 ^ k) lots)
theorem closB_ok {S : List (List Nat)} {many : Nat} {lots : List Nat} (h : closB S many lots = true) : ¬ Reach S many := by
  unfold closB at h
  simp only [Bool.and_eq_true, List.all_eq_true, List.mem_range] at h
  obtain ⟨h0, hs⟩ := h
  have hin : ∀ m, Lot S many m → m ∈ lots := by
    intro m hm
    induction hm with
    | zero => exact hasB_iff.mp h0
    | @step m k m' hl s ih =>
      have h1 := (hs m ih).2 k s.lt
      have h3 : (parts S k).all (fun x => m.testBit x) = true := List.all_eq_true.mpr s.has
      rw [s.new, h3] at h1
      rw [Bool.false_or, Bool.not_true, Bool.false_or] at h1
      rcases s.to with ⟨hc, g, hg, rfl⟩ | ⟨hc, rfl⟩
      · rw [if_pos (by rw [hc]; exact Nat.beq_refl _), List.all_eq_true] at h1
        exact hasB_iff.mp (h1 g (mem_bits.mpr ⟨bits_lt hl.lt hg, hg⟩))
      · rw [if_neg (fun q => hc (Nat.eq_of_beq_eq_true q))] at h1
        exact hasB_iff.mp h1
  rintro ⟨m, hl, ht⟩
  have := (hs m (hin m hl)).1
  rw [ht] at this
  cases this
/-- a list of sets of knots that no sparing step leaves, none of all knots -/
def madeB (S : List (List Nat)) (many : Nat) (sets : List Nat) : Bool := hasB 0 sets && sets.all fun m => !Nat.beq m (goal S) && (List.range S.length).all fun k => m.testBit k || !((parts S k).all fun x => m.testBit x) || !Nat.ble (kept S (m ||| 2 ^ k)).length many || hasB (m ||| 2 ^ k) sets
theorem madeB_ok {S : List (List Nat)} {many : Nat} {sets : List Nat} (h : madeB S many sets = true) : ¬ SpReach S many := by
  unfold madeB at h
  simp only [Bool.and_eq_true, List.all_eq_true, List.mem_range] at h
  obtain ⟨h0, hs⟩ := h
  have hin : ∀ m way, WayTo S many m way → m ∈ sets := by
    intro m way hw
    induction hw with
    | nil => exact hasB_iff.mp h0
    | @snoc m k way _ s ih =>
      have h1 := (hs m ih).2 k s.lt
      have h3 : (parts S k).all (fun x => m.testBit x) = true := List.all_eq_true.mpr s.has
      have h4 : Nat.ble (kept S (m ||| 2 ^ k)).length many = true := Nat.ble_eq.mpr s.fits
      rw [s.new, h3, h4] at h1
      exact hasB_iff.mp h1
  rintro ⟨way, hw⟩
  have := (hs _ (hin _ _ hw)).1
  rw [Nat.beq_refl] at this
  cases this
structure Ent where
  found : List (List Nat)
  free : List Nat
  ord : List Nat
  r : Nat
  lots : List (List Nat)
def Ent.shape (e : Ent) : List (List Nat) := e.found ++ (if 1 < e.free.length then [e.free] else [])
def entB (e : Ent) : Bool := shB e.shape && Nat.ble 1 e.r && ordB e.shape e.r 0 e.ord && Nat.beq (ruleN 8 e.shape (e.shape.length - 1)) e.r && (List.range (e.r - 1)).all fun i => closB e.shape (i + 1) (e.lots.getD i [])
def isStB (st : LSt) (e : Ent) : Bool := decide (st = (e.found, e.free))
/-- a web, and a sparing way, of as many cells as the rule says -/
structure LoneOk (S : List (List Nat)) : Prop where
  ok : ShOk S
  web : IsWeb S (ruleN 8 S (S.length - 1))
  sp : IsSp S (ruleN 8 S (S.length - 1))
theorem entB_ok {e : Ent} (h : entB e = true) : LoneOk e.shape := by
  unfold entB at h
  simp only [Bool.and_eq_true, List.all_eq_true, List.mem_range] at h
  obtain ⟨⟨⟨⟨h1, h2⟩, h3⟩, h4⟩, h5⟩ := h
  have ok := shB_ok h1
  have hr : 1 ≤ e.r := Nat.le_of_ble_eq_true h2
  obtain ⟨way, hw⟩ := ordB_ok ⟨[], .nil⟩ h3
  have hno : ∀ m, 1 ≤ m → m < e.r → ¬ Reach e.shape m := fun m a b => by
    have := closB_ok (h5 (m - 1) (by omega))
    rwa [Nat.sub_add_cancel a] at this
  have he := Nat.eq_of_beq_eq_true h4
  refine ⟨ok, ?_, ?_⟩
  · rw [he]
    exact ⟨hr, reach_of_way ok hw, hno⟩
  · rw [he]
    exact ⟨hr, ⟨way, hw⟩, fun m a b ⟨way', hw'⟩ => hno m a b (reach_of_way ok hw')⟩
theorem IsSp.inj {S : List (List Nat)} {m n : Nat} (h : IsSp S m) (h' : IsSp S n) : m = n := by
  rcases Nat.lt_trichotomy m n with q | q | q
  · exact absurd h.2.1 (h'.2.2 m h.1 q)
  · exact q
  · exact absurd h'.2.1 (h.2.2 n h'.1 q)
theorem IsWeb.inj {S : List (List Nat)} {m n : Nat} (h : IsWeb S m) (h' : IsWeb S n) : m = n := by
  rcases Nat.lt_trichotomy m n with q | q | q
  · exact absurd h.2.1 (h'.2.2 m h.1 q)
  · exact q
  · exact absurd h'.2.1 (h.2.2 n h'.1 q)
theorem web_le {S : List (List Nat)} (ok : ShOk S) {w n : Nat} (h : IsWeb S w) (h' : IsSp S n) : w ≤ n := by
  obtain ⟨way, hw⟩ := h'.2.1
  refine Nat.le_of_not_lt fun hlt => h.2.2 n h'.1 hlt (reach_of_way ok hw)
def tab0 : List Ent := [
  ⟨[], [], [], 0, []⟩]
def tab1 : List Ent := [
  ⟨[[]], [0], [0], 1, []⟩]
def tab2 : List Ent := [
  ⟨[[], []], [0, 1], [0, 1, 2], 2, [[0, 1, 2]]⟩,
  ⟨[[], [0]], [1], [0, 1], 1, []⟩]
def tab3 : List Ent := [
  ⟨[[], [], []], [0, 1, 2], [0, 1, 2, 3], 3, [[0, 1, 2, 4], [0, 1, 2, 3, 4, 5, 6]]⟩,
  ⟨[[], [], [1]], [0, 2], [0, 1, 2, 3], 2, [[0, 1, 2, 4]]⟩,
  ⟨[[], [], [0, 1]], [2], [0, 1, 2], 2, [[0, 1, 2]]⟩,
  ⟨[[], [0], []], [1, 2], [0, 1, 2, 3], 2, [[0, 1, 2, 4]]⟩,
  ⟨[[], [0], [1]], [2], [0, 1, 2], 1, []⟩]
def tab4 : List Ent := [
  ⟨[[], [], [], []], [0, 1, 2, 3], [0, 1, 2, 3, 4], 4, [[0, 1, 2, 4, 8], [0, 1, 2, 3, 4, 5, 6, 8, 9, 10, 12], [0, 1, 2, 3, 4, 5, 6, 7, 8, 9, 10, 11, 12, 13, 14]]⟩,
  ⟨[[], [], [], [2]], [0, 1, 3], [0, 1, 2, 3, 4], 3, [[0, 1, 2, 4, 8], [0, 1, 2, 3, 4, 5, 6, 9, 10, 12]]⟩,
  ⟨[[], [], [], [1, 2]], [0, 3], [1, 2, 3, 0, 4], 2, [[0, 1, 2, 4]]⟩,
  ⟨[[], [], [1], []], [0, 2, 3], [0, 1, 2, 3, 4], 3, [[0, 1, 2, 4, 8], [0, 1, 2, 3, 5, 6, 8, 9, 10, 12]]⟩,
  ⟨[[], [], [1], [2]], [0, 3], [0, 1, 2, 3, 4], 2, [[0, 1, 2, 4, 8]]⟩,
  ⟨[[], [], [1], [0, 2]], [3], [0, 1, 2, 3], 2, [[0, 1, 2, 4]]⟩,
  ⟨[[], [], [0, 1], []], [2, 3], [0, 1, 2, 3, 4], 2, [[0, 1, 2, 8]]⟩,
  ⟨[[], [], [0, 1], [2]], [3], [0, 1, 2, 3], 2, [[0, 1, 2]]⟩,
  ⟨[[], [0], [], []], [1, 2, 3], [0, 1, 2, 3, 4], 3, [[0, 1, 2, 4, 8], [0, 1, 3, 4, 5, 6, 8, 9, 10, 12]]⟩,
  ⟨[[], [0], [], [2]], [1, 3], [0, 1, 2, 3, 4], 2, [[0, 1, 2, 4, 8]]⟩,
  ⟨[[], [0], [], [1, 2]], [3], [0, 1, 2, 3], 2, [[0, 1, 2, 4]]⟩,
  ⟨[[], [0], [1], []], [2, 3], [0, 1, 2, 3, 4], 2, [[0, 1, 2, 4, 8]]⟩,
  ⟨[[], [0], [1], [2]], [3], [0, 1, 2, 3], 1, []⟩]
def tab5 : List Ent := [
  ⟨[[], [], [], [], []], [0, 1, 2, 3, 4], [0, 1, 2, 3, 4, 5], 5, [[0, 1, 2, 4, 8, 16], [0, 1, 2, 3, 4, 5, 6, 8, 9, 10, 12, 16, 17, 18, 20, 24], [0, 1, 2, 3, 4, 5, 6, 7, 8, 9, 10, 11, 12, 13, 14, 16, 17, 18, 19, 20, 21, 22, 24, 25, 26, 28], [0, 1, 2, 3, 4, 5, 6, 7, 8, 9, 10, 11, 12, 13, 14, 15, 16, 17, 18, 19, 20, 21, 22, 23, 24, 25, 26, 27, 28, 29, 30]]⟩,
  ⟨[[], [], [], [], [3]], [0, 1, 2, 4], [0, 1, 2, 3, 4, 5], 4, [[0, 1, 2, 4, 8, 16], [0, 1, 2, 3, 4, 5, 6, 8, 9, 10, 12, 17, 18, 20, 24], [0, 1, 2, 3, 4, 5, 6, 7, 8, 9, 10, 11, 12, 13, 14, 19, 21, 22, 24, 25, 26, 28]]⟩,
  ⟨[[], [], [], [], [2, 3]], [0, 1, 4], [2, 3, 4, 0, 1, 5], 3, [[0, 1, 2, 4, 8], [0, 1, 2, 3, 4, 5, 6, 8, 9, 10, 12, 17, 18, 20, 24]]⟩,
  ⟨[[], [], [], [2], []], [0, 1, 3, 4], [0, 1, 2, 3, 4, 5], 4, [[0, 1, 2, 4, 8, 16], [0, 1, 2, 3, 4, 5, 6, 9, 10, 12, 16, 17, 18, 20, 24], [0, 1, 2, 3, 4, 5, 6, 7, 11, 12, 13, 14, 16, 17, 18, 19, 20, 21, 22, 25, 26, 28]]⟩,
  ⟨[[], [], [], [2], [3]], [0, 1, 4], [0, 1, 2, 3, 4, 5], 3, [[0, 1, 2, 4, 8, 16], [0, 1, 2, 3, 4, 5, 6, 9, 10, 12, 17, 18, 20, 24]]⟩,
  ⟨[[], [], [], [2], [1, 3]], [0, 4], [1, 2, 3, 4, 0, 5], 2, [[0, 1, 2, 4, 8]]⟩,
  ⟨[[], [], [], [1, 2], []], [0, 3, 4], [1, 2, 3, 0, 4, 5], 3, [[0, 1, 2, 4, 16], [0, 1, 2, 3, 4, 5, 6, 9, 10, 12, 16, 17, 18, 20, 24]]⟩,
  ⟨[[], [], [], [1, 2], [3]], [0, 4], [1, 2, 3, 4, 0, 5], 2, [[0, 1, 2, 4]]⟩,
  ⟨[[], [], [], [1, 2], [0, 3]], [4], [1, 2, 3, 0, 4], 2, [[0, 1, 2, 4]]⟩,
  ⟨[[], [], [1], [], []], [0, 2, 3, 4], [0, 1, 2, 3, 4, 5], 4, [[0, 1, 2, 4, 8, 16], [0, 1, 2, 3, 5, 6, 8, 9, 10, 12, 16, 17, 18, 20, 24], [0, 1, 2, 3, 6, 7, 8, 9, 10, 11, 13, 14, 16, 17, 18, 19, 21, 22, 24, 25, 26, 28]]⟩,
  ⟨[[], [], [1], [], [3]], [0, 2, 4], [0, 1, 2, 3, 4, 5], 3, [[0, 1, 2, 4, 8, 16], [0, 1, 2, 3, 5, 6, 8, 9, 10, 12, 17, 18, 20, 24]]⟩,
  ⟨[[], [], [1], [], [2, 3]], [0, 4], [1, 2, 3, 4, 0, 5], 2, [[0, 1, 2, 4, 8]]⟩,
  ⟨[[], [], [1], [2], []], [0, 3, 4], [0, 1, 2, 3, 4, 5], 3, [[0, 1, 2, 4, 8, 16], [0, 1, 2, 3, 5, 6, 9, 10, 12, 16, 17, 18, 20, 24]]⟩,
  ⟨[[], [], [1], [2], [3]], [0, 4], [0, 1, 2, 3, 4, 5], 2, [[0, 1, 2, 4, 8, 16]]⟩,
  ⟨[[], [], [1], [2], [0, 3]], [4], [0, 1, 2, 3, 4], 2, [[0, 1, 2, 4, 8]]⟩,
  ⟨[[], [], [1], [0, 2], []], [3, 4], [0, 1, 2, 3, 4, 5], 2, [[0, 1, 2, 4, 16]]⟩,
  ⟨[[], [], [1], [0, 2], [3]], [4], [0, 1, 2, 3, 4], 2, [[0, 1, 2, 4]]⟩,
  ⟨[[], [], [0, 1], [], []], [2, 3, 4], [0, 1, 2, 3, 4, 5], 3, [[0, 1, 2, 8, 16], [0, 1, 2, 3, 5, 6, 8, 9, 10, 12, 16, 17, 18, 20, 24]]⟩,
  ⟨[[], [], [0, 1], [], [3]], [2, 4], [0, 1, 2, 3, 4, 5], 2, [[0, 1, 2, 8, 16]]⟩,
  ⟨[[], [], [0, 1], [], [2, 3]], [4], [0, 1, 2, 3, 4], 2, [[0, 1, 2, 8]]⟩,
  ⟨[[], [], [0, 1], [2], []], [3, 4], [0, 1, 2, 3, 4, 5], 2, [[0, 1, 2, 16]]⟩,
  ⟨[[], [], [0, 1], [2], [3]], [4], [0, 1, 2, 3, 4], 2, [[0, 1, 2]]⟩,
  ⟨[[], [0], [], [], []], [1, 2, 3, 4], [0, 1, 2, 3, 4, 5], 4, [[0, 1, 2, 4, 8, 16], [0, 1, 3, 4, 5, 6, 8, 9, 10, 12, 16, 17, 18, 20, 24], [0, 1, 3, 4, 5, 7, 8, 9, 11, 12, 13, 14, 16, 17, 19, 20, 21, 22, 24, 25, 26, 28]]⟩,
  ⟨[[], [0], [], [], [3]], [1, 2, 4], [0, 1, 2, 3, 4, 5], 3, [[0, 1, 2, 4, 8, 16], [0, 1, 3, 4, 5, 6, 8, 9, 10, 12, 17, 18, 20, 24]]⟩,
  ⟨[[], [0], [], [], [2, 3]], [1, 4], [2, 3, 4, 0, 1, 5], 2, [[0, 1, 2, 4, 8]]⟩,
  ⟨[[], [0], [], [2], []], [1, 3, 4], [0, 1, 2, 3, 4, 5], 3, [[0, 1, 2, 4, 8, 16], [0, 1, 3, 4, 5, 6, 9, 10, 12, 16, 17, 18, 20, 24]]⟩,
  ⟨[[], [0], [], [2], [3]], [1, 4], [0, 1, 2, 3, 4, 5], 2, [[0, 1, 2, 4, 8, 16]]⟩,
  ⟨[[], [0], [], [2], [1, 3]], [4], [0, 1, 2, 3, 4], 2, [[0, 1, 2, 4, 8]]⟩,
  ⟨[[], [0], [], [1, 2], []], [3, 4], [0, 1, 2, 3, 4, 5], 2, [[0, 1, 2, 4, 16]]⟩,
  ⟨[[], [0], [], [1, 2], [3]], [4], [0, 1, 2, 3, 4], 2, [[0, 1, 2, 4]]⟩,
  ⟨[[], [0], [1], [], []], [2, 3, 4], [0, 1, 2, 3, 4, 5], 3, [[0, 1, 2, 4, 8, 16], [0, 1, 3, 5, 6, 8, 9, 10, 12, 16, 17, 18, 20, 24]]⟩,
  ⟨[[], [0], [1], [], [3]], [2, 4], [0, 1, 2, 3, 4, 5], 2, [[0, 1, 2, 4, 8, 16]]⟩,
  ⟨[[], [0], [1], [], [2, 3]], [4], [0, 1, 2, 3, 4], 2, [[0, 1, 2, 4, 8]]⟩,
  ⟨[[], [0], [1], [2], []], [3, 4], [0, 1, 2, 3, 4, 5], 2, [[0, 1, 2, 4, 8, 16]]⟩,
  ⟨[[], [0], [1], [2], [3]], [4], [0, 1, 2, 3, 4], 1, []⟩]
def knotS : List (List Nat) := [[], [0], [], [1, 2], [0, 3]]
def knotOrd : List Nat := [0, 1, 2, 3, 4]
def knotMade : List (List Nat) := [[0, 1, 4], [0, 1, 3, 4, 5]]
def fullS : List (List Nat) := [[], [], [0, 1], [], [], [3, 4], [2, 5]]
def fullOrd : List Nat := [0, 1, 2, 3, 4, 5, 6]
def fullMade : List (List Nat) := [[0, 1, 2, 8, 16], [0, 1, 2, 3, 7, 8, 9, 10, 15, 16, 17, 18, 23, 24, 56, 57, 58]]
def tab : Nat → List Ent
  | 0 => tab0
  | 1 => tab1
  | 2 => tab2
  | 3 => tab3
  | 4 => tab4
  | _ => tab5
def stepB (a b : List Ent) : Bool := a.all fun e => [0, 1, 2].all fun r => b.any fun e' => isStB (loneStep (e.found, e.free) r) e'
theorem steps_ok : (stepB tab0 tab1 && stepB tab1 tab2 && stepB tab2 tab3 && stepB tab3 tab4 && stepB tab4 tab5) = true := by decide +kernel
theorem tab1_ok : tab1.all entB = true := by decide +kernel
theorem tab2_ok : tab2.all entB = true := by decide +kernel
theorem tab3_ok : tab3.all entB = true := by decide +kernel
theorem tab4_ok : tab4.all entB = true := by decide +kernel
theorem tab5_ok : tab5.all entB = true := by decide +kernel
theorem stepB_ok {a b : List Ent} (h : stepB a b = true) {st : LSt} {r : Nat} (hr : r < 3) (hs : ∃ e ∈ a, st = (e.found, e.free)) : ∃ e ∈ b, loneStep st r = (e.found, e.free) := by
  obtain ⟨e, he, rfl⟩ := hs
  unfold stepB at h
  rw [List.all_eq_true] at h
  have h1 := h e he
  rw [List.all_eq_true] at h1
  have hm : r ∈ [0, 1, 2] := by
    match r, hr with
    | 0, _ => simp
    | 1, _ => simp
    | 2, _ => simp
  have h2 := h1 r hm
  rw [List.any_eq_true] at h2
  obtain ⟨e', he', h3⟩ := h2
  exact ⟨e', he', of_decide_eq_true h3⟩
theorem lone_tab : ∀ n, n ≤ 5 → ∀ ms : List Nat, ms.length = n → (∀ r ∈ ms, r < 3) → ∃ e ∈ tab n, loneGo ms = (e.found, e.free)
  | 0, _, ms, h, _ => by
    have := List.length_eq_zero_iff.mp h
    subst this
    exact ⟨⟨[], [], [], 0, []⟩, by simp [tab, tab0], rfl⟩
  | n + 1, hn, ms, h, hr => by
    obtain ⟨ms', r, rfl⟩ : ∃ ms' r, ms = ms' ++ [r] := by
      have hne : ms ≠ [] := by rintro rfl; cases h
      exact ⟨ms.dropLast, ms.getLast hne, (List.dropLast_concat_getLast hne).symm⟩
    have ih := lone_tab n (by omega) ms' (by simpa using h) fun r hr' => hr r (List.mem_append_left _ hr')
    have hr3 := hr r (by simp)
    rw [loneGo_snoc]
    have hs := steps_ok
    simp only [Bool.and_eq_true] at hs
    obtain ⟨⟨⟨⟨s0, s1⟩, s2⟩, s3⟩, s4⟩ := hs
    match n, hn, ih with
    | 0, _, ih => exact stepB_ok s0 hr3 ih
    | 1, _, ih => exact stepB_ok s1 hr3 ih
    | 2, _, ih => exact stepB_ok s2 hr3 ih
    | 3, _, ih => exact stepB_ok s3 hr3 ih
    | 4, _, ih => exact stepB_ok s4 hr3 ih
    | n + 5, h, _ => omega
theorem lone_ok {ms : List Nat} (h1 : 1 ≤ ms.length) (h5 : ms.length ≤ 5) (hr : ∀ r ∈ ms, r < 3) : LoneOk (loneOf ms) := by
  obtain ⟨e, he, hg⟩ := lone_tab ms.length h5 ms rfl hr
  have hsh : loneOf ms = e.shape := by unfold loneOf Ent.shape; rw [hg]
  rw [hsh]
  apply entB_ok
  revert he
  match ms.length, h1, h5 with
  | 1, _, _ => exact fun he => List.all_eq_true.mp tab1_ok e he
  | 2, _, _ => exact fun he => List.all_eq_true.mp tab2_ok e he
  | 3, _, _ => exact fun he => List.all_eq_true.mp tab3_ok e he
  | 4, _, _ => exact fun he => List.all_eq_true.mp tab4_ok e he
  | 5, _, _ => exact fun he => List.all_eq_true.mp tab5_ok e he
  | n + 6, _, h => omega
theorem knot_ok : ShOk knotS := shB_ok (by decide +kernel)
theorem full_ok : ShOk fullS := shB_ok (by decide +kernel)
theorem isSp_of {S : List (List Nat)} {sets : List (List Nat)} {o : List Nat} {v : Nat} (h : (Nat.ble 1 v && ordB S v 0 o && (List.range (v - 1)).all fun i => madeB S (i + 1) (sets.getD i [])) = true) : IsSp S v := by
  simp only [Bool.and_eq_true, List.all_eq_true, List.mem_range] at h
  obtain ⟨⟨h1, h2⟩, h3⟩ := h
  obtain ⟨way, hw⟩ := ordB_ok ⟨[], .nil⟩ h2
  refine ⟨Nat.le_of_ble_eq_true h1, ⟨way, hw⟩, fun m a b => ?_⟩
  have := madeB_ok (h3 (m - 1) (by have := Nat.le_of_ble_eq_true h1; omega))
  rwa [Nat.sub_add_cancel a] at this
theorem knot_sp : IsSp knotS 3 := isSp_of (sets := knotMade) (o := knotOrd) (by decide +kernel)
theorem full_sp : IsSp fullS 3 := isSp_of (sets := fullMade) (o := fullOrd) (by decide +kernel)
end K27
set_option linter.all false
set_option maxRecDepth 100000
set_option maxHeartbeats 1000000
namespace K27
open PyProof.Rows in
theorem dedup_len : ∀ (ns σ : List Int), σ.Nodup → (ns.foldl step_dedup σ).length ≤ σ.length + ns.length ∧ ((ns.foldl step_dedup σ).length = σ.length + ns.length ↔ (σ ++ ns).Nodup)
  | [], σ, h => ⟨by simp, by simp [h]⟩
  | x :: r, σ, h => by
    rw [List.foldl_cons]
    by_cases hx : x ∈ σ
    · have e : step_dedup σ x = σ := by
        unfold step_dedup
        rw [if_pos (List.any_eq_true.mpr ⟨x, hx, by simp⟩)]
      rw [e]
      obtain ⟨h1, h2⟩ := dedup_len r σ h
      refine ⟨by rw [List.length_cons]; omega, ?_⟩
      rw [List.length_cons]
      constructor
      · intro q; omega
      · intro q
        exact absurd rfl ((List.nodup_append.mp q).2.2 x hx x List.mem_cons_self)
    · have e : step_dedup σ x = σ ++ [x] := by
        unfold step_dedup
        rw [if_neg]
        intro q
        obtain ⟨y, hy, hxy⟩ := List.any_eq_true.mp q
        have : y = x := by simpa using hxy
        exact hx (this ▸ hy)
      rw [e]
      have hnd : (σ ++ [x]).Nodup := List.nodup_append.mpr ⟨h, by simp, fun a ha b hb e => by
        have : b = x := by simpa using hb
        exact hx (this ▸ e ▸ ha)⟩
      obtain ⟨h1, h2⟩ := dedup_len r (σ ++ [x]) hnd
      rw [List.length_append, List.length_singleton] at h1 h2
      rw [List.length_cons]
      refine ⟨by omega, ?_⟩
      rw [show σ.length + (r.length + 1) = σ.length + 1 + r.length by omega, h2, List.append_assoc, List.singleton_append]
theorem dct_iff (ns : List Int) : dct ns = ns.length ↔ ns.Nodup := by
  have := (dedup_len ns [] List.nodup_nil).2
  simpa [dct] using this
theorem nodup_cast (ks : List Nat) : (ks.map fun k => ((k : Nat) : Int)).Nodup ↔ ks.Nodup := by
  constructor
  · intro h
    rw [List.nodup_iff_pairwise_ne, List.pairwise_map] at h
    rw [List.nodup_iff_pairwise_ne]
    exact h.imp fun h e => h (by rw [e])
  · intro h
    rw [List.nodup_iff_pairwise_ne] at h ⊢
    rw [List.pairwise_map]
    exact h.imp fun h e => h (by omega)
theorem spareB_good {S : List (List Nat)} {many : Nat} {ps : List (Nat × Nat)} (g : GoodPlay S many ps) : spareB S many ps = true := by
  unfold spareB
  rw [g.play, Bool.true_and, decide_eq_true_iff]
  have h : (ps.map fun p => ((p.1 : Nat) : Int)) = (ps.map (·.1)).map fun k => ((k : Nat) : Int) := by rw [List.map_map]; rfl
  have := (dct_iff (ps.map fun p => ((p.1 : Nat) : Int))).mpr (by rw [h]; exact (nodup_cast _).mpr g.nd)
  rw [this, List.length_map]
theorem treeB_bound {S : List (List Nat)} (ok : ShOk S) {d n : Nat} {t : Tr} (tok : TOk S t) (h : treeB d t = true) (hw : IsWeb S n) : d < n := by
  unfold treeB at h
  cases hk : tk d t with
  | none => rw [hk] at h; cases h
  | some ks =>
    rw [hk] at h
    have h := of_decide_eq_true h
    have h2 : ks.Nodup := (nodup_cast ks).mp ((dct_iff _).mp (by rw [h, List.length_map]))
    exact tree_bound ok hw.2.1 tok hk h2
theorem treeBS_eq {S : List (List Nat)} {d : Nat} {t : Tr} (tok : TOk S t) : treeBS S d t = treeB d t := by
  unfold treeBS treeB
  rw [tkS_eq d t tok]
theorem treeB_deep {d : Nat} {t : Tr} (h : t.hgt ≤ d) : treeB (d + 1) t = false := by
  unfold treeB
  rw [tk_deep d t h]
end K27
set_option Elab.async false
set_option linter.all false
set_option maxRecDepth 100000
set_option maxHeartbeats 1000000
namespace K27
open PySem PySem.Spec PyProof.Rows L2
def litInts : List Nat → TA
  | [] => tNil
  | x :: r => tCons (tC (.int ((x : Nat) : Int))) (litInts r)
def litTups : List (List Nat) → TA
  | [] => tNil
  | x :: r => tCons (tTup (litInts x)) (litTups r)
def litTree : Tr → TE
  | .lf w => tTup (tCons (tTup (litInts w)) (tCons (tTup tNil) tNil))
  | .nd w a b => tTup (tCons (tTup (litInts w)) (tCons (tTup (tCons (litTree a) (tCons (litTree b) tNil))) tNil))
theorem ints_run {σ : L2.St} : ∀ (xs : List Nat) {H : Hp} {Q : List V → Hp → Prop}, Q (nv xs) H → litInts xs σ H Q
  | [], _, _, h => h
  | x :: r, H, Q, h => ints_run r (H := H) (Q := fun xs H2 => Q (.int ((x : Nat) : Int) :: xs) H2) h
theorem lit_ints {σ : L2.St} {H : Hp} {Q : VK} (xs : List Nat) (hl : xs.length ≤ 1000) (k : ∀ p H', H p = none → Same H H' → H' p = some (.tup (nv xs)) → Q (.ref p) H') : tTup (litInts xs) σ H Q :=
  ints_run xs ⟨by rw [nv_length]; show xs.length ≤ 2 ^ 24; omega, fun p hp => k p _ hp (same_new hp) upd_same⟩
theorem tups_run {σ : L2.St} : ∀ (S : List (List Nat)), (∀ x ∈ S, x.length ≤ 1000) → ∀ {H : Hp} {Q : List V → Hp → Prop}, (∀ vs H', Same H H' → Paired (TN H') vs S → Q vs H') → litTups S σ H Q
  | [], _, H, Q, k => k [] H (Same.refl _) .nil
  | x :: r, hl, H, Q, k => by
    show tTup (litInts x) σ H (fun y H1 => litTups r σ H1 fun xs H2 => Q (y :: xs) H2)
    refine lit_ints x (hl x List.mem_cons_self) fun p H1 hp s1 h1 => ?_
    refine tups_run r (fun y hy => hl y (List.mem_cons_of_mem _ hy)) (H := H1) (Q := fun xs H2 => Q (.ref p :: xs) H2) fun vs H2 s2 h2 => ?_
    exact k _ _ (s1.trans s2) (.cons (TN.mk (s2 _ _ h1)) h2)
theorem lit_shape {σ : L2.St} {H : Hp} {Q : VK} (S : List (List Nat)) (hl : S.length ≤ 1000) (hl2 : ∀ x ∈ S, x.length ≤ 1000) (k : ∀ v H', Same H H' → TS' H' v S → Q v H') : tTup (litTups S) σ H Q := by
  refine tups_run S hl2 (Q := fun xs H1 => xs.length ≤ sizeLine ∧ ∀ p, H1 p = none → Q (.ref p) (upd H1 p (.tup xs))) fun vs H1 s1 pv => ⟨?_, fun p hp => ?_⟩
  · rw [Paired.length pv]; show S.length ≤ 2 ^ 24; omega
  · have s2 := same_new (o := .tup vs) hp
    exact k _ _ (s1.trans s2) ⟨p, vs, rfl, upd_same, pmap pv fun _ _ r => monoT_TN _ _ _ _ (keepT_same s2) r⟩
theorem play_of {H : Hp} : ∀ {vs : List V} {ps : List (Nat × Nat)}, Paired (TN H) vs (ps.map fun p => [p.1, p.2]) → Paired (RP H) vs ps
  | [], [], _ => .nil
  | v :: vs, p :: ps, h => by
    cases h with
    | cons r t =>
      obtain ⟨a, rfl, ha⟩ := TN.of r
      exact .cons ⟨a, rfl, ha⟩ (play_of t)
  | [], p :: ps, h => by cases h
  | v :: vs, [], h => by cases h
theorem lit_play {σ : L2.St} {H : Hp} {Q : VK} (ps : List (Nat × Nat)) (hl : ps.length ≤ 1000) (k : ∀ v H', Same H H' → Sq false RP H' v ps → Q v H') : tTup (litTups (ps.map fun p => [p.1, p.2])) σ H Q := by
  refine lit_shape _ (by rw [List.length_map]; exact hl) (fun x hx => ?_) fun v H' s ⟨a, vs, e, h, p⟩ => k v H' s ⟨a, vs, e, h, play_of p⟩
  obtain ⟨p, _, rfl⟩ := List.mem_map.mp hx
  simp
theorem tTup_two {ta tb : TE} {σ : L2.St} {H : Hp} {Q : VK} (h : ta σ H fun x H1 => tb σ H1 fun y H2 => ∀ p, H2 p = none → Q (.ref p) (upd H2 p (.tup [x, y]))) : tTup (tCons ta (tCons tb tNil)) σ H Q := by
  unfold tTup tCons tNil
  dsimp only
  have e : ∀ x y : V, [x, y].length ≤ sizeLine := fun x y => by show 2 ≤ 2 ^ 24; omega
  simp only [e, true_and]
  exact h
theorem lit_tree {S : List (List Nat)} {σ : L2.St} : ∀ (t : Tr), TOkW S t → ∀ {H : Hp} {Q : VK}, (∀ v H', Same H H' → RT H' v t → Q v H') → litTree t σ H Q
  | .lf w, tok, H, Q, k => by
    refine tTup_two ?_
    refine lit_ints w (by have := tok.2; omega) fun p H1 hp s1 h1 => ?_
    refine lit_ints [] (by simp) fun e H2 he s2 h2 => ?_
    intro q hq
    have s3 := same_new (o := .tup [.ref p, .ref e]) hq
    exact k _ _ ((s1.trans s2).trans s3) ⟨q, _, e, rfl, upd_same, TN.mk (s3 _ _ (s2 _ _ h1)), s3 _ _ h2⟩
  | .nd w a b, tok, H, Q, k => by
    obtain ⟨_, hw, ha, hb⟩ := tok
    refine tTup_two ?_
    refine lit_ints w (by omega) fun p H1 hp s1 h1 => ?_
    refine tTup_two ?_
    refine lit_tree a ha fun x H2 s2 rx => ?_
    refine lit_tree b hb fun y H3 s3 ry => ?_
    intro i hi
    have s4 := same_new (o := .tup [x, y]) hi
    intro q hq
    have s5 := same_new (o := .tup [.ref p, .ref i]) hq
    have s15 := (((s1.trans s2).trans s3).trans s4).trans s5
    refine k _ _ s15 ⟨q, _, i, x, y, rfl, upd_same, TN.mk (s5 _ _ (s4 _ _ (s3 _ _ (s2 _ _ h1)))), s5 _ _ upd_same, monoT_RT a _ _ _ (keepT_same ((s3.trans s4).trans s5)) rx, monoT_RT b _ _ _ (keepT_same (s4.trans s5)) ry⟩
theorem tSeq_in {t u : TS} {D : Ends} {σ : L2.St} {H : Hp} (h : t { D with nx := u D } σ H) : tSeq t u D σ H := h
theorem tAsg_in {te : TE} {g : TG} {D : Ends} {σ : L2.St} {H : Hp} (h : te σ H fun x H1 => g x σ H1 D.nx) : tAsg te g D σ H := h
theorem tCons_in {ta : TE} {tr : TA} {σ : L2.St} {H : Hp} {Q : List V → Hp → Prop} (h : ta σ H fun x H1 => tr σ H1 fun xs H2 => Q (x :: xs) H2) : tCons ta tr σ H Q := h
theorem tC_in {v : V} {σ : L2.St} {H : Hp} {Q : VK} (h : Q v H) : tC v σ H Q := h
theorem tVar_in {i : Nat} {v : V} {σ : L2.St} {H : Hp} {Q : VK} (e : σ[i]? = some (some v)) (h : Q v H) : tVar i σ H Q := ⟨v, e, h⟩
theorem tCall_in {sp : Sp} {dvs : List V} {E : XK} {t : TA} {σ : L2.St} {H : Hp} {Q : VK} (h : t σ H fun vs H1 => sp (vs ++ dvs) H1 Q E) : tCall sp dvs E t σ H Q := h
theorem tLst_in {t : TA} {σ : L2.St} {H : Hp} {Q : VK} (h : t σ H fun xs H1 => xs.length ≤ sizeLine ∧ ∀ p, H1 p = none → Q (.ref p) (upd H1 p (.lst xs))) : tLst t σ H Q := h
end K27
set_option Elab.async false
set_option linter.all false
set_option maxRecDepth 100000
set_option maxHeartbeats 8000000
namespace K27
open PySem PySem.Spec PyProof.Rows L2
def againP : List (Nat × Nat) := [(0, 0), (1, 0), (2, 1), (3, 0), (0, 1), (4, 0)]
def lowT : Tr := .nd [6] (.lf [2]) (.lf [5, 3])
def fiveT : Tr := .nd [4, 3] (.lf [1, 0]) (.lf [0])
def sixT : Tr := .nd [6] (.lf [2]) (.lf [3])
def chainB (S : List (List Nat)) : List Nat → Bool
  | x :: y :: r => hasB y (parts S x) && chainB S (y :: r)
  | _ => true
theorem chainB_ok {S : List (List Nat)} : ∀ {ws : List Nat}, chainB S ws = true → ∀ (i x y : Nat), ws[i]? = some x → ws[i + 1]? = some y → y ∈ parts S x
  | [], _, i, x, y, h, _ => by simp at h
  | [z], _, i, x, y, _, h => by simp at h
  | a :: b :: r, h, i, x, y, h1, h2 => by
    simp only [chainB, Bool.and_eq_true] at h
    cases i with
    | zero =>
      simp at h1 h2
      subst h1
      subst h2
      exact hasB_iff.mp h.1
    | succ i => exact chainB_ok h.2 i x y (by simpa using h1) (by simpa using h2)
def tokB (S : List (List Nat)) : Tr → Bool
  | .lf w => !w.isEmpty && (w.all fun x => Nat.blt x S.length) && chainB S w && Nat.ble w.length 8
  | .nd w a b => !w.isEmpty && (w.all fun x => Nat.blt x S.length) && chainB S w && Nat.ble w.length 8 && tokB S a && tokB S b
theorem wayB_ok {S : List (List Nat)} {w : List Nat} (h1 : (!w.isEmpty) = true) (h2 : (w.all fun x => Nat.blt x S.length) = true) (h3 : chainB S w = true) : WayOk S w :=
  ⟨fun e => by subst e; simp at h1, fun x hx => blt_ok (List.all_eq_true.mp h2 x hx), chainB_ok h3⟩
theorem tokB_ok {S : List (List Nat)} : ∀ {t : Tr}, tokB S t = true → TOkW S t
  | .lf w, h => by
    simp only [tokB, Bool.and_eq_true] at h
    obtain ⟨⟨⟨h1, h2⟩, h3⟩, h4⟩ := h
    exact ⟨wayB_ok h1 h2 h3, Nat.le_of_ble_eq_true h4⟩
  | .nd w a b, h => by
    simp only [tokB, Bool.and_eq_true] at h
    obtain ⟨⟨⟨⟨⟨h1, h2⟩, h3⟩, h4⟩, h5⟩, h6⟩ := h
    exact ⟨wayB_ok h1 h2 h3, Nat.le_of_ble_eq_true h4, tokB_ok h5, tokB_ok h6⟩
theorem low_tok : TOkW fullS lowT := tokB_ok (by decide +kernel)
theorem five_tok : TOkW knotS fiveT := tokB_ok (by decide +kernel)
theorem six_tok : TOkW fullS sixT := tokB_ok (by decide +kernel)
theorem again_no : (!false && spareB knotS 2 againP) = false := by decide +kernel
theorem low_yes : treeBS fullS 1 lowT = true := by decide +kernel
theorem five_no : treeBS knotS 1 fiveT = false := by decide +kernel
theorem six_no : treeBS fullS 1 sixT = false := by decide +kernel
section
variable {P : Program} {w : World} {K : PySem.W.Frag} {mg : Str → Option Value} {base : Heap}
/-- slots: 0=_law_knot 1=_law_full 2=_law_again 3=_law_low 4=_law_heard; cells:  -/
theorem sc_law_by_hand_right : FnScope ["_law_knot", "_law_full", "_law_again", "_law_low", "_law_heard"] [] (defScope st_law_by_hand_right) := ⟨rfl, rfl, rfl, by decide +kernel, rfl, by decide +kernel, by decide +kernel⟩
def sp_by_hand : Sp := fun vs H Q _ => vs = [] ∧ ∀ H', Same H H' → Q (.bl true) H'
theorem got_law_by_hand_right (T : Txt K mg) : Got P w K mg base 10 "_law_by_hand_right" [] sp_by_hand := by
  refine got_of T.d_law_by_hand_right sc_law_by_hand_right (fun F => (FunD.bindsN F fun _ _ _ _ _ _ us hl => match us, hl with | [], _ => rfl)) (fun vs H Q E h => ?_) (fun f cdv A outer s H vs Q E hr h => ?_)
  · obtain ⟨rfl, _⟩ := h; rfl
  obtain ⟨rfl, kk⟩ := h
  obtain ⟨_, _, m_sparing_cells, G_sparing_cells, k_sparing_cells, b_sparing_cells⟩ := (got_sparing_cells (P := P) (w := w) (base := base) T).ex
  obtain ⟨_, _, m_is_sparing, G_is_sparing, k_is_sparing, b_is_sparing⟩ := (got_is_sparing (P := P) (w := w) (base := base) T).ex
  obtain ⟨_, _, m_is_tree, G_is_tree, k_is_tree, b_is_tree⟩ := (got_is_tree (P := P) (w := w) (base := base) T).ex
  obtain ⟨_, _, m_law_same, G_law_same, k_law_same, b_law_same⟩ := (got_law_same (P := P) (w := w) (base := base) T).ex
  refine ⟨_, (pss_cons (ps_asg (pe_tup (pa_cons (pe_tup (pa_cons (pe_tup pa_nil) (pa_cons (pe_tup (pa_cons pe_int pa_nil)) (pa_cons (pe_tup pa_nil) (pa_cons (pe_tup (pa_cons pe_int (pa_cons pe_int pa_nil))) (pa_cons (pe_tup (pa_cons pe_int (pa_cons pe_int pa_nil))) pa_nil)))))) (pa_cons (pe_tup (pa_cons (pe_tup pa_nil) (pa_cons (pe_tup pa_nil) (pa_cons (pe_tup (pa_cons pe_int (pa_cons pe_int pa_nil))) (pa_cons (pe_tup pa_nil) (pa_cons (pe_tup pa_nil) (pa_cons (pe_tup (pa_cons pe_int (pa_cons pe_int pa_nil))) (pa_cons (pe_tup (pa_cons pe_int (pa_cons pe_int pa_nil))) pa_nil)))))))) pa_nil))) (pg_tup rfl (pgs_cons (pg_name (i := 0) sc_law_by_hand_right.nd rfl (Or.inl rfl)) (pgs_cons (pg_name (i := 1) sc_law_by_hand_right.nd rfl (Or.inl rfl)) pgs_nil))))
      (pss_cons (ps_asg (pe_tup (pa_cons (pe_tup (pa_cons (pe_tup (pa_cons pe_int (pa_cons pe_int pa_nil))) (pa_cons (pe_tup (pa_cons pe_int (pa_cons pe_int pa_nil))) (pa_cons (pe_tup (pa_cons pe_int (pa_cons pe_int pa_nil))) (pa_cons (pe_tup (pa_cons pe_int (pa_cons pe_int pa_nil))) (pa_cons (pe_tup (pa_cons pe_int (pa_cons pe_int pa_nil))) (pa_cons (pe_tup (pa_cons pe_int (pa_cons pe_int pa_nil))) pa_nil))))))) (pa_cons (pe_tup (pa_cons (pe_tup (pa_cons pe_int pa_nil)) (pa_cons (pe_tup (pa_cons (pe_tup (pa_cons (pe_tup (pa_cons pe_int pa_nil)) (pa_cons (pe_tup pa_nil) pa_nil))) (pa_cons (pe_tup (pa_cons (pe_tup (pa_cons pe_int (pa_cons pe_int pa_nil))) (pa_cons (pe_tup pa_nil) pa_nil))) pa_nil))) pa_nil))) pa_nil))) (pg_tup rfl (pgs_cons (pg_name (i := 2) sc_law_by_hand_right.nd rfl (Or.inl rfl)) (pgs_cons (pg_name (i := 3) sc_law_by_hand_right.nd rfl (Or.inl rfl)) pgs_nil))))
      (pss_cons (ps_set (i := 4) sc_law_by_hand_right.nd rfl (Or.inl rfl) (pe_lst (pa_cons (pe_call G_sparing_cells (hr.mono (by first | decide | omega)) rfl m_sparing_cells k_sparing_cells b_sparing_cells .nil pass0 (pa_cons (pv 0) pa_nil)) (pa_cons (pe_call G_sparing_cells (hr.mono (by first | decide | omega)) rfl m_sparing_cells k_sparing_cells b_sparing_cells .nil pass0 (pa_cons (pv 1) pa_nil)) (pa_cons (pe_call G_is_sparing (hr.mono (by first | decide | omega)) rfl m_is_sparing k_is_sparing b_is_sparing .nil pass0 (pa_cons (pv 0) (pa_cons pe_int (pa_cons (pv 2) pa_nil)))) (pa_cons (pe_call G_is_tree (hr.mono (by first | decide | omega)) rfl m_is_tree k_is_tree b_is_tree .nil pass0 (pa_cons (pv 1) (pa_cons pe_int (pa_cons (pv 3) pa_nil)))) (pa_cons (pe_call G_is_tree (hr.mono (by first | decide | omega)) rfl m_is_tree k_is_tree b_is_tree .nil pass0 (pa_cons (pv 0) (pa_cons pe_int (pa_cons (pe_tup (pa_cons (pe_tup (pa_cons pe_int (pa_cons pe_int pa_nil))) (pa_cons (pe_tup (pa_cons (pe_tup (pa_cons (pe_tup (pa_cons pe_int (pa_cons pe_int pa_nil))) (pa_cons (pe_tup pa_nil) pa_nil))) (pa_cons (pe_tup (pa_cons (pe_tup (pa_cons pe_int pa_nil)) (pa_cons (pe_tup pa_nil) pa_nil))) pa_nil))) pa_nil))) pa_nil)))) pa_nil)))))))
      (pss_one (ps_ret (pe_call G_law_same (hr.mono (by first | decide | omega)) rfl m_law_same k_law_same b_law_same .nil pass0 (pa_cons (pe_op op_cat (pv 4) (pe_lst (pa_cons (pe_call G_is_tree (hr.mono (by first | decide | omega)) rfl m_is_tree k_is_tree b_is_tree .nil pass0 (pa_cons (pv 1) (pa_cons pe_int (pa_cons (pe_tup (pa_cons (pe_tup (pa_cons pe_int pa_nil)) (pa_cons (pe_tup (pa_cons (pe_ix (r := rIx K) ix_seq (pe_ix (r := rIx K) ix_seq (pv 3) pe_int (fun _ _ => rfl)) pe_int (fun _ _ => rfl)) (pa_cons (pe_tup (pa_cons (pe_tup (pa_cons pe_int pa_nil)) (pa_cons (pe_tup pa_nil) pa_nil))) pa_nil))) pa_nil))) pa_nil)))) pa_nil))) (pa_cons (pe_lst (pa_cons pe_int (pa_cons pe_int (pa_cons pe_bl (pa_cons pe_bl (pa_cons pe_bl (pa_cons pe_bl pa_nil))))))) pa_nil)))))))), ?_⟩
  refine tSeq_in (tAsg_in (tTup_two ?_))
  refine lit_shape knotS (by decide) (by decide) fun v1 H1 s1 hk1 => ?_
  refine lit_shape fullS (by decide) (by decide) fun v2 H2 s2 hf2 => ?_
  intro p hp
  have s3 := same_new (o := .tup [v1, v2]) hp
  refine ⟨p, _, rfl, SqT.of upd_same, rfl, _, _, rfl, _, _, rfl, rfl, ?_⟩
  have hk3 := monoT_TS _ _ _ _ (keepT_same (s2.trans s3)) hk1
  have hf3 := monoT_TS _ _ _ _ (keepT_same s3) hf2
  have s03 := (s1.trans s2).trans s3
  generalize upd H2 p (.tup [v1, v2]) = H3 at s03 hk3 hf3
  dsimp only
  refine tSeq_in (tAsg_in (tTup_two ?_))
  refine lit_play againP (by decide) fun v3 H4 s4 ha4 => ?_
  refine lit_tree lowT low_tok fun v4 H5 s5 ht5 => ?_
  intro q hq
  have s6 := same_new (o := .tup [v3, v4]) hq
  refine ⟨q, _, rfl, SqT.of upd_same, rfl, _, _, rfl, _, _, rfl, rfl, ?_⟩
  have s36 := (s4.trans s5).trans s6
  have ha6 := monoT_Sq monoT_RP _ _ _ _ (keepT_same (s5.trans s6)) ha4
  have ht6 := monoT_RT lowT _ _ _ (keepT_same s6) ht5
  have hk6 := monoT_TS _ _ _ _ (keepT_same s36) hk3
  have hf6 := monoT_TS _ _ _ _ (keepT_same s36) hf3
  have s06 := s03.trans s36
  generalize upd H5 q (.tup [v3, v4]) = H6 at s06 ha6 ht6 hk6 hf6
  -- heard
  refine ⟨_, rfl, false, _, knotS, rfl, hk6, knot_ok, fun n7 H7 s7 hn7 => ?_⟩
  have e7 := hn7.inj knot_sp
  subst e7
  refine ⟨_, rfl, false, _, fullS, rfl, monoT_TS _ _ _ _ (keepT_same s7) hf6, full_ok, fun n8 H8 s8 hn8 => ?_⟩
  have e8 := hn8.inj full_sp
  subst e8
  have s68 := s7.trans s8
  refine ⟨_, rfl, _, rfl, false, _, _, knotS, 2, againP, rfl, monoT_TS _ _ _ _ (keepT_same s68) hk6, knot_ok, by omega, monoT_Sq monoT_RP _ _ _ _ (keepT_same s68) ha6, by decide, by decide, fun H9 s9 => ?_⟩
  rw [again_no]
  have s69 := s68.trans s9
  refine ⟨_, rfl, _, rfl, false, _, _, fullS, lowT, 1, rfl, monoT_TS _ _ _ _ (keepT_same s69) hf6, by decide, monoT_RT lowT _ _ _ (keepT_same s69) ht6, low_tok, by decide, by decide, fun H10 s10 => ?_⟩
  rw [low_yes]
  have s610 := s69.trans s10
  refine ⟨_, rfl, ?_⟩
  refine tCons_in (tC_in (tCons_in ?_))
  refine lit_tree fiveT five_tok fun v5 H11 s11 ht11 => ?_
  have s611 := s610.trans s11
  refine ⟨false, _, _, knotS, fiveT, 1, rfl, monoT_TS _ _ _ _ (keepT_same s611) hk6, by decide, ht11, five_tok, by decide, by decide, fun H12 s12 => ?_⟩
  rw [five_no]
  have s612 := s611.trans s12
  refine ⟨(by show 5 ≤ sizeLine; decide), fun hd hhd => ?_⟩
  have s13 := same_new (o := .lst [.int ((3 : Nat) : Int), .int ((3 : Nat) : Int), .bl false, .bl true, .bl false]) hhd
  have s613 := s612.trans s13
  have hh13 : upd H12 hd (.lst [.int ((3 : Nat) : Int), .int ((3 : Nat) : Int), .bl false, .bl true, .bl false]) hd = some (.lst [.int ((3 : Nat) : Int), .int ((3 : Nat) : Int), .bl false, .bl true, .bl false]) := upd_same
  generalize upd H12 hd (.lst [.int ((3 : Nat) : Int), .int ((3 : Nat) : Int), .bl false, .bl true, .bl false]) = H13 at s613 hh13
  have ht13 : RT H13 v4 (.nd [6] (.lf [2]) (.lf [5, 3])) := monoT_RT lowT _ _ _ (keepT_same s613) ht6
  obtain ⟨la, lu, lb, lp, lq, rfl, hla, hlu, hlb, hlp, hlq⟩ := ht13
  refine gName_in ?_
  dsimp only
  refine ⟨_, rfl, _, rfl, ?_⟩
  refine tCons_in (tC_in (tCons_in ?_))
  refine tTup_two ?_
  refine lit_ints [6] (by decide) fun p6 H14 hp6 s14 h14 => ?_
  refine tTup_two ?_
  refine ⟨_, rfl, rIx_t (s14 _ _ hla) (j := 1) rfl rfl ?_⟩
  refine rIx_t (s14 _ _ hlb) (j := 0) rfl rfl ?_
  refine lit_tree (S := fullS) (.lf [3]) (tokB_ok (by decide +kernel)) fun v6 H15 s15 ht15 => ?_
  intro p7 hp7
  have s16 := same_new (o := .tup [lp, v6]) hp7
  intro p8 hp8
  have s17 := same_new (o := .tup [.ref p6, .ref p7]) hp8
  have s1317 := ((s14.trans s15).trans s16).trans s17
  have ht17 : RT (upd (upd H15 p7 (.tup [lp, v6])) p8 (.tup [.ref p6, .ref p7])) (.ref p8) sixT :=
    ⟨p8, .ref p6, p7, lp, v6, rfl, upd_same, TN.mk (s17 _ _ (s16 _ _ (s15 _ _ h14))), s17 _ _ upd_same, monoT_RT (.lf [2]) _ _ _ (keepT_same s1317) hlp, monoT_RT (.lf [3]) _ _ _ (keepT_same (s16.trans s17)) ht15⟩
  generalize upd (upd H15 p7 (.tup [lp, v6])) p8 (.tup [.ref p6, .ref p7]) = H17 at s1317 ht17
  have s617 := s613.trans s1317
  refine ⟨false, _, _, fullS, sixT, 1, rfl, monoT_TS _ _ _ _ (keepT_same s617) hf6, by decide, ht17, six_tok, by decide, by decide, fun H18 s18 => ?_⟩
  rw [six_no]
  refine ⟨(by show 1 ≤ sizeLine; decide), fun o ho => ?_⟩
  have s19 := same_new (o := .lst [.bl false]) ho
  refine ⟨hd, o, _, _, rfl, rfl, s19 _ _ (s18 _ _ (s1317 _ _ hh13)), upd_same, (by show 5 + 1 ≤ sizeLine; decide), fun c hc => ?_⟩
  have s20 := same_new (o := .lst ([.int ((3 : Nat) : Int), .int ((3 : Nat) : Int), .bl false, .bl true, .bl false] ++ [.bl false])) hc
  refine ⟨(by show 6 ≤ sizeLine; decide), fun e he => ?_⟩
  have s21 := same_new (o := .lst [.int 3, .int 3, .bl false, .bl true, .bl false, .bl false]) he
  refine ⟨c, e, _, _, rfl, s21 _ _ upd_same, upd_same, .cons trivial (.cons trivial (.cons trivial (.cons trivial (.cons trivial (.cons trivial .nil))))), by decide, fun H22 s22 => ?_⟩
  exact kk _ ((((((s06.trans s617).trans s18).trans s19).trans s20).trans s21).trans s22)
end
end K27
set_option Elab.async false
set_option linter.all false
set_option maxRecDepth 100000
set_option maxHeartbeats 16000000
namespace K27
open PySem PySem.Spec PyProof.Rows L2
theorem catA_of {K : PySem.W.Frag} {H : Hp} {a b : Addr} {xs ys : List V} {Q : VK} (ha : H a = some (.tup xs)) (hb : H b = some (.tup ys)) (hl : xs.length + ys.length ≤ 1000) (k : ∀ p H', Same H H' → H' p = some (.tup (xs ++ ys)) → Q (.ref p) H') : rCatA K (.ref a) (.ref b) H Q :=
  ⟨a, b, xs, ys, rfl, rfl, SqT.of ha, SqT.of hb, by show _ ≤ 2 ^ 24; omega, fun e => by subst e; exact k b H (Same.refl _) hb, fun _ e => by subst e; exact k a H (Same.refl _) (by rw [List.append_nil]; exact ha), fun _ _ p hp => k p _ (same_new hp) upd_same⟩
theorem slA_of {K : PySem.W.Frag} {H : Hp} {a : Addr} {xs : List V} {lo hi : Option Int} {Q : VK} (ha : H a = some (.tup xs)) (k : ∀ p H', Same H H' → H' p = some (.tup (cutV xs lo hi)) → Q (.ref p) H') : rSlA K (.ref a) lo hi H Q :=
  ⟨a, xs, rfl, SqT.of ha, fun ⟨e1, e2⟩ => k a H (Same.refl _) (by unfold cutV; rw [e1, e2, Nat.sub_zero, List.drop_zero, List.take_length]; exact ha), fun _ p hp => k p _ (same_new hp) upd_same⟩
theorem tNoPart_in {σ : L2.St} {H : Hp} {Q : Option Int → Hp → Prop} (h : Q none H) : tNoPart σ H Q := h
theorem cutV_take (xs : List V) {k : Nat} {z : Int} (hz : z = (k : Int)) (h : k ≤ xs.length) : cutV xs none (some z) = xs.take k := by
  subst hz
  unfold cutV
  rw [HT.sIx_none, HT.sIx_nat, Nat.min_eq_left h]
  rfl
theorem cutV_drop (xs : List V) {k : Nat} {z : Int} (hz : z = (k : Int)) (h : k ≤ xs.length) : cutV xs (some z) none = xs.drop k := by
  subst hz
  unfold cutV
  rw [HT.sIx_none, HT.sIx_nat, Nat.min_eq_left h, List.take_of_length_le (by rw [List.length_drop]; omega)]
theorem rgV_nv (S : List (List Nat)) : rgV 0 (S.length : Int) = nv (bitsOf (goal S) S.length) := by
  rw [bits_goal]
  unfold rgV
  rw [Int.sub_zero, Int.toNat_natCast]
  apply List.map_congr_left
  intro i _
  rw [Int.zero_add]
/-- what the items of a list of plays are -/
def RV (H : Hp) (v : V) (x : Bool × List (Nat × Nat)) : Prop := Sq x.1 RP H v x.2
theorem monoS_RV : MonoS RV := fun H H' v x s h => monoS_Sq monoT_RP.s H H' v x.2 s h
def sp_right : Sp := fun vs H Q _ => ∃ (u : Addr) (n : Nat), vs = [.ref u] ∧ UrnAt H u n ∧ n ≤ 10 ∧ ∀ H', Q (.bl true) H'
section
variable {P : Program} {w : World} {K : PySem.W.Frag} {mg : Str → Option Value} {base : Heap}
/-- slots: 0=_law_urn 1=_law_shape_here 2=_law_lone 3=_law_least_here 4=_law_told 5=_law_k 6=_law_some 7=_law_own 8=_law_due 9=_law_lap 10=_law_depth 11=_law_thing 12=_law_good 13=_law_heard; cells: _law_least_here _law_shape_here -/
theorem sc_law_right : FnScope ["_law_urn", "_law_shape_here", "_law_lone", "_law_least_here", "_law_told", "_law_k", "_law_some", "_law_own", "_law_due", "_law_lap", "_law_depth", "_law_thing", "_law_good", "_law_heard"] ["_law_urn"] (defScope st_law_right) := ⟨rfl, rfl, rfl, by decide +kernel, rfl, by decide +kernel, by decide +kernel⟩
theorem got_law_right (T : Txt K mg) : Got P w K mg base 10 "_law_right" ["_law_urn"] sp_right := by
  refine got_of T.d_law_right sc_law_right (fun F => (FunD.bindsN F fun _ _ _ _ _ _ us hl => match us, hl with | [_], _ => rfl)) (fun vs H Q E h => ?_) (fun f cdv A outer s H vs Q E hr h => ?_)
  · obtain ⟨u, n, rfl, _⟩ := h; rfl
  obtain ⟨u, n, rfl, hur, hn, kk⟩ := h
  obtain ⟨_, _, m_law_shape, G_law_shape, k_law_shape, b_law_shape⟩ := (got_law_shape (P := P) (w := w) (base := base) T).ex
  obtain ⟨_, _, m_law_lone_shape, G_law_lone_shape, k_law_lone_shape, b_law_lone_shape⟩ := (got_law_lone_shape (P := P) (w := w) (base := base) T).ex
  obtain ⟨_, _, m_law_least, G_law_least, k_law_least, b_law_least⟩ := (got_law_least (P := P) (w := w) (base := base) T 7).ex
  obtain ⟨_, _, m_sparing_play, G_sparing_play, k_sparing_play, b_sparing_play⟩ := (got_sparing_play (P := P) (w := w) (base := base) T).ex
  obtain ⟨_, _, m_law_lists, G_law_lists, k_law_lists, b_law_lists⟩ := (got_law_lists (P := P) (w := w) (base := base) T).ex
  obtain ⟨_, _, m_law_same, G_law_same, k_law_same, b_law_same⟩ := (got_law_same (P := P) (w := w) (base := base) T).ex
  obtain ⟨_, _, m_sparing_cells, G_sparing_cells, k_sparing_cells, b_sparing_cells⟩ := (got_sparing_cells (P := P) (w := w) (base := base) T).ex
  obtain ⟨_, _, m_web_cells, G_web_cells, k_web_cells, b_web_cells⟩ := (got_web_cells (P := P) (w := w) (base := base) T).ex
  obtain ⟨_, _, m_is_shape, G_is_shape, k_is_shape, b_is_shape⟩ := (got_is_shape (P := P) (w := w) (base := base) T).ex
  obtain ⟨_, _, m_law_spares, G_law_spares, k_law_spares, b_law_spares⟩ := (got_law_spares (P := P) (w := w) (base := base) T).ex
  obtain ⟨_, _, m_is_sparing, G_is_sparing, k_is_sparing, b_is_sparing⟩ := (got_is_sparing (P := P) (w := w) (base := base) T).ex
  obtain ⟨_, _, m_law_take, G_law_take, k_law_take, b_law_take⟩ := (got_law_take (P := P) (w := w) (base := base) T).ex
  obtain ⟨_, _, m_law_rule, G_law_rule, k_law_rule, b_law_rule⟩ := (got_law_rule (P := P) (w := w) (base := base) T 8).ex
  obtain ⟨_, _, m_law_sprout, G_law_sprout, k_law_sprout, b_law_sprout⟩ := (got_law_sprout (P := P) (w := w) (base := base) T 2).ex
  obtain ⟨_, _, m_law_is_tree, G_law_is_tree, k_law_is_tree, b_law_is_tree⟩ := (got_law_is_tree (P := P) (w := w) (base := base) T).ex
  obtain ⟨_, _, m_is_tree, G_is_tree, k_is_tree, b_is_tree⟩ := (got_is_tree (P := P) (w := w) (base := base) T).ex
  refine ⟨_, (pss_cons (ps_asg (pe_tup (pa_cons (pe_call G_law_shape (hr.mono (by first | decide | omega)) rfl m_law_shape k_law_shape b_law_shape .nil pass0 (pa_cons (pv 0) (pa_cons pe_int pa_nil))) (pa_cons (pe_call G_law_lone_shape (hr.mono (by first | decide | omega)) rfl m_law_lone_shape k_law_lone_shape b_law_lone_shape .nil pass0 (pa_cons (pv 0) pa_nil)) pa_nil))) (pg_tup rfl (pgs_cons (pg_name (i := 1) sc_law_right.nd rfl (Or.inr rfl)) (pgs_cons (pg_name (i := 2) sc_law_right.nd rfl (Or.inl rfl)) pgs_nil))))
      (pss_cons (ps_asg (pe_tup (pa_cons (pe_call G_law_least (hr.mono (by first | decide | omega)) rfl m_law_least k_law_least b_law_least .nil pass0 (pa_cons (pv 1) (pa_cons (pe_tupRg (by rfl) (by rfl) T.z_tuple (prg_1 (by rfl) T.z_range (pe_callB (r := rLenS K) call_len_seq (by rfl) T.z_len (by decide +kernel) (pa_cons (pv 1) pa_nil)))) (pa_cons pe_dnewT pa_nil)))) (pa_cons (pe_call G_sparing_play (hr.mono (by first | decide | omega)) rfl m_sparing_play k_sparing_play b_sparing_play .nil pass0 (pa_cons (pe_call G_law_lists (hr.mono (by first | decide | omega)) rfl m_law_lists k_law_lists b_law_lists .nil pass0 (pa_cons (pv 1) pa_nil)) pa_nil)) pa_nil))) (pg_tup rfl (pgs_cons (pg_name (i := 3) sc_law_right.nd rfl (Or.inr rfl)) (pgs_cons (pg_name (i := 4) sc_law_right.nd rfl (Or.inl rfl)) pgs_nil))))
      (pss_cons (ps_if (pt_not (pt_val (pe_call G_law_same (hr.mono (by first | decide | omega)) rfl m_law_same k_law_same b_law_same .nil pass0 (pa_cons (pe_lst (pa_cons (pe_call G_sparing_cells (hr.mono (by first | decide | omega)) rfl m_sparing_cells k_sparing_cells b_sparing_cells .nil pass0 (pa_cons (pv 1) pa_nil)) (pa_cons (pe_call G_sparing_cells (hr.mono (by first | decide | omega)) rfl m_sparing_cells k_sparing_cells b_sparing_cells .nil pass0 (pa_cons (pe_call G_law_lists (hr.mono (by first | decide | omega)) rfl m_law_lists k_law_lists b_law_lists .nil pass0 (pa_cons (pv 1) pa_nil)) pa_nil)) (pa_cons (pe_call G_is_shape (hr.mono (by first | decide | omega)) rfl m_is_shape k_is_shape b_is_shape .nil pass0 (pa_cons (pv 1) pa_nil)) pa_nil)))) (pa_cons (pe_lst (pa_cons (pv 3) (pa_cons (pv 3) (pa_cons pe_bl pa_nil)))) pa_nil))))) (pss_one (ps_ret pe_bl)) pss_nil)
      (pss_cons (ps_if (pt_not (pt_val (pe_call G_law_spares (hr.mono (by first | decide | omega)) rfl m_law_spares k_law_spares b_law_spares .nil pass0 (pa_cons (pv 1) (pa_cons (pv 3) (pa_cons (pv 4) pa_nil)))))) (pss_one (ps_ret pe_bl)) pss_nil)
      (pss_cons (ps_set (i := 5) sc_law_right.nd rfl (Or.inl rfl) (pe_call G_law_take (hr.mono (by first | decide | omega)) rfl m_law_take k_law_take b_law_take .nil pass0 (pa_cons (pv 0) (pa_cons (pe_callB (r := rLenS K) call_len_seq (by rfl) T.z_len (by decide +kernel) (pa_cons (pv 4) pa_nil)) pa_nil))))
      (pss_cons (ps_set (i := 6) sc_law_right.nd rfl (Or.inl rfl) (pe_lst (pa_cons (pv 4) (pa_cons (pe_callTy (r := rListOf K) call_list_of (by rfl) T.z_list (by decide +kernel) (pa_cons (pv 4) pa_nil)) (pa_cons (pe_op (r := rCatA K) op_catA (pe_op (r := rCatA K) op_catA (pe_slice (r := rSlA K) sl_tupA (pv 4) po_none (po_some (pv 5))) (pe_tup (pa_cons (pe_ix (r := rIx K) ix_seq (pv 4) (pv 5) (fun _ _ => rfl)) pa_nil))) (pe_slice (r := rSlA K) sl_tupA (pv 4) (po_some (pv 5)) po_none)) (pa_cons (pe_revT (pv 4)) (pa_cons (pe_op (r := rCatA K) op_catA (pe_slice (r := rSlA K) sl_tupA (pv 4) po_none (po_some (pv 5))) (pe_slice (r := rSlA K) sl_tupA (pv 4) (po_some (pe_op op_add (pv 5) pe_int)) po_none)) pa_nil)))))))
      (pss_cons (ps_expr (pe_bm PySem.F.plainAttrs_list PySem.F.slot_list_append PySem.F.type_list_append mt_append (pv 6) (pa_cons (pe_op (r := rCatA K) op_catA (pe_op (r := rCatA K) op_catA (pe_slice (r := rSlA K) sl_tupA (pv 4) po_none (po_some (pv 5))) (pe_tup (pa_cons (pe_tup (pa_cons (pe_ix (r := rIx K) ix_seq (pe_ix (r := rIx K) ix_seq (pv 4) (pv 5) (fun _ _ => rfl)) pe_int (fun _ _ => rfl)) (pa_cons (pe_op op_mod (pe_op op_add (pe_ix (r := rIx K) ix_seq (pe_ix (r := rIx K) ix_seq (pv 4) (pv 5) (fun _ _ => rfl)) pe_int (fun _ _ => rfl)) pe_int) (pv 3)) pa_nil))) pa_nil))) (pe_slice (r := rSlA K) sl_tupA (pv 4) (po_some (pe_op op_add (pv 5) pe_int)) po_none)) pa_nil)))
      (pss_cons (ps_if (pt_not (pt_val (pe_call G_law_same (hr.mono (by first | decide | omega)) rfl m_law_same k_law_same b_law_same .nil pass0 (pa_cons (pe_lc (own := [("_law_own", 7)]) (g := (gName 7)) (tt := tYes) (wi := iList K _) rfl sc_law_right.nd (pi_list (pv 6)) (blkOk_by (N := ["_law_urn", "_law_shape_here", "_law_lone", "_law_least_here", "_law_told", "_law_k", "_law_some", "_law_own", "_law_due", "_law_lap", "_law_depth", "_law_thing", "_law_good", "_law_heard"]) (sc := (defScope st_law_right)) (by decide +kernel)) (fun _ _ _ _ _ => (pg_name (i := 7) sc_law_right.nd rfl (Or.inl rfl))) (fun _ _ _ _ _ => pts_nil) (fun _ _ _ _ _ => (pe_call G_is_sparing (hr.mono (by first | decide | omega)) rfl m_is_sparing k_is_sparing b_is_sparing .nil pass0 (pa_cons (pv 1) (pa_cons (pv 3) (pa_cons (pv 7) pa_nil)))))) (pa_cons (pe_lc (own := [("_law_own", 7)]) (g := (gName 7)) (tt := tYes) (wi := iList K _) rfl sc_law_right.nd (pi_list (pv 6)) (blkOk_by (N := ["_law_urn", "_law_shape_here", "_law_lone", "_law_least_here", "_law_told", "_law_k", "_law_some", "_law_own", "_law_due", "_law_lap", "_law_depth", "_law_thing", "_law_good", "_law_heard"]) (sc := (defScope st_law_right)) (by decide +kernel)) (fun _ _ _ _ _ => (pg_name (i := 7) sc_law_right.nd rfl (Or.inl rfl))) (fun _ _ _ _ _ => pts_nil) (fun _ _ _ _ _ => (pe_call G_law_spares (hr.mono (by first | decide | omega)) rfl m_law_spares k_law_spares b_law_spares .nil pass0 (pa_cons (pv 1) (pa_cons (pv 3) (pa_cons (pv 7) pa_nil)))))) pa_nil))))) (pss_one (ps_ret pe_bl)) pss_nil)
      (pss_cons (ps_set (i := 8) sc_law_right.nd rfl (Or.inl rfl) (pe_call G_law_rule (hr.mono (by first | decide | omega)) rfl m_law_rule k_law_rule b_law_rule .nil pass0 (pa_cons (pv 2) (pa_cons (pe_op op_sub (pe_callB (r := rLenS K) call_len_seq (by rfl) T.z_len (by decide +kernel) (pa_cons (pv 2) pa_nil)) pe_int) pa_nil))))
      (pss_cons (ps_if (pt_not (pt_val (pe_call G_law_same (hr.mono (by first | decide | omega)) rfl m_law_same k_law_same b_law_same .nil pass0 (pa_cons (pe_lst (pa_cons (pe_call G_web_cells (hr.mono (by first | decide | omega)) rfl m_web_cells k_web_cells b_web_cells .nil pass0 (pa_cons (pv 2) pa_nil)) (pa_cons (pe_call G_sparing_cells (hr.mono (by first | decide | omega)) rfl m_sparing_cells k_sparing_cells b_sparing_cells .nil pass0 (pa_cons (pv 2) pa_nil)) (pa_cons (pe_call G_is_shape (hr.mono (by first | decide | omega)) rfl m_is_shape k_is_shape b_is_shape .nil pass0 (pa_cons (pv 2) pa_nil)) pa_nil)))) (pa_cons (pe_lst (pa_cons (pv 8) (pa_cons (pv 8) (pa_cons pe_bl pa_nil)))) pa_nil))))) (pss_one (ps_ret pe_bl)) pss_nil)
      (pss_cons (ps_if (pt_cmpR op_gt (pe_call G_web_cells (hr.mono (by first | decide | omega)) rfl m_web_cells k_web_cells b_web_cells .nil pass0 (pa_cons (pv 1) pa_nil)) (pv 3) (nomark _)) (pss_one (ps_ret pe_bl)) pss_nil)
      (pss_cons (ps_for PassesOwn.never rfl (pi_tup (pe_tup (pa_cons (pv 1) (pa_cons (pv 2) (pa_cons (pe_tup (pa_cons (pe_tup pa_nil) (pa_cons (pe_tup pa_nil) (pa_cons (pe_tup (pa_cons pe_int (pa_cons pe_int pa_nil))) (pa_cons (pe_tup pa_nil) (pa_cons (pe_tup pa_nil) (pa_cons (pe_tup (pa_cons pe_int (pa_cons pe_int pa_nil))) (pa_cons (pe_tup (pa_cons pe_int (pa_cons pe_int pa_nil))) pa_nil)))))))) pa_nil))))) (pg_name (i := 7) sc_law_right.nd rfl (Or.inl rfl)) (pss_one (ps_for PassesOwn.never rfl (pi_range1 (by rfl) T.z_range (pa_cons pe_int pa_nil)) (pg_name (i := 9) sc_law_right.nd rfl (Or.inl rfl)) (pss_cons (ps_set (i := 10) sc_law_right.nd rfl (Or.inl rfl) (pe_call G_law_take (hr.mono (by first | decide | omega)) rfl m_law_take k_law_take b_law_take .nil pass0 (pa_cons (pv 0) (pa_cons pe_int pa_nil))))
      (pss_cons (ps_set (i := 11) sc_law_right.nd rfl (Or.inl rfl) (pe_call G_law_sprout (hr.mono (by first | decide | omega)) rfl m_law_sprout k_law_sprout b_law_sprout .nil pass0 (pa_cons (pv 0) (pa_cons (pv 7) (pa_cons (pe_op op_sub (pe_op op_sub (pe_callB (r := rLenS K) call_len_seq (by rfl) T.z_len (by decide +kernel) (pa_cons (pv 7) pa_nil)) pe_int) (pe_call G_law_take (hr.mono (by first | decide | omega)) rfl m_law_take k_law_take b_law_take .nil pass0 (pa_cons (pv 0) (pa_cons (pe_callB (call_min2 rfl) (by rfl) T.z_min (by decide +kernel) (pa_cons pe_int (pa_cons (pe_callB (r := rLenS K) call_len_seq (by rfl) T.z_len (by decide +kernel) (pa_cons (pv 7) pa_nil)) pa_nil))) pa_nil)))) (pa_cons (pv 10) pa_nil))))))
      (pss_cons (ps_set (i := 12) sc_law_right.nd rfl (Or.inl rfl) (pe_call G_law_is_tree (hr.mono (by first | decide | omega)) rfl m_law_is_tree k_law_is_tree b_law_is_tree .nil pass0 (pa_cons (pv 7) (pa_cons (pv 10) (pa_cons (pv 11) pa_nil)))))
      (pss_cons (ps_set (i := 13) sc_law_right.nd rfl (Or.inl rfl) (pe_lst (pa_cons (pe_call G_is_tree (hr.mono (by first | decide | omega)) rfl m_is_tree k_is_tree b_is_tree .nil pass0 (pa_cons (pv 7) (pa_cons (pv 10) (pa_cons (pv 11) pa_nil)))) (pa_cons (pe_call G_is_tree (hr.mono (by first | decide | omega)) rfl m_is_tree k_is_tree b_is_tree .nil pass0 (pa_cons (pe_call G_law_lists (hr.mono (by first | decide | omega)) rfl m_law_lists k_law_lists b_law_lists .nil pass0 (pa_cons (pv 7) pa_nil)) (pa_cons (pe_op op_add (pv 10) pe_int) (pa_cons (pv 11) pa_nil)))) pa_nil))))
      (pss_one (ps_if (PW.pt (pw_or (pt_not (pt_val (pe_call G_law_same (hr.mono (by first | decide | omega)) rfl m_law_same k_law_same b_law_same .nil pass0 (pa_cons (pv 13) (pa_cons (pe_lst (pa_cons (pv 12) (pa_cons pe_bl pa_nil))) pa_nil))))) (pw_or1 (PW.pt (pw_and (pt_val (pv 12)) (pw_and1 (pt_cmpR op_le (pe_call G_web_cells (hr.mono (by first | decide | omega)) rfl m_web_cells k_web_cells b_web_cells .nil pass0 (pa_cons (pv 7) pa_nil)) (pv 10) (nomark _)))))))) (pss_one (ps_ret pe_bl)) pss_nil)))))))))
      (pss_one (ps_ret pe_bl)))))))))))))), ?_⟩
  -- the two shapes
  refine tSeq_in (tAsg_in (tTup_two ?_))
  refine ⟨_, rfl, u, n, rfl, hur, by omega, fun v1 H1 S s1 hu1 hS1 ok hS7 => ?_⟩
  refine ⟨_, rfl, u, _, rfl, hu1, by omega, fun v2 H2 ms m1 m5 mr s2 hu2 hL2 => ?_⟩
  obtain ⟨okL, webL, spL⟩ := lone_ok m1 m5 mr
  generalize loneOf ms = L at hL2 okL webL spL
  have hS2 := monoT_TS _ _ _ _ (hu1.keepT s2) hS1
  intro p hp
  have s3 := same_new (o := .tup [v1, v2]) hp
  refine ⟨p, _, rfl, SqT.of upd_same, rfl, _, _, rfl, _, _, rfl, rfl, ?_⟩
  have hS3 := monoT_TS _ _ _ _ (keepT_same s3) hS2
  have hL3 := monoT_TS _ _ _ _ (keepT_same s3) hL2
  have hu3 := hu2.same s3
  clear hS1 hS2 hL2 hu1 hu2
  generalize upd H2 p (.tup [v1, v2]) = H3 at s3 hS3 hL3 hu3
  -- least, told
  dsimp only
  refine tSeq_in (tAsg_in (tTup_two ?_))
  obtain ⟨a, vs0, rfl, ha3, pr3⟩ := id hS3
  have ha3 : H3 a = some (.tup vs0) := ha3
  have hlv : vs0.length = S.length := Paired.length pr3
  have few := ok.few
  have pos := ok.pos
  refine ⟨_, rfl, _, rfl, a, _, rfl, .inr (SqT.of ha3), _, rfl, RgOk.of_le (by omega) (by omega) (by omega) (by omega), fun q hq => ?_⟩
  rw [hlv, rgV_nv]
  have s4 := same_new (o := .tup (nv (bitsOf (goal S) S.length))) hq
  intro d hd
  have s5 := s4.trans (same_new (o := .dT []) hd)
  have hq5 := same_new (o := .dT []) hd _ _ (show upd H3 q (.tup (nv (bitsOf (goal S) S.length))) q = _ from upd_same)
  have hd3 := same_none s4 hd
  have hdd : upd (upd H3 q (.tup (nv (bitsOf (goal S) S.length)))) d (.dT []) d = some (.dT []) := upd_same
  generalize upd (upd H3 q (.tup (nv (bitsOf (goal S) S.length)))) d (.dT []) = H5 at s5 hq5 hdd
  have hFL : FL 7 = 8660 := by decide
  refine ⟨.ref a, q, d, S, goal S, [], rfl, monoT_TS _ _ _ _ (keepT_same s5) hS3, ok, hq5, ?_, goal_lt S, down_goal ok, hdd, ?_, ?_, fun z H6 kvs6 hz s6 hd6 _ _ => ?_⟩
  · have := bits_le (goal S) S.length
    omega
  · intro m v _ hv
    cases hv
  · rw [hFL]; simp
  have k36 : KeepT H3 H6 := (keepT_same s5).trans (keepT_X s6 fun xs q => by rw [hdd] at q; cases q)
  have nud : u ≠ d := by
    obtain ⟨xs, hx⟩ := hu3.lst
    rintro rfl
    rw [hx] at hd3
    cases hd3
  have hu6 : UrnAt H6 u (n + 106) := by
    obtain ⟨x, y, z, h1, h2⟩ := hu3.same s5
    exact ⟨x, y, z, s6 _ _ nud h1, h2⟩
  have hS6 := monoT_TS _ _ _ _ k36 hS3
  have hL6 := monoT_TS _ _ _ _ k36 hL3
  clear hdd hd6 hq5 hd hq hd3 s4 s5 s6 k36 hS3 hL3 hu3 ha3 pr3 hlv
  refine ⟨_, rfl, .ref a, S, rfl, hS6, by omega, ok.small, fun v5 H7 s7 hl7 => ?_⟩
  refine ⟨true, v5, S, rfl, hl7, ok, fun n1 v6 H8 ps s8 hn1 hps8 gd => ?_⟩
  have ez := isL_sp ok hz hn1
  subst ez
  intro p2 hp2
  have s9 := same_new (o := .tup [.int ((z : Nat) : Int), v6]) hp2
  refine ⟨p2, _, rfl, SqT.of upd_same, rfl, _, _, rfl, _, _, rfl, rfl, ?_⟩
  have s69 := (s7.trans s8).trans s9
  have hS9 := monoT_TS _ _ _ _ (keepT_same s69) hS6
  have hL9 := monoT_TS _ _ _ _ (keepT_same s69) hL6
  have hu9 := hu6.same s69
  have hps9 := monoT_Sq monoT_RP _ _ _ _ (keepT_same s9) hps8
  clear hS6 hL6 hu6 hps8 hl7 s7 s8 s69
  generalize upd H8 p2 (.tup [.int ((z : Nat) : Int), v6]) = H9 at s9 hS9 hL9 hu9 hps9
  clear s9
  -- the cells
  have hzS := hn1.le ok
  refine ⟨_, rfl, false, _, S, rfl, hS9, ok, fun n2 H10 s10 hn2 => ?_⟩
  have e2 := hn2.inj hn1
  subst e2
  refine ⟨_, rfl, .ref a, S, rfl, monoT_TS _ _ _ _ (keepT_same s10) hS9, by omega, ok.small, fun v7 H11 s11 hl11 => ?_⟩
  refine ⟨true, v7, S, rfl, hl11, ok, fun n3 H12 s12 hn3 => ?_⟩
  have e3 := hn3.inj hn1
  subst e3
  have s912 := (s10.trans s11).trans s12
  refine ⟨_, rfl, .ref a, S, rfl, monoT_TS _ _ _ _ (keepT_same s912) hS9, ok, fun H13 s13 => ?_⟩
  refine ⟨(by show 3 ≤ sizeLine; decide), fun g1 hg1 => ?_⟩
  have s14 := same_new (o := .lst [.int ((n3 : Nat) : Int), .int ((n3 : Nat) : Int), .bl true]) hg1
  refine ⟨_, rfl, _, rfl, (by show 3 ≤ sizeLine; decide), fun g2 hg2 => ?_⟩
  have s15 := same_new (o := .lst [.int ((n3 : Nat) : Int), .int ((n3 : Nat) : Int), .bl true]) hg2
  refine ⟨g1, g2, _, _, rfl, s15 _ _ upd_same, upd_same, (.cons trivial (.cons trivial (.cons trivial .nil))), by simp, fun H16 s16 => ?_⟩
  rw [decide_eq_true rfl]
  refine ⟨_, rfl, iteF ?_⟩
  have s916 := (((s912.trans s13).trans s14).trans s15).trans s16
  have hS16 := monoT_TS _ _ _ _ (keepT_same s916) hS9
  have hL16 := monoT_TS _ _ _ _ (keepT_same s916) hL9
  have hu16 := hu9.same s916
  have hps16 := monoT_Sq monoT_RP _ _ _ _ (keepT_same s916) hps9
  clear hS9 hL9 hu9 hps9 hl11 s10 s11 s12 s13 s14 s15 s16 s912 s916 hg1 hg2
  -- told is a sparing play
  have hgl : ps.length ≤ 7 := by rw [gd.len]; exact hS7
  have hgpos : 0 < ps.length := by rw [gd.len]; exact pos
  refine ⟨_, rfl, _, rfl, _, rfl, false, .ref a, v6, S, n3, ps, rfl, hS16, ok, by omega, hps16, by omega, gd.lt, fun H17 s17 => ?_⟩
  rw [spareB_good gd]
  refine ⟨_, rfl, iteF ?_⟩
  obtain ⟨b, us, rfl, hb16, pp16⟩ := hps16
  have hb17 := s17 _ _ hb16
  have hb17 : H17 b = some (.tup us) := hb17
  have pp17 := pmap pp16 fun _ _ r => monoT_RP _ _ _ _ (keepT_same s17) r
  have hS17 := monoT_TS _ _ _ _ (keepT_same s17) hS16
  have hL17 := monoT_TS _ _ _ _ (keepT_same s17) hL16
  have hu17 := hu16.same s17
  clear hS16 hL16 hu16 hb16 pp16 s17
  have hul : us.length = ps.length := Paired.length pp17
  refine ⟨_, rfl, _, rfl, b, _, rfl, .inr (SqT.of hb17), ?_⟩
  refine ⟨u, _, us.length, rfl, hu17, by omega, by omega, by omega, fun k H18 hk s18 hu18 => ?_⟩
  obtain ⟨xsu, hxu⟩ := hu17.lst
  have nbu : b ≠ u := by rintro rfl; rw [hb17] at hxu; cases hxu
  have hb18 := s18 _ _ nbu hb17
  have pp18 := pmap pp17 fun _ _ r => monoT_RP _ _ _ _ (hu17.keepT s18) r
  have hS18 := monoT_TS _ _ _ _ (hu17.keepT s18) hS17
  have hL18 := monoT_TS _ _ _ _ (hu17.keepT s18) hL17
  clear hS17 hL17 hb17 pp17 s18
  -- the plays
  have hkp : k < ps.length := by omega
  have hxk : ps[k]? = some ps[k] := List.getElem?_eq_getElem hkp
  have hxm : ps[k] ∈ ps := List.getElem_mem _
  generalize ps[k] = xc at hxk hxm
  obtain ⟨x, c⟩ := xc
  obtain ⟨hxS, hcz⟩ := gd.lt _ hxm
  have hxS : x < S.length := hxS
  have hcz : c < n3 := hcz
  obtain ⟨y, hy, t0, ey, ht0⟩ := pget pp18 hxk
  subst ey
  have ht0 : H18 t0 = some (.tup [.int (x : Int), .int (c : Int)]) := ht0
  refine gName_in ?_
  dsimp only
  refine ⟨_, rfl, _, rfl, b, _, rfl, .inr (SqT.of hb18), fun lb hlb => ?_⟩
  have s19 := same_new (o := .lst us) hlb
  have hlb19 : upd H18 lb (.lst us) lb = some (.lst us) := upd_same
  generalize upd H18 lb (.lst us) = H19 at s19 hlb19
  -- told[:k] + (told[k],) + told[k:]
  refine ⟨_, rfl, _, rfl, _, rfl, slA_of (s19 _ _ hb18) fun c1 H20 s20 hc1 => ?_⟩
  rw [cutV_take us (k := k) rfl (by omega)] at hc1
  have s1920 := s19.trans s20
  refine ⟨_, rfl, _, rfl, rIx_t (s1920 _ _ hb18) (j := k) rfl hy ?_⟩
  refine ⟨(by show 1 ≤ sizeLine; decide), fun c2 hc2 => ?_⟩
  have s21 := same_new (o := .tup [.ref t0]) hc2
  refine catA_of (s21 _ _ hc1) upd_same (by rw [List.length_take]; simp; omega) fun c3 H22 s22 hc3 => ?_
  have s1822 := (s1920.trans s21).trans s22
  refine ⟨_, rfl, _, rfl, _, rfl, tNoPart_in (slA_of (s1822 _ _ hb18) fun c4 H23 s23 hc4 => ?_)⟩
  rw [cutV_drop us (k := k) rfl (by omega)] at hc4
  refine catA_of (s23 _ _ hc3) hc4 (by rw [List.length_append, List.length_take, List.length_drop]; simp; omega) fun i3 H24 s24 hi3 => ?_
  have s1824 := (s1822.trans s23).trans s24
  have hlb24 := ((((s20.trans s21).trans s22).trans s23).trans s24) _ _ hlb19
  clear hc1 hc2 hc3 hc4 s20 s21 s22 s23 s24 s1920 s1822 s19 hlb19 hlb
  -- told[::-1]
  refine ⟨_, rfl, b, _, rfl, SqT.of (s1824 _ _ hb18), fun i4 hi4 => ?_⟩
  have s25 := same_new (o := .tup us.reverse) hi4
  have hi4' : upd H24 i4 (.tup us.reverse) i4 = some (.tup us.reverse) := upd_same
  have hi3' := s25 _ _ hi3
  have hlb25 := s25 _ _ hlb24
  have s1825 := s1824.trans s25
  generalize upd H24 i4 (.tup us.reverse) = H25 at s25 hi4' hi3' hlb25 s1825
  clear hi3 hi4 hlb24 s1824 s25
  -- told[:k] + told[k + 1:]
  refine ⟨_, rfl, _, rfl, _, rfl, slA_of (s1825 _ _ hb18) fun c5 H26 s26 hc5 => ?_⟩
  rw [cutV_take us (k := k) rfl (by omega)] at hc5
  refine ⟨_, rfl, _, rfl, _, _, rfl, rfl, _, rfl, tNoPart_in (slA_of (s26 _ _ (s1825 _ _ hb18)) fun c6 H27 s27 hc6 => ?_)⟩
  rw [cutV_drop us (k := k + 1) (by omega) (by omega)] at hc6
  refine catA_of (s27 _ _ hc5) hc6 (by rw [List.length_take, List.length_drop]; omega) fun i5 H28 s28 hi5 => ?_
  have s2528 := (s26.trans s27).trans s28
  have s1828 := s1825.trans s2528
  refine ⟨(by show 5 ≤ sizeLine; decide), fun sm hsm => ?_⟩
  have s29 := same_new (o := .lst [.ref b, .ref lb, .ref i3, .ref i4, .ref i5]) hsm
  have s1829 := s1828.trans s29
  have hsm29 : upd H28 sm (.lst [.ref b, .ref lb, .ref i3, .ref i4, .ref i5]) sm = some (.lst [.ref b, .ref lb, .ref i3, .ref i4, .ref i5]) := upd_same
  have hb29 := s1829 _ _ hb18
  have hlb29 := (s2528.trans s29) _ _ hlb25
  have hi329 := (s2528.trans s29) _ _ hi3'
  have hi429 := (s2528.trans s29) _ _ hi4'
  have hi529 := s29 _ _ hi5
  generalize upd H28 sm (.lst [.ref b, .ref lb, .ref i3, .ref i4, .ref i5]) = H29 at s29 s1829 hsm29 hb29 hlb29 hi329 hi429 hi529
  have nlb : lb ≠ sm := ne_of_none (s2528 _ _ hlb25) hsm
  have nsu : sm ≠ u := by
    obtain ⟨xs, hx⟩ := (hu18.same s1828).lst
    rintro rfl
    rw [hx] at hsm
    cases hsm
  clear hsm s29 s1828 s2528 s26 s27 s28 hc5 hc6 hi5 hi3' hi4' hlb25 s1825
  refine gName_in ?_
  dsimp only
  -- the sixth
  refine ⟨_, rfl, .inl ⟨rfl, _, SqL.of hsm29⟩, ?_⟩
  refine ⟨_, rfl, _, rfl, _, rfl, slA_of hb29 fun c7 H30 s30 hc7 => ?_⟩
  rw [cutV_take us (k := k) rfl (by omega)] at hc7
  have ht030 := s30 _ _ (s1829 _ _ ht0)
  refine ⟨_, rfl, _, rfl, rIx_t (s30 _ _ hb29) (j := k) rfl hy ?_⟩
  refine rIx_t ht030 (j := 0) rfl rfl ?_
  refine ⟨_, rfl, _, rfl, rIx_t (s30 _ _ hb29) (j := k) rfl hy ?_⟩
  refine rIx_t ht030 (j := 1) rfl rfl ?_
  refine ⟨_, _, rfl, rfl, ?_⟩
  refine ⟨_, rfl, _, _, rfl, rfl, (by show (0 : Int) < (n3 : Int); omega), (by show 2 ≤ sizeLine; decide), fun c8 hc8 => ?_⟩
  have em : V.int (((c : Int) + 1) % (n3 : Int)) = V.int ((((c + 1) % n3 : Nat) : Nat) : Int) := by
    congr 1
  have s31 := same_new (o := .tup [.int (x : Int), .int (((c : Int) + 1) % (n3 : Int))]) hc8
  have hc831 : upd H30 c8 (.tup [.int (x : Int), .int (((c : Int) + 1) % (n3 : Int))]) c8 = some (.tup [.int (x : Int), .int ((((c + 1) % n3 : Nat) : Nat) : Int)]) := by
    rw [upd_same, em]
  have s2931 := s30.trans s31
  have hc731 := s31 _ _ hc7
  generalize upd H30 c8 (.tup [.int (x : Int), .int (((c : Int) + 1) % (n3 : Int))]) = H31 at s31 hc831 s2931 hc731
  refine ⟨(by show 1 ≤ sizeLine; decide), fun c9 hc9 => ?_⟩
  have s32 := same_new (o := .tup [.ref c8]) hc9
  refine catA_of (s32 _ _ hc731) upd_same (by rw [List.length_take]; simp; omega) fun c10 H33 s33 hc10 => ?_
  have s2933 := (s2931.trans s32).trans s33
  refine ⟨_, rfl, _, rfl, _, _, rfl, rfl, _, rfl, tNoPart_in (slA_of (s2933 _ _ hb29) fun c11 H34 s34 hc11 => ?_)⟩
  rw [cutV_drop us (k := k + 1) (by omega) (by omega)] at hc11
  refine catA_of (s34 _ _ hc10) hc11 (by rw [List.length_append, List.length_take, List.length_drop]; simp; omega) fun i6 H35 s35 hi6 => ?_
  have s2935 := (s2933.trans s34).trans s35
  have hsm35 := s2935 _ _ hsm29
  refine ⟨sm, _, _, rfl, rfl, hsm35, (by show 5 < sizeLine; decide), ?_⟩
  have k36 := keepT_lst (o := .lst ([.ref b, .ref lb, .ref i3, .ref i4, .ref i5] ++ [.ref i6])) hsm35
  have hu36 : UrnAt (upd H35 sm (.lst ([.ref b, .ref lb, .ref i3, .ref i4, .ref i5] ++ [.ref i6]))) u (n + 107) := by
    obtain ⟨x, y, z, h1, h2⟩ := (hu18.same (s1829.trans s2935)).le (show n + 106 + 1 ≤ n + 107 by omega)
    exact ⟨x, y, z, by rw [upd_ne nsu.symm]; exact h1, h2⟩
  have hsm36 : upd H35 sm (.lst ([.ref b, .ref lb, .ref i3, .ref i4, .ref i5] ++ [.ref i6])) sm = some (.lst [.ref b, .ref lb, .ref i3, .ref i4, .ref i5, .ref i6]) := upd_same
  have hlb36 : upd H35 sm (.lst ([.ref b, .ref lb, .ref i3, .ref i4, .ref i5] ++ [.ref i6])) lb = some (.lst us) := by rw [upd_ne nlb]; exact s2935 _ _ hlb29
  have K36 := ((keepT_same (s1829.trans s2935)).trans k36)
  have hb36 := k36 _ _ (s2935 _ _ hb29)
  have hi336 := k36 _ _ (s2935 _ _ hi329)
  have hi436 := k36 _ _ (s2935 _ _ hi429)
  have hi536 := k36 _ _ (s2935 _ _ hi529)
  have hi636 := k36 _ _ hi6
  have hc836 := k36 _ _ ((s32.trans (s33.trans (s34.trans s35))) _ _ hc831)
  have ht036 := K36 _ _ ht0
  have pp36 := pmap pp18 fun _ _ r => monoT_RP _ _ _ _ K36 r
  have hS36 := monoT_TS _ _ _ _ K36 hS18
  have hL36 := monoT_TS _ _ _ _ K36 hL18
  generalize upd H35 sm (.lst ([.ref b, .ref lb, .ref i3, .ref i4, .ref i5] ++ [.ref i6])) = H36 at hu36 hsm36 hlb36 K36 hb36 hi336 hi436 hi536 hi636 hc836 ht036 pp36 hS36 hL36 k36
  clear k36 K36 hb29 hi329 hi429 hi529 hlb29 hsm29 hsm35 s2935 s2933 s2931 s30 s31 s32 s33 s34 s35 s1829 hc7 hc10 hc11 hi6 hc831 hc731 hc8 hc9 ht030 hu18 hS18 hL18 pp18 hb18 ht0 nlb nsu
  have hRV : Paired (RV H36) [.ref b, .ref lb, .ref i3, .ref i4, .ref i5, .ref i6] [(false, ps), (true, ps), (false, ps.take k ++ [(x, c)] ++ ps.drop k), (false, ps.reverse), (false, ps.take k ++ ps.drop (k + 1)), (false, ps.take k ++ [(x, (c + 1) % n3)] ++ ps.drop (k + 1))] :=
    .cons ⟨b, us, rfl, hb36, pp36⟩ (.cons ⟨lb, us, rfl, hlb36, pp36⟩ (.cons ⟨i3, _, rfl, hi336, paired_append (paired_append (paired_take k pp36) (.cons ⟨t0, rfl, ht036⟩ .nil)) (paired_drop k pp36)⟩
      (.cons ⟨i4, _, rfl, hi436, paired_reverse pp36⟩ (.cons ⟨i5, _, rfl, hi536, paired_append (paired_take k pp36) (paired_drop (k + 1) pp36)⟩
      (.cons ⟨i6, _, rfl, hi636, paired_append (paired_append (paired_take k pp36) (.cons ⟨c8, rfl, hc836⟩ .nil)) (paired_drop (k + 1) pp36)⟩ .nil)))))
  have hmod : (c + 1) % n3 < n3 := Nat.mod_lt _ (by omega)
  have hxv : ∀ e ∈ [(false, ps), (true, ps), (false, ps.take k ++ [(x, c)] ++ ps.drop k), (false, ps.reverse), (false, ps.take k ++ ps.drop (k + 1)), (false, ps.take k ++ [(x, (c + 1) % n3)] ++ ps.drop (k + 1))], e.2.length ≤ 400 ∧ ∀ q ∈ e.2, q.1 < S.length ∧ q.2 < n3 := by
    have hlt := gd.lt
    have htk : ∀ q ∈ ps.take k, q.1 < S.length ∧ q.2 < n3 := fun q hq => hlt q (List.mem_of_mem_take hq)
    have hdk : ∀ j, ∀ q ∈ ps.drop j, q.1 < S.length ∧ q.2 < n3 := fun j q hq => hlt q (List.mem_of_mem_drop hq)
    intro e he
    simp only [List.mem_cons, List.not_mem_nil, or_false] at he
    rcases he with rfl | rfl | rfl | rfl | rfl | rfl
    · exact ⟨by show ps.length ≤ 400; omega, hlt⟩
    · exact ⟨by show ps.length ≤ 400; omega, hlt⟩
    · refine ⟨by simp; omega, fun q hq => ?_⟩
      simp only [List.mem_append, List.mem_singleton] at hq
      rcases hq with (h | h) | h
      · exact htk q h
      · rw [h]; exact ⟨hxS, hcz⟩
      · exact hdk _ q h
    · exact ⟨by simp; omega, fun q hq => hlt q (List.mem_reverse.mp hq)⟩
    · refine ⟨by simp; omega, fun q hq => ?_⟩
      rcases List.mem_append.mp hq with h | h
      · exact htk q h
      · exact hdk _ q h
    · refine ⟨by simp; omega, fun q hq => ?_⟩
      simp only [List.mem_append, List.mem_singleton] at hq
      rcases hq with (h | h) | h
      · exact htk q h
      · rw [h]; exact ⟨hxS, hmod⟩
      · exact hdk _ q h
  have hvl : [(false, ps), (true, ps), (false, ps.take k ++ [(x, c)] ++ ps.drop k), (false, ps.reverse), (false, ps.take k ++ ps.drop (k + 1)), (false, ps.take k ++ [(x, (c + 1) % n3)] ++ ps.drop (k + 1))].length = 6 := rfl
  generalize hitems : [V.ref b, V.ref lb, V.ref i3, V.ref i4, V.ref i5, V.ref i6] = items at hsm36 hRV
  generalize [(false, ps), (true, ps), (false, ps.take k ++ [(x, c)] ++ ps.drop k), (false, ps.reverse), (false, ps.take k ++ ps.drop (k + 1)), (false, ps.take k ++ [(x, (c + 1) % n3)] ++ ps.drop (k + 1))] = vs6 at hRV hxv hvl
  have hil : items.length = vs6.length := Paired.length hRV
  clear hi336 hi436 hi536 hi636 hc836 ht036 pp36 hlb36
  -- both tell the same of the six
  dsimp only
  refine ⟨_, rfl, sm, rfl, ⟨_, SqL.of hsm36⟩, fun D hD => ?_⟩
  refine lc_rel (walk_list (xs := items)) RB monoT_RB (fun _ => true) (fun i => (fun e : Bool × List (Nat × Nat) => !e.1 && spareB S n3 e.2) (vs6.getD i (false, []))) hD (by omega) (fun H' s => SqL.of (s _ _ hsm36)) ?_ ?_
  · rintro i y _ H40 hi s40 ⟨rfl, hy⟩ L1 L2 h1 h2
    obtain ⟨e, he, re⟩ := pgetL hRV hy
    rw [getD_of he] at h1
    obtain ⟨hel, heb⟩ := hxv e (List.mem_of_getElem? he)
    refine ⟨rfl, tyes_ok (iteT ?_)⟩
    exact ⟨_, rfl, _, rfl, _, rfl, e.1, .ref a, y, S, n3, e.2, rfl, monoT_TS _ _ _ _ (keepT_same s40) hS36, ok, by omega, monoS_RV _ _ _ _ s40 re, by omega, heb, fun H4 s4 => h1 rfl _ _ s4 rfl⟩
  intro H41 ws1 s41 hw1 pw1
  have ew1 := paired_bv pw1
  rw [hil, range_f vs6 (fun e : Bool × List (Nat × Nat) => !e.1 && spareB S n3 e.2) (false, [])] at ew1
  rw [ew1] at hw1
  refine ⟨_, rfl, sm, rfl, ⟨_, SqL.of (s41 _ _ hsm36)⟩, fun D2 hD2 => ?_⟩
  refine lc_rel (walk_list (xs := items)) RB monoT_RB (fun _ => true) (fun i => (fun e : Bool × List (Nat × Nat) => !e.1 && spareB S n3 e.2) (vs6.getD i (false, []))) hD2 (by omega) (fun H' s => SqL.of (s _ _ (s41 _ _ hsm36))) ?_ ?_
  · rintro i y _ H40 hi s40 ⟨rfl, hy⟩ L1 L2 h1 h2
    obtain ⟨e, he, re⟩ := pgetL hRV hy
    rw [getD_of he] at h1
    obtain ⟨hel, heb⟩ := hxv e (List.mem_of_getElem? he)
    refine ⟨rfl, tyes_ok (iteT ?_)⟩
    exact ⟨_, rfl, _, rfl, _, rfl, e.1, .ref a, y, S, n3, e.2, rfl, monoT_TS _ _ _ _ (keepT_same (s41.trans s40)) hS36, ok, by omega, monoS_RV _ _ _ _ (s41.trans s40) re, by omega, heb, fun H4 s4 => h1 rfl _ _ s4 rfl⟩
  intro H42 ws2 s42 hw2 pw2
  have ew2 := paired_bv pw2
  rw [hil, range_f vs6 (fun e : Bool × List (Nat × Nat) => !e.1 && spareB S n3 e.2) (false, [])] at ew2
  rw [ew2] at hw2
  have hkin : ∀ bs : List Bool, Paired Kin (bs.map V.bl) (bs.map V.bl) := fun bs => by
    induction bs with
    | nil => exact .nil
    | cons b r ih => exact .cons trivial ih
  refine ⟨D, D2, _, _, rfl, s42 _ _ hw1, hw2, hkin _, by rw [List.length_map, List.length_map]; omega, fun H43 s43 => ?_⟩
  rw [decide_eq_true rfl]
  refine ⟨_, rfl, iteF ?_⟩
  have s3643 := (s41.trans s42).trans s43
  have hS43 := monoT_TS _ _ _ _ (keepT_same s3643) hS36
  have hL43 := monoT_TS _ _ _ _ (keepT_same s3643) hL36
  have hu43 := hu36.same s3643
  clear hS36 hL36 hu36 s3643 s41 s42 s43 hw1 hw2 hRV hsm36 hb36 hD hD2 pw1 pw2 ew1 ew2
  -- the rule
  obtain ⟨aL, vsL, rfl, haL, prL⟩ := id hL43
  have haL : H43 aL = some (.tup vsL) := haL
  have hlL : vsL.length = L.length := Paired.length prL
  have fewL := okL.few
  have posL := okL.pos
  refine ⟨_, rfl, _, rfl, aL, _, rfl, .inr (SqT.of haL), _, _, rfl, rfl, ?_⟩
  have eL : V.int (((vsL.length : Nat) : Int) - 1) = V.int ((L.length - 1 : Nat) : Int) := by
    congr 1
    omega
  refine ⟨.ref aL, L, L.length - 1, (by show [V.ref aL, V.int (((vsL.length : Nat) : Int) - 1)] = _; rw [eL]), hL43, okL, by omega, by omega, fun H44 s44 => ?_⟩
  generalize ruleN 8 L (L.length - 1) = rl at webL spL
  -- the lone shape
  refine ⟨_, rfl, false, _, L, rfl, monoT_TS _ _ _ _ (keepT_same s44) hL43, okL, fun n45 H45 s45 hn45 => ?_⟩
  have e45 := hn45.inj webL
  subst e45
  have s4345 := s44.trans s45
  refine ⟨_, rfl, false, _, L, rfl, monoT_TS _ _ _ _ (keepT_same s4345) hL43, okL, fun n46 H46 s46 hn46 => ?_⟩
  have e46 := hn46.inj spL
  subst e46
  have s4346 := s4345.trans s46
  refine ⟨_, rfl, _, L, rfl, monoT_TS _ _ _ _ (keepT_same s4346) hL43, okL, fun H47 s47 => ?_⟩
  refine ⟨(by show 3 ≤ sizeLine; decide), fun g3 hg3 => ?_⟩
  have s48 := same_new (o := .lst [.int ((n46 : Nat) : Int), .int ((n46 : Nat) : Int), .bl true]) hg3
  refine ⟨_, rfl, _, rfl, (by show 3 ≤ sizeLine; decide), fun g4 hg4 => ?_⟩
  have s49 := same_new (o := .lst [.int ((n46 : Nat) : Int), .int ((n46 : Nat) : Int), .bl true]) hg4
  refine ⟨g3, g4, _, _, rfl, s49 _ _ upd_same, upd_same, (.cons trivial (.cons trivial (.cons trivial .nil))), by simp, fun H50 s50 => ?_⟩
  rw [decide_eq_true rfl]
  refine ⟨_, rfl, iteF ?_⟩
  have s4350 := (((s4346.trans s47).trans s48).trans s49).trans s50
  have hS50 := monoT_TS _ _ _ _ (keepT_same s4350) hS43
  have hL50 := monoT_TS _ _ _ _ (keepT_same s4350) hL43
  have hu50 := hu43.same s4350
  clear hS43 hL43 hu43 haL prL s44 s45 s46 s47 s48 s49 s50 s4345 s4346 s4350 hg3 hg4
  -- the web of the first shape
  refine ⟨_, rfl, false, _, S, rfl, hS50, ok, fun n51 H51 s51 hn51 => ?_⟩
  refine ⟨_, rfl, _, _, rfl, rfl, _, rfl, ?_⟩
  have hle := web_le ok hn51 hn1
  rw [decide_eq_false (show ¬ ((n3 : Nat) : Int) < ((n51 : Nat) : Int) by omega)]
  refine iteF ?_
  have hS51 := monoT_TS _ _ _ _ (keepT_same s51) hS50
  have hL51 := monoT_TS _ _ _ _ (keepT_same s51) hL50
  have hu51 := hu50.same s51
  clear hS50 hL50 hu50 s51
  -- the trees
  refine ⟨_, rfl, _, rfl, ?_⟩
  refine tCons_in ?_
  refine lit_shape fullS (by decide) (by decide) fun v3 H52 s52 hf52 => ?_
  refine ⟨(by show 3 ≤ sizeLine; decide), fun o ho => ?_⟩
  have s53 := same_new (o := .tup [.ref a, .ref aL, v3]) ho
  have s5153 := s52.trans s53
  have ho53 : upd H52 o (.tup [.ref a, .ref aL, v3]) o = some (.tup [.ref a, .ref aL, v3]) := upd_same
  have hS53 := monoT_TS _ _ _ _ (keepT_same s5153) hS51
  have hL53 := monoT_TS _ _ _ _ (keepT_same s5153) hL51
  have hf53 := monoT_TS _ _ _ _ (keepT_same s53) hf52
  have hu53 := hu51.same s5153
  generalize upd H52 o (.tup [.ref a, .ref aL, v3]) = H53 at s53 s5153 ho53 hS53 hL53 hf53 hu53
  clear hS51 hL51 hf52 hu51 s52 s53 s5153 ho
  refine ⟨o, rfl, ⟨_, SqT.of ho53⟩, ?_⟩
  have hsh : Paired (fun v X => TS' H53 v X ∧ ShOk X) [.ref a, .ref aL, v3] [S, L, fullS] := .cons ⟨hS53, ok⟩ (.cons ⟨hL53, okL⟩ (.cons ⟨hf53, full_ok⟩ .nil))
  obtain ⟨xsu3, hxu3⟩ := hu53.lst
  have kT : ∀ {H'}, SameX u H53 H' → KeepT H53 H' := fun s => keepT_X s fun ys q => by rw [hxu3] at q; cases q
  refine for_it (walk_tup (xs := [.ref a, .ref aL, v3])) (fun i σ H' => ∃ (x7 x9 x10 x11 x12 x13 : Option V), σ = [some (.ref u), some (.ref a), some (.ref aL), some (.int ((n3 : Nat) : Int)), some (.ref b), some (.int ((k : Nat) : Int)), some (.ref sm), x7, some (.int ((n46 : Nat) : Int)), x9, x10, x11, x12, x13] ∧
      SameX u H53 H' ∧ UrnAt H' u (n + 107 + 800 * i)) ⟨_, _, _, _, _, _, rfl, sameX_refl _ _, hu53⟩ (fun i σ H' _ ⟨_, _, _, _, _, _, _, s, _⟩ => SqT.of (kT s _ _ ho53)) ?_ ?_
  · rintro i y σ _ H54 hi ⟨x7, x9, x10, x11, x12, x13, rfl, s54, hu54⟩ ⟨rfl, hy⟩
    have hi : i < 3 := hi
    obtain ⟨X, hX, hXy, okX⟩ := pgetL hsh hy
    obtain ⟨aX, vsX, rfl, haX, prX⟩ := id hXy
    have haX : H53 aX = some (.tup vsX) := haX
    have hlX : vsX.length = X.length := Paired.length prX
    have fewX := okX.few
    have posX := okX.pos
    have nXu : aX ≠ u := by rintro rfl; rw [haX] at hxu3; cases hxu3
    refine ⟨_, rfl, by omega, by omega, ?_⟩
    refine for_it walk_range (fun j σ H' => ∃ (x9 x10 x11 x12 x13 : Option V), σ = [some (.ref u), some (.ref a), some (.ref aL), some (.int ((n3 : Nat) : Int)), some (.ref b), some (.int ((k : Nat) : Int)), some (.ref sm), some (.ref aX), some (.int ((n46 : Nat) : Int)), x9, x10, x11, x12, x13] ∧
      SameX u H53 H' ∧ UrnAt H' u (n + 107 + 800 * i + 200 * j)) ⟨_, _, _, _, _, rfl, s54, hu54⟩ (fun i σ H' _ _ => trivial) ?_ ?_
    · rintro j y σ _ H55 hj ⟨x9, x10, x11, x12, x13, rfl, s55, hu55⟩ ⟨rfl, rfl⟩
      have hj : j < 4 := by simpa using hj
      refine ⟨_, rfl, u, _, 3, rfl, hu55, by omega, by omega, by omega, fun dp H56 hdp s56 hu56 => ?_⟩
      have s5356 := s55.trans s56
      refine gName_in ?_
      dsimp only
      have hX56 := monoT_TS _ _ _ _ (kT s5356) hXy
      have haX56 := s5356 _ _ nXu haX
      refine ⟨_, rfl, _, rfl, _, rfl, aX, _, rfl, .inr (SqT.of haX56), _, _, rfl, rfl, ?_⟩
      refine ⟨_, rfl, _, rfl, aX, _, rfl, .inr (SqT.of haX56), _, _, rfl, ?_⟩
      have elow : V.int (if ((vsX.length : Nat) : Int) < 2 then ((vsX.length : Nat) : Int) else 2) = V.int ((min 2 X.length : Nat) : Int) := by
        congr 1
        split <;> omega
      refine ⟨u, _, min 2 X.length, (by show [V.ref u, V.int (if ((vsX.length : Nat) : Int) < 2 then ((vsX.length : Nat) : Int) else 2)] = _; rw [elow]), hu56, by omega, by omega, by omega, fun r H57 hr s57 hu57 => ?_⟩
      have s5357 := s5356.trans s57
      refine ⟨_, _, rfl, rfl, _, rfl, ?_⟩
      have ekn : V.int (((vsX.length : Nat) : Int) - 1 - ((r : Nat) : Int)) = V.int ((X.length - 1 - r : Nat) : Int) := by
        congr 1
        omega
      have hGS : GS dp ≤ 146 := by
        match dp, hdp with
        | 0, _ => decide
        | 1, _ => decide
        | 2, _ => decide
      refine ⟨dp, by omega, u, .ref aX, X, X.length - 1 - r, _, (by show [V.ref u, V.ref aX, V.int (((vsX.length : Nat) : Int) - 1 - ((r : Nat) : Int)), V.int ((dp : Nat) : Int)] = _; rw [ekn]), monoT_TS _ _ _ _ (kT s5357) hXy, okX, by omega, hu57, by omega, fun vt H58 t s58 hu58 hrt tok hh hroot => ?_⟩
      have s5358 := s5357.trans s58
      have hX58 := monoT_TS _ _ _ _ (kT s5358) hXy
      refine gName_in ?_
      dsimp only
      refine ⟨_, rfl, _, rfl, _, rfl, .ref aX, vt, X, t, dp, rfl, hX58, by omega, hrt, tok, hh, by omega, fun H59 s59 => ?_⟩
      refine ⟨_, rfl, _, rfl, _, rfl, false, .ref aX, vt, X, t, dp, rfl, monoT_TS _ _ _ _ (keepT_same s59) hX58, by omega, monoT_RT t _ _ _ (keepT_same s59) hrt, tok.w, hh, by omega, fun H60 s60 => ?_⟩
      rw [treeBS_eq tok]
      have s5860 := s59.trans s60
      refine ⟨_, rfl, .ref aX, X, rfl, monoT_TS _ _ _ _ (keepT_same s5860) hX58, by omega, okX.small, fun vl H61 s61 hl61 => ?_⟩
      have s5861 := s5860.trans s61
      refine ⟨_, rfl, _, _, rfl, rfl, _, rfl, true, vl, vt, X, t, dp + 1, rfl, hl61, by omega, monoT_RT t _ _ _ (keepT_same s5861) hrt, tok.w, by omega, by omega, fun H62 s62 => ?_⟩
      rw [treeBS_eq tok, treeB_deep hh]
      have s5862 := s5861.trans s62
      refine ⟨(by show 2 ≤ sizeLine; decide), fun hd hhd => ?_⟩
      have s63 := same_new (o := .lst [.bl (treeB dp t), .bl false]) hhd
      refine ⟨_, rfl, _, rfl, (by show 2 ≤ sizeLine; decide), fun g5 hg5 => ?_⟩
      have s64 := same_new (o := .lst [.bl (treeB dp t), .bl false]) hg5
      refine ⟨hd, g5, _, _, rfl, s64 _ _ upd_same, upd_same, (.cons trivial (.cons trivial .nil)), by simp, fun H65 s65 => ?_⟩
      rw [decide_eq_true rfl]
      refine ⟨_, rfl, iteF ?_⟩
      have s5865 := ((s5862.trans s63).trans s64).trans s65
      have hu65 := hu58.same s5865
      have hcnt : n + 107 + 800 * i + 200 * j + 1 + 1 + GS dp ≤ n + 107 + 800 * i + 200 * (j + 1) := by omega
      refine ⟨_, rfl, _, rfl, ?_⟩
      cases hg : treeB dp t with
      | false => exact iteF ⟨_, _, _, _, _, rfl, s5358.trans (sameX_of s5865), hu65.le hcnt⟩
      | true =>
        refine iteT ⟨_, rfl, false, _, X, rfl, monoT_TS _ _ _ _ (keepT_same s5865) hX58, okX, fun n66 H66 s66 hn66 => ?_⟩
        refine ⟨_, rfl, _, _, rfl, rfl, _, rfl, ?_⟩
        have hb := treeB_bound okX tok hg hn66
        rw [decide_eq_false (show ¬ ((n66 : Nat) : Int) ≤ ((dp : Nat) : Int) by omega)]
        exact iteF ⟨_, _, _, _, _, rfl, s5358.trans (sameX_of (s5865.trans s66)), (hu65.same s66).le hcnt⟩
    · rintro σ H55 ⟨x9, x10, x11, x12, x13, rfl, s55, hu55⟩
      exact ⟨_, _, _, _, _, _, rfl, s55, hu55.le (by simp; omega)⟩
  · rintro σ H55 ⟨x7, x9, x10, x11, x12, x13, rfl, s55, hu55⟩
    exact kk _
end
end K27
set_option Elab.async false
set_option linter.all false
set_option maxRecDepth 100000
set_option maxHeartbeats 8000000
namespace K27
open PySem PySem.Spec PyProof.Rows L2
/-- as got_of, of a function that is given -/
theorem ok_of {P : Program} {w : World} {K : PySem.W.Frag} {mg : Str → Option Value} {base : Heap} {x : Str} {st : Stmt} {N ps : List Str} {k : Nat} {sp : Sp} {f : Addr} {fd : FuncData} (F : FnP K x st f fd) (S : FnScope N ps (defScope st))
    (len : ∀ vs H Q E, sp vs H Q E → vs.length = ps.length)
    (hbody : ∀ (cdv : Value) (A : Around) (outer : List Env) (s : Shared) (H : Hp) (vs : List V) (Q : VK) (E : XK), Room k (A.deeper (envOfC x (defScope st) s.heap.objs.size f cdv)) → sp vs H Q E →
      ∃ t, PSs (cxOf CX0 P w K mg base N x (defScope st) f cdv A outer s H E).nox (defBody st) t ∧ t { nx := fun _ H' => Q .non H', rt := Q } (start N vs) H) : FnOk P w K mg base CX0 (k + 1) f fd ps sp :=
  F.ok S len fun cdv A outer s H vs Q E hr hsp => by
    obtain ⟨t, h, q⟩ := hbody cdv A outer s H vs Q E hr hsp
    exact ⟨t, h.nox, q⟩
section
variable {P : Program} {w : World} {K : PySem.W.Frag} {mg : Str → Option Value} {base : Heap}
/-- slots: 0=_law_script; cells:  -/
theorem sc_law : FnScope ["_law_script"] ["_law_script"] (defScope st_law) := ⟨rfl, rfl, rfl, by decide +kernel, rfl, by decide +kernel, by decide +kernel⟩
def sp_law : Sp := fun vs H Q _ => ∃ (a : Addr) (ns : List Int), vs = [.ref a] ∧ SqL K H a (ns.map V.int) ∧ ns.length ≤ 63 ∧ ∀ H', Q (.bl true) H'
theorem law_ok {f : Addr} {fd : FuncData} (F : FnP K "law" st_law f fd) (T : Txt K mg) : FnOk P w K mg base CX0 11 f fd ["_law_script"] (sp_law (K := K)) := by
  refine ok_of F sc_law (fun vs H Q E h => ?_) (fun cdv A outer s H vs Q E hr h => ?_)
  · obtain ⟨a, ns, rfl, _⟩ := h; rfl
  obtain ⟨a, ns, rfl, ha, hl, kk⟩ := h
  obtain ⟨_, _, m_law_by_hand_right, G_law_by_hand_right, k_law_by_hand_right, b_law_by_hand_right⟩ := (got_law_by_hand_right (P := P) (w := w) (base := base) T).ex
  obtain ⟨_, _, m_law_right, G_law_right, k_law_right, b_law_right⟩ := (got_law_right (P := P) (w := w) (base := base) T).ex
  obtain ⟨_, _, m_law_box, G_law_box, k_law_box, b_law_box⟩ := (got_law_box (P := P) (w := w) (base := base) T).ex
  obtain ⟨_, _, m_law_cells, G_law_cells, k_law_cells, b_law_cells⟩ := (got_law_cells (P := P) (w := w) (base := base) T).ex
  refine ⟨_, (pss_cons (ps_if (pt_not (pt_val (pe_call0 G_law_by_hand_right (hr.mono (by first | decide | omega)) rfl m_law_by_hand_right k_law_by_hand_right b_law_by_hand_right .nil pass0))) (pss_one (ps_ret pe_bl)) pss_nil)
      (pss_one (ps_ret (pe_call G_law_right (hr.mono (by first | decide | omega)) rfl m_law_right k_law_right b_law_right .nil pass0 (pa_cons (pe_call G_law_box (hr.mono (by first | decide | omega)) rfl m_law_box k_law_box b_law_box .nil pass0 (pa_cons (pe_call G_law_cells (hr.mono (by first | decide | omega)) rfl m_law_cells k_law_cells b_law_cells .nil pass0 (pa_cons (pv 0) (pa_cons pe_int pa_nil))) (pa_cons pe_int pa_nil))) pa_nil))))), ?_⟩
  refine ⟨rfl, fun H1 s1 => ⟨_, rfl, iteF ?_⟩⟩
  refine ⟨_, rfl, a, ns, rfl, s1.seq ha, hl, fun p H2 ms hp s2 hp2 => ?_⟩
  refine ⟨p, ms, rfl, hp2, fun q H3 hq s3 hu3 => ?_⟩
  exact ⟨q, 0, rfl, hu3, by omega, kk⟩
end
end K27
set_option Elab.async false
set_option linter.all false
set_option maxRecDepth 100000
set_option maxHeartbeats 0
namespace K27
open PySem PySem.Spec PyProof.Rows L2
theorem facts {P : Program} {w : World} {K : PySem.W.Frag} {h : Heap} {mg : Str → Option Value} {f : Addr} (X : K.In h) (G : h.Ns mainGlobals mg) (hfa : mg ("law" : Str) = some (.ref f)) (c : He.SaysD faA fnA K) :
    ∃ fd : FuncData, (∀ (s : Shared) (v : Value), BindsTo s fd ⟨[v], []⟩ [("_law_script", v)]) ∧ ∀ base : Heap, K.In base → base.Ns mainGlobals mg → FnOk P w K mg base CX0 11 f fd ["_law_script"] (sp_law (K := K)) := by
  have T := txt_of X G c
  obtain ⟨fd, F⟩ := c.def_ 41 rfl
  have e := hfa.symm.trans (He.glo_ok X G (c.fact 41 (f := .glo "law") rfl))
  cases e
  have b := FunD.bindsA (ps := ["_law_script"]) F fun _ _ _ _ _ _ us hl => match us, hl with | [_], _ => rfl
  exact ⟨fd, fun s v => b s [v] rfl, fun base _ _ => law_ok F T⟩
end K27
open PySem PySem.W PySem.Calls PyProof.Rows
theorem PySem.Challenge.cw_unwound_k27_whole_sparing_plays_and_tree_holds : PySem.Challenge.rw_unwound_k27_whole_sparing_plays_and_tree.Holds := by
  w_on; o_law
  refine HandSHeadRun.head_any (r := OpenLaw.row PySem.Challenge.rw_unwound_k27_whole_sparing_plays_and_tree) (q := view (OpenLaw.row PySem.Challenge.rw_unwound_k27_whole_sparing_plays_and_tree).prog [44]) (H := K27.hk) (ob := K27.ob) (M := 2000) (loose := K27.ls) (d := HandSHeadRun.topDef (OpenLaw.row PySem.Challenge.rw_unwound_k27_whole_sparing_plays_and_tree).prog 44) (kwd := []) K27.ob_eq
    (by kernel_rfl) (fun s => by kernel_rfl) K27.run (by kernel_rfl) (by kernel_rfl) (by kernel_rfl) (by rfl) (by first | assumption | decide +kernel) (by decide +kernel) ⟨rfl, rfl, rfl, rfl, rfl, by decide +kernel⟩ ?hw ?hc
  case hw => w_witness2
  case hc =>
    refine L2.walk_ofE (l := PySem.Challenge.rw_unwound_k27_whole_sparing_plays_and_tree) (n := 63) (k := 11) (x := "_law_script") (CX := L2.CX0) rfl (by decide) (by kernel_rfl) ⟨rfl, by decide, by decide⟩ ?F (fun _ _ _ _ z => z)
    intro w mg fa h Y G hmg0
    obtain ⟨K, KX, c⟩ := Y
    have hmg : mg ("law" : PySem.Str) = some (.ref fa) := by
      have e : (HandSHeadRun.topDef (OpenLaw.row PySem.Challenge.rw_unwound_k27_whole_sparing_plays_and_tree).prog 44).name = ("law" : PySem.Str) := by kernel_rfl
      rw [← e]
      exact hmg0
    obtain ⟨fd, hb, hF⟩ := K27.facts (P := (PySem.Challenge.rw_unwound_k27_whole_sparing_plays_and_tree).prog) (w := w) KX G hmg c
    exact ⟨K, fd, K27.sp_law (K := K), KX, hb, fun H a ns hl _ hS => ⟨a, ns, rfl, hS, hl, fun _ => rfl⟩, hF⟩
