import PyProof.Rows.All
import Wide.All
import OpenK.AllK
import Wide.FinOn
import HandS.ForMost
import HandS.IsInst
import HandS.Deep
import HandS.Defaults
import HandS.Flow
import HandS.TupAny
import HandS.TupLe
import PySem.Challenge.RW_saidanew_k02_trees_and_other_values
set_option Elab.async false
set_option linter.all false
set_option maxRecDepth 100000
set_option maxHeartbeats 4000000
namespace Sa
open PySem PySem.Spec PyProof.Rows L2
def topS (i : Nat) : Stmt := PySem.Challenge.pw_saidanew_k02_trees_and_other_values.main.body.getD i (.Pass ⟨0, 0, 0, 0⟩)
def progOne : List Str := ["do", "not", "first", "rest", "none", "cell", "get", "raise", "say"]
def progTwo : List Str := ["seq", "plus", "minus", "times", "less", "same", "put", "set", "let", "try"]
def progLit : List Str := ["int", "quote", "flag", "global", "made", "ref"]
def progOth : List Str := ["name", "fun", "call", "if", "list", "use"]
def progHeads : List Str := progLit ++ progOth ++ progOne ++ progTwo
def progRes : List Str := progHeads ++ (["true", "false", "word", "rule", "run", "where"] : List Str)
def signsS : Str := "abcdefghijklmnopqrstuvwxyz"
abbrev s_is_name : Stmt := topS 8
theorem sc_is_name : FnScope ["thing", "sign"] ["thing"] (defScope s_is_name) := ⟨rfl, rfl, rfl, by decide +kernel, rfl, by decide +kernel, by decide +kernel⟩
abbrev s_is_number : Stmt := topS 9
theorem sc_is_number : FnScope ["thing", "least"] ["thing", "least"] (defScope s_is_number) := ⟨rfl, rfl, rfl, by decide +kernel, rfl, by decide +kernel, by decide +kernel⟩
abbrev s_is_path : Stmt := topS 10
theorem sc_is_path : FnScope ["thing", "index"] ["thing"] (defScope s_is_path) := ⟨rfl, rfl, rfl, by decide +kernel, rfl, by decide +kernel, by decide +kernel⟩
abbrev s_is_ink : Stmt := topS 11
theorem sc_is_ink : FnScope ["thing", "mark"] ["thing"] (defScope s_is_ink) := ⟨rfl, rfl, rfl, by decide +kernel, rfl, by decide +kernel, by decide +kernel⟩
abbrev s_first_kid : Stmt := topS 12
theorem sc_first_kid : FnScope ["head", "items"] ["head", "items"] (defScope s_first_kid) := ⟨rfl, rfl, rfl, by decide +kernel, rfl, by decide +kernel, by decide +kernel⟩
abbrev s_has_plain_items : Stmt := topS 13
theorem sc_has_plain_items : FnScope ["head", "items"] ["head", "items"] (defScope s_has_plain_items) := ⟨rfl, rfl, rfl, by decide +kernel, rfl, by decide +kernel, by decide +kernel⟩
abbrev s_is_tree : Stmt := topS 14
theorem sc_is_tree : FnScope ["thing", "left", "tree", "head", "ink", "items", "item"] ["thing"] (defScope s_is_tree) := ⟨rfl, rfl, rfl, by decide +kernel, rfl, by decide +kernel, by decide +kernel⟩
abbrev s_may_be_value : Stmt := topS 15
theorem sc_may_be_value : FnScope ["thing"] ["thing"] (defScope s_may_be_value) := ⟨rfl, rfl, rfl, by decide +kernel, rfl, by decide +kernel, by decide +kernel⟩
abbrev s__law_feed_of : Stmt := topS 17
theorem sc__law_feed_of : FnScope ["_law_script", "_law_k", "_law_cell", "_law_great"] ["_law_script", "_law_k"] (defScope s__law_feed_of) := ⟨rfl, rfl, rfl, by decide +kernel, rfl, by decide +kernel, by decide +kernel⟩
abbrev s__law_draw : Stmt := topS 18
theorem sc__law_draw : FnScope ["_law_feed", "_law_many", "_law_digit"] ["_law_feed", "_law_many"] (defScope s__law_draw) := ⟨rfl, rfl, rfl, by decide +kernel, rfl, by decide +kernel, by decide +kernel⟩
abbrev s__law_pick : Stmt := topS 19
theorem sc__law_pick : FnScope ["_law_feed", "_law_items"] ["_law_feed", "_law_items"] (defScope s__law_pick) := ⟨rfl, rfl, rfl, by decide +kernel, rfl, by decide +kernel, by decide +kernel⟩
abbrev s__law_same : Stmt := topS 20
theorem sc__law_same : FnScope ["_law_found", "_law_due", "_law_one", "_law_other"] ["_law_found", "_law_due"] (defScope s__law_same) := ⟨rfl, rfl, rfl, by decide +kernel, rfl, by decide +kernel, by decide +kernel⟩
abbrev s__law_any_value : Stmt := topS 21
theorem sc__law_any_value : FnScope ["_law_feed", "_law_deep", "_law_form", "_law_some", "_law_turn"] ["_law_feed", "_law_deep"] (defScope s__law_any_value) := ⟨rfl, rfl, rfl, by decide +kernel, rfl, by decide +kernel, by decide +kernel⟩
abbrev s__law_first : Stmt := topS 22
theorem sc__law_first : FnScope ["_law_head"] ["_law_head"] (defScope s__law_first) := ⟨rfl, rfl, rfl, by decide +kernel, rfl, by decide +kernel, by decide +kernel⟩
abbrev s__law_ones : Stmt := topS 23
theorem sc__law_ones : FnScope [] [] (defScope s__law_ones) := ⟨rfl, rfl, rfl, by decide +kernel, rfl, by decide +kernel, by decide +kernel⟩
abbrev s__law_twos : Stmt := topS 24
theorem sc__law_twos : FnScope [] [] (defScope s__law_twos) := ⟨rfl, rfl, rfl, by decide +kernel, rfl, by decide +kernel, by decide +kernel⟩
abbrev s__law_literal : Stmt := topS 25
theorem sc__law_literal : FnScope ["_law_feed", "_law_word", "_law_some"] ["_law_feed"] (defScope s__law_literal) := ⟨rfl, rfl, rfl, by decide +kernel, rfl, by decide +kernel, by decide +kernel⟩
abbrev s__law_is_ink : Stmt := topS 26
theorem sc__law_is_ink : FnScope ["_law_thing", "_law_mark_here", "_law_one"] ["_law_thing"] (defScope s__law_is_ink) := ⟨rfl, rfl, rfl, by decide +kernel, rfl, by decide +kernel, by decide +kernel⟩
abbrev s__law_is_count : Stmt := topS 27
theorem sc__law_is_count : FnScope ["_law_thing", "_law_least"] ["_law_thing", "_law_least"] (defScope s__law_is_count) := ⟨rfl, rfl, rfl, by decide +kernel, rfl, by decide +kernel, by decide +kernel⟩
abbrev s__law_reserved : Stmt := topS 28
theorem sc__law_reserved : FnScope ["_law_some"] [] (defScope s__law_reserved) := ⟨rfl, rfl, rfl, by decide +kernel, rfl, by decide +kernel, by decide +kernel⟩
abbrev s__law_is_name : Stmt := topS 29
theorem sc__law_is_name : FnScope ["_law_thing", "_law_sign"] ["_law_thing"] (defScope s__law_is_name) := ⟨rfl, rfl, rfl, by decide +kernel, rfl, by decide +kernel, by decide +kernel⟩
abbrev s__law_is_plain : Stmt := topS 30
theorem sc__law_is_plain : FnScope ["_law_head", "_law_items", "_law_many"] ["_law_head", "_law_items"] (defScope s__law_is_plain) := ⟨rfl, rfl, rfl, by decide +kernel, rfl, by decide +kernel, by decide +kernel⟩
abbrev s__law_is_tree : Stmt := topS 31
theorem sc__law_is_tree : FnScope ["_law_thing", "_law_head", "_law_ink", "_law_items", "_law_values", "_law_kid"] ["_law_thing"] (defScope s__law_is_tree) := ⟨rfl, rfl, rfl, by decide +kernel, rfl, by decide +kernel, by decide +kernel⟩
abbrev s__law_inked_tree : Stmt := topS 32
theorem sc__law_inked_tree : FnScope ["_law_feed", "_law_deep", "_law_form", "_law_ink", "_law_some", "_law_items", "_law_heads", "_law_many", "_law_kids", "_law_head", "_law_turn", "_law_item"] ["_law_feed", "_law_deep"] (defScope s__law_inked_tree) := ⟨rfl, rfl, rfl, by decide +kernel, rfl, by decide +kernel, by decide +kernel⟩
abbrev s__law_mark : Stmt := topS 33
theorem sc__law_mark : FnScope ["_law_feed", "_law_path", "_law_turn"] ["_law_feed"] (defScope s__law_mark) := ⟨rfl, rfl, rfl, by decide +kernel, rfl, by decide +kernel, by decide +kernel⟩
abbrev s__law_spoilt : Stmt := topS 34
theorem sc__law_spoilt : FnScope ["_law_feed", "_law_thing", "_law_form", "_law_at"] ["_law_feed", "_law_thing"] (defScope s__law_spoilt) := ⟨rfl, rfl, rfl, by decide +kernel, rfl, by decide +kernel, by decide +kernel⟩
abbrev s_law : Stmt := topS 35
theorem sc_law : FnScope ["_law_script", "_law_k", "_law_feed", "_law_turn", "_law_tree", "_law_one", "_law_other", "_law_thing"] ["_law_script"] (defScope s_law) := ⟨rfl, rfl, rfl, by decide +kernel, rfl, by decide +kernel, by decide +kernel⟩
structure Top (K : PySem.W.Frag) (mg : Str → Option Value) where
  len_n : mg "len" = none
  isinstance_n : mg "isinstance" = none
  str_n : mg "str" = none
  int_n : mg "int" = none
  bool_n : mg "bool" = none
  tuple_n : mg "tuple" = none
  list_n : mg "list" = none
  range_n : mg "range" = none
  all_n : mg "all" = none
  zip_n : mg "zip" = none
  max_n : mg "max" = none
  min_n : mg "min" = none
  NAME_SIGNS_t : Tok
  NAME_SIGNS_g : mg "NAME_SIGNS" = some (.str signsS NAME_SIGNS_t)
  ONE : Addr
  ONE_g : mg "ONE" = some (.ref ONE)
  ONE_s : ∀ H, SqT K H ONE (progOne.map V.str)
  TWO : Addr
  TWO_g : mg "TWO" = some (.ref TWO)
  TWO_s : ∀ H, SqT K H TWO (progTwo.map V.str)
  LITERALS : Addr
  LITERALS_g : mg "LITERALS" = some (.ref LITERALS)
  LITERALS_s : ∀ H, SqT K H LITERALS (progLit.map V.str)
  HEADS : Addr
  HEADS_g : mg "HEADS" = some (.ref HEADS)
  HEADS_s : ∀ H, SqT K H HEADS (progHeads.map V.str)
  RESERVED : Addr
  RESERVED_g : mg "RESERVED" = some (.ref RESERVED)
  RESERVED_s : ∀ H, SqT K H RESERVED (progRes.map V.str)
  is_name : Addr
  is_name_d : FuncData
  is_name_f : Fun K "is_name" "is_name" s_is_name is_name is_name_d
  is_name_b : Binds K is_name_d ["thing"] []
  is_name_g : mg "is_name" = some (.ref is_name)
  is_name_k : PySem.W.keepIn K (.ref is_name) = true
  is_number : Addr
  is_number_d : FuncData
  is_number_f : FunD K "is_number" "is_number" (defArgs s_is_number) (defBody s_is_number) (defScope s_is_number) [.int 0] [] is_number is_number_d
  is_number_ds0 : List Value
  is_number_v0 : Vals [] is_number_ds0
  is_number_b0 : Binds K is_number_d ["thing", "least"] is_number_ds0
  is_number_ds1 : List Value
  is_number_v1 : Vals [.int 0] is_number_ds1
  is_number_b1 : Binds K is_number_d ["thing", "least"] is_number_ds1
  is_number_g : mg "is_number" = some (.ref is_number)
  is_number_k : PySem.W.keepIn K (.ref is_number) = true
  is_path : Addr
  is_path_d : FuncData
  is_path_f : Fun K "is_path" "is_path" s_is_path is_path is_path_d
  is_path_b : Binds K is_path_d ["thing"] []
  is_path_g : mg "is_path" = some (.ref is_path)
  is_path_k : PySem.W.keepIn K (.ref is_path) = true
  is_ink : Addr
  is_ink_d : FuncData
  is_ink_f : Fun K "is_ink" "is_ink" s_is_ink is_ink is_ink_d
  is_ink_b : Binds K is_ink_d ["thing"] []
  is_ink_g : mg "is_ink" = some (.ref is_ink)
  is_ink_k : PySem.W.keepIn K (.ref is_ink) = true
  first_kid : Addr
  first_kid_d : FuncData
  first_kid_f : Fun K "first_kid" "first_kid" s_first_kid first_kid first_kid_d
  first_kid_b : Binds K first_kid_d ["head", "items"] []
  first_kid_g : mg "first_kid" = some (.ref first_kid)
  first_kid_k : PySem.W.keepIn K (.ref first_kid) = true
  has_plain_items : Addr
  has_plain_items_d : FuncData
  has_plain_items_f : Fun K "has_plain_items" "has_plain_items" s_has_plain_items has_plain_items has_plain_items_d
  has_plain_items_b : Binds K has_plain_items_d ["head", "items"] []
  has_plain_items_g : mg "has_plain_items" = some (.ref has_plain_items)
  has_plain_items_k : PySem.W.keepIn K (.ref has_plain_items) = true
  is_tree : Addr
  is_tree_d : FuncData
  is_tree_f : Fun K "is_tree" "is_tree" s_is_tree is_tree is_tree_d
  is_tree_b : Binds K is_tree_d ["thing"] []
  is_tree_g : mg "is_tree" = some (.ref is_tree)
  is_tree_k : PySem.W.keepIn K (.ref is_tree) = true
  may_be_value : Addr
  may_be_value_d : FuncData
  may_be_value_f : Fun K "may_be_value" "may_be_value" s_may_be_value may_be_value may_be_value_d
  may_be_value_b : Binds K may_be_value_d ["thing"] []
  may_be_value_g : mg "may_be_value" = some (.ref may_be_value)
  may_be_value_k : PySem.W.keepIn K (.ref may_be_value) = true
  _law_feed_of : Addr
  _law_feed_of_d : FuncData
  _law_feed_of_f : Fun K "_law_feed_of" "_law_feed_of" s__law_feed_of _law_feed_of _law_feed_of_d
  _law_feed_of_b : Binds K _law_feed_of_d ["_law_script", "_law_k"] []
  _law_feed_of_g : mg "_law_feed_of" = some (.ref _law_feed_of)
  _law_feed_of_k : PySem.W.keepIn K (.ref _law_feed_of) = true
  _law_draw : Addr
  _law_draw_d : FuncData
  _law_draw_f : Fun K "_law_draw" "_law_draw" s__law_draw _law_draw _law_draw_d
  _law_draw_b : Binds K _law_draw_d ["_law_feed", "_law_many"] []
  _law_draw_g : mg "_law_draw" = some (.ref _law_draw)
  _law_draw_k : PySem.W.keepIn K (.ref _law_draw) = true
  _law_pick : Addr
  _law_pick_d : FuncData
  _law_pick_f : Fun K "_law_pick" "_law_pick" s__law_pick _law_pick _law_pick_d
  _law_pick_b : Binds K _law_pick_d ["_law_feed", "_law_items"] []
  _law_pick_g : mg "_law_pick" = some (.ref _law_pick)
  _law_pick_k : PySem.W.keepIn K (.ref _law_pick) = true
  _law_same : Addr
  _law_same_d : FuncData
  _law_same_f : Fun K "_law_same" "_law_same" s__law_same _law_same _law_same_d
  _law_same_b : Binds K _law_same_d ["_law_found", "_law_due"] []
  _law_same_g : mg "_law_same" = some (.ref _law_same)
  _law_same_k : PySem.W.keepIn K (.ref _law_same) = true
  _law_any_value : Addr
  _law_any_value_d : FuncData
  _law_any_value_f : FunD K "_law_any_value" "_law_any_value" (defArgs s__law_any_value) (defBody s__law_any_value) (defScope s__law_any_value) [.int 3] [] _law_any_value _law_any_value_d
  _law_any_value_ds0 : List Value
  _law_any_value_v0 : Vals [] _law_any_value_ds0
  _law_any_value_b0 : Binds K _law_any_value_d ["_law_feed", "_law_deep"] _law_any_value_ds0
  _law_any_value_ds1 : List Value
  _law_any_value_v1 : Vals [.int 3] _law_any_value_ds1
  _law_any_value_b1 : Binds K _law_any_value_d ["_law_feed", "_law_deep"] _law_any_value_ds1
  _law_any_value_g : mg "_law_any_value" = some (.ref _law_any_value)
  _law_any_value_k : PySem.W.keepIn K (.ref _law_any_value) = true
  _law_first : Addr
  _law_first_d : FuncData
  _law_first_f : Fun K "_law_first" "_law_first" s__law_first _law_first _law_first_d
  _law_first_b : Binds K _law_first_d ["_law_head"] []
  _law_first_g : mg "_law_first" = some (.ref _law_first)
  _law_first_k : PySem.W.keepIn K (.ref _law_first) = true
  _law_ones : Addr
  _law_ones_d : FuncData
  _law_ones_f : Fun K "_law_ones" "_law_ones" s__law_ones _law_ones _law_ones_d
  _law_ones_b : Binds K _law_ones_d [] []
  _law_ones_g : mg "_law_ones" = some (.ref _law_ones)
  _law_ones_k : PySem.W.keepIn K (.ref _law_ones) = true
  _law_twos : Addr
  _law_twos_d : FuncData
  _law_twos_f : Fun K "_law_twos" "_law_twos" s__law_twos _law_twos _law_twos_d
  _law_twos_b : Binds K _law_twos_d [] []
  _law_twos_g : mg "_law_twos" = some (.ref _law_twos)
  _law_twos_k : PySem.W.keepIn K (.ref _law_twos) = true
  _law_literal : Addr
  _law_literal_d : FuncData
  _law_literal_f : Fun K "_law_literal" "_law_literal" s__law_literal _law_literal _law_literal_d
  _law_literal_b : Binds K _law_literal_d ["_law_feed"] []
  _law_literal_g : mg "_law_literal" = some (.ref _law_literal)
  _law_literal_k : PySem.W.keepIn K (.ref _law_literal) = true
  _law_is_ink : Addr
  _law_is_ink_d : FuncData
  _law_is_ink_f : Fun K "_law_is_ink" "_law_is_ink" s__law_is_ink _law_is_ink _law_is_ink_d
  _law_is_ink_b : Binds K _law_is_ink_d ["_law_thing"] []
  _law_is_ink_g : mg "_law_is_ink" = some (.ref _law_is_ink)
  _law_is_ink_k : PySem.W.keepIn K (.ref _law_is_ink) = true
  _law_is_count : Addr
  _law_is_count_d : FuncData
  _law_is_count_f : Fun K "_law_is_count" "_law_is_count" s__law_is_count _law_is_count _law_is_count_d
  _law_is_count_b : Binds K _law_is_count_d ["_law_thing", "_law_least"] []
  _law_is_count_g : mg "_law_is_count" = some (.ref _law_is_count)
  _law_is_count_k : PySem.W.keepIn K (.ref _law_is_count) = true
  _law_reserved : Addr
  _law_reserved_d : FuncData
  _law_reserved_f : Fun K "_law_reserved" "_law_reserved" s__law_reserved _law_reserved _law_reserved_d
  _law_reserved_b : Binds K _law_reserved_d [] []
  _law_reserved_g : mg "_law_reserved" = some (.ref _law_reserved)
  _law_reserved_k : PySem.W.keepIn K (.ref _law_reserved) = true
  _law_is_name : Addr
  _law_is_name_d : FuncData
  _law_is_name_f : Fun K "_law_is_name" "_law_is_name" s__law_is_name _law_is_name _law_is_name_d
  _law_is_name_b : Binds K _law_is_name_d ["_law_thing"] []
  _law_is_name_g : mg "_law_is_name" = some (.ref _law_is_name)
  _law_is_name_k : PySem.W.keepIn K (.ref _law_is_name) = true
  _law_is_plain : Addr
  _law_is_plain_d : FuncData
  _law_is_plain_f : Fun K "_law_is_plain" "_law_is_plain" s__law_is_plain _law_is_plain _law_is_plain_d
  _law_is_plain_b : Binds K _law_is_plain_d ["_law_head", "_law_items"] []
  _law_is_plain_g : mg "_law_is_plain" = some (.ref _law_is_plain)
  _law_is_plain_k : PySem.W.keepIn K (.ref _law_is_plain) = true
  _law_is_tree : Addr
  _law_is_tree_d : FuncData
  _law_is_tree_f : Fun K "_law_is_tree" "_law_is_tree" s__law_is_tree _law_is_tree _law_is_tree_d
  _law_is_tree_b : Binds K _law_is_tree_d ["_law_thing"] []
  _law_is_tree_g : mg "_law_is_tree" = some (.ref _law_is_tree)
  _law_is_tree_k : PySem.W.keepIn K (.ref _law_is_tree) = true
  _law_inked_tree : Addr
  _law_inked_tree_d : FuncData
  _law_inked_tree_f : Fun K "_law_inked_tree" "_law_inked_tree" s__law_inked_tree _law_inked_tree _law_inked_tree_d
  _law_inked_tree_b : Binds K _law_inked_tree_d ["_law_feed", "_law_deep"] []
  _law_inked_tree_g : mg "_law_inked_tree" = some (.ref _law_inked_tree)
  _law_inked_tree_k : PySem.W.keepIn K (.ref _law_inked_tree) = true
  _law_mark : Addr
  _law_mark_d : FuncData
  _law_mark_f : Fun K "_law_mark" "_law_mark" s__law_mark _law_mark _law_mark_d
  _law_mark_b : Binds K _law_mark_d ["_law_feed"] []
  _law_mark_g : mg "_law_mark" = some (.ref _law_mark)
  _law_mark_k : PySem.W.keepIn K (.ref _law_mark) = true
  _law_spoilt : Addr
  _law_spoilt_d : FuncData
  _law_spoilt_f : Fun K "_law_spoilt" "_law_spoilt" s__law_spoilt _law_spoilt _law_spoilt_d
  _law_spoilt_b : Binds K _law_spoilt_d ["_law_feed", "_law_thing"] []
  _law_spoilt_g : mg "_law_spoilt" = some (.ref _law_spoilt)
  _law_spoilt_k : PySem.W.keepIn K (.ref _law_spoilt) = true
  law : Addr
  law_d : FuncData
  law_f : Fun K "law" "law" s_law law law_d
  law_b : Binds K law_d ["_law_script"] []
  law_g : mg "law" = some (.ref law)
  law_k : PySem.W.keepIn K (.ref law) = true
/-! ### data -/
def Ext (f : Addr) (H H' : Hp) : Prop := ∀ a o, a ≠ f → H a = some o → H' a = some o
theorem Ext.refl {f : Addr} {H : Hp} : Ext f H H := fun _ _ _ h => h
theorem Ext.trans {f : Addr} {H H1 H2 : Hp} (a : Ext f H H1) (b : Ext f H1 H2) : Ext f H H2 := fun c o n h => b c o n (a c o n h)
theorem Ext.same {f : Addr} {H H1 : Hp} (a : Same H H1) : Ext f H H1 := fun c o _ h => a c o h
theorem same_upd {H : Hp} {p : Addr} {o : HO} (h : H p = none) : Same H (upd H p o) := fun b x e => by
  rw [upd_ne (ne_of_none e h)]
  exact e
theorem Ext.upd {f : Addr} {H : Hp} {o : HO} : Ext f H (L2.upd H f o) := fun c u n h => by
  rw [upd_ne n]; exact h
def Fd (f : Addr) (H : Hp) : Prop := ∃ g s : Int, H f = some (.lst [.int g, .int s]) ∧ 0 ≤ g ∧ 0 ≤ s
theorem Fd.same {f : Addr} {H H' : Hp} (h : Fd f H) (e : Same H H') : Fd f H' := by
  obtain ⟨g, s, h1, h2⟩ := h
  exact ⟨g, s, e _ _ h1, h2⟩
abbrev AS := Addr → Prop
def Trk (F : AS) (H : Hp) : Prop := ∀ a, F a → ∃ o, H a = some o
theorem Trk.ext {F : AS} {f : Addr} {H H' : Hp} (h : Trk F H) (e : Ext f H H') (x : Fd f H') : Trk F H' := fun a ha => by
  by_cases n : a = f
  · obtain ⟨g, s, q, _⟩ := x
    exact ⟨_, n ▸ q⟩
  · obtain ⟨o, q⟩ := h a ha
    exact ⟨o, e a o n q⟩
theorem Trk.same {F : AS} {H H' : Hp} (h : Trk F H) (e : Same H H') : Trk F H' := fun a ha => by
  obtain ⟨o, q⟩ := h a ha
  exact ⟨o, e a o q⟩
theorem Trk.new {F : AS} {H : Hp} {p : Addr} (h : Trk F H) (n : H p = none) : ¬ F p := fun q => by
  obtain ⟨o, e⟩ := h p q
  rw [n] at e
  cases e
def Wth (F : AS) (D : Addr) : AS := fun a => F a ∨ a = D
theorem Trk.wth {F : AS} {H : Hp} {D : Addr} {o : HO} (h : Trk F H) (e : H D = some o) : Trk (Wth F D) H := fun a ha => ha.elim (h a) fun z => ⟨o, z ▸ e⟩
mutual
inductive Da (F : AS) (H : Hp) : V → PyData → Prop
  | non : Da F H .non .none
  | bl (b : Bool) : Da F H (.bl b) (.bool b)
  | int (i : Int) : Da F H (.int i) (.int i)
  | str (x : Str) : Da F H (.str x) (.str x)
  | lst {a : Addr} {xs : List V} {ds : List PyData} : ¬ F a → H a = some (.lst xs) → DaAll F H xs ds → Da F H (.ref a) (.list ds)
  | tup {a : Addr} {xs : List V} {ds : List PyData} : ¬ F a → H a = some (.tup xs) → DaAll F H xs ds → Da F H (.ref a) (.tuple ds)
inductive DaAll (F : AS) (H : Hp) : List V → List PyData → Prop
  | nil : DaAll F H [] []
  | cons {v : V} {vs : List V} {d : PyData} {ds : List PyData} : Da F H v d → DaAll F H vs ds → DaAll F H (v :: vs) (d :: ds)
end
mutual
theorem Da.mono {F F' : AS} {H H' : Hp} (x : ∀ a o, ¬ F a → H a = some o → ¬ F' a ∧ H' a = some o) : ∀ (d : PyData) (v : V), Da F H v d → Da F' H' v d
  | .none, _, h => by cases h; exact .non
  | .bool b, _, h => by cases h; exact .bl b
  | .int b, _, h => by cases h; exact .int b
  | .str b, _, h => by cases h; exact .str b
  | .list ds, _, h => by
    cases h with
    | lst n e a => exact .lst (x _ _ n e).1 (x _ _ n e).2 (DaAll.mono x ds _ a)
  | .tuple ds, _, h => by
    cases h with
    | tup n e a => exact .tup (x _ _ n e).1 (x _ _ n e).2 (DaAll.mono x ds _ a)
  | .dict _, _, h => by cases h
theorem DaAll.mono {F F' : AS} {H H' : Hp} (x : ∀ a o, ¬ F a → H a = some o → ¬ F' a ∧ H' a = some o) : ∀ (ds : List PyData) (vs : List V), DaAll F H vs ds → DaAll F' H' vs ds
  | [], _, h => by cases h; exact .nil
  | d :: ds, _, h => by
    cases h with
    | cons a b => exact .cons (Da.mono x d _ a) (DaAll.mono x ds _ b)
end
section
variable {F : AS} {f D : Addr} {H H' : Hp} {v : V} {d : PyData} {vs : List V} {ds : List PyData}
theorem Da.ext (h : Da F H v d) (x : Ext f H H') (hf : F f) : Da F H' v d := Da.mono (fun a o n e => ⟨n, x a o (fun z => n (z ▸ hf)) e⟩) d v h
theorem DaAll.ext (h : DaAll F H vs ds) (x : Ext f H H') (hf : F f) : DaAll F H' vs ds := DaAll.mono (fun a o n e => ⟨n, x a o (fun z => n (z ▸ hf)) e⟩) ds vs h
theorem Da.same (h : Da F H v d) (x : Same H H') : Da F H' v d := Da.mono (fun a o n e => ⟨n, x a o e⟩) d v h
theorem DaAll.same (h : DaAll F H vs ds) (x : Same H H') : DaAll F H' vs ds := DaAll.mono (fun a o n e => ⟨n, x a o e⟩) ds vs h
theorem Da.upd {o : HO} (h : Da F H v d) (hf : F D) : Da F (L2.upd H D o) v d := h.ext Ext.upd hf
theorem DaAll.upd {o : HO} (h : DaAll F H vs ds) (hf : F D) : DaAll F (L2.upd H D o) vs ds := h.ext Ext.upd hf
theorem Da.avoid (h : Da F H v d) (n : H D = none) : Da (Wth F D) H v d := Da.mono (fun a o q e => ⟨fun z => z.elim q fun y => (by rw [y, n] at e; cases e), e⟩) d v h
theorem DaAll.avoid (h : DaAll F H vs ds) (n : H D = none) : DaAll (Wth F D) H vs ds := DaAll.mono (fun a o q e => ⟨fun z => z.elim q fun y => (by rw [y, n] at e; cases e), e⟩) ds vs h
theorem Da.wth (h : Da (Wth F D) H v d) : Da F H v d := Da.mono (fun a o q e => ⟨fun z => q (.inl z), e⟩) d v h
theorem DaAll.wth (h : DaAll (Wth F D) H vs ds) : DaAll F H vs ds := DaAll.mono (fun a o q e => ⟨fun z => q (.inl z), e⟩) ds vs h
theorem DaAll.length : ∀ {vs : List V} {ds : List PyData}, DaAll F H vs ds → vs.length = ds.length
  | [], [], _ => rfl
  | _ :: _, _ :: _, .cons _ b => congrArg (· + 1) b.length
theorem DaAll.get : ∀ {vs : List V} {ds : List PyData} {i : Nat} {v : V}, DaAll F H vs ds → vs[i]? = some v → ∃ d, ds[i]? = some d ∧ Da F H v d
  | [], _, _, _, _, e => by simp at e
  | _ :: _, _, 0, _, .cons a _, e => ⟨_, rfl, by
    have z := Option.some.inj e
    exact z ▸ a⟩
  | _ :: _, _, i + 1, _, .cons _ b, e => b.get (i := i) e
theorem DaAll.append : ∀ {vs vs' : List V} {ds ds' : List PyData}, DaAll F H vs ds → DaAll F H vs' ds' → DaAll F H (vs ++ vs') (ds ++ ds')
  | _, _, _, _, .nil, b => b
  | _, _, _, _, .cons a t, b => .cons a (t.append b)
theorem DaAll.take : ∀ {vs : List V} {ds : List PyData} (n : Nat), DaAll F H vs ds → DaAll F H (vs.take n) (ds.take n)
  | _, _, 0, _ => .nil
  | _, _, _ + 1, .nil => .nil
  | _, _, n + 1, .cons a t => .cons a (t.take n)
theorem DaAll.drop : ∀ {vs : List V} {ds : List PyData} (n : Nat), DaAll F H vs ds → DaAll F H (vs.drop n) (ds.drop n)
  | _, _, 0, h => h
  | _, _, _ + 1, .nil => .nil
  | _, _, n + 1, .cons _ t => t.drop n
end
mutual
theorem Da.dp {K : PySem.W.Frag} {F : AS} {H : Hp} : ∀ (d : PyData) (v : V), Da F H v d → Dp K H v d
  | .none, _, h => by cases h; exact .non
  | .bool b, _, h => by cases h; exact .bl b
  | .int b, _, h => by cases h; exact .int b
  | .str b, _, h => by cases h; exact .str b
  | .list ds, _, h => by
    cases h with
    | lst n e a => exact .lst (SqL.of e) (DaAll.dp ds _ a)
  | .tuple ds, _, h => by
    cases h with
    | tup n e a => exact .tup (SqT.of e) (DaAll.dp ds _ a)
  | .dict _, _, h => by cases h
theorem DaAll.dp {K : PySem.W.Frag} {F : AS} {H : Hp} : ∀ (ds : List PyData) (vs : List V), DaAll F H vs ds → DpAll K H vs ds
  | [], _, h => by cases h; exact .nil
  | d :: ds, _, h => by
    cases h with
    | cons a b => exact .cons (Da.dp d _ a) (DaAll.dp ds _ b)
end
/-! ### data that are good: narrow, with short texts, ints not too low -/
mutual
def gd (w : Nat) : PyData → Bool
  | .none | .bool _ => true
  | .int i => decide (-(10 ^ 60) ≤ i)
  | .str x => PyData.strOk x && decide (x.length ≤ 100)
  | .list xs | .tuple xs => decide (xs.length ≤ w) && gdAll w xs
  | .dict _ => false
def gdAll (w : Nat) : List PyData → Bool
  | [] => true
  | x :: xs => gd w x && gdAll w xs
end
theorem gdAll_iff {w : Nat} : ∀ {xs : List PyData}, gdAll w xs = true ↔ ∀ x ∈ xs, gd w x = true
  | [] => by simp [gdAll]
  | x :: xs => by simp [gdAll, gdAll_iff (xs := xs)]
mutual
theorem gd_lay {w : Nat} : ∀ d : PyData, gd w d = true → d.canLay0 = true
  | .none, _ => rfl
  | .bool _, _ => rfl
  | .int _, _ => rfl
  | .str x, h => by
    simp only [gd, Bool.and_eq_true] at h
    simp only [PyData.canLay0]
    exact h.1
  | .list xs, h => by
    simp only [gd, Bool.and_eq_true] at h
    simp only [PyData.canLay0]
    exact gdAll_lay xs h.2
  | .tuple xs, h => by
    simp only [gd, Bool.and_eq_true] at h
    simp only [PyData.canLay0]
    exact gdAll_lay xs h.2
  | .dict _, h => by simp [gd] at h
theorem gdAll_lay {w : Nat} : ∀ ds : List PyData, gdAll w ds = true → PyData.canLayAll0 ds = true
  | [], _ => rfl
  | d :: ds, h => by
    simp only [gdAll, Bool.and_eq_true] at h
    simp only [PyData.canLayAll0, Bool.and_eq_true]
    exact ⟨gd_lay d h.1, gdAll_lay ds h.2⟩
end
mutual
theorem gd_mono {w w' : Nat} (hw : w ≤ w') : ∀ d : PyData, gd w d = true → gd w' d = true
  | .none, _ => rfl
  | .bool _, _ => rfl
  | .int _, h => h
  | .str x, h => h
  | .list xs, h => by
    simp only [gd, Bool.and_eq_true, decide_eq_true_eq] at h ⊢
    exact ⟨by omega, gdAll_mono hw xs h.2⟩
  | .tuple xs, h => by
    simp only [gd, Bool.and_eq_true, decide_eq_true_eq] at h ⊢
    exact ⟨by omega, gdAll_mono hw xs h.2⟩
  | .dict _, h => by simp [gd] at h
theorem gdAll_mono {w w' : Nat} (hw : w ≤ w') : ∀ ds : List PyData, gdAll w ds = true → gdAll w' ds = true
  | [], _ => rfl
  | d :: ds, h => by
    simp only [gdAll, Bool.and_eq_true] at h ⊢
    exact ⟨gd_mono hw d h.1, gdAll_mono hw ds h.2⟩
end
theorem depthAll_iff {n : Nat} : ∀ {xs : List PyData}, PyData.depthAll xs ≤ n ↔ ∀ x ∈ xs, x.depth ≤ n
  | [] => by simp [PyData.depthAll]
  | x :: xs => by simp [PyData.depthAll, Nat.max_le, depthAll_iff (xs := xs)]
def Gn (w n : Nat) (d : PyData) : Prop := gd w d = true ∧ d.depth ≤ n
theorem Gn.mono {w w' n n' : Nat} {d : PyData} (h : Gn w n d) (hw : w ≤ w') (hn : n ≤ n') : Gn w' n' d := ⟨gd_mono hw d h.1, Nat.le_trans h.2 hn⟩
theorem Gn.shaped {w n : Nat} {d : PyData} (h : Gn w n d) (hn : n ≤ 64) : SeqAt.shaped d = true := by
  unfold SeqAt.shaped
  rw [gd_lay d h.1, Bool.true_and]
  exact decide_eq_true (Nat.le_trans h.2 hn)
theorem Gn.tuple {w n : Nat} {ds : List PyData} (hw : ds.length ≤ w) (h : ∀ d ∈ ds, Gn w n d) : Gn w (n + 1) (.tuple ds) := by
  refine ⟨?_, ?_⟩
  · simp only [gd, Bool.and_eq_true, decide_eq_true_eq]
    exact ⟨hw, gdAll_iff.mpr fun d hd => (h d hd).1⟩
  · simp only [PyData.depth]
    have := (depthAll_iff (n := n) (xs := ds)).mpr fun d hd => (h d hd).2
    omega
theorem Gn.list {w n : Nat} {ds : List PyData} (hw : ds.length ≤ w) (h : ∀ d ∈ ds, Gn w n d) : Gn w (n + 1) (.list ds) := by
  refine ⟨?_, ?_⟩
  · simp only [gd, Bool.and_eq_true, decide_eq_true_eq]
    exact ⟨hw, gdAll_iff.mpr fun d hd => (h d hd).1⟩
  · simp only [PyData.depth]
    have := (depthAll_iff (n := n) (xs := ds)).mpr fun d hd => (h d hd).2
    omega
theorem Gn.tuple_inv {w n : Nat} {ds : List PyData} (h : Gn w n (.tuple ds)) : ds.length ≤ w ∧ 0 < n ∧ ∀ d ∈ ds, Gn w (n - 1) d := by
  obtain ⟨h1, h2⟩ := h
  simp only [gd, Bool.and_eq_true, decide_eq_true_eq] at h1
  simp only [PyData.depth] at h2
  exact ⟨h1.1, by omega, fun d hd => ⟨gdAll_iff.mp h1.2 d hd, depthAll_iff.mp (by omega) d hd⟩⟩
theorem Gn.list_inv {w n : Nat} {ds : List PyData} (h : Gn w n (.list ds)) : ds.length ≤ w ∧ 0 < n ∧ ∀ d ∈ ds, Gn w (n - 1) d := by
  obtain ⟨h1, h2⟩ := h
  simp only [gd, Bool.and_eq_true, decide_eq_true_eq] at h1
  simp only [PyData.depth] at h2
  exact ⟨h1.1, by omega, fun d hd => ⟨gdAll_iff.mp h1.2 d hd, depthAll_iff.mp (by omega) d hd⟩⟩
/-! ### cuts: what follows is shown once -/
def tMid (t u : TS) : TS := fun D σ H => ∃ M : L2.St → Hp → Prop, t { D with nx := M } σ H ∧ ∀ σ' H', M σ' H' → u D σ' H'
theorem pss_mid {X : Cx} {st : Stmt} {rest : List Stmt} {t u : TS} (h1 : PS X st t) (h2 : PSs X rest u) : PSs X (st :: rest) (tMid t u) := by
  refine ⟨fun pins s σ H D I h => ?_⟩
  obtain ⟨M, hm, hu⟩ := h
  refine wpAny_execs_cons (thn (h1.run pins s σ H { D with nx := M } I hm) fun f s1 q => ?_)
  cases f with
  | next =>
    obtain ⟨σ', H', I', q⟩ := q
    exact h2.run pins s1 σ' H' D I' (hu σ' H' q)
  | ret v => exact q
  | brk => exact q
  | cont => exact q
def tEMid (t : TE) : TE := fun σ H Q => ∃ M : V → Hp → Prop, t σ H M ∧ ∀ v H', M v H' → Q v H'
theorem pe_mid {X : Cx} {e : Expr} {t : TE} (h : PE X e t) : PE X e (tEMid t) := by
  refine ⟨fun pins s σ H Q I hq => ?_⟩
  obtain ⟨M, hm, hu⟩ := hq
  exact thn (h.run pins s σ H M I hm) fun u s1 ⟨v, H1, I1, r, q⟩ => ⟨v, H1, I1, r, hu _ _ q⟩
def tTMid (t : TT) : TT := fun σ H Q => ∃ M : Bool → Hp → Prop, t σ H M ∧ ∀ v H', M v H' → Q v H'
theorem pt_mid {X : Cx} {e : Expr} {t : TT} (h : PT X e t) : PT X e (tTMid t) := by
  refine ⟨fun pins s σ H Q I hq => ?_⟩
  obtain ⟨M, hm, hu⟩ := hq
  exact thn (h.run pins s σ H M I hm) fun u s1 ⟨H1, I1, q⟩ => ⟨H1, I1, hu _ _ q⟩
theorem pw_mid {X : Cx} {e : Expr} {t : TT} (h : PW X e t) : PW X e (tTMid t) := by
  refine ⟨fun wh pins s σ H Q I hq => ?_⟩
  obtain ⟨M, hm, hu⟩ := hq
  exact thn (h.run wh pins s σ H M I hm) fun u s1 ⟨H1, I1, q⟩ => ⟨H1, I1, hu _ _ q⟩
section
variable {P : Program} {w : World} {K : PySem.W.Frag} {mg : Str → Option Value} {base : Heap}
/-! ### draws -/
def sp_draw : Sp := fun vs H Q _ => ∃ (f : Addr) (m : Int), vs = [.ref f, .int m] ∧ Fd f H ∧ 0 < m ∧ m < 1073741824 ∧ ∀ r H', 0 ≤ r → r < m → Ext f H H' → Fd f H' → Q (.int r) H'
theorem ok__law_draw (T : Top K mg) : FnOk P w K mg base CX0 1 T._law_draw T._law_draw_d ["_law_feed", "_law_many"] sp_draw := by
  refine T._law_draw_f.ok sc__law_draw (fun vs H Q E h => ?_) (fun cdv A outer s H vs Q E hr h => ?_)
  · obtain ⟨f, m, rfl, _⟩ := h
    rfl
  obtain ⟨f, m, rfl, ⟨g, z, hf, hg, hz⟩, hm, hm2, q⟩ := h
  -- slots: 0 _law_feed, 1 _law_many, 2 _law_digit
  refine ⟨_, (pss_cons (ps_if (pt_cmpR op_gt (pe_ix ix_list (pv 0) pe_int (fun _ _ => rfl)) pe_int (nomark _)) (pss_cons (ps_set (i := 2) sc__law_draw.nd rfl (.inl rfl) (pe_op op_mod (pe_ix ix_list (pv 0) pe_int (fun _ _ => rfl)) (pv 1)))
      (pss_cons (ps_asg (pe_op op_fdiv (pe_ix ix_list (pv 0) pe_int (fun _ _ => rfl)) (pv 1)) (pg_sub (pv 0) pe_int set_list))
      (pss_one (ps_ret (pv 2))))) pss_nil)
      (pss_cons (ps_asg (pe_op op_mod (pe_op op_add (pe_op op_mul (pe_ix ix_list (pv 0) pe_int (fun _ _ => rfl)) pe_int) pe_int) pe_int) (pg_sub (pv 0) pe_int set_list))
      (pss_one (ps_ret (pe_op op_mod (pe_op op_fdiv (pe_ix ix_list (pv 0) pe_int (fun _ _ => rfl)) pe_int) (pv 1)))))), ?_⟩
  refine ⟨_, rfl, f, _, 0, _, rfl, rfl, SqL.of hf, rfl, _, _, rfl, rfl, _, rfl, ite2 (fun c => ?_) (fun c => ?_)⟩
  · have c' : 0 < g := of_decide_eq_true c
    refine ⟨_, rfl, f, _, 0, _, rfl, rfl, SqL.of hf, rfl, _, rfl, _, _, rfl, rfl, hm, ?_⟩
    refine ⟨_, rfl, f, _, 0, _, rfl, rfl, SqL.of hf, rfl, _, rfl, _, _, rfl, rfl, ⟨hm, hm2⟩, _, rfl, f, _, 0, 0, rfl, rfl, hf, rfl, _, rfl, ?_⟩
    exact q _ _ (Int.emod_nonneg _ (by omega)) (Int.emod_lt_of_pos _ hm) Ext.upd ⟨g / m, z, upd_same, Int.ediv_nonneg hg (by omega), hz⟩
  · refine ⟨_, rfl, f, _, 1, _, rfl, rfl, SqL.of hf, rfl, _, _, rfl, rfl, .inr ⟨by decide, by decide⟩, _, _, rfl, rfl, _, _, rfl, rfl, (by show (0 : Int) < 2147483647; decide), _, rfl, f, _, 1, 1, rfl, rfl, hf, rfl, ?_⟩
    refine ⟨_, rfl, f, _, 1, _, rfl, rfl, SqL.of upd_same, rfl, _, _, rfl, rfl, ⟨by decide, by decide⟩, _, rfl, _, _, rfl, rfl, hm, ?_⟩
    have e1 : (0 : Int) ≤ (z * 48271 + 11) % 2147483647 := Int.emod_nonneg _ (by decide)
    exact q _ _ (Int.emod_nonneg _ (by omega)) (Int.emod_lt_of_pos _ hm) Ext.upd ⟨g, _, upd_same, hg, e1⟩
/-! ### the feed of a cell -/
def sp_feed_of : Sp := fun vs H Q _ => ∃ (a : Addr) (ns : List Int) (k : Nat), vs = [.ref a, .int k] ∧ SqL K H a (ns.map V.int) ∧ k ≤ 1000 ∧ ∀ f H', H f = none → Same H H' → Fd f H' → Q (.ref f) H'
theorem ok__law_feed_of (T : Top K mg) : FnOk P w K mg base CX0 1 T._law_feed_of T._law_feed_of_d ["_law_script", "_law_k"] (sp_feed_of (K := K)) := by
  refine T._law_feed_of_f.ok sc__law_feed_of (fun vs H Q E h => ?_) (fun cdv A outer s H vs Q E hr h => ?_)
  · obtain ⟨a, ns, k, rfl, _⟩ := h
    rfl
  obtain ⟨a, ns, k, rfl, hS, hk, q⟩ := h
  -- slots: 0 _law_script, 1 _law_k, 2 _law_cell, 3 _law_great
  refine ⟨_, (pss_cons (ps_set (i := 2) sc__law_feed_of.nd rfl (.inl rfl) (pe_op op_add (pe_op op_mul pe_int (pv 1)) pe_int))
      (pss_mid (ps_if (pt_cmpR op_lt (pv 1) (pe_callB call_len_seq (by rfl) T.len_n (by decide +kernel) (pa_cons (pv 0) pa_nil)) (nomark _)) (pss_one (ps_set (i := 2) sc__law_feed_of.nd rfl (.inl rfl) (pe_ix ix_list (pv 0) (pv 1) (fun _ _ => rfl)))) pss_nil)
      (pss_mid (ps_if (pt_cmpR op_lt (pv 2) pe_int (nomark _)) (pss_one (ps_set (i := 2) sc__law_feed_of.nd rfl (.inl rfl) (pe_op op_sub pe_int (pe_op op_mul pe_int (pv 2))))) pss_nil)
      (pss_cons (ps_set (i := 3) sc__law_feed_of.nd rfl (.inl rfl) (pe_mid (pe_ifExp (pt_cmpR op_ge (pv 2) (pe_op op_pow pe_int pe_int) (nomark _)) (pv 2) pe_int)))
      (pss_one (ps_ret (pe_lst (pa_cons (pv 3) (pa_cons (pe_op op_add (pe_op op_add (pe_op op_mod (pv 2) pe_int) (pe_op op_mul pe_int (pv 1))) pe_int) pa_nil))))))))), ?_⟩
  -- cell = 7919 * k + 17
  refine ⟨_, rfl, _, _, rfl, rfl, .inl ⟨by decide, by decide⟩, _, _, rfl, rfl, ?_⟩
  -- if k < len(script): cell = script[k]
  refine ⟨fun σ H' => ∃ c : Int, σ = [some (.ref a), some (.int k), some (.int c), none] ∧ H = H', ?_, ?_⟩
  · refine ⟨_, rfl, _, rfl, a, _, rfl, .inl hS, _, _, rfl, rfl, _, rfl, ite2 (fun c => ?_) (fun c => ⟨_, rfl, rfl⟩)⟩
    have c' := of_decide_eq_true c
    have hk2 : k < ns.length := by
      rw [List.length_map] at c'
      omega
    refine ⟨_, rfl, _, rfl, a, _, _, _, rfl, rfl, hS, atI_nat (by rw [List.getElem?_map, List.getElem?_eq_getElem hk2] <;> rfl), _, rfl, rfl⟩
  rintro _ _ ⟨c, rfl, rfl⟩
  -- if cell < 0
  refine ⟨fun σ H' => ∃ c : Int, σ = [some (.ref a), some (.int k), some (.int c), none] ∧ H = H' ∧ 0 ≤ c, ?_, ?_⟩
  · refine ⟨_, rfl, _, _, rfl, rfl, _, rfl, ite2 (fun e => ?_) (fun e => ?_)⟩
    · have e' := of_decide_eq_true e
      exact ⟨_, rfl, _, _, rfl, rfl, .inl ⟨by decide, by decide⟩, _, _, rfl, rfl, _, rfl, rfl, by omega⟩
    · have e' := of_decide_eq_false (Bool.eq_false_iff.mpr e)
      exact ⟨_, rfl, rfl, by omega⟩
  rintro _ _ ⟨c, rfl, rfl, hc⟩
  -- great
  refine ⟨fun v H' => ∃ g : Int, v = .int g ∧ H = H' ∧ 0 ≤ g, ?_, ?_⟩
  · refine ⟨_, rfl, _, _, rfl, rfl, ⟨by decide, by decide, by decide⟩, _, _, rfl, rfl, _, rfl, ite2 (fun e => ?_) (fun e => ?_)⟩
    · exact ⟨_, rfl, _, rfl, rfl, hc⟩
    · exact ⟨_, rfl, rfl, by decide⟩
  rintro _ _ ⟨g, rfl, rfl, hg⟩
  refine ⟨_, rfl, _, rfl, _, _, rfl, rfl, (by show (0 : Int) < 1000003; decide), _, rfl, _, _, rfl, rfl, .inl ⟨by decide, by decide⟩, _, _, rfl, rfl, _, _, rfl, rfl, (by show 2 ≤ sizeLine; decide), fun f nf => ?_⟩
  have e1 : (0 : Int) ≤ c % 1000003 := Int.emod_nonneg _ (by decide)
  exact q _ _ nf (same_upd nf) ⟨g, _, upd_same, hg, by omega⟩
end
end Sa

set_option Elab.async false
set_option linter.all false
set_option maxRecDepth 100000
set_option maxHeartbeats 4000000
namespace Sa
open PySem PySem.Spec PyProof.Rows L2
theorem go_asg {te : TE} {g : TG} {u : TS} {D : Ends} {σ : L2.St} {H : Hp} (h : te σ H fun x H1 => g x σ H1 (u D)) : tSeq (tAsg te g) u D σ H := h
theorem go_name {i : Nat} {x : V} {σ : L2.St} {H : Hp} {Q : L2.St → Hp → Prop} (h : Q (σ.set i (some x)) H) : gName i x σ H Q := h
theorem go_ret {te : TE} {D : Ends} {σ : L2.St} {H : Hp} (h : te σ H D.rt) : tRet te D σ H := h
/-! ### expressions that hand back data, drawing on the way -/
/-- from every heap behind H0: t gives data of G -/
def Yd (f : Addr) (F : AS) (H0 : Hp) (σ : L2.St) (G : PyData → Prop) (t : TE) : Prop := ∀ H Q, Ext f H0 H → Fd f H → Trk F H → (∀ v d H', Ext f H H' → Fd f H' → Da F H' v d → G d → Q v H') → t σ H Q
def YdA (f : Addr) (F : AS) (H0 : Hp) (σ : L2.St) (G : List PyData → Prop) (t : TA) : Prop := ∀ H Q, Ext f H0 H → Fd f H → Trk F H → (∀ vs ds H', Ext f H H' → Fd f H' → DaAll F H' vs ds → G ds → Q vs H') → t σ H Q
section
variable {f : Addr} {F : AS} {H0 : Hp} {σ : L2.St} {G G1 : PyData → Prop} {Gs : List PyData → Prop} {t : TE} {ta : TA}
theorem Yd.imp (h : Yd f F H0 σ G t) (i : ∀ d, G d → G1 d) : Yd f F H0 σ G1 t := fun H Q a b c q => h H Q a b c fun v d H' x y z w => q v d H' x y z (i d w)
theorem yd_str {x : Str} (h : G (.str x)) : Yd f F H0 σ G (tC (.str x)) := fun H Q _ b _ q => q _ _ H Ext.refl b (.str x) h
theorem yd_int {x : Int} (h : G (.int x)) : Yd f F H0 σ G (tC (.int x)) := fun H Q _ b _ q => q _ _ H Ext.refl b (.int x) h
theorem yd_bl {x : Bool} (h : G (.bool x)) : Yd f F H0 σ G (tC (.bl x)) := fun H Q _ b _ q => q _ _ H Ext.refl b (.bl x) h
theorem yd_non (h : G .none) : Yd f F H0 σ G (tC .non) := fun H Q _ b _ q => q _ _ H Ext.refl b .non h
theorem yd_var {i : Nat} {v : V} {d : PyData} (e : σ[i]? = some (some v)) (hf : F f) (a : Da F H0 v d) (h : G d) : Yd f F H0 σ G (tVar i) := fun H Q x b _ q => ⟨v, e, q _ _ H Ext.refl b (a.ext x hf) h⟩
theorem yda_nil (h : Gs []) : YdA f F H0 σ Gs tNil := fun H Q _ b _ q => q _ _ H Ext.refl b .nil h
theorem yda_cons (hf : F f) (h1 : Yd f F H0 σ G t) (h2 : ∀ d, G d → YdA f F H0 σ (fun ds => Gs (d :: ds)) ta) : YdA f F H0 σ Gs (tCons t ta) := fun H Q x b c q =>
  h1 H _ x b c fun v d H1 x1 b1 a1 g1 => h2 d g1 H1 _ (x.trans x1) b1 (c.ext x1 b1) fun vs ds H2 x2 b2 a2 g2 => q (v :: vs) (d :: ds) H2 (x1.trans x2) b2 (.cons (a1.ext x2 hf) a2) g2
theorem yd_tup (hf : F f) (h : YdA f F H0 σ (fun ds => ds.length ≤ 1000 ∧ G (.tuple ds)) ta) : Yd f F H0 σ G (tTup ta) := fun H Q x b c q =>
  h H _ x b c fun vs ds H1 x1 b1 a1 g1 => by
    have e := a1.length
    refine ⟨Nat.le_of_lt (small1000 (by omega)), fun p np => ?_⟩
    have s1 : Same H1 (L2.upd H1 p (.tup vs)) := same_upd np
    exact q _ _ _ (x1.trans (Ext.same s1)) (b1.same s1) (.tup ((c.ext x1 b1).new np) upd_same (a1.same s1)) g1.2
theorem yd_lst (hf : F f) (h : YdA f F H0 σ (fun ds => ds.length ≤ 1000 ∧ G (.list ds)) ta) : Yd f F H0 σ G (tLst ta) := fun H Q x b c q =>
  h H _ x b c fun vs ds H1 x1 b1 a1 g1 => by
    have e := a1.length
    refine ⟨Nat.le_of_lt (small1000 (by omega)), fun p np => ?_⟩
    have s1 : Same H1 (L2.upd H1 p (.lst vs)) := same_upd np
    exact q _ _ _ (x1.trans (Ext.same s1)) (b1.same s1) (.lst ((c.ext x1 b1).new np) upd_same (a1.same s1)) g1.2
/-- [e for k in range(n)] with data e, over draws -/
theorem yd_lc {n : Nat} {i : Nat} {te : TE} {Ge : PyData → Prop} {H1 : Hp} {D : Addr} (hf : F f) (x1 : Ext f H0 H1) (b1 : Fd f H1) (c1 : Trk F H1) (nD : H1 D = none) (hn : n ≤ 1000)
    (he : ∀ k : Nat, k < n → Yd f (Wth F D) H1 ((wipe σ [i]).set i (some (.int (0 + k)))) Ge te) (hw : ∀ y, wipe ((wipe σ [i]).set i y) [i] = wipe σ [i]) {Qd : Hp → Prop}
    (q : ∀ H' vs ds, Ext f H1 H' → Fd f H' → H' D = some (.lst vs) → DaAll (Wth F D) H' vs ds → ds.length = n → (∀ d ∈ ds, Ge d) → Qd H') :
    ∃ W : Nat → Nat → Hp → Prop, (∃ m, W 0 m (L2.upd H1 D (.lst []))) ∧ ∀ j m H, W j m H →
      ((Itr 0 n).stop j H ∧ Qd H) ∨ ((Itr 0 n).go j H ∧ ∃ Nx : Hp → Prop, (∀ H', Nx H' → ∃ m', m' < m ∧ W (j + 1) m' H') ∧ ∀ x H', (Itr 0 n).yld j H x H' → gName i x (wipe σ [i]) H' fun σ2 H2 => wipe σ2 [i] = wipe σ [i] ∧ tYes σ2 H2 fun b H3 =>
        if b = true then te σ2 H3 fun y H4 => ∃ acc, H4 D = some (.lst acc) ∧ acc.length < sizeLine ∧ Nx (L2.upd H4 D (.lst (acc ++ [y]))) else Nx H3) := by
  have nDf : D ≠ f := fun z => by
    obtain ⟨g, s, e, _⟩ := b1
    rw [z, e] at nD
    cases nD
  refine lc_range (lo := 0) (n := n) (fun k H => Ext f H1 H ∧ Fd f H ∧ Trk (Wth F D) H ∧ ∃ vs ds, H D = some (.lst vs) ∧ DaAll (Wth F D) H vs ds ∧ ds.length = k ∧ ∀ d ∈ ds, Ge d) ?_ ?_ ?_
  · have s1 : Same H1 (L2.upd H1 D (.lst [])) := same_upd nD
    exact ⟨Ext.same s1, b1.same s1, (c1.same s1).wth upd_same, [], [], upd_same, .nil, rfl, fun d hd => by cases hd⟩
  · rintro k H hk ⟨x2, b2, c2, vs, ds, eD, aD, lD, gD⟩
    refine ⟨hw _, he k hk H _ x2 b2 c2 fun v d H3 x3 b3 a3 g3 => ?_⟩
    have eD3 := x3 D _ nDf eD
    have eL := aD.length
    refine ⟨vs, eD3, small1000 (by omega), ?_⟩
    have x4 : Ext D H3 (L2.upd H3 D (.lst (vs ++ [v]))) := Ext.upd
    refine ⟨fun a o n e => ?_, ?_, fun a ha => ?_, vs ++ [v], ds ++ [d], upd_same, ((aD.ext x3 (.inl hf)).append (.cons a3 .nil)).ext x4 (.inr rfl), by rw [List.length_append, lD]; rfl, fun y hy => ?_⟩
    · have na : a ≠ D := fun z => by rw [z, nD] at e; cases e
      rw [upd_ne na]
      exact x3 a o n (x2 a o n e)
    · obtain ⟨g, s, e, r⟩ := b3
      exact ⟨g, s, by rw [upd_ne nDf.symm]; exact e, r⟩
    · by_cases na : a = D
      · exact ⟨_, by rw [na]; exact upd_same⟩
      · obtain ⟨o, e⟩ := (c2.ext x3 b3) a ha
        exact ⟨o, by rw [upd_ne na]; exact e⟩
    · rcases List.mem_append.mp hy with z | z
      · exact gD y z
      · rw [List.mem_singleton.mp z]; exact g3
  · rintro H ⟨x2, b2, c2, vs, ds, eD, aD, lD, gD⟩
    exact q H vs ds x2 b2 eD aD lD gD
end
section
variable {f : Addr} {F : AS} {H0 : Hp} {σ : L2.St} {G G1 : PyData → Prop} {Gs : List PyData → Prop} {t : TE} {ta : TA} {m w n : Nat}
def YdU (f : Addr) (F : AS) (H0 : Hp) (σ : L2.St) (G : PyData → Prop) (m : Nat) (t : TA) : Prop := YdA f F H0 σ (fun ds => ds.length = m ∧ ∀ d ∈ ds, G d) t
theorem ydu_nil : YdU f F H0 σ G 0 tNil := yda_nil ⟨rfl, fun d hd => by cases hd⟩
theorem ydu_cons (hf : F f) (h1 : Yd f F H0 σ G t) (h2 : YdU f F H0 σ G m ta) : YdU f F H0 σ G (m + 1) (tCons t ta) :=
  yda_cons hf h1 fun d g H Q a b c q => h2 H Q a b c fun vs ds H' x y z r => q vs ds H' x y z ⟨by rw [List.length_cons, r.1], fun e he => (List.mem_cons.mp he).elim (fun u => u ▸ g) (r.2 e)⟩
theorem yd_tupG (hf : F f) (h : YdU f F H0 σ (Gn w n) m ta) (hm : m ≤ w) (hw : w ≤ 1000) : Yd f F H0 σ (Gn w (n + 1)) (tTup ta) :=
  yd_tup hf fun H Q a b c q => h H Q a b c fun vs ds H' x y z r => q vs ds H' x y z ⟨by omega, Gn.tuple (by omega) r.2⟩
theorem yd_lstU (hf : F f) (h : YdU f F H0 σ G m ta) (hm : m ≤ 1000) : Yd f F H0 σ (fun d => ∃ ds, d = .list ds ∧ ds.length = m ∧ ∀ z ∈ ds, G z) (tLst ta) :=
  yd_lst hf fun H Q a b c q => h H Q a b c fun vs ds H' x y z r => q vs ds H' x y z ⟨by omega, ds, rfl, r⟩
theorem yd_tupU (hf : F f) (h : YdU f F H0 σ G m ta) (hm : m ≤ 1000) : Yd f F H0 σ (fun d => ∃ ds, d = .tuple ds ∧ ds.length = m ∧ ∀ z ∈ ds, G z) (tTup ta) :=
  yd_tup hf fun H Q a b c q => h H Q a b c fun vs ds H' x y z r => q vs ds H' x y z ⟨by omega, ds, rfl, r⟩
theorem gn_int {i : Int} (h : -(10 ^ 60) ≤ i) : Gn w n (.int i) := ⟨decide_eq_true h, Nat.zero_le _⟩
theorem gn_bl {b : Bool} : Gn w n (.bool b) := ⟨rfl, Nat.zero_le _⟩
theorem gn_str {x : Str} (h : (PyData.strOk x && decide (x.length ≤ 100)) = true) : Gn w n (.str x) := ⟨h, Nat.zero_le _⟩
theorem yd_ixL {K : PySem.W.Frag} {i j : Nat} {p : Addr} {ds : List PyData} {d : PyData} (e : σ[i]? = some (some (.ref p))) (hf : F f) (a : Da F H0 (.ref p) (.list ds)) (g : ds[j]? = some d) (h : G d) : Yd f F H0 σ G (tOp (rIxL K) (tVar i) (tC (.int j))) := by
  intro H Q x b c q
  cases a with
  | @lst _ xs _ nF ea al =>
    have hl := al.length
    obtain ⟨hj, _⟩ := List.getElem?_eq_some_iff.mp g
    have ex : xs[j]? = some xs[j] := List.getElem?_eq_getElem (by omega)
    obtain ⟨d', e1, e2⟩ := al.get ex
    rw [g] at e1
    cases e1
    exact ⟨_, e, p, xs, j, xs[j], rfl, rfl, SqL.of (x _ _ (fun z => nF (z ▸ hf)) ea), atI_nat ex, q _ d H Ext.refl b (e2.ext x hf) h⟩
theorem yd_tupLc {r : List V → Hp → VK → Prop} {i : Nat} {te : TE} {Ge : PyData → Prop} (hr : ∀ p ys H Q, H p = some (.lst ys) → (∀ l, H l = none → Q (.ref l) (L2.upd H l (.tup ys))) → r [.ref p] H Q) (hf : F f)
    (hn : ∀ H, Ext f H0 H → Fd f H → Trk F H → ∀ Q, (∀ j : Int, 0 ≤ j → j ≤ m → ∀ H', Ext f H H' → Fd f H' → Q [.int j] H') → ta σ H Q) (hm : m ≤ 1000)
    (he : ∀ D H1 (k : Nat), Ext f H0 H1 → H1 D = none → Yd f (Wth F D) H1 ((wipe σ [i]).set i (some (.int (0 + k)))) Ge te) (hw : ∀ y, wipe ((wipe σ [i]).set i y) [i] = wipe σ [i]) (hG : ∀ ds : List PyData, ds.length ≤ m → (∀ d ∈ ds, Ge d) → G (.tuple ds)) :
    Yd f F H0 σ G (tCB r (tCons (tLc (iRng1 ta) (gName i) tYes te [i]) tNil)) := by
  intro H Q x b c q
  refine hn H x b c _ fun j j0 j1 H2 x2 b2 => ⟨j, rfl, by omega, by omega, fun D nD => ?_⟩
  have c2 := c.ext x2 b2
  refine yd_lc (f := f) (F := F) (H0 := H0) (Ge := Ge) hf (x.trans x2) b2 c2 nD (by omega) (fun k hk => he D H2 k (x.trans x2) nD) hw (fun H' vs ds x3 b3 eD aD lD gD => ?_)
  refine hr D vs H' _ eD fun p np => ?_
  have s4 : Same H' (L2.upd H' p (.tup vs)) := same_upd np
  exact q _ (.tuple ds) _ ((x2.trans x3).trans (Ext.same s4)) (b3.same s4) (.tup ((c2.ext x3 b3).new np) upd_same (aD.wth.same s4)) (hG ds (by omega) gD)
/-- where a draw stands: its answer as a datum, and as an int -/
theorem rd_draw {k : Nat} {z : Int} {H : Hp} {Q : VK} (e : σ[k]? = some (some (.ref f))) (b : Fd f H) (hz : 0 < z ∧ z < 1073741824) (q : ∀ r H', 0 ≤ r → r < z → Ext f H H' → Fd f H' → Q (.int r) H') :
    tCall sp_draw [] E0 (tCons (tVar k) (tCons (tC (.int z)) tNil)) σ H Q := ⟨_, e, f, z, rfl, b, hz.1, hz.2, q⟩
theorem yd_draw {k : Nat} {z : Int} (e : σ[k]? = some (some (.ref f))) (hz : 0 < z ∧ z < 1073741824) : Yd f F H0 σ (Gn w n) (tCall sp_draw [] E0 (tCons (tVar k) (tCons (tC (.int z)) tNil))) :=
  fun H Q x b c q => rd_draw e b hz fun r H' r0 _ x1 b1 => q _ (.int r) H' x1 b1 (.int r) (gn_int (by omega))
end
section
variable {P : Program} {w : World} {K : PySem.W.Frag} {mg : Str → Option Value} {base : Heap}
theorem atI_int {α : Type} {xs : List α} {r : Int} {x : α} (h0 : 0 ≤ r) (h : xs[r.toNat]? = some x) : atI xs r = some x := by
  have er : r = ((r.toNat : Nat) : Int) := by omega
  rw [er]
  exact atI_nat h
/-! ### pick -/
def sp_pick : Sp := fun vs H Q _ => ∃ (f a : Addr) (xs : List V), vs = [.ref f, .ref a] ∧ Fd f H ∧ a ≠ f ∧ H a = some (.lst xs) ∧ 0 < xs.length ∧ xs.length ≤ 1000 ∧ ∀ (i : Nat) x H', xs[i]? = some x → Ext f H H' → Fd f H' → Q x H'
theorem ok__law_pick (T : Top K mg) : FnOk P w K mg base CX0 2 T._law_pick T._law_pick_d ["_law_feed", "_law_items"] sp_pick := by
  refine T._law_pick_f.ok sc__law_pick (fun vs H Q E h => ?_) (fun cdv A outer s H vs Q E hr h => ?_)
  · obtain ⟨f, a, xs, rfl, _⟩ := h
    rfl
  obtain ⟨f, a, xs, rfl, hF, ne, ea, l0, l1, q⟩ := h
  -- slots: 0 _law_feed, 1 _law_items
  refine ⟨_, (pss_one (ps_ret (pe_ix ix_list (pv 1) (pe_call (ok__law_draw T) (hr.mono (by decide)) rfl T._law_draw_g T._law_draw_k T._law_draw_b .nil pass0 (pa_cons (pv 0) (pa_cons (pe_callB call_len_seq (by rfl) T.len_n (by decide +kernel) (pa_cons (pv 1) pa_nil)) pa_nil))) (fun _ _ => rfl)))), ?_⟩
  refine ⟨_, rfl, _, rfl, _, rfl, a, _, rfl, .inl (SqL.of ea), f, _, rfl, hF, by omega, by omega, fun r H' r0 r1 x1 b1 => ?_⟩
  have ea' := x1 a _ ne ea
  have hr2 : r.toNat < xs.length := by omega
  have er : r = ((r.toNat : Nat) : Int) := by omega
  exact ⟨a, xs, r, xs[r.toNat], rfl, rfl, SqL.of ea', atI_int r0 (List.getElem?_eq_getElem hr2), q r.toNat _ _ (List.getElem?_eq_getElem hr2) x1 b1⟩
/-! ### written values -/
def okc : V → Bool
  | .non | .bl _ => true
  | .int i => decide (-(10 ^ 60) ≤ i)
  | .str x => PyData.strOk x && decide (x.length ≤ 100)
  | _ => false
theorem okc_da {F : AS} {H : Hp} {v : V} (h : okc v = true) : ∃ d, Da F H v d ∧ Gn 0 0 d := by
  cases v with
  | non => exact ⟨_, .non, rfl, Nat.le_refl _⟩
  | bl b => exact ⟨_, .bl b, rfl, Nat.le_refl _⟩
  | int i => exact ⟨_, .int i, h, Nat.le_refl _⟩
  | str x => exact ⟨_, .str x, h, Nat.le_refl _⟩
  | byt _ => cases h
  | flt _ => cases h
  | ref _ => cases h
  | ty _ => cases h
theorem okc_at {xs : List V} {i : Nat} {v : V} (h : xs.all okc = true) (e : xs[i]? = some v) : okc v = true := List.all_eq_true.mp h v (List.mem_of_getElem? e)
/-- pick(feed, [written ones]) -/
theorem rd_pickC {f : Addr} {σ : L2.St} {k : Nat} {H : Hp} {Q : VK} {ta : TA} {xs : List V} (e : σ[k]? = some (some (.ref f))) (b : Fd f H) (ht : ∀ H Q, Q xs H → ta σ H Q) (h0 : 0 < xs.length) (h1 : xs.length ≤ 1000)
    (q : ∀ x H', x ∈ xs → Ext f H H' → Fd f H' → Q x H') : tCall sp_pick [] E0 (tCons (tVar k) (tCons (tLst ta) tNil)) σ H Q := by
  refine ⟨_, e, ht _ _ ⟨Nat.le_of_lt (small1000 h1), fun p np => ?_⟩⟩
  have s1 : Same H (L2.upd H p (.lst xs)) := same_upd np
  have n1 : p ≠ f := fun z => by
    obtain ⟨g, s, e, _⟩ := b
    rw [z, e] at np
    cases np
  exact ⟨f, p, xs, rfl, b.same s1, n1, upd_same, h0, h1, fun i x H' ex x1 b1 => q x H' (List.mem_of_getElem? ex) ((Ext.same s1).trans x1) b1⟩
theorem yd_pickC {f : Addr} {F : AS} {H0 : Hp} {σ : L2.St} {k : Nat} {ta : TA} {xs : List V} (e : σ[k]? = some (some (.ref f))) (ht : ∀ H Q, Q xs H → ta σ H Q) (h0 : 0 < xs.length) (h1 : xs.length ≤ 1000) (ho : xs.all okc = true) {w n : Nat} :
    Yd f F H0 σ (Gn w n) (tCall sp_pick [] E0 (tCons (tVar k) (tCons (tLst ta) tNil))) := fun H Q x b c q => rd_pickC e b ht h0 h1 fun v H' hv x1 b1 => by
  obtain ⟨d, hd, g⟩ := okc_da (F := F) (H := H') (List.all_eq_true.mp ho v hv)
  exact q v d H' x1 b1 hd (g.mono (Nat.zero_le _) (Nat.zero_le _))
/-! ### any value -/
def sp_any (n : Nat) : Sp := fun vs H Q _ => ∃ (f : Addr) (F : AS) (k : Nat), vs = [.ref f, .int k] ∧ k < n ∧ k ≤ 3 ∧ Fd f H ∧ F f ∧ Trk F H ∧ ∀ v d H', Ext f H H' → Fd f H' → Da F H' v d → Gn 6 k d → Q v H'
theorem any0 {f : Addr} {fd : FuncData} : FnOk P w K mg base CX0 2 f fd ["_law_feed", "_law_deep"] (sp_any 0) :=
  ⟨fun vs H Q E h => by obtain ⟨f, F, k, _, h, _⟩ := h; omega, fun A outer s H args us vs Q E _ _ _ _ h => by obtain ⟨f, F, k, _, h, _⟩ := h; omega⟩
theorem any1 (T : Top K mg) {n : Nat} (IH : FnOk P w K mg base CX0 (n + 2) T._law_any_value T._law_any_value_d ["_law_feed", "_law_deep"] (sp_any n)) :
    FnOk P w K mg base CX0 (n + 3) T._law_any_value T._law_any_value_d ["_law_feed", "_law_deep"] (sp_any (n + 1)) := by
  refine T._law_any_value_f.ok sc__law_any_value (fun vs H Q E h => ?_) (fun cdv A outer s H vs Q E hr h => ?_)
  · obtain ⟨f, F, k, rfl, _⟩ := h
    rfl
  obtain ⟨f, F, k, rfl, hk, hk3, hF, hf, hT, q⟩ := h
  have hr1 : Room 1 _ := hr.mono (by omega)
  have hr2 : Room 2 _ := hr.mono (by omega)
  -- slots: 0 _law_feed, 1 _law_deep, 2 _law_form, 3 _law_some, 4 _law_turn
  refine ⟨_, (pss_cons (ps_set (i := 2) sc__law_any_value.nd rfl (.inl rfl) (pe_call (ok__law_draw T) hr1 rfl T._law_draw_g T._law_draw_k T._law_draw_b .nil pass0 (pa_cons (pv 0) (pa_cons pe_int pa_nil))))
      (pss_mid (ps_if (PW.pt (pw_and (pt_cmpR op_lt (pv 2) pe_int (nomark _)) (pw_and1 (pt_cmpR op_gt (pv 1) pe_int (nomark _))))) (pss_one (ps_ret (pe_callTy call_tuple_of (by rfl) T.tuple_n (by decide +kernel) (pa_cons (pe_lc (own := [("_law_turn", 4)]) (g := (gName 4)) (tt := tYes) (by rfl) sc__law_any_value.nd (pi_range1 (by rfl) T.range_n (pa_cons (pe_call (ok__law_draw T) hr1 rfl T._law_draw_g T._law_draw_k T._law_draw_b .nil pass0 (pa_cons (pv 0) (pa_cons pe_int pa_nil))) pa_nil)) (blkOk_by (own := [("_law_turn", 4)]) (N := ["_law_feed", "_law_deep", "_law_form", "_law_some", "_law_turn"]) (sc := defScope s__law_any_value) (by decide +kernel)) (fun _ _ _ _ _ => (pg_name (i := 4) sc__law_any_value.nd rfl (.inl rfl))) (fun _ _ _ _ _ => pts_nil) (fun _ _ _ _ _ => (pe_call IH hr rfl T._law_any_value_g T._law_any_value_k T._law_any_value_b0 T._law_any_value_v0 pass0 (pa_cons (pv 0) (pa_cons (pe_op op_sub (pv 1) pe_int) pa_nil))))) pa_nil)))) pss_nil)
      (pss_mid (ps_if (PW.pt (pw_and (pt_cmpR op_eq (pv 2) pe_int (nomark _)) (pw_and1 (pt_cmpR op_gt (pv 1) pe_int (nomark _))))) (pss_one (ps_ret (pe_lc (own := [("_law_turn", 4)]) (g := (gName 4)) (tt := tYes) (by rfl) sc__law_any_value.nd (pi_range1 (by rfl) T.range_n (pa_cons (pe_call (ok__law_draw T) hr1 rfl T._law_draw_g T._law_draw_k T._law_draw_b .nil pass0 (pa_cons (pv 0) (pa_cons pe_int pa_nil))) pa_nil)) (blkOk_by (own := [("_law_turn", 4)]) (N := ["_law_feed", "_law_deep", "_law_form", "_law_some", "_law_turn"]) (sc := defScope s__law_any_value) (by decide +kernel)) (fun _ _ _ _ _ => (pg_name (i := 4) sc__law_any_value.nd rfl (.inl rfl))) (fun _ _ _ _ _ => pts_nil) (fun _ _ _ _ _ => (pe_call IH hr rfl T._law_any_value_g T._law_any_value_k T._law_any_value_b0 T._law_any_value_v0 pass0 (pa_cons (pv 0) (pa_cons (pe_op op_sub (pv 1) pe_int) pa_nil))))))) pss_nil)
      (pss_cons (ps_set (i := 3) sc__law_any_value.nd rfl (.inl rfl) (pe_lst (pa_cons pe_int (pa_cons pe_int (pa_cons (pe_un un_neg pe_int) (pa_cons pe_int (pa_cons (pe_op op_pow pe_int pe_int) (pa_cons pe_bl (pa_cons pe_bl (pa_cons pe_non (pa_cons pe_str (pa_cons pe_str (pa_cons pe_str (pa_cons pe_str (pa_cons pe_str (pa_cons pe_str (pa_cons pe_str (pa_cons pe_str (pa_cons pe_str pa_nil)))))))))))))))))))
      (pss_cons (ps_set (i := 3) sc__law_any_value.nd rfl (.inl rfl) (pe_op op_cat (pv 3) (pe_lst (pa_cons pe_str (pa_cons pe_str (pa_cons pe_str (pa_cons pe_str (pa_cons pe_str (pa_cons pe_str (pa_cons pe_str (pa_cons pe_str (pa_cons pe_str (pa_cons pe_str (pa_cons pe_str (pa_cons pe_str pa_nil)))))))))))))))
      (pss_one (ps_ret (pe_call (ok__law_pick T) hr2 rfl T._law_pick_g T._law_pick_k T._law_pick_b .nil pass0 (pa_cons (pv 0) (pa_cons (pv 3) pa_nil)))))))))), ?_⟩
  refine ⟨_, rfl, f, 12, rfl, hF, by decide, by decide, fun r H1 r0 r1 x1 b1 => ?_⟩
  have c1 := hT.ext x1 b1
  -- the elements of a row
  have el : ∀ {D : Addr} {H2 : Hp} {σ' : L2.St}, 0 < k → Ext f H H2 → H2 D = none → σ'[0]? = some (some (.ref f)) → σ'[1]? = some (some (.int k)) →
      Yd f (Wth F D) H2 σ' (Gn 6 (k - 1)) (tCall (sp_any n) [] E0 (tCons (tVar 0) (tCons (tOp (rI0 fun i j => V.int (i - j)) (tVar 1) (tC (V.int 1))) tNil))) := by
    intro D H2 σ' h0 x2 nD e0 e1 H3 Q3 x3 b3 c3 q3
    refine ⟨_, e0, _, e1, _, _, rfl, rfl, f, Wth F D, k - 1, ?_, by omega, by omega, b3, .inl hf, c3, fun v d H' x y z g => q3 v d H' x y z g⟩
    have e : (k : Int) - 1 = ((k - 1 : Nat) : Int) := by omega
    show [V.ref f, V.int ((k : Int) - 1)] = _
    rw [e]
  refine ⟨fun σ H' => σ = [some (.ref f), some (.int k), some (.int r), none, none] ∧ H1 = H', ?_, ?_⟩
  · refine ⟨_, rfl, _, _, rfl, rfl, _, rfl, ite2 (fun e => ?_) (fun e => ⟨rfl, rfl⟩)⟩
    refine ⟨_, rfl, _, _, rfl, rfl, _, rfl, ite2 (fun e2 => ?_) (fun e2 => ⟨rfl, rfl⟩)⟩
    have k0 : 0 < k := by
      have := of_decide_eq_true e2
      omega
    refine ⟨_, rfl, f, 4, rfl, b1, by decide, by decide, fun j H2 j0 j1 x2 b2 => ⟨j, rfl, by omega, by omega, fun D nD => ?_⟩⟩
    refine yd_lc (f := f) (F := F) (H0 := H) (Ge := Gn 6 (k - 1)) hf (x1.trans x2) b2 (c1.ext x2 b2) nD (by omega) (fun i hi => el k0 (x1.trans x2) nD rfl rfl) (fun y => rfl) (fun H' vs ds x3 b3 eD aD lD gD => ?_)
    refine ⟨D, _, rfl, .inl ⟨SqL.of eD, fun p np => ?_⟩⟩
    have s4 : Same H' (L2.upd H' p (.tup vs)) := same_upd np
    refine q _ (.tuple ds) _ ((x1.trans (x2.trans x3)).trans (Ext.same s4)) (b3.same s4) (.tup (((c1.ext x2 b2).ext x3 b3).new np) upd_same (aD.wth.same s4)) ?_
    have z := Gn.tuple (w := 6) (n := k - 1) (ds := ds) (by omega) gD
    exact z.mono (Nat.le_refl _) (by omega)
  rintro _ _ ⟨rfl, rfl⟩
  refine ⟨fun σ H' => σ = [some (.ref f), some (.int k), some (.int r), none, none] ∧ H1 = H', ?_, ?_⟩
  · refine ⟨_, rfl, rfl, _, rfl, ite2 (fun e => ?_) (fun e => ⟨rfl, rfl⟩)⟩
    refine ⟨_, rfl, _, _, rfl, rfl, _, rfl, ite2 (fun e2 => ?_) (fun e2 => ⟨rfl, rfl⟩)⟩
    have k0 : 0 < k := by
      have := of_decide_eq_true e2
      omega
    refine ⟨_, rfl, f, 3, rfl, b1, by decide, by decide, fun j H2 j0 j1 x2 b2 => ⟨j, rfl, by omega, by omega, fun D nD => ?_⟩⟩
    refine yd_lc (f := f) (F := F) (H0 := H) (Ge := Gn 6 (k - 1)) hf (x1.trans x2) b2 (c1.ext x2 b2) nD (by omega) (fun i hi => el k0 (x1.trans x2) nD rfl rfl) (fun y => rfl) (fun H' vs ds x3 b3 eD aD lD gD => ?_)
    refine q _ (.list ds) _ (x1.trans (x2.trans x3)) b3 (.lst ((c1.ext x2 b2).new nD) eD aD.wth) ?_
    have z := Gn.list (w := 6) (n := k - 1) (ds := ds) (by omega) gD
    exact z.mono (Nat.le_refl _) (by omega)
  rintro _ _ ⟨rfl, rfl⟩
  refine ⟨_, rfl, _, _, rfl, rfl, ⟨by decide, by decide, by decide⟩, by decide, fun p np => ?_⟩
  refine ⟨_, rfl, by decide, fun p2 np2 => ?_⟩
  refine ⟨p, p2, _, _, rfl, rfl, same_upd np2 _ _ upd_same, upd_same, by decide, fun p3 np3 => ?_⟩
  have sm : ∀ o, Same H1 (L2.upd _ p3 o) := fun o => ((same_upd np).trans (same_upd np2)).trans (same_upd np3)
  have n3 : p3 ≠ f := fun z => by
    obtain ⟨g, s, e, _⟩ := b1.same ((same_upd np).trans (same_upd np2))
    rw [z, e] at np3
    cases np3
  refine ⟨_, rfl, _, rfl, f, p3, _, rfl, b1.same (sm _), n3, upd_same, by decide, by decide, fun i x H' ex x4 b4 => ?_⟩
  obtain ⟨d, hd, g⟩ := okc_da (F := F) (H := H') (okc_at (by decide +kernel) ex)
  exact q x d H' ((x1.trans (Ext.same (sm _))).trans x4) b4 hd (g.mono (by decide) (Nat.zero_le _))
theorem ok_any (T : Top K mg) : ∀ n : Nat, FnOk P w K mg base CX0 (n + 2) T._law_any_value T._law_any_value_d ["_law_feed", "_law_deep"] (sp_any n)
  | 0 => any0
  | n + 1 => any1 T (ok_any T n)
theorem ok__law_any_value (T : Top K mg) : FnOk P w K mg base CX0 6 T._law_any_value T._law_any_value_d ["_law_feed", "_law_deep"] (sp_any 4) := ok_any T 4
end
end Sa

set_option Elab.async false
set_option linter.all false
set_option maxRecDepth 100000
set_option maxHeartbeats 4000000
namespace Sa
open PySem PySem.Spec PyProof.Rows L2
section
variable {P : Program} {w : World} {K : PySem.W.Frag} {mg : Str → Option Value} {base : Heap}
def onesL : List Str := ["do", "not", "first", "rest", "none", "cell", "get", "raise", "say"]
def twosL : List Str := ["seq", "plus", "minus", "times", "less", "same", "put", "set"]
def sp_strs (l : List Str) : Sp := fun vs H Q _ => vs = [] ∧ ∀ p, H p = none → Q (.ref p) (L2.upd H p (.lst (l.map V.str)))
theorem ok__law_ones (T : Top K mg) : FnOk P w K mg base CX0 1 T._law_ones T._law_ones_d [] (sp_strs onesL) := by
  refine T._law_ones_f.ok sc__law_ones (fun vs H Q E h => ?_) (fun cdv A outer s H vs Q E hr h => ?_)
  · obtain ⟨rfl, _⟩ := h
    rfl
  obtain ⟨rfl, q⟩ := h
  -- slots: 
  refine ⟨_, (pss_one (ps_ret (pe_lst (pa_cons pe_str (pa_cons pe_str (pa_cons pe_str (pa_cons pe_str (pa_cons pe_str (pa_cons pe_str (pa_cons pe_str (pa_cons pe_str (pa_cons pe_str pa_nil)))))))))))), ?_⟩
  exact ⟨by decide, q⟩
theorem ok__law_twos (T : Top K mg) : FnOk P w K mg base CX0 1 T._law_twos T._law_twos_d [] (sp_strs twosL) := by
  refine T._law_twos_f.ok sc__law_twos (fun vs H Q E h => ?_) (fun cdv A outer s H vs Q E hr h => ?_)
  · obtain ⟨rfl, _⟩ := h
    rfl
  obtain ⟨rfl, q⟩ := h
  -- slots: 
  refine ⟨_, (pss_one (ps_ret (pe_lst (pa_cons pe_str (pa_cons pe_str (pa_cons pe_str (pa_cons pe_str (pa_cons pe_str (pa_cons pe_str (pa_cons pe_str (pa_cons pe_str pa_nil))))))))))), ?_⟩
  exact ⟨by decide, q⟩
/-! ### trees -/
/-- a tuple of three, the first a text -/
def Hd (d : PyData) : Prop := ∃ h x y, d = .tuple [.str h, x, y]
def Gh (w n : Nat) (d : PyData) : Prop := Gn w n d ∧ Hd d
def sp_gen (n : Nat) (G : PyData → Prop) : Sp := fun vs H Q _ => ∃ (f : Addr) (F : AS), vs = [.ref f] ∧ Fd f H ∧ F f ∧ Trk F H ∧ ∀ v d H', Ext f H H' → Fd f H' → Da F H' v d → G d → Q v H'
theorem yd_head {f : Addr} {F : AS} {H0 : Hp} {σ : L2.St} {x : Str} {t1 t2 : TE} {w n : Nat} (hf : F f) (hx : (PyData.strOk x && decide (x.length ≤ 100)) = true) (h1 : Yd f F H0 σ (Gn w n) t1) (h2 : Yd f F H0 σ (Gn w n) t2) (hw : 3 ≤ w) :
    Yd f F H0 σ (Gh w (n + 1)) (tTup (tCons (tC (.str x)) (tCons t1 (tCons t2 tNil)))) := by
  refine yd_tup hf (yda_cons (G := fun d => d = .str x) hf (yd_str rfl) fun d e => yda_cons hf h1 fun d1 g1 => yda_cons hf h2 fun d2 g2 => yda_nil ?_)
  subst e
  refine ⟨by simp, Gn.tuple (by simpa using hw) fun z hz => ?_, x, d1, d2, rfl⟩
  rcases List.mem_cons.mp hz with e | hz
  · rw [e]; exact gn_str hx
  rcases List.mem_cons.mp hz with e | hz
  · rw [e]; exact g1
  rw [List.mem_singleton.mp hz]; exact g2
theorem yd_unit {f : Addr} {F : AS} {H0 : Hp} {σ : L2.St} {w n : Nat} (hf : F f) (hw : w ≤ 1000) : Yd f F H0 σ (Gn w (n + 1)) (tTup tNil) := yd_tupG hf ydu_nil (Nat.zero_le _) hw
theorem yd_one {f : Addr} {F : AS} {H0 : Hp} {σ : L2.St} {w n : Nat} {t : TE} (hf : F f) (h : Yd f F H0 σ (Gn w n) t) (h1 : 1 ≤ w) (hw : w ≤ 1000) : Yd f F H0 σ (Gn w (n + 1)) (tTup (tCons t tNil)) := yd_tupG hf (ydu_cons hf h ydu_nil) h1 hw
theorem ok__law_literal (T : Top K mg) : FnOk P w K mg base CX0 3 T._law_literal T._law_literal_d ["_law_feed"] (sp_gen 0 (Gh 6 2)) := by
  refine T._law_literal_f.ok sc__law_literal (fun vs H Q E h => ?_) (fun cdv A outer s H vs Q E hr h => ?_)
  · obtain ⟨f, F, rfl, _⟩ := h
    rfl
  obtain ⟨f, F, rfl, hF, hf, hT, q⟩ := h
  -- slots: 0 _law_feed, 1 _law_word, 2 _law_some
  refine ⟨_, (pss_cons (ps_set (i := 1) sc__law_literal.nd rfl (.inl rfl) (pe_call (ok__law_pick T) (hr.mono (by decide)) rfl T._law_pick_g T._law_pick_k T._law_pick_b .nil pass0 (pa_cons (pv 0) (pa_cons (pe_lst (pa_cons pe_str (pa_cons pe_str (pa_cons pe_str (pa_cons pe_str (pa_cons pe_str pa_nil)))))) pa_nil))))
      (pss_cons (ps_set (i := 2) sc__law_literal.nd rfl (.inl rfl) (pe_lst (pa_cons (pe_tup (pa_cons pe_str (pa_cons (pe_tup pa_nil) (pa_cons (pe_tup (pa_cons (pe_op op_sub (pe_call (ok__law_draw T) (hr.mono (by decide)) rfl T._law_draw_g T._law_draw_k T._law_draw_b .nil pass0 (pa_cons (pv 0) (pa_cons pe_int pa_nil))) pe_int) pa_nil)) pa_nil)))) (pa_cons (pe_tup (pa_cons pe_str (pa_cons (pe_tup pa_nil) (pa_cons (pe_tup (pa_cons (pe_cmpR op_eq (pe_call (ok__law_draw T) (hr.mono (by decide)) rfl T._law_draw_g T._law_draw_k T._law_draw_b .nil pass0 (pa_cons (pv 0) (pa_cons pe_int pa_nil))) pe_int (nomark _)) pa_nil)) pa_nil)))) (pa_cons (pe_tup (pa_cons pe_str (pa_cons (pe_tup pa_nil) (pa_cons (pe_tup (pa_cons (pv 1) pa_nil)) pa_nil)))) pa_nil)))))
      (pss_one (ps_ret (pe_call (ok__law_pick T) (hr.mono (by decide)) rfl T._law_pick_g T._law_pick_k T._law_pick_b .nil pass0 (pa_cons (pv 0) (pa_cons (pe_op op_cat (pv 2) (pe_lst (pa_cons (pe_tup (pa_cons pe_str (pa_cons (pe_tup pa_nil) (pa_cons (pe_tup (pa_cons pe_str pa_nil)) pa_nil)))) (pa_cons (pe_ix ix_list (pv 2) pe_int (fun _ _ => rfl)) pa_nil)))) pa_nil))))))), ?_⟩
  refine rd_pickC rfl hF (fun _ _ q => q) (by decide) (by decide) fun x H1 hx x1 b1 => ?_
  have hx' : okc x = true := List.all_eq_true.mp (by decide +kernel) x hx
  obtain ⟨dx, ax, gx⟩ := okc_da (F := F) (H := H1) hx'
  have c1 := hT.ext x1 b1
  refine go_name ?_
  dsimp only
  refine go_asg ?_
  refine yd_lstU (f := f) (F := F) (H0 := H1) (G := Gh 6 2) (m := 3) hf ?_ (by decide) H1 _ Ext.refl b1 c1 ?_
  · exact ydu_cons hf (yd_head hf (by decide +kernel) (yd_unit hf (by decide)) (yd_one hf (n := 0) (fun H Q x b c q => rd_draw (k := 0) rfl b (by decide) fun r H' r0 r1 x1 b1 => ⟨_, _, rfl, rfl, q _ (.int (r - 2)) H' x1 b1 (.int _) (gn_int (by omega))⟩) (by decide) (by decide)) (by decide))
      (ydu_cons hf (yd_head hf (by decide +kernel) (yd_unit hf (by decide)) (yd_one hf (n := 0) (fun H Q x b c q => rd_draw (k := 0) rfl b (by decide) fun r H' r0 r1 x1 b1 => ⟨rfl, q _ (.bool _) H' x1 b1 (.bl _) gn_bl⟩) (by decide) (by decide)) (by decide))
      (ydu_cons hf (yd_head hf (by decide +kernel) (yd_unit hf (by decide)) (yd_one hf (n := 0) (yd_var (i := 1) rfl hf ax (gx.mono (Nat.zero_le _) (Nat.zero_le _))) (by decide) (by decide)) (by decide)) ydu_nil))
  rintro v d H2 x2 b2 a2 ⟨ds, rfl, ld, gd⟩
  cases a2 with
  | @lst p xs _ nF ea al =>
    have hl := al.length
    refine go_name (go_ret ?_)
    obtain ⟨d0, e0⟩ : ∃ d0, ds[0]? = some d0 := ⟨ds[0], List.getElem?_eq_getElem (by omega)⟩
    refine ⟨_, rfl, _, rfl, yd_lstU (f := f) (F := F) (H0 := H2) (G := Gh 6 2) (m := 2) hf ?_ (by decide) H2 _ Ext.refl b2 (c1.ext x2 b2) ?_⟩
    · exact ydu_cons hf (yd_head hf (by decide +kernel) (yd_unit hf (by decide)) (yd_one hf (n := 0) (yd_str (gn_str (by decide +kernel))) (by decide) (by decide)) (by decide))
        (ydu_cons hf (yd_ixL (j := 0) rfl hf (.lst nF ea al) e0 (gd d0 (List.mem_of_getElem? e0))) ydu_nil)
    rintro v d H3 x3 b3 a3 ⟨ds3, rfl, ld3, gd3⟩
    cases a3 with
    | @lst p3 xs3 _ nF3 ea3 al3 =>
      have hl3 := al3.length
      have pf : p ≠ f := fun z => nF (z ▸ hf)
      refine ⟨p, p3, xs, xs3, rfl, rfl, x3 _ _ pf ea, ea3, Nat.le_of_lt (small1000 (by omega)), fun p4 np4 => ?_⟩
      have s4 : Same H3 (L2.upd H3 p4 (.lst (xs ++ xs3))) := same_upd np4
      have c3 := (c1.ext x2 b2).ext x3 b3
      have n4 : p4 ≠ f := fun z => c3.new np4 (z ▸ hf)
      refine ⟨f, p4, _, rfl, b3.same s4, n4, upd_same, by rw [List.length_append]; omega, by rw [List.length_append]; omega, fun i y H5 ey x5 b5 => ?_⟩
      obtain ⟨d5, e5, a5⟩ := ((al.ext x3 hf).append al3).get ey
      refine q y d5 H5 (x1.trans (x2.trans (x3.trans ((Ext.same s4).trans x5)))) b5 ((a5.same s4).ext x5 hf) ?_
      rcases List.mem_append.mp (List.mem_of_getElem? e5) with z | z
      · exact gd _ z
      · exact gd3 _ z
/-! ### further words for what is drawn -/
theorem yd_gen {f : Addr} {F : AS} {H0 : Hp} {σ : L2.St} {G : PyData → Prop} {n k : Nat} (e : σ[k]? = some (some (.ref f))) (hf : F f) : Yd f F H0 σ G (tCall (sp_gen n G) [] E0 (tCons (tVar k) tNil)) :=
  fun H Q x b c q => ⟨_, e, f, F, rfl, b, hf, c, q⟩
theorem rd_pickCat {f : Addr} {F : AS} {H : Hp} {σ : L2.St} {G : PyData → Prop} {m i : Nat} {p : Addr} {ds : List PyData} {ta : TA} {Q : VK} (hf : F f) (e0 : σ[0]? = some (some (.ref f))) (ei : σ[i]? = some (some (.ref p))) (a : Da F H (.ref p) (.list ds))
    (gd : ∀ z ∈ ds, G z) (l0 : 0 < ds.length) (l1 : ds.length ≤ 100) (u : YdU f F H σ G m ta) (hm : m ≤ 100) (b : Fd f H) (c : Trk F H) (q : ∀ v d H', Ext f H H' → Fd f H' → Da F H' v d → G d → Q v H') :
    tCall sp_pick [] E0 (tCons (tVar 0) (tCons (tOp rCat (tVar i) (tLst ta)) tNil)) σ H Q := by
  refine ⟨_, e0, _, ei, yd_lstU (f := f) (F := F) (H0 := H) (G := G) (m := m) hf u (by omega) H _ Ext.refl b c ?_⟩
  cases a with
  | @lst p xs _ nF ea al =>
    have hl := al.length
    rintro v d H3 x3 b3 a3 ⟨ds3, rfl, ld3, gd3⟩
    cases a3 with
    | @lst p3 xs3 _ nF3 ea3 al3 =>
      have hl3 := al3.length
      have pf : p ≠ f := fun z => nF (z ▸ hf)
      refine ⟨p, p3, xs, xs3, rfl, rfl, x3 _ _ pf ea, ea3, Nat.le_of_lt (small1000 (by omega)), fun p4 np4 => ?_⟩
      have s4 : Same H3 (L2.upd H3 p4 (.lst (xs ++ xs3))) := same_upd np4
      have c3 := c.ext x3 b3
      have n4 : p4 ≠ f := fun z => c3.new np4 (z ▸ hf)
      refine ⟨f, p4, _, rfl, b3.same s4, n4, upd_same, by rw [List.length_append]; omega, by rw [List.length_append]; omega, fun i y H5 ey x5 b5 => ?_⟩
      obtain ⟨d5, e5, a5⟩ := ((al.ext x3 hf).append al3).get ey
      refine q y d5 H5 (x3.trans ((Ext.same s4).trans x5)) b5 ((a5.same s4).ext x5 hf) ?_
      rcases List.mem_append.mp (List.mem_of_getElem? e5) with z | z
      · exact gd _ z
      · exact gd3 _ z
/-- [e for x in xs] with data, over a list of data -/
theorem yd_lcL {K : PySem.W.Frag} {f : Addr} {F : AS} {σ : L2.St} {G Ge : PyData → Prop} {i : Nat} {te : TE} {H1 : Hp} {D p : Addr} {xs : List V} {ds0 : List PyData} (hf : F f) (b1 : Fd f H1) (c1 : Trk F H1) (nD : H1 D = none) (hn : xs.length ≤ 1000)
    (pf : p ≠ f) (ep : H1 p = some (.lst xs)) (al : DaAll F H1 xs ds0) (gs : ∀ d ∈ ds0, G d)
    (he : ∀ x d, Da (Wth F D) H1 x d → G d → Yd f (Wth F D) H1 ((wipe σ [i]).set i (some x)) Ge te) (hw : ∀ y, wipe ((wipe σ [i]).set i y) [i] = wipe σ [i]) {Qd : Hp → Prop}
    (q : ∀ H' vs ds, Ext f H1 H' → Fd f H' → H' D = some (.lst vs) → DaAll (Wth F D) H' vs ds → ds.length = xs.length → (∀ d ∈ ds, Ge d) → Qd H') :
    ∃ W : Nat → Nat → Hp → Prop, (∃ m, W 0 m (L2.upd H1 D (.lst []))) ∧ ∀ j m H, W j m H →
      ((Itl K p).stop j H ∧ Qd H) ∨ ((Itl K p).go j H ∧ ∃ Nx : Hp → Prop, (∀ H', Nx H' → ∃ m', m' < m ∧ W (j + 1) m' H') ∧ ∀ x H', (Itl K p).yld j H x H' → gName i x (wipe σ [i]) H' fun σ2 H2 => wipe σ2 [i] = wipe σ [i] ∧ tYes σ2 H2 fun b H3 =>
        if b = true then te σ2 H3 fun y H4 => ∃ acc, H4 D = some (.lst acc) ∧ acc.length < sizeLine ∧ Nx (L2.upd H4 D (.lst (acc ++ [y]))) else Nx H3) := by
  have nDf : D ≠ f := fun z => by
    obtain ⟨g, s, e, _⟩ := b1
    rw [z, e] at nD
    cases nD
  refine lc_list (K := K) (a := p) (xs := xs) (fun k H => Ext f H1 H ∧ Fd f H ∧ Trk (Wth F D) H ∧ ∃ vs ds, H D = some (.lst vs) ∧ DaAll (Wth F D) H vs ds ∧ ds.length = k ∧ ∀ d ∈ ds, Ge d) ?_ ?_ ?_ ?_
  · have s1 : Same H1 (L2.upd H1 D (.lst [])) := same_upd nD
    exact ⟨Ext.same s1, b1.same s1, (c1.same s1).wth upd_same, [], [], upd_same, .nil, rfl, fun d hd => by cases hd⟩
  · rintro k H hk ⟨x2, _⟩
    exact SqL.of (x2 _ _ pf ep)
  · rintro k x H hk ⟨x2, b2, c2, vs, ds, eD, aD, lD, gD⟩
    obtain ⟨dx, ex, ax⟩ := al.get hk
    refine ⟨hw _, he x dx (ax.avoid nD) (gs dx (List.mem_of_getElem? ex)) H _ x2 b2 c2 fun v d H3 x3 b3 a3 g3 => ?_⟩
    have eD3 := x3 D _ nDf eD
    have eL := aD.length
    obtain ⟨hk', _⟩ := List.getElem?_eq_some_iff.mp hk
    refine ⟨vs, eD3, small1000 (by omega), ?_⟩
    have x4 : Ext D H3 (L2.upd H3 D (.lst (vs ++ [v]))) := Ext.upd
    refine ⟨fun a o n e => ?_, ?_, fun a ha => ?_, vs ++ [v], ds ++ [d], upd_same, ((aD.ext x3 (.inl hf)).append (.cons a3 .nil)).ext x4 (.inr rfl), by rw [List.length_append, lD]; rfl, fun y hy => ?_⟩
    · have na : a ≠ D := fun z => by rw [z, nD] at e; cases e
      rw [upd_ne na]
      exact x3 a o n (x2 a o n e)
    · obtain ⟨g, s, e, r⟩ := b3
      exact ⟨g, s, by rw [upd_ne nDf.symm]; exact e, r⟩
    · by_cases na : a = D
      · exact ⟨_, by rw [na]; exact upd_same⟩
      · obtain ⟨o, e⟩ := (c2.ext x3 b3) a ha
        exact ⟨o, by rw [upd_ne na]; exact e⟩
    · rcases List.mem_append.mp hy with z | z
      · exact gD y z
      · rw [List.mem_singleton.mp z]; exact g3
  · rintro H ⟨x2, b2, c2, vs, ds, eD, aD, lD, gD⟩
    exact q H vs ds x2 b2 eD aD lD gD
theorem tupR {K : PySem.W.Frag} (p : Addr) (ys : List V) (H : Hp) (Q : VK) (e : H p = some (.lst ys)) (k : ∀ l, H l = none → Q (.ref l) (L2.upd H l (.tup ys))) :
    ∃ p' ys', [V.ref p] = [V.ref p'] ∧ ((SqL K H p' ys' ∧ ∀ l, H l = none → Q (.ref l) (L2.upd H l (.tup ys'))) ∨ (SqT K H p' ys' ∧ Q (.ref p') H)) := ⟨p, ys, rfl, .inl ⟨SqL.of e, k⟩⟩
theorem ok__law_mark (T : Top K mg) : FnOk P w K mg base CX0 3 T._law_mark T._law_mark_d ["_law_feed"] (sp_gen 0 (Gn 6 2)) := by
  refine T._law_mark_f.ok sc__law_mark (fun vs H Q E h => ?_) (fun cdv A outer s H vs Q E hr h => ?_)
  · obtain ⟨f, F, rfl, _⟩ := h
    rfl
  obtain ⟨f, F, rfl, hF, hf, hT, q⟩ := h
  -- slots: 0 _law_feed, 1 _law_path, 2 _law_turn
  refine ⟨_, (pss_cons (ps_set (i := 1) sc__law_mark.nd rfl (.inl rfl) (pe_callTy call_tuple_of (by rfl) T.tuple_n (by decide +kernel) (pa_cons (pe_lc (own := [("_law_turn", 2)]) (g := (gName 2)) (tt := tYes) (by rfl) sc__law_mark.nd (pi_range1 (by rfl) T.range_n (pa_cons (pe_call (ok__law_draw T) (hr.mono (by decide)) rfl T._law_draw_g T._law_draw_k T._law_draw_b .nil pass0 (pa_cons (pv 0) (pa_cons pe_int pa_nil))) pa_nil)) (blkOk_by (own := [("_law_turn", 2)]) (N := ["_law_feed", "_law_path", "_law_turn"]) (sc := defScope s__law_mark) (by decide +kernel)) (fun _ _ _ _ _ => (pg_name (i := 2) sc__law_mark.nd rfl (.inl rfl))) (fun _ _ _ _ _ => pts_nil) (fun _ _ _ _ _ => (pe_call (ok__law_draw T) (hr.mono (by decide)) rfl T._law_draw_g T._law_draw_k T._law_draw_b .nil pass0 (pa_cons (pv 0) (pa_cons pe_int pa_nil))))) pa_nil)))
      (pss_one (ps_ret (pe_tup (pa_cons (pe_call (ok__law_pick T) (hr.mono (by decide)) rfl T._law_pick_g T._law_pick_k T._law_pick_b .nil pass0 (pa_cons (pv 0) (pa_cons (pe_lst (pa_cons pe_str (pa_cons pe_str (pa_cons pe_str pa_nil)))) pa_nil))) (pa_cons (pe_call (ok__law_draw T) (hr.mono (by decide)) rfl T._law_draw_g T._law_draw_k T._law_draw_b .nil pass0 (pa_cons (pv 0) (pa_cons pe_int pa_nil))) (pa_cons (pv 1) pa_nil))))))), ?_⟩
  refine go_asg ?_
  refine yd_tupLc (f := f) (F := F) (H0 := H) (m := 3) (Ge := Gn 6 0) (G := Gn 6 1) tupR hf (fun H' x b c Q q => rd_draw rfl b (by decide) fun r H1 r0 r1 x1 b1 => q r r0 (by omega) H1 x1 b1) (by decide) (fun D H1 k x nD => yd_draw rfl (by decide)) (fun y => rfl) (fun ds l g => Gn.tuple (by omega) g) H _ Ext.refl hF hT ?_
  intro v d H1 x1 b1 a1 g1
  refine go_name (go_ret ?_)
  refine yd_tupG (f := f) (F := F) (H0 := H1) (w := 6) (n := 1) (m := 3) hf ?_ (by decide) (by decide) H1 _ Ext.refl b1 (hT.ext x1 b1) (fun v d H2 x2 b2 a2 g2 => q v d H2 (x1.trans x2) b2 a2 g2)
  exact ydu_cons hf (yd_pickC rfl (fun _ _ q => q) (by decide) (by decide) (by decide +kernel)) (ydu_cons hf (yd_draw rfl (by decide)) (ydu_cons hf (yd_var (i := 1) rfl hf a1 g1) ydu_nil))
end
end Sa

set_option Elab.async false
set_option linter.all false
set_option maxRecDepth 100000
set_option maxHeartbeats 4000000
namespace Sa
open PySem PySem.Spec PyProof.Rows L2
section
variable {P : Program} {w : World} {K : PySem.W.Frag} {mg : Str → Option Value} {base : Heap}
def sp_ink (n : Nat) : Sp := fun vs H Q _ => ∃ (f : Addr) (F : AS) (k : Nat), vs = [.ref f, .int k] ∧ k < n ∧ k ≤ 3 ∧ Fd f H ∧ F f ∧ Trk F H ∧ ∀ v d H', Ext f H H' → Fd f H' → Da F H' v d → Gh 6 (4 * k + 4) d → Q v H'
theorem ink0 {f : Addr} {fd : FuncData} : FnOk P w K mg base CX0 4 f fd ["_law_feed", "_law_deep"] (sp_ink 0) :=
  ⟨fun vs H Q E h => by obtain ⟨f, F, k, _, h, _⟩ := h; omega, fun A outer s H args us vs Q E _ _ _ _ h => by obtain ⟨f, F, k, _, h, _⟩ := h; omega⟩
abbrev tSubtree (n : Nat) : TE := tCall (sp_ink n) [] E0 (tCons (tVar 0) (tCons (tOp (rI0 fun i j => V.int (i - j)) (tVar 1) (tC (V.int 1))) tNil))
theorem yd_sub {f : Addr} {F : AS} {H0 : Hp} {σ : L2.St} {n k : Nat} (hf : F f) (h0 : 0 < k) (hk : k < n + 1) (hk3 : k ≤ 3) (e0 : σ[0]? = some (some (.ref f))) (e1 : σ[1]? = some (some (.int k))) :
    Yd f F H0 σ (Gh 6 (4 * k)) (tSubtree n) := by
  intro H Q x b c q
  refine ⟨_, e0, _, e1, _, _, rfl, rfl, f, F, k - 1, ?_, by omega, by omega, b, hf, c, fun v d H' x y z g => q v d H' x y z ⟨g.1.mono (Nat.le_refl _) (by omega), g.2⟩⟩
  have e : (k : Int) - 1 = ((k - 1 : Nat) : Int) := by omega
  show [V.ref f, V.int ((k : Int) - 1)] = _
  rw [e]
/-- any head, told by a slot -/
theorem yd_headV {f : Addr} {F : AS} {H0 : Hp} {σ : L2.St} {x : Str} {i : Nat} {t1 t2 : TE} {w n : Nat} (hf : F f) (e : σ[i]? = some (some (.str x))) (hx : (PyData.strOk x && decide (x.length ≤ 100)) = true) (h1 : Yd f F H0 σ (Gn w n) t1) (h2 : Yd f F H0 σ (Gn w n) t2) (hw : 3 ≤ w) :
    Yd f F H0 σ (Gh w (n + 1)) (tTup (tCons (tVar i) (tCons t1 (tCons t2 tNil)))) := by
  refine yd_tup hf (yda_cons (G := fun d => d = .str x) hf (yd_var e hf (.str x) rfl) fun d e => yda_cons hf h1 fun d1 g1 => yda_cons hf h2 fun d2 g2 => yda_nil ?_)
  subst e
  refine ⟨by simp, Gn.tuple (by simpa using hw) fun z hz => ?_, x, d1, d2, rfl⟩
  rcases List.mem_cons.mp hz with e | hz
  · rw [e]; exact gn_str hx
  rcases List.mem_cons.mp hz with e | hz
  · rw [e]; exact g1
  rw [List.mem_singleton.mp hz]; exact g2
/-- a tuple and a tuple -/
theorem yd_catA {K : PySem.W.Frag} {f : Addr} {F : AS} {H0 : Hp} {σ : L2.St} {t1 t2 : TE} {G1 G2 G : PyData → Prop} (hf : F f) (h1 : Yd f F H0 σ (fun d => ∃ ds, d = .tuple ds ∧ ds.length ≤ 500 ∧ G1 d) t1) (h2 : Yd f F H0 σ (fun d => ∃ ds, d = .tuple ds ∧ ds.length ≤ 500 ∧ G2 d) t2)
    (hG : ∀ a b : List PyData, G1 (.tuple a) → G2 (.tuple b) → G (.tuple (a ++ b))) : Yd f F H0 σ G (tOp (rCatA K) t1 t2) := by
  intro H Q x b c q
  refine h1 H _ x b c ?_
  rintro v1 d1 H1 x1 b1 a1 ⟨ds1, rfl, l1, g1⟩
  refine h2 H1 _ (x.trans x1) b1 (c.ext x1 b1) ?_
  rintro v2 d2 H2 x2 b2 a2 ⟨ds2, rfl, l2, g2⟩
  have a1' := a1.ext x2 hf
  cases a1' with
  | @tup p1 xs1 _ n1 e1 al1 =>
  cases a2 with
  | @tup p2 xs2 _ n2 e2 al2 =>
  have z1 := al1.length
  have z2 := al2.length
  refine ⟨p1, p2, xs1, xs2, rfl, rfl, SqT.of e1, SqT.of e2, Nat.le_of_lt (small1000 (by omega)), fun z => ?_, fun z y => ?_, fun z y p np => ?_⟩
  · have : ds1 = [] := List.eq_nil_of_length_eq_zero (by rw [← z1, z]; rfl)
    subst this
    exact q _ _ H2 (x1.trans x2) b2 (.tup n2 e2 al2) (hG [] ds2 g1 g2)
  · have : ds2 = [] := List.eq_nil_of_length_eq_zero (by rw [← z2, y]; rfl)
    subst this
    have g := hG ds1 [] g1 g2
    rw [List.append_nil] at g
    exact q _ _ H2 (x1.trans x2) b2 (.tup n1 e1 al1) g
  · have s : Same H2 (L2.upd H2 p (.tup (xs1 ++ xs2))) := same_upd np
    exact q _ _ _ ((x1.trans x2).trans (Ext.same s)) (b2.same s) (.tup (((c.ext x1 b1).ext x2 b2).new np) upd_same ((al1.append al2).same s)) (hG ds1 ds2 g1 g2)
theorem yd_tupLcL {K : PySem.W.Frag} {f : Addr} {F : AS} {H0 : Hp} {σ : L2.St} {r : List V → Hp → VK → Prop} {i j : Nat} {te : TE} {G Ge Gt : PyData → Prop} {p : Addr} {ds0 : List PyData} (hr : ∀ p ys H Q, H p = some (.lst ys) → (∀ l, H l = none → Q (.ref l) (L2.upd H l (.tup ys))) → r [.ref p] H Q) (hf : F f)
    (e : σ[j]? = some (some (.ref p))) (a : Da F H0 (.ref p) (.list ds0)) (gs : ∀ d ∈ ds0, G d) (hl : ds0.length ≤ 1000)
    (he : ∀ D H1 x d, Ext f H0 H1 → H1 D = none → Da (Wth F D) H1 x d → G d → Yd f (Wth F D) H1 ((wipe σ [i]).set i (some x)) Ge te) (hw : ∀ y, wipe ((wipe σ [i]).set i y) [i] = wipe σ [i]) (hG : ∀ ds : List PyData, ds.length = ds0.length → (∀ d ∈ ds, Ge d) → Gt (.tuple ds)) :
    Yd f F H0 σ Gt (tCB r (tCons (tLc (iList K (tVar j)) (gName i) tYes te [i]) tNil)) := by
  intro H Q x b c q
  cases a with
  | @lst _ xs _ nF ea al =>
  have lz := al.length
  have pf : p ≠ f := fun z => nF (z ▸ hf)
  have ea' := x _ _ pf ea
  refine ⟨_, e, p, rfl, ⟨_, SqL.of ea'⟩, fun D nD => ?_⟩
  refine yd_lcL (K := K) (f := f) (F := F) (G := G) (Ge := Ge) hf b c nD (by omega) pf ea' (al.ext x hf) gs (fun v d a g => he D H v d x nD a g) hw (fun H' vs ds x3 b3 eD aD lD gD => ?_)
  refine hr D vs H' _ eD fun p np => ?_
  have s4 : Same H' (L2.upd H' p (.tup vs)) := same_upd np
  exact q _ (.tuple ds) _ (x3.trans (Ext.same s4)) (b3.same s4) (.tup ((c.ext x3 b3).new np) upd_same (aD.wth.same s4)) (hG ds (by omega) gD)
theorem valV_mem {kvs : List (Key × V)} {k : Key} {v : V} (h : valV kvs k = some v) : v ∈ kvs.map (·.2) := by
  unfold valV at h
  obtain ⟨a, e, rfl⟩ := Option.map_eq_some_iff.mp h
  exact List.mem_map.mpr ⟨a, List.mem_of_find?_eq_some e, rfl⟩
def smallI (lo hi : Int) : V → Bool
  | .int i => decide (lo ≤ i) && decide (i ≤ hi)
  | _ => false
theorem smallI_of {lo hi : Int} {v : V} (h : smallI lo hi v = true) : ∃ i, v = .int i ∧ lo ≤ i ∧ i ≤ hi := by
  cases v with
  | int i =>
    simp only [smallI, Bool.and_eq_true, decide_eq_true_eq] at h
    exact ⟨i, rfl, h⟩
  | _ => cases h
def strV : V → Bool
  | .str x => PyData.strOk x && decide (x.length ≤ 100)
  | _ => false
theorem strV_of {v : V} (h : strV v = true) : ∃ x, v = .str x ∧ (PyData.strOk x && decide (x.length ≤ 100)) = true := by
  cases v with
  | str x => exact ⟨x, rfl, h⟩
  | _ => cases h
theorem same_upd2 {H : Hp} {p : Addr} {o u : HO} (h : H p = none) : Same H (L2.upd (L2.upd H p o) p u) := by
  rw [upd_upd]
  exact same_upd h
theorem b2i_lo (k : Bool) : (0 : Int) ≤ (if k then 1 else 0) ∧ (if k then 1 else 0 : Int) ≤ 1 := by cases k <;> decide
theorem ink1 (T : Top K mg) {n : Nat} (IH : FnOk P w K mg base CX0 (n + 4) T._law_inked_tree T._law_inked_tree_d ["_law_feed", "_law_deep"] (sp_ink n)) :
    FnOk P w K mg base CX0 (n + 5) T._law_inked_tree T._law_inked_tree_d ["_law_feed", "_law_deep"] (sp_ink (n + 1)) := by
  refine T._law_inked_tree_f.ok sc__law_inked_tree (fun vs H Q E h => ?_) (fun cdv A outer s H vs Q E hr h => ?_)
  · obtain ⟨f, F, k, rfl, _⟩ := h
    rfl
  obtain ⟨f, F, k, rfl, hk, hk3, hF, hf, hT, q⟩ := h
  have hr3 : Room 3 _ := hr.mono (by omega)
  have hr2 : Room 2 _ := hr.mono (by omega)
  have hr1 : Room 1 _ := hr.mono (by omega)
  -- slots: 0 _law_feed, 1 _law_deep, 2 _law_form, 3 _law_ink, 4 _law_some, 5 _law_items, 6 _law_heads, 7 _law_many, 8 _law_kids, 9 _law_head, 10 _law_turn, 11 _law_item
  refine ⟨_, (pss_cons (ps_set (i := 2) sc__law_inked_tree.nd rfl (.inl rfl) (pe_call (ok__law_draw T) hr1 rfl T._law_draw_g T._law_draw_k T._law_draw_b .nil pass0 (pa_cons (pv 0) (pa_cons pe_int pa_nil))))
      (pss_cons (ps_set (i := 3) sc__law_inked_tree.nd rfl (.inr rfl) (pe_callTy call_tuple_of (by rfl) T.tuple_n (by decide +kernel) (pa_cons (pe_lc (own := [("_law_turn", 10)]) (g := (gName 10)) (tt := tYes) (by rfl) sc__law_inked_tree.nd (pi_range1 (by rfl) T.range_n (pa_cons (pe_op op_mul (pe_call (ok__law_draw T) hr1 rfl T._law_draw_g T._law_draw_k T._law_draw_b .nil pass0 (pa_cons (pv 0) (pa_cons pe_int pa_nil))) (pe_callTy call_int1 (by rfl) T.int_n (by decide +kernel) (pa_cons (pe_cmpR op_eq (pe_call (ok__law_draw T) hr1 rfl T._law_draw_g T._law_draw_k T._law_draw_b .nil pass0 (pa_cons (pv 0) (pa_cons pe_int pa_nil))) pe_int (nomark _)) pa_nil))) pa_nil)) (blkOk_by (own := [("_law_turn", 10)]) (N := ["_law_feed", "_law_deep", "_law_form", "_law_ink", "_law_some", "_law_items", "_law_heads", "_law_many", "_law_kids", "_law_head", "_law_turn", "_law_item"]) (sc := defScope s__law_inked_tree) (by decide +kernel)) (fun _ _ _ _ _ => (pg_name (i := 10) sc__law_inked_tree.nd rfl (.inl rfl))) (fun _ _ _ _ _ => pts_nil) (fun _ _ _ _ _ => (pe_call (ok__law_mark T) hr3 rfl T._law_mark_g T._law_mark_k T._law_mark_b .nil pass0 (pa_cons (pv 0) pa_nil)))) pa_nil)))
      (pss_mid (ps_if (pt_mid (PW.pt (pw_or (pt_cmpR op_lt (pv 1) pe_int (nomark _)) (pw_or1 (pt_cmpR op_lt (pv 2) pe_int (nomark _)))))) (pss_cons (ps_set (i := 4) sc__law_inked_tree.nd rfl (.inl rfl) (pe_lst (pa_cons (pe_call (ok__law_literal T) hr3 rfl T._law_literal_g T._law_literal_k T._law_literal_b .nil pass0 (pa_cons (pv 0) pa_nil)) (pa_cons (pe_tup (pa_cons pe_str (pa_cons (pv 3) (pa_cons (pe_tup (pa_cons (pe_call (ok__law_draw T) hr1 rfl T._law_draw_g T._law_draw_k T._law_draw_b .nil pass0 (pa_cons (pv 0) (pa_cons pe_int pa_nil))) pa_nil)) pa_nil)))) (pa_cons (pe_tup (pa_cons pe_str (pa_cons (pe_tup pa_nil) (pa_cons (pe_tup (pa_cons (pe_op op_add pe_int (pe_call (ok__law_draw T) hr1 rfl T._law_draw_g T._law_draw_k T._law_draw_b .nil pass0 (pa_cons (pv 0) (pa_cons pe_int pa_nil)))) pa_nil)) pa_nil)))) pa_nil)))))
      (pss_one (ps_ret (pe_call (ok__law_pick T) hr2 rfl T._law_pick_g T._law_pick_k T._law_pick_b .nil pass0 (pa_cons (pv 0) (pa_cons (pe_op op_cat (pv 4) (pe_lst (pa_cons (pe_tup (pa_cons pe_str (pa_cons (pe_tup pa_nil) (pa_cons (pe_tup (pa_cons pe_str pa_nil)) pa_nil)))) (pa_cons (pe_tup (pa_cons pe_str (pa_cons (pv 3) (pa_cons (pe_tup pa_nil) pa_nil)))) (pa_cons (pe_tup (pa_cons pe_str (pa_cons (pe_tup pa_nil) (pa_cons (pe_tup pa_nil) pa_nil)))) pa_nil))))) pa_nil)))))) pss_nil)
      (pss_mid (ps_if (pt_cmpR op_eq (pv 2) pe_int (nomark _)) (pss_cons (ps_setLc (i := 5) (own := [("_law_turn", 10)]) (g := (gName 10)) (tt := tYes) (by rfl) sc__law_inked_tree.nd rfl rfl (sw_true rfl rfl rfl (by decide +kernel)) (pi_range1 (by rfl) T.range_n (pa_cons (pe_call (ok__law_draw T) hr1 rfl T._law_draw_g T._law_draw_k T._law_draw_b .nil pass0 (pa_cons (pv 0) (pa_cons pe_int pa_nil))) pa_nil)) (blkOk_by (own := [("_law_turn", 10)]) (N := ["_law_feed", "_law_deep", "_law_form", "_law_ink", "_law_some", "_law_items", "_law_heads", "_law_many", "_law_kids", "_law_head", "_law_turn", "_law_item"]) (sc := defScope s__law_inked_tree) (by decide +kernel)) (fun _ _ _ _ _ => (pg_name (i := 10) sc__law_inked_tree.nd rfl (.inl rfl))) (fun _ _ _ _ _ => pts_nil) (fun _ _ _ _ _ => (pe_call IH hr rfl T._law_inked_tree_g T._law_inked_tree_k T._law_inked_tree_b .nil pass0 (pa_cons (pv 0) (pa_cons (pe_op op_sub (pv 1) pe_int) pa_nil)))))
      (pss_cons (ps_set (i := 6) sc__law_inked_tree.nd rfl (.inr rfl) (pe_tup (pa_cons pe_str (pa_cons pe_str (pa_cons pe_str (pa_cons pe_str (pa_cons pe_str (pa_cons pe_str (pa_cons pe_str (pa_cons pe_str pa_nil))))))))))
      (pss_one (ps_ret (pe_tup (pa_cons pe_str (pa_cons (pe_tup pa_nil) (pa_cons (pe_callTy call_tuple_of (by rfl) T.tuple_n (by decide +kernel) (pa_cons (pe_lc (own := [("_law_item", 11)]) (g := (gName 11)) (tt := tYes) (by rfl) sc__law_inked_tree.nd (pi_list (pv 5)) (blkOk_by (own := [("_law_item", 11)]) (N := ["_law_feed", "_law_deep", "_law_form", "_law_ink", "_law_some", "_law_items", "_law_heads", "_law_many", "_law_kids", "_law_head", "_law_turn", "_law_item"]) (sc := defScope s__law_inked_tree) (by decide +kernel)) (fun _ _ _ _ _ => (pg_name (i := 11) sc__law_inked_tree.nd rfl (.inl rfl))) (fun _ _ _ _ _ => pts_nil) (fun _ _ _ _ _ => (pe_ifExp (pt_cmpR (show OpR _ _ (rIn K false) from op_in_seq) (pe_ix (show IxR _ (rIxT K) from ix_tup) (pv 11) pe_int (fun _ _ => rfl)) (pv 6) (by rfl)) (pv 11) (pe_tup (pa_cons pe_str (pa_cons (pv 3) (pa_cons (pe_tup (pa_cons pe_int (pa_cons (pv 11) pa_nil))) pa_nil))))))) pa_nil)) pa_nil)))))))) pss_nil)
      (pss_mid (ps_if (pt_cmpR op_lt (pv 2) pe_int (nomark _)) (pss_cons (ps_set (i := 7) sc__law_inked_tree.nd rfl (.inl rfl) (pe_call (ok__law_draw T) hr1 rfl T._law_draw_g T._law_draw_k T._law_draw_b .nil pass0 (pa_cons (pv 0) (pa_cons pe_int pa_nil))))
      (pss_cons (ps_set (i := 8) sc__law_inked_tree.nd rfl (.inl rfl) (pe_callTy call_tuple_of (by rfl) T.tuple_n (by decide +kernel) (pa_cons (pe_lc (own := [("_law_turn", 10)]) (g := (gName 10)) (tt := tYes) (by rfl) sc__law_inked_tree.nd (pi_range1 (by rfl) T.range_n (pa_cons (pv 7) pa_nil)) (blkOk_by (own := [("_law_turn", 10)]) (N := ["_law_feed", "_law_deep", "_law_form", "_law_ink", "_law_some", "_law_items", "_law_heads", "_law_many", "_law_kids", "_law_head", "_law_turn", "_law_item"]) (sc := defScope s__law_inked_tree) (by decide +kernel)) (fun _ _ _ _ _ => (pg_name (i := 10) sc__law_inked_tree.nd rfl (.inl rfl))) (fun _ _ _ _ _ => pts_nil) (fun _ _ _ _ _ => (pe_call IH hr rfl T._law_inked_tree_g T._law_inked_tree_k T._law_inked_tree_b .nil pass0 (pa_cons (pv 0) (pa_cons (pe_op op_sub (pv 1) pe_int) pa_nil))))) pa_nil)))
      (pss_one (ps_ret (pe_tup (pa_cons pe_str (pa_cons (pv 3) (pa_cons (pe_op op_catA (pe_tup (pa_cons (pe_call (ok__law_pick T) hr2 rfl T._law_pick_g T._law_pick_k T._law_pick_b .nil pass0 (pa_cons (pv 0) (pa_cons (pe_lst (pa_cons pe_str (pa_cons pe_str (pa_cons pe_str pa_nil)))) pa_nil))) (pa_cons (pe_op op_add (pv 7) (pe_call (ok__law_draw T) hr1 rfl T._law_draw_g T._law_draw_k T._law_draw_b .nil pass0 (pa_cons (pv 0) (pa_cons pe_int pa_nil)))) pa_nil))) (pv 8)) pa_nil)))))))) pss_nil)
      (pss_mid (ps_if (pt_cmpR op_eq (pv 2) pe_int (nomark _)) (pss_one (ps_ret (pe_tup (pa_cons pe_str (pa_cons (pv 3) (pa_cons (pe_tup (pa_cons (pe_call (ok__law_draw T) hr1 rfl T._law_draw_g T._law_draw_k T._law_draw_b .nil pass0 (pa_cons (pv 0) (pa_cons pe_int pa_nil))) (pa_cons (pe_call IH hr rfl T._law_inked_tree_g T._law_inked_tree_k T._law_inked_tree_b .nil pass0 (pa_cons (pv 0) (pa_cons (pe_op op_sub (pv 1) pe_int) pa_nil))) pa_nil))) pa_nil)))))) pss_nil)
      (pss_cons (ps_set (i := 9) sc__law_inked_tree.nd rfl (.inl rfl) (pe_call (ok__law_pick T) hr2 rfl T._law_pick_g T._law_pick_k T._law_pick_b .nil pass0 (pa_cons (pv 0) (pa_cons (pe_op op_cat (pe_op op_cat (pe_call0 (ok__law_ones T) hr1 rfl T._law_ones_g T._law_ones_k T._law_ones_b .nil pass0) (pe_call0 (ok__law_twos T) hr1 rfl T._law_twos_g T._law_twos_k T._law_twos_b .nil pass0)) (pe_lst (pa_cons pe_str (pa_cons pe_str (pa_cons pe_str (pa_cons pe_str (pa_cons pe_str pa_nil))))))) pa_nil))))
      (pss_cons (ps_set (i := 7) sc__law_inked_tree.nd rfl (.inl rfl) (pe_mid (pe_dget2 (hu_of hr) (pe_disp (pps_cons pe_str pe_int (pps_cons pe_str pe_int (pps_cons pe_str pe_int pps_nil))) (by rfl) (by rfl) (fun z => by cases z) (by decide)) (pv 9) (pe_op op_add (pe_op op_mul pe_int (pe_callTy call_int1 (by rfl) T.int_n (by decide +kernel) (pa_cons (pe_cmpR op_in_seq (pv 9) (pe_call0 (ok__law_ones T) hr1 rfl T._law_ones_g T._law_ones_k T._law_ones_b .nil pass0) (by rfl)) pa_nil))) (pe_op op_mul pe_int (pe_callTy call_int1 (by rfl) T.int_n (by decide +kernel) (pa_cons (pe_cmpR op_in_seq (pv 9) (pe_call0 (ok__law_twos T) hr1 rfl T._law_twos_g T._law_twos_k T._law_twos_b .nil pass0) (by rfl)) pa_nil)))) ⟨rfl, rfl, rfl, rfl⟩)))
      (pss_cons (ps_set (i := 7) sc__law_inked_tree.nd rfl (.inl rfl) (pe_mid (pe_ifExp (pt_cmpR op_gt (pv 7) pe_int (nomark _)) (pv 7) (pe_op op_add pe_int (pe_call (ok__law_draw T) hr1 rfl T._law_draw_g T._law_draw_k T._law_draw_b .nil pass0 (pa_cons (pv 0) (pa_cons pe_int pa_nil)))))))
      (pss_one (ps_ret (pe_tup (pa_cons (pv 9) (pa_cons (pv 3) (pa_cons (pe_callTy call_tuple_of (by rfl) T.tuple_n (by decide +kernel) (pa_cons (pe_lc (own := [("_law_turn", 10)]) (g := (gName 10)) (tt := tYes) (by rfl) sc__law_inked_tree.nd (pi_range1 (by rfl) T.range_n (pa_cons (pv 7) pa_nil)) (blkOk_by (own := [("_law_turn", 10)]) (N := ["_law_feed", "_law_deep", "_law_form", "_law_ink", "_law_some", "_law_items", "_law_heads", "_law_many", "_law_kids", "_law_head", "_law_turn", "_law_item"]) (sc := defScope s__law_inked_tree) (by decide +kernel)) (fun _ _ _ _ _ => (pg_name (i := 10) sc__law_inked_tree.nd rfl (.inl rfl))) (fun _ _ _ _ _ => pts_nil) (fun _ _ _ _ _ => (pe_call IH hr rfl T._law_inked_tree_g T._law_inked_tree_k T._law_inked_tree_b .nil pass0 (pa_cons (pv 0) (pa_cons (pe_op op_sub (pv 1) pe_int) pa_nil))))) pa_nil)) pa_nil))))))))))))))), ?_⟩
  refine ⟨_, rfl, f, 14, rfl, hF, by decide, by decide, fun r H1 r0 r1 x1 b1 => ?_⟩
  have c1 := hT.ext x1 b1
  refine go_name ?_
  dsimp only
  refine go_asg ?_
  refine yd_tupLc (f := f) (F := F) (H0 := H1) (m := 2) (Ge := Gn 6 2) (G := Gn 6 3) tupR hf ?_ (by decide) (fun D H1 k x nD => yd_gen rfl (.inl hf)) (fun y => rfl) (fun ds l g => Gn.tuple (by omega) g) H1 _ Ext.refl b1 c1 ?_
  · intro H' x b c Q q
    refine rd_draw rfl b (by decide) fun s1 H2 z0 z1 y1 d1 => rd_draw rfl d1 (by decide) fun s2 H3 _ _ y2 d2 => ⟨rfl, .inr ⟨_, rfl, _, _, rfl, rfl, .inl ⟨by omega, by omega⟩, ?_⟩⟩
    refine q _ ?_ ?_ H3 (y1.trans y2) d2
    all_goals
      cases decide (V.int s2 = V.int 0)
      · show _ ≤ _
        simp
      · show _ ≤ _
        simp
        omega
  intro ik dk H2 x2 b2 ak gk
  have c2 := c1.ext x2 b2
  refine go_name ?_
  -- the next tree's parts
  refine ⟨fun σ H' => σ = [some (.ref f), some (.int k), some (.int r), some ik, none, none, none, none, none, none, none, none] ∧ H2 = H' ∧ 0 < k, ?_, ?_⟩
  · refine ⟨fun b H' => H2 = H' ∧ (b = false → 0 < k), ?_, ?_⟩
    · refine ⟨_, rfl, _, _, rfl, rfl, _, rfl, ite2 (fun e => ⟨rfl, fun z => by cases z⟩) (fun e => ⟨_, rfl, _, _, rfl, rfl, _, rfl, rfl, fun _ => ?_⟩)⟩
      have := of_decide_eq_false (Bool.eq_false_iff.mpr e)
      omega
    rintro c _ ⟨rfl, hc⟩
    refine ite2 (fun e => ?_) (fun e => ⟨rfl, rfl, hc (Bool.eq_false_iff.mpr e)⟩)
    refine go_asg ?_
    refine yd_lstU (f := f) (F := F) (H0 := H2) (G := Gh 6 4) (m := 3) hf ?_ (by decide) H2 _ Ext.refl b2 c2 ?_
    · exact ydu_cons hf ((yd_gen rfl hf).imp fun d g => ⟨g.1.mono (Nat.le_refl _) (by decide), g.2⟩)
        (ydu_cons hf (yd_head hf (by decide +kernel) (yd_var (i := 3) rfl hf ak gk) (yd_one hf (yd_draw rfl (by decide)) (by decide) (by decide)) (by decide))
        (ydu_cons hf (yd_head hf (by decide +kernel) (yd_unit hf (by decide)) (yd_one hf (fun H Q x b c q => rd_draw (k := 0) rfl b (by decide) fun r H' r0 r1 x1 b1 => ⟨_, _, rfl, rfl, q _ (.int (1 + r)) H' x1 b1 (.int _) (gn_int (by omega))⟩) (by decide) (by decide)) (by decide)) ydu_nil))
    rintro v d H3 x3 b3 a3 ⟨ds3, rfl, ld3, gd3⟩
    cases a3 with
    | @lst p3 xs3 _ nF3 ea3 al3 =>
      refine go_name (go_ret ?_)
      have ak3 := ak.ext x3 hf
      refine rd_pickCat (f := f) (F := F) (G := Gh 6 4) (m := 3) hf rfl rfl (.lst nF3 ea3 al3) gd3 (by omega) (by omega) ?_ (by decide) b3 (c2.ext x3 b3) (fun v d H' x y z g => q v d H' (x1.trans (x2.trans (x3.trans x))) y z ⟨g.1.mono (Nat.le_refl _) (by omega), g.2⟩)
      exact ydu_cons hf (yd_head hf (by decide +kernel) (yd_unit hf (by decide)) (yd_one hf (yd_str (gn_str (by decide +kernel))) (by decide) (by decide)) (by decide))
        (ydu_cons hf (yd_head hf (by decide +kernel) (yd_var (i := 3) rfl hf ak3 gk) (yd_unit hf (by decide)) (by decide))
        (ydu_cons hf (yd_head hf (by decide +kernel) (yd_unit hf (by decide)) (yd_unit hf (by decide)) (by decide)) ydu_nil))
  rintro _ _ ⟨rfl, rfl, k0⟩
  -- made
  refine ⟨fun σ H' => σ = [some (.ref f), some (.int k), some (.int r), some ik, none, none, none, none, none, none, none, none] ∧ H2 = H', ?_, ?_⟩
  · refine ⟨_, rfl, rfl, _, rfl, ite2 (fun e => ?_) (fun e => ⟨rfl, rfl⟩)⟩
    refine go_asg ?_
    refine rd_draw rfl b2 (by decide) fun j H3 j0 j1 x3 b3 => ⟨j, rfl, by omega, by omega, fun D nD => ?_⟩
    have c3 := c2.ext x3 b3
    refine yd_lc (f := f) (F := F) (H0 := H2) (Ge := Gh 6 (4 * k)) hf x3 b3 c3 nD (by omega) (fun i hi => yd_sub (.inl hf) k0 hk hk3 rfl rfl) (fun y => rfl) (fun H4 vs ds x4 b4 eD aD lD gD => ?_)
    refine go_name (go_asg ⟨by decide, fun ph nph => go_name (go_ret ?_)⟩)
    have c4 := c3.ext x4 b4
    have s5 := same_upd (o := .tup [.str "int", .str "quote", .str "flag", .str "global", .str "made", .str "ref", .str "fun", .str "use"]) nph
    have x5 : Ext f H2 _ := (x3.trans x4).trans (Ext.same s5)
    have b5 := b4.same s5
    have c5 := c4.same s5
    have ak5 := ak.ext x5 hf
    have phf : ph ≠ f := fun z => c4.new nph (z ▸ hf)
    refine yd_head (n := 4 * k + 3) hf (by decide +kernel) (yd_unit (n := 4 * k + 2) hf (by decide)) (yd_tupLcL (K := K) (G := Gh 6 (4 * k)) (Ge := Gn 6 (4 * k + 2)) tupR hf rfl (.lst (c3.new nD) (s5 _ _ eD) (aD.wth.same s5)) gD (by omega) ?_ (fun y => rfl) (fun ds l g => Gn.tuple (by omega) g)) (by decide) _ _ Ext.refl b5 c5 (fun v d H' x y z g => q v d H' (x1.trans (x2.trans (x5.trans x))) y z g)
    intro D2 H6 v d x6 nD2 a6 g6 H7 Q7 x7 b7 c7 q7
    obtain ⟨gd6, h6, y6, z6, rfl⟩ := g6
    have a7 := a6.ext x7 (.inl hf)
    cases a7 with
    | @tup pv _ _ npv epv apv =>
    cases apv with
    | cons ah at1 =>
    cases ah
    refine ⟨_, rfl, pv, _, 0, .str h6, rfl, rfl, SqT.of epv, atI_nat (j := 0) rfl, _, rfl, ph, _, rfl, .inr (SqT.of (x7 _ _ phf (x6 _ _ phf upd_same))), rfl, by decide, _, rfl, ite2 (fun e => ?_) (fun e => ?_)⟩
    · exact ⟨_, rfl, q7 _ _ H7 Ext.refl b7 (.tup npv epv (.cons (.str _) at1)) (gd6.mono (Nat.le_refl _) (by omega))⟩
    · have ak7 : Da (Wth F D2) H6 ik dk := (ak5.ext x6 hf).avoid nD2
      refine yd_head (n := 4 * k + 1) (.inl hf) (by decide +kernel) (yd_var (i := 3) rfl (.inl hf) ak7 (gk.mono (Nat.le_refl _) (by omega))) (yd_tupG (n := 4 * k) (m := 2) (.inl hf) (ydu_cons (.inl hf) (yd_int (gn_int (by decide))) (ydu_cons (.inl hf) (yd_var (i := 11) rfl (.inl hf) a6 gd6) ydu_nil)) (by decide) (by decide)) (by decide) H7 _ x7 b7 c7 (fun v d H' x y z g => q7 v d H' x y z g.1)
  rintro _ _ ⟨rfl, rfl⟩
  -- use
  refine ⟨fun σ H' => σ = [some (.ref f), some (.int k), some (.int r), some ik, none, none, none, none, none, none, none, none] ∧ H2 = H', ?_, ?_⟩
  · refine ⟨_, rfl, _, _, rfl, rfl, _, rfl, ite2 (fun e => ?_) (fun e => ⟨rfl, rfl⟩)⟩
    refine go_asg ?_
    refine rd_draw rfl b2 (by decide) fun j H3 j0 j1 x3 b3 => go_name (go_asg ?_)
    have c3 := c2.ext x3 b3
    refine yd_tupLc (f := f) (F := F) (H0 := H3) (m := 3) (Ge := Gh 6 (4 * k)) (G := fun d => ∃ ds, d = .tuple ds ∧ ds.length ≤ 3 ∧ ∀ z ∈ ds, Gn 6 (4 * k) z) tupR hf (fun H' x b c Q q => ⟨_, rfl, q j j0 (by omega) H' Ext.refl b⟩) (by decide) (fun D H1 i x nD => yd_sub (.inl hf) k0 hk hk3 rfl rfl) (fun y => rfl) (fun ds l g => ⟨ds, rfl, l, fun z hz => (g z hz).1⟩) H3 _ Ext.refl b3 c3 ?_
    rintro v4 d4 H4 x4 b4 a4 ⟨ds4, rfl, l4, g4⟩
    refine go_name (go_ret ?_)
    have c4 := c3.ext x4 b4
    have ak4 := (ak.ext x3 hf).ext x4 hf
    refine yd_head (n := 4 * k + 1) hf (by decide +kernel) (yd_var (i := 3) rfl hf ak4 (gk.mono (Nat.le_refl _) (by omega))) (yd_catA (G1 := fun d => ∃ ds, d = .tuple ds ∧ ds.length = 2 ∧ ∀ z ∈ ds, Gn 6 (4 * k) z) (G2 := fun d => ∃ ds, d = .tuple ds ∧ ds.length ≤ 3 ∧ ∀ z ∈ ds, Gn 6 (4 * k) z) hf
      ((yd_tupU (G := Gn 6 (4 * k)) (m := 2) hf (ydu_cons hf (yd_pickC rfl (fun _ _ q => q) (by decide) (by decide) (by decide +kernel)) (ydu_cons hf (fun H Q x b c q => ⟨_, rfl, rd_draw (k := 0) rfl b (by decide) fun r H' r0 r1 x1 b1 => ⟨_, _, rfl, rfl, q _ (.int (j + r)) H' x1 b1 (.int _) (gn_int (by omega))⟩⟩) ydu_nil)) (by decide)).imp fun d ⟨ds, e, l, g⟩ => ⟨ds, e, by omega, ds, e, l, g⟩)
      ((yd_var (i := 8) rfl hf a4 rfl).imp fun d e => ⟨ds4, e.symm, by omega, ds4, e.symm, l4, g4⟩) ?_) (by decide) H4 _ Ext.refl b4 c4 (fun v d H' x y z g => q v d H' (x1.trans (x2.trans (x3.trans (x4.trans x)))) y z ⟨g.1.mono (Nat.le_refl _) (by omega), g.2⟩)
    rintro a b ⟨_, ea, la, ga⟩ ⟨_, eb, lb, gb⟩
    cases ea
    cases eb
    exact Gn.tuple (by rw [List.length_append]; omega) fun d hd => (List.mem_append.mp hd).elim (ga d) (gb d)
  rintro _ _ ⟨rfl, rfl⟩
  -- fun
  refine ⟨fun σ H' => σ = [some (.ref f), some (.int k), some (.int r), some ik, none, none, none, none, none, none, none, none] ∧ H2 = H', ?_, ?_⟩
  · refine ⟨_, rfl, rfl, _, rfl, ite2 (fun e => ?_) (fun e => ⟨rfl, rfl⟩)⟩
    refine go_ret ?_
    refine yd_head (n := 4 * k + 1) hf (by decide +kernel) (yd_var (i := 3) rfl hf ak (gk.mono (Nat.le_refl _) (by omega))) (yd_tupG (n := 4 * k) (m := 2) hf (ydu_cons hf (yd_draw rfl (by decide)) (ydu_cons hf ((yd_sub hf k0 hk hk3 rfl rfl).imp fun d g => g.1) ydu_nil)) (by decide) (by decide)) (by decide) H2 _ Ext.refl b2 c2 (fun v d H' x y z g => q v d H' (x1.trans (x2.trans x)) y z ⟨g.1.mono (Nat.le_refl _) (by omega), g.2⟩)
  rintro _ _ ⟨rfl, rfl⟩
  -- others
  refine go_asg ⟨_, rfl, rfl, fun p np => ⟨rfl, fun p2 np2 => ⟨p, p2, _, _, rfl, rfl, same_upd np2 _ _ upd_same, upd_same, by decide, fun p3 np3 => ⟨by decide, fun p4 np4 => ⟨p3, p4, _, _, rfl, rfl, same_upd np4 _ _ upd_same, upd_same, by decide, fun p5 np5 => ?_⟩⟩⟩⟩⟩
  have sm : ∀ o, Same H2 (L2.upd _ p5 o) := fun o => ((((same_upd np).trans (same_upd np2)).trans (same_upd np3)).trans (same_upd np4)).trans (same_upd np5)
  have n5 : p5 ≠ f := fun z => by
    obtain ⟨g, s, e, _⟩ := b2.same ((((same_upd np).trans (same_upd np2)).trans (same_upd np3)).trans (same_upd np4))
    rw [z, e] at np5
    cases np5
  refine ⟨f, p5, _, rfl, b2.same (sm _), n5, upd_same, by decide, by decide, fun i x H3 ex x3 b3 => ?_⟩
  obtain ⟨hd, rfl, hdk⟩ := strV_of (List.all_eq_true.mp (show List.all _ strV = true by decide +kernel) x (List.mem_of_getElem? ex))
  have x3' : Ext f H2 H3 := (Ext.same (sm _)).trans x3
  have c3 := c2.ext x3' b3
  refine go_name (go_asg ?_)
  refine ⟨fun v H' => ∃ m : Int, v = .int m ∧ Ext f H3 H' ∧ Fd f H' ∧ 0 ≤ m ∧ m ≤ 3, ?_, ?_⟩
  · intro pd npd
    refine ⟨upd_same, [(.inr "let", .int 2), (.inr "try", .int 2), (.inr "if", .int 3)], rfl, by decide, pd, rfl, .inl ⟨_, .inl upd_same⟩, _, rfl, ?_⟩
    refine ⟨_, rfl, rfl, fun q1 nq1 => ⟨q1, _, rfl, .inl (SqL.of upd_same), rfl, by decide, .inr ⟨_, rfl, _, _, rfl, rfl, .inl ⟨by decide, by decide⟩, _, rfl, rfl, fun q2 nq2 => ⟨q2, _, rfl, .inl (SqL.of upd_same), rfl, by decide, .inr ⟨_, rfl, _, _, rfl, rfl, .inl ⟨by decide, by decide⟩, _, _, rfl, rfl, ?_⟩⟩⟩⟩⟩
    refine ⟨_, .inl ⟨_, .inr hd, .inl (same_upd nq2 _ _ (same_upd nq1 _ _ upd_same)), rfl, rfl⟩, ?_⟩
    have e2 : ∀ o, Same H3 (L2.upd _ q2 o) := fun o => ((same_upd2 (u := .dK (mergeK [] [(.inr "let", .int 2), (.inr "try", .int 2), (.inr "if", .int 3)])) npd).trans (same_upd nq1)).trans (same_upd nq2)
    cases hv : valV (mergeK [] [((.inr "let" : Key), V.int 2), (.inr "try", .int 2), (.inr "if", .int 3)]) (.inr hd) with
    | none =>
      refine ⟨_, rfl, Ext.same (e2 _), b3.same (e2 _), ?_, ?_⟩
      all_goals
        have h1 := b2i_lo (inV (.str hd) (onesL.map V.str))
        have h2 := b2i_lo (inV (.str hd) (twosL.map V.str))
        show _ ≤ _
        simp only [Bool.false_eq_true, if_false]
        omega
    | some v =>
      obtain ⟨m, rfl, m0, m1⟩ := smallI_of (List.all_eq_true.mp (show List.all _ (smallI 0 3) = true by decide +kernel) v (valV_mem hv))
      exact ⟨m, rfl, Ext.same (e2 _), b3.same (e2 _), m0, m1⟩
  rintro _ H4 ⟨m, rfl, x4, b4, m0, m1⟩
  refine go_name (go_asg ?_)
  refine ⟨fun v H' => ∃ m : Int, v = .int m ∧ Ext f H4 H' ∧ Fd f H' ∧ 0 ≤ m ∧ m ≤ 4, ?_, ?_⟩
  · refine ⟨_, rfl, _, _, rfl, rfl, _, rfl, ite2 (fun e => ?_) (fun e => ?_)⟩
    · exact ⟨_, rfl, m, rfl, Ext.refl, b4, m0, by omega⟩
    · exact rd_draw rfl b4 (by decide) fun j H5 j0 j1 x5 b5 => ⟨_, _, rfl, rfl, _, rfl, x5, b5, by omega, by omega⟩
  rintro _ H5 ⟨m', rfl, x5, b5, m0', m1'⟩
  refine go_name (go_ret ?_)
  have c5 := (c3.ext x4 b4).ext x5 b5
  have ak5 := ((ak.ext x3' hf).ext x4 hf).ext x5 hf
  exact yd_headV (n := 4 * k + 1) hf rfl hdk (yd_var (i := 3) rfl hf ak5 (gk.mono (Nat.le_refl _) (by omega))) (yd_tupLc (m := 4) (Ge := Gh 6 (4 * k)) tupR hf (fun H' x b c Q q => ⟨_, rfl, q m' m0' (by omega) H' Ext.refl b⟩) (by decide) (fun D H1 i x nD => yd_sub (.inl hf) k0 hk hk3 rfl rfl) (fun y => rfl) (fun ds l g => Gn.tuple (by omega) fun d hd => (g d hd).1)) (by decide) H5 _ Ext.refl b5 c5 (fun v d H' x y z g => q v d H' (x1.trans (x2.trans (x3'.trans (x4.trans (x5.trans x))))) y z ⟨g.1.mono (Nat.le_refl _) (by omega), g.2⟩)
theorem ok_ink (T : Top K mg) : ∀ n : Nat, FnOk P w K mg base CX0 (n + 4) T._law_inked_tree T._law_inked_tree_d ["_law_feed", "_law_deep"] (sp_ink n)
  | 0 => ink0
  | n + 1 => ink1 T (ok_ink T n)
theorem ok__law_inked_tree (T : Top K mg) : FnOk P w K mg base CX0 8 T._law_inked_tree T._law_inked_tree_d ["_law_feed", "_law_deep"] (sp_ink 4) := ok_ink T 4
end
end Sa

set_option Elab.async false
set_option linter.all false
set_option maxRecDepth 100000
set_option maxHeartbeats 4000000
namespace Sa
open PySem PySem.Spec PyProof.Rows L2
/-! ### isinstance of data -/
def tyName : PyData → String
  | .none => "NoneType"
  | .bool _ => "bool"
  | .int _ => "int"
  | .str _ => "str"
  | .list _ => "list"
  | .tuple _ => "tuple"
  | .dict _ => "dict"
theorem Da.ty {K : PySem.W.Frag} {F : AS} {H : Hp} {v : V} {d : PyData} (h : Da F H v d) : TyX K H v (.type (tyName d)) := by
  cases h with
  | non => exact .base .non
  | bl b => exact .base (.bl b)
  | int i => exact .base (.int i)
  | str x => exact .base (.str x)
  | lst _ e _ => exact .base (.lst e)
  | tup _ e _ => exact .base (.tup e)
def isTup : PyData → Bool
  | .tuple _ => true
  | _ => false
def isStr : PyData → Bool
  | .str _ => true
  | _ => false
def isInt : PyData → Bool
  | .int _ | .bool _ => true
  | _ => false
def isBool : PyData → Bool
  | .bool _ => true
  | _ => false
theorem kit_tup (d : PyData) : kitB (tyName d) "tuple" = some (isTup d) := by cases d <;> (simp only [tyName, isTup]; decide +kernel)
theorem kit_str (d : PyData) : kitB (tyName d) "str" = some (isStr d) := by cases d <;> (simp only [tyName, isStr]; decide +kernel)
theorem kit_int (d : PyData) : kitB (tyName d) "int" = some (isInt d) := by cases d <;> (simp only [tyName, isInt]; decide +kernel)
theorem kit_bool (d : PyData) : kitB (tyName d) "bool" = some (isBool d) := by cases d <;> (simp only [tyName, isBool]; decide +kernel)
theorem rd_isi {K : PySem.W.Frag} {F : AS} {H : Hp} {v : V} {d : PyData} {c : String} {b : Bool} {Q : VK} (a : Da F H v d) (k : kitB (tyName d) c = some b) (q : Q (.bl b) H) : rIsi K [v, .ty c] H Q :=
  ⟨v, .ty c, _, _, b, rfl, .ty c, a.ty, kit_ty k, q⟩
/-! ### slices of data -/
def cutD (ds : List PyData) (lo hi : Option Int) : List PyData := (ds.drop (HT.sIx ds.length 0 lo)).take (HT.sIx ds.length ds.length hi - HT.sIx ds.length 0 lo)
theorem DaAll.cut {F : AS} {H : Hp} {xs : List V} {ds : List PyData} (h : DaAll F H xs ds) (lo hi : Option Int) : DaAll F H (cutV xs lo hi) (cutD ds lo hi) := by
  unfold cutV cutD
  rw [h.length]
  exact (h.drop _).take _
theorem cutD_all {ds : List PyData} {lo hi : Option Int} (h : HT.sIx ds.length 0 lo = 0 ∧ HT.sIx ds.length ds.length hi = ds.length) : cutD ds lo hi = ds := by
  unfold cutD
  rw [h.1, h.2, List.drop_zero, Nat.sub_zero, List.take_length]
theorem cutD_mem {ds : List PyData} {lo hi : Option Int} {z : PyData} (h : z ∈ cutD ds lo hi) : z ∈ ds := List.mem_of_mem_drop (List.mem_of_mem_take h)
theorem cutD_to (ds : List PyData) (k : Nat) : cutD ds none (some (k : Int)) = ds.take k := by
  unfold cutD
  rw [HT.sIx_none, HT.sIx_nat, List.drop_zero, Nat.sub_zero]
  by_cases h : k ≤ ds.length
  · rw [Nat.min_eq_left h]
  · rw [Nat.min_eq_right (by omega), List.take_length, List.take_of_length_le (by omega)]
theorem cutD_from (ds : List PyData) (k : Nat) : cutD ds (some (k : Int)) none = ds.drop k := by
  unfold cutD
  rw [HT.sIx_none, HT.sIx_nat]
  by_cases h : k ≤ ds.length
  · rw [Nat.min_eq_left h]
    exact List.take_of_length_le (by rw [List.length_drop]; omega)
  · rw [Nat.min_eq_right (by omega), List.drop_length, List.drop_eq_nil_of_le (by omega), List.take_nil]
theorem yd_sl {K : PySem.W.Frag} {f : Addr} {F : AS} {H0 : Hp} {σ : L2.St} {G : PyData → Prop} {i : Nat} {v : V} {ds : List PyData} {tl th : TO} {lo hi : Option Int} (e : σ[i]? = some (some v)) (hf : F f) (a : Da F H0 v (.tuple ds)) (hlo : ∀ H Q, Q lo H → tl σ H Q) (hhi : ∀ H Q, Q hi H → th σ H Q)
    (h : G (.tuple (cutD ds lo hi))) : Yd f F H0 σ G (tSl (rSlA K) (tVar i) tl th) := by
  intro H Q x b c q
  have a' := a.ext x hf
  cases a' with
  | @tup p xs _ n e1 al =>
  refine ⟨_, e, hlo _ _ (hhi _ _ ⟨p, xs, rfl, SqT.of e1, fun z => ?_, fun z l nl => ?_⟩)⟩
  · rw [al.length] at z
    rw [cutD_all z] at h
    exact q _ _ H Ext.refl b (.tup n e1 al) h
  · have s : Same H (L2.upd H l (.tup (cutV xs lo hi))) := same_upd nl
    exact q _ _ _ (Ext.same s) (b.same s) (.tup (c.new nl) upd_same ((al.cut lo hi).same s)) h
theorem yd_ixT {K : PySem.W.Frag} {f : Addr} {F : AS} {H0 : Hp} {σ : L2.St} {G : PyData → Prop} {i j : Nat} {v : V} {ds : List PyData} {d : PyData} {t : TE} (e : σ[i]? = some (some v)) (hf : F f) (a : Da F H0 v (.tuple ds)) (g : ds[j]? = some d) (ht : ∀ H Q, Q (.int j) H → t σ H Q) (h : G d) :
    Yd f F H0 σ G (tOp (rIxT K) (tVar i) t) := by
  intro H Q x b c q
  have a' := a.ext x hf
  cases a' with
  | @tup p xs _ nF ea al =>
    have hl := al.length
    obtain ⟨hj, _⟩ := List.getElem?_eq_some_iff.mp g
    have ex : xs[j]? = some xs[j] := List.getElem?_eq_getElem (by omega)
    obtain ⟨d', e1, e2⟩ := al.get ex
    rw [g] at e1
    cases e1
    exact ⟨_, e, ht _ _ ⟨p, xs, j, xs[j], rfl, rfl, SqT.of ea, atI_nat ex, q _ d H Ext.refl b e2 h⟩⟩
section
variable {P : Program} {w : World} {K : PySem.W.Frag} {mg : Str → Option Value} {base : Heap}
def sp_spoil (m : Nat) : Sp := fun vs H Q _ => ∃ (f : Addr) (F : AS) (v : V) (d : PyData) (w n : Nat), vs = [.ref f, v] ∧ Da F H v d ∧ Gn w n d ∧ n < m ∧ n ≤ 60 ∧ 6 ≤ w ∧ w ≤ 100 ∧ Fd f H ∧ F f ∧ Trk F H ∧ ∀ v d H', Ext f H H' → Fd f H' → Da F H' v d → Gn (w + 1) (n + 4) d → Q v H'
theorem spoil0 {f : Addr} {fd : FuncData} : FnOk P w K mg base CX0 6 f fd ["_law_feed", "_law_thing"] (sp_spoil 0) :=
  ⟨fun vs H Q E h => by obtain ⟨f, F, v, d, w, n, _, _, _, h, _⟩ := h; omega, fun A outer s H args us vs Q E _ _ _ _ h => by obtain ⟨f, F, v, d, w, n, _, _, _, h, _⟩ := h; omega⟩
theorem spoil1 (T : Top K mg) {m : Nat} (IH : FnOk P w K mg base CX0 (m + 6) T._law_spoilt T._law_spoilt_d ["_law_feed", "_law_thing"] (sp_spoil m)) :
    FnOk P w K mg base CX0 (m + 7) T._law_spoilt T._law_spoilt_d ["_law_feed", "_law_thing"] (sp_spoil (m + 1)) := by
  refine T._law_spoilt_f.ok sc__law_spoilt (fun vs H Q E h => ?_) (fun cdv A outer s H vs Q E hr h => ?_)
  · obtain ⟨f, F, v, d, w, n, rfl, _⟩ := h
    rfl
  obtain ⟨f, F, v, d, w, n, rfl, ha, hg, hn, hn60, hw6, hw, hF, hf, hT, q⟩ := h
  have hr6 : Room 6 _ := hr.mono (by omega)
  have hr1 : Room 1 _ := hr.mono (by omega)
  -- slots: 0 _law_feed, 1 _law_thing, 2 _law_form, 3 _law_at
  refine ⟨_, (pss_mid (ps_if (pt_mid (PW.pt (pw_or (pt_not (pt_val (pe_callB call_isi (by rfl) T.isinstance_n (by decide +kernel) (pa_cons (pv 1) (pa_cons (pe_bltn (v := .ty "tuple") (u := .type "tuple") (by rfl) T.tuple_n (by decide +kernel) rfl) pa_nil))))) (pw_or (pt_cmpR (op_eqD hr.units) (pv 1) (pe_tup pa_nil) (nomark _)) (pw_or1 (pt_cmpR op_eq (pe_call (ok__law_draw T) hr1 rfl T._law_draw_g T._law_draw_k T._law_draw_b .nil pass0 (pa_cons (pv 0) (pa_cons pe_int pa_nil))) pe_int (nomark _))))))) (pss_one (ps_ret (pe_call (ok__law_any_value T) hr6 rfl T._law_any_value_g T._law_any_value_k T._law_any_value_b1 T._law_any_value_v1 pass0 (pa_cons (pv 0) pa_nil)))) pss_nil)
      (pss_cons (ps_par (i := 2) (j := 3) (by rfl) sc__law_spoilt.nd rfl rfl (by decide) rfl rfl (pa_cons (pe_call (ok__law_draw T) hr1 rfl T._law_draw_g T._law_draw_k T._law_draw_b .nil pass0 (pa_cons (pv 0) (pa_cons pe_int pa_nil))) (pa_cons (pe_call (ok__law_draw T) hr1 rfl T._law_draw_g T._law_draw_k T._law_draw_b .nil pass0 (pa_cons (pv 0) (pa_cons (pe_callB call_len_seq (by rfl) T.len_n (by decide +kernel) (pa_cons (pv 1) pa_nil)) pa_nil))) pa_nil)) (by rfl))
      (pss_mid (ps_if (pt_cmpR op_eq (pv 2) pe_int (nomark _)) (pss_one (ps_ret (pe_op op_catA (pe_slice sl_tupA (pv 1) po_none (po_some (pv 3))) (pe_slice sl_tupA (pv 1) (po_some (pe_op op_add (pv 3) pe_int)) po_none)))) pss_nil)
      (pss_mid (ps_if (pt_cmpR op_eq (pv 2) pe_int (nomark _)) (pss_one (ps_ret (pe_op op_catA (pe_op op_catA (pe_slice sl_tupA (pv 1) po_none (po_some (pv 3))) (pe_tup (pa_cons (pe_ix ix_tup (pv 1) (pv 3) (fun _ _ => rfl)) pa_nil))) (pe_slice sl_tupA (pv 1) (po_some (pv 3)) po_none)))) pss_nil)
      (pss_mid (ps_if (pt_cmpR op_eq (pv 2) pe_int (nomark _)) (pss_one (ps_ret (pe_callTy call_list_of (by rfl) T.list_n (by decide +kernel) (pa_cons (pv 1) pa_nil)))) pss_nil)
      (pss_one (ps_ret (pe_op op_catA (pe_op op_catA (pe_slice sl_tupA (pv 1) po_none (po_some (pv 3))) (pe_tup (pa_cons (pe_call IH hr rfl T._law_spoilt_g T._law_spoilt_k T._law_spoilt_b .nil pass0 (pa_cons (pv 0) (pa_cons (pe_ix ix_tup (pv 1) (pv 3) (fun _ _ => rfl)) pa_nil))) pa_nil))) (pe_slice sl_tupA (pv 1) (po_some (pe_op op_add (pv 3) pe_int)) po_none))))))))), ?_⟩
  refine ⟨fun σ H' => σ = [some (.ref f), some v, none, none] ∧ Ext f H H' ∧ Fd f H' ∧ ∃ ds, d = .tuple ds ∧ ds ≠ [], ?_, ?_⟩
  · refine ⟨fun b H' => Ext f H H' ∧ Fd f H' ∧ (b = false → ∃ ds, d = .tuple ds ∧ ds ≠ []), ?_, ?_⟩
    · refine ⟨_, rfl, _, _, _, _, _, rfl, .ty _, ha.ty, kit_ty (kit_tup d), _, rfl, ite2 (fun e => ?_) (fun e => ?_)⟩
      · exact ⟨Ext.refl, hF, fun z => by cases z⟩
      obtain ⟨ds, rfl⟩ : ∃ ds, d = .tuple ds := by
        cases d with
        | tuple ds => exact ⟨ds, rfl⟩
        | _ => exact absurd rfl e
      refine ⟨_, rfl, by decide, fun p np => ?_⟩
      have s1 := same_upd (o := .tup []) np
      refine ⟨_, .tuple [], (ha.same s1).dp _ _, .tup (SqT.of upd_same) .nil, hg.shaped (by omega), by decide +kernel, _, rfl, ite2 (fun e2 => ?_) (fun e2 => ?_)⟩
      · exact ⟨Ext.same s1, hF.same s1, fun z => by cases z⟩
      have nds : ds ≠ [] := fun z => by
        subst z
        exact e2 (by decide +kernel)
      refine rd_draw rfl (hF.same s1) (by decide) fun r H1 r0 r1 x1 b1 => ⟨rfl, _, rfl, (Ext.same s1).trans x1, b1, fun _ => ⟨ds, rfl, nds⟩⟩
    rintro b H1 ⟨x1, b1, hb⟩
    refine ite2 (fun e => ?_) (fun e => ⟨rfl, x1, b1, hb (Bool.eq_false_iff.mpr e)⟩)
    refine ⟨_, rfl, f, F, 3, rfl, by decide, by decide, b1, hf, hT.ext x1 b1, fun v d H' x2 b2 a2 g2 => q v d H' (x1.trans x2) b2 a2 (g2.mono (by omega) (by omega))⟩
  rintro _ H1 ⟨rfl, x1, b1, ds, rfl, nds⟩
  have c1 := hT.ext x1 b1
  have a1 := ha.ext x1 hf
  obtain ⟨hlw, hn0, hgs⟩ := hg.tuple_inv
  have l0 : 0 < ds.length := List.length_pos_iff.mpr nds
  refine rd_draw rfl b1 (by decide) fun fm H2 fm0 fm1 x2 b2 => ?_
  have a2 := a1.ext x2 hf
  have dn : Da F H2 v (.tuple ds) := a2
  cases a2 with
  | @tup pv xs _ nv ev av =>
  have lv := av.length
  refine ⟨_, rfl, _, rfl, pv, xs, rfl, .inr (SqT.of ev), f, _, rfl, b2, by omega, by omega, fun at' H3 at0 at1 x3 b3 => ⟨_, _, rfl, ?_⟩⟩
  obtain ⟨a, rfl⟩ : ∃ a : Nat, at' = a := ⟨at'.toNat, by omega⟩
  have la : a < ds.length := by omega
  have c3 := (c1.ext x2 b2).ext x3 b3
  have a3 := dn.ext x3 hf
  have x123 := x1.trans (x2.trans x3)
  have gin : ∀ z ∈ ds, Gn (w + 1) (n + 3) z := fun z hz => (hgs z hz).mono (by omega) (by omega)
  -- the parts of the thing
  have pto : ∀ {σ : L2.St}, σ[1]? = some (some (.ref pv)) → σ[3]? = some (some (.int a)) → Yd f F H3 σ (fun d => ∃ l, d = .tuple l ∧ l.length ≤ 500 ∧ d = .tuple (ds.take a)) (tSl (rSlA K) (tVar 1) tNoPart (tPart (tVar 3))) := fun e1 e3 =>
    yd_sl (lo := none) (hi := some (a : Int)) e1 hf a3 (fun _ _ q => q) (fun _ _ q => ⟨_, e3, _, rfl, q⟩) (by rw [cutD_to]; exact ⟨_, rfl, by rw [List.length_take]; omega, rfl⟩)
  have pfrom : ∀ {σ : L2.St}, σ[1]? = some (some (.ref pv)) → σ[3]? = some (some (.int a)) → Yd f F H3 σ (fun d => ∃ l, d = .tuple l ∧ l.length ≤ 500 ∧ d = .tuple (ds.drop (a + 1))) (tSl (rSlA K) (tVar 1) (tPart (tOp (rI0 fun i j => V.int (i + j)) (tVar 3) (tC (.int 1)))) tNoPart) := fun e1 e3 =>
    yd_sl (lo := some ((a + 1 : Nat) : Int)) (hi := none) e1 hf a3 (fun _ _ q => ⟨_, e3, _, _, rfl, rfl, _, rfl, q⟩) (fun _ _ q => q) (by rw [cutD_from]; exact ⟨_, rfl, by rw [List.length_drop]; omega, rfl⟩)
  have pfrom0 : ∀ {σ : L2.St}, σ[1]? = some (some (.ref pv)) → σ[3]? = some (some (.int a)) → Yd f F H3 σ (fun d => ∃ l, d = .tuple l ∧ l.length ≤ 500 ∧ d = .tuple (ds.drop a)) (tSl (rSlA K) (tVar 1) (tPart (tVar 3)) tNoPart) := fun e1 e3 =>
    yd_sl (lo := some (a : Int)) (hi := none) e1 hf a3 (fun _ _ q => ⟨_, e3, _, rfl, q⟩) (fun _ _ q => q) (by rw [cutD_from]; exact ⟨_, rfl, by rw [List.length_drop]; omega, rfl⟩)
  have at_ : ∀ {σ : L2.St} {H' : Hp}, Ext f H3 H' → σ[1]? = some (some (.ref pv)) → σ[3]? = some (some (.int a)) → Yd f F H' σ (fun d => d = ds[a]) (tOp (rIxT K) (tVar 1) (tVar 3)) := fun x e1 e3 =>
    yd_ixT e1 hf (a3.ext x hf) (List.getElem?_eq_getElem la) (fun _ _ q => ⟨_, e3, q⟩) rfl
  refine ⟨fun σ H' => σ = [some (.ref f), some (.ref pv), some (.int fm), some (.int a)] ∧ H3 = H', ?_, ?_⟩
  · refine ⟨_, rfl, rfl, _, rfl, ite2 (fun e => ?_) (fun e => ⟨rfl, rfl⟩)⟩
    refine go_ret (yd_catA (K := K) (f := f) (F := F) (H0 := H3) (G := Gn (w + 1) (n + 4)) hf (pto rfl rfl) (pfrom rfl rfl) ?_ H3 _ Ext.refl b3 c3 fun v d H' x y z g => q v d H' (x123.trans x) y z g)
    rintro l1 l2 e1 e2
    cases e1
    cases e2
    exact Gn.tuple (by rw [List.length_append, List.length_take, List.length_drop]; omega) fun z hz => (List.mem_append.mp hz).elim (fun y => gin z (List.mem_of_mem_take y)) fun y => gin z (List.mem_of_mem_drop y)
  rintro _ _ ⟨rfl, rfl⟩
  refine ⟨fun σ H' => σ = [some (.ref f), some (.ref pv), some (.int fm), some (.int a)] ∧ H3 = H', ?_, ?_⟩
  · refine ⟨_, rfl, rfl, _, rfl, ite2 (fun e => ?_) (fun e => ⟨rfl, rfl⟩)⟩
    refine go_ret (yd_catA (K := K) (f := f) (F := F) (H0 := H3) (G1 := fun d => d = .tuple (ds.take a ++ [ds[a]])) (G := Gn (w + 1) (n + 4)) hf
      (yd_catA (K := K) (G2 := fun d => d = .tuple [ds[a]]) hf (pto rfl rfl) ((yd_tup (G := fun d => d = .tuple [ds[a]]) hf (yda_cons hf (at_ Ext.refl rfl rfl) fun d e => yda_nil (by subst e; exact ⟨by simp, rfl⟩))).imp fun d e => ⟨_, e, by simp, e⟩) ?_) (pfrom0 rfl rfl) ?_ H3 _ Ext.refl b3 c3 fun v d H' x y z g => q v d H' (x123.trans x) y z g)
    · rintro l1 l2 e1 e2
      cases e1
      cases e2
      exact ⟨_, rfl, by rw [List.length_append, List.length_take, List.length_singleton]; omega, rfl⟩
    · rintro l1 l2 e1 e2
      cases e1
      cases e2
      refine Gn.tuple (by rw [List.length_append, List.length_append, List.length_take, List.length_drop, List.length_singleton]; omega) fun z hz => ?_
      rcases List.mem_append.mp hz with y | y
      · rcases List.mem_append.mp y with y | y
        · exact gin z (List.mem_of_mem_take y)
        · exact gin z (by rw [List.mem_singleton.mp y]; exact List.getElem_mem la)
      · exact gin z (List.mem_of_mem_drop y)
  rintro _ _ ⟨rfl, rfl⟩
  refine ⟨fun σ H' => σ = [some (.ref f), some (.ref pv), some (.int fm), some (.int a)] ∧ H3 = H', ?_, ?_⟩
  · refine ⟨_, rfl, rfl, _, rfl, ite2 (fun e => ?_) (fun e => ⟨rfl, rfl⟩)⟩
    cases a3 with
    | @tup _ xs3 _ nv3 ev3 av3 =>
    refine ⟨_, rfl, pv, _, rfl, .inr (SqT.of ev3), fun l nl => ?_⟩
    have s4 := same_upd (o := .lst xs3) nl
    exact q _ (.list ds) _ (x123.trans (Ext.same s4)) (b3.same s4) (.lst (c3.new nl) upd_same (av3.same s4)) (Gn.list (by omega) gin)
  rintro _ _ ⟨rfl, rfl⟩
  refine go_ret (yd_catA (K := K) (f := f) (F := F) (H0 := H3) (G1 := fun d => ∃ y, Gn (w + 1) (n + 3) y ∧ d = .tuple (ds.take a ++ [y])) (G := Gn (w + 1) (n + 4)) hf
    (yd_catA (K := K) (G2 := fun d => ∃ y, Gn (w + 1) (n + 3) y ∧ d = .tuple [y]) hf (pto rfl rfl) ((yd_tup (G := fun d => ∃ y, Gn (w + 1) (n + 3) y ∧ d = .tuple [y]) hf (yda_cons (G := Gn (w + 1) (n + 3)) hf ?_ fun d g => yda_nil ⟨by simp, d, g, rfl⟩)).imp fun d ⟨y, g, e⟩ => ⟨_, e, by simp, y, g, e⟩) ?_) (pfrom rfl rfl) ?_ H3 _ Ext.refl b3 c3 fun v d H' x y z g => q v d H' (x123.trans x) y z g)
  · intro H4 Q4 x4 b4 c4 q4
    refine ⟨_, rfl, at_ x4 rfl rfl H4 _ Ext.refl b4 c4 ?_⟩
    rintro v5 _ H5 x5 b5 a5 rfl
    exact ⟨f, F, v5, _, w, n - 1, rfl, a5, hgs _ (List.getElem_mem la), by omega, by omega, hw6, hw, b5, hf, c4.ext x5 b5, fun v d H' x y z g => q4 v d H' (x5.trans x) y z (g.mono (Nat.le_refl _) (by omega))⟩
  · rintro l1 l2 e1 ⟨y, g, e2⟩
    cases e1
    cases e2
    exact ⟨_, rfl, by rw [List.length_append, List.length_take, List.length_singleton]; omega, y, g, rfl⟩
  · rintro l1 l2 ⟨y, g, e1⟩ e2
    cases e1
    cases e2
    refine Gn.tuple (by rw [List.length_append, List.length_append, List.length_take, List.length_drop, List.length_singleton]; omega) fun z hz => ?_
    rcases List.mem_append.mp hz with y' | y'
    · rcases List.mem_append.mp y' with y' | y'
      · exact gin z (List.mem_of_mem_take y')
      · rw [List.mem_singleton.mp y']; exact g
    · exact gin z (List.mem_of_mem_drop y')
theorem ok_spoil (T : Top K mg) : ∀ n : Nat, FnOk P w K mg base CX0 (n + 6) T._law_spoilt T._law_spoilt_d ["_law_feed", "_law_thing"] (sp_spoil n)
  | 0 => spoil0
  | n + 1 => spoil1 T (ok_spoil T n)
theorem ok__law_spoilt (T : Top K mg) : FnOk P w K mg base CX0 46 T._law_spoilt T._law_spoilt_d ["_law_feed", "_law_thing"] (sp_spoil 40) := ok_spoil T 40
end
end Sa

set_option Elab.async false
set_option linter.all false
set_option maxRecDepth 100000
set_option maxHeartbeats 4000000
namespace Sa
open PySem PySem.Spec PyProof.Rows L2
/-! ### comprehensions that change nothing -/
structure PIt (J : It) (xs : List V) (G : Hp → Prop) : Prop where
  go : ∀ i H, G H → i < xs.length → J.go i H
  stop : ∀ i H, G H → xs.length ≤ i → J.stop i H
  yld : ∀ i H x H', G H → J.yld i H x H' → H' = H ∧ xs[i]? = some x
theorem pit_t {K : PySem.W.Frag} {a : Addr} {xs : List V} : PIt (Itt K a) xs (fun H => SqT K H a xs) :=
  ⟨fun i H g h => ⟨xs, xs[i], g, List.getElem?_eq_getElem h⟩, fun i H g h => ⟨xs, g, h⟩, fun i H x H' g h => ⟨h.1, h.2 xs g⟩⟩
theorem pit_l {K : PySem.W.Frag} {a : Addr} {xs : List V} : PIt (Itl K a) xs (fun H => SqL K H a xs) :=
  ⟨fun i H g h => ⟨xs, xs[i], g, List.getElem?_eq_getElem h⟩, fun i H g h => ⟨xs, g, h⟩, fun i H x H' g h => ⟨h.1, h.2 xs g⟩⟩
theorem pit_s {x : Str} : PIt (Its x) (x.cps.toList.map fun c => .str ⟨#[c]⟩) (fun _ => True) := by
  refine ⟨fun i H g h => ?_, fun i H g h => ?_, fun i H y H' g h => ?_⟩
  · rw [List.length_map] at h
    exact h
  · rw [List.length_map] at h
    exact h
  · obtain ⟨e, c, ec, rfl⟩ := h
    refine ⟨e, ?_⟩
    rw [List.getElem?_map, Array.getElem?_toList, ec]
    rfl
/-- [e for x in xs]: the answers are out -/
theorem lcA {J : It} {xs : List V} {G : Hp → Prop} (pi : PIt J xs G) {σ : L2.St} {j : Nat} {te : TE} {H1 : Hp} {D : Addr} {Qd : Hp → Prop} (out : List V) (ho : out.length = xs.length) (hl : xs.length < sizeLine) (nD : H1 D = none) (hG : ∀ H', Same H1 H' → G H')
    (he : ∀ (i : Nat) x y H, xs[i]? = some x → out[i]? = some y → Same H1 H → ∀ Q : VK, (∀ H', Same H H' → Q y H') → te ((wipe σ [j]).set j (some x)) H Q) (hw : ∀ y, wipe ((wipe σ [j]).set j y) [j] = wipe σ [j])
    (q : ∀ H', Same H1 H' → H' D = some (.lst out) → Qd H') :
    ∃ W : Nat → Nat → Hp → Prop, (∃ m, W 0 m (L2.upd H1 D (.lst []))) ∧ ∀ i m H, W i m H →
      (J.stop i H ∧ Qd H) ∨ (J.go i H ∧ ∃ Nx : Hp → Prop, (∀ H', Nx H' → ∃ m', m' < m ∧ W (i + 1) m' H') ∧ ∀ x H', J.yld i H x H' → gName j x (wipe σ [j]) H' fun σ2 H2 => wipe σ2 [j] = wipe σ [j] ∧ tYes σ2 H2 fun b H3 =>
        if b = true then te σ2 H3 fun y H4 => ∃ acc, H4 D = some (.lst acc) ∧ acc.length < sizeLine ∧ Nx (L2.upd H4 D (.lst (acc ++ [y]))) else Nx H3) := by
  refine ⟨fun i m H => i + m = xs.length ∧ Same H1 H ∧ H D = some (.lst (out.take i)), ⟨xs.length, by omega, same_upd nD, upd_same⟩, ?_⟩
  rintro i m H ⟨hm, sm, eD⟩
  by_cases hi : i < xs.length
  · refine .inr ⟨pi.go i H (hG H sm) hi, fun H' => Same H1 H' ∧ H' D = some (.lst (out.take (i + 1))), fun H' h => ⟨m - 1, by omega, by omega, h⟩, fun x H' hy => ?_⟩
    obtain ⟨rfl, ex⟩ := pi.yld i H x H' (hG H sm) hy
    have eo : out[i]? = some out[i] := List.getElem?_eq_getElem (by omega)
    refine ⟨hw _, he i x _ H' ex eo sm _ fun H4 s4 => ?_⟩
    refine ⟨_, s4 _ _ eD, by rw [List.length_take]; omega, fun b o e => ?_, ?_⟩
    · rw [upd_ne (ne_of_none e nD)]
      exact s4 _ _ (sm _ _ e)
    · rw [upd_same, List.take_add_one, eo]
      rfl
  · refine .inl ⟨pi.stop i H (hG H sm) (by omega), q H sm ?_⟩
    rw [eD, List.take_of_length_le (by omega)]
/-- [x for x in xs if p]: is it empty? -/
theorem lcF {J : It} {xs : List V} {G : Hp → Prop} (pi : PIt J xs G) {σ : L2.St} {j : Nat} {tt : TT} {te : TE} {H1 : Hp} {D : Addr} {Qd : Hp → Prop} (bs : List Bool) (ho : bs.length = xs.length) (hl : xs.length < sizeLine) (nD : H1 D = none) (hG : ∀ H', Same H1 H' → G H')
    (ht : ∀ (i : Nat) x b H, xs[i]? = some x → bs[i]? = some b → Same H1 H → ∀ Q : Bool → Hp → Prop, (∀ H', Same H H' → Q b H') → tt ((wipe σ [j]).set j (some x)) H Q)
    (he : ∀ x H, ∀ Q : VK, Q x H → te ((wipe σ [j]).set j (some x)) H Q) (hw : ∀ y, wipe ((wipe σ [j]).set j y) [j] = wipe σ [j])
    (q : ∀ H' acc, Same H1 H' → H' D = some (.lst acc) → acc.length ≤ xs.length → (∀ y ∈ acc, y ∈ xs) → (acc = [] ↔ bs.all (fun b => !b) = true) → Qd H') :
    ∃ W : Nat → Nat → Hp → Prop, (∃ m, W 0 m (L2.upd H1 D (.lst []))) ∧ ∀ i m H, W i m H →
      (J.stop i H ∧ Qd H) ∨ (J.go i H ∧ ∃ Nx : Hp → Prop, (∀ H', Nx H' → ∃ m', m' < m ∧ W (i + 1) m' H') ∧ ∀ x H', J.yld i H x H' → gName j x (wipe σ [j]) H' fun σ2 H2 => wipe σ2 [j] = wipe σ [j] ∧ tt σ2 H2 fun b H3 =>
        if b = true then te σ2 H3 fun y H4 => ∃ acc, H4 D = some (.lst acc) ∧ acc.length < sizeLine ∧ Nx (L2.upd H4 D (.lst (acc ++ [y]))) else Nx H3) := by
  refine ⟨fun i m H => i + m = xs.length ∧ Same H1 H ∧ ∃ acc, H D = some (.lst acc) ∧ acc.length ≤ i ∧ (∀ y ∈ acc, y ∈ xs) ∧ (acc = [] ↔ (bs.take i).all (fun b => !b) = true), ⟨xs.length, by omega, same_upd nD, [], upd_same, Nat.le_refl _, (fun y hy => by cases hy), by simp⟩, ?_⟩
  rintro i m H ⟨hm, sm, acc, eD, la, ma, ea⟩
  by_cases hi : i < xs.length
  · refine .inr ⟨pi.go i H (hG H sm) hi, fun H' => Same H1 H' ∧ ∃ acc, H' D = some (.lst acc) ∧ acc.length ≤ i + 1 ∧ (∀ y ∈ acc, y ∈ xs) ∧ (acc = [] ↔ (bs.take (i + 1)).all (fun b => !b) = true), fun H' h => ⟨m - 1, by omega, by omega, h⟩, fun x H' hy => ?_⟩
    obtain ⟨rfl, ex⟩ := pi.yld i H x H' (hG H sm) hy
    have eo : bs[i]? = some bs[i] := List.getElem?_eq_getElem (by omega)
    refine ⟨hw _, ht i x _ H' ex eo sm _ fun H3 s3 => ?_⟩
    have et : bs.take (i + 1) = bs.take i ++ [bs[i]] := by
      rw [List.take_add_one, eo]
      rfl
    refine ite2 (fun hb => ?_) (fun hb => ?_)
    · refine he x H3 _ ⟨acc, s3 _ _ eD, by omega, fun b o e => ?_, acc ++ [x], upd_same, by rw [List.length_append]; exact Nat.succ_le_succ la, fun y hy => ?_, ?_⟩
      · rw [upd_ne (ne_of_none e nD)]
        exact s3 _ _ (sm _ _ e)
      · rcases List.mem_append.mp hy with z | z
        · exact ma y z
        · rw [List.mem_singleton.mp z]
          exact List.mem_of_getElem? ex
      · rw [et, List.all_append, hb]
        simp
    · have hb' : bs[i] = false := Bool.eq_false_iff.mpr hb
      refine ⟨sm.trans s3, acc, s3 _ _ eD, by omega, ma, ?_⟩
      rw [et, List.all_append, hb', ea]
      simp
  · refine .inl ⟨pi.stop i H (hG H sm) (by omega), q H acc sm eD (by omega) ma ?_⟩
    rw [ea, List.take_of_length_le (by omega)]
/-! ### texts in written rows -/
theorem eqV_str (a b : Str) : eqV (.str a) (.str b) = (a == b) := rfl
theorem inV_str (x : Str) : ∀ l : List Str, inV (.str x) (l.map V.str) = l.contains x
  | [] => rfl
  | y :: l => by
    have ih := inV_str x l
    unfold inV at ih ⊢
    rw [List.map_cons, List.any_cons, ih, List.contains_cons, eqV_str]
    congr 1
    by_cases h : y = x
    · rw [h]
    · have h' : x ≠ y := fun z => h z.symm
      rw [beq_eq_false_iff_ne.mpr h, beq_eq_false_iff_ne.mpr h']
theorem flat_strs (l : List Str) : (l.map V.str).all flatV = true := by
  rw [List.all_map, List.all_eq_true]
  intro x _
  rfl
/-! ### the mirrors: names, numbers, paths, inks -/
def nmS (res : List Str) (x : Str) : Bool := decide (1 ≤ x.length) && decide (x.length ≤ 8) && !res.contains x && x.cps.toList.all fun c => decide (c ∈ signsS.cps.toList)
def isNm (res : List Str) : PyData → Bool
  | .str x => nmS res x
  | _ => false
def isNum (least : Int) : PyData → Bool
  | .int i => decide (least ≤ i)
  | _ => false
def isPth : PyData → Bool
  | .tuple ds => ds.all (isNum 0)
  | _ => false
def isMrk (res : List Str) : PyData → Bool
  | .tuple [a, b, c] => isNm res a && isNum 0 b && isPth c
  | _ => false
def isInk (res : List Str) : PyData → Bool
  | .tuple ds => ds.all (isMrk res)
  | _ => false
/-- a def of one datum that tells a bool and changes nothing -/
def sp_b (n : Nat) (m : PyData → Bool) : Sp := fun vs H Q _ => ∃ (F : AS) (v : V) (d : PyData) (w : Nat), vs = [v] ∧ Da F H v d ∧ Gn w n d ∧ w ≤ 1000 ∧ ∀ H', Same H H' → Q (.bl (m d)) H'
section
variable {P : Program} {w : World} {K : PySem.W.Frag} {mg : Str → Option Value} {base : Heap}
theorem ok_is_name (T : Top K mg) {n : Nat} : FnOk P w K mg base CX0 1 T.is_name T.is_name_d ["thing"] (sp_b n (isNm progRes)) := by
  refine T.is_name_f.ok sc_is_name (fun vs H Q E h => ?_) (fun cdv A outer s H vs Q E hr h => ?_)
  · obtain ⟨F, v, d, w, rfl, _⟩ := h
    rfl
  obtain ⟨F, v, d, w, rfl, ha, hg, hw, q⟩ := h
  -- slots: 0 thing, 1 sign
  refine ⟨_, (pss_mid (ps_if (pt_mid (PW.pt (pw_or (pt_not (pt_val (pe_callB call_isi (by rfl) T.isinstance_n (by decide +kernel) (pa_cons (pv 0) (pa_cons (pe_bltn (v := .ty "str") (u := .type "str") (by rfl) T.str_n (by decide +kernel) rfl) pa_nil))))) (pw_or (pt_not (pt_chain op_le op_le pe_int (pe_callB call_len_str (by rfl) T.len_n (by decide +kernel) (pa_cons (pv 0) pa_nil)) pe_int)) (pw_or1 (pt_cmpR op_in_seq (pv 0) (pe_glob (v := .ref T.RESERVED) (by rfl) T.RESERVED_g rfl) (by rfl))))))) (pss_one (ps_ret pe_bl)) pss_nil)
      (pss_one (ps_ret (pe_callB (cr_all rfl) (by rfl) T.all_n (by decide +kernel) (pa_cons (pe_lc (own := [("sign", 1)]) (g := (gName 1)) (tt := tYes) (by rfl) sc_is_name.nd (pi_str (pv 0)) (blkOk_by (own := [("sign", 1)]) (N := ["thing", "sign"]) (sc := defScope s_is_name) (by decide +kernel)) (fun _ _ _ _ _ => (pg_name (i := 1) sc_is_name.nd rfl (.inl rfl))) (fun _ _ _ _ _ => pts_nil) (fun _ _ _ _ _ => (pe_cmpR op_in_sign (pv 1) (pe_glob (v := .str _) (by rfl) T.NAME_SIGNS_g ⟨_, rfl⟩) (by rfl)))) pa_nil))))), ?_⟩
  refine ⟨fun σ H' => σ = [some v, none] ∧ H = H' ∧ ∃ x, d = .str x ∧ 1 ≤ x.length ∧ x.length ≤ 8 ∧ progRes.contains x = false, ?_, ?_⟩
  · refine ⟨fun b H' => H = H' ∧ (b = true → isNm progRes d = false) ∧ (b = false → ∃ x, d = .str x ∧ 1 ≤ x.length ∧ x.length ≤ 8 ∧ progRes.contains x = false), ?_, ?_⟩
    · refine ⟨_, rfl, _, _, _, _, _, rfl, .ty _, ha.ty, kit_ty (kit_str d), _, rfl, ite2 (fun e => ?_) (fun e => ?_)⟩
      · refine ⟨rfl, fun _ => ?_, fun z => by cases z⟩
        cases d <;> first | rfl | cases e
      obtain ⟨x, rfl⟩ : ∃ x, d = .str x := by
        cases d with
        | str x => exact ⟨x, rfl⟩
        | _ => exact absurd rfl e
      cases ha
      have hlen : x.length ≤ 100 := by
        have h := hg.1
        simp only [gd, Bool.and_eq_true, decide_eq_true_eq] at h
        exact h.2
      refine ⟨_, rfl, x, rfl, Nat.le_of_lt (small1000 (by omega)), _, _, rfl, rfl, _, rfl, ite2 (fun e1 => ⟨_, _, rfl, rfl, _, rfl, ite2 (fun e2 => ?_) (fun e2 => ?_)⟩) (fun e1 => ⟨_, rfl, ite2 (fun e2 => ?_) (fun e2 => absurd rfl e2)⟩)⟩
      · refine ⟨rfl, fun _ => ?_, fun z => by cases z⟩
        have e2' : decide ((x.length : Int) ≤ 8) = false := by
          cases h : decide ((x.length : Int) ≤ 8) with
          | false => rfl
          | true => rw [h] at e2; cases e2
        have : ¬ x.length ≤ 8 := fun z => of_decide_eq_false e2' (by omega)
        simp [isNm, nmS, this]
      · have h1 : 1 ≤ x.length := by
          have := of_decide_eq_true e1
          omega
        have h2 : x.length ≤ 8 := by
          have e2' : decide ((x.length : Int) ≤ 8) = true := by
            cases h : decide ((x.length : Int) ≤ 8) with
            | true => rfl
            | false => rw [h] at e2; exact absurd rfl e2
          have := of_decide_eq_true e2'
          omega
        refine ⟨_, rfl, _, _, rfl, .inr (T.RESERVED_s _), rfl, flat_strs _, _, rfl, rfl, fun z => ?_, fun z => ⟨x, rfl, h1, h2, ?_⟩⟩
        · rw [if_neg Bool.false_ne_true, inV_str] at z
          simp only [isNm, nmS, z, Bool.not_true, Bool.and_false, Bool.false_and]
        · rw [if_neg Bool.false_ne_true, inV_str] at z
          exact z
      · refine ⟨rfl, fun _ => ?_, fun z => by cases z⟩
        have : ¬ 1 ≤ x.length := fun z => e1 (decide_eq_true (by omega))
        simp [isNm, nmS, this]
    rintro b _ ⟨rfl, h1, h2⟩
    refine ite2 (fun e => ?_) (fun e => ⟨rfl, rfl, h2 (Bool.eq_false_iff.mpr e)⟩)
    have := q H (Same.refl _)
    rw [h1 e] at this
    exact this
  rintro _ _ ⟨rfl, rfl, x, rfl, l1, l2, hc⟩
  cases ha
  refine ⟨_, rfl, x, rfl, fun D nD => ?_⟩
  refine lcA pit_s (j := 1) (x.cps.toList.map fun c => V.bl (decide (c ∈ signsS.cps.toList))) (by rw [List.length_map, List.length_map]) (by rw [List.length_map]; exact small1000 (Nat.le_trans l2 (by decide))) nD (fun _ _ => trivial) (fun i y z H' ey ez s1 Q' q' => ?_) (fun y => rfl) (fun H' s1 eD => ?_)
  · rw [List.getElem?_map] at ey ez
    obtain ⟨c, ec, rfl⟩ := Option.map_eq_some_iff.mp ey
    rw [ec] at ez
    cases ez
    exact ⟨_, rfl, c, signsS, rfl, rfl, q' H' (Same.refl _)⟩
  · refine ⟨D, x.cps.toList.map fun c => decide (c ∈ signsS.cps.toList), rfl, SqL.of (by rw [eD, List.map_map]; rfl), ?_⟩
    have h := q H' s1
    have e : isNm progRes (.str x) = (x.cps.toList.map fun c => decide (c ∈ signsS.cps.toList)).all id := by
      simp only [isNm, nmS, hc, Bool.not_false, Bool.and_true, List.all_map, Function.id_comp, decide_eq_true l1, decide_eq_true l2, Bool.true_and]
    rw [e] at h
    exact h
end
end Sa

set_option Elab.async false
set_option linter.all false
set_option maxRecDepth 100000
set_option maxHeartbeats 4000000
namespace Sa
open PySem PySem.Spec PyProof.Rows L2
section
variable {P : Program} {w : World} {K : PySem.W.Frag} {mg : Str → Option Value} {base : Heap}
def sp_num : Sp := fun vs H Q _ => ∃ (F : AS) (v : V) (d : PyData) (l : Int), vs = [v, .int l] ∧ Da F H v d ∧ Q (.bl (isNum l d)) H
theorem ok_is_number (T : Top K mg) : FnOk P w K mg base CX0 1 T.is_number T.is_number_d ["thing", "least"] sp_num := by
  refine T.is_number_f.ok sc_is_number (fun vs H Q E h => ?_) (fun cdv A outer s H vs Q E hr h => ?_)
  · obtain ⟨F, v, d, l, rfl, _⟩ := h
    rfl
  obtain ⟨F, v, d, l, rfl, ha, q⟩ := h
  -- slots: 0 thing, 1 least
  refine ⟨_, (pss_one (ps_ret (pe_and (pe_callB call_isi (by rfl) T.isinstance_n (by decide +kernel) (pa_cons (pv 0) (pa_cons (pe_bltn (v := .ty "int") (u := .type "int") (by rfl) T.int_n (by decide +kernel) rfl) pa_nil))) (pe_and (pe_not (pe_callB call_isi (by rfl) T.isinstance_n (by decide +kernel) (pa_cons (pv 0) (pa_cons (pe_bltn (v := .ty "bool") (u := .type "bool") (by rfl) T.bool_n (by decide +kernel) rfl) pa_nil)))) (pe_one (pe_cmpR op_ge (pv 0) (pv 1) (nomark _))))))), ?_⟩
  refine ⟨_, rfl, _, _, _, _, _, rfl, .ty _, ha.ty, kit_ty (kit_int d), _, rfl, ite2 (fun e => ⟨_, rfl, _, _, _, _, _, rfl, .ty _, ha.ty, kit_ty (kit_bool d), _, rfl, _, rfl, ite2 (fun e2 => ?_) (fun e2 => ?_)⟩) (fun e => ?_)⟩
  · cases d with
    | int i =>
      cases ha
      exact ⟨_, rfl, _, rfl, _, _, rfl, rfl, q⟩
    | bool b => cases e2
    | _ => cases e
  · cases d with
    | int i => exact absurd rfl e2
    | bool b => exact q
    | _ => cases e
  · cases d with
    | int i => exact absurd rfl e
    | bool b => exact absurd rfl e
    | _ => exact q
theorem ok_is_path (T : Top K mg) {n : Nat} : FnOk P w K mg base CX0 2 T.is_path T.is_path_d ["thing"] (sp_b n isPth) := by
  refine T.is_path_f.ok sc_is_path (fun vs H Q E h => ?_) (fun cdv A outer s H vs Q E hr h => ?_)
  · obtain ⟨F, v, d, w, rfl, _⟩ := h
    rfl
  obtain ⟨F, v, d, w, rfl, ha, hg, hw, q⟩ := h
  -- slots: 0 thing, 1 index
  refine ⟨_, (pss_one (ps_ret (pe_and (pe_callB call_isi (by rfl) T.isinstance_n (by decide +kernel) (pa_cons (pv 0) (pa_cons (pe_bltn (v := .ty "tuple") (u := .type "tuple") (by rfl) T.tuple_n (by decide +kernel) rfl) pa_nil))) (pe_one (pe_callB (cr_all rfl) (by rfl) T.all_n (by decide +kernel) (pa_cons (pe_lc (own := [("index", 1)]) (g := (gName 1)) (tt := tYes) (by rfl) sc_is_path.nd (pi_tup (pv 0)) (blkOk_by (own := [("index", 1)]) (N := ["thing", "index"]) (sc := defScope s_is_path) (by decide +kernel)) (fun _ _ _ _ _ => (pg_name (i := 1) sc_is_path.nd rfl (.inl rfl))) (fun _ _ _ _ _ => pts_nil) (fun _ _ _ _ _ => (pe_call (ok_is_number T) (hr.mono (by decide)) rfl T.is_number_g T.is_number_k T.is_number_b1 T.is_number_v1 pass0 (pa_cons (pv 1) pa_nil)))) pa_nil)))))), ?_⟩
  refine ⟨_, rfl, _, _, _, _, _, rfl, .ty _, ha.ty, kit_ty (kit_tup d), _, rfl, ite2 (fun e => ?_) (fun e => ?_)⟩
  · obtain ⟨ds, rfl⟩ : ∃ ds, d = .tuple ds := by
      cases d with
      | tuple ds => exact ⟨ds, rfl⟩
      | _ => cases e
    obtain ⟨hl, _, _⟩ := hg.tuple_inv
    cases ha with
    | @tup p xs _ nF ep al =>
    have lx := al.length
    refine ⟨_, rfl, p, rfl, ⟨_, SqT.of ep⟩, fun D nD => ?_⟩
    refine lcA pit_t (j := 1) (xs := xs) (ds.map fun d => V.bl (isNum 0 d)) (by rw [List.length_map]; omega) (small1000 (by omega)) nD (fun H' s1 => SqT.of (s1 _ _ ep)) (fun i y z H' ey ez s1 Q' q' => ?_) (fun y => rfl) (fun H' s1 eD => ?_)
    · obtain ⟨dy, ed, ay⟩ := al.get ey
      rw [List.getElem?_map, ed] at ez
      cases ez
      exact ⟨_, rfl, F, y, dy, 0, rfl, ay.same s1, q' H' (Same.refl _)⟩
    · refine ⟨D, ds.map (isNum 0), rfl, SqL.of (by rw [eD, List.map_map]; rfl), ?_⟩
      have h := q H' s1
      have e : isPth (.tuple ds) = (ds.map (isNum 0)).all id := by
        simp only [isPth, List.all_map, Function.id_comp]
      rw [e] at h
      exact h
  · cases d with
    | tuple ds => exact absurd rfl e
    | _ => exact q H (Same.refl _)
theorem all_bad {α : Type} {ds : List α} {p : α → Bool} {i : Nat} {d : α} (h : ds[i]? = some d) (hp : p d = false) : ds.all p = false := by
  rw [Bool.eq_false_iff]
  intro z
  rw [List.all_eq_true] at z
  rw [z d (List.mem_of_getElem? h)] at hp
  cases hp
theorem take_all {α : Type} {ds : List α} {p : α → Bool} {i : Nat} {d : α} (h : ds[i]? = some d) (a : (ds.take i).all p = true) (hp : p d = true) : (ds.take (i + 1)).all p = true := by
  rw [List.take_add_one, h, List.all_append, a]
  simp [hp]
theorem ok_is_ink (T : Top K mg) {n : Nat} : FnOk P w K mg base CX0 3 T.is_ink T.is_ink_d ["thing"] (sp_b n (isInk progRes)) := by
  refine T.is_ink_f.ok sc_is_ink (fun vs H Q E h => ?_) (fun cdv A outer s H vs Q E hr h => ?_)
  · obtain ⟨F, v, d, w, rfl, _⟩ := h
    rfl
  obtain ⟨F, v, d, w, rfl, ha, hg, hw, q⟩ := h
  -- slots: 0 thing, 1 mark
  refine ⟨_, (pss_mid (ps_if (pt_not (pt_val (pe_callB call_isi (by rfl) T.isinstance_n (by decide +kernel) (pa_cons (pv 0) (pa_cons (pe_bltn (v := .ty "tuple") (u := .type "tuple") (by rfl) T.tuple_n (by decide +kernel) rfl) pa_nil))))) (pss_one (ps_ret pe_bl)) pss_nil)
      (pss_cons (ps_for PassesOwn.never rfl (pi_tup (pv 0)) (pg_name (i := 1) sc_is_ink.nd rfl (.inl rfl)) (pss_mid (ps_if (pt_mid (PW.pt (pw_or (pt_not (pt_val (pe_callB call_isi (by rfl) T.isinstance_n (by decide +kernel) (pa_cons (pv 1) (pa_cons (pe_bltn (v := .ty "tuple") (u := .type "tuple") (by rfl) T.tuple_n (by decide +kernel) rfl) pa_nil))))) (pw_or1 (pt_cmpR op_ne (pe_callB call_len_seq (by rfl) T.len_n (by decide +kernel) (pa_cons (pv 1) pa_nil)) pe_int (nomark _)))))) (pss_one (ps_ret pe_bl)) pss_nil)
      (pss_one (ps_if (pt_mid (PW.pt (pw_or (pt_not (pt_val (pe_call (ok_is_name (n := n - 2) T) (hr.mono (by decide)) rfl T.is_name_g T.is_name_k T.is_name_b .nil pass0 (pa_cons (pe_ix ix_tup (pv 1) pe_int (fun _ _ => rfl)) pa_nil)))) (pw_or (pt_not (pt_val (pe_call (ok_is_number T) (hr.mono (by decide)) rfl T.is_number_g T.is_number_k T.is_number_b1 T.is_number_v1 pass0 (pa_cons (pe_ix ix_tup (pv 1) pe_int (fun _ _ => rfl)) pa_nil)))) (pw_or1 (pt_not (pt_val (pe_call (ok_is_path (n := n - 2) T) (hr.mono (by decide)) rfl T.is_path_g T.is_path_k T.is_path_b .nil pass0 (pa_cons (pe_ix ix_tup (pv 1) pe_int (fun _ _ => rfl)) pa_nil))))))))) (pss_one (ps_ret pe_bl)) pss_nil))))
      (pss_one (ps_ret pe_bl)))), ?_⟩
  refine ⟨fun σ H' => σ = [some v, none] ∧ H = H' ∧ ∃ ds, d = .tuple ds, ?_, ?_⟩
  · refine ⟨_, rfl, _, _, _, _, _, rfl, .ty _, ha.ty, kit_ty (kit_tup d), _, rfl, ite2 (fun e => ?_) (fun e => ?_)⟩
    · have h := q H (Same.refl _)
      cases d with
      | tuple ds => cases e
      | _ => exact h
    · cases d with
      | tuple ds => exact ⟨rfl, rfl, ds, rfl⟩
      | _ => exact absurd rfl e
  rintro _ _ ⟨rfl, rfl, ds, rfl⟩
  obtain ⟨hl, _, hgs⟩ := hg.tuple_inv
  cases ha with
  | @tup p xs _ nF ep al =>
  have lx := al.length
  refine ⟨_, rfl, p, rfl, ⟨_, SqT.of ep⟩, for_tup (K := K) (a := p) (xs := xs) (fun i σ H' => ∃ y, σ = [some (.ref p), y] ∧ Same H H' ∧ (ds.take i).all (isMrk progRes) = true) ⟨none, rfl, Same.refl _, rfl⟩ ?_ ?_ ?_⟩
  · rintro i σ H' _ ⟨y, _, s1, _⟩
    exact SqT.of (s1 _ _ ep)
  · rintro i x σ H1 ex ⟨y, rfl, s1, hall⟩
    obtain ⟨dx, ed, ax⟩ := al.get ex
    have ax1 := ax.same s1
    have gx := hgs dx (List.mem_of_getElem? ed)
    have bad : isMrk progRes dx = false → ∀ H2, Same H1 H2 → Q (.bl false) H2 := fun hb H2 s2 => by
      have h := q H2 (s1.trans s2)
      have e : isInk progRes (.tuple ds) = false := all_bad ed hb
      rw [e] at h
      exact h
    refine go_name ?_
    refine ⟨fun σ H' => σ = [some (.ref p), some x] ∧ H1 = H' ∧ ∃ a b c, dx = .tuple [a, b, c], ?_, ?_⟩
    · refine ⟨fun b H' => H1 = H' ∧ (b = true → isMrk progRes dx = false) ∧ (b = false → ∃ a b c, dx = .tuple [a, b, c]), ?_, ?_⟩
      · refine ⟨_, rfl, _, _, _, _, _, rfl, .ty _, ax1.ty, kit_ty (kit_tup dx), _, rfl, ite2 (fun e => ?_) (fun e => ?_)⟩
        · refine ⟨rfl, fun _ => ?_, fun z => by cases z⟩
          cases dx with
          | tuple ds => cases e
          | _ => rfl
        obtain ⟨es, rfl⟩ : ∃ ds, dx = .tuple ds := by
          cases dx with
          | tuple ds => exact ⟨ds, rfl⟩
          | _ => exact absurd rfl e
        cases ax1 with
        | @tup px ys _ nF2 ep2 al2 =>
        have l2 := al2.length
        refine ⟨_, rfl, px, _, rfl, .inr (SqT.of ep2), rfl, _, rfl, rfl, fun z => ?_, fun z => ?_⟩
        · have z' : (ys.length : Int) ≠ 3 := fun y => by
            rw [y] at z
            cases z
          match es, l2 with
          | [], _ => rfl
          | [_], _ => rfl
          | [_, _], _ => rfl
          | [_, _, _], l2 => exact absurd (show (ys.length : Int) = 3 by rw [l2]; rfl) z'
          | _ :: _ :: _ :: _ :: _, _ => rfl
        · have z' : (ys.length : Int) = 3 := by
            by_cases y : (ys.length : Int) = 3
            · exact y
            · have : decide (V.int (ys.length : Int) = V.int 3) = false := decide_eq_false fun u => y (V.int.inj u)
              rw [this] at z
              cases z
          match es, l2 with
          | [], l2 => rw [l2] at z'; cases z'
          | [_], l2 => rw [l2] at z'; cases z'
          | [_, _], l2 => rw [l2] at z'; cases z'
          | [a, b, c], _ => exact ⟨a, b, c, rfl⟩
          | _ :: _ :: _ :: _ :: r, l2 =>
            rw [l2] at z'
            simp only [List.length_cons] at z'
            omega
      rintro b _ ⟨rfl, h1, h2⟩
      exact ite2 (fun e => bad (h1 e) _ (Same.refl _)) (fun e => ⟨rfl, rfl, h2 (Bool.eq_false_iff.mpr e)⟩)
    rintro _ _ ⟨rfl, rfl, a, b, c, rfl⟩
    obtain ⟨hl3, _, hg3⟩ := gx.tuple_inv
    cases ax1 with
    | @tup px ys _ nF2 ep2 al2 =>
    cases al2 with
    | @cons v1 r1 _ _ a1 al2 =>
    cases al2 with
    | @cons v2 r2 _ _ a2 al2 =>
    cases al2 with
    | @cons v3 r3 _ _ a3 al2 =>
    cases al2
    refine ⟨fun t H' => Same H1 H' ∧ t = !isMrk progRes (.tuple [a, b, c]), ?_, ?_⟩
    · refine ⟨_, rfl, px, _, 0, v1, rfl, rfl, SqT.of ep2, atI_nat (j := 0) rfl, F, v1, a, w, rfl, a1, (hg3 a (by simp)).mono (Nat.le_refl _) (by omega), hw, fun H2 s2 => ⟨_, rfl, ite2 (fun e => ?_) (fun e => ?_)⟩⟩
      · refine ⟨s2, ?_⟩
        have : isNm progRes a = false := by
          cases h : isNm progRes a with
          | false => rfl
          | true => rw [h] at e; cases e
        simp [isMrk, this]
      have e1 : isNm progRes a = true := by
        cases h : isNm progRes a with
        | true => rfl
        | false => rw [h] at e; exact absurd rfl e
      refine ⟨_, rfl, px, _, 1, v2, rfl, rfl, SqT.of (s2 _ _ ep2), atI_nat (j := 1) rfl, F, v2, b, 0, rfl, a2.same s2, _, rfl, ite2 (fun e => ?_) (fun e => ?_)⟩
      · refine ⟨s2, ?_⟩
        have : isNum 0 b = false := by
          cases h : isNum 0 b with
          | false => rfl
          | true => rw [h] at e; cases e
        simp [isMrk, this]
      have e2 : isNum 0 b = true := by
        cases h : isNum 0 b with
        | true => rfl
        | false => rw [h] at e; exact absurd rfl e
      refine ⟨_, rfl, px, _, 2, v3, rfl, rfl, SqT.of (s2 _ _ ep2), atI_nat (j := 2) rfl, F, v3, c, w, rfl, a3.same s2, (hg3 c (by simp)).mono (Nat.le_refl _) (by omega), hw, fun H3 s3 => ⟨_, rfl, s2.trans s3, ?_⟩⟩
      simp [isMrk, e1, e2]
    rintro t H2 ⟨s2, rfl⟩
    refine ite2 (fun e => bad ?_ H2 s2) (fun e => ⟨_, rfl, s1.trans s2, take_all ed hall ?_⟩)
    · cases h : isMrk progRes (.tuple [a, b, c]) with
      | false => rfl
      | true => rw [h] at e; cases e
    · cases h : isMrk progRes (.tuple [a, b, c]) with
      | true => rfl
      | false => rw [h] at e; exact absurd rfl e
  · rintro σ H' ⟨y, rfl, s1, hall⟩
    have h := q H' s1
    have e : isInk progRes (.tuple ds) = true := by
      rw [List.take_of_length_le (by omega)] at hall
      exact hall
    rw [e] at h
    exact h
end
end Sa

set_option Elab.async false
set_option linter.all false
set_option maxRecDepth 100000
set_option maxHeartbeats 4000000
namespace Sa
open PySem PySem.Spec PyProof.Rows L2
def atoms : List Str := ["int", "quote", "flag", "global", "ref", "name"]
def firstK (h : Str) (n : Nat) : Nat := if h = "fun" then 1 else if h = "use" then 2 else if atoms.contains h = true then n else 0
def geD (l : Int) : PyData → Bool
  | .int i => decide (l ≤ i)
  | _ => false
def leD (l : Int) : PyData → Bool
  | .int i => decide (i ≤ l)
  | _ => false
def plainP (h : Str) (ds : List PyData) : Bool :=
  if atoms.contains h = true then
    if ds.length = 1 then
      if h = "flag" then isBool (ds.getD 0 .none)
      else if (["quote", "global"] : List Str).contains h = true then isNm progRes (ds.getD 0 .none)
      else isInt (ds.getD 0 .none) && (!isBool (ds.getD 0 .none) && (decide (h = "int") || geD (if h = "ref" then 1 else 0) (ds.getD 0 .none)))
    else false
  else if h = "fun" then decide (ds.length = 2) && (isNum 0 (ds.getD 0 .none) && leD 4 (ds.getD 0 .none))
  else if h = "use" then decide (2 ≤ ds.length) && (isNm progRes (ds.getD 0 .none) && (isNum 0 (ds.getD 1 .none) && geD ((ds.length : Int) - 2) (ds.getD 1 .none)))
  else if progOne.contains h = true then decide (ds.length = 1)
  else if progTwo.contains h = true then decide (ds.length = 2)
  else if h = "if" then decide (ds.length = 3) else (decide (h ≠ "call") || decide (1 ≤ ds.length))
def valsP : List Str := progLit ++ (["fun", "use"] : List Str)
def mbv : PyData → Bool
  | .tuple [a, _, _] => (valsP.map PyData.str).any fun z => PyData.eqv z a
  | _ => false
def rInDT (K : PySem.W.Frag) : R2 := fun x y H Q => ∃ d ds, Dp K H x d ∧ Dp K H y (.tuple ds) ∧ SeqAt.shaped d = true ∧ SeqAt.shaped (.tuple ds) = true ∧ Q (.bl (ds.any fun z => PyData.eqv z d)) H
theorem op_inDT {X : Cx} (hu : X.A.units + 65 < cLine) : OpR X (compareOp .In) (rInDT X.K) := by
  intro pins s σ H x y v u Q I rx ry h
  obtain ⟨d, ds, hd, he, sd, se, q⟩ := h
  obtain ⟨as, r1⟩ := Dp.reads I d x v hd rx
  obtain ⟨bs, r2⟩ := Dp.reads I (.tuple ds) y u he ry
  exact SeqAt.in_tuple_reads r2 r1 (SeqAt.canLay_of_shaped se) (SeqAt.canLay_of_shaped sd) (room_in_shaped sd hu) ⟨.bl _, H, I, rfl, q⟩
theorem dpStrs {K : PySem.W.Frag} {H : Hp} : ∀ l : List Str, DpAll K H (l.map V.str) (l.map PyData.str)
  | [] => .nil
  | x :: l => .cons (.str x) (dpStrs l)
theorem not_of_ne {b : Bool} (h : ¬ (!b) = true) : b = true := by cases b <;> first | rfl | exact absurd rfl h
theorem not_of_eq {b : Bool} (h : (!b) = true) : b = false := by cases b <;> first | rfl | cases h
section
variable {P : Program} {w : World} {K : PySem.W.Frag} {mg : Str → Option Value} {base : Heap}
def sp_first : Sp := fun vs H Q _ => ∃ (F : AS) (h : Str) (v : V) (ds : List PyData), vs = [.str h, v] ∧ Da F H v (.tuple ds) ∧ ∀ H', Same H H' → Q (.int (firstK h ds.length)) H'
theorem ok_first_kid (T : Top K mg) : FnOk P w K mg base CX0 1 T.first_kid T.first_kid_d ["head", "items"] sp_first := by
  refine T.first_kid_f.ok sc_first_kid (fun vs H Q E h => ?_) (fun cdv A outer s H vs Q E hr h => ?_)
  · obtain ⟨F, h, v, ds, rfl, _⟩ := h
    rfl
  obtain ⟨F, h, v, ds, rfl, ha, q⟩ := h
  -- slots: 0 head, 1 items
  refine ⟨_, (pss_cons (ps_if (pt_cmpR op_eq (pv 0) pe_str (nomark _)) (pss_one (ps_ret pe_int)) pss_nil)
      (pss_cons (ps_if (pt_cmpR op_eq (pv 0) pe_str (nomark _)) (pss_one (ps_ret pe_int)) pss_nil)
      (pss_one (ps_ret (pe_ifExp (pt_cmpR op_in_seq (pv 0) (pe_tup (pa_cons pe_str (pa_cons pe_str (pa_cons pe_str (pa_cons pe_str (pa_cons pe_str (pa_cons pe_str pa_nil))))))) (by rfl)) (pe_callB call_len_seq (by rfl) T.len_n (by decide +kernel) (pa_cons (pv 1) pa_nil)) pe_int))))), ?_⟩
  unfold firstK at q
  refine ⟨_, rfl, rfl, _, rfl, ite2 (fun e => ?_) (fun e => ?_)⟩
  · rw [if_pos (V.str.inj (of_decide_eq_true e))] at q
    exact q H (Same.refl _)
  rw [if_neg (fun z => e (decide_eq_true (congrArg V.str z)))] at q
  refine ⟨_, rfl, rfl, _, rfl, ite2 (fun e => ?_) (fun e => ?_)⟩
  · rw [if_pos (V.str.inj (of_decide_eq_true e))] at q
    exact q H (Same.refl _)
  rw [if_neg (fun z => e (decide_eq_true (congrArg V.str z)))] at q
  refine ⟨_, rfl, by decide, fun p np => ⟨p, _, rfl, .inr (SqT.of upd_same), rfl, by decide, _, rfl, ite2 (fun e => ?_) (fun e => ?_)⟩⟩
  · have e' : atoms.contains h = true := by rw [← inV_str]; exact e
    rw [if_pos e'] at q
    cases ha with
    | @tup px xs _ nF ep al =>
    refine ⟨_, rfl, px, xs, rfl, .inr (SqT.of (same_upd np _ _ ep)), ?_⟩
    rw [al.length]
    exact q _ (same_upd np)
  · have e' : ¬ atoms.contains h = true := by rw [← inV_str]; exact e
    rw [if_neg e'] at q
    exact q _ (same_upd np)
def sp_hp (n : Nat) : Sp := fun vs H Q _ => ∃ (F : AS) (h : Str) (v : V) (ds : List PyData) (w : Nat), vs = [.str h, v] ∧ Da F H v (.tuple ds) ∧ Gn w n (.tuple ds) ∧ w ≤ 1000 ∧ ∀ H', Same H H' → Q (.bl (plainP h ds)) H'
theorem ok_has_plain_items (T : Top K mg) {n : Nat} : FnOk P w K mg base CX0 2 T.has_plain_items T.has_plain_items_d ["head", "items"] (sp_hp n) := by
  refine T.has_plain_items_f.ok sc_has_plain_items (fun vs H Q E h => ?_) (fun cdv A outer s H vs Q E hr h => ?_)
  · obtain ⟨F, h, v, ds, w, rfl, _⟩ := h
    rfl
  obtain ⟨F, h, v, ds, w, rfl, ha, hg, hw, q⟩ := h
  obtain ⟨hl, _, hgs⟩ := hg.tuple_inv
  -- slots: 0 head, 1 items
  refine ⟨_, (pss_cons (ps_if (pt_cmpR op_in_seq (pv 0) (pe_tup (pa_cons pe_str (pa_cons pe_str (pa_cons pe_str (pa_cons pe_str (pa_cons pe_str (pa_cons pe_str pa_nil))))))) (by rfl)) (pss_cons (ps_if (pt_cmpR op_ne (pe_callB call_len_seq (by rfl) T.len_n (by decide +kernel) (pa_cons (pv 1) pa_nil)) pe_int (nomark _)) (pss_one (ps_ret pe_bl)) pss_nil)
      (pss_cons (ps_if (pt_cmpR op_eq (pv 0) pe_str (nomark _)) (pss_one (ps_ret (pe_callB call_isi (by rfl) T.isinstance_n (by decide +kernel) (pa_cons (pe_ix ix_tup (pv 1) pe_int (fun _ _ => rfl)) (pa_cons (pe_bltn (v := .ty "bool") (u := .type "bool") (by rfl) T.bool_n (by decide +kernel) rfl) pa_nil))))) pss_nil)
      (pss_cons (ps_if (pt_cmpR op_in_seq (pv 0) (pe_tup (pa_cons pe_str (pa_cons pe_str pa_nil))) (by rfl)) (pss_one (ps_ret (pe_call (ok_is_name (n := n - 1) T) (hr.mono (by decide)) rfl T.is_name_g T.is_name_k T.is_name_b .nil pass0 (pa_cons (pe_ix ix_tup (pv 1) pe_int (fun _ _ => rfl)) pa_nil)))) pss_nil)
      (pss_one (ps_ret (pe_and (pe_callB call_isi (by rfl) T.isinstance_n (by decide +kernel) (pa_cons (pe_ix ix_tup (pv 1) pe_int (fun _ _ => rfl)) (pa_cons (pe_bltn (v := .ty "int") (u := .type "int") (by rfl) T.int_n (by decide +kernel) rfl) pa_nil))) (pe_and (pe_not (pe_callB call_isi (by rfl) T.isinstance_n (by decide +kernel) (pa_cons (pe_ix ix_tup (pv 1) pe_int (fun _ _ => rfl)) (pa_cons (pe_bltn (v := .ty "bool") (u := .type "bool") (by rfl) T.bool_n (by decide +kernel) rfl) pa_nil)))) (pe_one (pe_or (pe_cmpR op_eq (pv 0) pe_str (nomark _)) (pe_one (pe_cmpR op_ge (pe_ix ix_tup (pv 1) pe_int (fun _ _ => rfl)) (pe_callTy call_int1 (by rfl) T.int_n (by decide +kernel) (pa_cons (pe_cmpR op_eq (pv 0) pe_str (nomark _)) pa_nil)) (nomark _)))))))))))) pss_nil)
      (pss_cons (ps_if (pt_cmpR op_eq (pv 0) pe_str (nomark _)) (pss_one (ps_ret (pe_and (pe_cmpR op_eq (pe_callB call_len_seq (by rfl) T.len_n (by decide +kernel) (pa_cons (pv 1) pa_nil)) pe_int (nomark _)) (pe_and (pe_call (ok_is_number T) (hr.mono (by decide)) rfl T.is_number_g T.is_number_k T.is_number_b1 T.is_number_v1 pass0 (pa_cons (pe_ix ix_tup (pv 1) pe_int (fun _ _ => rfl)) pa_nil)) (pe_one (pe_cmpR op_le (pe_ix ix_tup (pv 1) pe_int (fun _ _ => rfl)) pe_int (nomark _))))))) pss_nil)
      (pss_cons (ps_if (pt_cmpR op_eq (pv 0) pe_str (nomark _)) (pss_one (ps_ret (pe_and (pe_cmpR op_ge (pe_callB call_len_seq (by rfl) T.len_n (by decide +kernel) (pa_cons (pv 1) pa_nil)) pe_int (nomark _)) (pe_and (pe_call (ok_is_name (n := n - 1) T) (hr.mono (by decide)) rfl T.is_name_g T.is_name_k T.is_name_b .nil pass0 (pa_cons (pe_ix ix_tup (pv 1) pe_int (fun _ _ => rfl)) pa_nil)) (pe_and (pe_call (ok_is_number T) (hr.mono (by decide)) rfl T.is_number_g T.is_number_k T.is_number_b1 T.is_number_v1 pass0 (pa_cons (pe_ix ix_tup (pv 1) pe_int (fun _ _ => rfl)) pa_nil)) (pe_one (pe_cmpR op_le (pe_op op_sub (pe_callB call_len_seq (by rfl) T.len_n (by decide +kernel) (pa_cons (pv 1) pa_nil)) pe_int) (pe_ix ix_tup (pv 1) pe_int (fun _ _ => rfl)) (nomark _)))))))) pss_nil)
      (pss_cons (ps_if (pt_cmpR op_in_seq (pv 0) (pe_glob (v := .ref T.ONE) (by rfl) T.ONE_g rfl) (by rfl)) (pss_one (ps_ret (pe_cmpR op_eq (pe_callB call_len_seq (by rfl) T.len_n (by decide +kernel) (pa_cons (pv 1) pa_nil)) pe_int (nomark _)))) pss_nil)
      (pss_cons (ps_if (pt_cmpR op_in_seq (pv 0) (pe_glob (v := .ref T.TWO) (by rfl) T.TWO_g rfl) (by rfl)) (pss_one (ps_ret (pe_cmpR op_eq (pe_callB call_len_seq (by rfl) T.len_n (by decide +kernel) (pa_cons (pv 1) pa_nil)) pe_int (nomark _)))) pss_nil)
      (pss_one (ps_ret (pe_ifExp (pt_cmpR op_eq (pv 0) pe_str (nomark _)) (pe_cmpR op_eq (pe_callB call_len_seq (by rfl) T.len_n (by decide +kernel) (pa_cons (pv 1) pa_nil)) pe_int (nomark _)) (pe_or (pe_cmpR op_ne (pv 0) pe_str (nomark _)) (pe_one (pe_cmpR op_ge (pe_callB call_len_seq (by rfl) T.len_n (by decide +kernel) (pa_cons (pv 1) pa_nil)) pe_int (nomark _)))))))))))), ?_⟩
  have ha0 := ha
  cases ha with
  | @tup px xs _ nF ep al =>
  have lx := al.length
  unfold plainP at q
  refine ⟨_, rfl, by decide, fun p np => ⟨p, _, rfl, .inr (SqT.of upd_same), rfl, by decide, _, rfl, ite2 (fun e => ?_) (fun e => ?_)⟩⟩
  · have e' : atoms.contains h = true := by rw [← inV_str]; exact e
    rw [if_pos e'] at q
    have s1 := same_upd (o := .tup [.str "int", .str "quote", .str "flag", .str "global", .str "ref", .str "name"]) np
    refine ⟨_, rfl, px, xs, rfl, .inr (SqT.of (s1 _ _ ep)), rfl, _, rfl, ite2 (fun e => ?_) (fun e => ?_)⟩
    · have : ¬ ds.length = 1 := fun z => by
        rw [show (xs.length : Int) = 1 by omega] at e
        cases e
      rw [if_neg this] at q
      exact q _ s1
    have l1 : ds.length = 1 := by
      have z := of_decide_eq_true (not_of_ne e)
      have z' := V.int.inj z
      omega
    rw [if_pos l1] at q
    match ds, xs, al, l1 with
    | [d0], [v0], al, _ =>
    cases al with
    | cons a0 _ =>
    have g0 := hgs d0 (by simp)
    change ∀ H', Same H H' → Q (.bl (if h = "flag" then isBool d0 else if (["quote", "global"] : List Str).contains h = true then isNm progRes d0 else isInt d0 && (!isBool d0 && (decide (h = "int") || geD (if h = "ref" then 1 else 0) d0)))) H' at q
    refine ⟨_, rfl, rfl, _, rfl, ite2 (fun e => ?_) (fun e => ?_)⟩
    · rw [if_pos (V.str.inj (of_decide_eq_true e))] at q
      exact ⟨_, rfl, px, _, 0, v0, rfl, rfl, SqT.of (s1 _ _ ep), atI_nat (j := 0) rfl, _, _, _, _, _, rfl, .ty _, (a0.same s1).ty, kit_ty (kit_bool d0), q _ s1⟩
    rw [if_neg (fun z => e (decide_eq_true (congrArg V.str z)))] at q
    refine ⟨_, rfl, by decide, fun p2 np2 => ⟨p2, _, rfl, .inr (SqT.of upd_same), rfl, by decide, _, rfl, ite2 (fun e => ?_) (fun e => ?_)⟩⟩
    · have e' : (["quote", "global"] : List Str).contains h = true := by rw [← inV_str]; exact e
      rw [if_pos e'] at q
      have s2 := s1.trans (same_upd (o := .tup [.str "quote", .str "global"]) np2)
      exact ⟨_, rfl, px, _, 0, v0, rfl, rfl, SqT.of (s2 _ _ ep), atI_nat (j := 0) rfl, F, v0, d0, w, rfl, a0.same s2, g0, hw, fun H' s3 => q H' (s2.trans s3)⟩
    have e' : ¬ (["quote", "global"] : List Str).contains h = true := by rw [← inV_str]; exact e
    rw [if_neg e'] at q
    have s2 := s1.trans (same_upd (o := .tup [.str "quote", .str "global"]) np2)
    refine ⟨_, rfl, px, _, 0, v0, rfl, rfl, SqT.of (s2 _ _ ep), atI_nat (j := 0) rfl, _, _, _, _, _, rfl, .ty _, (a0.same s2).ty, kit_ty (kit_int d0), _, rfl, ite2 (fun e1 => ?_) (fun e1 => ?_)⟩
    · rw [e1, Bool.true_and] at q
      refine ⟨_, rfl, px, _, 0, v0, rfl, rfl, SqT.of (s2 _ _ ep), atI_nat (j := 0) rfl, _, _, _, _, _, rfl, .ty _, (a0.same s2).ty, kit_ty (kit_bool d0), _, rfl, _, rfl, ite2 (fun e2 => ?_) (fun e2 => ?_)⟩
      · rw [e2, Bool.true_and] at q
        obtain ⟨i0, rfl⟩ : ∃ i, d0 = .int i := by
          cases d0 with
          | int i => exact ⟨i, rfl⟩
          | bool b => cases e2
          | _ => cases e1
        cases a0
        refine ⟨_, rfl, rfl, _, rfl, ite2 (fun e3 => ?_) (fun e3 => ?_)⟩
        · rw [decide_eq_true (V.str.inj (of_decide_eq_true e3)), Bool.true_or] at q
          exact q _ s2
        · rw [decide_eq_false (fun z => e3 (decide_eq_true (congrArg V.str z))), Bool.false_or] at q
          refine ⟨_, rfl, px, _, 0, .int i0, rfl, rfl, SqT.of (s2 _ _ ep), atI_nat (j := 0) rfl, _, rfl, rfl, .inr ⟨_, rfl, _, _, rfl, rfl, ?_⟩⟩
          have q2 := q _ s2
          have ez : (if decide (V.str h = V.str "ref") = true then (1 : Int) else 0) = (if h = "ref" then 1 else 0) := by
            by_cases z : h = "ref"
            · rw [if_pos z, if_pos (decide_eq_true (congrArg V.str z))]
            · rw [if_neg z, if_neg (fun y => z (V.str.inj (of_decide_eq_true y)))]
          rw [← ez] at q2
          exact q2
      · rw [Bool.eq_false_iff.mpr e2, Bool.false_and] at q
        exact q _ s2
    · rw [Bool.eq_false_iff.mpr e1, Bool.false_and] at q
      exact q _ s2
  · have e' : ¬ atoms.contains h = true := by rw [← inV_str]; exact e
    rw [if_neg e'] at q
    have s1 := same_upd (o := .tup [.str "int", .str "quote", .str "flag", .str "global", .str "ref", .str "name"]) np
    have ep1 := s1 _ _ ep
    have lenI : ∀ k : Nat, decide (V.int (xs.length : Int) = V.int (k : Int)) = decide (ds.length = k) := fun k => by
      by_cases z : ds.length = k
      · rw [decide_eq_true z, decide_eq_true (congrArg V.int (by omega))]
      · rw [decide_eq_false z, decide_eq_false fun y => z (by have := V.int.inj y; omega)]
    refine ⟨_, rfl, rfl, _, rfl, ite2 (fun e => ?_) (fun e => ?_)⟩
    · rw [if_pos (V.str.inj (of_decide_eq_true e))] at q
      refine ⟨_, rfl, px, xs, rfl, .inr (SqT.of ep1), rfl, _, rfl, ite2 (fun e2 => ?_) (fun e2 => ?_)⟩
      · have l2 : ds.length = 2 := of_decide_eq_true ((lenI 2).symm.trans e2)
        rw [decide_eq_true l2, Bool.true_and] at q
        match ds, xs, al, l2 with
        | [d0, d1], [v0, v1], al, _ =>
        cases al with
        | cons a0 _ =>
        change ∀ H', Same H H' → Q (.bl (isNum 0 d0 && leD 4 d0)) H' at q
        refine ⟨_, rfl, px, _, 0, v0, rfl, rfl, SqT.of ep1, atI_nat (j := 0) rfl, F, v0, d0, 0, rfl, a0.same s1, _, rfl, ite2 (fun e3 => ?_) (fun e3 => ?_)⟩
        · rw [e3, Bool.true_and] at q
          obtain ⟨i0, rfl⟩ : ∃ i, d0 = .int i := by
            cases d0 with
            | int i => exact ⟨i, rfl⟩
            | _ => cases e3
          cases a0
          exact ⟨_, rfl, px, _, 0, .int i0, rfl, rfl, SqT.of ep1, atI_nat (j := 0) rfl, _, _, rfl, rfl, q _ s1⟩
        · rw [Bool.eq_false_iff.mpr e3, Bool.false_and] at q
          exact q _ s1
      · have l2 : ¬ ds.length = 2 := fun z => e2 ((lenI 2).trans (decide_eq_true z))
        rw [decide_eq_false l2, Bool.false_and] at q
        exact q _ s1
    rw [if_neg (fun z => e (decide_eq_true (congrArg V.str z)))] at q
    refine ⟨_, rfl, rfl, _, rfl, ite2 (fun e => ?_) (fun e => ?_)⟩
    · rw [if_pos (V.str.inj (of_decide_eq_true e))] at q
      refine ⟨_, rfl, px, xs, rfl, .inr (SqT.of ep1), _, _, rfl, rfl, _, rfl, ite2 (fun e2 => ?_) (fun e2 => ?_)⟩
      · have l2 : 2 ≤ ds.length := by
          have := of_decide_eq_true e2
          omega
        rw [decide_eq_true l2, Bool.true_and] at q
        match ds, xs, al, l2 with
        | d0 :: d1 :: dr, v0 :: v1 :: vr, al, _ =>
        cases al with
        | cons a0 al =>
        cases al with
        | cons a1 al =>
        change ∀ H', Same H H' → Q (.bl (isNm progRes d0 && (isNum 0 d1 && geD (((d0 :: d1 :: dr).length : Int) - 2) d1))) H' at q
        refine ⟨_, rfl, px, _, 0, v0, rfl, rfl, SqT.of ep1, atI_nat (j := 0) rfl, F, v0, d0, w, rfl, a0.same s1, hgs d0 (by simp), hw, fun H2 s2 => ⟨_, rfl, ite2 (fun e3 => ?_) (fun e3 => ?_)⟩⟩
        · rw [e3, Bool.true_and] at q
          have s12 := s1.trans s2
          refine ⟨_, rfl, px, _, 1, v1, rfl, rfl, SqT.of (s2 _ _ ep1), atI_nat (j := 1) rfl, F, v1, d1, 0, rfl, a1.same s12, _, rfl, ite2 (fun e4 => ?_) (fun e4 => ?_)⟩
          · rw [e4, Bool.true_and] at q
            obtain ⟨i1, rfl⟩ : ∃ i, d1 = .int i := by
              cases d1 with
              | int i => exact ⟨i, rfl⟩
              | _ => cases e4
            cases a1
            refine ⟨_, rfl, px, _, rfl, .inr (SqT.of (s2 _ _ ep1)), _, _, rfl, rfl, _, rfl, px, _, 1, .int i1, rfl, rfl, SqT.of (s2 _ _ ep1), atI_nat (j := 1) rfl, _, _, rfl, rfl, ?_⟩
            have q2 := q _ s12
            rw [show ((d0 :: PyData.int i1 :: dr).length : Int) = (((v0 :: V.int i1 :: vr).length : Nat) : Int) by rw [lx]] at q2
            exact q2
          · rw [Bool.eq_false_iff.mpr e4, Bool.false_and] at q
            exact q _ s12
        · rw [Bool.eq_false_iff.mpr e3, Bool.false_and] at q
          exact q _ (s1.trans s2)
      · have l2 : ¬ 2 ≤ ds.length := fun z => e2 (decide_eq_true (by omega))
        rw [decide_eq_false l2, Bool.false_and] at q
        exact q _ s1
    rw [if_neg (fun z => e (decide_eq_true (congrArg V.str z)))] at q
    refine ⟨_, rfl, _, _, rfl, .inr (T.ONE_s _), rfl, flat_strs _, _, rfl, ite2 (fun e => ?_) (fun e => ?_)⟩
    · have e' : progOne.contains h = true := by rw [← inV_str]; exact e
      rw [if_pos e', ← lenI] at q
      exact ⟨_, rfl, px, xs, rfl, .inr (SqT.of ep1), rfl, q _ s1⟩
    rw [if_neg (show ¬ progOne.contains h = true by rw [← inV_str]; exact e)] at q
    refine ⟨_, rfl, _, _, rfl, .inr (T.TWO_s _), rfl, flat_strs _, _, rfl, ite2 (fun e => ?_) (fun e => ?_)⟩
    · have e' : progTwo.contains h = true := by rw [← inV_str]; exact e
      rw [if_pos e', ← lenI] at q
      exact ⟨_, rfl, px, xs, rfl, .inr (SqT.of ep1), rfl, q _ s1⟩
    rw [if_neg (show ¬ progTwo.contains h = true by rw [← inV_str]; exact e)] at q
    refine ⟨_, rfl, rfl, _, rfl, ite2 (fun e => ?_) (fun e => ?_)⟩
    · rw [if_pos (V.str.inj (of_decide_eq_true e)), ← lenI] at q
      exact ⟨_, rfl, px, xs, rfl, .inr (SqT.of ep1), rfl, q _ s1⟩
    rw [if_neg (fun z => e (decide_eq_true (congrArg V.str z)))] at q
    refine ⟨_, rfl, rfl, _, rfl, ite2 (fun e => ?_) (fun e => ?_)⟩
    · have e' : h ≠ "call" := fun z => by
        rw [z] at e
        revert e
        decide
      rw [decide_eq_true e', Bool.true_or] at q
      exact q _ s1
    · have e' : ¬ h ≠ "call" := fun z => e (by
        show (!decide (V.str h = V.str "call")) = true
        rw [decide_eq_false fun y => z (V.str.inj y)]
        rfl)
      rw [decide_eq_false e', Bool.false_or] at q
      refine ⟨_, rfl, px, xs, rfl, .inr (SqT.of ep1), _, _, rfl, rfl, ?_⟩
      have q2 := q _ s1
      rw [show decide (1 ≤ ds.length) = decide ((1 : Int) ≤ (xs.length : Int)) by
        by_cases z : 1 ≤ ds.length
        · rw [decide_eq_true z, decide_eq_true (by omega)]
        · rw [decide_eq_false z, decide_eq_false (by omega)]] at q2
      exact q2
end
end Sa

set_option Elab.async false
set_option linter.all false
set_option maxRecDepth 100000
set_option maxHeartbeats 4000000
namespace Sa
open PySem PySem.Spec PyProof.Rows L2
theorem tup_of {d : PyData} (e : isTup d = true) : ∃ ds, d = .tuple ds := by
  cases d with
  | tuple ds => exact ⟨ds, rfl⟩
  | _ => cases e
theorem str_of {d : PyData} (e : isStr d = true) : ∃ x, d = .str x := by
  cases d with
  | str x => exact ⟨x, rfl⟩
  | _ => cases e
theorem three_of {ds : List PyData} (h : ds.length = 3) : ∃ a b c, ds = [a, b, c] := by
  match ds, h with
  | [a, b, c], _ => exact ⟨a, b, c, rfl⟩
theorem Da3 {F : AS} {H : Hp} {v : V} {a b c : PyData} (h : Da F H v (.tuple [a, b, c])) : ∃ p x y z, v = .ref p ∧ ¬ F p ∧ H p = some (.tup [x, y, z]) ∧ Da F H x a ∧ Da F H y b ∧ Da F H z c := by
  cases h with
  | @tup p xs _ n e al =>
  cases al with
  | @cons x _ _ _ a1 al =>
  cases al with
  | @cons y _ _ _ a2 al =>
  cases al with
  | @cons z _ _ _ a3 al =>
  cases al
  exact ⟨p, x, y, z, rfl, n, e, a1, a2, a3⟩
theorem Gn3 {w n : Nat} {a b c : PyData} (h : Gn w n (.tuple [a, b, c])) : 0 < n ∧ Gn w (n - 1) a ∧ Gn w (n - 1) b ∧ Gn w (n - 1) c := by
  obtain ⟨_, h0, hs⟩ := h.tuple_inv
  exact ⟨h0, hs a (by simp), hs b (by simp), hs c (by simp)⟩
theorem lenI {xs : List V} {n k : Nat} (h : xs.length = n) : decide (V.int (xs.length : Int) = V.int (k : Int)) = decide (n = k) := by
  by_cases z : n = k
  · rw [decide_eq_true z, decide_eq_true (congrArg V.int (by omega))]
  · rw [decide_eq_false z, decide_eq_false fun y => z (by have := V.int.inj y; omega)]
section
variable {P : Program} {w : World} {K : PySem.W.Frag} {mg : Str → Option Value} {base : Heap}
theorem mbv_len {ds : List PyData} (h : ¬ ds.length = 3) : mbv (.tuple ds) = false := by
  match ds, h with
  | [], _ => rfl
  | [_], _ => rfl
  | [_, _], _ => rfl
  | [_, _, _], h => exact absurd rfl h
  | _ :: _ :: _ :: _ :: _, _ => rfl
theorem shp_vals : SeqAt.shaped (.tuple (valsP.map PyData.str)) = true := by decide +kernel
theorem ok_may_be_value (T : Top K mg) {n : Nat} (hn : n ≤ 60) : FnOk P w K mg base CX0 1 T.may_be_value T.may_be_value_d ["thing"] (sp_b n mbv) := by
  refine T.may_be_value_f.ok sc_may_be_value (fun vs H Q E h => ?_) (fun cdv A outer s H vs Q E hr h => ?_)
  · obtain ⟨F, v, d, w, rfl, _⟩ := h
    rfl
  obtain ⟨F, v, d, w, rfl, ha, hg, hw, q⟩ := h
  have hu : (A.deeper (envOfC "may_be_value" (defScope s_may_be_value) s.heap.objs.size T.may_be_value cdv)).units + 65 < cLine := by
    have := hr.un
    omega
  -- slots: 0 thing
  refine ⟨_, (pss_one (ps_ret (pe_and (pe_callB call_isi (by rfl) T.isinstance_n (by decide +kernel) (pa_cons (pv 0) (pa_cons (pe_bltn (v := .ty "tuple") (u := .type "tuple") (by rfl) T.tuple_n (by decide +kernel) rfl) pa_nil))) (pe_and (pe_cmpR op_eq (pe_callB call_len_seq (by rfl) T.len_n (by decide +kernel) (pa_cons (pv 0) pa_nil)) pe_int (nomark _)) (pe_one (pe_cmpR (op_inDT hu) (pe_ix ix_tup (pv 0) pe_int (fun _ _ => rfl)) (pe_op op_catA (pe_glob (v := .ref T.LITERALS) (by rfl) T.LITERALS_g rfl) (pe_tup (pa_cons pe_str (pa_cons pe_str pa_nil)))) (by rfl))))))), ?_⟩
  refine ⟨_, rfl, _, _, _, _, _, rfl, .ty _, ha.ty, kit_ty (kit_tup d), _, rfl, ite2 (fun e => ?_) (fun e => ?_)⟩
  · obtain ⟨ds, rfl⟩ := tup_of e
    have ha0 := ha
    cases ha with
    | @tup px xs _ nF ep al =>
    have lx := al.length
    refine ⟨_, rfl, px, xs, rfl, .inr (SqT.of ep), rfl, _, rfl, ite2 (fun e2 => ?_) (fun e2 => ?_)⟩
    · have l3 : ds.length = 3 := of_decide_eq_true ((lenI (k := 3) lx).symm.trans e2)
      obtain ⟨a, b, c, rfl⟩ := three_of l3
      obtain ⟨p, x, y, z, e0, _, e1, a1, a2, a3⟩ := Da3 ha0
      cases e0
      rw [ep] at e1
      cases e1
      obtain ⟨_, ga, _, _⟩ := Gn3 hg
      refine ⟨_, rfl, px, _, 0, x, rfl, rfl, SqT.of ep, atI_nat (j := 0) rfl, by decide, fun p np => ?_⟩
      refine ⟨T.LITERALS, p, _, _, rfl, rfl, T.LITERALS_s _, SqT.of upd_same, by decide, (fun z => by cases z), (fun _ z => by cases z), fun _ _ p2 np2 => ?_⟩
      have s2 := ((same_upd np).trans (same_upd (o := .tup (progLit.map V.str ++ [V.str "fun", V.str "use"])) np2))
      refine ⟨a, _, (a1.same s2).dp _ _, .tup (SqT.of upd_same) (dpStrs valsP), ga.shaped (by omega), shp_vals, ?_⟩
      exact q _ s2
    · have l3 : ¬ ds.length = 3 := fun z => e2 ((lenI (k := 3) lx).trans (decide_eq_true z))
      have h := q H (Same.refl _)
      rw [mbv_len l3] at h
      exact h
  · cases d with
    | tuple ds => exact absurd rfl e
    | _ => exact q H (Same.refl _)
/-! ### the tree's mirror -/
def isUnit : PyData → Bool
  | .tuple [] => true
  | _ => false
def nodeP : PyData → Option (List PyData)
  | .tuple [.str h, ik, .tuple ds] =>
    if progHeads.contains h && isInk progRes ik && !(progLit.contains h && !isUnit ik) && plainP h ds && !(decide (h = "made") && !ds.all mbv) then some (ds.drop (firstK h ds.length)) else none
  | _ => none
def treeP : Nat → PyData → Bool
  | 0, _ => false
  | n + 1, d => match nodeP d with
    | none => false
    | some ks => ks.all (treeP n)
theorem nodeP_kid {d : PyData} {ks : List PyData} (h : nodeP d = some ks) : ∃ hd ik ds, d = .tuple [.str hd, ik, .tuple ds] ∧ ks = ds.drop (firstK hd ds.length) := by
  unfold nodeP at h
  split at h
  · rename_i hd ik ds
    split at h
    · exact ⟨hd, ik, ds, rfl, (Option.some.inj h).symm⟩
    · cases h
  · cases h
theorem depth3 (a b : PyData) (ds : List PyData) : PyData.depthAll ds + 2 ≤ (PyData.tuple [a, b, .tuple ds]).depth := by
  simp only [PyData.depth, PyData.depthAll]
  omega
theorem kid_depth {d : PyData} {ks : List PyData} (h : nodeP d = some ks) : ∀ k ∈ ks, k.depth + 2 ≤ d.depth := by
  obtain ⟨hd, ik, ds, rfl, rfl⟩ := nodeP_kid h
  intro k hk
  have h1 := depth3 (.str hd) ik ds
  have h2 := depthAll_iff.mp (Nat.le_refl (PyData.depthAll ds)) k (List.mem_of_mem_drop hk)
  omega
theorem all_congr {α : Type} {p q : α → Bool} : ∀ {l : List α}, (∀ x ∈ l, p x = q x) → l.all p = l.all q
  | [], _ => rfl
  | x :: l, h => by
    rw [List.all_cons, List.all_cons, h x (List.mem_cons_self ..), all_congr fun y hy => h y (List.mem_cons_of_mem _ hy)]
theorem treeP_fuel : ∀ (n m : Nat) (d : PyData), d.depth < n → d.depth < m → treeP n d = treeP m d
  | 0, _, d, h, _ => by omega
  | _, 0, d, _, h => by omega
  | n + 1, m + 1, d, h1, h2 => by
    unfold treeP
    cases e : nodeP d with
    | none => rfl
    | some ks =>
      refine all_congr fun k hk => ?_
      have := kid_depth e k hk
      exact treeP_fuel n m k (by omega) (by omega)
def isTreeP (d : PyData) : Bool := treeP (d.depth + 1) d
theorem isTreeP_eq (d : PyData) : isTreeP d = match nodeP d with | none => false | some ks => ks.all isTreeP := by
  unfold isTreeP
  rw [treeP]
  cases e : nodeP d with
  | none => rfl
  | some ks =>
    refine all_congr fun k hk => ?_
    have := kid_depth e k hk
    exact treeP_fuel _ _ k (by omega) (by omega)
/-! ### sizes -/
mutual
def sz : PyData → Nat
  | .tuple xs | .list xs => szAll xs + 1
  | _ => 1
def szAll : List PyData → Nat
  | [] => 0
  | x :: xs => sz x + szAll xs
end
theorem szAll_append : ∀ a b : List PyData, szAll (a ++ b) = szAll a + szAll b
  | [], b => by simp [szAll]
  | x :: a, b => by
    rw [List.cons_append, szAll, szAll, szAll_append a b]
    omega
theorem szAll_drop : ∀ (k : Nat) (a : List PyData), szAll (a.drop k) ≤ szAll a
  | 0, a => Nat.le_refl _
  | k + 1, [] => Nat.le_refl _
  | k + 1, x :: a => by
    rw [List.drop_succ_cons, szAll]
    have := szAll_drop k a
    omega
theorem kid_sz {d : PyData} {ks : List PyData} (h : nodeP d = some ks) : szAll ks < sz d := by
  obtain ⟨hd, ik, ds, rfl, rfl⟩ := nodeP_kid h
  have := szAll_drop (firstK hd ds.length) ds
  simp only [sz, szAll]
  omega
/-- the stack, its top first: at most w of each depth -/
inductive Seg (w n : Nat) : Nat → List PyData → Prop
  | nil {k : Nat} : Seg w n k []
  | app {k : Nat} {A B : List PyData} : k ≤ n → A.length ≤ w → (∀ d ∈ A, d.depth ≤ k) → Seg w n (k + 1) B → Seg w n k (A ++ B)
theorem Seg.len {w n : Nat} : ∀ {k : Nat} {L : List PyData}, Seg w n k L → L.length ≤ w * (n + 1 - k)
  | _, _, .nil => Nat.zero_le _
  | k, _, .app hk hA _ hB => by
    have ih := hB.len
    rw [List.length_append]
    have e : n + 1 - k = (n + 1 - (k + 1)) + 1 := by omega
    rw [e, Nat.mul_succ]
    omega
theorem Seg.pop {w n : Nat} : ∀ {k : Nat} {L : List PyData} {d : PyData} {r : List PyData}, Seg w n k L → L = d :: r → ∃ j, d.depth ≤ j ∧ j ≤ n ∧ Seg w n j r
  | _, _, _, _, .nil, e => by cases e
  | k, _, d, r, .app (A := A) (B := B) hk hA hd hB, e => by
    cases A with
    | nil => exact hB.pop e
    | cons a A =>
      cases e
      exact ⟨k, hd _ (List.mem_cons_self ..), hk, .app hk (by rw [List.length_cons] at hA; omega) (fun x hx => hd x (List.mem_cons_of_mem _ hx)) hB⟩
theorem Seg.push {w n j : Nat} {r ks : List PyData} (h : Seg w n j r) (hj : 0 < j) (hn : j ≤ n) (hl : ks.length ≤ w) (hd : ∀ k ∈ ks, k.depth ≤ j - 1) : Seg w n (j - 1) (ks ++ r) := by
  refine .app (by omega) hl hd ?_
  rw [show j - 1 + 1 = j by omega]
  exact h
end
end Sa

set_option Elab.async false
set_option linter.all false
set_option maxRecDepth 100000
set_option maxHeartbeats 4000000
namespace Sa
open PySem PySem.Spec PyProof.Rows L2
theorem nodeP_tup {d : PyData} (h : isTup d = false) : nodeP d = none := by
  cases d with
  | tuple ds => cases h
  | _ => rfl
theorem nodeP_len {ds : List PyData} (h : ¬ ds.length = 3) : nodeP (.tuple ds) = none := by
  cases hn : nodeP (.tuple ds) with
  | none => rfl
  | some ks =>
    obtain ⟨hd, ik, ds', e, _⟩ := nodeP_kid hn
    cases e
    exact absurd rfl h
theorem nodeP_str {a b c : PyData} (h : isStr a = false) : nodeP (.tuple [a, b, c]) = none := by
  cases a with
  | str x => cases h
  | _ => rfl
theorem nodeP_items {a b c : PyData} (h : isTup c = false) : nodeP (.tuple [a, b, c]) = none := by
  cases a with
  | str x =>
    cases c with
    | tuple ds => cases h
    | _ => rfl
  | _ => rfl
theorem nodeP_of {h : Str} {ik : PyData} {ds : List PyData} : nodeP (.tuple [.str h, ik, .tuple ds]) =
    if progHeads.contains h && isInk progRes ik && !(progLit.contains h && !isUnit ik) && plainP h ds && !(decide (h = "made") && !ds.all mbv) then some (ds.drop (firstK h ds.length)) else none := rfl
theorem eqv_unit : ∀ d : PyData, PyData.eqv d (.tuple []) = isUnit d
  | .none => by simp [PyData.eqv, isUnit]
  | .bool _ => by simp [PyData.eqv, isUnit]
  | .int _ => by simp [PyData.eqv, isUnit]
  | .str _ => by simp [PyData.eqv, isUnit]
  | .list _ => by simp [PyData.eqv, isUnit]
  | .dict _ => by simp [PyData.eqv, isUnit]
  | .tuple [] => by simp [PyData.eqv, PyData.eqvAll, isUnit]
  | .tuple (_ :: _) => by simp [PyData.eqv, PyData.eqvAll, isUnit]
theorem DaAll.dropLast {F : AS} {H : Hp} {vs : List V} {ds : List PyData} (h : DaAll F H vs ds) : DaAll F H vs.dropLast ds.dropLast := by
  rw [List.dropLast_eq_take, List.dropLast_eq_take, h.length]
  exact h.take _
theorem cutVA_from (xs : List V) (k : Nat) : cutV xs (some (k : Int)) none = xs.drop k := by
  unfold cutV
  rw [HT.sIx_none, HT.sIx_nat]
  by_cases h : k ≤ xs.length
  · rw [Nat.min_eq_left h]
    exact List.take_of_length_le (by rw [List.length_drop]; omega)
  · rw [Nat.min_eq_right (by omega), List.drop_length, List.drop_eq_nil_of_le (by omega), List.take_nil]
theorem cutVA_all {xs : List V} {lo hi : Option Int} (h : HT.sIx xs.length 0 lo = 0 ∧ HT.sIx xs.length xs.length hi = xs.length) : cutV xs lo hi = xs := by
  unfold cutV
  rw [h.1, h.2, List.drop_zero, Nat.sub_zero, List.take_length]
section
variable {P : Program} {w : World} {K : PySem.W.Frag} {mg : Str → Option Value} {base : Heap}
theorem ok_is_tree (T : Top K mg) {n : Nat} (hn : n ≤ 60) : FnOk P w K mg base CX0 4 T.is_tree T.is_tree_d ["thing"] (sp_b n isTreeP) := by
  refine T.is_tree_f.ok sc_is_tree (fun vs H Q E h => ?_) (fun cdv A outer s H vs Q E hr h => ?_)
  · obtain ⟨F, v, d, w, rfl, _⟩ := h
    rfl
  obtain ⟨F, v, d, w, rfl, ha, hg, hw, q⟩ := h
  have hm2 : n - 2 ≤ 60 := by omega
  -- slots: 0 thing, 1 left, 2 tree, 3 head, 4 ink, 5 items, 6 item
  refine ⟨_, (pss_cons (ps_set (i := 1) sc_is_tree.nd rfl (.inl rfl) (pe_lst (pa_cons (pv 0) pa_nil)))
      (pss_cons (ps_while PassesOwn.never (pt_truth (pv 1) (by intro _; rfl)) (pss_cons (ps_set (i := 2) sc_is_tree.nd rfl (.inl rfl) (pe_bm0 PySem.F.plainAttrs_list PySem.F.slot_list_pop PySem.F.type_list_pop mt_pop (pv 1)))
      (pss_mid (ps_if (pt_mid (PW.pt (pw_or (pt_not (pt_val (pe_callB call_isi (by rfl) T.isinstance_n (by decide +kernel) (pa_cons (pv 2) (pa_cons (pe_bltn (v := .ty "tuple") (u := .type "tuple") (by rfl) T.tuple_n (by decide +kernel) rfl) pa_nil))))) (pw_or1 (pt_cmpR op_ne (pe_callB call_len_seq (by rfl) T.len_n (by decide +kernel) (pa_cons (pv 2) pa_nil)) pe_int (nomark _)))))) (pss_one (ps_ret pe_bl)) pss_nil)
      (pss_cons (ps_asg (pv 2) (pg_tup rfl (pgs_cons (pg_name (i := 3) sc_is_tree.nd rfl (.inl rfl)) (pgs_cons (pg_name (i := 4) sc_is_tree.nd rfl (.inl rfl)) (pgs_cons (pg_name (i := 5) sc_is_tree.nd rfl (.inl rfl)) pgs_nil)))))
      (pss_mid (ps_if (pt_mid (PW.pt (pw_or (pt_not (pt_val (pe_callB call_isi (by rfl) T.isinstance_n (by decide +kernel) (pa_cons (pv 3) (pa_cons (pe_bltn (v := .ty "str") (u := .type "str") (by rfl) T.str_n (by decide +kernel) rfl) pa_nil))))) (pw_or (pt_cmpR op_notIn_seq (pv 3) (pe_glob (v := .ref T.HEADS) (by rfl) T.HEADS_g rfl) (by rfl)) (pw_or (pt_not (pt_val (pe_call (ok_is_ink (n := n - 1) T) (hr.mono (by decide)) rfl T.is_ink_g T.is_ink_k T.is_ink_b .nil pass0 (pa_cons (pv 4) pa_nil)))) (pw_or1 (pt_not (pt_val (pe_callB call_isi (by rfl) T.isinstance_n (by decide +kernel) (pa_cons (pv 5) (pa_cons (pe_bltn (v := .ty "tuple") (u := .type "tuple") (by rfl) T.tuple_n (by decide +kernel) rfl) pa_nil))))))))))) (pss_one (ps_ret pe_bl)) pss_nil)
      (pss_mid (ps_if (pt_mid (PW.pt (pw_or (PW.pt (pw_and (pt_cmpR op_in_seq (pv 3) (pe_glob (v := .ref T.LITERALS) (by rfl) T.LITERALS_g rfl) (by rfl)) (pw_and1 (pt_cmpR (op_neD hr.units) (pv 4) (pe_tup pa_nil) (nomark _))))) (pw_or1 (pt_not (pt_val (pe_call (ok_has_plain_items (n := n - 1) T) (hr.mono (by decide)) rfl T.has_plain_items_g T.has_plain_items_k T.has_plain_items_b .nil pass0 (pa_cons (pv 3) (pa_cons (pv 5) pa_nil))))))))) (pss_one (ps_ret pe_bl)) pss_nil)
      (pss_cons (ps_expr (pe_bm PySem.F.plainAttrs_list PySem.F.slot_list_extend PySem.F.type_list_extend mt_extend (pv 1) (pa_cons (pe_mid (pe_callTy call_list_of (by rfl) T.list_n (by decide +kernel) (pa_cons (pe_slice sl_tupA (pv 5) (po_some (pe_call (ok_first_kid T) (hr.mono (by decide)) rfl T.first_kid_g T.first_kid_k T.first_kid_b .nil pass0 (pa_cons (pv 3) (pa_cons (pv 5) pa_nil)))) po_none) pa_nil))) pa_nil)))
      (pss_one (ps_if (pt_mid (PW.pt (pw_and (pt_cmpR op_eq (pv 3) pe_str (nomark _)) (pw_and1 (pt_not (pt_val (pe_callB (cr_all rfl) (by rfl) T.all_n (by decide +kernel) (pa_cons (pe_lc (own := [("item", 6)]) (g := (gName 6)) (tt := tYes) (by rfl) sc_is_tree.nd (pi_tup (pv 5)) (blkOk_by (own := [("item", 6)]) (N := ["thing", "left", "tree", "head", "ink", "items", "item"]) (sc := defScope s_is_tree) (by decide +kernel)) (fun _ _ _ _ _ => (pg_name (i := 6) sc_is_tree.nd rfl (.inl rfl))) (fun _ _ _ _ _ => pts_nil) (fun _ _ _ _ _ => (pe_call (ok_may_be_value (n := n - 2) T hm2) (hr.mono (by decide)) rfl T.may_be_value_g T.may_be_value_k T.may_be_value_b .nil pass0 (pa_cons (pv 6) pa_nil)))) pa_nil)))))))) (pss_one (ps_ret pe_bl)) pss_nil)))))))))
      (pss_one (ps_ret pe_bl)))), ?_⟩
  refine go_asg ⟨_, rfl, (by show 1 ≤ sizeLine; decide), fun L nL => go_name ?_⟩
  have sL : Same H (L2.upd H L (.lst [v])) := same_upd nL
  refine ⟨fun m σ H' => ∃ vs ds y2 y3 y4 y5 k, σ = [some v, some (.ref L), y2, y3, y4, y5, none] ∧ Same H H' ∧ H' L = some (.lst vs) ∧ DaAll F H vs ds ∧ (∀ x ∈ ds, Gn w n x) ∧ isTreeP d = ds.all isTreeP ∧ szAll ds = m ∧ Seg (w + 1) n k ds.reverse ∧ k ≤ n, ⟨sz d, [v], [d], none, none, none, none, n, rfl, sL, upd_same, .cons ha .nil, ?_, ?_, ?_, ?_, Nat.le_refl _⟩, ?_⟩
  · intro x hx
    rw [List.mem_singleton.mp hx]
    exact hg
  · simp
  · simp [szAll]
  · exact .app (A := [d]) (B := []) (Nat.le_refl _) (by simp) (fun x hx => by rw [List.mem_singleton.mp hx]; exact hg.2) .nil
  rintro m σ H1 ⟨vs, ds, y2, y3, y4, y5, k, rfl, s1, eL, al, gs, hall, hsz, hseg, hk⟩
  have lv := al.length
  refine ⟨_, rfl, !vs.isEmpty, .inl ⟨vs, SqL.of eL, rfl⟩, ite2 (fun e => ⟨_, fun _ _ h => h, ?_⟩) (fun e => ?_)⟩
  · have hne : vs ≠ [] := fun z => by
      subst z
      cases e
    have l0 : 0 < vs.length := List.length_pos_iff.mpr hne
    have ey : vs[vs.length - 1]? = some vs[vs.length - 1] := List.getElem?_eq_getElem (by omega)
    generalize vs[vs.length - 1] = y at ey
    obtain ⟨dl, edl, ay⟩ := al.get ey
    rw [lv] at edl
    have hds : ds = ds.dropLast ++ [dl] := by
      have z := List.dropLast_concat_getLast (l := ds) (fun z => by rw [z] at lv; exact absurd lv (by rw [List.length_nil]; omega))
      rw [List.getLast_eq_getElem] at z
      have z2 : ds[ds.length - 1]'(by omega) = dl := by
        rw [List.getElem?_eq_getElem (by omega)] at edl
        exact Option.some.inj edl
      rw [z2] at z
      exact z.symm
    have gl := gs dl (List.mem_of_getElem? edl)
    have adl := al.dropLast
    have hrev : ds.reverse = dl :: ds.dropLast.reverse := by
      conv => lhs; rw [hds]
      rw [List.reverse_append]
      rfl
    obtain ⟨j, hj1, hj2, hjs⟩ := hseg.pop hrev
    refine ⟨_, rfl, .inl ⟨rfl, _, SqL.of eL⟩, L, vs, y, rfl, rfl, eL, ey, go_name ?_⟩
    have nLH := nL
    have s2 : Same H (L2.upd H1 L (.lst vs.dropLast)) := fun b o z => by
      rw [upd_ne (ne_of_none z nL)]
      exact s1 _ _ z
    have eL2 : (L2.upd H1 L (.lst vs.dropLast)) L = some (.lst vs.dropLast) := upd_same
    generalize L2.upd H1 L (.lst vs.dropLast) = H2 at s2 eL2
    have bad : nodeP dl = none → ∀ H3, Same H H3 → Q (.bl false) H3 := fun hb H3 s3 => by
      have h := q H3 s3
      have : isTreeP dl = false := by rw [isTreeP_eq, hb]
      rw [hall, hds, List.all_append, List.all_cons, this] at h
      simpa using h
    refine ⟨fun σ H' => σ = [some v, some (.ref L), some y, y3, y4, y5, none] ∧ H2 = H' ∧ ∃ a b c, dl = .tuple [a, b, c], ?_, ?_⟩
    · refine ⟨fun b H' => H2 = H' ∧ (b = true → nodeP dl = none) ∧ (b = false → ∃ a b c, dl = .tuple [a, b, c]), ?_, ?_⟩
      · refine ⟨_, rfl, _, _, _, _, _, rfl, .ty _, (ay.same s2).ty, kit_ty (kit_tup dl), _, rfl, ite2 (fun e => ?_) (fun e => ?_)⟩
        · exact ⟨rfl, fun _ => nodeP_tup (not_of_eq e), fun z => by cases z⟩
        obtain ⟨es, rfl⟩ := tup_of (not_of_ne e)
        have ay2 := ay.same s2
        cases ay2 with
        | @tup px ys _ nF2 ep2 al2 =>
        have l2 := al2.length
        refine ⟨_, rfl, px, _, rfl, .inr (SqT.of ep2), rfl, _, rfl, rfl, fun z => ?_, fun z => ?_⟩
        · refine nodeP_len fun u => ?_
          have := (lenI (k := 3) l2).trans (decide_eq_true u)
          rw [show decide (V.int (ys.length : Int) = V.int 3) = true from this] at z
          cases z
        · have u : decide (V.int (ys.length : Int) = V.int 3) = true := by
            cases h : decide (V.int (ys.length : Int) = V.int 3) with
            | true => rfl
            | false => rw [h] at z; cases z
          obtain ⟨a, b, c, rfl⟩ := three_of (of_decide_eq_true ((lenI (k := 3) l2).symm.trans u))
          exact ⟨a, b, c, rfl⟩
      rintro b _ ⟨rfl, h1, h2⟩
      exact ite2 (fun e => bad (h1 e) _ s2) (fun e => ⟨rfl, rfl, h2 (Bool.eq_false_iff.mpr e)⟩)
    rintro _ _ ⟨rfl, rfl, a, b, c, rfl⟩
    obtain ⟨p, x1, x2, x3, rfl, _, ep, a1, a2, a3⟩ := Da3 ay
    obtain ⟨n0, g1, g2, g3⟩ := Gn3 gl
    -- head, ink, items = tree
    refine ⟨_, rfl, p, [x1, x2, x3], rfl, SqT.of (s2 _ _ ep), rfl, x1, [x2, x3], rfl, x2, [x3], rfl, x3, [], rfl, rfl, ?_⟩
    refine ⟨fun σ H' => σ = [some v, some (.ref L), some (.ref p), some x1, some x2, some x3, none] ∧ Same H2 H' ∧ ∃ h es, a = .str h ∧ c = .tuple es ∧ progHeads.contains h = true ∧ isInk progRes b = true, ?_, ?_⟩
    · refine ⟨fun t H' => Same H2 H' ∧ (t = true → nodeP (.tuple [a, b, c]) = none) ∧ (t = false → ∃ h es, a = .str h ∧ c = .tuple es ∧ progHeads.contains h = true ∧ isInk progRes b = true), ?_, ?_⟩
      · refine ⟨_, rfl, _, _, _, _, _, rfl, .ty _, (a1.same s2).ty, kit_ty (kit_str a), _, rfl, ite2 (fun e => ?_) (fun e => ?_)⟩
        · exact ⟨Same.refl _, fun _ => nodeP_str (not_of_eq e), fun z => by cases z⟩
        obtain ⟨h, rfl⟩ := str_of (not_of_ne e)
        cases a1
        refine ⟨_, rfl, _, _, rfl, .inr (T.HEADS_s _), rfl, flat_strs _, _, rfl, ite2 (fun e => ?_) (fun e => ?_)⟩
        · have e' : progHeads.contains h = false := by
            rw [← inV_str]
            exact not_of_eq e
          refine ⟨Same.refl _, fun _ => ?_, fun z => by cases z⟩
          cases c with
          | tuple es => rw [nodeP_of, e']; rfl
          | _ => rfl
        have e1 : progHeads.contains h = true := by
          rw [← inV_str]
          exact not_of_ne e
        refine ⟨_, rfl, F, x2, b, w, rfl, a2.same s2, g2, hw, fun H3 s3 => ⟨_, rfl, ite2 (fun e => ?_) (fun e => ?_)⟩⟩
        · refine ⟨s3, fun _ => ?_, fun z => by cases z⟩
          cases c with
          | tuple es => rw [nodeP_of, e1, not_of_eq e]; rfl
          | _ => rfl
        have e2 := not_of_ne e
        refine ⟨_, rfl, _, _, _, _, _, rfl, .ty _, ((a3.same s2).same s3).ty, kit_ty (kit_tup c), _, rfl, s3, fun z => nodeP_items (not_of_eq z), fun z => ?_⟩
        obtain ⟨es, rfl⟩ := tup_of (d := c) (by cases h : isTup c with | true => rfl | false => rw [h] at z; cases z)
        exact ⟨h, es, rfl, rfl, e1, e2⟩
      rintro t H3 ⟨s3, h1, h2⟩
      exact ite2 (fun e => bad (h1 e) _ (s2.trans s3)) (fun e => ⟨rfl, s3, h2 (Bool.eq_false_iff.mpr e)⟩)
    rintro _ H3 ⟨rfl, s3, h, es, rfl, rfl, e1, e2⟩
    cases a1
    have s23 := s2.trans s3
    have bad3 : nodeP (.tuple [.str h, b, .tuple es]) = none → ∀ H4, Same H3 H4 → Q (.bl false) H4 := fun z H4 s4 => bad z H4 (s23.trans s4)
    have ge3 := g3.mono (Nat.le_refl w) (Nat.le_refl (n - 1))
    refine ⟨fun σ H' => σ = [some v, some (.ref L), some (.ref p), some (.str h), some x2, some x3, none] ∧ Same H3 H' ∧ (progLit.contains h && !isUnit b) = false ∧ plainP h es = true, ?_, ?_⟩
    · refine ⟨fun t H' => Same H3 H' ∧ (t = true → nodeP (.tuple [.str h, b, .tuple es]) = none) ∧ (t = false → (progLit.contains h && !isUnit b) = false ∧ plainP h es = true), ?_, ?_⟩
      · refine ⟨_, rfl, _, _, rfl, .inr (T.LITERALS_s _), rfl, flat_strs _, _, rfl, ite2 (fun e => ?_) (fun e => ?_)⟩
        · have eL1 : progLit.contains h = true := by
            rw [← inV_str]
            exact e
          refine ⟨_, rfl, by decide, fun pu npu => ?_⟩
          have s4 := same_upd (o := .tup []) npu
          refine ⟨b, .tuple [], ((a2.same s23).same s4).dp _ _, .tup (SqT.of upd_same) .nil, g2.shaped (by omega), by decide +kernel, _, rfl, ite2 (fun e3 => ?_) (fun e3 => ?_)⟩
          · rw [eqv_unit] at e3
            refine ⟨s4, fun _ => ?_, fun z => by cases z⟩
            rw [nodeP_of, eL1, e3]
            simp
          · have hz : (progLit.contains h && !isUnit b) = false := by
              rw [eqv_unit] at e3
              rw [eL1, Bool.eq_false_iff.mpr e3]
              rfl
            refine ⟨_, rfl, _, rfl, F, h, x3, es, w, rfl, (a3.same s23).same s4, g3, hw, fun H5 s5 => ⟨_, rfl, s4.trans s5, fun z => ?_, fun z => ⟨hz, ?_⟩⟩⟩
            · rw [nodeP_of, not_of_eq z]
              simp
            · cases hp : plainP h es with
              | true => rfl
              | false => rw [hp] at z; cases z
        · have hz : (progLit.contains h && !isUnit b) = false := by
            have : progLit.contains h = false := by
              rw [← inV_str]
              exact Bool.eq_false_iff.mpr e
            rw [this]
            rfl
          refine ⟨_, rfl, _, rfl, F, h, x3, es, w, rfl, a3.same s23, g3, hw, fun H5 s5 => ⟨_, rfl, s5, fun z => ?_, fun z => ⟨hz, ?_⟩⟩⟩
          · rw [nodeP_of, not_of_eq z]
            simp
          · cases hp : plainP h es with
            | true => rfl
            | false => rw [hp] at z; cases z
      rintro t H4 ⟨s4, h1, h2⟩
      exact ite2 (fun e => bad3 (h1 e) _ s4) (fun e => ⟨rfl, s4, h2 (Bool.eq_false_iff.mpr e)⟩)
    rintro _ H4 ⟨rfl, s4, e3, e4⟩
    have s24 := s23.trans s4
    have eL4 := s4 _ _ (s3 _ _ eL2)
    obtain ⟨hlw, hn1, hges⟩ := g3.tuple_inv
    cases a3 with
    | @tup p3 zs _ nF3 ep3 al3 =>
    have lz := al3.length
    -- left.extend(list(items[first_kid(head, items):]))
    refine ⟨_, rfl, .inl ⟨rfl, _, SqL.of eL4⟩, fun u H' => Same H4 H' ∧ ∃ l, u = .ref l ∧ H' l = some (.lst (zs.drop (firstK h es.length))), ?_, ?_⟩
    · refine ⟨_, rfl, _, rfl, _, rfl, F, h, .ref p3, es, rfl, .tup nF3 (s24 _ _ ep3) (al3.same s24), fun H5 s5 => ⟨_, rfl, p3, zs, rfl, SqT.of (s5 _ _ (s24 _ _ ep3)), fun z => ?_, fun z l nl => ?_⟩⟩
      · refine ⟨p3, zs, rfl, .inr (SqT.of (s5 _ _ (s24 _ _ ep3))), fun l2 nl2 => ⟨s5.trans (same_upd nl2), l2, rfl, ?_⟩⟩
        rw [upd_same, ← lz, show zs.drop (firstK h zs.length) = zs by
          have := cutVA_from zs (firstK h zs.length)
          rw [← lz] at z
          rw [← this, cutVA_all z]]
      · refine ⟨l, _, rfl, .inr (SqT.of upd_same), fun l2 nl2 => ⟨(s5.trans (same_upd nl)).trans (same_upd nl2), l2, rfl, ?_⟩⟩
        rw [upd_same, cutVA_from]
    rintro _ H5 ⟨s5, l, rfl, el⟩
    have hnode : nodeP (.tuple [.str h, b, .tuple es]) = if !(decide (h = "made") && !es.all mbv) then some (es.drop (firstK h es.length)) else none := by
      rw [nodeP_of, e1, e2, e3, e4]
      simp
    have eL5 := s5 _ _ eL4
    have lseg := hseg.len
    rw [List.length_reverse] at lseg
    have lw : (w + 1) * (n + 1 - k) ≤ 1001 * 61 := Nat.mul_le_mul (by omega) (by omega)
    have ldl : vs.dropLast.length = vs.length - 1 := List.length_dropLast
    refine ⟨L, l, _, _, rfl, rfl, eL5, el, ?_, ?_⟩
    · have := sizeLine_eq
      rw [List.length_drop]
      omega
    have s6 : Same H (L2.upd H5 L (.lst (vs.dropLast ++ zs.drop (firstK h es.length)))) := fun b o z => by
      rw [upd_ne (ne_of_none z nL)]
      exact s5 _ _ (s24 _ _ z)
    have eL6 : (L2.upd H5 L (.lst (vs.dropLast ++ zs.drop (firstK h es.length)))) L = some (.lst (vs.dropLast ++ zs.drop (firstK h es.length))) := upd_same
    generalize L2.upd H5 L (.lst (vs.dropLast ++ zs.drop (firstK h es.length))) = H6 at s6 eL6
    refine ⟨fun t H' => Same H6 H' ∧ t = (decide (h = "made") && !es.all mbv), ?_, ?_⟩
    · refine ⟨_, rfl, rfl, _, rfl, ite2 (fun e => ?_) (fun e => ?_)⟩
      · have eh : h = "made" := V.str.inj (of_decide_eq_true e)
        refine ⟨_, rfl, p3, rfl, ⟨_, SqT.of (s6 _ _ ep3)⟩, fun D nD => ?_⟩
        refine lcA pit_t (j := 6) (xs := zs) (es.map fun d => V.bl (mbv d)) (by rw [List.length_map]; omega) (small1000 (by omega)) nD (fun H' s7 => SqT.of (s7 _ _ (s6 _ _ ep3))) (fun i y z H' ey ez s7 Q' q' => ?_) (fun y => rfl) (fun H' s7 eD => ?_)
        · obtain ⟨dy, ed, ay⟩ := al3.get ey
          rw [List.getElem?_map, ed] at ez
          cases ez
          exact ⟨_, rfl, F, y, dy, w, rfl, ay.same (s6.trans s7), (hges dy (List.mem_of_getElem? ed)).mono (Nat.le_refl _) (by omega), hw, q'⟩
        · refine ⟨D, es.map mbv, rfl, SqL.of (by rw [eD, List.map_map]; rfl), _, rfl, s7, ?_⟩
          rw [decide_eq_true eh, Bool.true_and, List.all_map, Function.id_comp]
      · refine ⟨Same.refl _, ?_⟩
        rw [decide_eq_false fun z => e (decide_eq_true (congrArg V.str z)), Bool.false_and]
    rintro t H7 ⟨s7, rfl⟩
    refine ite2 (fun e => ?_) (fun e => ?_)
    · refine bad ?_ H7 (s6.trans s7)
      rw [hnode, e]
      rfl
    · have hk2 : nodeP (.tuple [.str h, b, .tuple es]) = some (es.drop (firstK h es.length)) := by
        rw [hnode, Bool.eq_false_iff.mpr e]
        rfl
      have hdep := kid_depth hk2
      refine ⟨szAll (ds.dropLast ++ es.drop (firstK h es.length)), ?_, _, _, _, _, _, _, j - 1, rfl, s6.trans s7, s7 _ _ eL6, adl.append (al3.drop _), fun x hx => ?_, ?_, rfl, ?_, by omega⟩
      · have := kid_sz hk2
        rw [← hsz]
        conv => rhs; rw [hds]
        rw [szAll_append, szAll_append]
        simp only [szAll] at this ⊢
        omega
      · rcases List.mem_append.mp hx with z | z
        · exact gs x (List.mem_of_mem_take (by rwa [List.dropLast_eq_take] at z))
        · exact (hges x (List.mem_of_mem_drop z)).mono (Nat.le_refl _) (by omega)
      · rw [hall]
        conv => lhs; rw [hds]
        rw [List.all_append, List.all_append, List.all_cons, isTreeP_eq (.tuple _), hk2]
        simp
      · rw [List.reverse_append]
        have := depth3 (.str h) b es
        refine hjs.push (by omega) hj2 (by rw [List.length_reverse, List.length_drop]; omega) fun x hx => ?_
        have := hdep x (List.mem_reverse.mp hx)
        omega
  · have : vs = [] := by
      cases vs with
      | nil => rfl
      | cons a b => exact absurd rfl e
    subst this
    have : ds = [] := List.eq_nil_of_length_eq_zero lv.symm
    subst this
    have h := q H1 s1
    rw [hall] at h
    exact h
end
end Sa

set_option Elab.async false
set_option linter.all false
set_option maxRecDepth 100000
set_option maxHeartbeats 4000000
namespace Sa
open PySem PySem.Spec PyProof.Rows L2
def resA : List Str := ["int", "quote", "flag", "global", "made", "ref", "name", "fun", "call", "let", "if", "list", "try", "use", "true", "false", "word", "rule", "run", "where"]
def resL : List Str := resA ++ onesL ++ twosL
section
variable {P : Program} {w : World} {K : PySem.W.Frag} {mg : Str → Option Value} {base : Heap}
theorem ok__law_is_count (T : Top K mg) : FnOk P w K mg base CX0 1 T._law_is_count T._law_is_count_d ["_law_thing", "_law_least"] sp_num := by
  refine T._law_is_count_f.ok sc__law_is_count (fun vs H Q E h => ?_) (fun cdv A outer s H vs Q E hr h => ?_)
  · obtain ⟨F, v, d, l, rfl, _⟩ := h
    rfl
  obtain ⟨F, v, d, l, rfl, ha, q⟩ := h
  -- slots: 0 _law_thing, 1 _law_least
  refine ⟨_, (pss_one (ps_ret (pe_and (pe_callB call_isi (by rfl) T.isinstance_n (by decide +kernel) (pa_cons (pv 0) (pa_cons (pe_bltn (v := .ty "int") (u := .type "int") (by rfl) T.int_n (by decide +kernel) rfl) pa_nil))) (pe_and (pe_not (pe_callB call_isi (by rfl) T.isinstance_n (by decide +kernel) (pa_cons (pv 0) (pa_cons (pe_bltn (v := .ty "bool") (u := .type "bool") (by rfl) T.bool_n (by decide +kernel) rfl) pa_nil)))) (pe_one (pe_cmpR op_ge (pv 0) (pv 1) (nomark _))))))), ?_⟩
  refine ⟨_, rfl, _, _, _, _, _, rfl, .ty _, ha.ty, kit_ty (kit_int d), _, rfl, ite2 (fun e => ⟨_, rfl, _, _, _, _, _, rfl, .ty _, ha.ty, kit_ty (kit_bool d), _, rfl, _, rfl, ite2 (fun e2 => ?_) (fun e2 => ?_)⟩) (fun e => ?_)⟩
  · cases d with
    | int i =>
      cases ha
      exact ⟨_, rfl, _, rfl, _, _, rfl, rfl, q⟩
    | bool b => cases e2
    | _ => cases e
  · cases d with
    | int i => exact absurd rfl e2
    | bool b => exact q
    | _ => cases e
  · cases d with
    | int i => exact absurd rfl e
    | bool b => exact absurd rfl e
    | _ => exact q
theorem split_res : (Txt.split (Str.ofString "int quote flag global made ref name fun call let if list try use true false word rule run where") (Str.ofString " ")) = resA := by decide +kernel
def sp_strsS (l : List Str) : Sp := fun vs H Q _ => vs = [] ∧ ∀ p H', H p = none → Same H H' → H' p = some (.lst (l.map V.str)) → Q (.ref p) H'
theorem ok__law_reserved (T : Top K mg) : FnOk P w K mg base CX0 2 T._law_reserved T._law_reserved_d [] (sp_strsS resL) := by
  refine T._law_reserved_f.ok sc__law_reserved (fun vs H Q E h => ?_) (fun cdv A outer s H vs Q E hr h => ?_)
  · obtain ⟨rfl, _⟩ := h
    rfl
  obtain ⟨rfl, q⟩ := h
  -- slots: 0 _law_some
  refine ⟨_, (pss_cons (ps_set (i := 0) sc__law_reserved.nd rfl (.inl rfl) pe_str)
      (pss_one (ps_ret (pe_op op_cat (pe_op op_cat (pe_split (pv 0) pe_str) (pe_call0 (ok__law_ones T) (hr.mono (by decide)) rfl T._law_ones_g T._law_ones_k T._law_ones_b .nil pass0)) (pe_call0 (ok__law_twos T) (hr.mono (by decide)) rfl T._law_twos_g T._law_twos_k T._law_twos_b .nil pass0))))), ?_⟩
  refine ⟨_, rfl, ⟨_, rfl⟩, _, _, rfl, rfl, by decide, by decide, fun p np => ?_⟩
  rw [split_res]
  refine ⟨rfl, fun p2 np2 => ⟨p, p2, _, _, rfl, rfl, same_upd np2 _ _ upd_same, upd_same, by decide, fun p3 np3 => ⟨rfl, fun p4 np4 => ⟨p3, p4, _, _, rfl, rfl, same_upd np4 _ _ upd_same, upd_same, by decide, fun p5 np5 => ?_⟩⟩⟩⟩
  have sm : ∀ o, Same H (L2.upd _ p5 o) := fun o => ((((same_upd np).trans (same_upd np2)).trans (same_upd np3)).trans (same_upd np4)).trans (same_upd np5)
  exact q p5 _ (((((same_upd np).trans (same_upd np2)).trans (same_upd np3)).trans (same_upd np4)).free np5) (sm _) (by rw [upd_same]; rfl)
theorem dp_of {F : AS} {H : Hp} {xs : List V} {ds : List PyData} (al : DaAll F H xs ds) {w n : Nat} (hg : ∀ d ∈ ds, Gn w n d) : ∀ acc : List V, (∀ y ∈ acc, y ∈ xs) → ∃ das, DpAll K H acc das ∧ das.length = acc.length ∧ ∀ d ∈ das, Gn w n d
  | [], _ => ⟨[], .nil, rfl, fun d hd => by cases hd⟩
  | y :: acc, h => by
    obtain ⟨das, h1, h2, h3⟩ := dp_of al hg acc fun z hz => h z (List.mem_cons_of_mem _ hz)
    obtain ⟨i, hi⟩ := List.mem_iff_getElem?.mp (h y (List.mem_cons_self ..))
    obtain ⟨d, e, a⟩ := al.get hi
    exact ⟨d :: das, .cons (a.dp _ _) h1, by rw [List.length_cons, List.length_cons, h2], fun z hz => (List.mem_cons.mp hz).elim (fun u => u ▸ hg d (List.mem_of_getElem? e)) (h3 z)⟩
theorem eqv_nil (das : List PyData) : PyData.eqv (.list das) (.list []) = das.isEmpty := by
  cases das <;> simp [PyData.eqv, PyData.eqvAll]
/-- the texts of one sign are data -/
theorem da_signs {F : AS} {H : Hp} : ∀ l : List Nat, DaAll F H (l.map fun c => V.str ⟨#[c]⟩) (l.map fun c => PyData.str ⟨#[c]⟩)
  | [] => .nil
  | c :: l => .cons (.str _) (da_signs l)
theorem gn_signs {x : Str} (h : PyData.strOk x = true) : ∀ d ∈ x.cps.toList.map (fun c => PyData.str ⟨#[c]⟩), Gn 0 0 d := by
  intro d hd
  obtain ⟨c, hc, rfl⟩ := List.mem_map.mp hd
  have := Array.all_eq_true_iff_forall_mem.mp h c (Array.mem_toList_iff.mp hc)
  refine gn_str ?_
  simp only [PyData.strOk, Bool.and_eq_true]
  refine ⟨?_, by rfl⟩
  simpa using this
theorem ok__law_is_name (T : Top K mg) {n : Nat} : FnOk P w K mg base CX0 3 T._law_is_name T._law_is_name_d ["_law_thing"] (sp_b n (isNm resL)) := by
  refine T._law_is_name_f.ok sc__law_is_name (fun vs H Q E h => ?_) (fun cdv A outer s H vs Q E hr h => ?_)
  · obtain ⟨F, v, d, w, rfl, _⟩ := h
    rfl
  obtain ⟨F, v, d, w, rfl, ha, hg, hw, q⟩ := h
  -- slots: 0 _law_thing, 1 _law_sign
  refine ⟨_, (pss_mid (ps_if (pt_mid (PW.pt (pw_or (pt_not (pt_val (pe_callB call_isi (by rfl) T.isinstance_n (by decide +kernel) (pa_cons (pv 0) (pa_cons (pe_bltn (v := .ty "str") (u := .type "str") (by rfl) T.str_n (by decide +kernel) rfl) pa_nil))))) (pw_or (pt_not (pt_chain op_le op_le pe_int (pe_callB call_len_str (by rfl) T.len_n (by decide +kernel) (pa_cons (pv 0) pa_nil)) pe_int)) (pw_or1 (pt_cmpR op_in_seq (pv 0) (pe_call0 (ok__law_reserved T) (hr.mono (by decide)) rfl T._law_reserved_g T._law_reserved_k T._law_reserved_b .nil pass0) (by rfl))))))) (pss_one (ps_ret pe_bl)) pss_nil)
      (pss_one (ps_ret (pe_cmpR (op_eqD hr.units) (pe_lc (own := [("_law_sign", 1)]) (g := (gName 1))  (by rfl) sc__law_is_name.nd (pi_str (pv 0)) (blkOk_by (own := [("_law_sign", 1)]) (N := ["_law_thing", "_law_sign"]) (sc := defScope s__law_is_name) (by decide +kernel)) (fun _ _ _ _ _ => (pg_name (i := 1) sc__law_is_name.nd rfl (.inl rfl))) (fun _ _ _ _ _ => (pts_one (pt_cmpR op_notIn_sign (pv 1) pe_str (by rfl)))) (fun _ _ _ _ _ => (pv 1))) (pe_lst pa_nil) (nomark _))))), ?_⟩
  refine ⟨fun σ H' => σ = [some v, none] ∧ Same H H' ∧ ∃ x, d = .str x ∧ 1 ≤ x.length ∧ x.length ≤ 8 ∧ resL.contains x = false, ?_, ?_⟩
  · refine ⟨fun b H' => Same H H' ∧ (b = true → isNm resL d = false) ∧ (b = false → ∃ x, d = .str x ∧ 1 ≤ x.length ∧ x.length ≤ 8 ∧ resL.contains x = false), ?_, ?_⟩
    · refine ⟨_, rfl, _, _, _, _, _, rfl, .ty _, ha.ty, kit_ty (kit_str d), _, rfl, ite2 (fun e => ?_) (fun e => ?_)⟩
      · refine ⟨Same.refl _, fun _ => ?_, fun z => by cases z⟩
        cases d <;> first | rfl | cases e
      obtain ⟨x, rfl⟩ := str_of (not_of_ne e)
      cases ha
      have hlen : x.length ≤ 100 := by
        have h := hg.1
        simp only [gd, Bool.and_eq_true, decide_eq_true_eq] at h
        exact h.2
      refine ⟨_, rfl, x, rfl, Nat.le_of_lt (small1000 (by omega)), _, _, rfl, rfl, _, rfl, ite2 (fun e1 => ⟨_, _, rfl, rfl, _, rfl, ite2 (fun e2 => ?_) (fun e2 => ?_)⟩) (fun e1 => ⟨_, rfl, ite2 (fun e2 => ?_) (fun e2 => absurd rfl e2)⟩)⟩
      · refine ⟨Same.refl _, fun _ => ?_, fun z => by cases z⟩
        have : ¬ x.length ≤ 8 := fun z => of_decide_eq_false (not_of_eq e2) (by omega)
        simp [isNm, nmS, this]
      · have h1 : 1 ≤ x.length := by
          have := of_decide_eq_true e1
          omega
        have h2 : x.length ≤ 8 := by
          have := of_decide_eq_true (not_of_ne e2)
          omega
        refine ⟨_, rfl, rfl, fun p H2 np s2 ep => ⟨p, _, rfl, .inl (SqL.of ep), rfl, flat_strs _, _, rfl, s2, fun z => ?_, fun z => ⟨x, rfl, h1, h2, ?_⟩⟩⟩
        · rw [if_neg Bool.false_ne_true, inV_str] at z
          simp only [isNm, nmS, z, Bool.not_true, Bool.and_false, Bool.false_and]
        · rw [if_neg Bool.false_ne_true, inV_str] at z
          exact z
      · refine ⟨Same.refl _, fun _ => ?_, fun z => by cases z⟩
        have : ¬ 1 ≤ x.length := fun z => e1 (decide_eq_true (by omega))
        simp [isNm, nmS, this]
    rintro b H1 ⟨s1, h1, h2⟩
    refine ite2 (fun e => ?_) (fun e => ⟨rfl, s1, h2 (Bool.eq_false_iff.mpr e)⟩)
    have := q H1 s1
    rw [h1 e] at this
    exact this
  rintro _ H1 ⟨rfl, s1, x, rfl, l1, l2, hc⟩
  cases ha
  have hok : PyData.strOk x = true := by
    have h := hg.1
    simp only [gd, Bool.and_eq_true] at h
    exact h.1
  refine ⟨_, rfl, x, rfl, fun D nD => ?_⟩
  refine lcF pit_s (j := 1) (x.cps.toList.map fun c => !decide (c ∈ signsS.cps.toList)) (by rw [List.length_map, List.length_map]) (by rw [List.length_map]; exact small1000 (Nat.le_trans l2 (by decide))) nD (fun _ _ => trivial) (fun i y z H' ey ez s1 Q' q' => ?_) (fun y H' Q' q' => ⟨y, rfl, q'⟩) (fun y => rfl) (fun H' acc s2 eD la ma ea => ?_)
  · rw [List.getElem?_map] at ey ez
    obtain ⟨c, ec, rfl⟩ := Option.map_eq_some_iff.mp ey
    rw [ec] at ez
    cases ez
    exact ⟨_, rfl, c, signsS, rfl, rfl, _, rfl, q' H' (Same.refl _)⟩
  · obtain ⟨das, h1, h2, h3⟩ := dp_of (K := K) (da_signs (F := F) (H := H') x.cps.toList) (gn_signs hok) acc ma
    refine ⟨by decide, fun pe ne => ?_⟩
    have s3 := same_upd (o := .lst []) ne
    obtain ⟨das, h1, h2, h3⟩ := dp_of (K := K) (da_signs (F := F) (H := L2.upd H' pe (.lst [])) x.cps.toList) (gn_signs hok) acc ma
    refine ⟨.list das, .list [], .lst (SqL.of (s3 _ _ eD)) h1, .lst (SqL.of upd_same) .nil, (Gn.list (w := das.length) (Nat.le_refl _) fun d hd => (h3 d hd).mono (Nat.zero_le _) (Nat.le_refl 0)).shaped (by decide), by decide +kernel, ?_⟩
    rw [eqv_nil]
    have h := q _ ((s1.trans s2).trans s3)
    have e : isNm resL (.str x) = das.isEmpty := by
      have e1 : das.isEmpty = (x.cps.toList.map fun c => !decide (c ∈ signsS.cps.toList)).all (fun b => !b) := by
        cases acc with
        | nil =>
          rw [ea.mp rfl]
          cases das with
          | nil => rfl
          | cons a b => cases h2
        | cons a b =>
          have : ¬ ((x.cps.toList.map fun c => !decide (c ∈ signsS.cps.toList)).all (fun b => !b) = true) := fun z => by
            have := ea.mpr z
            cases this
          rw [Bool.eq_false_iff.mpr this]
          cases das with
          | nil => cases h2
          | cons a b => rfl
      rw [e1, List.all_map]
      simp only [isNm, nmS, hc, Bool.not_false, Bool.and_true, decide_eq_true l1, decide_eq_true l2, Bool.true_and, Function.comp_def, Bool.not_not]
    rw [e] at h
    exact h
end
end Sa

set_option Elab.async false
set_option linter.all false
set_option maxRecDepth 100000
set_option maxHeartbeats 4000000
namespace Sa
open PySem PySem.Spec PyProof.Rows L2
section
variable {P : Program} {w : World} {K : PySem.W.Frag} {mg : Str → Option Value} {base : Heap}
theorem isMrk_len {res : List Str} {ds : List PyData} (h : ¬ ds.length = 3) : isMrk res (.tuple ds) = false := by
  match ds, h with
  | [], _ => rfl
  | [_], _ => rfl
  | [_, _], _ => rfl
  | [_, _, _], h => exact absurd rfl h
  | _ :: _ :: _ :: _ :: _, _ => rfl
theorem ok__law_is_ink (T : Top K mg) {n : Nat} (hn : n ≤ 60) : FnOk P w K mg base CX0 4 T._law_is_ink T._law_is_ink_d ["_law_thing"] (sp_b n (isInk resL)) := by
  refine T._law_is_ink_f.ok sc__law_is_ink (fun vs H Q E h => ?_) (fun cdv A outer s H vs Q E hr h => ?_)
  · obtain ⟨F, v, d, w, rfl, _⟩ := h
    rfl
  obtain ⟨F, v, d, w, rfl, ha, hg, hw, q⟩ := h
  -- slots: 0 _law_thing, 1 _law_mark_here, 2 _law_one
  refine ⟨_, (pss_mid (ps_if (pt_not (pt_val (pe_callB call_isi (by rfl) T.isinstance_n (by decide +kernel) (pa_cons (pv 0) (pa_cons (pe_bltn (v := .ty "tuple") (u := .type "tuple") (by rfl) T.tuple_n (by decide +kernel) rfl) pa_nil))))) (pss_one (ps_ret pe_bl)) pss_nil)
      (pss_cons (ps_for PassesOwn.never rfl (pi_tup (pv 0)) (pg_name (i := 1) sc__law_is_ink.nd rfl (.inl rfl)) (pss_mid (ps_if (pt_mid (PW.pt (pw_or (pt_not (pt_val (pe_callB call_isi (by rfl) T.isinstance_n (by decide +kernel) (pa_cons (pv 1) (pa_cons (pe_bltn (v := .ty "tuple") (u := .type "tuple") (by rfl) T.tuple_n (by decide +kernel) rfl) pa_nil))))) (pw_or (pt_cmpR op_ne (pe_callB call_len_seq (by rfl) T.len_n (by decide +kernel) (pa_cons (pv 1) pa_nil)) pe_int (nomark _)) (pw_or1 (pt_not (pt_val (pe_call (ok__law_is_name (n := n - 2) T) (hr.mono (by decide)) rfl T._law_is_name_g T._law_is_name_k T._law_is_name_b .nil pass0 (pa_cons (pe_ix ix_tup (pv 1) pe_int (fun _ _ => rfl)) pa_nil))))))))) (pss_one (ps_ret pe_bl)) pss_nil)
      (pss_mid (ps_if (pt_mid (PW.pt (pw_or (pt_not (pt_val (pe_call (ok__law_is_count T) (hr.mono (by decide)) rfl T._law_is_count_g T._law_is_count_k T._law_is_count_b .nil pass0 (pa_cons (pe_ix ix_tup (pv 1) pe_int (fun _ _ => rfl)) (pa_cons pe_int pa_nil))))) (pw_or1 (pt_not (pt_val (pe_callB call_isi (by rfl) T.isinstance_n (by decide +kernel) (pa_cons (pe_ix ix_tup (pv 1) pe_int (fun _ _ => rfl)) (pa_cons (pe_bltn (v := .ty "tuple") (u := .type "tuple") (by rfl) T.tuple_n (by decide +kernel) rfl) pa_nil))))))))) (pss_one (ps_ret pe_bl)) pss_nil)
      (pss_one (ps_if (pt_cmpR (op_neD hr.units) (pe_lc (own := [("_law_one", 2)]) (g := (gName 2))  (by rfl) sc__law_is_ink.nd (pi_tup (pe_ix ix_tup (pv 1) pe_int (fun _ _ => rfl))) (blkOk_by (own := [("_law_one", 2)]) (N := ["_law_thing", "_law_mark_here", "_law_one"]) (sc := defScope s__law_is_ink) (by decide +kernel)) (fun _ _ _ _ _ => (pg_name (i := 2) sc__law_is_ink.nd rfl (.inl rfl))) (fun _ _ _ _ _ => (pts_one (pt_not (pt_val (pe_call (ok__law_is_count T) (hr.mono (by decide)) rfl T._law_is_count_g T._law_is_count_k T._law_is_count_b .nil pass0 (pa_cons (pv 2) (pa_cons pe_int pa_nil))))))) (fun _ _ _ _ _ => (pv 2))) (pe_lst pa_nil) (nomark _)) (pss_one (ps_ret pe_bl)) pss_nil)))))
      (pss_one (ps_ret pe_bl)))), ?_⟩
  refine ⟨fun σ H' => σ = [some v, none, none] ∧ H = H' ∧ ∃ ds, d = .tuple ds, ?_, ?_⟩
  · refine ⟨_, rfl, _, _, _, _, _, rfl, .ty _, ha.ty, kit_ty (kit_tup d), _, rfl, ite2 (fun e => ?_) (fun e => ?_)⟩
    · have h := q H (Same.refl _)
      cases d with
      | tuple ds => cases e
      | _ => exact h
    · obtain ⟨ds, rfl⟩ := tup_of (not_of_ne e)
      exact ⟨rfl, rfl, ds, rfl⟩
  rintro _ _ ⟨rfl, rfl, ds, rfl⟩
  obtain ⟨hl, _, hgs⟩ := hg.tuple_inv
  cases ha with
  | @tup p xs _ nF ep al =>
  have lx := al.length
  refine ⟨_, rfl, p, rfl, ⟨_, SqT.of ep⟩, for_tup (K := K) (a := p) (xs := xs) (fun i σ H' => ∃ y, σ = [some (.ref p), y, none] ∧ Same H H' ∧ (ds.take i).all (isMrk resL) = true) ⟨none, rfl, Same.refl _, rfl⟩ ?_ ?_ ?_⟩
  · rintro i σ H' _ ⟨y, _, s1, _⟩
    exact SqT.of (s1 _ _ ep)
  · rintro i x σ H1 ex ⟨y, rfl, s1, hall⟩
    obtain ⟨dx, ed, ax⟩ := al.get ex
    have ax1 := ax.same s1
    have gx := hgs dx (List.mem_of_getElem? ed)
    have bad : isMrk resL dx = false → ∀ H2, Same H1 H2 → Q (.bl false) H2 := fun hb H2 s2 => by
      have h := q H2 (s1.trans s2)
      have e : isInk resL (.tuple ds) = false := all_bad ed hb
      rw [e] at h
      exact h
    refine go_name ?_
    refine ⟨fun σ H' => σ = [some (.ref p), some x, none] ∧ Same H1 H' ∧ ∃ a b c, dx = .tuple [a, b, c] ∧ isNm resL a = true, ?_, ?_⟩
    · refine ⟨fun b H' => Same H1 H' ∧ (b = true → isMrk resL dx = false) ∧ (b = false → ∃ a b c, dx = .tuple [a, b, c] ∧ isNm resL a = true), ?_, ?_⟩
      · refine ⟨_, rfl, _, _, _, _, _, rfl, .ty _, ax1.ty, kit_ty (kit_tup dx), _, rfl, ite2 (fun e => ?_) (fun e => ?_)⟩
        · refine ⟨Same.refl _, fun _ => ?_, fun z => by cases z⟩
          cases dx with
          | tuple ds => cases e
          | _ => rfl
        obtain ⟨es, rfl⟩ := tup_of (not_of_ne e)
        have ax2 := ax1
        cases ax1 with
        | @tup px ys _ nF2 ep2 al2 =>
        have l2 := al2.length
        refine ⟨_, rfl, px, _, rfl, .inr (SqT.of ep2), rfl, _, rfl, ite2 (fun e => ?_) (fun e => ?_)⟩
        · refine ⟨Same.refl _, fun _ => isMrk_len fun u => ?_, fun z => by cases z⟩
          rw [show decide (V.int (ys.length : Int) = V.int 3) = true from (lenI (k := 3) l2).trans (decide_eq_true u)] at e
          cases e
        obtain ⟨a, b, c, rfl⟩ := three_of (of_decide_eq_true ((lenI (k := 3) l2).symm.trans (not_of_ne e)))
        obtain ⟨p', x1, x2, x3, e0, _, e1, a1, a2, a3⟩ := Da3 ax2
        cases e0
        rw [ep2] at e1
        cases e1
        obtain ⟨n0, g1, g2, g3⟩ := Gn3 gx
        refine ⟨_, rfl, px, _, 0, x1, rfl, rfl, SqT.of ep2, atI_nat (j := 0) rfl, F, x1, a, w, rfl, a1, g1.mono (Nat.le_refl _) (by omega), hw, fun H2 s2 => ⟨_, rfl, s2, fun z => ?_, fun z => ⟨a, b, c, rfl, ?_⟩⟩⟩
        · simp [isMrk, not_of_eq z]
        · cases h : isNm resL a with
          | true => rfl
          | false => rw [h] at z; cases z
      rintro b H2 ⟨s2, h1, h2⟩
      exact ite2 (fun e => bad (h1 e) _ s2) (fun e => ⟨rfl, s2, h2 (Bool.eq_false_iff.mpr e)⟩)
    rintro _ H2 ⟨rfl, s2, a, b, c, rfl, ea⟩
    obtain ⟨px, x1, x2, x3, rfl, _, ep1, a1, a2, a3⟩ := Da3 ax1
    obtain ⟨n0, g1, g2, g3⟩ := Gn3 gx
    have ep2 := s2 _ _ ep1
    refine ⟨fun σ H' => σ = [some (.ref p), some (.ref px), none] ∧ H2 = H' ∧ isNum 0 b = true ∧ ∃ cs, c = .tuple cs, ?_, ?_⟩
    · refine ⟨fun t H' => H2 = H' ∧ (t = true → isMrk resL (.tuple [a, b, c]) = false) ∧ (t = false → isNum 0 b = true ∧ ∃ cs, c = .tuple cs), ?_, ?_⟩
      · refine ⟨_, rfl, px, _, 1, x2, rfl, rfl, SqT.of ep2, atI_nat (j := 1) rfl, F, x2, b, 0, rfl, a2.same s2, _, rfl, ite2 (fun e => ?_) (fun e => ?_)⟩
        · exact ⟨rfl, fun _ => by simp [isMrk, not_of_eq e], fun z => by cases z⟩
        have e1 := not_of_ne e
        refine ⟨_, rfl, px, _, 2, x3, rfl, rfl, SqT.of ep2, atI_nat (j := 2) rfl, _, _, _, _, _, rfl, .ty _, (a3.same s2).ty, kit_ty (kit_tup c), _, rfl, rfl, fun z => ?_, fun z => ⟨e1, tup_of ?_⟩⟩
        · have := not_of_eq z
          cases c with
          | tuple cs => cases this
          | _ => simp [isMrk, isPth]
        · cases h : isTup c with
          | true => rfl
          | false => rw [h] at z; cases z
      rintro b _ ⟨rfl, h1, h2⟩
      exact ite2 (fun e => bad (h1 e) _ s2) (fun e => ⟨rfl, rfl, h2 (Bool.eq_false_iff.mpr e)⟩)
    rintro _ _ ⟨rfl, rfl, eb, cs, rfl⟩
    obtain ⟨hlc, _, hgc⟩ := g3.tuple_inv
    have a3' := a3.same s2
    cases a3' with
    | @tup pc zs _ nFc epc alc =>
    have lz := alc.length
    refine ⟨_, rfl, px, _, 2, _, rfl, rfl, SqT.of ep2, atI_nat (j := 2) rfl, pc, rfl, ⟨_, SqT.of epc⟩, fun D nD => ?_⟩
    refine lcF pit_t (j := 2) (xs := zs) (cs.map fun d => !isNum 0 d) (by rw [List.length_map]; omega) (small1000 (by omega)) nD (fun H' s3 => SqT.of (s3 _ _ epc)) (fun i y z H' ey ez s3 Q' q' => ?_) (fun y H' Q' q' => ⟨y, rfl, q'⟩) (fun y => rfl) (fun H' acc s3 eD la ma ea2 => ?_)
    · obtain ⟨dy, edy, ay⟩ := alc.get ey
      rw [List.getElem?_map, edy] at ez
      cases ez
      exact ⟨_, rfl, F, y, dy, 0, rfl, ay.same s3, _, rfl, q' H' (Same.refl _)⟩
    · refine ⟨by decide, fun pe ne => ?_⟩
      have s4 := s3.trans (same_upd (o := .lst []) ne)
      obtain ⟨das, h1, h2, h3⟩ := dp_of (K := K) (alc.same s4) hgc acc ma
      refine ⟨.list das, .list [], .lst (SqL.of (same_upd ne _ _ eD)) h1, .lst (SqL.of upd_same) .nil, (Gn.list (w := max w das.length) (Nat.le_max_right _ _) fun d hd => (h3 d hd).mono (Nat.le_max_left _ _) (Nat.le_refl _)).shaped (by omega), by decide +kernel, _, rfl, ?_⟩
      have hp : das.isEmpty = isPth (.tuple cs) := by
        have e1 : isPth (.tuple cs) = (cs.map fun d => !isNum 0 d).all (fun b => !b) := by
          rw [List.all_map]
          simp only [isPth, Function.comp_def, Bool.not_not]
        rw [e1]
        cases acc with
        | nil =>
          rw [ea2.mp rfl]
          cases das with
          | nil => rfl
          | cons a b => cases h2
        | cons a b =>
          have : ¬ ((cs.map fun d => !isNum 0 d).all (fun b => !b) = true) := fun z => by
            have := ea2.mpr z
            cases this
          rw [Bool.eq_false_iff.mpr this]
          cases das with
          | nil => cases h2
          | cons a b => rfl
      rw [eqv_nil, hp]
      have hm : isMrk resL (.tuple [a, b, .tuple cs]) = isPth (.tuple cs) := by simp [isMrk, ea, eb]
      refine ite2 (fun e => bad (by rw [hm]; exact not_of_eq e) _ (s2.trans s4)) (fun e => ⟨_, rfl, (s1.trans s2).trans s4, take_all ed hall (by rw [hm]; exact not_of_ne e)⟩)
  · rintro σ H' ⟨y, rfl, s1, hall⟩
    have h := q H' s1
    have e : isInk resL (.tuple ds) = true := by
      rw [List.take_of_length_le (by omega)] at hall
      exact hall
    rw [e] at h
    exact h
/-! ### first, plain -/
theorem valV_cons {k1 k : Key} {v : V} {r : List (Key × V)} : valV ((k1, v) :: r) k = if k1 = k then some v else valV r k := by
  unfold valV
  rw [List.find?_cons]
  by_cases h : k1 = k
  · rw [if_pos h]
    simp [h]
  · rw [if_neg h]
    simp [h]
theorem valV_nil {k : Key} : valV ([] : List (Key × V)) k = none := rfl
def firstL (h : Str) : Nat := if h = "fun" then 1 else if h = "use" then 2 else if h = "made" then 0 else if atoms.contains h = true then 1 else 0
theorem merge3 {a b c : Str} {x y z : V} (h1 : a ≠ b) (h2 : a ≠ c) (h3 : b ≠ c) : mergeK [] [((.inr a : Key), x), (.inr b, y), (.inr c, z)] = [((.inr a : Key), x), (.inr b, y), (.inr c, z)] := by
  simp [mergeK, putK, h1, h2, h3, h1.symm, h2.symm, h3.symm]
def sp_firstL : Sp := fun vs H Q _ => ∃ h : Str, vs = [.str h] ∧ ∀ H', Same H H' → Q (.int (firstL h)) H'
theorem ok__law_first (T : Top K mg) : FnOk P w K mg base CX0 1 T._law_first T._law_first_d ["_law_head"] sp_firstL := by
  refine T._law_first_f.ok sc__law_first (fun vs H Q E h => ?_) (fun cdv A outer s H vs Q E hr h => ?_)
  · obtain ⟨h, rfl, _⟩ := h
    rfl
  obtain ⟨h, rfl, q⟩ := h
  -- slots: 0 _law_head
  refine ⟨_, (pss_one (ps_ret (pe_dget2 (hu_of hr) (pe_disp (pps_cons pe_str pe_int (pps_cons pe_str pe_int (pps_cons pe_str pe_int pps_nil))) (by rfl) (by rfl) (fun z => by cases z) (by decide)) (pv 0) (pe_callTy call_int1 (by rfl) T.int_n (by decide +kernel) (pa_cons (pe_cmpR op_in_seq (pv 0) (pe_tup (pa_cons pe_str (pa_cons pe_str (pa_cons pe_str (pa_cons pe_str (pa_cons pe_str (pa_cons pe_str pa_nil))))))) (by rfl)) pa_nil)) ⟨rfl, rfl, rfl, rfl⟩))), ?_⟩
  intro p np
  refine ⟨upd_same, [(.inr "fun", .int 1), (.inr "use", .int 2), (.inr "made", .int 0)], rfl, by decide, p, rfl, .inl ⟨_, .inl upd_same⟩, _, rfl, _, rfl, by decide, fun p2 np2 => ⟨p2, _, rfl, .inr (SqT.of upd_same), rfl, by decide, .inr ⟨_, rfl, ?_⟩⟩⟩
  refine ⟨_, .inl ⟨_, .inr h, .inl (same_upd np2 _ _ upd_same), rfl, rfl⟩, ?_⟩
  have sm : ∀ o, Same H (L2.upd _ p2 o) := fun o => (same_upd2 np).trans (same_upd np2)
  have hq := q _ (sm (.tup [.str "int", .str "quote", .str "flag", .str "global", .str "ref", .str "name"]))
  have e : ((valV (mergeK [] [((.inr "fun" : Key), V.int 1), (.inr "use", .int 2), (.inr "made", .int 0)]) (.inr h)).getD (.int (if inV (.str h) (atoms.map V.str) = true then 1 else 0))) = .int (firstL h) := by
    rw [merge3 (by decide) (by decide) (by decide), valV_cons, valV_cons, valV_cons, valV_nil, inV_str]
    unfold firstL
    by_cases h1 : h = "fun"
    · rw [if_pos (by rw [h1]), if_pos h1]; rfl
    rw [if_neg (fun z => h1 (Sum.inr.inj z).symm), if_neg h1]
    by_cases h2 : h = "use"
    · rw [if_pos (by rw [h2]), if_pos h2]; rfl
    rw [if_neg (fun z => h2 (Sum.inr.inj z).symm), if_neg h2]
    by_cases h3 : h = "made"
    · rw [if_pos (by rw [h3]), if_pos h3]; rfl
    rw [if_neg (fun z => h3 (Sum.inr.inj z).symm), if_neg h3]
    by_cases h4 : atoms.contains h = true
    · rw [if_pos h4, if_pos h4]; rfl
    · rw [if_neg h4, if_neg h4]; rfl
  rw [← e] at hq
  exact hq
end
end Sa

set_option Elab.async false
set_option linter.all false
set_option maxRecDepth 100000
set_option maxHeartbeats 4000000
namespace Sa
open PySem PySem.Spec PyProof.Rows L2
def atoms2 : List Str := ["int", "flag", "quote", "global", "ref", "name"]
def leastL (h : Str) : Int := if h = "int" then -(10 ^ 60) else if h = "ref" then 1 else 0
def ltD (l : Int) : PyData → Bool
  | .int i => decide (i < l)
  | _ => false
def manyL (h : Str) : Int := if h = "let" then 2 else if h = "try" then 2 else if h = "if" then 3 else (if onesL.contains h = true then 1 else 0) + 2 * (if twosL.contains h = true then 1 else 0)
def plainL (h : Str) (ds : List PyData) : Bool :=
  if atoms2.contains h = true then
    if ds.length = 1 then
      if (["quote", "global"] : List Str).contains h = true then isNm resL (ds.getD 0 .none)
      else if h = "flag" then isBool (ds.getD 0 .none)
      else isNum (leastL h) (ds.getD 0 .none)
    else false
  else if h = "fun" then decide (ds.length = 2) && (isNum 0 (ds.getD 0 .none) && ltD 5 (ds.getD 0 .none))
  else if h = "use" then decide (1 < ds.length) && (isNm resL (ds.getD 0 .none) && isNum ((ds.length : Int) - 2) (ds.getD 1 .none))
  else if 0 < manyL h then decide ((ds.length : Int) = manyL h) else ((["made", "list"] : List Str).contains h || (decide (h = "call") && decide (0 < ds.length)))
section
variable {P : Program} {w : World} {K : PySem.W.Frag} {mg : Str → Option Value} {base : Heap}
def sp_hl (n : Nat) : Sp := fun vs H Q _ => ∃ (F : AS) (h : Str) (v : V) (ds : List PyData) (w : Nat), vs = [.str h, v] ∧ Da F H v (.tuple ds) ∧ Gn w n (.tuple ds) ∧ w ≤ 1000 ∧ ∀ H', Same H H' → Q (.bl (plainL h ds)) H'
theorem ok__law_is_plain (T : Top K mg) {n : Nat} : FnOk P w K mg base CX0 4 T._law_is_plain T._law_is_plain_d ["_law_head", "_law_items"] (sp_hl n) := by
  refine T._law_is_plain_f.ok sc__law_is_plain (fun vs H Q E h => ?_) (fun cdv A outer s H vs Q E hr h => ?_)
  · obtain ⟨F, h, v, ds, w, rfl, _⟩ := h
    rfl
  obtain ⟨F, h, v, ds, w, rfl, ha, hg, hw, q⟩ := h
  obtain ⟨hl, _, hgs⟩ := hg.tuple_inv
  -- slots: 0 _law_head, 1 _law_items, 2 _law_many
  refine ⟨_, (pss_cons (ps_if (pt_cmpR op_in_seq (pv 0) (pe_tup (pa_cons pe_str (pa_cons pe_str (pa_cons pe_str (pa_cons pe_str (pa_cons pe_str (pa_cons pe_str pa_nil))))))) (by rfl)) (pss_cons (ps_if (pt_cmpR op_ne (pe_callB call_len_seq (by rfl) T.len_n (by decide +kernel) (pa_cons (pv 1) pa_nil)) pe_int (nomark _)) (pss_one (ps_ret pe_bl)) pss_nil)
      (pss_cons (ps_if (pt_cmpR op_in_seq (pv 0) (pe_tup (pa_cons pe_str (pa_cons pe_str pa_nil))) (by rfl)) (pss_one (ps_ret (pe_call (ok__law_is_name (n := n - 1) T) (hr.mono (by decide)) rfl T._law_is_name_g T._law_is_name_k T._law_is_name_b .nil pass0 (pa_cons (pe_ix ix_tup (pv 1) pe_int (fun _ _ => rfl)) pa_nil)))) pss_nil)
      (pss_cons (ps_if (pt_cmpR op_eq (pv 0) pe_str (nomark _)) (pss_one (ps_ret (pe_callB call_isi (by rfl) T.isinstance_n (by decide +kernel) (pa_cons (pe_ix ix_tup (pv 1) pe_int (fun _ _ => rfl)) (pa_cons (pe_bltn (v := .ty "bool") (u := .type "bool") (by rfl) T.bool_n (by decide +kernel) rfl) pa_nil))))) pss_nil)
      (pss_one (ps_ret (pe_call (ok__law_is_count T) (hr.mono (by decide)) rfl T._law_is_count_g T._law_is_count_k T._law_is_count_b .nil pass0 (pa_cons (pe_ix ix_tup (pv 1) pe_int (fun _ _ => rfl)) (pa_cons (pe_dget (hu_of hr) (pe_disp (pps_cons pe_str (pe_op op_sub pe_int (pe_op op_pow pe_int pe_int)) (pps_cons pe_str pe_int (pps_cons pe_str pe_int pps_nil))) (by rfl) (by rfl) (fun z => by cases z) (by decide)) (pv 0) (fun _ _ => rfl)) pa_nil)))))))) pss_nil)
      (pss_cons (ps_if (pt_cmpR op_eq (pv 0) pe_str (nomark _)) (pss_one (ps_ret (pe_and (pe_cmpR op_eq (pe_callB call_len_seq (by rfl) T.len_n (by decide +kernel) (pa_cons (pv 1) pa_nil)) pe_int (nomark _)) (pe_and (pe_call (ok__law_is_count T) (hr.mono (by decide)) rfl T._law_is_count_g T._law_is_count_k T._law_is_count_b .nil pass0 (pa_cons (pe_ix ix_tup (pv 1) pe_int (fun _ _ => rfl)) (pa_cons pe_int pa_nil))) (pe_one (pe_cmpR op_lt (pe_ix ix_tup (pv 1) pe_int (fun _ _ => rfl)) pe_int (nomark _))))))) pss_nil)
      (pss_cons (ps_if (pt_cmpR op_eq (pv 0) pe_str (nomark _)) (pss_one (ps_ret (pe_and (pe_cmpR op_gt (pe_callB call_len_seq (by rfl) T.len_n (by decide +kernel) (pa_cons (pv 1) pa_nil)) pe_int (nomark _)) (pe_and (pe_call (ok__law_is_name (n := n - 1) T) (hr.mono (by decide)) rfl T._law_is_name_g T._law_is_name_k T._law_is_name_b .nil pass0 (pa_cons (pe_ix ix_tup (pv 1) pe_int (fun _ _ => rfl)) pa_nil)) (pe_one (pe_call (ok__law_is_count T) (hr.mono (by decide)) rfl T._law_is_count_g T._law_is_count_k T._law_is_count_b .nil pass0 (pa_cons (pe_ix ix_tup (pv 1) pe_int (fun _ _ => rfl)) (pa_cons (pe_op op_sub (pe_callB call_len_seq (by rfl) T.len_n (by decide +kernel) (pa_cons (pv 1) pa_nil)) pe_int) pa_nil)))))))) pss_nil)
      (pss_cons (ps_set (i := 2) sc__law_is_plain.nd rfl (.inl rfl) (pe_mid (pe_dget2 (hu_of hr) (pe_disp (pps_cons pe_str pe_int (pps_cons pe_str pe_int (pps_cons pe_str pe_int pps_nil))) (by rfl) (by rfl) (fun z => by cases z) (by decide)) (pv 0) (pe_op op_add (pe_op op_mul pe_int (pe_callTy call_int1 (by rfl) T.int_n (by decide +kernel) (pa_cons (pe_cmpR op_in_seq (pv 0) (pe_call0 (ok__law_ones T) (hr.mono (by decide)) rfl T._law_ones_g T._law_ones_k T._law_ones_b .nil pass0) (by rfl)) pa_nil))) (pe_op op_mul pe_int (pe_callTy call_int1 (by rfl) T.int_n (by decide +kernel) (pa_cons (pe_cmpR op_in_seq (pv 0) (pe_call0 (ok__law_twos T) (hr.mono (by decide)) rfl T._law_twos_g T._law_twos_k T._law_twos_b .nil pass0) (by rfl)) pa_nil)))) ⟨rfl, rfl, rfl, rfl⟩)))
      (pss_one (ps_ret (pe_ifExp (pt_cmpR op_gt (pv 2) pe_int (nomark _)) (pe_cmpR op_eq (pe_callB call_len_seq (by rfl) T.len_n (by decide +kernel) (pa_cons (pv 1) pa_nil)) (pv 2) (nomark _)) (pe_or (pe_cmpR op_in_seq (pv 0) (pe_tup (pa_cons pe_str (pa_cons pe_str pa_nil))) (by rfl)) (pe_one (pe_and (pe_cmpR op_eq (pv 0) pe_str (nomark _)) (pe_one (pe_cmpR op_gt (pe_callB call_len_seq (by rfl) T.len_n (by decide +kernel) (pa_cons (pv 1) pa_nil)) pe_int (nomark _))))))))))))), ?_⟩
  have ha0 := ha
  cases ha with
  | @tup px xs _ nF ep al =>
  have lx := al.length
  unfold plainL at q
  refine ⟨_, rfl, by decide, fun p np => ⟨p, _, rfl, .inr (SqT.of upd_same), rfl, by decide, _, rfl, ite2 (fun e => ?_) (fun e => ?_)⟩⟩
  · have e0 : atoms2.contains h = true := by rw [← inV_str]; exact e
    rw [if_pos e0] at q
    have s1 := same_upd (o := .tup [.str "int", .str "flag", .str "quote", .str "global", .str "ref", .str "name"]) np
    refine ⟨_, rfl, px, xs, rfl, .inr (SqT.of (s1 _ _ ep)), rfl, _, rfl, ite2 (fun e => ?_) (fun e => ?_)⟩
    · have : ¬ ds.length = 1 := fun z => by
        rw [show (xs.length : Int) = 1 by omega] at e
        cases e
      rw [if_neg this] at q
      exact q _ s1
    have l1 : ds.length = 1 := by
      have z := of_decide_eq_true (not_of_ne e)
      have z' := V.int.inj z
      omega
    rw [if_pos l1] at q
    match ds, xs, al, l1 with
    | [d0], [v0], al, _ =>
    cases al with
    | cons a0 _ =>
    have g0 := hgs d0 (by simp)
    change ∀ H', Same H H' → Q (.bl (if (["quote", "global"] : List Str).contains h = true then isNm resL d0 else if h = "flag" then isBool d0 else isNum (leastL h) d0)) H' at q
    refine ⟨_, rfl, by decide, fun p2 np2 => ⟨p2, _, rfl, .inr (SqT.of upd_same), rfl, by decide, _, rfl, ite2 (fun e => ?_) (fun e => ?_)⟩⟩
    · have e' : (["quote", "global"] : List Str).contains h = true := by rw [← inV_str]; exact e
      rw [if_pos e'] at q
      have s2 := s1.trans (same_upd (o := .tup [.str "quote", .str "global"]) np2)
      exact ⟨_, rfl, px, _, 0, v0, rfl, rfl, SqT.of (s2 _ _ ep), atI_nat (j := 0) rfl, F, v0, d0, w, rfl, a0.same s2, g0, hw, fun H' s3 => q H' (s2.trans s3)⟩
    have e' : ¬ (["quote", "global"] : List Str).contains h = true := by rw [← inV_str]; exact e
    rw [if_neg e'] at q
    have s2 := s1.trans (same_upd (o := .tup [.str "quote", .str "global"]) np2)
    refine ⟨_, rfl, rfl, _, rfl, ite2 (fun e => ?_) (fun e => ?_)⟩
    · rw [if_pos (V.str.inj (of_decide_eq_true e))] at q
      exact ⟨_, rfl, px, _, 0, v0, rfl, rfl, SqT.of (s2 _ _ ep), atI_nat (j := 0) rfl, _, _, _, _, _, rfl, .ty _, (a0.same s2).ty, kit_ty (kit_bool d0), q _ s2⟩
    have nflag : h ≠ "flag" := fun z => e (decide_eq_true (congrArg V.str z))
    rw [if_neg nflag] at q
    have hh : h = "int" ∨ h = "ref" ∨ h = "name" := by
      have z1 := List.contains_iff_mem.mp e0
      have z2 : h ∉ (["quote", "global"] : List Str) := fun u => e' (List.contains_iff_mem.mpr u)
      simp only [atoms2, List.mem_cons, List.not_mem_nil, or_false] at z1 z2
      rcases z1 with z | z | z | z | z | z
      · exact .inl z
      · exact absurd z nflag
      · exact absurd (.inl z) z2
      · exact absurd (.inr z) z2
      · exact .inr (.inl z)
      · exact .inr (.inr z)
    refine ⟨_, rfl, px, _, 0, v0, rfl, rfl, SqT.of (s2 _ _ ep), atI_nat (j := 0) rfl, fun p3 np3 => ?_⟩
    refine ⟨_, _, rfl, rfl, ⟨by decide, by decide, by decide⟩, _, _, rfl, rfl, upd_same, [(.inr "int", .int (0 - 10 ^ 60)), (.inr "ref", .int 1), (.inr "name", .int 0)], rfl, by decide, _, rfl, ?_⟩
    have s3 : Same H (L2.upd _ p3 (.dK (mergeK [] [(.inr "int", .int (0 - 10 ^ 60)), (.inr "ref", .int 1), (.inr "name", .int 0)]))) := s2.trans (same_upd2 (o := .dK []) np3)
    refine ⟨p3, .int (leastL h), rfl, .inl ⟨_, .inr h, .inl upd_same, rfl, ?_⟩, F, v0, d0, leastL h, rfl, a0.same s3, q _ s3⟩
    rw [merge3 (by decide) (by decide) (by decide), valV_cons, valV_cons, valV_cons, valV_nil]
    unfold leastL
    rcases hh with rfl | rfl | rfl <;> decide
  · have e' : ¬ atoms2.contains h = true := by rw [← inV_str]; exact e
    rw [if_neg e'] at q
    have s1 := same_upd (o := .tup [.str "int", .str "flag", .str "quote", .str "global", .str "ref", .str "name"]) np
    have ep1 := s1 _ _ ep
    refine ⟨_, rfl, rfl, _, rfl, ite2 (fun e => ?_) (fun e => ?_)⟩
    · rw [if_pos (V.str.inj (of_decide_eq_true e))] at q
      refine ⟨_, rfl, px, xs, rfl, .inr (SqT.of ep1), rfl, _, rfl, ite2 (fun e2 => ?_) (fun e2 => ?_)⟩
      · have l2 : ds.length = 2 := of_decide_eq_true ((lenI (k := 2) lx).symm.trans e2)
        rw [decide_eq_true l2, Bool.true_and] at q
        match ds, xs, al, l2 with
        | [d0, d1], [v0, v1], al, _ =>
        cases al with
        | cons a0 _ =>
        change ∀ H', Same H H' → Q (.bl (isNum 0 d0 && ltD 5 d0)) H' at q
        refine ⟨_, rfl, px, _, 0, v0, rfl, rfl, SqT.of ep1, atI_nat (j := 0) rfl, F, v0, d0, 0, rfl, a0.same s1, _, rfl, ite2 (fun e3 => ?_) (fun e3 => ?_)⟩
        · rw [e3, Bool.true_and] at q
          obtain ⟨i0, rfl⟩ : ∃ i, d0 = .int i := by
            cases d0 with
            | int i => exact ⟨i, rfl⟩
            | _ => cases e3
          cases a0
          exact ⟨_, rfl, px, _, 0, .int i0, rfl, rfl, SqT.of ep1, atI_nat (j := 0) rfl, _, _, rfl, rfl, q _ s1⟩
        · rw [Bool.eq_false_iff.mpr e3, Bool.false_and] at q
          exact q _ s1
      · have l2 : ¬ ds.length = 2 := fun z => e2 ((lenI (k := 2) lx).trans (decide_eq_true z))
        rw [decide_eq_false l2, Bool.false_and] at q
        exact q _ s1
    rw [if_neg (fun z => e (decide_eq_true (congrArg V.str z)))] at q
    refine ⟨_, rfl, rfl, _, rfl, ite2 (fun e => ?_) (fun e => ?_)⟩
    · rw [if_pos (V.str.inj (of_decide_eq_true e))] at q
      refine ⟨_, rfl, px, xs, rfl, .inr (SqT.of ep1), _, _, rfl, rfl, _, rfl, ite2 (fun e2 => ?_) (fun e2 => ?_)⟩
      · have l2 : 1 < ds.length := by
          have := of_decide_eq_true e2
          omega
        rw [decide_eq_true l2, Bool.true_and] at q
        match ds, xs, al, l2 with
        | d0 :: d1 :: dr, v0 :: v1 :: vr, al, _ =>
        cases al with
        | cons a0 al =>
        cases al with
        | cons a1 al =>
        change ∀ H', Same H H' → Q (.bl (isNm resL d0 && isNum (((d0 :: d1 :: dr).length : Int) - 2) d1)) H' at q
        refine ⟨_, rfl, px, _, 0, v0, rfl, rfl, SqT.of ep1, atI_nat (j := 0) rfl, F, v0, d0, w, rfl, a0.same s1, hgs d0 (by simp), hw, fun H2 s2 => ⟨_, rfl, ite2 (fun e3 => ?_) (fun e3 => ?_)⟩⟩
        · rw [e3, Bool.true_and] at q
          have s12 := s1.trans s2
          refine ⟨_, rfl, px, _, 1, v1, rfl, rfl, SqT.of (s2 _ _ ep1), atI_nat (j := 1) rfl, _, rfl, px, _, rfl, .inr (SqT.of (s2 _ _ ep1)), _, _, rfl, rfl, F, v1, d1, _, rfl, a1.same s12, ?_⟩
          have q2 := q _ s12
          rw [show ((d0 :: d1 :: dr).length : Int) = (((v0 :: v1 :: vr).length : Nat) : Int) by rw [lx]] at q2
          exact q2
        · rw [Bool.eq_false_iff.mpr e3, Bool.false_and] at q
          exact q _ (s1.trans s2)
      · have l2 : ¬ 1 < ds.length := fun z => e2 (decide_eq_true (by omega))
        rw [decide_eq_false l2, Bool.false_and] at q
        exact q _ s1
    rw [if_neg (fun z => e (decide_eq_true (congrArg V.str z)))] at q
    refine ⟨fun v H' => v = .int (manyL h) ∧ Same (L2.upd H p (.tup [.str "int", .str "flag", .str "quote", .str "global", .str "ref", .str "name"])) H', ?_, ?_⟩
    · intro pd npd
      refine ⟨upd_same, [(.inr "let", .int 2), (.inr "try", .int 2), (.inr "if", .int 3)], rfl, by decide, pd, rfl, .inl ⟨_, .inl upd_same⟩, _, rfl, ?_⟩
      refine ⟨_, rfl, rfl, fun q1 nq1 => ⟨q1, _, rfl, .inl (SqL.of upd_same), rfl, by decide, .inr ⟨_, rfl, _, _, rfl, rfl, .inl ⟨by decide, by decide⟩, _, rfl, rfl, fun q2 nq2 => ⟨q2, _, rfl, .inl (SqL.of upd_same), rfl, by decide, .inr ⟨_, rfl, _, _, rfl, rfl, .inl ⟨by decide, by decide⟩, _, _, rfl, rfl, ?_⟩⟩⟩⟩⟩
      refine ⟨_, .inl ⟨_, .inr h, .inl (same_upd nq2 _ _ (same_upd nq1 _ _ upd_same)), rfl, rfl⟩, ?_, ((same_upd2 npd).trans (same_upd nq1)).trans (same_upd nq2)⟩
      show ((valV (mergeK [] [((.inr "let" : Key), V.int 2), (.inr "try", .int 2), (.inr "if", .int 3)]) (.inr h)).getD (.int (1 * (if inV (.str h) (onesL.map V.str) = true then 1 else 0) + 2 * (if inV (.str h) (twosL.map V.str) = true then 1 else 0)))) = .int (manyL h)
      rw [merge3 (by decide) (by decide) (by decide), valV_cons, valV_cons, valV_cons, valV_nil, inV_str, inV_str]
      unfold manyL
      by_cases h1 : h = "let"
      · rw [if_pos (by rw [h1]), if_pos h1]; rfl
      rw [if_neg (fun z => h1 (Sum.inr.inj z).symm), if_neg h1]
      by_cases h2 : h = "try"
      · rw [if_pos (by rw [h2]), if_pos h2]; rfl
      rw [if_neg (fun z => h2 (Sum.inr.inj z).symm), if_neg h2]
      by_cases h3 : h = "if"
      · rw [if_pos (by rw [h3]), if_pos h3]; rfl
      rw [if_neg (fun z => h3 (Sum.inr.inj z).symm), if_neg h3, Int.one_mul]
      rfl
    rintro _ H2 ⟨rfl, s2⟩
    have s12 := s1.trans s2
    have ep2 := s2 _ _ ep1
    refine go_name ?_
    refine ⟨_, rfl, _, _, rfl, rfl, _, rfl, ite2 (fun e => ?_) (fun e => ?_)⟩
    · rw [if_pos (of_decide_eq_true e)] at q
      refine ⟨_, rfl, px, xs, rfl, .inr (SqT.of ep2), _, rfl, rfl, ?_⟩
      have q2 := q _ s12
      rw [show decide ((ds.length : Int) = manyL h) = decide (V.int (xs.length : Int) = V.int (manyL h)) by
        by_cases z : (ds.length : Int) = manyL h
        · rw [decide_eq_true z, decide_eq_true (by rw [lx, z])]
        · rw [decide_eq_false z, decide_eq_false fun y => z (by rw [← lx]; exact V.int.inj y)]] at q2
      exact q2
    · rw [if_neg (fun z => e (decide_eq_true z))] at q
      refine ⟨_, rfl, by decide, fun p3 np3 => ⟨p3, _, rfl, .inr (SqT.of upd_same), rfl, by decide, _, rfl, ite2 (fun e3 => ?_) (fun e3 => ?_)⟩⟩
      · have e4 : (["made", "list"] : List Str).contains h = true := by rw [← inV_str]; exact e3
        rw [e4, Bool.true_or] at q
        exact q _ (s12.trans (same_upd np3))
      · have e4 : (["made", "list"] : List Str).contains h = false := by rw [← inV_str]; exact Bool.eq_false_iff.mpr e3
        rw [e4, Bool.false_or] at q
        have s3 := s12.trans (same_upd (o := .tup [.str "made", .str "list"]) np3)
        refine ⟨_, rfl, rfl, _, rfl, ite2 (fun e5 => ?_) (fun e5 => ?_)⟩
        · rw [decide_eq_true (V.str.inj (of_decide_eq_true e5)), Bool.true_and] at q
          refine ⟨_, rfl, px, xs, rfl, .inr (SqT.of (s3 _ _ ep)), _, _, rfl, rfl, ?_⟩
          have q2 := q _ s3
          rw [show decide (0 < ds.length) = decide ((0 : Int) < (xs.length : Int)) by
            by_cases z : 0 < ds.length
            · rw [decide_eq_true z, decide_eq_true (by omega)]
            · rw [decide_eq_false z, decide_eq_false (by omega)]] at q2
          exact q2
        · rw [decide_eq_false (fun z => e5 (decide_eq_true (congrArg V.str z))), Bool.false_and] at q
          exact q _ s3
end
end Sa

set_option Elab.async false
set_option linter.all false
set_option maxRecDepth 100000
set_option maxHeartbeats 4000000
namespace Sa
open PySem PySem.Spec PyProof.Rows L2
def headsL : List Str := resL.take 14 ++ onesL ++ twosL
def litL : List Str := ["int", "quote", "flag", "global", "made", "ref"]
def valsL : List Str := ["int", "quote", "flag", "global", "made", "ref", "fun", "use"]
def valOk : PyData → Bool
  | .tuple (.str x :: _) => valsL.contains x
  | _ => false
def nodeL : PyData → Option (Str × List PyData)
  | .tuple [.str h, ik, .tuple ds] =>
    if isInk resL ik && headsL.contains h && plainL h ds && !(litL.contains h && !isUnit ik) then some (h, ds.drop (firstL h)) else none
  | _ => none
def kidOk (h : Str) (k : PyData) : Bool := !(decide (h = "made") && !valOk k)
def treeL : Nat → PyData → Bool
  | 0, _ => false
  | n + 1, d => match nodeL d with
    | none => false
    | some (h, ks) => ks.all fun k => treeL n k && kidOk h k
theorem nodeL_kid {d : PyData} {h : Str} {ks : List PyData} (e : nodeL d = some (h, ks)) : ∃ ik ds, d = .tuple [.str h, ik, .tuple ds] ∧ ks = ds.drop (firstL h) := by
  unfold nodeL at e
  split at e
  · rename_i hd ik ds
    split at e
    · cases e
      exact ⟨ik, ds, rfl, rfl⟩
    · cases e
  · cases e
theorem kidL_depth {d : PyData} {h : Str} {ks : List PyData} (e : nodeL d = some (h, ks)) : ∀ k ∈ ks, k.depth + 2 ≤ d.depth := by
  obtain ⟨ik, ds, rfl, rfl⟩ := nodeL_kid e
  intro k hk
  have h1 := depth3 (.str h) ik ds
  have h2 := depthAll_iff.mp (Nat.le_refl (PyData.depthAll ds)) k (List.mem_of_mem_drop hk)
  omega
theorem treeL_fuel : ∀ (n m : Nat) (d : PyData), d.depth < n → d.depth < m → treeL n d = treeL m d
  | 0, _, d, h, _ => by omega
  | _, 0, d, _, h => by omega
  | n + 1, m + 1, d, h1, h2 => by
    unfold treeL
    cases e : nodeL d with
    | none => rfl
    | some p =>
      obtain ⟨h, ks⟩ := p
      refine all_congr fun k hk => ?_
      have := kidL_depth e k hk
      rw [treeL_fuel n m k (by omega) (by omega)]
def isTreeL (d : PyData) : Bool := treeL (d.depth + 1) d
theorem isTreeL_eq (d : PyData) : isTreeL d = match nodeL d with | none => false | some (h, ks) => ks.all fun k => isTreeL k && kidOk h k := by
  unfold isTreeL
  rw [treeL]
  cases e : nodeL d with
  | none => rfl
  | some p =>
    obtain ⟨h, ks⟩ := p
    refine all_congr fun k hk => ?_
    have := kidL_depth e k hk
    rw [treeL_fuel _ (k.depth + 1) k (by omega) (by omega)]
theorem nodeL_tup {d : PyData} (h : isTup d = false) : nodeL d = none := by
  cases d with
  | tuple ds => cases h
  | _ => rfl
theorem nodeL_len {ds : List PyData} (h : ¬ ds.length = 3) : nodeL (.tuple ds) = none := by
  cases hn : nodeL (.tuple ds) with
  | none => rfl
  | some p =>
    obtain ⟨hd, ks⟩ := p
    obtain ⟨ik, ds', e, _⟩ := nodeL_kid hn
    cases e
    exact absurd rfl h
theorem nodeL_str {a b c : PyData} (h : isStr a = false) : nodeL (.tuple [a, b, c]) = none := by
  cases a with
  | str x => cases h
  | _ => rfl
theorem nodeL_items {a b c : PyData} (h : isTup c = false) : nodeL (.tuple [a, b, c]) = none := by
  cases a with
  | str x =>
    cases c with
    | tuple ds => cases h
    | _ => rfl
  | _ => rfl
theorem nodeL_of {h : Str} {ik : PyData} {ds : List PyData} : nodeL (.tuple [.str h, ik, .tuple ds]) =
    if isInk resL ik && headsL.contains h && plainL h ds && !(litL.contains h && !isUnit ik) then some (h, ds.drop (firstL h)) else none := rfl
theorem isTreeL_head {k : PyData} (h : isTreeL k = true) : ∃ hd ik ds, k = .tuple [.str hd, ik, .tuple ds] := by
  rw [isTreeL_eq] at h
  cases e : nodeL k with
  | none => rw [e] at h; cases h
  | some p =>
    obtain ⟨hd, ks⟩ := p
    obtain ⟨ik, ds, rfl, _⟩ := nodeL_kid e
    exact ⟨hd, ik, ds, rfl⟩
theorem cut14 : cutV (resL.map V.str) none (some 14) = (resL.take 14).map V.str := by decide +kernel
section
variable {P : Program} {w : World} {K : PySem.W.Frag} {mg : Str → Option Value} {base : Heap}
def sp_tl (m : Nat) : Sp := fun vs H Q _ => ∃ (F : AS) (v : V) (d : PyData) (w n : Nat), vs = [v] ∧ Da F H v d ∧ Gn w n d ∧ n < m ∧ n ≤ 60 ∧ w ≤ 1000 ∧ ∀ H', Same H H' → Q (.bl (isTreeL d)) H'
theorem tl0 {f : Addr} {fd : FuncData} : FnOk P w K mg base CX0 5 f fd ["_law_thing"] (sp_tl 0) :=
  ⟨fun vs H Q E h => by obtain ⟨F, v, d, w, n, _, _, _, h, _⟩ := h; omega, fun A outer s H args us vs Q E _ _ _ _ h => by obtain ⟨F, v, d, w, n, _, _, _, h, _⟩ := h; omega⟩
theorem tl1 (T : Top K mg) {m : Nat} (IH : FnOk P w K mg base CX0 (m + 5) T._law_is_tree T._law_is_tree_d ["_law_thing"] (sp_tl m)) :
    FnOk P w K mg base CX0 (m + 6) T._law_is_tree T._law_is_tree_d ["_law_thing"] (sp_tl (m + 1)) := by
  refine T._law_is_tree_f.ok sc__law_is_tree (fun vs H Q E h => ?_) (fun cdv A outer s H vs Q E hr h => ?_)
  · obtain ⟨F, v, d, w, n, rfl, _⟩ := h
    rfl
  obtain ⟨F, v, d, w, n, rfl, ha, hg, hnm, hn, hw, q⟩ := h
  have hr4 : Room 4 _ := hr.mono (by omega)
  have hr2 : Room 2 _ := hr.mono (by omega)
  have hr1 : Room 1 _ := hr.mono (by omega)
  have hn1 : n - 1 ≤ 60 := by omega
  -- slots: 0 _law_thing, 1 _law_head, 2 _law_ink, 3 _law_items, 4 _law_values, 5 _law_kid
  refine ⟨_, (pss_mid (ps_if (pt_mid (PW.pt (pw_or (pt_not (pt_val (pe_callB call_isi (by rfl) T.isinstance_n (by decide +kernel) (pa_cons (pv 0) (pa_cons (pe_bltn (v := .ty "tuple") (u := .type "tuple") (by rfl) T.tuple_n (by decide +kernel) rfl) pa_nil))))) (pw_or1 (pt_cmpR op_ne (pe_callB call_len_seq (by rfl) T.len_n (by decide +kernel) (pa_cons (pv 0) pa_nil)) pe_int (nomark _)))))) (pss_one (ps_ret pe_bl)) pss_nil)
      (pss_cons (ps_asg (pv 0) (pg_tup rfl (pgs_cons (pg_name (i := 1) sc__law_is_tree.nd rfl (.inl rfl)) (pgs_cons (pg_name (i := 2) sc__law_is_tree.nd rfl (.inl rfl)) (pgs_cons (pg_name (i := 3) sc__law_is_tree.nd rfl (.inl rfl)) pgs_nil)))))
      (pss_mid (ps_if (pt_mid (PW.pt (pw_or (pt_not (pt_val (pe_callB call_isi (by rfl) T.isinstance_n (by decide +kernel) (pa_cons (pv 1) (pa_cons (pe_bltn (v := .ty "str") (u := .type "str") (by rfl) T.str_n (by decide +kernel) rfl) pa_nil))))) (pw_or (pt_not (pt_val (pe_call (ok__law_is_ink (n := n - 1) T hn1) hr4 rfl T._law_is_ink_g T._law_is_ink_k T._law_is_ink_b .nil pass0 (pa_cons (pv 2) pa_nil)))) (pw_or1 (pt_not (pt_val (pe_callB call_isi (by rfl) T.isinstance_n (by decide +kernel) (pa_cons (pv 3) (pa_cons (pe_bltn (v := .ty "tuple") (u := .type "tuple") (by rfl) T.tuple_n (by decide +kernel) rfl) pa_nil)))))))))) (pss_one (ps_ret pe_bl)) pss_nil)
      (pss_mid (ps_if (pt_mid (PW.pt (pw_or (pt_cmpR op_notIn_seq (pv 1) (pe_op op_cat (pe_op op_cat (pe_slice sl_list (pe_call0 (ok__law_reserved T) hr2 rfl T._law_reserved_g T._law_reserved_k T._law_reserved_b .nil pass0) po_none (po_some pe_int)) (pe_call0 (ok__law_ones T) hr1 rfl T._law_ones_g T._law_ones_k T._law_ones_b .nil pass0)) (pe_call0 (ok__law_twos T) hr1 rfl T._law_twos_g T._law_twos_k T._law_twos_b .nil pass0)) (by rfl)) (pw_or1 (pt_not (pt_val (pe_call (ok__law_is_plain (n := n - 1) T) hr4 rfl T._law_is_plain_g T._law_is_plain_k T._law_is_plain_b .nil pass0 (pa_cons (pv 1) (pa_cons (pv 3) pa_nil))))))))) (pss_one (ps_ret pe_bl)) pss_nil)
      (pss_mid (ps_if (pt_mid (PW.pt (pw_and (pt_cmpR op_in_seq (pv 1) (pe_tup (pa_cons pe_str (pa_cons pe_str (pa_cons pe_str (pa_cons pe_str (pa_cons pe_str (pa_cons pe_str pa_nil))))))) (by rfl)) (pw_and1 (pt_cmpR (op_neD hr.units) (pv 2) (pe_tup pa_nil) (nomark _)))))) (pss_one (ps_ret pe_bl)) pss_nil)
      (pss_cons (ps_set (i := 4) sc__law_is_tree.nd rfl (.inl rfl) (pe_tup (pa_cons pe_str (pa_cons pe_str (pa_cons pe_str (pa_cons pe_str (pa_cons pe_str (pa_cons pe_str (pa_cons pe_str (pa_cons pe_str pa_nil))))))))))
      (pss_cons (ps_for PassesOwn.never rfl (pi_tup (pe_mid (pe_slice sl_tupA (pv 3) (po_some (pe_call (ok__law_first T) hr1 rfl T._law_first_g T._law_first_k T._law_first_b .nil pass0 (pa_cons (pv 1) pa_nil))) po_none))) (pg_name (i := 5) sc__law_is_tree.nd rfl (.inl rfl)) (pss_one (ps_if (pt_mid (PW.pt (pw_or (pt_not (pt_val (pe_call IH hr rfl T._law_is_tree_g T._law_is_tree_k T._law_is_tree_b .nil pass0 (pa_cons (pv 5) pa_nil)))) (pw_or1 (PW.pt (pw_and (pt_cmpR op_eq (pv 1) pe_str (nomark _)) (pw_and1 (pt_cmpR op_notIn_seq (pe_ix ix_tup (pv 5) pe_int (fun _ _ => rfl)) (pv 4) (by rfl))))))))) (pss_one (ps_ret pe_bl)) pss_nil)))
      (pss_one (ps_ret pe_bl))))))))), ?_⟩
  have bad : nodeL d = none → ∀ H3, Same H H3 → Q (.bl false) H3 := fun hb H3 s3 => by
    have h := q H3 s3
    rw [isTreeL_eq, hb] at h
    exact h
  refine ⟨fun σ H' => σ = [some v, none, none, none, none, none] ∧ H = H' ∧ ∃ a b c, d = .tuple [a, b, c], ?_, ?_⟩
  · refine ⟨fun b H' => H = H' ∧ (b = true → nodeL d = none) ∧ (b = false → ∃ a b c, d = .tuple [a, b, c]), ?_, ?_⟩
    · refine ⟨_, rfl, _, _, _, _, _, rfl, .ty _, ha.ty, kit_ty (kit_tup d), _, rfl, ite2 (fun e => ?_) (fun e => ?_)⟩
      · exact ⟨rfl, fun _ => nodeL_tup (not_of_eq e), fun z => by cases z⟩
      obtain ⟨es, rfl⟩ := tup_of (not_of_ne e)
      cases ha with
      | @tup px ys _ nF2 ep2 al2 =>
      have l2 := al2.length
      refine ⟨_, rfl, px, _, rfl, .inr (SqT.of ep2), rfl, _, rfl, rfl, fun z => ?_, fun z => ?_⟩
      · refine nodeL_len fun u => ?_
        rw [show decide (V.int (ys.length : Int) = V.int 3) = true from (lenI (k := 3) l2).trans (decide_eq_true u)] at z
        cases z
      · have u : decide (V.int (ys.length : Int) = V.int 3) = true := by
          cases h : decide (V.int (ys.length : Int) = V.int 3) with
          | true => rfl
          | false => rw [h] at z; cases z
        obtain ⟨a, b, c, rfl⟩ := three_of (of_decide_eq_true ((lenI (k := 3) l2).symm.trans u))
        exact ⟨a, b, c, rfl⟩
    rintro b _ ⟨rfl, h1, h2⟩
    exact ite2 (fun e => bad (h1 e) _ (Same.refl _)) (fun e => ⟨rfl, rfl, h2 (Bool.eq_false_iff.mpr e)⟩)
  rintro _ _ ⟨rfl, rfl, a, b, c, rfl⟩
  obtain ⟨p, x1, x2, x3, rfl, _, ep, a1, a2, a3⟩ := Da3 ha
  obtain ⟨n0, g1, g2, g3⟩ := Gn3 hg
  refine ⟨_, rfl, p, [x1, x2, x3], rfl, SqT.of ep, rfl, x1, [x2, x3], rfl, x2, [x3], rfl, x3, [], rfl, rfl, ?_⟩
  refine ⟨fun σ H' => σ = [some (.ref p), some x1, some x2, some x3, none, none] ∧ Same H H' ∧ ∃ h es, a = .str h ∧ c = .tuple es ∧ isInk resL b = true, ?_, ?_⟩
  · refine ⟨fun t H' => Same H H' ∧ (t = true → nodeL (.tuple [a, b, c]) = none) ∧ (t = false → ∃ h es, a = .str h ∧ c = .tuple es ∧ isInk resL b = true), ?_, ?_⟩
    · refine ⟨_, rfl, _, _, _, _, _, rfl, .ty _, a1.ty, kit_ty (kit_str a), _, rfl, ite2 (fun e => ?_) (fun e => ?_)⟩
      · exact ⟨Same.refl _, fun _ => nodeL_str (not_of_eq e), fun z => by cases z⟩
      obtain ⟨h, rfl⟩ := str_of (not_of_ne e)
      refine ⟨_, rfl, F, x2, b, w, rfl, a2, g2, hw, fun H3 s3 => ⟨_, rfl, ite2 (fun e => ?_) (fun e => ?_)⟩⟩
      · refine ⟨s3, fun _ => ?_, fun z => by cases z⟩
        cases c with
        | tuple es => rw [nodeL_of, not_of_eq e]; rfl
        | _ => rfl
      have e2 := not_of_ne e
      refine ⟨_, rfl, _, _, _, _, _, rfl, .ty _, (a3.same s3).ty, kit_ty (kit_tup c), _, rfl, s3, fun z => nodeL_items (not_of_eq z), fun z => ?_⟩
      obtain ⟨es, rfl⟩ := tup_of (d := c) (by cases h : isTup c with | true => rfl | false => rw [h] at z; cases z)
      exact ⟨h, es, rfl, rfl, e2⟩
    rintro t H3 ⟨s3, h1, h2⟩
    exact ite2 (fun e => bad (h1 e) _ s3) (fun e => ⟨rfl, s3, h2 (Bool.eq_false_iff.mpr e)⟩)
  rintro _ H2 ⟨rfl, s2, h, es, rfl, rfl, e2⟩
  cases a1
  refine ⟨fun σ H' => σ = [some (.ref p), some (.str h), some x2, some x3, none, none] ∧ Same H H' ∧ headsL.contains h = true ∧ plainL h es = true, ?_, ?_⟩
  · refine ⟨fun t H' => Same H H' ∧ (t = true → nodeL (.tuple [.str h, b, .tuple es]) = none) ∧ (t = false → headsL.contains h = true ∧ plainL h es = true), ?_, ?_⟩
    · refine ⟨_, rfl, rfl, fun r1 H3 nr1 s3 er1 => ⟨_, rfl, r1, _, rfl, SqL.of er1, fun r2 nr2 => ⟨rfl, fun r3 nr3 => ⟨r2, r3, _, _, rfl, rfl, same_upd nr3 _ _ upd_same, upd_same, by decide +kernel, fun r4 nr4 => ⟨rfl, fun r5 nr5 => ⟨r4, r5, _, _, rfl, rfl, same_upd nr5 _ _ upd_same, upd_same, by decide +kernel, fun r6 nr6 => ?_⟩⟩⟩⟩⟩⟩
      have sm : ∀ o, Same H3 (L2.upd _ r6 o) := fun o => ((((same_upd nr2).trans (same_upd nr3)).trans (same_upd nr4)).trans (same_upd nr5)).trans (same_upd nr6)
      have hlst : cutV (resL.map V.str) none (some 14) ++ onesL.map V.str ++ twosL.map V.str = headsL.map V.str := by decide +kernel
      refine ⟨r6, _, rfl, .inl (SqL.of upd_same), rfl, by decide +kernel, _, rfl, ite2 (fun e => ?_) (fun e => ?_)⟩
      · have e' : headsL.contains h = false := by
          rw [← inV_str, ← hlst]
          exact not_of_eq e
        refine ⟨(s2.trans s3).trans (sm _), fun _ => ?_, fun z => by cases z⟩
        rw [nodeL_of, e']
        simp
      have e3 : headsL.contains h = true := by
        rw [← inV_str, ← hlst]
        exact not_of_ne e
      refine ⟨_, rfl, _, rfl, F, h, x3, es, w, rfl, a3.same ((s2.trans s3).trans (sm _)), g3, hw, fun H5 s5 => ⟨_, rfl, ((s2.trans s3).trans (sm _)).trans s5, fun z => ?_, fun z => ⟨e3, ?_⟩⟩⟩
      · rw [nodeL_of, not_of_eq z]
        simp
      · cases hp : plainL h es with
        | true => rfl
        | false => rw [hp] at z; cases z
    rintro t H3 ⟨s3, h1, h2⟩
    exact ite2 (fun e => bad (h1 e) _ s3) (fun e => ⟨rfl, s3, h2 (Bool.eq_false_iff.mpr e)⟩)
  rintro _ H3 ⟨rfl, s3, e3, e4⟩
  refine ⟨fun σ H' => σ = [some (.ref p), some (.str h), some x2, some x3, none, none] ∧ Same H H' ∧ (litL.contains h && !isUnit b) = false, ?_, ?_⟩
  · refine ⟨fun t H' => Same H H' ∧ t = (litL.contains h && !isUnit b), ?_, ?_⟩
    · refine ⟨_, rfl, by decide, fun p1 np1 => ⟨p1, _, rfl, .inr (SqT.of upd_same), rfl, by decide, _, rfl, ite2 (fun e => ?_) (fun e => ?_)⟩⟩
      · have eL : litL.contains h = true := by rw [← inV_str]; exact e
        refine ⟨_, rfl, by decide, fun p2 np2 => ?_⟩
        have s4 : Same H _ := (s3.trans (same_upd np1)).trans (same_upd (o := .tup []) np2)
        refine ⟨b, .tuple [], (a2.same s4).dp _ _, .tup (SqT.of upd_same) .nil, g2.shaped (by omega), by decide +kernel, _, rfl, s4, ?_⟩
        rw [eqv_unit, eL, Bool.true_and]
      · have eL : litL.contains h = false := by rw [← inV_str]; exact Bool.eq_false_iff.mpr e
        exact ⟨s3.trans (same_upd np1), by rw [eL, Bool.false_and]⟩
    rintro t H4 ⟨s4, rfl⟩
    refine ite2 (fun e => bad ?_ _ s4) (fun e => ⟨rfl, s4, Bool.eq_false_iff.mpr e⟩)
    rw [nodeL_of, e]
    simp
  rintro _ H4 ⟨rfl, s4, e5⟩
  have hnode : nodeL (.tuple [.str h, b, .tuple es]) = some (h, es.drop (firstL h)) := by
    rw [nodeL_of, e2, e3, e4, e5]
    rfl
  have hkd := kidL_depth hnode
  have htr : isTreeL (.tuple [.str h, b, .tuple es]) = (es.drop (firstL h)).all fun k => isTreeL k && kidOk h k := by
    rw [isTreeL_eq, hnode]
  obtain ⟨hlw, hn1', hges⟩ := g3.tuple_inv
  refine go_asg ⟨by decide, fun pv npv => go_name ?_⟩
  have s5 := s4.trans (same_upd (o := .tup [.str "int", .str "quote", .str "flag", .str "global", .str "made", .str "ref", .str "fun", .str "use"]) npv)
  have epv : (L2.upd H4 pv (.tup [.str "int", .str "quote", .str "flag", .str "global", .str "made", .str "ref", .str "fun", .str "use"])) pv = _ := upd_same
  generalize L2.upd H4 pv (.tup [.str "int", .str "quote", .str "flag", .str "global", .str "made", .str "ref", .str "fun", .str "use"]) = H5 at s5 epv
  cases a3 with
  | @tup p3 zs _ nF3 ep3 al3 =>
  have lz := al3.length
  refine ⟨fun u H' => Same H5 H' ∧ ∃ l, u = .ref l ∧ H' l = some (.tup (zs.drop (firstL h))), ?_, ?_⟩
  · refine ⟨_, rfl, _, rfl, h, rfl, fun H6 s6 => ⟨_, rfl, p3, zs, rfl, SqT.of (s6 _ _ (s5 _ _ ep3)), fun z => ?_, fun z l nl => ?_⟩⟩
    · refine ⟨s6, p3, rfl, ?_⟩
      rw [s6 _ _ (s5 _ _ ep3), show zs.drop (firstL h) = zs by rw [← cutVA_from zs (firstL h), cutVA_all z]]
    · refine ⟨s6.trans (same_upd nl), l, rfl, ?_⟩
      rw [upd_same, cutVA_from]
  rintro _ H6 ⟨s6, l, rfl, el⟩
  have s56 := s5.trans s6
  have alk := al3.drop (firstL h)
  have lk := alk.length
  refine ⟨l, rfl, ⟨_, SqT.of el⟩, for_tup (K := K) (a := l) (xs := zs.drop (firstL h)) (fun i σ H' => ∃ y, σ = [some (.ref p), some (.str h), some x2, some (.ref p3), some (.ref pv), y] ∧ Same H6 H' ∧ ((es.drop (firstL h)).take i).all (fun k => isTreeL k && kidOk h k) = true) ⟨none, rfl, Same.refl _, rfl⟩ ?_ ?_ ?_⟩
  · rintro i σ H' _ ⟨y, _, s7, _⟩
    exact SqT.of (s7 _ _ el)
  · rintro i x σ H7 ex ⟨y, rfl, s7, hall⟩
    obtain ⟨dx, ed, ax⟩ := alk.get ex
    have s67 := s56.trans s7
    have gx := hges dx (List.mem_of_mem_drop (List.mem_of_getElem? ed))
    refine go_name ?_
    refine ⟨fun t H' => Same H7 H' ∧ t = !(isTreeL dx && kidOk h dx), ?_, ?_⟩
    · refine ⟨_, rfl, F, x, dx, w, n - 1 - 1, rfl, ax.same s67, gx, by omega, by omega, hw, fun H8 s8 => ⟨_, rfl, ite2 (fun e => ?_) (fun e => ?_)⟩⟩
      · refine ⟨s8, ?_⟩
        rw [not_of_eq e, Bool.false_and]
        rfl
      have et := not_of_ne e
      rw [et, Bool.true_and]
      obtain ⟨hd, ik, ds', rfl⟩ := isTreeL_head et
      obtain ⟨px, y1, y2, y3, rfl, _, epx, b1, _, _⟩ := Da3 ax
      cases b1
      refine ⟨_, rfl, rfl, _, rfl, ite2 (fun e6 => ?_) (fun e6 => ?_)⟩
      · have eh : h = "made" := V.str.inj (of_decide_eq_true e6)
        refine ⟨_, rfl, px, _, 0, .str hd, rfl, rfl, SqT.of (s8 _ _ (s67 _ _ epx)), atI_nat (j := 0) rfl, _, rfl, pv, _, rfl, .inr (SqT.of (s8 _ _ (s7 _ _ (s6 _ _ epv)))), rfl, by decide, _, rfl, s8, ?_⟩
        show (!inV (.str hd) (valsL.map V.str)) = _
        rw [inV_str]
        unfold kidOk
        rw [decide_eq_true eh]
        simp [valOk]
      · refine ⟨s8, ?_⟩
        unfold kidOk
        rw [decide_eq_false fun z => e6 (decide_eq_true (congrArg V.str z))]
        rfl
    rintro t H8 ⟨s8, rfl⟩
    refine ite2 (fun e => ?_) (fun e => ⟨_, rfl, s7.trans s8, take_all ed hall (not_of_ne e)⟩)
    have hq := q H8 (s67.trans s8)
    rw [htr, all_bad ed (not_of_eq e)] at hq
    exact hq
  · rintro σ H' ⟨y, rfl, s7, hall⟩
    have hq := q H' (s56.trans s7)
    rw [List.take_of_length_le (by omega)] at hall
    rw [htr, hall] at hq
    exact hq
theorem ok_tl (T : Top K mg) : ∀ n : Nat, FnOk P w K mg base CX0 (n + 5) T._law_is_tree T._law_is_tree_d ["_law_thing"] (sp_tl n)
  | 0 => tl0
  | n + 1 => tl1 T (ok_tl T n)
theorem ok__law_is_tree (T : Top K mg) : FnOk P w K mg base CX0 66 T._law_is_tree T._law_is_tree_d ["_law_thing"] (sp_tl 61) := ok_tl T 61
end
end Sa

set_option Elab.async false
set_option linter.all false
set_option maxRecDepth 100000
set_option maxHeartbeats 4000000
namespace Sa
open PySem PySem.Spec PyProof.Rows L2
/-! ### both mirrors tell the same -/
theorem contains_congr {a b : List Str} (h1 : a.all (fun x => b.contains x) = true) (h2 : b.all (fun x => a.contains x) = true) (x : Str) : a.contains x = b.contains x := by
  by_cases hx : x ∈ a
  · rw [List.contains_iff_mem.mpr hx, List.all_eq_true.mp h1 x hx]
  · by_cases hy : x ∈ b
    · exact absurd (List.contains_iff_mem.mp (List.all_eq_true.mp h2 x hy)) hx
    · rw [Bool.eq_false_iff.mpr fun z => hx (List.contains_iff_mem.mp z), Bool.eq_false_iff.mpr fun z => hy (List.contains_iff_mem.mp z)]
theorem res_eq (x : Str) : progRes.contains x = resL.contains x := contains_congr (by decide +kernel) (by decide +kernel) x
theorem heads_eq (x : Str) : progHeads.contains x = headsL.contains x := contains_congr (by decide +kernel) (by decide +kernel) x
theorem vals_eq (x : Str) : valsP.contains x = valsL.contains x := contains_congr (by decide +kernel) (by decide +kernel) x
theorem nm_eq (d : PyData) : isNm progRes d = isNm resL d := by
  cases d with
  | str x => simp only [isNm, nmS, res_eq]
  | _ => rfl
theorem mrk_eq (d : PyData) : isMrk progRes d = isMrk resL d := by
  unfold isMrk
  split
  · rw [nm_eq]
  · rfl
theorem ink_eq (d : PyData) : isInk progRes d = isInk resL d := by
  cases d with
  | tuple ds => exact all_congr fun x _ => mrk_eq x
  | _ => rfl
theorem isNum_and {l : Int} {d : PyData} (h : 0 ≤ l) : (isNum 0 d && geD l d) = isNum l d := by
  cases d with
  | int i =>
    simp only [isNum, geD]
    by_cases h1 : l ≤ i
    · rw [decide_eq_true h1, decide_eq_true (show 0 ≤ i by omega)]
      rfl
    · rw [decide_eq_false h1, Bool.and_false]
  | _ => rfl
theorem le4 (d : PyData) : leD 4 d = ltD 5 d := by
  cases d with
  | int i =>
    simp only [leD, ltD]
    by_cases h : i ≤ 4
    · rw [decide_eq_true h, decide_eq_true (by omega)]
    · rw [decide_eq_false h, decide_eq_false (by omega)]
  | _ => rfl
theorem len2 (n : Nat) : decide (2 ≤ n) = decide (1 < n) := rfl
theorem num_low {d : PyData} {w : Nat} (h : gd w d = true) : (isInt d && (!isBool d && (decide True || geD 0 d))) = isNum (-10 ^ 60) d := by
  cases d with
  | int i =>
    simp only [gd, decide_eq_true_eq] at h
    simp only [isInt, isBool, isNum]
    rw [decide_eq_true h]
    rfl
  | _ => rfl
theorem num_ge {l : Int} {d : PyData} : (isInt d && (!isBool d && (decide False || geD l d))) = isNum l d := by
  cases d with
  | int i => simp [isInt, isBool, isNum, geD]
  | _ => rfl
theorem getD_mem {ds : List PyData} (h : ds.length = 1) : ds.getD 0 .none ∈ ds := by
  match ds, h with
  | [d], _ => simp
theorem len_eq (n k : Nat) : decide (n = k) = decide ((n : Int) = (k : Int)) := by
  by_cases z : n = k
  · rw [decide_eq_true z, decide_eq_true (by omega)]
  · rw [decide_eq_false z, decide_eq_false (by omega)]
section
variable {ds : List PyData}
theorem plain_int {w : Nat} (hg : ∀ d ∈ ds, gd w d = true) : plainP "int" ds = plainL "int" ds := by
  simp (decide := true) only [plainP, plainL, leastL, ↓reduceIte]
  by_cases h : ds.length = 1
  · rw [if_pos h, if_pos h]
    exact num_low (hg _ (getD_mem h))
  · rw [if_neg h, if_neg h]
theorem plain_use : plainP "use" ds = plainL "use" ds := by
  simp (decide := true) only [plainP, plainL, leastL, ↓reduceIte]
  rw [len2, nm_eq]
  by_cases h : 1 < ds.length
  · rw [isNum_and (by omega)]
  · rw [decide_eq_false h, Bool.false_and, Bool.false_and]
theorem plain_quote : plainP "quote" ds = plainL "quote" ds := by
  simp (decide := true) only [plainP, plainL, leastL, manyL, ↓reduceIte]
  rw [nm_eq]
theorem plain_flag : plainP "flag" ds = plainL "flag" ds := by
  simp (decide := true) only [plainP, plainL, leastL, manyL, ↓reduceIte]
theorem plain_global : plainP "global" ds = plainL "global" ds := by
  simp (decide := true) only [plainP, plainL, leastL, manyL, ↓reduceIte]
  rw [nm_eq]
theorem plain_made : plainP "made" ds = plainL "made" ds := by
  simp (decide := true) only [plainP, plainL, leastL, manyL, ↓reduceIte]
  rfl
theorem plain_ref : plainP "ref" ds = plainL "ref" ds := by
  simp (decide := true) only [plainP, plainL, leastL, manyL, ↓reduceIte]
  rw [num_ge]
theorem plain_name : plainP "name" ds = plainL "name" ds := by
  simp (decide := true) only [plainP, plainL, leastL, manyL, ↓reduceIte]
  rw [num_ge]
theorem plain_fun : plainP "fun" ds = plainL "fun" ds := by
  simp (decide := true) only [plainP, plainL, leastL, manyL, ↓reduceIte]
  rw [le4]
theorem plain_call : plainP "call" ds = plainL "call" ds := by
  simp (decide := true) only [plainP, plainL, leastL, manyL, ↓reduceIte]
  rfl
theorem plain_if : plainP "if" ds = plainL "if" ds := by
  simp (decide := true) only [plainP, plainL, leastL, manyL, ↓reduceIte]
  exact len_eq _ _
theorem plain_list : plainP "list" ds = plainL "list" ds := by
  simp (decide := true) only [plainP, plainL, leastL, manyL, ↓reduceIte]
  rfl
theorem plain_do : plainP "do" ds = plainL "do" ds := by
  simp (decide := true) only [plainP, plainL, leastL, manyL, ↓reduceIte]
  exact len_eq _ _
theorem plain_not : plainP "not" ds = plainL "not" ds := by
  simp (decide := true) only [plainP, plainL, leastL, manyL, ↓reduceIte]
  exact len_eq _ _
theorem plain_first : plainP "first" ds = plainL "first" ds := by
  simp (decide := true) only [plainP, plainL, leastL, manyL, ↓reduceIte]
  exact len_eq _ _
theorem plain_rest : plainP "rest" ds = plainL "rest" ds := by
  simp (decide := true) only [plainP, plainL, leastL, manyL, ↓reduceIte]
  exact len_eq _ _
theorem plain_none : plainP "none" ds = plainL "none" ds := by
  simp (decide := true) only [plainP, plainL, leastL, manyL, ↓reduceIte]
  exact len_eq _ _
theorem plain_cell : plainP "cell" ds = plainL "cell" ds := by
  simp (decide := true) only [plainP, plainL, leastL, manyL, ↓reduceIte]
  exact len_eq _ _
theorem plain_get : plainP "get" ds = plainL "get" ds := by
  simp (decide := true) only [plainP, plainL, leastL, manyL, ↓reduceIte]
  exact len_eq _ _
theorem plain_raise : plainP "raise" ds = plainL "raise" ds := by
  simp (decide := true) only [plainP, plainL, leastL, manyL, ↓reduceIte]
  exact len_eq _ _
theorem plain_say : plainP "say" ds = plainL "say" ds := by
  simp (decide := true) only [plainP, plainL, leastL, manyL, ↓reduceIte]
  exact len_eq _ _
theorem plain_seq : plainP "seq" ds = plainL "seq" ds := by
  simp (decide := true) only [plainP, plainL, leastL, manyL, ↓reduceIte]
  exact len_eq _ _
theorem plain_plus : plainP "plus" ds = plainL "plus" ds := by
  simp (decide := true) only [plainP, plainL, leastL, manyL, ↓reduceIte]
  exact len_eq _ _
theorem plain_minus : plainP "minus" ds = plainL "minus" ds := by
  simp (decide := true) only [plainP, plainL, leastL, manyL, ↓reduceIte]
  exact len_eq _ _
theorem plain_times : plainP "times" ds = plainL "times" ds := by
  simp (decide := true) only [plainP, plainL, leastL, manyL, ↓reduceIte]
  exact len_eq _ _
theorem plain_less : plainP "less" ds = plainL "less" ds := by
  simp (decide := true) only [plainP, plainL, leastL, manyL, ↓reduceIte]
  exact len_eq _ _
theorem plain_same : plainP "same" ds = plainL "same" ds := by
  simp (decide := true) only [plainP, plainL, leastL, manyL, ↓reduceIte]
  exact len_eq _ _
theorem plain_put : plainP "put" ds = plainL "put" ds := by
  simp (decide := true) only [plainP, plainL, leastL, manyL, ↓reduceIte]
  exact len_eq _ _
theorem plain_set : plainP "set" ds = plainL "set" ds := by
  simp (decide := true) only [plainP, plainL, leastL, manyL, ↓reduceIte]
  exact len_eq _ _
theorem plain_let : plainP "let" ds = plainL "let" ds := by
  simp (decide := true) only [plainP, plainL, leastL, manyL, ↓reduceIte]
  exact len_eq _ _
theorem plain_try : plainP "try" ds = plainL "try" ds := by
  simp (decide := true) only [plainP, plainL, leastL, manyL, ↓reduceIte]
  exact len_eq _ _
end
theorem plain_eq {h : Str} (hh : h ∈ progHeads) {ds : List PyData} {w : Nat} (hg : ∀ d ∈ ds, gd w d = true) : plainP h ds = plainL h ds := by
  simp only [progHeads, progLit, progOth, progOne, progTwo, List.cons_append, List.nil_append, List.mem_cons, List.not_mem_nil, or_false] at hh
  rcases hh with rfl | rfl | rfl | rfl | rfl | rfl | rfl | rfl | rfl | rfl | rfl | rfl | rfl | rfl | rfl | rfl | rfl | rfl | rfl | rfl | rfl | rfl | rfl | rfl | rfl | rfl | rfl | rfl | rfl | rfl | rfl
  · exact plain_int hg
  · exact plain_quote
  · exact plain_flag
  · exact plain_global
  · exact plain_made
  · exact plain_ref
  · exact plain_name
  · exact plain_fun
  · exact plain_call
  · exact plain_if
  · exact plain_list
  · exact plain_use
  · exact plain_do
  · exact plain_not
  · exact plain_first
  · exact plain_rest
  · exact plain_none
  · exact plain_cell
  · exact plain_get
  · exact plain_raise
  · exact plain_say
  · exact plain_seq
  · exact plain_plus
  · exact plain_minus
  · exact plain_times
  · exact plain_less
  · exact plain_same
  · exact plain_put
  · exact plain_set
  · exact plain_let
  · exact plain_try
theorem unit_lit : ∀ h : Str, progLit.contains h = litL.contains h := fun h => contains_congr (by decide +kernel) (by decide +kernel) h
theorem eqv_str (x y : Str) : PyData.eqv (.str x) (.str y) = (x == y) := by simp [PyData.eqv]
theorem mbv_str {x : Str} {b c : PyData} : mbv (.tuple [.str x, b, c]) = valsL.contains x := by
  rw [← vals_eq]
  show ((valsP.map PyData.str).any fun z => PyData.eqv z (.str x)) = valsP.contains x
  induction valsP with
  | nil => rfl
  | cons y l ih =>
    rw [List.map_cons, List.any_cons, ih, List.contains_cons, eqv_str]
    congr 1
    by_cases h : y = x
    · rw [h]
    · rw [beq_eq_false_iff_ne.mpr h, beq_eq_false_iff_ne.mpr fun z => h z.symm]
theorem first_eq {h : Str} (hh : h ∈ progHeads) {ds : List PyData} (hp : plainP h ds = true) : ds.drop (firstK h ds.length) = ds.drop (firstL h) := by
  simp only [progHeads, progLit, progOth, progOne, progTwo, List.cons_append, List.nil_append, List.mem_cons, List.not_mem_nil, or_false] at hh
  have one : atoms.contains h = true → ds.length = 1 := fun z => by
    unfold plainP at hp
    rw [if_pos z] at hp
    by_cases l : ds.length = 1
    · exact l
    · rw [if_neg l] at hp
      cases hp
  by_cases ha : atoms.contains h = true
  · have l := one ha
    rw [l]
    rcases hh with rfl | rfl | rfl | rfl | rfl | rfl | rfl | rfl | rfl | rfl | rfl | rfl | rfl | rfl | rfl | rfl | rfl | rfl | rfl | rfl | rfl | rfl | rfl | rfl | rfl | rfl | rfl | rfl | rfl | rfl | rfl
    all_goals first | rfl | (revert ha; decide)
  · rcases hh with rfl | rfl | rfl | rfl | rfl | rfl | rfl | rfl | rfl | rfl | rfl | rfl | rfl | rfl | rfl | rfl | rfl | rfl | rfl | rfl | rfl | rfl | rfl | rfl | rfl | rfl | rfl | rfl | rfl | rfl | rfl
    all_goals first | rfl | (exfalso; revert ha; decide)
theorem all_and {α : Type} {p q : α → Bool} : ∀ l : List α, (l.all p && l.all q) = l.all (fun k => p k && q k)
  | [] => rfl
  | x :: l => by
    rw [List.all_cons, List.all_cons, List.all_cons, ← all_and l]
    cases p x <;> cases q x <;> simp
theorem isTreeP_three {k : PyData} (h : isTreeP k = true) : ∃ hd ik ds, k = .tuple [.str hd, ik, .tuple ds] := by
  rw [isTreeP_eq] at h
  cases e : nodeP k with
  | none => rw [e] at h; cases h
  | some ks =>
    obtain ⟨hd, ik, ds, rfl, _⟩ := nodeP_kid e
    exact ⟨hd, ik, ds, rfl⟩
/-- the two tell the same of all good data -/
theorem tree_eq : ∀ (n : Nat) (d : PyData) (w : Nat), d.depth < n → gd w d = true → isTreeP d = isTreeL d
  | 0, d, w, h, _ => by omega
  | n + 1, d, w, hd, hg => by
    rw [isTreeP_eq, isTreeL_eq]
    by_cases h3 : ∃ h ik ds, d = .tuple [.str h, ik, .tuple ds]
    · obtain ⟨h, ik, ds, rfl⟩ := h3
      rw [nodeP_of, nodeL_of]
      simp only [gd, gdAll, Bool.and_eq_true] at hg
      obtain ⟨_, _, gik, ⟨_, gds⟩, _⟩ := hg
      have gds' := gdAll_iff.mp gds
      have hdep := depth3 (.str h) ik ds
      have ih : ∀ k ∈ ds, isTreeP k = isTreeL k := fun k hk => by
        have h2 := depthAll_iff.mp (Nat.le_refl (PyData.depthAll ds)) k hk
        exact tree_eq n k w (by omega) (gds' k hk)
      by_cases hh : h ∈ progHeads
      · have c1 : progHeads.contains h = true := List.contains_iff_mem.mpr hh
        have c2 : headsL.contains h = true := by rw [← heads_eq]; exact c1
        rw [c1, c2, ink_eq, plain_eq hh gds', unit_lit]
        by_cases hp : plainL h ds = true
        · have hpP : plainP h ds = true := by rw [plain_eq hh gds']; exact hp
          rw [hp, first_eq hh hpP]
          cases isInk resL ik with
          | false => rfl
          | true =>
            cases hl : (litL.contains h && !isUnit ik) with
            | true => rfl
            | false =>
              by_cases hm : h = "made"
              · have f0 : firstL h = 0 := by rw [hm]; rfl
                rw [decide_eq_true hm, f0, List.drop_zero]
                simp only [Bool.true_and, Bool.not_false, Bool.not_not, Bool.and_self]
                have key : (ds.all mbv && ds.all isTreeP) = ds.all fun k => isTreeL k && kidOk h k := by
                  rw [show (ds.all mbv && ds.all isTreeP) = ds.all (fun k => mbv k && isTreeP k) from all_and ds]
                  refine all_congr fun k hk => ?_
                  rw [← ih k hk]
                  cases ht : isTreeP k with
                  | false => rw [Bool.and_false, Bool.false_and]
                  | true =>
                    obtain ⟨hd', ik', ds', rfl⟩ := isTreeP_three ht
                    rw [mbv_str, Bool.and_true, Bool.true_and]
                    unfold kidOk
                    rw [decide_eq_true hm]
                    simp [valOk]
                rw [if_pos trivial]
                show _ = ds.all fun k => isTreeL k && kidOk h k
                rw [← key]
                cases ds.all mbv <;> rfl
              · rw [decide_eq_false hm]
                simp only [Bool.true_and, Bool.false_and, Bool.not_false, Bool.and_self, if_true]
                refine all_congr fun k hk => ?_
                rw [ih k (List.mem_of_mem_drop hk)]
                unfold kidOk
                rw [decide_eq_false hm]
                simp
        · have hp' := Bool.eq_false_iff.mpr hp
          rw [hp']
          simp
      · have c1 : progHeads.contains h = false := Bool.eq_false_iff.mpr fun z => hh (List.contains_iff_mem.mp z)
        have c2 : headsL.contains h = false := by rw [← heads_eq]; exact c1
        rw [c1, c2]
        simp
    · have e1 : nodeP d = none := by
        cases e : nodeP d with
        | none => rfl
        | some ks =>
          obtain ⟨hd', ik, ds, rfl, _⟩ := nodeP_kid e
          exact absurd ⟨hd', ik, ds, rfl⟩ h3
      have e2 : nodeL d = none := by
        cases e : nodeL d with
        | none => rfl
        | some p =>
          obtain ⟨hd', ks⟩ := p
          obtain ⟨ik, ds, rfl, _⟩ := nodeL_kid e
          exact absurd ⟨hd', ik, ds, rfl⟩ h3
      rw [e1, e2]
theorem tree_same {w n : Nat} {d : PyData} (h : Gn w n d) : isTreeP d = isTreeL d := tree_eq (d.depth + 1) d w (Nat.lt_succ_self _) h.1
end Sa

set_option Elab.async false
set_option linter.all false
set_option maxRecDepth 100000
set_option maxHeartbeats 4000000
namespace Sa
open PySem PySem.Spec PyProof.Rows L2
section
variable {P : Program} {w : World} {K : PySem.W.Frag} {mg : Str → Option Value} {base : Heap}
def sp_no : Sp := fun _ _ _ _ => False
theorem ok_no {f : Addr} {fd : FuncData} {ps : List Str} {k : Nat} : FnOk P w K mg base CX0 k f fd ps sp_no :=
  ⟨fun _ _ _ _ h => h.elim, fun _ _ _ _ _ _ _ _ _ _ _ _ _ h => h.elim⟩
def sp_sameB : Sp := fun vs H Q _ => ∃ a : Bool, vs = [.bl a, .bl a] ∧ ∀ H', Same H H' → Q (.bl true) H'
theorem ok__law_same (T : Top K mg) : FnOk P w K mg base CX0 1 T._law_same T._law_same_d ["_law_found", "_law_due"] sp_sameB := by
  refine T._law_same_f.ok sc__law_same (fun vs H Q E h => ?_) (fun cdv A outer s H vs Q E hr h => ?_)
  · obtain ⟨a, rfl, _⟩ := h
    rfl
  obtain ⟨a, rfl, q⟩ := h
  -- slots: 0 _law_found, 1 _law_due, 2 _law_one, 3 _law_other
  refine ⟨_, (pss_cons (ps_if (pt_val (pe_callB call_isiT (by rfl) T.isinstance_n (by decide +kernel) (pa_cons (pv 1) (pa_cons (pe_tup (pa_cons (pe_bltn (v := .ty "tuple") (u := .type "tuple") (by rfl) T.tuple_n (by decide +kernel) rfl) (pa_cons (pe_bltn (v := .ty "list") (u := .type "list") (by rfl) T.list_n (by decide +kernel) rfl) pa_nil))) pa_nil)))) (pss_cons (ps_if (PW.pt (pw_or (pt_cmpR op_ne (pe_callB call_isi (by rfl) T.isinstance_n (by decide +kernel) (pa_cons (pv 0) (pa_cons (pe_bltn (v := .ty "tuple") (u := .type "tuple") (by rfl) T.tuple_n (by decide +kernel) rfl) pa_nil))) (pe_callB call_isi (by rfl) T.isinstance_n (by decide +kernel) (pa_cons (pv 1) (pa_cons (pe_bltn (v := .ty "tuple") (u := .type "tuple") (by rfl) T.tuple_n (by decide +kernel) rfl) pa_nil))) (nomark _)) (pw_or1 (pt_cmpR op_ne (pe_callB call_isi (by rfl) T.isinstance_n (by decide +kernel) (pa_cons (pv 0) (pa_cons (pe_bltn (v := .ty "list") (u := .type "list") (by rfl) T.list_n (by decide +kernel) rfl) pa_nil))) (pe_callB call_isi (by rfl) T.isinstance_n (by decide +kernel) (pa_cons (pv 1) (pa_cons (pe_bltn (v := .ty "list") (u := .type "list") (by rfl) T.list_n (by decide +kernel) rfl) pa_nil))) (nomark _))))) (pss_one (ps_ret pe_bl)) pss_nil)
      (pss_one (ps_ret (pe_and (pe_cmpR op_eq (pe_callB call_len_seq (by rfl) T.len_n (by decide +kernel) (pa_cons (pv 0) pa_nil)) (pe_callB call_len_seq (by rfl) T.len_n (by decide +kernel) (pa_cons (pv 1) pa_nil)) (nomark _)) (pe_one (pe_callB (cr_all rfl) (by rfl) T.all_n (by decide +kernel) (pa_cons (pe_lc (own := [("_law_one", 2), ("_law_other", 3)]) (g := (gTup K 2 (gCons (gName 2) (gCons (gName 3) gNil)))) (tt := tYes) (by rfl) sc__law_same.nd (pi_zip (by rfl) T.zip_n (pa_cons (pv 0) (pa_cons (pv 1) pa_nil))) (blkOk_by (own := [("_law_one", 2), ("_law_other", 3)]) (N := ["_law_found", "_law_due", "_law_one", "_law_other"]) (sc := defScope s__law_same) (by decide +kernel)) (fun _ _ _ _ _ => (pg_tup rfl (pgs_cons (pg_name (i := 2) sc__law_same.nd rfl (.inl rfl)) (pgs_cons (pg_name (i := 3) sc__law_same.nd rfl (.inl rfl)) pgs_nil)))) (fun _ _ _ _ _ => pts_nil) (fun _ _ _ _ _ => (pe_call (ok_no (k := 0) (ps := ["_law_found", "_law_due"])) (hr.mono (by decide)) rfl T._law_same_g T._law_same_k T._law_same_b .nil pass0 (pa_cons (pv 2) (pa_cons (pv 3) pa_nil))))) pa_nil))))))) pss_nil)
      (pss_one (ps_ret (pe_and (pe_cmpR op_eq (pe_callB call_isi (by rfl) T.isinstance_n (by decide +kernel) (pa_cons (pv 0) (pa_cons (pe_bltn (v := .ty "bool") (u := .type "bool") (by rfl) T.bool_n (by decide +kernel) rfl) pa_nil))) (pe_callB call_isi (by rfl) T.isinstance_n (by decide +kernel) (pa_cons (pv 1) (pa_cons (pe_bltn (v := .ty "bool") (u := .type "bool") (by rfl) T.bool_n (by decide +kernel) rfl) pa_nil))) (nomark _)) (pe_one (pe_cmpR op_eq (pv 0) (pv 1) (nomark _))))))), ?_⟩
  refine ⟨_, rfl, by decide, fun p np => ?_⟩
  have s1 := same_upd (o := .tup [.ty "tuple", .ty "list"]) np
  refine ⟨_, p, _, _, [.type "tuple", .type "list"], false, rfl, upd_same, .cons (.ty _) (.cons (.ty _) .nil), .base (.bl a), kitAny_cons (kit_ty (a := "bool") (b := "tuple") (r := false) (by decide +kernel)) (fun _ => kitAny_cons (kit_ty (a := "bool") (b := "list") (r := false) (by decide +kernel)) (fun _ => rfl) (fun z => by cases z)) (fun z => by cases z), _, rfl, iteF ?_⟩
  have kb : kitB "bool" "bool" = some true := by decide +kernel
  refine ⟨_, rfl, _, _, _, _, _, rfl, .ty _, .base (.bl a), kit_ty kb, _, rfl, _, _, _, _, _, rfl, .ty _, .base (.bl a), kit_ty kb, rfl, _, rfl, iteT ⟨_, rfl, _, rfl, rfl, ?_⟩⟩
  have e : decide (V.bl a = V.bl a) = true := decide_eq_true rfl
  have hq := q _ s1
  rw [← e] at hq
  exact hq
/-! ### the law -/
theorem Same.ext {f : Addr} {H H1 H2 : Hp} (s : Same H H1) (n : H f = none) (x : Ext f H1 H2) : Same H H2 := fun b o e => x b o (ne_of_none e n) (s b o e)
def spLaw (K : PySem.W.Frag) : Sp := fun vs H Q _ => ∃ (a : Addr) (ns : List Int), vs = [.ref a] ∧ SqL K H a (ns.map V.int) ∧ ns.length ≤ 63 ∧ ∀ H', Q (.bl true) H'
theorem ok_law (T : Top K mg) : FnOk P w K mg base CX0 67 T.law T.law_d ["_law_script"] (spLaw K) := by
  refine T.law_f.ok sc_law (fun vs H Q E h => ?_) (fun cdv A outer s H vs Q E hr h => ?_)
  · obtain ⟨a, ns, rfl, _⟩ := h
    rfl
  obtain ⟨a, ns, rfl, hS, hlen, q⟩ := h
  have h60 : 60 ≤ 60 := Nat.le_refl _
  -- slots: 0 _law_script, 1 _law_k, 2 _law_feed, 3 _law_turn, 4 _law_tree, 5 _law_one, 6 _law_other, 7 _law_thing
  refine ⟨_, (pss_cons (ps_for PassesOwn.never rfl (pi_range1 (by rfl) T.range_n (pa_cons (pe_callB (call_max2 rfl) (by rfl) T.max_n (by decide +kernel) (pa_cons pe_int (pa_cons (pe_callB (call_min2 rfl) (by rfl) T.min_n (by decide +kernel) (pa_cons pe_int (pa_cons (pe_callB call_len_seq (by rfl) T.len_n (by decide +kernel) (pa_cons (pv 0) pa_nil)) pa_nil))) pa_nil))) pa_nil)) (pg_name (i := 1) sc_law.nd rfl (.inl rfl)) (pss_cons (ps_set (i := 2) sc_law.nd rfl (.inl rfl) (pe_call (ok__law_feed_of T) (hr.mono (by decide)) rfl T._law_feed_of_g T._law_feed_of_k T._law_feed_of_b .nil pass0 (pa_cons (pv 0) (pa_cons (pv 1) pa_nil))))
      (pss_one (ps_for PassesOwn.never rfl (pi_range1 (by rfl) T.range_n (pa_cons pe_int pa_nil)) (pg_name (i := 3) sc_law.nd rfl (.inl rfl)) (pss_cons (ps_set (i := 4) sc_law.nd rfl (.inl rfl) (pe_call (ok__law_inked_tree T) (hr.mono (by decide)) rfl T._law_inked_tree_g T._law_inked_tree_k T._law_inked_tree_b .nil pass0 (pa_cons (pv 2) (pa_cons (pe_op op_add pe_int (pe_call (ok__law_draw T) (hr.mono (by decide)) rfl T._law_draw_g T._law_draw_k T._law_draw_b .nil pass0 (pa_cons (pv 2) (pa_cons pe_int pa_nil)))) pa_nil))))
      (pss_cons (ps_par (i := 5) (j := 6) (by rfl) sc_law.nd rfl rfl (by decide) rfl rfl (pa_cons (pe_call (ok__law_spoilt T) (hr.mono (by decide)) rfl T._law_spoilt_g T._law_spoilt_k T._law_spoilt_b .nil pass0 (pa_cons (pv 2) (pa_cons (pv 4) pa_nil))) (pa_cons (pe_call (ok__law_any_value T) (hr.mono (by decide)) rfl T._law_any_value_g T._law_any_value_k T._law_any_value_b1 T._law_any_value_v1 pass0 (pa_cons (pv 2) pa_nil)) pa_nil)) (by rfl))
      (pss_one (ps_for PassesOwn.never rfl (pi_tup (pe_tup (pa_cons (pv 4) (pa_cons (pv 5) (pa_cons (pe_call (ok__law_spoilt T) (hr.mono (by decide)) rfl T._law_spoilt_g T._law_spoilt_k T._law_spoilt_b .nil pass0 (pa_cons (pv 2) (pa_cons (pv 5) pa_nil))) (pa_cons (pe_call (ok__law_spoilt T) (hr.mono (by decide)) rfl T._law_spoilt_g T._law_spoilt_k T._law_spoilt_b .nil pass0 (pa_cons (pv 2) (pa_cons (pe_call (ok__law_spoilt T) (hr.mono (by decide)) rfl T._law_spoilt_g T._law_spoilt_k T._law_spoilt_b .nil pass0 (pa_cons (pv 2) (pa_cons (pv 5) pa_nil))) pa_nil))) (pa_cons (pv 6) pa_nil))))))) (pg_name (i := 7) sc_law.nd rfl (.inl rfl)) (pss_one (ps_if (pt_not (pt_val (pe_call (ok__law_same T) (hr.mono (by decide)) rfl T._law_same_g T._law_same_k T._law_same_b .nil pass0 (pa_cons (pe_call (ok_is_tree (n := 60) T h60) (hr.mono (by decide)) rfl T.is_tree_g T.is_tree_k T.is_tree_b .nil pass0 (pa_cons (pv 7) pa_nil)) (pa_cons (pe_call (ok__law_is_tree T) (hr.mono (by decide)) rfl T._law_is_tree_g T._law_is_tree_k T._law_is_tree_b .nil pass0 (pa_cons (pv 7) pa_nil)) pa_nil))))) (pss_one (ps_ret pe_bl)) pss_nil))))))))))
      (pss_one (ps_ret (pe_and (pe_cmpR op_is_bl (pe_call (ok_is_tree (n := 60) T h60) (hr.mono (by decide)) rfl T.is_tree_g T.is_tree_k T.is_tree_b .nil pass0 (pa_cons pe_str pa_nil)) pe_bl (nomark _)) (pe_one (pe_cmpR op_is_bl (pe_call (ok_is_tree (n := 60) T h60) (hr.mono (by decide)) rfl T.is_tree_g T.is_tree_k T.is_tree_b .nil pass0 (pa_cons (pe_tup pa_nil) pa_nil)) pe_bl (nomark _))))))), ?_⟩
  have fin : ∀ H', Same H H' → ∀ σ : L2.St, tRet (tAndV (tOp (fun x y H Q => ∃ a b, x = V.bl a ∧ y = V.bl b ∧ Q (V.bl (decide (a = b))) H) (tCall (sp_b 60 isTreeP) [] E0 (tCons (tC (V.str "use")) tNil)) (tC (V.bl false)))
      (tOp (fun x y H Q => ∃ a b, x = V.bl a ∧ y = V.bl b ∧ Q (V.bl (decide (a = b))) H) (tCall (sp_b 60 isTreeP) [] E0 (tCons (tTup tNil) tNil)) (tC (V.bl false)))) { nx := fun _ H' => Q .non H', rt := Q } σ H' := by
    intro H' s1 σ
    refine ⟨fun _ => False, .str "use", .str "use", 0, rfl, .str _, gn_str (by decide +kernel), by decide, fun H2 s2 => ⟨_, _, rfl, rfl, _, rfl, ?_⟩⟩
    rw [if_pos (by decide +kernel)]
    refine ⟨by decide, fun p np => ⟨fun _ => False, .ref p, .tuple [], 0, rfl, .tup (fun z => z) upd_same .nil, ⟨by decide +kernel, by decide +kernel⟩, by decide, fun H3 s3 => ⟨_, _, rfl, rfl, ?_⟩⟩⟩
    rw [show decide (isTreeP (PyData.tuple []) = false) = true by decide +kernel]
    exact q H3
  refine ⟨_, rfl, a, _, rfl, .inl hS, _, _, rfl, _, _, rfl, _, rfl, ?_, ?_, ?_⟩
  · split <;> split <;> omega
  · rw [List.length_map]
    split <;> split <;> omega
  refine for_range (lo := 0) (fun i σ H' => ∃ y1 y2 y3 y4 y5 y6 y7, σ = [some (.ref a), y1, y2, y3, y4, y5, y6, y7] ∧ Same H H') ⟨none, none, none, none, none, none, none, rfl, Same.refl _⟩ ?_ ?_
  · rintro i σ H1 hi ⟨y1, y2, y3, y4, y5, y6, y7, rfl, s1⟩
    have hi5 : i ≤ 1000 := by
      rw [List.length_map] at hi
      have : i < 6 := by
        refine Nat.lt_of_lt_of_le hi ?_
        split <;> split <;> omega
      omega
    refine go_name ?_
    refine ⟨_, rfl, _, rfl, a, ns, i, (by rw [Int.zero_add]; rfl), s1.seq hS, hi5, fun f H2 nf1 s2 b2 => go_name ?_⟩
    have nf : H f = none := s1.free nf1
    refine ⟨12, rfl, by decide, by decide, for_range (lo := 0) (n := 12) (fun j σ H' => ∃ y3 y4 y5 y6 y7, σ = [some (.ref a), some (.int (0 + i)), some (.ref f), y3, y4, y5, y6, y7] ∧ Same H H' ∧ Fd f H') ⟨y3, y4, y5, y6, y7, rfl, s1.trans s2, b2⟩ ?_ ?_⟩
    · rintro j σ H3 hj ⟨y3, y4, y5, y6, y7, rfl, s3, b3⟩
      refine go_name ?_
      -- tree
      have hT3 : Trk (fun a => a = f) H3 := fun a ha => by
        obtain ⟨g, z, e, _⟩ := b3
        exact ⟨_, ha ▸ e⟩
      refine ⟨_, rfl, rd_draw rfl b3 (by decide) fun r H4 r0 r1 x4 b4 => ⟨_, _, rfl, rfl, f, fun a => a = f, (1 + r).toNat, ?_, by omega, by omega, b4, rfl, hT3.ext x4 b4, fun tv td H5 x5 b5 a5 g5 => ?_⟩⟩
      · rw [Int.toNat_of_nonneg (by omega)]
        rfl
      have g5' : Gn 6 16 td := g5.1.mono (Nat.le_refl _) (by omega)
      have c5 := (hT3.ext x4 b4).ext x5 b5
      refine go_name ?_
      refine ⟨_, rfl, _, rfl, f, fun a => a = f, tv, td, 6, 16, rfl, a5, g5', by decide, by decide, by decide, by decide, b5, rfl, c5, fun ov od H6 x6 b6 a6 g6 => ?_⟩
      have c6 := c5.ext x6 b6
      refine ⟨_, rfl, f, fun a => a = f, 3, rfl, by decide, by decide, b6, rfl, c6, fun wv wd H7 x7 b7 a7 g7 => ⟨_, _, rfl, ?_⟩⟩
      have c7 := c6.ext x7 b7
      have a6' := a6.ext x7 rfl
      have a5' := (a5.ext x6 rfl).ext x7 rfl
      refine ⟨_, rfl, _, rfl, _, rfl, _, rfl, f, fun a => a = f, ov, od, 7, 20, rfl, a6', g6, by decide, by decide, by decide, by decide, b7, rfl, c7, fun uv ud H8 x8 b8 a8 g8 => ?_⟩
      have c8 := c7.ext x8 b8
      refine ⟨_, rfl, _, rfl, _, rfl, f, fun a => a = f, ov, od, 7, 20, rfl, a6'.ext x8 rfl, g6, by decide, by decide, by decide, by decide, b8, rfl, c8, fun zv zd H9 x9 b9 a9 g9 => ?_⟩
      have c9 := c8.ext x9 b9
      refine ⟨f, fun a => a = f, zv, zd, 8, 24, rfl, a9, g9, by decide, by decide, by decide, by decide, b9, rfl, c9, fun qv qd HA xA bA aA gA => ?_⟩
      refine ⟨_, rfl, (by show 5 ≤ sizeLine; decide), fun p np => ?_⟩
      have sA := same_upd (o := .tup [tv, ov, uv, qv, wv]) np
      have xall : Ext f H7 HA := x8.trans (x9.trans xA)
      have all5 : DaAll (fun a => a = f) (L2.upd HA p (.tup [tv, ov, uv, qv, wv])) [tv, ov, uv, qv, wv] [td, od, ud, qd, wd] :=
        .cons ((a5'.ext xall rfl).same sA) (.cons ((a6'.ext xall rfl).same sA) (.cons (((a8.ext x9 rfl).ext xA rfl).same sA) (.cons (aA.same sA) (.cons ((a7.ext xall rfl).same sA) .nil))))
      have gall : ∀ d ∈ [td, od, ud, qd, wd], Gn 9 60 d := fun d hd => by
        simp only [List.mem_cons, List.not_mem_nil, or_false] at hd
        rcases hd with rfl | rfl | rfl | rfl | rfl
        · exact g5'.mono (by decide) (by decide)
        · exact g6.mono (by decide) (by decide)
        · exact g8.mono (by decide) (by decide)
        · exact gA.mono (by decide) (by decide)
        · exact g7.mono (by decide) (by decide)
      have sH : Same H (L2.upd HA p (.tup [tv, ov, uv, qv, wv])) := (Same.ext s3 nf (x4.trans (x5.trans (x6.trans (x7.trans xall))))).trans sA
      have bB := bA.same sA
      have epB : (L2.upd HA p (.tup [tv, ov, uv, qv, wv])) p = some (.tup [tv, ov, uv, qv, wv]) := upd_same
      generalize L2.upd HA p (.tup [tv, ov, uv, qv, wv]) = HB at all5 sH bB epB
      refine ⟨p, rfl, ⟨_, SqT.of epB⟩, for_tup (K := K) (a := p) (xs := [tv, ov, uv, qv, wv]) (fun m σ H' => ∃ y7, σ = [some (.ref a), some (.int (0 + i)), some (.ref f), some (.int (0 + j)), some tv, some ov, some wv, y7] ∧ Same HB H') ⟨y7, rfl, Same.refl _⟩ ?_ ?_ ?_⟩
      · rintro m σ H' _ ⟨y7, _, sC⟩
        exact SqT.of (sC _ _ epB)
      · rintro m x σ HC ex ⟨y7, rfl, sC⟩
        obtain ⟨dx, ed, ax⟩ := all5.get ex
        have gx := gall dx (List.mem_of_getElem? ed)
        have axC := ax.same sC
        refine go_name ?_
        refine ⟨_, rfl, fun a => a = f, x, dx, 9, rfl, axC, gx, by decide, fun HD sD => ⟨_, rfl, fun a => a = f, x, dx, 9, 60, rfl, axC.same sD, gx, by decide, by decide, by decide, fun HE sE => ⟨isTreeP dx, (by rw [tree_same gx]; rfl), fun HF sF => ⟨_, rfl, ?_⟩⟩⟩⟩
        exact iteF ⟨_, rfl, ((sC.trans sD).trans sE).trans sF⟩
      · rintro σ H' ⟨y7, rfl, sC⟩
        exact ⟨_, _, _, _, _, rfl, sH.trans sC, bB.same sC⟩
    · rintro σ H' ⟨y3, y4, y5, y6, y7, rfl, s3, _⟩
      exact ⟨_, _, _, _, _, _, _, rfl, s3⟩
  · rintro σ H' ⟨y1, y2, y3, y4, y5, y6, y7, rfl, s1⟩
    exact fin H' s1 _
end
end Sa

set_option Elab.async false
set_option linter.all false
set_option maxRecDepth 100000
set_option maxHeartbeats 4000000
namespace Sa
open PySem PySem.Spec PyProof.Rows L2
def chkStrs : List Value → List Str → Bool
  | [], [] => true
  | .str x _ :: r, y :: l => x == y && chkStrs r l
  | _, _ => false
def okTup (o : Obj) (l : List Str) : Bool := match o with
  | ⟨.type n, _, .seq its _, _⟩ => n == "tuple" && decide (its.size ≤ 1000) && chkStrs its.toList l
  | _ => false
theorem chkStrs_vals : ∀ {us : List Value} {l : List Str}, chkStrs us l = true → Vals (l.map V.str) us
  | [], [], _ => .nil
  | .str x t :: r, y :: l, h => by
    simp only [chkStrs, Bool.and_eq_true, beq_iff_eq] at h
    exact .cons ⟨t, by rw [h.1]⟩ (chkStrs_vals h.2)
  | [], _ :: _, h => by cases h
  | .str .. :: _, [], h => by cases h
  | .none :: _, [], h => by cases h
  | .none :: _, _ :: _, h => by cases h
  | .bool _ :: _, l, h => by cases l <;> cases h
  | .int .. :: _, l, h => by cases l <;> cases h
  | .float .. :: _, l, h => by cases l <;> cases h
  | .bytes .. :: _, l, h => by cases l <;> cases h
  | .ref _ :: _, l, h => by cases l <;> cases h
  | .type _ :: _, l, h => by cases l <;> cases h
  | .builtin _ :: _, l, h => by cases l <;> cases h
theorem sqT_of {K : PySem.W.Frag} {a : Addr} {o : Obj} {l : List Str} (h : K.lookup a = some o) (c : okTup o l = true) (H : Hp) : SqT K H a (l.map V.str) := by
  unfold okTup at c
  split at c
  · rename_i n dd its m sl
    simp only [Bool.and_eq_true, beq_iff_eq, decide_eq_true_eq] at c
    obtain ⟨⟨rfl, c2⟩, c3⟩ := c
    exact .inr ⟨_, its, m, h, rfl, rfl, Nat.le_of_lt (small1000 c2), chkStrs_vals c3⟩
  · cases c
theorem all_mk {l : PySem.W.OpenLaw} {w : World} {K : PySem.W.Frag} {h : Heap} {mg : Str → Option Value} {fa : Addr} (X : K.In h) (G : h.Ns mainGlobals mg) (hfa : mg "law" = some (.ref fa))
    {f0 : Addr} {od0 an0 : Option Addr} {sl0 : Array (Option Value)} {oc0 kV0 dc0 pm0 cd0 ct0 : Value}
    {f1 : Addr} {od1 an1 : Option Addr} {sl1 : Array (Option Value)} {oc1 kV1 dc1 pm1 cd1 ct1 : Value}
    {D1 : Addr} {tc1 : Value} {td1 : Option Addr} {tn1 : Nat} {tk1 : Tok} {ts1 : Array (Option Value)}
    {f2 : Addr} {od2 an2 : Option Addr} {sl2 : Array (Option Value)} {oc2 kV2 dc2 pm2 cd2 ct2 : Value}
    {f3 : Addr} {od3 an3 : Option Addr} {sl3 : Array (Option Value)} {oc3 kV3 dc3 pm3 cd3 ct3 : Value}
    {f4 : Addr} {od4 an4 : Option Addr} {sl4 : Array (Option Value)} {oc4 kV4 dc4 pm4 cd4 ct4 : Value}
    {f5 : Addr} {od5 an5 : Option Addr} {sl5 : Array (Option Value)} {oc5 kV5 dc5 pm5 cd5 ct5 : Value}
    {f6 : Addr} {od6 an6 : Option Addr} {sl6 : Array (Option Value)} {oc6 kV6 dc6 pm6 cd6 ct6 : Value}
    {f7 : Addr} {od7 an7 : Option Addr} {sl7 : Array (Option Value)} {oc7 kV7 dc7 pm7 cd7 ct7 : Value}
    {f8 : Addr} {od8 an8 : Option Addr} {sl8 : Array (Option Value)} {oc8 kV8 dc8 pm8 cd8 ct8 : Value}
    {f9 : Addr} {od9 an9 : Option Addr} {sl9 : Array (Option Value)} {oc9 kV9 dc9 pm9 cd9 ct9 : Value}
    {f10 : Addr} {od10 an10 : Option Addr} {sl10 : Array (Option Value)} {oc10 kV10 dc10 pm10 cd10 ct10 : Value}
    {f11 : Addr} {od11 an11 : Option Addr} {sl11 : Array (Option Value)} {oc11 kV11 dc11 pm11 cd11 ct11 : Value}
    {f12 : Addr} {od12 an12 : Option Addr} {sl12 : Array (Option Value)} {oc12 kV12 dc12 pm12 cd12 ct12 : Value}
    {D12 : Addr} {tc12 : Value} {td12 : Option Addr} {tn12 : Nat} {tk12 : Tok} {ts12 : Array (Option Value)}
    {f13 : Addr} {od13 an13 : Option Addr} {sl13 : Array (Option Value)} {oc13 kV13 dc13 pm13 cd13 ct13 : Value}
    {f14 : Addr} {od14 an14 : Option Addr} {sl14 : Array (Option Value)} {oc14 kV14 dc14 pm14 cd14 ct14 : Value}
    {f15 : Addr} {od15 an15 : Option Addr} {sl15 : Array (Option Value)} {oc15 kV15 dc15 pm15 cd15 ct15 : Value}
    {f16 : Addr} {od16 an16 : Option Addr} {sl16 : Array (Option Value)} {oc16 kV16 dc16 pm16 cd16 ct16 : Value}
    {f17 : Addr} {od17 an17 : Option Addr} {sl17 : Array (Option Value)} {oc17 kV17 dc17 pm17 cd17 ct17 : Value}
    {f18 : Addr} {od18 an18 : Option Addr} {sl18 : Array (Option Value)} {oc18 kV18 dc18 pm18 cd18 ct18 : Value}
    {f19 : Addr} {od19 an19 : Option Addr} {sl19 : Array (Option Value)} {oc19 kV19 dc19 pm19 cd19 ct19 : Value}
    {f20 : Addr} {od20 an20 : Option Addr} {sl20 : Array (Option Value)} {oc20 kV20 dc20 pm20 cd20 ct20 : Value}
    {f21 : Addr} {od21 an21 : Option Addr} {sl21 : Array (Option Value)} {oc21 kV21 dc21 pm21 cd21 ct21 : Value}
    {f22 : Addr} {od22 an22 : Option Addr} {sl22 : Array (Option Value)} {oc22 kV22 dc22 pm22 cd22 ct22 : Value}
    {f23 : Addr} {od23 an23 : Option Addr} {sl23 : Array (Option Value)} {oc23 kV23 dc23 pm23 cd23 ct23 : Value}
    {f24 : Addr} {od24 an24 : Option Addr} {sl24 : Array (Option Value)} {oc24 kV24 dc24 pm24 cd24 ct24 : Value}
    {f25 : Addr} {od25 an25 : Option Addr} {sl25 : Array (Option Value)} {oc25 kV25 dc25 pm25 cd25 ct25 : Value}
    {f26 : Addr} {od26 an26 : Option Addr} {sl26 : Array (Option Value)} {oc26 kV26 dc26 pm26 cd26 ct26 : Value}
    {st_NAME_SIGNS : Tok}
    {at_ONE : Addr} {ot_ONE : Obj}
    {at_TWO : Addr} {ot_TWO : Obj}
    {at_LITERALS : Addr} {ot_LITERALS : Obj}
    {at_HEADS : Addr} {ot_HEADS : Obj}
    {at_RESERVED : Addr} {ot_RESERVED : Obj}
    (a0 : PySem.W.nsIn K mainGlobals "is_name" = some (some (.ref f0))) (l0 : K.lookup f0 = some ⟨oc0, od0, .func (PySem.W.fnOf "is_name" "is_name" (defArgs s_is_name) (defBody s_is_name) (defScope s_is_name) .none kV0 dc0 pm0 an0 cd0 ct0), sl0⟩) (c0 : PySem.W.codeIn K cd0 "is_name" = true) (k0 : PySem.W.keepIn K (.ref f0) = true)
    (a1 : PySem.W.nsIn K mainGlobals "is_number" = some (some (.ref f1))) (l1 : K.lookup f1 = some ⟨oc1, od1, .func (PySem.W.fnOf "is_number" "is_number" (defArgs s_is_number) (defBody s_is_number) (defScope s_is_number) (.ref D1) kV1 dc1 pm1 an1 cd1 ct1), sl1⟩) (c1 : PySem.W.codeIn K cd1 "is_number" = true) (k1 : PySem.W.keepIn K (.ref f1) = true)
    (m1 : K.lookup D1 = some ⟨tc1, td1, .seq #[.int 0 tk1] tn1, ts1⟩)
    (a2 : PySem.W.nsIn K mainGlobals "is_path" = some (some (.ref f2))) (l2 : K.lookup f2 = some ⟨oc2, od2, .func (PySem.W.fnOf "is_path" "is_path" (defArgs s_is_path) (defBody s_is_path) (defScope s_is_path) .none kV2 dc2 pm2 an2 cd2 ct2), sl2⟩) (c2 : PySem.W.codeIn K cd2 "is_path" = true) (k2 : PySem.W.keepIn K (.ref f2) = true)
    (a3 : PySem.W.nsIn K mainGlobals "is_ink" = some (some (.ref f3))) (l3 : K.lookup f3 = some ⟨oc3, od3, .func (PySem.W.fnOf "is_ink" "is_ink" (defArgs s_is_ink) (defBody s_is_ink) (defScope s_is_ink) .none kV3 dc3 pm3 an3 cd3 ct3), sl3⟩) (c3 : PySem.W.codeIn K cd3 "is_ink" = true) (k3 : PySem.W.keepIn K (.ref f3) = true)
    (a4 : PySem.W.nsIn K mainGlobals "first_kid" = some (some (.ref f4))) (l4 : K.lookup f4 = some ⟨oc4, od4, .func (PySem.W.fnOf "first_kid" "first_kid" (defArgs s_first_kid) (defBody s_first_kid) (defScope s_first_kid) .none kV4 dc4 pm4 an4 cd4 ct4), sl4⟩) (c4 : PySem.W.codeIn K cd4 "first_kid" = true) (k4 : PySem.W.keepIn K (.ref f4) = true)
    (a5 : PySem.W.nsIn K mainGlobals "has_plain_items" = some (some (.ref f5))) (l5 : K.lookup f5 = some ⟨oc5, od5, .func (PySem.W.fnOf "has_plain_items" "has_plain_items" (defArgs s_has_plain_items) (defBody s_has_plain_items) (defScope s_has_plain_items) .none kV5 dc5 pm5 an5 cd5 ct5), sl5⟩) (c5 : PySem.W.codeIn K cd5 "has_plain_items" = true) (k5 : PySem.W.keepIn K (.ref f5) = true)
    (a6 : PySem.W.nsIn K mainGlobals "is_tree" = some (some (.ref f6))) (l6 : K.lookup f6 = some ⟨oc6, od6, .func (PySem.W.fnOf "is_tree" "is_tree" (defArgs s_is_tree) (defBody s_is_tree) (defScope s_is_tree) .none kV6 dc6 pm6 an6 cd6 ct6), sl6⟩) (c6 : PySem.W.codeIn K cd6 "is_tree" = true) (k6 : PySem.W.keepIn K (.ref f6) = true)
    (a7 : PySem.W.nsIn K mainGlobals "may_be_value" = some (some (.ref f7))) (l7 : K.lookup f7 = some ⟨oc7, od7, .func (PySem.W.fnOf "may_be_value" "may_be_value" (defArgs s_may_be_value) (defBody s_may_be_value) (defScope s_may_be_value) .none kV7 dc7 pm7 an7 cd7 ct7), sl7⟩) (c7 : PySem.W.codeIn K cd7 "may_be_value" = true) (k7 : PySem.W.keepIn K (.ref f7) = true)
    (a8 : PySem.W.nsIn K mainGlobals "_law_feed_of" = some (some (.ref f8))) (l8 : K.lookup f8 = some ⟨oc8, od8, .func (PySem.W.fnOf "_law_feed_of" "_law_feed_of" (defArgs s__law_feed_of) (defBody s__law_feed_of) (defScope s__law_feed_of) .none kV8 dc8 pm8 an8 cd8 ct8), sl8⟩) (c8 : PySem.W.codeIn K cd8 "_law_feed_of" = true) (k8 : PySem.W.keepIn K (.ref f8) = true)
    (a9 : PySem.W.nsIn K mainGlobals "_law_draw" = some (some (.ref f9))) (l9 : K.lookup f9 = some ⟨oc9, od9, .func (PySem.W.fnOf "_law_draw" "_law_draw" (defArgs s__law_draw) (defBody s__law_draw) (defScope s__law_draw) .none kV9 dc9 pm9 an9 cd9 ct9), sl9⟩) (c9 : PySem.W.codeIn K cd9 "_law_draw" = true) (k9 : PySem.W.keepIn K (.ref f9) = true)
    (a10 : PySem.W.nsIn K mainGlobals "_law_pick" = some (some (.ref f10))) (l10 : K.lookup f10 = some ⟨oc10, od10, .func (PySem.W.fnOf "_law_pick" "_law_pick" (defArgs s__law_pick) (defBody s__law_pick) (defScope s__law_pick) .none kV10 dc10 pm10 an10 cd10 ct10), sl10⟩) (c10 : PySem.W.codeIn K cd10 "_law_pick" = true) (k10 : PySem.W.keepIn K (.ref f10) = true)
    (a11 : PySem.W.nsIn K mainGlobals "_law_same" = some (some (.ref f11))) (l11 : K.lookup f11 = some ⟨oc11, od11, .func (PySem.W.fnOf "_law_same" "_law_same" (defArgs s__law_same) (defBody s__law_same) (defScope s__law_same) .none kV11 dc11 pm11 an11 cd11 ct11), sl11⟩) (c11 : PySem.W.codeIn K cd11 "_law_same" = true) (k11 : PySem.W.keepIn K (.ref f11) = true)
    (a12 : PySem.W.nsIn K mainGlobals "_law_any_value" = some (some (.ref f12))) (l12 : K.lookup f12 = some ⟨oc12, od12, .func (PySem.W.fnOf "_law_any_value" "_law_any_value" (defArgs s__law_any_value) (defBody s__law_any_value) (defScope s__law_any_value) (.ref D12) kV12 dc12 pm12 an12 cd12 ct12), sl12⟩) (c12 : PySem.W.codeIn K cd12 "_law_any_value" = true) (k12 : PySem.W.keepIn K (.ref f12) = true)
    (m12 : K.lookup D12 = some ⟨tc12, td12, .seq #[.int 3 tk12] tn12, ts12⟩)
    (a13 : PySem.W.nsIn K mainGlobals "_law_first" = some (some (.ref f13))) (l13 : K.lookup f13 = some ⟨oc13, od13, .func (PySem.W.fnOf "_law_first" "_law_first" (defArgs s__law_first) (defBody s__law_first) (defScope s__law_first) .none kV13 dc13 pm13 an13 cd13 ct13), sl13⟩) (c13 : PySem.W.codeIn K cd13 "_law_first" = true) (k13 : PySem.W.keepIn K (.ref f13) = true)
    (a14 : PySem.W.nsIn K mainGlobals "_law_ones" = some (some (.ref f14))) (l14 : K.lookup f14 = some ⟨oc14, od14, .func (PySem.W.fnOf "_law_ones" "_law_ones" (defArgs s__law_ones) (defBody s__law_ones) (defScope s__law_ones) .none kV14 dc14 pm14 an14 cd14 ct14), sl14⟩) (c14 : PySem.W.codeIn K cd14 "_law_ones" = true) (k14 : PySem.W.keepIn K (.ref f14) = true)
    (a15 : PySem.W.nsIn K mainGlobals "_law_twos" = some (some (.ref f15))) (l15 : K.lookup f15 = some ⟨oc15, od15, .func (PySem.W.fnOf "_law_twos" "_law_twos" (defArgs s__law_twos) (defBody s__law_twos) (defScope s__law_twos) .none kV15 dc15 pm15 an15 cd15 ct15), sl15⟩) (c15 : PySem.W.codeIn K cd15 "_law_twos" = true) (k15 : PySem.W.keepIn K (.ref f15) = true)
    (a16 : PySem.W.nsIn K mainGlobals "_law_literal" = some (some (.ref f16))) (l16 : K.lookup f16 = some ⟨oc16, od16, .func (PySem.W.fnOf "_law_literal" "_law_literal" (defArgs s__law_literal) (defBody s__law_literal) (defScope s__law_literal) .none kV16 dc16 pm16 an16 cd16 ct16), sl16⟩) (c16 : PySem.W.codeIn K cd16 "_law_literal" = true) (k16 : PySem.W.keepIn K (.ref f16) = true)
    (a17 : PySem.W.nsIn K mainGlobals "_law_is_ink" = some (some (.ref f17))) (l17 : K.lookup f17 = some ⟨oc17, od17, .func (PySem.W.fnOf "_law_is_ink" "_law_is_ink" (defArgs s__law_is_ink) (defBody s__law_is_ink) (defScope s__law_is_ink) .none kV17 dc17 pm17 an17 cd17 ct17), sl17⟩) (c17 : PySem.W.codeIn K cd17 "_law_is_ink" = true) (k17 : PySem.W.keepIn K (.ref f17) = true)
    (a18 : PySem.W.nsIn K mainGlobals "_law_is_count" = some (some (.ref f18))) (l18 : K.lookup f18 = some ⟨oc18, od18, .func (PySem.W.fnOf "_law_is_count" "_law_is_count" (defArgs s__law_is_count) (defBody s__law_is_count) (defScope s__law_is_count) .none kV18 dc18 pm18 an18 cd18 ct18), sl18⟩) (c18 : PySem.W.codeIn K cd18 "_law_is_count" = true) (k18 : PySem.W.keepIn K (.ref f18) = true)
    (a19 : PySem.W.nsIn K mainGlobals "_law_reserved" = some (some (.ref f19))) (l19 : K.lookup f19 = some ⟨oc19, od19, .func (PySem.W.fnOf "_law_reserved" "_law_reserved" (defArgs s__law_reserved) (defBody s__law_reserved) (defScope s__law_reserved) .none kV19 dc19 pm19 an19 cd19 ct19), sl19⟩) (c19 : PySem.W.codeIn K cd19 "_law_reserved" = true) (k19 : PySem.W.keepIn K (.ref f19) = true)
    (a20 : PySem.W.nsIn K mainGlobals "_law_is_name" = some (some (.ref f20))) (l20 : K.lookup f20 = some ⟨oc20, od20, .func (PySem.W.fnOf "_law_is_name" "_law_is_name" (defArgs s__law_is_name) (defBody s__law_is_name) (defScope s__law_is_name) .none kV20 dc20 pm20 an20 cd20 ct20), sl20⟩) (c20 : PySem.W.codeIn K cd20 "_law_is_name" = true) (k20 : PySem.W.keepIn K (.ref f20) = true)
    (a21 : PySem.W.nsIn K mainGlobals "_law_is_plain" = some (some (.ref f21))) (l21 : K.lookup f21 = some ⟨oc21, od21, .func (PySem.W.fnOf "_law_is_plain" "_law_is_plain" (defArgs s__law_is_plain) (defBody s__law_is_plain) (defScope s__law_is_plain) .none kV21 dc21 pm21 an21 cd21 ct21), sl21⟩) (c21 : PySem.W.codeIn K cd21 "_law_is_plain" = true) (k21 : PySem.W.keepIn K (.ref f21) = true)
    (a22 : PySem.W.nsIn K mainGlobals "_law_is_tree" = some (some (.ref f22))) (l22 : K.lookup f22 = some ⟨oc22, od22, .func (PySem.W.fnOf "_law_is_tree" "_law_is_tree" (defArgs s__law_is_tree) (defBody s__law_is_tree) (defScope s__law_is_tree) .none kV22 dc22 pm22 an22 cd22 ct22), sl22⟩) (c22 : PySem.W.codeIn K cd22 "_law_is_tree" = true) (k22 : PySem.W.keepIn K (.ref f22) = true)
    (a23 : PySem.W.nsIn K mainGlobals "_law_inked_tree" = some (some (.ref f23))) (l23 : K.lookup f23 = some ⟨oc23, od23, .func (PySem.W.fnOf "_law_inked_tree" "_law_inked_tree" (defArgs s__law_inked_tree) (defBody s__law_inked_tree) (defScope s__law_inked_tree) .none kV23 dc23 pm23 an23 cd23 ct23), sl23⟩) (c23 : PySem.W.codeIn K cd23 "_law_inked_tree" = true) (k23 : PySem.W.keepIn K (.ref f23) = true)
    (a24 : PySem.W.nsIn K mainGlobals "_law_mark" = some (some (.ref f24))) (l24 : K.lookup f24 = some ⟨oc24, od24, .func (PySem.W.fnOf "_law_mark" "_law_mark" (defArgs s__law_mark) (defBody s__law_mark) (defScope s__law_mark) .none kV24 dc24 pm24 an24 cd24 ct24), sl24⟩) (c24 : PySem.W.codeIn K cd24 "_law_mark" = true) (k24 : PySem.W.keepIn K (.ref f24) = true)
    (a25 : PySem.W.nsIn K mainGlobals "_law_spoilt" = some (some (.ref f25))) (l25 : K.lookup f25 = some ⟨oc25, od25, .func (PySem.W.fnOf "_law_spoilt" "_law_spoilt" (defArgs s__law_spoilt) (defBody s__law_spoilt) (defScope s__law_spoilt) .none kV25 dc25 pm25 an25 cd25 ct25), sl25⟩) (c25 : PySem.W.codeIn K cd25 "_law_spoilt" = true) (k25 : PySem.W.keepIn K (.ref f25) = true)
    (a26 : PySem.W.nsIn K mainGlobals "law" = some (some (.ref f26))) (l26 : K.lookup f26 = some ⟨oc26, od26, .func (PySem.W.fnOf "law" "law" (defArgs s_law) (defBody s_law) (defScope s_law) .none kV26 dc26 pm26 an26 cd26 ct26), sl26⟩) (c26 : PySem.W.codeIn K cd26 "law" = true) (k26 : PySem.W.keepIn K (.ref f26) = true)
    (z_len : PySem.W.nsIn K mainGlobals "len" = some none)
    (z_isinstance : PySem.W.nsIn K mainGlobals "isinstance" = some none)
    (z_str : PySem.W.nsIn K mainGlobals "str" = some none)
    (z_int : PySem.W.nsIn K mainGlobals "int" = some none)
    (z_bool : PySem.W.nsIn K mainGlobals "bool" = some none)
    (z_tuple : PySem.W.nsIn K mainGlobals "tuple" = some none)
    (z_list : PySem.W.nsIn K mainGlobals "list" = some none)
    (z_range : PySem.W.nsIn K mainGlobals "range" = some none)
    (z_all : PySem.W.nsIn K mainGlobals "all" = some none)
    (z_zip : PySem.W.nsIn K mainGlobals "zip" = some none)
    (z_max : PySem.W.nsIn K mainGlobals "max" = some none)
    (z_min : PySem.W.nsIn K mainGlobals "min" = some none)
    (y_NAME_SIGNS : PySem.W.nsIn K mainGlobals "NAME_SIGNS" = some (some (.str signsS st_NAME_SIGNS)))
    (x_ONE : PySem.W.nsIn K mainGlobals "ONE" = some (some (.ref at_ONE))) (w_ONE : K.lookup at_ONE = some ot_ONE) (r_ONE : okTup ot_ONE progOne = true)
    (x_TWO : PySem.W.nsIn K mainGlobals "TWO" = some (some (.ref at_TWO))) (w_TWO : K.lookup at_TWO = some ot_TWO) (r_TWO : okTup ot_TWO progTwo = true)
    (x_LITERALS : PySem.W.nsIn K mainGlobals "LITERALS" = some (some (.ref at_LITERALS))) (w_LITERALS : K.lookup at_LITERALS = some ot_LITERALS) (r_LITERALS : okTup ot_LITERALS progLit = true)
    (x_HEADS : PySem.W.nsIn K mainGlobals "HEADS" = some (some (.ref at_HEADS))) (w_HEADS : K.lookup at_HEADS = some ot_HEADS) (r_HEADS : okTup ot_HEADS progHeads = true)
    (x_RESERVED : PySem.W.nsIn K mainGlobals "RESERVED" = some (some (.ref at_RESERVED))) (w_RESERVED : K.lookup at_RESERVED = some ot_RESERVED) (r_RESERVED : okTup ot_RESERVED progRes = true) :
    ∃ fd : FuncData, (∀ (s : Shared) (v : Value), BindsTo s fd ⟨[v], []⟩ [("_law_script", v)]) ∧ ∀ base : Heap, K.In base → base.Ns mainGlobals mg → FnOk l.prog w K mg base CX0 67 fa fd ["_law_script"] (spLaw K) := by
  have e := hfa.symm.trans (PySem.W.mg_of X G a26)
  cases e
  have F0 := fun_mk (st := s_is_name) l0 c0 k0
  have b0 := F0.binds (ps := ["thing"]) fun _ _ _ _ _ _ us hl => match us, hl with | [_], _ => rfl
  have F1 : FunD K "is_number" "is_number" (defArgs s_is_number) (defBody s_is_number) (defScope s_is_number) [.int 0] [] f1 (PySem.W.fnOf "is_number" "is_number" (defArgs s_is_number) (defBody s_is_number) (defScope s_is_number) (.ref D1) kV1 dc1 pm1 an1 cd1 ct1) := ⟨⟨oc1, od1, _, kV1, dc1, pm1, an1, cd1, ct1, sl1, rfl, l1, c1, .inr ⟨(fun z => by cases z), D1, _, [.int 0 tk1], tn1, rfl, m1, rfl, .cons ⟨tk1, rfl⟩ .nil⟩, .inl rfl⟩, k1⟩
  obtain ⟨ds1_0, v1_0, b1_0⟩ := F1.binds1 (ps := ["thing", "least"]) 2 1 (fun z => by cases z) rfl (fun T kV doc pm an cdv ct us its hl hi => match us, its, hl, hi with | [_, _], [_], _, _ => ⟨_, rfl, rfl⟩)
  obtain ⟨ds1_1, v1_1, b1_1⟩ := F1.binds1 (ps := ["thing", "least"]) 1 0 (fun z => by cases z) rfl (fun T kV doc pm an cdv ct us its hl hi => match us, its, hl, hi with | [_], [_], _, _ => ⟨_, rfl, rfl⟩)
  have F2 := fun_mk (st := s_is_path) l2 c2 k2
  have b2 := F2.binds (ps := ["thing"]) fun _ _ _ _ _ _ us hl => match us, hl with | [_], _ => rfl
  have F3 := fun_mk (st := s_is_ink) l3 c3 k3
  have b3 := F3.binds (ps := ["thing"]) fun _ _ _ _ _ _ us hl => match us, hl with | [_], _ => rfl
  have F4 := fun_mk (st := s_first_kid) l4 c4 k4
  have b4 := F4.binds (ps := ["head", "items"]) fun _ _ _ _ _ _ us hl => match us, hl with | [_, _], _ => rfl
  have F5 := fun_mk (st := s_has_plain_items) l5 c5 k5
  have b5 := F5.binds (ps := ["head", "items"]) fun _ _ _ _ _ _ us hl => match us, hl with | [_, _], _ => rfl
  have F6 := fun_mk (st := s_is_tree) l6 c6 k6
  have b6 := F6.binds (ps := ["thing"]) fun _ _ _ _ _ _ us hl => match us, hl with | [_], _ => rfl
  have F7 := fun_mk (st := s_may_be_value) l7 c7 k7
  have b7 := F7.binds (ps := ["thing"]) fun _ _ _ _ _ _ us hl => match us, hl with | [_], _ => rfl
  have F8 := fun_mk (st := s__law_feed_of) l8 c8 k8
  have b8 := F8.binds (ps := ["_law_script", "_law_k"]) fun _ _ _ _ _ _ us hl => match us, hl with | [_, _], _ => rfl
  have F9 := fun_mk (st := s__law_draw) l9 c9 k9
  have b9 := F9.binds (ps := ["_law_feed", "_law_many"]) fun _ _ _ _ _ _ us hl => match us, hl with | [_, _], _ => rfl
  have F10 := fun_mk (st := s__law_pick) l10 c10 k10
  have b10 := F10.binds (ps := ["_law_feed", "_law_items"]) fun _ _ _ _ _ _ us hl => match us, hl with | [_, _], _ => rfl
  have F11 := fun_mk (st := s__law_same) l11 c11 k11
  have b11 := F11.binds (ps := ["_law_found", "_law_due"]) fun _ _ _ _ _ _ us hl => match us, hl with | [_, _], _ => rfl
  have F12 : FunD K "_law_any_value" "_law_any_value" (defArgs s__law_any_value) (defBody s__law_any_value) (defScope s__law_any_value) [.int 3] [] f12 (PySem.W.fnOf "_law_any_value" "_law_any_value" (defArgs s__law_any_value) (defBody s__law_any_value) (defScope s__law_any_value) (.ref D12) kV12 dc12 pm12 an12 cd12 ct12) := ⟨⟨oc12, od12, _, kV12, dc12, pm12, an12, cd12, ct12, sl12, rfl, l12, c12, .inr ⟨(fun z => by cases z), D12, _, [.int 3 tk12], tn12, rfl, m12, rfl, .cons ⟨tk12, rfl⟩ .nil⟩, .inl rfl⟩, k12⟩
  obtain ⟨ds12_0, v12_0, b12_0⟩ := F12.binds1 (ps := ["_law_feed", "_law_deep"]) 2 1 (fun z => by cases z) rfl (fun T kV doc pm an cdv ct us its hl hi => match us, its, hl, hi with | [_, _], [_], _, _ => ⟨_, rfl, rfl⟩)
  obtain ⟨ds12_1, v12_1, b12_1⟩ := F12.binds1 (ps := ["_law_feed", "_law_deep"]) 1 0 (fun z => by cases z) rfl (fun T kV doc pm an cdv ct us its hl hi => match us, its, hl, hi with | [_], [_], _, _ => ⟨_, rfl, rfl⟩)
  have F13 := fun_mk (st := s__law_first) l13 c13 k13
  have b13 := F13.binds (ps := ["_law_head"]) fun _ _ _ _ _ _ us hl => match us, hl with | [_], _ => rfl
  have F14 := fun_mk (st := s__law_ones) l14 c14 k14
  have b14 := F14.binds (ps := []) fun _ _ _ _ _ _ us hl => match us, hl with | [], _ => rfl
  have F15 := fun_mk (st := s__law_twos) l15 c15 k15
  have b15 := F15.binds (ps := []) fun _ _ _ _ _ _ us hl => match us, hl with | [], _ => rfl
  have F16 := fun_mk (st := s__law_literal) l16 c16 k16
  have b16 := F16.binds (ps := ["_law_feed"]) fun _ _ _ _ _ _ us hl => match us, hl with | [_], _ => rfl
  have F17 := fun_mk (st := s__law_is_ink) l17 c17 k17
  have b17 := F17.binds (ps := ["_law_thing"]) fun _ _ _ _ _ _ us hl => match us, hl with | [_], _ => rfl
  have F18 := fun_mk (st := s__law_is_count) l18 c18 k18
  have b18 := F18.binds (ps := ["_law_thing", "_law_least"]) fun _ _ _ _ _ _ us hl => match us, hl with | [_, _], _ => rfl
  have F19 := fun_mk (st := s__law_reserved) l19 c19 k19
  have b19 := F19.binds (ps := []) fun _ _ _ _ _ _ us hl => match us, hl with | [], _ => rfl
  have F20 := fun_mk (st := s__law_is_name) l20 c20 k20
  have b20 := F20.binds (ps := ["_law_thing"]) fun _ _ _ _ _ _ us hl => match us, hl with | [_], _ => rfl
  have F21 := fun_mk (st := s__law_is_plain) l21 c21 k21
  have b21 := F21.binds (ps := ["_law_head", "_law_items"]) fun _ _ _ _ _ _ us hl => match us, hl with | [_, _], _ => rfl
  have F22 := fun_mk (st := s__law_is_tree) l22 c22 k22
  have b22 := F22.binds (ps := ["_law_thing"]) fun _ _ _ _ _ _ us hl => match us, hl with | [_], _ => rfl
  have F23 := fun_mk (st := s__law_inked_tree) l23 c23 k23
  have b23 := F23.binds (ps := ["_law_feed", "_law_deep"]) fun _ _ _ _ _ _ us hl => match us, hl with | [_, _], _ => rfl
  have F24 := fun_mk (st := s__law_mark) l24 c24 k24
  have b24 := F24.binds (ps := ["_law_feed"]) fun _ _ _ _ _ _ us hl => match us, hl with | [_], _ => rfl
  have F25 := fun_mk (st := s__law_spoilt) l25 c25 k25
  have b25 := F25.binds (ps := ["_law_feed", "_law_thing"]) fun _ _ _ _ _ _ us hl => match us, hl with | [_, _], _ => rfl
  have F26 := fun_mk (st := s_law) l26 c26 k26
  have b26 := F26.binds (ps := ["_law_script"]) fun _ _ _ _ _ _ us hl => match us, hl with | [_], _ => rfl
  let T : Top K mg := { is_name := f0, is_name_d := _, is_name_f := F0, is_name_b := b0, is_name_g := PySem.W.mg_of X G a0, is_name_k := k0, is_number := f1, is_number_d := _, is_number_f := F1, is_number_ds0 := ds1_0, is_number_v0 := v1_0, is_number_b0 := b1_0, is_number_ds1 := ds1_1, is_number_v1 := v1_1, is_number_b1 := b1_1, is_number_g := PySem.W.mg_of X G a1, is_number_k := k1, is_path := f2, is_path_d := _, is_path_f := F2, is_path_b := b2, is_path_g := PySem.W.mg_of X G a2, is_path_k := k2, is_ink := f3, is_ink_d := _, is_ink_f := F3, is_ink_b := b3, is_ink_g := PySem.W.mg_of X G a3, is_ink_k := k3, first_kid := f4, first_kid_d := _, first_kid_f := F4, first_kid_b := b4, first_kid_g := PySem.W.mg_of X G a4, first_kid_k := k4, has_plain_items := f5, has_plain_items_d := _, has_plain_items_f := F5, has_plain_items_b := b5, has_plain_items_g := PySem.W.mg_of X G a5, has_plain_items_k := k5, is_tree := f6, is_tree_d := _, is_tree_f := F6, is_tree_b := b6, is_tree_g := PySem.W.mg_of X G a6, is_tree_k := k6, may_be_value := f7, may_be_value_d := _, may_be_value_f := F7, may_be_value_b := b7, may_be_value_g := PySem.W.mg_of X G a7, may_be_value_k := k7, _law_feed_of := f8, _law_feed_of_d := _, _law_feed_of_f := F8, _law_feed_of_b := b8, _law_feed_of_g := PySem.W.mg_of X G a8, _law_feed_of_k := k8, _law_draw := f9, _law_draw_d := _, _law_draw_f := F9, _law_draw_b := b9, _law_draw_g := PySem.W.mg_of X G a9, _law_draw_k := k9, _law_pick := f10, _law_pick_d := _, _law_pick_f := F10, _law_pick_b := b10, _law_pick_g := PySem.W.mg_of X G a10, _law_pick_k := k10, _law_same := f11, _law_same_d := _, _law_same_f := F11, _law_same_b := b11, _law_same_g := PySem.W.mg_of X G a11, _law_same_k := k11, _law_any_value := f12, _law_any_value_d := _, _law_any_value_f := F12, _law_any_value_ds0 := ds12_0, _law_any_value_v0 := v12_0, _law_any_value_b0 := b12_0, _law_any_value_ds1 := ds12_1, _law_any_value_v1 := v12_1, _law_any_value_b1 := b12_1, _law_any_value_g := PySem.W.mg_of X G a12, _law_any_value_k := k12, _law_first := f13, _law_first_d := _, _law_first_f := F13, _law_first_b := b13, _law_first_g := PySem.W.mg_of X G a13, _law_first_k := k13, _law_ones := f14, _law_ones_d := _, _law_ones_f := F14, _law_ones_b := b14, _law_ones_g := PySem.W.mg_of X G a14, _law_ones_k := k14, _law_twos := f15, _law_twos_d := _, _law_twos_f := F15, _law_twos_b := b15, _law_twos_g := PySem.W.mg_of X G a15, _law_twos_k := k15, _law_literal := f16, _law_literal_d := _, _law_literal_f := F16, _law_literal_b := b16, _law_literal_g := PySem.W.mg_of X G a16, _law_literal_k := k16, _law_is_ink := f17, _law_is_ink_d := _, _law_is_ink_f := F17, _law_is_ink_b := b17, _law_is_ink_g := PySem.W.mg_of X G a17, _law_is_ink_k := k17, _law_is_count := f18, _law_is_count_d := _, _law_is_count_f := F18, _law_is_count_b := b18, _law_is_count_g := PySem.W.mg_of X G a18, _law_is_count_k := k18, _law_reserved := f19, _law_reserved_d := _, _law_reserved_f := F19, _law_reserved_b := b19, _law_reserved_g := PySem.W.mg_of X G a19, _law_reserved_k := k19, _law_is_name := f20, _law_is_name_d := _, _law_is_name_f := F20, _law_is_name_b := b20, _law_is_name_g := PySem.W.mg_of X G a20, _law_is_name_k := k20, _law_is_plain := f21, _law_is_plain_d := _, _law_is_plain_f := F21, _law_is_plain_b := b21, _law_is_plain_g := PySem.W.mg_of X G a21, _law_is_plain_k := k21, _law_is_tree := f22, _law_is_tree_d := _, _law_is_tree_f := F22, _law_is_tree_b := b22, _law_is_tree_g := PySem.W.mg_of X G a22, _law_is_tree_k := k22, _law_inked_tree := f23, _law_inked_tree_d := _, _law_inked_tree_f := F23, _law_inked_tree_b := b23, _law_inked_tree_g := PySem.W.mg_of X G a23, _law_inked_tree_k := k23, _law_mark := f24, _law_mark_d := _, _law_mark_f := F24, _law_mark_b := b24, _law_mark_g := PySem.W.mg_of X G a24, _law_mark_k := k24, _law_spoilt := f25, _law_spoilt_d := _, _law_spoilt_f := F25, _law_spoilt_b := b25, _law_spoilt_g := PySem.W.mg_of X G a25, _law_spoilt_k := k25, law := fa, law_d := _, law_f := F26, law_b := b26, law_g := PySem.W.mg_of X G a26, law_k := k26, len_n := PySem.W.mg_none_of X G z_len, isinstance_n := PySem.W.mg_none_of X G z_isinstance, str_n := PySem.W.mg_none_of X G z_str, int_n := PySem.W.mg_none_of X G z_int, bool_n := PySem.W.mg_none_of X G z_bool, tuple_n := PySem.W.mg_none_of X G z_tuple, list_n := PySem.W.mg_none_of X G z_list, range_n := PySem.W.mg_none_of X G z_range, all_n := PySem.W.mg_none_of X G z_all, zip_n := PySem.W.mg_none_of X G z_zip, max_n := PySem.W.mg_none_of X G z_max, min_n := PySem.W.mg_none_of X G z_min, NAME_SIGNS_t := st_NAME_SIGNS, NAME_SIGNS_g := PySem.W.mg_of X G y_NAME_SIGNS, ONE := at_ONE, ONE_g := PySem.W.mg_of X G x_ONE, ONE_s := sqT_of w_ONE r_ONE, TWO := at_TWO, TWO_g := PySem.W.mg_of X G x_TWO, TWO_s := sqT_of w_TWO r_TWO, LITERALS := at_LITERALS, LITERALS_g := PySem.W.mg_of X G x_LITERALS, LITERALS_s := sqT_of w_LITERALS r_LITERALS, HEADS := at_HEADS, HEADS_g := PySem.W.mg_of X G x_HEADS, HEADS_s := sqT_of w_HEADS r_HEADS, RESERVED := at_RESERVED, RESERVED_g := PySem.W.mg_of X G x_RESERVED, RESERVED_s := sqT_of w_RESERVED r_RESERVED }
  exact ⟨T.law_d, fun s v => .of_eq rfl, fun base _ _ => ok_law (P := l.prog) (w := w) (base := base) T⟩
end Sa

set_option Elab.async false
set_option linter.all false
set_option maxRecDepth 100000
set_option maxHeartbeats 4000000
open PySem PySem.W PyProof.Rows
set_option maxHeartbeats 0 in
theorem PySem.Challenge.cw_saidanew_k02_trees_and_other_values_holds : PySem.Challenge.rw_saidanew_k02_trees_and_other_values.Holds := by
  w_on; o_law; k_head; (case hw => w_witness2)
  k_fill
  refine L2.walk_of (l := PySem.Challenge.rw_saidanew_k02_trees_and_other_values) (n := 63) (k := 67) (x := "_law_script") (CX := fun _ => L2.CX0) (sp := fun w => Sa.spLaw _) rfl (by decide) rfl ⟨rfl, by decide, by decide⟩ (fun w h Y => PySem.W.kIn_of Y) ?F (fun _ _ a ns hl _ hS => ⟨a, ns, rfl, hS, hl, fun _ => rfl⟩) (fun _ _ _ _ _ h => h)
  case F =>
    intro w mg fa h KX G hmg
    refine' Sa.all_mk KX G hmg ?a0 ?l0 ?c0 ?k0 ?a1 ?l1 ?c1 ?k1 ?m1 ?a2 ?l2 ?c2 ?k2 ?a3 ?l3 ?c3 ?k3 ?a4 ?l4 ?c4 ?k4 ?a5 ?l5 ?c5 ?k5 ?a6 ?l6 ?c6 ?k6 ?a7 ?l7 ?c7 ?k7 ?a8 ?l8 ?c8 ?k8 ?a9 ?l9 ?c9 ?k9 ?a10 ?l10 ?c10 ?k10 ?a11 ?l11 ?c11 ?k11 ?a12 ?l12 ?c12 ?k12 ?m12 ?a13 ?l13 ?c13 ?k13 ?a14 ?l14 ?c14 ?k14 ?a15 ?l15 ?c15 ?k15 ?a16 ?l16 ?c16 ?k16 ?a17 ?l17 ?c17 ?k17 ?a18 ?l18 ?c18 ?k18 ?a19 ?l19 ?c19 ?k19 ?a20 ?l20 ?c20 ?k20 ?a21 ?l21 ?c21 ?k21 ?a22 ?l22 ?c22 ?k22 ?a23 ?l23 ?c23 ?k23 ?a24 ?l24 ?c24 ?k24 ?a25 ?l25 ?c25 ?k25 ?a26 ?l26 ?c26 ?k26 ?z_len ?z_isinstance ?z_str ?z_int ?z_bool ?z_tuple ?z_list ?z_range ?z_all ?z_zip ?z_max ?z_min ?y_NAME_SIGNS ?x_ONE ?w_ONE ?r_ONE ?x_TWO ?w_TWO ?r_TWO ?x_LITERALS ?w_LITERALS ?r_LITERALS ?x_HEADS ?w_HEADS ?r_HEADS ?x_RESERVED ?w_RESERVED ?r_RESERVED
    (case a0 => k_is)
    (case l0 => k_is)
    (case c0 => k_is)
    (case k0 => k_is)
    (case a1 => k_is)
    (case l1 => k_is)
    (case c1 => k_is)
    (case k1 => k_is)
    (case m1 => k_is)
    (case a2 => k_is)
    (case l2 => k_is)
    (case c2 => k_is)
    (case k2 => k_is)
    (case a3 => k_is)
    (case l3 => k_is)
    (case c3 => k_is)
    (case k3 => k_is)
    (case a4 => k_is)
    (case l4 => k_is)
    (case c4 => k_is)
    (case k4 => k_is)
    (case a5 => k_is)
    (case l5 => k_is)
    (case c5 => k_is)
    (case k5 => k_is)
    (case a6 => k_is)
    (case l6 => k_is)
    (case c6 => k_is)
    (case k6 => k_is)
    (case a7 => k_is)
    (case l7 => k_is)
    (case c7 => k_is)
    (case k7 => k_is)
    (case a8 => k_is)
    (case l8 => k_is)
    (case c8 => k_is)
    (case k8 => k_is)
    (case a9 => k_is)
    (case l9 => k_is)
    (case c9 => k_is)
    (case k9 => k_is)
    (case a10 => k_is)
    (case l10 => k_is)
    (case c10 => k_is)
    (case k10 => k_is)
    (case a11 => k_is)
    (case l11 => k_is)
    (case c11 => k_is)
    (case k11 => k_is)
    (case a12 => k_is)
    (case l12 => k_is)
    (case c12 => k_is)
    (case k12 => k_is)
    (case m12 => k_is)
    (case a13 => k_is)
    (case l13 => k_is)
    (case c13 => k_is)
    (case k13 => k_is)
    (case a14 => k_is)
    (case l14 => k_is)
    (case c14 => k_is)
    (case k14 => k_is)
    (case a15 => k_is)
    (case l15 => k_is)
    (case c15 => k_is)
    (case k15 => k_is)
    (case a16 => k_is)
    (case l16 => k_is)
    (case c16 => k_is)
    (case k16 => k_is)
    (case a17 => k_is)
    (case l17 => k_is)
    (case c17 => k_is)
    (case k17 => k_is)
    (case a18 => k_is)
    (case l18 => k_is)
    (case c18 => k_is)
    (case k18 => k_is)
    (case a19 => k_is)
    (case l19 => k_is)
    (case c19 => k_is)
    (case k19 => k_is)
    (case a20 => k_is)
    (case l20 => k_is)
    (case c20 => k_is)
    (case k20 => k_is)
    (case a21 => k_is)
    (case l21 => k_is)
    (case c21 => k_is)
    (case k21 => k_is)
    (case a22 => k_is)
    (case l22 => k_is)
    (case c22 => k_is)
    (case k22 => k_is)
    (case a23 => k_is)
    (case l23 => k_is)
    (case c23 => k_is)
    (case k23 => k_is)
    (case a24 => k_is)
    (case l24 => k_is)
    (case c24 => k_is)
    (case k24 => k_is)
    (case a25 => k_is)
    (case l25 => k_is)
    (case c25 => k_is)
    (case k25 => k_is)
    (case a26 => k_is)
    (case l26 => k_is)
    (case c26 => k_is)
    (case k26 => k_is)
    (case z_len => k_is)
    (case z_isinstance => k_is)
    (case z_str => k_is)
    (case z_int => k_is)
    (case z_bool => k_is)
    (case z_tuple => k_is)
    (case z_list => k_is)
    (case z_range => k_is)
    (case z_all => k_is)
    (case z_zip => k_is)
    (case z_max => k_is)
    (case z_min => k_is)
    (case y_NAME_SIGNS => k_is)
    (case x_ONE => k_is)
    (case w_ONE => k_is)
    (case r_ONE => exact (by with_unfolding_all rfl))
    (case x_TWO => k_is)
    (case w_TWO => k_is)
    (case r_TWO => exact (by with_unfolding_all rfl))
    (case x_LITERALS => k_is)
    (case w_LITERALS => k_is)
    (case r_LITERALS => exact (by with_unfolding_all rfl))
    (case x_HEADS => k_is)
    (case w_HEADS => k_is)
    (case r_HEADS => exact (by with_unfolding_all rfl))
    (case x_RESERVED => k_is)
    (case w_RESERVED => k_is)
    (case r_RESERVED => exact (by with_unfolding_all rfl))

