import PyProof.Rows.All
import Wide.All
import OpenK.AllK
import Wide.FinOn
import HandS.ForMost
import HandS.IsInst
import HandS.Deep
import HandS.Defaults
import HandS.Flow
import HandS.TupAny
import HandS.Zip
import HandS.GenList
import HandS.Style
import HandS.RevRange
import KE.GoesMore
import HandS.GenYield
import PySem.Challenge.RW_saidanew_k03_paths_and_inks
set_option Elab.async false
set_option linter.all false
set_option maxRecDepth 100000
set_option maxHeartbeats 4000000
namespace Sa
open PySem PySem.Spec PyProof.Rows L2
def topS (i : Nat) : Stmt := PySem.Challenge.pw_saidanew_k03_paths_and_inks.main.body.getD i (.Pass ⟨0, 0, 0, 0⟩)
abbrev s_inked : Stmt := topS 8
theorem sc_inked : GScope ["tree", "path", "here"] ["tree"] (defScope s_inked) := ⟨rfl, rfl, rfl, by decide +kernel, rfl, by decide +kernel, by decide +kernel⟩
abbrev s_first_kid : Stmt := topS 1
theorem sc_first_kid : FnScope ["head", "items"] ["head", "items"] (defScope s_first_kid) := ⟨rfl, rfl, rfl, by decide +kernel, rfl, by decide +kernel, by decide +kernel⟩
abbrev s_kids_of : Stmt := topS 2
theorem sc_kids_of : FnScope ["tree"] ["tree"] (defScope s_kids_of) := ⟨rfl, rfl, rfl, by decide +kernel, rfl, by decide +kernel, by decide +kernel⟩
abbrev s_remade : Stmt := topS 3
theorem sc_remade : FnScope ["tree", "kids"] ["tree", "kids"] (defScope s_remade) := ⟨rfl, rfl, rfl, by decide +kernel, rfl, by decide +kernel, by decide +kernel⟩
abbrev s_subtree : Stmt := topS 4
theorem sc_subtree : FnScope ["tree", "path", "index"] ["tree", "path"] (defScope s_subtree) := ⟨rfl, rfl, rfl, by decide +kernel, rfl, by decide +kernel, by decide +kernel⟩
abbrev s_with_subtree : Stmt := topS 5
theorem sc_with_subtree : FnScope ["tree", "path", "other", "around", "index", "head", "ink", "items"] ["tree", "path", "other"] (defScope s_with_subtree) := ⟨rfl, rfl, rfl, by decide +kernel, rfl, by decide +kernel, by decide +kernel⟩
abbrev s_nodes : Stmt := topS 6
theorem sc_nodes : FnScope ["tree", "found", "left", "path", "here", "first", "index"] ["tree"] (defScope s_nodes) := ⟨rfl, rfl, rfl, by decide +kernel, rfl, by decide +kernel, by decide +kernel⟩
abbrev s_count : Stmt := topS 7
theorem sc_count : FnScope ["tree"] ["tree"] (defScope s_count) := ⟨rfl, rfl, rfl, by decide +kernel, rfl, by decide +kernel, by decide +kernel⟩
abbrev s_bared : Stmt := topS 9
theorem sc_bared : FnScope ["tree", "head", "ink", "items", "kid"] ["tree"] (defScope s_bared) := ⟨rfl, rfl, rfl, by decide +kernel, rfl, by decide +kernel, by decide +kernel⟩
abbrev s__law_feed_of : Stmt := topS 11
theorem sc__law_feed_of : FnScope ["_law_script", "_law_k", "_law_cell", "_law_great"] ["_law_script", "_law_k"] (defScope s__law_feed_of) := ⟨rfl, rfl, rfl, by decide +kernel, rfl, by decide +kernel, by decide +kernel⟩
abbrev s__law_draw : Stmt := topS 12
theorem sc__law_draw : FnScope ["_law_feed", "_law_many", "_law_digit"] ["_law_feed", "_law_many"] (defScope s__law_draw) := ⟨rfl, rfl, rfl, by decide +kernel, rfl, by decide +kernel, by decide +kernel⟩
abbrev s__law_pick : Stmt := topS 13
theorem sc__law_pick : FnScope ["_law_feed", "_law_items"] ["_law_feed", "_law_items"] (defScope s__law_pick) := ⟨rfl, rfl, rfl, by decide +kernel, rfl, by decide +kernel, by decide +kernel⟩
abbrev s__law_mixed : Stmt := topS 14
theorem sc__law_mixed : FnScope ["_law_feed", "_law_items", "_law_left", "_law_found"] ["_law_feed", "_law_items"] (defScope s__law_mixed) := ⟨rfl, rfl, rfl, by decide +kernel, rfl, by decide +kernel, by decide +kernel⟩
abbrev s__law_same : Stmt := topS 15
theorem sc__law_same : FnScope ["_law_found", "_law_due", "_law_one", "_law_other"] ["_law_found", "_law_due"] (defScope s__law_same) := ⟨rfl, rfl, rfl, by decide +kernel, rfl, by decide +kernel, by decide +kernel⟩
abbrev s__law_first : Stmt := topS 16
theorem sc__law_first : FnScope ["_law_head"] ["_law_head"] (defScope s__law_first) := ⟨rfl, rfl, rfl, by decide +kernel, rfl, by decide +kernel, by decide +kernel⟩
abbrev s__law_ones : Stmt := topS 17
theorem sc__law_ones : FnScope [] [] (defScope s__law_ones) := ⟨rfl, rfl, rfl, by decide +kernel, rfl, by decide +kernel, by decide +kernel⟩
abbrev s__law_twos : Stmt := topS 18
theorem sc__law_twos : FnScope [] [] (defScope s__law_twos) := ⟨rfl, rfl, rfl, by decide +kernel, rfl, by decide +kernel, by decide +kernel⟩
abbrev s__law_literal : Stmt := topS 19
theorem sc__law_literal : FnScope ["_law_feed", "_law_word", "_law_some_here"] ["_law_feed"] (defScope s__law_literal) := ⟨rfl, rfl, rfl, by decide +kernel, rfl, by decide +kernel, by decide +kernel⟩
abbrev s__law_inked_tree : Stmt := topS 20
theorem sc__law_inked_tree : FnScope ["_law_feed", "_law_deep", "_law_form", "_law_ink", "_law_some_here", "_law_items", "_law_heads", "_law_many", "_law_kids", "_law_head", "_law_turn", "_law_item"] ["_law_feed", "_law_deep"] (defScope s__law_inked_tree) := ⟨rfl, rfl, rfl, by decide +kernel, rfl, by decide +kernel, by decide +kernel⟩
abbrev s__law_mark : Stmt := topS 21
theorem sc__law_mark : FnScope ["_law_feed", "_law_path", "_law_turn"] ["_law_feed"] (defScope s__law_mark) := ⟨rfl, rfl, rfl, by decide +kernel, rfl, by decide +kernel, by decide +kernel⟩
abbrev s__law_all : Stmt := topS 22
theorem sc__law_all : FnScope ["_law_tree", "_law_path", "_law_found", "_law_first_here", "_law_at", "_law_kid"] ["_law_tree", "_law_path"] (defScope s__law_all) := ⟨rfl, rfl, rfl, by decide +kernel, rfl, by decide +kernel, by decide +kernel⟩
abbrev s__law_put : Stmt := topS 23
theorem sc__law_put : FnScope ["_law_tree", "_law_path", "_law_other", "_law_items"] ["_law_tree", "_law_path", "_law_other"] (defScope s__law_put) := ⟨rfl, rfl, rfl, by decide +kernel, rfl, by decide +kernel, by decide +kernel⟩
abbrev s__law_bare : Stmt := topS 24
theorem sc__law_bare : FnScope ["_law_tree", "_law_first_here", "_law_kid"] ["_law_tree"] (defScope s__law_bare) := ⟨rfl, rfl, rfl, by decide +kernel, rfl, by decide +kernel, by decide +kernel⟩
abbrev s__law_some : Stmt := topS 25
theorem sc__law_some : FnScope ["_law_tree", "_law_many", "_law_found", "_law_pair"] ["_law_tree", "_law_many"] (defScope s__law_some) := ⟨rfl, rfl, rfl, by decide +kernel, rfl, by decide +kernel, by decide +kernel⟩
abbrev s_law : Stmt := topS 26
theorem sc_law : FnScope ["_law_script", "_law_k", "_law_feed", "_law_turn", "_law_tree", "_law_other", "_law_known", "_law_path", "_law_node", "_law_due", "_law_many", "_law_found"] ["_law_script"] (defScope s_law) := ⟨rfl, rfl, rfl, by decide +kernel, rfl, by decide +kernel, by decide +kernel⟩
structure Top (K : PySem.W.Frag) (mg : Str → Option Value) where
  len_n : mg "len" = none
  isinstance_n : mg "isinstance" = none
  str_n : mg "str" = none
  int_n : mg "int" = none
  bool_n : mg "bool" = none
  tuple_n : mg "tuple" = none
  list_n : mg "list" = none
  range_n : mg "range" = none
  all_n : mg "all" = none
  zip_n : mg "zip" = none
  max_n : mg "max" = none
  min_n : mg "min" = none
  enumerate_n : mg "enumerate" = none
  reversed_n : mg "reversed" = none
  first_kid : Addr
  first_kid_d : FuncData
  first_kid_f : Fun K "first_kid" "first_kid" s_first_kid first_kid first_kid_d
  first_kid_b : Binds K first_kid_d ["head", "items"] []
  first_kid_g : mg "first_kid" = some (.ref first_kid)
  first_kid_k : PySem.W.keepIn K (.ref first_kid) = true
  kids_of : Addr
  kids_of_d : FuncData
  kids_of_f : Fun K "kids_of" "kids_of" s_kids_of kids_of kids_of_d
  kids_of_b : Binds K kids_of_d ["tree"] []
  kids_of_g : mg "kids_of" = some (.ref kids_of)
  kids_of_k : PySem.W.keepIn K (.ref kids_of) = true
  remade : Addr
  remade_d : FuncData
  remade_f : Fun K "remade" "remade" s_remade remade remade_d
  remade_b : Binds K remade_d ["tree", "kids"] []
  remade_g : mg "remade" = some (.ref remade)
  remade_k : PySem.W.keepIn K (.ref remade) = true
  subtree : Addr
  subtree_d : FuncData
  subtree_f : Fun K "subtree" "subtree" s_subtree subtree subtree_d
  subtree_b : Binds K subtree_d ["tree", "path"] []
  subtree_g : mg "subtree" = some (.ref subtree)
  subtree_k : PySem.W.keepIn K (.ref subtree) = true
  with_subtree : Addr
  with_subtree_d : FuncData
  with_subtree_f : Fun K "with_subtree" "with_subtree" s_with_subtree with_subtree with_subtree_d
  with_subtree_b : Binds K with_subtree_d ["tree", "path", "other"] []
  with_subtree_g : mg "with_subtree" = some (.ref with_subtree)
  with_subtree_k : PySem.W.keepIn K (.ref with_subtree) = true
  nodes : Addr
  nodes_d : FuncData
  nodes_f : Fun K "nodes" "nodes" s_nodes nodes nodes_d
  nodes_b : Binds K nodes_d ["tree"] []
  nodes_g : mg "nodes" = some (.ref nodes)
  nodes_k : PySem.W.keepIn K (.ref nodes) = true
  count : Addr
  count_d : FuncData
  count_f : Fun K "count" "count" s_count count count_d
  count_b : Binds K count_d ["tree"] []
  count_g : mg "count" = some (.ref count)
  count_k : PySem.W.keepIn K (.ref count) = true
  inked : Addr
  inked_d : FuncData
  inked_f : Fun K "inked" "inked" s_inked inked inked_d
  inked_b : Binds K inked_d ["tree"] []
  inked_g : mg "inked" = some (.ref inked)
  inked_k : PySem.W.keepIn K (.ref inked) = true
  bared : Addr
  bared_d : FuncData
  bared_f : Fun K "bared" "bared" s_bared bared bared_d
  bared_b : Binds K bared_d ["tree"] []
  bared_g : mg "bared" = some (.ref bared)
  bared_k : PySem.W.keepIn K (.ref bared) = true
  _law_feed_of : Addr
  _law_feed_of_d : FuncData
  _law_feed_of_f : Fun K "_law_feed_of" "_law_feed_of" s__law_feed_of _law_feed_of _law_feed_of_d
  _law_feed_of_b : Binds K _law_feed_of_d ["_law_script", "_law_k"] []
  _law_feed_of_g : mg "_law_feed_of" = some (.ref _law_feed_of)
  _law_feed_of_k : PySem.W.keepIn K (.ref _law_feed_of) = true
  _law_draw : Addr
  _law_draw_d : FuncData
  _law_draw_f : Fun K "_law_draw" "_law_draw" s__law_draw _law_draw _law_draw_d
  _law_draw_b : Binds K _law_draw_d ["_law_feed", "_law_many"] []
  _law_draw_g : mg "_law_draw" = some (.ref _law_draw)
  _law_draw_k : PySem.W.keepIn K (.ref _law_draw) = true
  _law_pick : Addr
  _law_pick_d : FuncData
  _law_pick_f : Fun K "_law_pick" "_law_pick" s__law_pick _law_pick _law_pick_d
  _law_pick_b : Binds K _law_pick_d ["_law_feed", "_law_items"] []
  _law_pick_g : mg "_law_pick" = some (.ref _law_pick)
  _law_pick_k : PySem.W.keepIn K (.ref _law_pick) = true
  _law_mixed : Addr
  _law_mixed_d : FuncData
  _law_mixed_f : Fun K "_law_mixed" "_law_mixed" s__law_mixed _law_mixed _law_mixed_d
  _law_mixed_b : Binds K _law_mixed_d ["_law_feed", "_law_items"] []
  _law_mixed_g : mg "_law_mixed" = some (.ref _law_mixed)
  _law_mixed_k : PySem.W.keepIn K (.ref _law_mixed) = true
  _law_same : Addr
  _law_same_d : FuncData
  _law_same_f : Fun K "_law_same" "_law_same" s__law_same _law_same _law_same_d
  _law_same_b : Binds K _law_same_d ["_law_found", "_law_due"] []
  _law_same_g : mg "_law_same" = some (.ref _law_same)
  _law_same_k : PySem.W.keepIn K (.ref _law_same) = true
  _law_first : Addr
  _law_first_d : FuncData
  _law_first_f : Fun K "_law_first" "_law_first" s__law_first _law_first _law_first_d
  _law_first_b : Binds K _law_first_d ["_law_head"] []
  _law_first_g : mg "_law_first" = some (.ref _law_first)
  _law_first_k : PySem.W.keepIn K (.ref _law_first) = true
  _law_ones : Addr
  _law_ones_d : FuncData
  _law_ones_f : Fun K "_law_ones" "_law_ones" s__law_ones _law_ones _law_ones_d
  _law_ones_b : Binds K _law_ones_d [] []
  _law_ones_g : mg "_law_ones" = some (.ref _law_ones)
  _law_ones_k : PySem.W.keepIn K (.ref _law_ones) = true
  _law_twos : Addr
  _law_twos_d : FuncData
  _law_twos_f : Fun K "_law_twos" "_law_twos" s__law_twos _law_twos _law_twos_d
  _law_twos_b : Binds K _law_twos_d [] []
  _law_twos_g : mg "_law_twos" = some (.ref _law_twos)
  _law_twos_k : PySem.W.keepIn K (.ref _law_twos) = true
  _law_literal : Addr
  _law_literal_d : FuncData
  _law_literal_f : Fun K "_law_literal" "_law_literal" s__law_literal _law_literal _law_literal_d
  _law_literal_b : Binds K _law_literal_d ["_law_feed"] []
  _law_literal_g : mg "_law_literal" = some (.ref _law_literal)
  _law_literal_k : PySem.W.keepIn K (.ref _law_literal) = true
  _law_inked_tree : Addr
  _law_inked_tree_d : FuncData
  _law_inked_tree_f : Fun K "_law_inked_tree" "_law_inked_tree" s__law_inked_tree _law_inked_tree _law_inked_tree_d
  _law_inked_tree_b : Binds K _law_inked_tree_d ["_law_feed", "_law_deep"] []
  _law_inked_tree_g : mg "_law_inked_tree" = some (.ref _law_inked_tree)
  _law_inked_tree_k : PySem.W.keepIn K (.ref _law_inked_tree) = true
  _law_mark : Addr
  _law_mark_d : FuncData
  _law_mark_f : Fun K "_law_mark" "_law_mark" s__law_mark _law_mark _law_mark_d
  _law_mark_b : Binds K _law_mark_d ["_law_feed"] []
  _law_mark_g : mg "_law_mark" = some (.ref _law_mark)
  _law_mark_k : PySem.W.keepIn K (.ref _law_mark) = true
  _law_all : Addr
  _law_all_d : FuncData
  _law_all_f : Fun K "_law_all" "_law_all" s__law_all _law_all _law_all_d
  _law_all_b : Binds K _law_all_d ["_law_tree", "_law_path"] []
  _law_all_g : mg "_law_all" = some (.ref _law_all)
  _law_all_k : PySem.W.keepIn K (.ref _law_all) = true
  _law_put : Addr
  _law_put_d : FuncData
  _law_put_f : Fun K "_law_put" "_law_put" s__law_put _law_put _law_put_d
  _law_put_b : Binds K _law_put_d ["_law_tree", "_law_path", "_law_other"] []
  _law_put_g : mg "_law_put" = some (.ref _law_put)
  _law_put_k : PySem.W.keepIn K (.ref _law_put) = true
  _law_bare : Addr
  _law_bare_d : FuncData
  _law_bare_f : Fun K "_law_bare" "_law_bare" s__law_bare _law_bare _law_bare_d
  _law_bare_b : Binds K _law_bare_d ["_law_tree"] []
  _law_bare_g : mg "_law_bare" = some (.ref _law_bare)
  _law_bare_k : PySem.W.keepIn K (.ref _law_bare) = true
  _law_some : Addr
  _law_some_d : FuncData
  _law_some_f : Fun K "_law_some" "_law_some" s__law_some _law_some _law_some_d
  _law_some_b : Binds K _law_some_d ["_law_tree", "_law_many"] []
  _law_some_g : mg "_law_some" = some (.ref _law_some)
  _law_some_k : PySem.W.keepIn K (.ref _law_some) = true
  law : Addr
  law_d : FuncData
  law_f : Fun K "law" "law" s_law law law_d
  law_b : Binds K law_d ["_law_script"] []
  law_g : mg "law" = some (.ref law)
  law_k : PySem.W.keepIn K (.ref law) = true
/-! ### data -/
def Ext (f : Addr) (H H' : Hp) : Prop := ∀ a o, a ≠ f → H a = some o → H' a = some o
theorem Ext.refl {f : Addr} {H : Hp} : Ext f H H := fun _ _ _ h => h
theorem Ext.trans {f : Addr} {H H1 H2 : Hp} (a : Ext f H H1) (b : Ext f H1 H2) : Ext f H H2 := fun c o n h => b c o n (a c o n h)
theorem Ext.same {f : Addr} {H H1 : Hp} (a : Same H H1) : Ext f H H1 := fun c o _ h => a c o h
theorem same_upd {H : Hp} {p : Addr} {o : HO} (h : H p = none) : Same H (upd H p o) := fun b x e => by
  rw [upd_ne (ne_of_none e h)]
  exact e
theorem Ext.upd {f : Addr} {H : Hp} {o : HO} : Ext f H (L2.upd H f o) := fun c u n h => by
  rw [upd_ne n]; exact h
def Fd (f : Addr) (H : Hp) : Prop := ∃ g s : Int, H f = some (.lst [.int g, .int s]) ∧ 0 ≤ g ∧ 0 ≤ s
theorem Fd.same {f : Addr} {H H' : Hp} (h : Fd f H) (e : Same H H') : Fd f H' := by
  obtain ⟨g, s, h1, h2⟩ := h
  exact ⟨g, s, e _ _ h1, h2⟩
abbrev AS := Addr → Prop
def Trk (F : AS) (H : Hp) : Prop := ∀ a, F a → ∃ o, H a = some o
theorem Trk.ext {F : AS} {f : Addr} {H H' : Hp} (h : Trk F H) (e : Ext f H H') (x : Fd f H') : Trk F H' := fun a ha => by
  by_cases n : a = f
  · obtain ⟨g, s, q, _⟩ := x
    exact ⟨_, n ▸ q⟩
  · obtain ⟨o, q⟩ := h a ha
    exact ⟨o, e a o n q⟩
theorem Trk.same {F : AS} {H H' : Hp} (h : Trk F H) (e : Same H H') : Trk F H' := fun a ha => by
  obtain ⟨o, q⟩ := h a ha
  exact ⟨o, e a o q⟩
theorem Trk.new {F : AS} {H : Hp} {p : Addr} (h : Trk F H) (n : H p = none) : ¬ F p := fun q => by
  obtain ⟨o, e⟩ := h p q
  rw [n] at e
  cases e
def Wth (F : AS) (D : Addr) : AS := fun a => F a ∨ a = D
theorem Trk.wth {F : AS} {H : Hp} {D : Addr} {o : HO} (h : Trk F H) (e : H D = some o) : Trk (Wth F D) H := fun a ha => ha.elim (h a) fun z => ⟨o, z ▸ e⟩
mutual
inductive Da (F : AS) (H : Hp) : V → PyData → Prop
  | non : Da F H .non .none
  | bl (b : Bool) : Da F H (.bl b) (.bool b)
  | int (i : Int) : Da F H (.int i) (.int i)
  | str (x : Str) : Da F H (.str x) (.str x)
  | lst {a : Addr} {xs : List V} {ds : List PyData} : ¬ F a → H a = some (.lst xs) → DaAll F H xs ds → Da F H (.ref a) (.list ds)
  | tup {a : Addr} {xs : List V} {ds : List PyData} : ¬ F a → H a = some (.tup xs) → DaAll F H xs ds → Da F H (.ref a) (.tuple ds)
inductive DaAll (F : AS) (H : Hp) : List V → List PyData → Prop
  | nil : DaAll F H [] []
  | cons {v : V} {vs : List V} {d : PyData} {ds : List PyData} : Da F H v d → DaAll F H vs ds → DaAll F H (v :: vs) (d :: ds)
end
mutual
theorem Da.mono {F F' : AS} {H H' : Hp} (x : ∀ a o, ¬ F a → H a = some o → ¬ F' a ∧ H' a = some o) : ∀ (d : PyData) (v : V), Da F H v d → Da F' H' v d
  | .none, _, h => by cases h; exact .non
  | .bool b, _, h => by cases h; exact .bl b
  | .int b, _, h => by cases h; exact .int b
  | .str b, _, h => by cases h; exact .str b
  | .list ds, _, h => by
    cases h with
    | lst n e a => exact .lst (x _ _ n e).1 (x _ _ n e).2 (DaAll.mono x ds _ a)
  | .tuple ds, _, h => by
    cases h with
    | tup n e a => exact .tup (x _ _ n e).1 (x _ _ n e).2 (DaAll.mono x ds _ a)
  | .dict _, _, h => by cases h
theorem DaAll.mono {F F' : AS} {H H' : Hp} (x : ∀ a o, ¬ F a → H a = some o → ¬ F' a ∧ H' a = some o) : ∀ (ds : List PyData) (vs : List V), DaAll F H vs ds → DaAll F' H' vs ds
  | [], _, h => by cases h; exact .nil
  | d :: ds, _, h => by
    cases h with
    | cons a b => exact .cons (Da.mono x d _ a) (DaAll.mono x ds _ b)
end
section
variable {F : AS} {f D : Addr} {H H' : Hp} {v : V} {d : PyData} {vs : List V} {ds : List PyData}
theorem Da.ext (h : Da F H v d) (x : Ext f H H') (hf : F f) : Da F H' v d := Da.mono (fun a o n e => ⟨n, x a o (fun z => n (z ▸ hf)) e⟩) d v h
theorem DaAll.ext (h : DaAll F H vs ds) (x : Ext f H H') (hf : F f) : DaAll F H' vs ds := DaAll.mono (fun a o n e => ⟨n, x a o (fun z => n (z ▸ hf)) e⟩) ds vs h
theorem Da.same (h : Da F H v d) (x : Same H H') : Da F H' v d := Da.mono (fun a o n e => ⟨n, x a o e⟩) d v h
theorem DaAll.same (h : DaAll F H vs ds) (x : Same H H') : DaAll F H' vs ds := DaAll.mono (fun a o n e => ⟨n, x a o e⟩) ds vs h
theorem Da.upd {o : HO} (h : Da F H v d) (hf : F D) : Da F (L2.upd H D o) v d := h.ext Ext.upd hf
theorem DaAll.upd {o : HO} (h : DaAll F H vs ds) (hf : F D) : DaAll F (L2.upd H D o) vs ds := h.ext Ext.upd hf
theorem Da.avoid (h : Da F H v d) (n : H D = none) : Da (Wth F D) H v d := Da.mono (fun a o q e => ⟨fun z => z.elim q fun y => (by rw [y, n] at e; cases e), e⟩) d v h
theorem DaAll.avoid (h : DaAll F H vs ds) (n : H D = none) : DaAll (Wth F D) H vs ds := DaAll.mono (fun a o q e => ⟨fun z => z.elim q fun y => (by rw [y, n] at e; cases e), e⟩) ds vs h
theorem Da.wth (h : Da (Wth F D) H v d) : Da F H v d := Da.mono (fun a o q e => ⟨fun z => q (.inl z), e⟩) d v h
theorem DaAll.wth (h : DaAll (Wth F D) H vs ds) : DaAll F H vs ds := DaAll.mono (fun a o q e => ⟨fun z => q (.inl z), e⟩) ds vs h
theorem DaAll.length : ∀ {vs : List V} {ds : List PyData}, DaAll F H vs ds → vs.length = ds.length
  | [], [], _ => rfl
  | _ :: _, _ :: _, .cons _ b => congrArg (· + 1) b.length
theorem DaAll.get : ∀ {vs : List V} {ds : List PyData} {i : Nat} {v : V}, DaAll F H vs ds → vs[i]? = some v → ∃ d, ds[i]? = some d ∧ Da F H v d
  | [], _, _, _, _, e => by simp at e
  | _ :: _, _, 0, _, .cons a _, e => ⟨_, rfl, by
    have z := Option.some.inj e
    exact z ▸ a⟩
  | _ :: _, _, i + 1, _, .cons _ b, e => b.get (i := i) e
theorem DaAll.append : ∀ {vs vs' : List V} {ds ds' : List PyData}, DaAll F H vs ds → DaAll F H vs' ds' → DaAll F H (vs ++ vs') (ds ++ ds')
  | _, _, _, _, .nil, b => b
  | _, _, _, _, .cons a t, b => .cons a (t.append b)
theorem DaAll.take : ∀ {vs : List V} {ds : List PyData} (n : Nat), DaAll F H vs ds → DaAll F H (vs.take n) (ds.take n)
  | _, _, 0, _ => .nil
  | _, _, _ + 1, .nil => .nil
  | _, _, n + 1, .cons a t => .cons a (t.take n)
theorem DaAll.drop : ∀ {vs : List V} {ds : List PyData} (n : Nat), DaAll F H vs ds → DaAll F H (vs.drop n) (ds.drop n)
  | _, _, 0, h => h
  | _, _, _ + 1, .nil => .nil
  | _, _, n + 1, .cons _ t => t.drop n
end
mutual
theorem Da.dp {K : PySem.W.Frag} {F : AS} {H : Hp} : ∀ (d : PyData) (v : V), Da F H v d → Dp K H v d
  | .none, _, h => by cases h; exact .non
  | .bool b, _, h => by cases h; exact .bl b
  | .int b, _, h => by cases h; exact .int b
  | .str b, _, h => by cases h; exact .str b
  | .list ds, _, h => by
    cases h with
    | lst n e a => exact .lst (SqL.of e) (DaAll.dp ds _ a)
  | .tuple ds, _, h => by
    cases h with
    | tup n e a => exact .tup (SqT.of e) (DaAll.dp ds _ a)
  | .dict _, _, h => by cases h
theorem DaAll.dp {K : PySem.W.Frag} {F : AS} {H : Hp} : ∀ (ds : List PyData) (vs : List V), DaAll F H vs ds → DpAll K H vs ds
  | [], _, h => by cases h; exact .nil
  | d :: ds, _, h => by
    cases h with
    | cons a b => exact .cons (Da.dp d _ a) (DaAll.dp ds _ b)
end
/-! ### data that are good: narrow, with short texts, ints not too low -/
mutual
def gd (w : Nat) : PyData → Bool
  | .none | .bool _ => true
  | .int i => decide (-(10 ^ 60) ≤ i)
  | .str x => PyData.strOk x && decide (x.length ≤ 100)
  | .list xs | .tuple xs => decide (xs.length ≤ w) && gdAll w xs
  | .dict _ => false
def gdAll (w : Nat) : List PyData → Bool
  | [] => true
  | x :: xs => gd w x && gdAll w xs
end
theorem gdAll_iff {w : Nat} : ∀ {xs : List PyData}, gdAll w xs = true ↔ ∀ x ∈ xs, gd w x = true
  | [] => by simp [gdAll]
  | x :: xs => by simp [gdAll, gdAll_iff (xs := xs)]
mutual
theorem gd_lay {w : Nat} : ∀ d : PyData, gd w d = true → d.canLay0 = true
  | .none, _ => rfl
  | .bool _, _ => rfl
  | .int _, _ => rfl
  | .str x, h => by
    simp only [gd, Bool.and_eq_true] at h
    simp only [PyData.canLay0]
    exact h.1
  | .list xs, h => by
    simp only [gd, Bool.and_eq_true] at h
    simp only [PyData.canLay0]
    exact gdAll_lay xs h.2
  | .tuple xs, h => by
    simp only [gd, Bool.and_eq_true] at h
    simp only [PyData.canLay0]
    exact gdAll_lay xs h.2
  | .dict _, h => by simp [gd] at h
theorem gdAll_lay {w : Nat} : ∀ ds : List PyData, gdAll w ds = true → PyData.canLayAll0 ds = true
  | [], _ => rfl
  | d :: ds, h => by
    simp only [gdAll, Bool.and_eq_true] at h
    simp only [PyData.canLayAll0, Bool.and_eq_true]
    exact ⟨gd_lay d h.1, gdAll_lay ds h.2⟩
end
mutual
theorem gd_mono {w w' : Nat} (hw : w ≤ w') : ∀ d : PyData, gd w d = true → gd w' d = true
  | .none, _ => rfl
  | .bool _, _ => rfl
  | .int _, h => h
  | .str x, h => h
  | .list xs, h => by
    simp only [gd, Bool.and_eq_true, decide_eq_true_eq] at h ⊢
    exact ⟨by omega, gdAll_mono hw xs h.2⟩
  | .tuple xs, h => by
    simp only [gd, Bool.and_eq_true, decide_eq_true_eq] at h ⊢
    exact ⟨by omega, gdAll_mono hw xs h.2⟩
  | .dict _, h => by simp [gd] at h
theorem gdAll_mono {w w' : Nat} (hw : w ≤ w') : ∀ ds : List PyData, gdAll w ds = true → gdAll w' ds = true
  | [], _ => rfl
  | d :: ds, h => by
    simp only [gdAll, Bool.and_eq_true] at h ⊢
    exact ⟨gd_mono hw d h.1, gdAll_mono hw ds h.2⟩
end
theorem depthAll_iff {n : Nat} : ∀ {xs : List PyData}, PyData.depthAll xs ≤ n ↔ ∀ x ∈ xs, x.depth ≤ n
  | [] => by simp [PyData.depthAll]
  | x :: xs => by simp [PyData.depthAll, Nat.max_le, depthAll_iff (xs := xs)]
def Gn (w n : Nat) (d : PyData) : Prop := gd w d = true ∧ d.depth ≤ n
theorem Gn.mono {w w' n n' : Nat} {d : PyData} (h : Gn w n d) (hw : w ≤ w') (hn : n ≤ n') : Gn w' n' d := ⟨gd_mono hw d h.1, Nat.le_trans h.2 hn⟩
theorem Gn.shaped {w n : Nat} {d : PyData} (h : Gn w n d) (hn : n ≤ 64) : SeqAt.shaped d = true := by
  unfold SeqAt.shaped
  rw [gd_lay d h.1, Bool.true_and]
  exact decide_eq_true (Nat.le_trans h.2 hn)
theorem Gn.tuple {w n : Nat} {ds : List PyData} (hw : ds.length ≤ w) (h : ∀ d ∈ ds, Gn w n d) : Gn w (n + 1) (.tuple ds) := by
  refine ⟨?_, ?_⟩
  · simp only [gd, Bool.and_eq_true, decide_eq_true_eq]
    exact ⟨hw, gdAll_iff.mpr fun d hd => (h d hd).1⟩
  · simp only [PyData.depth]
    have := (depthAll_iff (n := n) (xs := ds)).mpr fun d hd => (h d hd).2
    omega
theorem Gn.list {w n : Nat} {ds : List PyData} (hw : ds.length ≤ w) (h : ∀ d ∈ ds, Gn w n d) : Gn w (n + 1) (.list ds) := by
  refine ⟨?_, ?_⟩
  · simp only [gd, Bool.and_eq_true, decide_eq_true_eq]
    exact ⟨hw, gdAll_iff.mpr fun d hd => (h d hd).1⟩
  · simp only [PyData.depth]
    have := (depthAll_iff (n := n) (xs := ds)).mpr fun d hd => (h d hd).2
    omega
theorem Gn.tuple_inv {w n : Nat} {ds : List PyData} (h : Gn w n (.tuple ds)) : ds.length ≤ w ∧ 0 < n ∧ ∀ d ∈ ds, Gn w (n - 1) d := by
  obtain ⟨h1, h2⟩ := h
  simp only [gd, Bool.and_eq_true, decide_eq_true_eq] at h1
  simp only [PyData.depth] at h2
  exact ⟨h1.1, by omega, fun d hd => ⟨gdAll_iff.mp h1.2 d hd, depthAll_iff.mp (by omega) d hd⟩⟩
theorem Gn.list_inv {w n : Nat} {ds : List PyData} (h : Gn w n (.list ds)) : ds.length ≤ w ∧ 0 < n ∧ ∀ d ∈ ds, Gn w (n - 1) d := by
  obtain ⟨h1, h2⟩ := h
  simp only [gd, Bool.and_eq_true, decide_eq_true_eq] at h1
  simp only [PyData.depth] at h2
  exact ⟨h1.1, by omega, fun d hd => ⟨gdAll_iff.mp h1.2 d hd, depthAll_iff.mp (by omega) d hd⟩⟩
/-! ### cuts: what follows is shown once -/
def tMid (t u : TS) : TS := fun D σ H => ∃ M : L2.St → Hp → Prop, t { D with nx := M } σ H ∧ ∀ σ' H', M σ' H' → u D σ' H'
theorem pss_mid {X : Cx} {st : Stmt} {rest : List Stmt} {t u : TS} (h1 : PS X st t) (h2 : PSs X rest u) : PSs X (st :: rest) (tMid t u) := by
  refine ⟨fun pins s σ H D I h => ?_⟩
  obtain ⟨M, hm, hu⟩ := h
  refine wpAny_execs_cons (thn (h1.run pins s σ H { D with nx := M } I hm) fun f s1 q => ?_)
  cases f with
  | next =>
    obtain ⟨σ', H', I', q⟩ := q
    exact h2.run pins s1 σ' H' D I' (hu σ' H' q)
  | ret v => exact q
  | brk => exact q
  | cont => exact q
def tEMid (t : TE) : TE := fun σ H Q => ∃ M : V → Hp → Prop, t σ H M ∧ ∀ v H', M v H' → Q v H'
theorem pe_mid {X : Cx} {e : Expr} {t : TE} (h : PE X e t) : PE X e (tEMid t) := by
  refine ⟨fun pins s σ H Q I hq => ?_⟩
  obtain ⟨M, hm, hu⟩ := hq
  exact thn (h.run pins s σ H M I hm) fun u s1 ⟨v, H1, I1, r, q⟩ => ⟨v, H1, I1, r, hu _ _ q⟩
def tTMid (t : TT) : TT := fun σ H Q => ∃ M : Bool → Hp → Prop, t σ H M ∧ ∀ v H', M v H' → Q v H'
theorem pt_mid {X : Cx} {e : Expr} {t : TT} (h : PT X e t) : PT X e (tTMid t) := by
  refine ⟨fun pins s σ H Q I hq => ?_⟩
  obtain ⟨M, hm, hu⟩ := hq
  exact thn (h.run pins s σ H M I hm) fun u s1 ⟨H1, I1, q⟩ => ⟨H1, I1, hu _ _ q⟩
theorem pw_mid {X : Cx} {e : Expr} {t : TT} (h : PW X e t) : PW X e (tTMid t) := by
  refine ⟨fun wh pins s σ H Q I hq => ?_⟩
  obtain ⟨M, hm, hu⟩ := hq
  exact thn (h.run wh pins s σ H M I hm) fun u s1 ⟨H1, I1, q⟩ => ⟨H1, I1, hu _ _ q⟩
section
variable {P : Program} {w : World} {K : PySem.W.Frag} {mg : Str → Option Value} {base : Heap}
/-! ### draws -/
def sp_draw : Sp := fun vs H Q _ => ∃ (f : Addr) (m : Int), vs = [.ref f, .int m] ∧ Fd f H ∧ 0 < m ∧ m < 1073741824 ∧ ∀ r H', 0 ≤ r → r < m → Ext f H H' → Fd f H' → Q (.int r) H'
theorem ok__law_draw (T : Top K mg) : FnOk P w K mg base CX0 1 T._law_draw T._law_draw_d ["_law_feed", "_law_many"] sp_draw := by
  refine T._law_draw_f.ok sc__law_draw (fun vs H Q E h => ?_) (fun cdv A outer s H vs Q E hr h => ?_)
  · obtain ⟨f, m, rfl, _⟩ := h
    rfl
  obtain ⟨f, m, rfl, ⟨g, z, hf, hg, hz⟩, hm, hm2, q⟩ := h
  -- slots: 0 _law_feed, 1 _law_many, 2 _law_digit
  refine ⟨_, (pss_cons (ps_if (pt_cmpR op_gt (pe_ix ix_list (pv 0) pe_int (fun _ _ => rfl)) pe_int (nomark _)) (pss_cons (ps_set (i := 2) sc__law_draw.nd rfl (.inl rfl) (pe_op op_mod (pe_ix ix_list (pv 0) pe_int (fun _ _ => rfl)) (pv 1)))
      (pss_cons (ps_asg (pe_op op_fdiv (pe_ix ix_list (pv 0) pe_int (fun _ _ => rfl)) (pv 1)) (pg_sub (pv 0) pe_int set_list))
      (pss_one (ps_ret (pv 2))))) pss_nil)
      (pss_cons (ps_asg (pe_op op_mod (pe_op op_add (pe_op op_mul (pe_ix ix_list (pv 0) pe_int (fun _ _ => rfl)) pe_int) pe_int) pe_int) (pg_sub (pv 0) pe_int set_list))
      (pss_one (ps_ret (pe_op op_mod (pe_op op_fdiv (pe_ix ix_list (pv 0) pe_int (fun _ _ => rfl)) pe_int) (pv 1)))))), ?_⟩
  refine ⟨_, rfl, f, _, 0, _, rfl, rfl, SqL.of hf, rfl, _, _, rfl, rfl, _, rfl, ite2 (fun c => ?_) (fun c => ?_)⟩
  · have c' : 0 < g := of_decide_eq_true c
    refine ⟨_, rfl, f, _, 0, _, rfl, rfl, SqL.of hf, rfl, _, rfl, _, _, rfl, rfl, hm, ?_⟩
    refine ⟨_, rfl, f, _, 0, _, rfl, rfl, SqL.of hf, rfl, _, rfl, _, _, rfl, rfl, ⟨hm, hm2⟩, _, rfl, f, _, 0, 0, rfl, rfl, hf, rfl, _, rfl, ?_⟩
    exact q _ _ (Int.emod_nonneg _ (by omega)) (Int.emod_lt_of_pos _ hm) Ext.upd ⟨g / m, z, upd_same, Int.ediv_nonneg hg (by omega), hz⟩
  · refine ⟨_, rfl, f, _, 1, _, rfl, rfl, SqL.of hf, rfl, _, _, rfl, rfl, .inr ⟨by decide, by decide⟩, _, _, rfl, rfl, _, _, rfl, rfl, (by show (0 : Int) < 2147483647; decide), _, rfl, f, _, 1, 1, rfl, rfl, hf, rfl, ?_⟩
    refine ⟨_, rfl, f, _, 1, _, rfl, rfl, SqL.of upd_same, rfl, _, _, rfl, rfl, ⟨by decide, by decide⟩, _, rfl, _, _, rfl, rfl, hm, ?_⟩
    have e1 : (0 : Int) ≤ (z * 48271 + 11) % 2147483647 := Int.emod_nonneg _ (by decide)
    exact q _ _ (Int.emod_nonneg _ (by omega)) (Int.emod_lt_of_pos _ hm) Ext.upd ⟨g, _, upd_same, hg, e1⟩
/-! ### the feed of a cell -/
def sp_feed_of : Sp := fun vs H Q _ => ∃ (a : Addr) (ns : List Int) (k : Nat), vs = [.ref a, .int k] ∧ SqL K H a (ns.map V.int) ∧ k ≤ 1000 ∧ ∀ f H', H f = none → Same H H' → Fd f H' → Q (.ref f) H'
theorem ok__law_feed_of (T : Top K mg) : FnOk P w K mg base CX0 1 T._law_feed_of T._law_feed_of_d ["_law_script", "_law_k"] (sp_feed_of (K := K)) := by
  refine T._law_feed_of_f.ok sc__law_feed_of (fun vs H Q E h => ?_) (fun cdv A outer s H vs Q E hr h => ?_)
  · obtain ⟨a, ns, k, rfl, _⟩ := h
    rfl
  obtain ⟨a, ns, k, rfl, hS, hk, q⟩ := h
  -- slots: 0 _law_script, 1 _law_k, 2 _law_cell, 3 _law_great
  refine ⟨_, (pss_cons (ps_set (i := 2) sc__law_feed_of.nd rfl (.inl rfl) (pe_op op_add (pe_op op_mul pe_int (pv 1)) pe_int))
      (pss_mid (ps_if (pt_cmpR op_lt (pv 1) (pe_callB call_len_seq (by rfl) T.len_n (by decide +kernel) (pa_cons (pv 0) pa_nil)) (nomark _)) (pss_one (ps_set (i := 2) sc__law_feed_of.nd rfl (.inl rfl) (pe_ix ix_list (pv 0) (pv 1) (fun _ _ => rfl)))) pss_nil)
      (pss_mid (ps_if (pt_cmpR op_lt (pv 2) pe_int (nomark _)) (pss_one (ps_set (i := 2) sc__law_feed_of.nd rfl (.inl rfl) (pe_op op_sub pe_int (pe_op op_mul pe_int (pv 2))))) pss_nil)
      (pss_cons (ps_set (i := 3) sc__law_feed_of.nd rfl (.inl rfl) (pe_mid (pe_ifExp (pt_cmpR op_ge (pv 2) (pe_op op_pow pe_int pe_int) (nomark _)) (pv 2) pe_int)))
      (pss_one (ps_ret (pe_lst (pa_cons (pv 3) (pa_cons (pe_op op_add (pe_op op_add (pe_op op_mod (pv 2) pe_int) (pe_op op_mul pe_int (pv 1))) pe_int) pa_nil))))))))), ?_⟩
  -- cell = 7919 * k + 17
  refine ⟨_, rfl, _, _, rfl, rfl, .inl ⟨by decide, by decide⟩, _, _, rfl, rfl, ?_⟩
  -- if k < len(script): cell = script[k]
  refine ⟨fun σ H' => ∃ c : Int, σ = [some (.ref a), some (.int k), some (.int c), none] ∧ H = H', ?_, ?_⟩
  · refine ⟨_, rfl, _, rfl, a, _, rfl, .inl hS, _, _, rfl, rfl, _, rfl, ite2 (fun c => ?_) (fun c => ⟨_, rfl, rfl⟩)⟩
    have c' := of_decide_eq_true c
    have hk2 : k < ns.length := by
      rw [List.length_map] at c'
      omega
    refine ⟨_, rfl, _, rfl, a, _, _, _, rfl, rfl, hS, atI_nat (by rw [List.getElem?_map, List.getElem?_eq_getElem hk2] <;> rfl), _, rfl, rfl⟩
  rintro _ _ ⟨c, rfl, rfl⟩
  -- if cell < 0
  refine ⟨fun σ H' => ∃ c : Int, σ = [some (.ref a), some (.int k), some (.int c), none] ∧ H = H' ∧ 0 ≤ c, ?_, ?_⟩
  · refine ⟨_, rfl, _, _, rfl, rfl, _, rfl, ite2 (fun e => ?_) (fun e => ?_)⟩
    · have e' := of_decide_eq_true e
      exact ⟨_, rfl, _, _, rfl, rfl, .inl ⟨by decide, by decide⟩, _, _, rfl, rfl, _, rfl, rfl, by omega⟩
    · have e' := of_decide_eq_false (Bool.eq_false_iff.mpr e)
      exact ⟨_, rfl, rfl, by omega⟩
  rintro _ _ ⟨c, rfl, rfl, hc⟩
  -- great
  refine ⟨fun v H' => ∃ g : Int, v = .int g ∧ H = H' ∧ 0 ≤ g, ?_, ?_⟩
  · refine ⟨_, rfl, _, _, rfl, rfl, ⟨by decide, by decide, by decide⟩, _, _, rfl, rfl, _, rfl, ite2 (fun e => ?_) (fun e => ?_)⟩
    · exact ⟨_, rfl, _, rfl, rfl, hc⟩
    · exact ⟨_, rfl, rfl, by decide⟩
  rintro _ _ ⟨g, rfl, rfl, hg⟩
  refine ⟨_, rfl, _, rfl, _, _, rfl, rfl, (by show (0 : Int) < 1000003; decide), _, rfl, _, _, rfl, rfl, .inl ⟨by decide, by decide⟩, _, _, rfl, rfl, _, _, rfl, rfl, (by show 2 ≤ sizeLine; decide), fun f nf => ?_⟩
  have e1 : (0 : Int) ≤ c % 1000003 := Int.emod_nonneg _ (by decide)
  exact q _ _ nf (same_upd nf) ⟨g, _, upd_same, hg, by omega⟩
end
end Sa

set_option Elab.async false
set_option linter.all false
set_option maxRecDepth 100000
set_option maxHeartbeats 4000000
namespace Sa
open PySem PySem.Spec PyProof.Rows L2
theorem go_asg {te : TE} {g : TG} {u : TS} {D : Ends} {σ : L2.St} {H : Hp} (h : te σ H fun x H1 => g x σ H1 (u D)) : tSeq (tAsg te g) u D σ H := h
theorem go_name {i : Nat} {x : V} {σ : L2.St} {H : Hp} {Q : L2.St → Hp → Prop} (h : Q (σ.set i (some x)) H) : gName i x σ H Q := h
theorem go_ret {te : TE} {D : Ends} {σ : L2.St} {H : Hp} (h : te σ H D.rt) : tRet te D σ H := h
/-! ### expressions that hand back data, drawing on the way -/
/-- from every heap behind H0: t gives data of G -/
def Yd (f : Addr) (F : AS) (H0 : Hp) (σ : L2.St) (G : PyData → Prop) (t : TE) : Prop := ∀ H Q, Ext f H0 H → Fd f H → Trk F H → (∀ v d H', Ext f H H' → Fd f H' → Da F H' v d → G d → Q v H') → t σ H Q
def YdA (f : Addr) (F : AS) (H0 : Hp) (σ : L2.St) (G : List PyData → Prop) (t : TA) : Prop := ∀ H Q, Ext f H0 H → Fd f H → Trk F H → (∀ vs ds H', Ext f H H' → Fd f H' → DaAll F H' vs ds → G ds → Q vs H') → t σ H Q
section
variable {f : Addr} {F : AS} {H0 : Hp} {σ : L2.St} {G G1 : PyData → Prop} {Gs : List PyData → Prop} {t : TE} {ta : TA}
theorem Yd.imp (h : Yd f F H0 σ G t) (i : ∀ d, G d → G1 d) : Yd f F H0 σ G1 t := fun H Q a b c q => h H Q a b c fun v d H' x y z w => q v d H' x y z (i d w)
theorem yd_str {x : Str} (h : G (.str x)) : Yd f F H0 σ G (tC (.str x)) := fun H Q _ b _ q => q _ _ H Ext.refl b (.str x) h
theorem yd_int {x : Int} (h : G (.int x)) : Yd f F H0 σ G (tC (.int x)) := fun H Q _ b _ q => q _ _ H Ext.refl b (.int x) h
theorem yd_bl {x : Bool} (h : G (.bool x)) : Yd f F H0 σ G (tC (.bl x)) := fun H Q _ b _ q => q _ _ H Ext.refl b (.bl x) h
theorem yd_non (h : G .none) : Yd f F H0 σ G (tC .non) := fun H Q _ b _ q => q _ _ H Ext.refl b .non h
theorem yd_var {i : Nat} {v : V} {d : PyData} (e : σ[i]? = some (some v)) (hf : F f) (a : Da F H0 v d) (h : G d) : Yd f F H0 σ G (tVar i) := fun H Q x b _ q => ⟨v, e, q _ _ H Ext.refl b (a.ext x hf) h⟩
theorem yda_nil (h : Gs []) : YdA f F H0 σ Gs tNil := fun H Q _ b _ q => q _ _ H Ext.refl b .nil h
theorem yda_cons (hf : F f) (h1 : Yd f F H0 σ G t) (h2 : ∀ d, G d → YdA f F H0 σ (fun ds => Gs (d :: ds)) ta) : YdA f F H0 σ Gs (tCons t ta) := fun H Q x b c q =>
  h1 H _ x b c fun v d H1 x1 b1 a1 g1 => h2 d g1 H1 _ (x.trans x1) b1 (c.ext x1 b1) fun vs ds H2 x2 b2 a2 g2 => q (v :: vs) (d :: ds) H2 (x1.trans x2) b2 (.cons (a1.ext x2 hf) a2) g2
theorem yd_tup (hf : F f) (h : YdA f F H0 σ (fun ds => ds.length ≤ 1000 ∧ G (.tuple ds)) ta) : Yd f F H0 σ G (tTup ta) := fun H Q x b c q =>
  h H _ x b c fun vs ds H1 x1 b1 a1 g1 => by
    have e := a1.length
    refine ⟨Nat.le_of_lt (small1000 (by omega)), fun p np => ?_⟩
    have s1 : Same H1 (L2.upd H1 p (.tup vs)) := same_upd np
    exact q _ _ _ (x1.trans (Ext.same s1)) (b1.same s1) (.tup ((c.ext x1 b1).new np) upd_same (a1.same s1)) g1.2
theorem yd_lst (hf : F f) (h : YdA f F H0 σ (fun ds => ds.length ≤ 1000 ∧ G (.list ds)) ta) : Yd f F H0 σ G (tLst ta) := fun H Q x b c q =>
  h H _ x b c fun vs ds H1 x1 b1 a1 g1 => by
    have e := a1.length
    refine ⟨Nat.le_of_lt (small1000 (by omega)), fun p np => ?_⟩
    have s1 : Same H1 (L2.upd H1 p (.lst vs)) := same_upd np
    exact q _ _ _ (x1.trans (Ext.same s1)) (b1.same s1) (.lst ((c.ext x1 b1).new np) upd_same (a1.same s1)) g1.2
/-- [e for k in range(n)] with data e, over draws -/
theorem yd_lc {n : Nat} {i : Nat} {te : TE} {Ge : PyData → Prop} {H1 : Hp} {D : Addr} (hf : F f) (x1 : Ext f H0 H1) (b1 : Fd f H1) (c1 : Trk F H1) (nD : H1 D = none) (hn : n ≤ 1000)
    (he : ∀ k : Nat, k < n → Yd f (Wth F D) H1 ((wipe σ [i]).set i (some (.int (0 + k)))) Ge te) (hw : ∀ y, wipe ((wipe σ [i]).set i y) [i] = wipe σ [i]) {Qd : Hp → Prop}
    (q : ∀ H' vs ds, Ext f H1 H' → Fd f H' → H' D = some (.lst vs) → DaAll (Wth F D) H' vs ds → ds.length = n → (∀ d ∈ ds, Ge d) → Qd H') :
    ∃ W : Nat → Nat → Hp → Prop, (∃ m, W 0 m (L2.upd H1 D (.lst []))) ∧ ∀ j m H, W j m H →
      ((Itr 0 n).stop j H ∧ Qd H) ∨ ((Itr 0 n).go j H ∧ ∃ Nx : Hp → Prop, (∀ H', Nx H' → ∃ m', m' < m ∧ W (j + 1) m' H') ∧ ∀ x H', (Itr 0 n).yld j H x H' → gName i x (wipe σ [i]) H' fun σ2 H2 => wipe σ2 [i] = wipe σ [i] ∧ tYes σ2 H2 fun b H3 =>
        if b = true then te σ2 H3 fun y H4 => ∃ acc, H4 D = some (.lst acc) ∧ acc.length < sizeLine ∧ Nx (L2.upd H4 D (.lst (acc ++ [y]))) else Nx H3) := by
  have nDf : D ≠ f := fun z => by
    obtain ⟨g, s, e, _⟩ := b1
    rw [z, e] at nD
    cases nD
  refine lc_range (lo := 0) (n := n) (fun k H => Ext f H1 H ∧ Fd f H ∧ Trk (Wth F D) H ∧ ∃ vs ds, H D = some (.lst vs) ∧ DaAll (Wth F D) H vs ds ∧ ds.length = k ∧ ∀ d ∈ ds, Ge d) ?_ ?_ ?_
  · have s1 : Same H1 (L2.upd H1 D (.lst [])) := same_upd nD
    exact ⟨Ext.same s1, b1.same s1, (c1.same s1).wth upd_same, [], [], upd_same, .nil, rfl, fun d hd => by cases hd⟩
  · rintro k H hk ⟨x2, b2, c2, vs, ds, eD, aD, lD, gD⟩
    refine ⟨hw _, he k hk H _ x2 b2 c2 fun v d H3 x3 b3 a3 g3 => ?_⟩
    have eD3 := x3 D _ nDf eD
    have eL := aD.length
    refine ⟨vs, eD3, small1000 (by omega), ?_⟩
    have x4 : Ext D H3 (L2.upd H3 D (.lst (vs ++ [v]))) := Ext.upd
    refine ⟨fun a o n e => ?_, ?_, fun a ha => ?_, vs ++ [v], ds ++ [d], upd_same, ((aD.ext x3 (.inl hf)).append (.cons a3 .nil)).ext x4 (.inr rfl), by rw [List.length_append, lD]; rfl, fun y hy => ?_⟩
    · have na : a ≠ D := fun z => by rw [z, nD] at e; cases e
      rw [upd_ne na]
      exact x3 a o n (x2 a o n e)
    · obtain ⟨g, s, e, r⟩ := b3
      exact ⟨g, s, by rw [upd_ne nDf.symm]; exact e, r⟩
    · by_cases na : a = D
      · exact ⟨_, by rw [na]; exact upd_same⟩
      · obtain ⟨o, e⟩ := (c2.ext x3 b3) a ha
        exact ⟨o, by rw [upd_ne na]; exact e⟩
    · rcases List.mem_append.mp hy with z | z
      · exact gD y z
      · rw [List.mem_singleton.mp z]; exact g3
  · rintro H ⟨x2, b2, c2, vs, ds, eD, aD, lD, gD⟩
    exact q H vs ds x2 b2 eD aD lD gD
end
section
variable {f : Addr} {F : AS} {H0 : Hp} {σ : L2.St} {G G1 : PyData → Prop} {Gs : List PyData → Prop} {t : TE} {ta : TA} {m w n : Nat}
def YdU (f : Addr) (F : AS) (H0 : Hp) (σ : L2.St) (G : PyData → Prop) (m : Nat) (t : TA) : Prop := YdA f F H0 σ (fun ds => ds.length = m ∧ ∀ d ∈ ds, G d) t
theorem ydu_nil : YdU f F H0 σ G 0 tNil := yda_nil ⟨rfl, fun d hd => by cases hd⟩
theorem ydu_cons (hf : F f) (h1 : Yd f F H0 σ G t) (h2 : YdU f F H0 σ G m ta) : YdU f F H0 σ G (m + 1) (tCons t ta) :=
  yda_cons hf h1 fun d g H Q a b c q => h2 H Q a b c fun vs ds H' x y z r => q vs ds H' x y z ⟨by rw [List.length_cons, r.1], fun e he => (List.mem_cons.mp he).elim (fun u => u ▸ g) (r.2 e)⟩
theorem yd_tupG (hf : F f) (h : YdU f F H0 σ (Gn w n) m ta) (hm : m ≤ w) (hw : w ≤ 1000) : Yd f F H0 σ (Gn w (n + 1)) (tTup ta) :=
  yd_tup hf fun H Q a b c q => h H Q a b c fun vs ds H' x y z r => q vs ds H' x y z ⟨by omega, Gn.tuple (by omega) r.2⟩
theorem yd_lstU (hf : F f) (h : YdU f F H0 σ G m ta) (hm : m ≤ 1000) : Yd f F H0 σ (fun d => ∃ ds, d = .list ds ∧ ds.length = m ∧ ∀ z ∈ ds, G z) (tLst ta) :=
  yd_lst hf fun H Q a b c q => h H Q a b c fun vs ds H' x y z r => q vs ds H' x y z ⟨by omega, ds, rfl, r⟩
theorem yd_tupU (hf : F f) (h : YdU f F H0 σ G m ta) (hm : m ≤ 1000) : Yd f F H0 σ (fun d => ∃ ds, d = .tuple ds ∧ ds.length = m ∧ ∀ z ∈ ds, G z) (tTup ta) :=
  yd_tup hf fun H Q a b c q => h H Q a b c fun vs ds H' x y z r => q vs ds H' x y z ⟨by omega, ds, rfl, r⟩
theorem gn_int {i : Int} (h : -(10 ^ 60) ≤ i) : Gn w n (.int i) := ⟨decide_eq_true h, Nat.zero_le _⟩
theorem gn_bl {b : Bool} : Gn w n (.bool b) := ⟨rfl, Nat.zero_le _⟩
theorem gn_str {x : Str} (h : (PyData.strOk x && decide (x.length ≤ 100)) = true) : Gn w n (.str x) := ⟨h, Nat.zero_le _⟩
theorem yd_ixL {K : PySem.W.Frag} {i j : Nat} {p : Addr} {ds : List PyData} {d : PyData} (e : σ[i]? = some (some (.ref p))) (hf : F f) (a : Da F H0 (.ref p) (.list ds)) (g : ds[j]? = some d) (h : G d) : Yd f F H0 σ G (tOp (rIxL K) (tVar i) (tC (.int j))) := by
  intro H Q x b c q
  cases a with
  | @lst _ xs _ nF ea al =>
    have hl := al.length
    obtain ⟨hj, _⟩ := List.getElem?_eq_some_iff.mp g
    have ex : xs[j]? = some xs[j] := List.getElem?_eq_getElem (by omega)
    obtain ⟨d', e1, e2⟩ := al.get ex
    rw [g] at e1
    cases e1
    exact ⟨_, e, p, xs, j, xs[j], rfl, rfl, SqL.of (x _ _ (fun z => nF (z ▸ hf)) ea), atI_nat ex, q _ d H Ext.refl b (e2.ext x hf) h⟩
theorem yd_tupLc {r : List V → Hp → VK → Prop} {i : Nat} {te : TE} {Ge : PyData → Prop} (hr : ∀ p ys H Q, H p = some (.lst ys) → (∀ l, H l = none → Q (.ref l) (L2.upd H l (.tup ys))) → r [.ref p] H Q) (hf : F f)
    (hn : ∀ H, Ext f H0 H → Fd f H → Trk F H → ∀ Q, (∀ j : Int, 0 ≤ j → j ≤ m → ∀ H', Ext f H H' → Fd f H' → Q [.int j] H') → ta σ H Q) (hm : m ≤ 1000)
    (he : ∀ D H1 (k : Nat), Ext f H0 H1 → H1 D = none → Yd f (Wth F D) H1 ((wipe σ [i]).set i (some (.int (0 + k)))) Ge te) (hw : ∀ y, wipe ((wipe σ [i]).set i y) [i] = wipe σ [i]) (hG : ∀ ds : List PyData, ds.length ≤ m → (∀ d ∈ ds, Ge d) → G (.tuple ds)) :
    Yd f F H0 σ G (tCB r (tCons (tLc (iRng1 ta) (gName i) tYes te [i]) tNil)) := by
  intro H Q x b c q
  refine hn H x b c _ fun j j0 j1 H2 x2 b2 => ⟨j, rfl, by omega, by omega, fun D nD => ?_⟩
  have c2 := c.ext x2 b2
  refine yd_lc (f := f) (F := F) (H0 := H0) (Ge := Ge) hf (x.trans x2) b2 c2 nD (by omega) (fun k hk => he D H2 k (x.trans x2) nD) hw (fun H' vs ds x3 b3 eD aD lD gD => ?_)
  refine hr D vs H' _ eD fun p np => ?_
  have s4 : Same H' (L2.upd H' p (.tup vs)) := same_upd np
  exact q _ (.tuple ds) _ ((x2.trans x3).trans (Ext.same s4)) (b3.same s4) (.tup ((c2.ext x3 b3).new np) upd_same (aD.wth.same s4)) (hG ds (by omega) gD)
/-- where a draw stands: its answer as a datum, and as an int -/
theorem rd_draw {k : Nat} {z : Int} {H : Hp} {Q : VK} (e : σ[k]? = some (some (.ref f))) (b : Fd f H) (hz : 0 < z ∧ z < 1073741824) (q : ∀ r H', 0 ≤ r → r < z → Ext f H H' → Fd f H' → Q (.int r) H') :
    tCall sp_draw [] E0 (tCons (tVar k) (tCons (tC (.int z)) tNil)) σ H Q := ⟨_, e, f, z, rfl, b, hz.1, hz.2, q⟩
theorem yd_draw {k : Nat} {z : Int} (e : σ[k]? = some (some (.ref f))) (hz : 0 < z ∧ z < 1073741824) : Yd f F H0 σ (Gn w n) (tCall sp_draw [] E0 (tCons (tVar k) (tCons (tC (.int z)) tNil))) :=
  fun H Q x b c q => rd_draw e b hz fun r H' r0 _ x1 b1 => q _ (.int r) H' x1 b1 (.int r) (gn_int (by omega))
end
section
variable {P : Program} {w : World} {K : PySem.W.Frag} {mg : Str → Option Value} {base : Heap}
theorem atI_int {α : Type} {xs : List α} {r : Int} {x : α} (h0 : 0 ≤ r) (h : xs[r.toNat]? = some x) : atI xs r = some x := by
  have er : r = ((r.toNat : Nat) : Int) := by omega
  rw [er]
  exact atI_nat h
/-! ### pick -/
def sp_pick : Sp := fun vs H Q _ => ∃ (f a : Addr) (xs : List V), vs = [.ref f, .ref a] ∧ Fd f H ∧ a ≠ f ∧ H a = some (.lst xs) ∧ 0 < xs.length ∧ xs.length ≤ 1000 ∧ ∀ (i : Nat) x H', xs[i]? = some x → Ext f H H' → Fd f H' → Q x H'
theorem ok__law_pick (T : Top K mg) : FnOk P w K mg base CX0 2 T._law_pick T._law_pick_d ["_law_feed", "_law_items"] sp_pick := by
  refine T._law_pick_f.ok sc__law_pick (fun vs H Q E h => ?_) (fun cdv A outer s H vs Q E hr h => ?_)
  · obtain ⟨f, a, xs, rfl, _⟩ := h
    rfl
  obtain ⟨f, a, xs, rfl, hF, ne, ea, l0, l1, q⟩ := h
  -- slots: 0 _law_feed, 1 _law_items
  refine ⟨_, (pss_one (ps_ret (pe_ix ix_list (pv 1) (pe_call (ok__law_draw T) (hr.mono (by decide)) rfl T._law_draw_g T._law_draw_k T._law_draw_b .nil pass0 (pa_cons (pv 0) (pa_cons (pe_callB call_len_seq (by rfl) T.len_n (by decide +kernel) (pa_cons (pv 1) pa_nil)) pa_nil))) (fun _ _ => rfl)))), ?_⟩
  refine ⟨_, rfl, _, rfl, _, rfl, a, _, rfl, .inl (SqL.of ea), f, _, rfl, hF, by omega, by omega, fun r H' r0 r1 x1 b1 => ?_⟩
  have ea' := x1 a _ ne ea
  have hr2 : r.toNat < xs.length := by omega
  have er : r = ((r.toNat : Nat) : Int) := by omega
  exact ⟨a, xs, r, xs[r.toNat], rfl, rfl, SqL.of ea', atI_int r0 (List.getElem?_eq_getElem hr2), q r.toNat _ _ (List.getElem?_eq_getElem hr2) x1 b1⟩
/-! ### written values -/
def okc : V → Bool
  | .non | .bl _ => true
  | .int i => decide (-(10 ^ 60) ≤ i)
  | .str x => PyData.strOk x && decide (x.length ≤ 100)
  | _ => false
theorem okc_da {F : AS} {H : Hp} {v : V} (h : okc v = true) : ∃ d, Da F H v d ∧ Gn 0 0 d := by
  cases v with
  | non => exact ⟨_, .non, rfl, Nat.le_refl _⟩
  | bl b => exact ⟨_, .bl b, rfl, Nat.le_refl _⟩
  | int i => exact ⟨_, .int i, h, Nat.le_refl _⟩
  | str x => exact ⟨_, .str x, h, Nat.le_refl _⟩
  | byt _ => cases h
  | flt _ => cases h
  | ref _ => cases h
  | ty _ => cases h
theorem okc_at {xs : List V} {i : Nat} {v : V} (h : xs.all okc = true) (e : xs[i]? = some v) : okc v = true := List.all_eq_true.mp h v (List.mem_of_getElem? e)
/-- pick(feed, [written ones]) -/
theorem rd_pickC {f : Addr} {σ : L2.St} {k : Nat} {H : Hp} {Q : VK} {ta : TA} {xs : List V} (e : σ[k]? = some (some (.ref f))) (b : Fd f H) (ht : ∀ H Q, Q xs H → ta σ H Q) (h0 : 0 < xs.length) (h1 : xs.length ≤ 1000)
    (q : ∀ x H', x ∈ xs → Ext f H H' → Fd f H' → Q x H') : tCall sp_pick [] E0 (tCons (tVar k) (tCons (tLst ta) tNil)) σ H Q := by
  refine ⟨_, e, ht _ _ ⟨Nat.le_of_lt (small1000 h1), fun p np => ?_⟩⟩
  have s1 : Same H (L2.upd H p (.lst xs)) := same_upd np
  have n1 : p ≠ f := fun z => by
    obtain ⟨g, s, e, _⟩ := b
    rw [z, e] at np
    cases np
  exact ⟨f, p, xs, rfl, b.same s1, n1, upd_same, h0, h1, fun i x H' ex x1 b1 => q x H' (List.mem_of_getElem? ex) ((Ext.same s1).trans x1) b1⟩
theorem yd_pickC {f : Addr} {F : AS} {H0 : Hp} {σ : L2.St} {k : Nat} {ta : TA} {xs : List V} (e : σ[k]? = some (some (.ref f))) (ht : ∀ H Q, Q xs H → ta σ H Q) (h0 : 0 < xs.length) (h1 : xs.length ≤ 1000) (ho : xs.all okc = true) {w n : Nat} :
    Yd f F H0 σ (Gn w n) (tCall sp_pick [] E0 (tCons (tVar k) (tCons (tLst ta) tNil))) := fun H Q x b c q => rd_pickC e b ht h0 h1 fun v H' hv x1 b1 => by
  obtain ⟨d, hd, g⟩ := okc_da (F := F) (H := H') (List.all_eq_true.mp ho v hv)
  exact q v d H' x1 b1 hd (g.mono (Nat.zero_le _) (Nat.zero_le _))
end
end Sa

set_option Elab.async false
set_option linter.all false
set_option maxRecDepth 100000
set_option maxHeartbeats 4000000
namespace Sa
open PySem PySem.Spec PyProof.Rows L2
/-! ### trees in plain Lean -/
inductive Tr where
  | nd (h : Str) (ink pre : List PyData) (kids : List Tr)
def atoms : List Str := ["int", "quote", "flag", "global", "ref", "name"]
def fk (h : Str) : Nat := if h = "fun" then 1 else if h = "use" then 2 else if atoms.contains h = true then 1 else 0
mutual
def TD : Tr → PyData
  | .nd h ink pre kids => .tuple [.str h, .tuple ink, .tuple (pre ++ TL kids)]
def TL : List Tr → List PyData
  | [] => []
  | t :: ts => TD t :: TL ts
end
theorem TL_map : ∀ ts : List Tr, TL ts = ts.map TD
  | [] => rfl
  | t :: ts => by rw [TL, TL_map ts]; rfl
theorem TL_length (ts : List Tr) : (TL ts).length = ts.length := by rw [TL_map, List.length_map]
mutual
def tok : Tr → Bool
  | .nd h ink pre kids => decide (pre.length = fk h) && (!(atoms.contains h) || kids.isEmpty) && tokL kids
def tokL : List Tr → Bool
  | [] => true
  | t :: ts => tok t && tokL ts
end
theorem tokL_iff : ∀ {ts : List Tr}, tokL ts = true ↔ ∀ t ∈ ts, tok t = true
  | [] => by simp [tokL]
  | t :: ts => by simp [tokL, tokL_iff (ts := ts)]
theorem tok_inv {h : Str} {ink pre : List PyData} {kids : List Tr} (x : tok (.nd h ink pre kids) = true) : pre.length = fk h ∧ (atoms.contains h = true → kids = []) ∧ ∀ t ∈ kids, tok t = true := by
  simp only [tok, Bool.and_eq_true, decide_eq_true_eq, Bool.or_eq_true, Bool.not_eq_true', List.isEmpty_iff] at x
  exact ⟨x.1.1, fun e => x.1.2.elim (fun z => by rw [e] at z; cases z) id, tokL_iff.mp x.2⟩
theorem tok_mk {h : Str} {ink pre : List PyData} {kids : List Tr} (a : pre.length = fk h) (b : atoms.contains h = true → kids = []) (c : ∀ t ∈ kids, tok t = true) : tok (.nd h ink pre kids) = true := by
  simp only [tok, Bool.and_eq_true, decide_eq_true_eq, Bool.or_eq_true, Bool.not_eq_true', List.isEmpty_iff]
  refine ⟨⟨a, ?_⟩, tokL_iff.mpr c⟩
  cases e : atoms.contains h with
  | false => exact .inl rfl
  | true => exact .inr (b e)
mutual
def nds : Tr → List Nat → List (List Nat × Tr)
  | .nd h ink pre kids, p => (p, .nd h ink pre kids) :: ndsL kids p (fk h)
def ndsL : List Tr → List Nat → Nat → List (List Nat × Tr)
  | [], _, _ => []
  | t :: ts, p, i => nds t (p ++ [i]) ++ ndsL ts p (i + 1)
end
mutual
def sz : Tr → Nat
  | .nd _ _ _ kids => 1 + szL kids
def szL : List Tr → Nat
  | [] => 0
  | t :: ts => sz t + szL ts
end
mutual
theorem nds_length : ∀ (t : Tr) (p : List Nat), (nds t p).length = sz t
  | .nd h ink pre kids, p => by
    rw [nds, sz, List.length_cons, ndsL_length kids p (fk h)]
    omega
theorem ndsL_length : ∀ (ts : List Tr) (p : List Nat) (i : Nat), (ndsL ts p i).length = szL ts
  | [], _, _ => rfl
  | t :: ts, p, i => by rw [ndsL, szL, List.length_append, nds_length t, ndsL_length ts]
end
mutual
def br : Tr → Tr
  | .nd h _ pre kids => .nd h [] pre (brL kids)
def brL : List Tr → List Tr
  | [] => []
  | t :: ts => br t :: brL ts
end
theorem brL_map : ∀ ts : List Tr, brL ts = ts.map br
  | [] => rfl
  | t :: ts => by rw [brL, brL_map ts]; rfl
def put : List Nat → Tr → Tr → Tr
  | [], _, o => o
  | i :: p, .nd h ink pre kids, o => .nd h ink pre (match kids[i - fk h]? with | some k => kids.set (i - fk h) (put p k o) | none => kids)
def sub : List Nat → Tr → Option Tr
  | [], t => some t
  | i :: p, .nd h _ _ kids => if i < fk h then none else match kids[i - fk h]? with | some k => sub p k | none => none
theorem sub_cons {i : Nat} {p : List Nat} {h : Str} {ink pre : List PyData} {kids : List Tr} {n : Tr} (x : sub (i :: p) (.nd h ink pre kids) = some n) : ∃ j k, i = fk h + j ∧ kids[j]? = some k ∧ sub p k = some n := by
  rw [sub] at x
  split at x
  · cases x
  · cases e : kids[i - fk h]? with
    | none => rw [e] at x; cases x
    | some k =>
      rw [e] at x
      exact ⟨i - fk h, k, by omega, e, x⟩
theorem put_cons {j : Nat} {p : List Nat} {h : Str} {ink pre : List PyData} {kids : List Tr} {k o : Tr} (e : kids[j]? = some k) : put ((fk h + j) :: p) (.nd h ink pre kids) o = .nd h ink pre (kids.set j (put p k o)) := by
  rw [put, Nat.add_sub_cancel_left, e]
theorem sub_mk {j : Nat} {p : List Nat} {h : Str} {ink pre : List PyData} {kids : List Tr} {k : Tr} (e : kids[j]? = some k) : sub ((fk h + j) :: p) (.nd h ink pre kids) = sub p k := by
  rw [sub, if_neg (by omega), Nat.add_sub_cancel_left, e]
theorem sub_put : ∀ (p : List Nat) (t n o : Tr), sub p t = some n → sub p (put p t o) = some o
  | [], _, _, _, _ => rfl
  | i :: p, .nd h ink pre kids, n, o, x => by
    obtain ⟨j, k, rfl, e, y⟩ := sub_cons x
    obtain ⟨hj, _⟩ := List.getElem?_eq_some_iff.mp e
    rw [put_cons e, sub_mk (k := put p k o) (by rw [List.getElem?_set_self hj])]
    exact sub_put p k n o y
theorem put_put : ∀ (p : List Nat) (t n o : Tr), sub p t = some n → put p (put p t o) n = t
  | [], _, _, _, x => by
    cases x
    rfl
  | i :: p, .nd h ink pre kids, n, o, x => by
    obtain ⟨j, k, rfl, e, y⟩ := sub_cons x
    obtain ⟨hj, ek⟩ := List.getElem?_eq_some_iff.mp e
    rw [put_cons e, put_cons (k := put p k o) (by rw [List.getElem?_set_self hj]), put_put p k n o y, List.set_set, ← ek, List.set_getElem_self]
theorem tok_sub : ∀ (p : List Nat) (t n : Tr), tok t = true → sub p t = some n → tok n = true
  | [], _, _, a, x => by
    cases x
    exact a
  | i :: p, .nd h ink pre kids, n, a, x => by
    obtain ⟨j, k, rfl, e, y⟩ := sub_cons x
    exact tok_sub p k n ((tok_inv a).2.2 k (List.mem_of_getElem? e)) y
theorem tok_put : ∀ (p : List Nat) (t n o : Tr), tok t = true → tok o = true → sub p t = some n → tok (put p t o) = true
  | [], _, _, _, _, b, _ => b
  | i :: p, .nd h ink pre kids, n, o, a, b, x => by
    obtain ⟨j, k, rfl, e, y⟩ := sub_cons x
    obtain ⟨a1, a2, a3⟩ := tok_inv a
    rw [put_cons e]
    refine tok_mk a1 (fun z => ?_) fun t ht => ?_
    · rw [a2 z] at e
      cases e
    · rcases List.mem_or_eq_of_mem_set ht with z | z
      · exact a3 t z
      · rw [z]
        exact tok_put p k n o (a3 k (List.mem_of_getElem? e)) b y
mutual
theorem nds_sub : ∀ (t : Tr) (p q : List Nat) (n : Tr), (q, n) ∈ nds t p → ∃ r, q = p ++ r ∧ sub r t = some n
  | .nd h ink pre kids, p, q, n, x => by
    rw [nds] at x
    rcases List.mem_cons.mp x with z | z
    · cases z
      exact ⟨[], by simp, rfl⟩
    · obtain ⟨j, k, r, e, ek, er⟩ := ndsL_sub kids p (fk h) q n z
      exact ⟨(fk h + j) :: r, by rw [e]; simp, by rw [sub_mk ek]; exact er⟩
theorem ndsL_sub : ∀ (ts : List Tr) (p : List Nat) (i : Nat) (q : List Nat) (n : Tr), (q, n) ∈ ndsL ts p i → ∃ j k r, q = p ++ [i + j] ++ r ∧ ts[j]? = some k ∧ sub r k = some n
  | [], _, _, _, _, x => by rw [ndsL] at x; cases x
  | t :: ts, p, i, q, n, x => by
    rw [ndsL] at x
    rcases List.mem_append.mp x with z | z
    · obtain ⟨r, e, er⟩ := nds_sub t (p ++ [i]) q n z
      exact ⟨0, t, r, e, rfl, er⟩
    · obtain ⟨j, k, r, e, ek, er⟩ := ndsL_sub ts p (i + 1) q n z
      exact ⟨j + 1, k, r, by rw [e, Nat.add_right_comm, Nat.add_assoc], ek, er⟩
end
theorem tok_nds {t n : Tr} {p q : List Nat} (a : tok t = true) (x : (q, n) ∈ nds t p) : tok n = true := by
  obtain ⟨r, _, e⟩ := nds_sub t p q n x
  exact tok_sub r t n a e
/-! ### how good their data are -/
theorem gnT_inv {w n : Nat} {h : Str} {ink pre : List PyData} {kids : List Tr} (g : Gn w n (TD (.nd h ink pre kids))) : 3 ≤ w ∧ 2 ≤ n ∧ Gn w (n - 1) (.str h) ∧ Gn w (n - 1) (.tuple ink) ∧ pre.length + kids.length ≤ w ∧ (∀ d ∈ pre, Gn w (n - 2) d) ∧ ∀ k ∈ kids, Gn w (n - 2) (TD k) := by
  rw [TD] at g
  obtain ⟨g1, g2, g3⟩ := g.tuple_inv
  have i1 := g3 (.str h) (by simp)
  have i2 := g3 (.tuple ink) (by simp)
  obtain ⟨j1, j2, j3⟩ := (g3 (.tuple (pre ++ TL kids)) (by simp)).tuple_inv
  rw [List.length_append, TL_length] at j1
  have e : n - 1 - 1 = n - 2 := by omega
  rw [e] at j3
  refine ⟨by simpa using g1, by omega, i1, i2, j1, fun d hd => j3 d (List.mem_append_left _ hd), fun k hk => j3 _ (List.mem_append_right _ ?_)⟩
  rw [TL_map]
  exact List.mem_map.mpr ⟨k, hk, rfl⟩
theorem gnT_mk {w n : Nat} {h : Str} {ink pre : List PyData} {kids : List Tr} (hw : 3 ≤ w) (a : Gn w (n + 1) (.str h)) (b : Gn w (n + 1) (.tuple ink)) (c : pre.length + kids.length ≤ w) (d : ∀ d ∈ pre, Gn w n d) (e : ∀ k ∈ kids, Gn w n (TD k)) : Gn w (n + 2) (TD (.nd h ink pre kids)) := by
  rw [TD]
  refine Gn.tuple (by simpa using hw) fun z hz => ?_
  rcases List.mem_cons.mp hz with q | hz
  · rw [q]; exact a
  rcases List.mem_cons.mp hz with q | hz
  · rw [q]; exact b
  rw [List.mem_singleton.mp hz]
  refine Gn.tuple (by rw [List.length_append, TL_length]; exact c) fun y hy => ?_
  rcases List.mem_append.mp hy with q | q
  · exact d y q
  · rw [TL_map] at q
    obtain ⟨k, hk, rfl⟩ := List.mem_map.mp q
    exact e k hk
theorem gn_sub {w : Nat} : ∀ (p : List Nat) (t n : Tr) (m : Nat), Gn w m (TD t) → sub p t = some n → Gn w m (TD n) ∧ p.length + 2 ≤ m
  | [], .nd _ _ _ _, _, m, g, x => by
    cases x
    exact ⟨g, (gnT_inv g).2.1⟩
  | i :: p, .nd h ink pre kids, n, m, g, x => by
    obtain ⟨j, k, rfl, e, y⟩ := sub_cons x
    obtain ⟨_, m2, _, _, _, _, gk⟩ := gnT_inv g
    obtain ⟨a, b⟩ := gn_sub p k n (m - 2) (gk k (List.mem_of_getElem? e)) y
    exact ⟨a.mono (Nat.le_refl _) (by omega), by rw [List.length_cons]; omega⟩
theorem gn_put {w m' : Nat} {o : Tr} (go : Gn w m' (TD o)) : ∀ (p : List Nat) (t n : Tr) (m : Nat), Gn w m (TD t) → sub p t = some n → Gn w (m + m') (TD (put p t o))
  | [], _, _, m, _, _ => go.mono (Nat.le_refl _) (by omega)
  | i :: p, .nd h ink pre kids, n, m, g, x => by
    obtain ⟨j, k, rfl, e, y⟩ := sub_cons x
    obtain ⟨w3, m2, gh, gi, lw, gp, gk⟩ := gnT_inv g
    have q := gn_put go p k n (m - 2) (gk k (List.mem_of_getElem? e)) y
    rw [put_cons e]
    refine (gnT_mk (n := m - 2 + m') w3 (gh.mono (Nat.le_refl _) (by omega)) (gi.mono (Nat.le_refl _) (by omega)) (by rw [List.length_set]; exact lw) (fun d hd => (gp d hd).mono (Nat.le_refl _) (by omega)) fun z hz => ?_).mono (Nat.le_refl _) (by omega)
    rcases List.mem_or_eq_of_mem_set hz with c | c
    · exact (gk z c).mono (Nat.le_refl _) (by omega)
    · rw [c]; exact q
mutual
theorem gn_br {w : Nat} : ∀ (t : Tr) (m : Nat), Gn w m (TD t) → Gn w m (TD (br t))
  | .nd h ink pre kids, m, g => by
    obtain ⟨w3, m2, gh, gi, lw, gp, gk⟩ := gnT_inv g
    rw [br]
    refine (gnT_mk (n := m - 2) w3 (gh.mono (Nat.le_refl _) (by omega)) (Gn.tuple (n := m - 2) (Nat.zero_le _) fun d hd => by cases hd) (by rw [brL_map, List.length_map]; exact lw) gp (fun z hz => ?_)).mono (Nat.le_refl _) (by omega)
    exact gn_brL kids (m - 2) gk z hz
theorem gn_brL {w : Nat} : ∀ (ts : List Tr) (m : Nat), (∀ k ∈ ts, Gn w m (TD k)) → ∀ z ∈ brL ts, Gn w m (TD z)
  | [], _, _, z, hz => by rw [brL] at hz; cases hz
  | t :: ts, m, g, z, hz => by
    rw [brL] at hz
    rcases List.mem_cons.mp hz with c | c
    · rw [c]; exact gn_br t m (g t List.mem_cons_self)
    · exact gn_brL ts m (fun k hk => g k (List.mem_cons_of_mem _ hk)) z c
end
/-- a path's data; a node's -/
def pD (p : List Nat) : PyData := .tuple (p.map fun i : Nat => .int (i : Int))
def eD (x : List Nat × Tr) : PyData := .tuple [pD x.1, TD x.2]
def inkOf : Tr → List PyData
  | .nd _ ink _ _ => ink
def hasInk (x : List Nat × Tr) : Bool := !(inkOf x.2).isEmpty
def dD (x : List Nat × Tr) : PyData := .tuple [pD x.1, .tuple (inkOf x.2)]
theorem gn_pD {w n : Nat} {p : List Nat} (h : p.length ≤ w) : Gn w (n + 1) (pD p) := by
  refine Gn.tuple (by rw [List.length_map]; exact h) fun d hd => ?_
  obtain ⟨i, _, rfl⟩ := List.mem_map.mp hd
  exact gn_int (by omega)
theorem gn_ink {w n : Nat} {t : Tr} (g : Gn w n (TD t)) : Gn w (n - 1) (.tuple (inkOf t)) := by
  obtain ⟨h, ink, pre, kids⟩ := t
  exact (gnT_inv g).2.2.2.1
/-- a drawn tree -/
def szB : Nat → Nat
  | 0 => 2
  | k + 1 => 4 * szB k + 4
def WT (s : Nat) (d : PyData) : Prop := ∃ t, d = TD t ∧ tok t = true ∧ sz t ≤ s
def Gt (w n s : Nat) (d : PyData) : Prop := Gn w n d ∧ WT s d
/-- items that fit a head -/
def IT (h : Str) (s : Nat) (d : PyData) : Prop := ∃ pre kids, d = .tuple (pre ++ TL kids) ∧ pre.length = fk h ∧ (atoms.contains h = true → kids = []) ∧ (∀ t ∈ kids, tok t = true) ∧ szL kids ≤ s
theorem wt_mk {h : Str} {s : Nat} {ink : List PyData} {d : PyData} (x : IT h s d) : WT (s + 1) (.tuple [.str h, .tuple ink, d]) := by
  obtain ⟨pre, kids, rfl, a, b, c, e⟩ := x
  exact ⟨.nd h ink pre kids, by rw [TD], tok_mk a b c, by rw [sz]; omega⟩
theorem wts {s : Nat} : ∀ ds : List PyData, (∀ d ∈ ds, WT s d) → ∃ ts, ds = TL ts ∧ (∀ t ∈ ts, tok t = true) ∧ szL ts ≤ s * ds.length
  | [], _ => ⟨[], rfl, fun t ht => (by cases ht), Nat.zero_le _⟩
  | d :: ds, h => by
    obtain ⟨t, rfl, a, b⟩ := h d List.mem_cons_self
    obtain ⟨ts, rfl, c, e⟩ := wts ds fun x hx => h x (List.mem_cons_of_mem _ hx)
    refine ⟨t :: ts, by rw [TL], fun x hx => (List.mem_cons.mp hx).elim (fun z => z ▸ a) (c x), ?_⟩
    rw [szL, List.length_cons, Nat.mul_succ]
    omega
end Sa

set_option Elab.async false
set_option linter.all false
set_option maxRecDepth 100000
set_option maxHeartbeats 4000000
namespace Sa
open PySem PySem.Spec PyProof.Rows L2
section
variable {P : Program} {w : World} {K : PySem.W.Frag} {mg : Str → Option Value} {base : Heap}
def onesL : List Str := ["do", "not", "first", "rest", "none", "cell", "get", "raise", "say"]
def twosL : List Str := ["seq", "plus", "minus", "times", "less", "same", "put", "set"]
def sp_strs (l : List Str) : Sp := fun vs H Q _ => vs = [] ∧ ∀ p, H p = none → Q (.ref p) (L2.upd H p (.lst (l.map V.str)))
theorem ok__law_ones (T : Top K mg) : FnOk P w K mg base CX0 1 T._law_ones T._law_ones_d [] (sp_strs onesL) := by
  refine T._law_ones_f.ok sc__law_ones (fun vs H Q E h => ?_) (fun cdv A outer s H vs Q E hr h => ?_)
  · obtain ⟨rfl, _⟩ := h
    rfl
  obtain ⟨rfl, q⟩ := h
  -- slots: 
  refine ⟨_, (pss_one (ps_ret (pe_lst (pa_cons pe_str (pa_cons pe_str (pa_cons pe_str (pa_cons pe_str (pa_cons pe_str (pa_cons pe_str (pa_cons pe_str (pa_cons pe_str (pa_cons pe_str pa_nil)))))))))))), ?_⟩
  exact ⟨by decide, q⟩
theorem ok__law_twos (T : Top K mg) : FnOk P w K mg base CX0 1 T._law_twos T._law_twos_d [] (sp_strs twosL) := by
  refine T._law_twos_f.ok sc__law_twos (fun vs H Q E h => ?_) (fun cdv A outer s H vs Q E hr h => ?_)
  · obtain ⟨rfl, _⟩ := h
    rfl
  obtain ⟨rfl, q⟩ := h
  -- slots: 
  refine ⟨_, (pss_one (ps_ret (pe_lst (pa_cons pe_str (pa_cons pe_str (pa_cons pe_str (pa_cons pe_str (pa_cons pe_str (pa_cons pe_str (pa_cons pe_str (pa_cons pe_str pa_nil))))))))))), ?_⟩
  exact ⟨by decide, q⟩
/-! ### trees -/
def Gi (w n : Nat) (d : PyData) : Prop := Gn w n d ∧ ∃ l, d = .tuple l
def Git (x : Str) (w n s : Nat) (d : PyData) : Prop := Gn w n d ∧ IT x s d
theorem Gt.mono {w n n' s s' : Nat} {d : PyData} (h : Gt w n s d) (hn : n ≤ n') (hs : s ≤ s') : Gt w n' s' d := by
  obtain ⟨g, t, e, a, b⟩ := h
  exact ⟨g.mono (Nat.le_refl _) hn, t, e, a, Nat.le_trans b hs⟩
theorem Git.mono {x : Str} {w n n' s s' : Nat} {d : PyData} (h : Git x w n s d) (hn : n ≤ n') (hs : s ≤ s') : Git x w n' s' d := by
  obtain ⟨g, p, k, e, a, b, c, z⟩ := h
  exact ⟨g.mono (Nat.le_refl _) hn, p, k, e, a, b, c, Nat.le_trans z hs⟩
theorem Gi.mono {w n n' : Nat} {d : PyData} (h : Gi w n d) (hn : n ≤ n') : Gi w n' d := ⟨h.1.mono (Nat.le_refl _) hn, h.2⟩
theorem Gt.hd {w n s : Nat} {d : PyData} (h : Gt w n s d) : ∃ h x y, d = .tuple [.str h, x, y] := by
  obtain ⟨_, t, e, _⟩ := h
  obtain ⟨h, ink, pre, kids⟩ := t
  exact ⟨h, .tuple ink, _, by rw [e, TD]⟩
def sp_gen (n : Nat) (G : PyData → Prop) : Sp := fun vs H Q _ => ∃ (f : Addr) (F : AS), vs = [.ref f] ∧ Fd f H ∧ F f ∧ Trk F H ∧ ∀ v d H', Ext f H H' → Fd f H' → Da F H' v d → G d → Q v H'
theorem yd_head {f : Addr} {F : AS} {H0 : Hp} {σ : L2.St} {x : Str} {t1 t2 : TE} {w n s : Nat} (hf : F f) (hx : (PyData.strOk x && decide (x.length ≤ 100)) = true) (h1 : Yd f F H0 σ (Gi w n) t1) (h2 : Yd f F H0 σ (Git x w n s) t2) (hw : 3 ≤ w) :
    Yd f F H0 σ (Gt w (n + 1) (s + 1)) (tTup (tCons (tC (.str x)) (tCons t1 (tCons t2 tNil)))) := by
  refine yd_tup hf (yda_cons (G := fun d => d = .str x) hf (yd_str rfl) fun d e => yda_cons hf h1 fun d1 g1 => yda_cons hf h2 fun d2 g2 => yda_nil ?_)
  subst e
  obtain ⟨g1, l, rfl⟩ := g1
  refine ⟨by simp, Gn.tuple (by simpa using hw) fun z hz => ?_, wt_mk g2.2⟩
  rcases List.mem_cons.mp hz with e | hz
  · rw [e]; exact gn_str hx
  rcases List.mem_cons.mp hz with e | hz
  · rw [e]; exact g1
  rw [List.mem_singleton.mp hz]; exact g2.1
theorem yd_unit {f : Addr} {F : AS} {H0 : Hp} {σ : L2.St} {w n : Nat} (hf : F f) (hw : w ≤ 1000) : Yd f F H0 σ (Gi w (n + 1)) (tTup tNil) :=
  (yd_tupU (G := Gn w n) hf ydu_nil (by decide)).imp fun d ⟨ds, e, l, g⟩ => ⟨e ▸ Gn.tuple (by omega) g, ds, e⟩
theorem yd_unitT {f : Addr} {F : AS} {H0 : Hp} {σ : L2.St} {x : Str} {w n s : Nat} (hf : F f) (hw : w ≤ 1000) (hx : fk x = 0) : Yd f F H0 σ (Git x w (n + 1) s) (tTup tNil) :=
  (yd_tupU (G := Gn w n) hf ydu_nil (by decide)).imp fun d ⟨ds, e, l, g⟩ => by
    have z := List.eq_nil_of_length_eq_zero l
    subst z
    exact ⟨e ▸ Gn.tuple (Nat.zero_le _) g, [], [], e, hx.symm, fun _ => rfl, fun t ht => (by cases ht), Nat.zero_le _⟩
theorem yd_one {f : Addr} {F : AS} {H0 : Hp} {σ : L2.St} {x : Str} {w n s : Nat} {t : TE} (hf : F f) (h : Yd f F H0 σ (Gn w n) t) (h1 : 1 ≤ w) (hw : w ≤ 1000) (hx : fk x = 1) : Yd f F H0 σ (Git x w (n + 1) s) (tTup (tCons t tNil)) :=
  (yd_tupU (G := Gn w n) hf (ydu_cons hf h ydu_nil) (by decide)).imp fun d ⟨ds, e, l, g⟩ => ⟨e ▸ Gn.tuple (by omega) g, ds, [], by rw [e, TL, List.append_nil], by omega, fun _ => rfl, fun t ht => (by cases ht), Nat.zero_le _⟩
theorem ok__law_literal (T : Top K mg) : FnOk P w K mg base CX0 3 T._law_literal T._law_literal_d ["_law_feed"] (sp_gen 0 (Gt 6 2 1)) := by
  refine T._law_literal_f.ok sc__law_literal (fun vs H Q E h => ?_) (fun cdv A outer s H vs Q E hr h => ?_)
  · obtain ⟨f, F, rfl, _⟩ := h
    rfl
  obtain ⟨f, F, rfl, hF, hf, hT, q⟩ := h
  -- slots: 0 _law_feed, 1 _law_word, 2 _law_some_here
  refine ⟨_, (pss_cons (ps_set (i := 1) sc__law_literal.nd rfl (.inl rfl) (pe_call (ok__law_pick T) (hr.mono (by decide)) rfl T._law_pick_g T._law_pick_k T._law_pick_b .nil pass0 (pa_cons (pv 0) (pa_cons (pe_lst (pa_cons pe_str (pa_cons pe_str (pa_cons pe_str (pa_cons pe_str (pa_cons pe_str pa_nil)))))) pa_nil))))
      (pss_cons (ps_set (i := 2) sc__law_literal.nd rfl (.inl rfl) (pe_lst (pa_cons (pe_tup (pa_cons pe_str (pa_cons (pe_tup pa_nil) (pa_cons (pe_tup (pa_cons (pe_op op_sub (pe_call (ok__law_draw T) (hr.mono (by decide)) rfl T._law_draw_g T._law_draw_k T._law_draw_b .nil pass0 (pa_cons (pv 0) (pa_cons pe_int pa_nil))) pe_int) pa_nil)) pa_nil)))) (pa_cons (pe_tup (pa_cons pe_str (pa_cons (pe_tup pa_nil) (pa_cons (pe_tup (pa_cons (pe_cmpR op_eq (pe_call (ok__law_draw T) (hr.mono (by decide)) rfl T._law_draw_g T._law_draw_k T._law_draw_b .nil pass0 (pa_cons (pv 0) (pa_cons pe_int pa_nil))) pe_int (nomark _)) pa_nil)) pa_nil)))) (pa_cons (pe_tup (pa_cons pe_str (pa_cons (pe_tup pa_nil) (pa_cons (pe_tup (pa_cons (pv 1) pa_nil)) pa_nil)))) pa_nil)))))
      (pss_one (ps_ret (pe_call (ok__law_pick T) (hr.mono (by decide)) rfl T._law_pick_g T._law_pick_k T._law_pick_b .nil pass0 (pa_cons (pv 0) (pa_cons (pe_op op_cat (pv 2) (pe_lst (pa_cons (pe_tup (pa_cons pe_str (pa_cons (pe_tup pa_nil) (pa_cons (pe_tup (pa_cons pe_str pa_nil)) pa_nil)))) (pa_cons (pe_ix ix_list (pv 2) pe_int (fun _ _ => rfl)) pa_nil)))) pa_nil))))))), ?_⟩
  refine rd_pickC rfl hF (fun _ _ q => q) (by decide) (by decide) fun x H1 hx x1 b1 => ?_
  have hx' : okc x = true := List.all_eq_true.mp (by decide +kernel) x hx
  obtain ⟨dx, ax, gx⟩ := okc_da (F := F) (H := H1) hx'
  have c1 := hT.ext x1 b1
  refine go_name ?_
  dsimp only
  refine go_asg ?_
  refine yd_lstU (f := f) (F := F) (H0 := H1) (G := Gt 6 2 1) (m := 3) hf ?_ (by decide) H1 _ Ext.refl b1 c1 ?_
  · exact ydu_cons hf (yd_head hf (by decide +kernel) (yd_unit hf (by decide)) (yd_one hf (n := 0) (fun H Q x b c q => rd_draw (k := 0) rfl b (by decide) fun r H' r0 r1 x1 b1 => ⟨_, _, rfl, rfl, q _ (.int (r - 2)) H' x1 b1 (.int _) (gn_int (by omega))⟩) (by decide) (by decide) (by decide +kernel)) (by decide))
      (ydu_cons hf (yd_head hf (by decide +kernel) (yd_unit hf (by decide)) (yd_one hf (n := 0) (fun H Q x b c q => rd_draw (k := 0) rfl b (by decide) fun r H' r0 r1 x1 b1 => ⟨rfl, q _ (.bool _) H' x1 b1 (.bl _) gn_bl⟩) (by decide) (by decide) (by decide +kernel)) (by decide))
      (ydu_cons hf (yd_head hf (by decide +kernel) (yd_unit hf (by decide)) (yd_one hf (n := 0) (yd_var (i := 1) rfl hf ax (gx.mono (Nat.zero_le _) (Nat.zero_le _))) (by decide) (by decide) (by decide +kernel)) (by decide)) ydu_nil))
  rintro v d H2 x2 b2 a2 ⟨ds, rfl, ld, gd⟩
  cases a2 with
  | @lst p xs _ nF ea al =>
    have hl := al.length
    refine go_name (go_ret ?_)
    obtain ⟨d0, e0⟩ : ∃ d0, ds[0]? = some d0 := ⟨ds[0], List.getElem?_eq_getElem (by omega)⟩
    refine ⟨_, rfl, _, rfl, yd_lstU (f := f) (F := F) (H0 := H2) (G := Gt 6 2 1) (m := 2) hf ?_ (by decide) H2 _ Ext.refl b2 (c1.ext x2 b2) ?_⟩
    · exact ydu_cons hf (yd_head hf (by decide +kernel) (yd_unit hf (by decide)) (yd_one hf (n := 0) (yd_str (gn_str (by decide +kernel))) (by decide) (by decide) (by decide +kernel)) (by decide))
        (ydu_cons hf (yd_ixL (j := 0) rfl hf (.lst nF ea al) e0 (gd d0 (List.mem_of_getElem? e0))) ydu_nil)
    rintro v d H3 x3 b3 a3 ⟨ds3, rfl, ld3, gd3⟩
    cases a3 with
    | @lst p3 xs3 _ nF3 ea3 al3 =>
      have hl3 := al3.length
      have pf : p ≠ f := fun z => nF (z ▸ hf)
      refine ⟨p, p3, xs, xs3, rfl, rfl, x3 _ _ pf ea, ea3, Nat.le_of_lt (small1000 (by omega)), fun p4 np4 => ?_⟩
      have s4 : Same H3 (L2.upd H3 p4 (.lst (xs ++ xs3))) := same_upd np4
      have c3 := (c1.ext x2 b2).ext x3 b3
      have n4 : p4 ≠ f := fun z => c3.new np4 (z ▸ hf)
      refine ⟨f, p4, _, rfl, b3.same s4, n4, upd_same, by rw [List.length_append]; omega, by rw [List.length_append]; omega, fun i y H5 ey x5 b5 => ?_⟩
      obtain ⟨d5, e5, a5⟩ := ((al.ext x3 hf).append al3).get ey
      refine q y d5 H5 (x1.trans (x2.trans (x3.trans ((Ext.same s4).trans x5)))) b5 ((a5.same s4).ext x5 hf) ?_
      rcases List.mem_append.mp (List.mem_of_getElem? e5) with z | z
      · exact gd _ z
      · exact gd3 _ z
/-! ### further words for what is drawn -/
theorem yd_gen {f : Addr} {F : AS} {H0 : Hp} {σ : L2.St} {G : PyData → Prop} {n k : Nat} (e : σ[k]? = some (some (.ref f))) (hf : F f) : Yd f F H0 σ G (tCall (sp_gen n G) [] E0 (tCons (tVar k) tNil)) :=
  fun H Q x b c q => ⟨_, e, f, F, rfl, b, hf, c, q⟩
theorem rd_pickCat {f : Addr} {F : AS} {H : Hp} {σ : L2.St} {G : PyData → Prop} {m i : Nat} {p : Addr} {ds : List PyData} {ta : TA} {Q : VK} (hf : F f) (e0 : σ[0]? = some (some (.ref f))) (ei : σ[i]? = some (some (.ref p))) (a : Da F H (.ref p) (.list ds))
    (gd : ∀ z ∈ ds, G z) (l0 : 0 < ds.length) (l1 : ds.length ≤ 100) (u : YdU f F H σ G m ta) (hm : m ≤ 100) (b : Fd f H) (c : Trk F H) (q : ∀ v d H', Ext f H H' → Fd f H' → Da F H' v d → G d → Q v H') :
    tCall sp_pick [] E0 (tCons (tVar 0) (tCons (tOp rCat (tVar i) (tLst ta)) tNil)) σ H Q := by
  refine ⟨_, e0, _, ei, yd_lstU (f := f) (F := F) (H0 := H) (G := G) (m := m) hf u (by omega) H _ Ext.refl b c ?_⟩
  cases a with
  | @lst p xs _ nF ea al =>
    have hl := al.length
    rintro v d H3 x3 b3 a3 ⟨ds3, rfl, ld3, gd3⟩
    cases a3 with
    | @lst p3 xs3 _ nF3 ea3 al3 =>
      have hl3 := al3.length
      have pf : p ≠ f := fun z => nF (z ▸ hf)
      refine ⟨p, p3, xs, xs3, rfl, rfl, x3 _ _ pf ea, ea3, Nat.le_of_lt (small1000 (by omega)), fun p4 np4 => ?_⟩
      have s4 : Same H3 (L2.upd H3 p4 (.lst (xs ++ xs3))) := same_upd np4
      have c3 := c.ext x3 b3
      have n4 : p4 ≠ f := fun z => c3.new np4 (z ▸ hf)
      refine ⟨f, p4, _, rfl, b3.same s4, n4, upd_same, by rw [List.length_append]; omega, by rw [List.length_append]; omega, fun i y H5 ey x5 b5 => ?_⟩
      obtain ⟨d5, e5, a5⟩ := ((al.ext x3 hf).append al3).get ey
      refine q y d5 H5 (x3.trans ((Ext.same s4).trans x5)) b5 ((a5.same s4).ext x5 hf) ?_
      rcases List.mem_append.mp (List.mem_of_getElem? e5) with z | z
      · exact gd _ z
      · exact gd3 _ z
/-- [e for x in xs] with data, over a list of data -/
theorem yd_lcL {K : PySem.W.Frag} {f : Addr} {F : AS} {σ : L2.St} {G Ge : PyData → Prop} {i : Nat} {te : TE} {H1 : Hp} {D p : Addr} {xs : List V} {ds0 : List PyData} (hf : F f) (b1 : Fd f H1) (c1 : Trk F H1) (nD : H1 D = none) (hn : xs.length ≤ 1000)
    (pf : p ≠ f) (ep : H1 p = some (.lst xs)) (al : DaAll F H1 xs ds0) (gs : ∀ d ∈ ds0, G d)
    (he : ∀ x d, Da (Wth F D) H1 x d → G d → Yd f (Wth F D) H1 ((wipe σ [i]).set i (some x)) Ge te) (hw : ∀ y, wipe ((wipe σ [i]).set i y) [i] = wipe σ [i]) {Qd : Hp → Prop}
    (q : ∀ H' vs ds, Ext f H1 H' → Fd f H' → H' D = some (.lst vs) → DaAll (Wth F D) H' vs ds → ds.length = xs.length → (∀ d ∈ ds, Ge d) → Qd H') :
    ∃ W : Nat → Nat → Hp → Prop, (∃ m, W 0 m (L2.upd H1 D (.lst []))) ∧ ∀ j m H, W j m H →
      ((Itl K p).stop j H ∧ Qd H) ∨ ((Itl K p).go j H ∧ ∃ Nx : Hp → Prop, (∀ H', Nx H' → ∃ m', m' < m ∧ W (j + 1) m' H') ∧ ∀ x H', (Itl K p).yld j H x H' → gName i x (wipe σ [i]) H' fun σ2 H2 => wipe σ2 [i] = wipe σ [i] ∧ tYes σ2 H2 fun b H3 =>
        if b = true then te σ2 H3 fun y H4 => ∃ acc, H4 D = some (.lst acc) ∧ acc.length < sizeLine ∧ Nx (L2.upd H4 D (.lst (acc ++ [y]))) else Nx H3) := by
  have nDf : D ≠ f := fun z => by
    obtain ⟨g, s, e, _⟩ := b1
    rw [z, e] at nD
    cases nD
  refine lc_list (K := K) (a := p) (xs := xs) (fun k H => Ext f H1 H ∧ Fd f H ∧ Trk (Wth F D) H ∧ ∃ vs ds, H D = some (.lst vs) ∧ DaAll (Wth F D) H vs ds ∧ ds.length = k ∧ ∀ d ∈ ds, Ge d) ?_ ?_ ?_ ?_
  · have s1 : Same H1 (L2.upd H1 D (.lst [])) := same_upd nD
    exact ⟨Ext.same s1, b1.same s1, (c1.same s1).wth upd_same, [], [], upd_same, .nil, rfl, fun d hd => by cases hd⟩
  · rintro k H hk ⟨x2, _⟩
    exact SqL.of (x2 _ _ pf ep)
  · rintro k x H hk ⟨x2, b2, c2, vs, ds, eD, aD, lD, gD⟩
    obtain ⟨dx, ex, ax⟩ := al.get hk
    refine ⟨hw _, he x dx (ax.avoid nD) (gs dx (List.mem_of_getElem? ex)) H _ x2 b2 c2 fun v d H3 x3 b3 a3 g3 => ?_⟩
    have eD3 := x3 D _ nDf eD
    have eL := aD.length
    obtain ⟨hk', _⟩ := List.getElem?_eq_some_iff.mp hk
    refine ⟨vs, eD3, small1000 (by omega), ?_⟩
    have x4 : Ext D H3 (L2.upd H3 D (.lst (vs ++ [v]))) := Ext.upd
    refine ⟨fun a o n e => ?_, ?_, fun a ha => ?_, vs ++ [v], ds ++ [d], upd_same, ((aD.ext x3 (.inl hf)).append (.cons a3 .nil)).ext x4 (.inr rfl), by rw [List.length_append, lD]; rfl, fun y hy => ?_⟩
    · have na : a ≠ D := fun z => by rw [z, nD] at e; cases e
      rw [upd_ne na]
      exact x3 a o n (x2 a o n e)
    · obtain ⟨g, s, e, r⟩ := b3
      exact ⟨g, s, by rw [upd_ne nDf.symm]; exact e, r⟩
    · by_cases na : a = D
      · exact ⟨_, by rw [na]; exact upd_same⟩
      · obtain ⟨o, e⟩ := (c2.ext x3 b3) a ha
        exact ⟨o, by rw [upd_ne na]; exact e⟩
    · rcases List.mem_append.mp hy with z | z
      · exact gD y z
      · rw [List.mem_singleton.mp z]; exact g3
  · rintro H ⟨x2, b2, c2, vs, ds, eD, aD, lD, gD⟩
    exact q H vs ds x2 b2 eD aD lD gD
theorem tupR {K : PySem.W.Frag} (p : Addr) (ys : List V) (H : Hp) (Q : VK) (e : H p = some (.lst ys)) (k : ∀ l, H l = none → Q (.ref l) (L2.upd H l (.tup ys))) :
    ∃ p' ys', [V.ref p] = [V.ref p'] ∧ ((SqL K H p' ys' ∧ ∀ l, H l = none → Q (.ref l) (L2.upd H l (.tup ys'))) ∨ (SqT K H p' ys' ∧ Q (.ref p') H)) := ⟨p, ys, rfl, .inl ⟨SqL.of e, k⟩⟩
theorem ok__law_mark (T : Top K mg) : FnOk P w K mg base CX0 3 T._law_mark T._law_mark_d ["_law_feed"] (sp_gen 0 (Gn 6 2)) := by
  refine T._law_mark_f.ok sc__law_mark (fun vs H Q E h => ?_) (fun cdv A outer s H vs Q E hr h => ?_)
  · obtain ⟨f, F, rfl, _⟩ := h
    rfl
  obtain ⟨f, F, rfl, hF, hf, hT, q⟩ := h
  -- slots: 0 _law_feed, 1 _law_path, 2 _law_turn
  refine ⟨_, (pss_cons (ps_set (i := 1) sc__law_mark.nd rfl (.inl rfl) (pe_callTy call_tuple_of (by rfl) T.tuple_n (by decide +kernel) (pa_cons (pe_lc (own := [("_law_turn", 2)]) (g := (gName 2)) (tt := tYes) (by rfl) sc__law_mark.nd (pi_range1 (by rfl) T.range_n (pa_cons (pe_call (ok__law_draw T) (hr.mono (by decide)) rfl T._law_draw_g T._law_draw_k T._law_draw_b .nil pass0 (pa_cons (pv 0) (pa_cons pe_int pa_nil))) pa_nil)) (blkOk_by (own := [("_law_turn", 2)]) (N := ["_law_feed", "_law_path", "_law_turn"]) (sc := defScope s__law_mark) (by decide +kernel)) (fun _ _ _ _ _ => (pg_name (i := 2) sc__law_mark.nd rfl (.inl rfl))) (fun _ _ _ _ _ => pts_nil) (fun _ _ _ _ _ => (pe_call (ok__law_draw T) (hr.mono (by decide)) rfl T._law_draw_g T._law_draw_k T._law_draw_b .nil pass0 (pa_cons (pv 0) (pa_cons pe_int pa_nil))))) pa_nil)))
      (pss_one (ps_ret (pe_tup (pa_cons (pe_call (ok__law_pick T) (hr.mono (by decide)) rfl T._law_pick_g T._law_pick_k T._law_pick_b .nil pass0 (pa_cons (pv 0) (pa_cons (pe_lst (pa_cons pe_str (pa_cons pe_str (pa_cons pe_str pa_nil)))) pa_nil))) (pa_cons (pe_call (ok__law_draw T) (hr.mono (by decide)) rfl T._law_draw_g T._law_draw_k T._law_draw_b .nil pass0 (pa_cons (pv 0) (pa_cons pe_int pa_nil))) (pa_cons (pv 1) pa_nil))))))), ?_⟩
  refine go_asg ?_
  refine yd_tupLc (f := f) (F := F) (H0 := H) (m := 3) (Ge := Gn 6 0) (G := Gn 6 1) tupR hf (fun H' x b c Q q => rd_draw rfl b (by decide) fun r H1 r0 r1 x1 b1 => q r r0 (by omega) H1 x1 b1) (by decide) (fun D H1 k x nD => yd_draw rfl (by decide)) (fun y => rfl) (fun ds l g => Gn.tuple (by omega) g) H _ Ext.refl hF hT ?_
  intro v d H1 x1 b1 a1 g1
  refine go_name (go_ret ?_)
  refine yd_tupG (f := f) (F := F) (H0 := H1) (w := 6) (n := 1) (m := 3) hf ?_ (by decide) (by decide) H1 _ Ext.refl b1 (hT.ext x1 b1) (fun v d H2 x2 b2 a2 g2 => q v d H2 (x1.trans x2) b2 a2 g2)
  exact ydu_cons hf (yd_pickC rfl (fun _ _ q => q) (by decide) (by decide) (by decide +kernel)) (ydu_cons hf (yd_draw rfl (by decide)) (ydu_cons hf (yd_var (i := 1) rfl hf a1 g1) ydu_nil))
end
end Sa

set_option Elab.async false
set_option linter.all false
set_option maxRecDepth 100000
set_option maxHeartbeats 4000000
namespace Sa
open PySem PySem.Spec PyProof.Rows L2
section
variable {P : Program} {w : World} {K : PySem.W.Frag} {mg : Str → Option Value} {base : Heap}
def sp_ink (n : Nat) : Sp := fun vs H Q _ => ∃ (f : Addr) (F : AS) (k : Nat), vs = [.ref f, .int k] ∧ k < n ∧ k ≤ 3 ∧ Fd f H ∧ F f ∧ Trk F H ∧ ∀ v d H', Ext f H H' → Fd f H' → Da F H' v d → Gt 6 (4 * k + 4) (szB k) d → Q v H'
theorem ink0 {f : Addr} {fd : FuncData} : FnOk P w K mg base CX0 4 f fd ["_law_feed", "_law_deep"] (sp_ink 0) :=
  ⟨fun vs H Q E h => by obtain ⟨f, F, k, _, h, _⟩ := h; omega, fun A outer s H args us vs Q E _ _ _ _ h => by obtain ⟨f, F, k, _, h, _⟩ := h; omega⟩
abbrev tSubtree (n : Nat) : TE := tCall (sp_ink n) [] E0 (tCons (tVar 0) (tCons (tOp (rI0 fun i j => V.int (i - j)) (tVar 1) (tC (V.int 1))) tNil))
theorem yd_sub {f : Addr} {F : AS} {H0 : Hp} {σ : L2.St} {n k : Nat} (hf : F f) (h0 : 0 < k) (hk : k < n + 1) (hk3 : k ≤ 3) (e0 : σ[0]? = some (some (.ref f))) (e1 : σ[1]? = some (some (.int k))) :
    Yd f F H0 σ (Gt 6 (4 * k) (szB (k - 1))) (tSubtree n) := by
  intro H Q x b c q
  refine ⟨_, e0, _, e1, _, _, rfl, rfl, f, F, k - 1, ?_, by omega, by omega, b, hf, c, fun v d H' x y z g => q v d H' x y z (g.mono (by omega) (Nat.le_refl _))⟩
  have e : (k : Int) - 1 = ((k - 1 : Nat) : Int) := by omega
  show [V.ref f, V.int ((k : Int) - 1)] = _
  rw [e]
/-- any head, told by a slot -/
theorem yd_headV {f : Addr} {F : AS} {H0 : Hp} {σ : L2.St} {x : Str} {i : Nat} {t1 t2 : TE} {w n s : Nat} (hf : F f) (e : σ[i]? = some (some (.str x))) (hx : (PyData.strOk x && decide (x.length ≤ 100)) = true) (h1 : Yd f F H0 σ (Gi w n) t1) (h2 : Yd f F H0 σ (Git x w n s) t2) (hw : 3 ≤ w) :
    Yd f F H0 σ (Gt w (n + 1) (s + 1)) (tTup (tCons (tVar i) (tCons t1 (tCons t2 tNil)))) := by
  refine yd_tup hf (yda_cons (G := fun d => d = .str x) hf (yd_var e hf (.str x) rfl) fun d e => yda_cons hf h1 fun d1 g1 => yda_cons hf h2 fun d2 g2 => yda_nil ?_)
  subst e
  obtain ⟨g1, l, rfl⟩ := g1
  refine ⟨by simp, Gn.tuple (by simpa using hw) fun z hz => ?_, wt_mk g2.2⟩
  rcases List.mem_cons.mp hz with e | hz
  · rw [e]; exact gn_str hx
  rcases List.mem_cons.mp hz with e | hz
  · rw [e]; exact g1
  rw [List.mem_singleton.mp hz]; exact g2.1
theorem szB_two : ∀ k : Nat, 2 ≤ szB k
  | 0 => Nat.le_refl _
  | k + 1 => by rw [szB]; omega
theorem szB_step {k : Nat} (h : 0 < k) : szB k = 4 * szB (k - 1) + 4 := by
  obtain ⟨j, rfl⟩ : ∃ j, k = j + 1 := ⟨k - 1, by omega⟩
  rw [szB, Nat.add_sub_cancel]
/-- kids alone -/
theorem git_kids {x : Str} {w n s m : Nat} {ds : List PyData} (h0 : fk x = 0) (h1 : atoms.contains x = false) (hw : ds.length ≤ w) (hm : ds.length ≤ m) (g : ∀ d ∈ ds, Gt w n s d) : Git x w (n + 1) (m * s) (.tuple ds) := by
  obtain ⟨ts, e, a, b⟩ := wts ds fun d hd => (g d hd).2
  refine ⟨Gn.tuple hw fun d hd => (g d hd).1, [], ts, by rw [e]; rfl, h0.symm, fun z => (by rw [h1] at z; cases z), a, Nat.le_trans b ?_⟩
  rw [Nat.mul_comm]
  exact Nat.mul_le_mul_right _ hm
/-- a tuple and a tuple -/
theorem yd_catA {K : PySem.W.Frag} {f : Addr} {F : AS} {H0 : Hp} {σ : L2.St} {t1 t2 : TE} {G1 G2 G : PyData → Prop} (hf : F f) (h1 : Yd f F H0 σ (fun d => ∃ ds, d = .tuple ds ∧ ds.length ≤ 500 ∧ G1 d) t1) (h2 : Yd f F H0 σ (fun d => ∃ ds, d = .tuple ds ∧ ds.length ≤ 500 ∧ G2 d) t2)
    (hG : ∀ a b : List PyData, G1 (.tuple a) → G2 (.tuple b) → G (.tuple (a ++ b))) : Yd f F H0 σ G (tOp (rCatA K) t1 t2) := by
  intro H Q x b c q
  refine h1 H _ x b c ?_
  rintro v1 d1 H1 x1 b1 a1 ⟨ds1, rfl, l1, g1⟩
  refine h2 H1 _ (x.trans x1) b1 (c.ext x1 b1) ?_
  rintro v2 d2 H2 x2 b2 a2 ⟨ds2, rfl, l2, g2⟩
  have a1' := a1.ext x2 hf
  cases a1' with
  | @tup p1 xs1 _ n1 e1 al1 =>
  cases a2 with
  | @tup p2 xs2 _ n2 e2 al2 =>
  have z1 := al1.length
  have z2 := al2.length
  refine ⟨p1, p2, xs1, xs2, rfl, rfl, SqT.of e1, SqT.of e2, Nat.le_of_lt (small1000 (by omega)), fun z => ?_, fun z y => ?_, fun z y p np => ?_⟩
  · have : ds1 = [] := List.eq_nil_of_length_eq_zero (by rw [← z1, z]; rfl)
    subst this
    exact q _ _ H2 (x1.trans x2) b2 (.tup n2 e2 al2) (hG [] ds2 g1 g2)
  · have : ds2 = [] := List.eq_nil_of_length_eq_zero (by rw [← z2, y]; rfl)
    subst this
    have g := hG ds1 [] g1 g2
    rw [List.append_nil] at g
    exact q _ _ H2 (x1.trans x2) b2 (.tup n1 e1 al1) g
  · have s : Same H2 (L2.upd H2 p (.tup (xs1 ++ xs2))) := same_upd np
    exact q _ _ _ ((x1.trans x2).trans (Ext.same s)) (b2.same s) (.tup (((c.ext x1 b1).ext x2 b2).new np) upd_same ((al1.append al2).same s)) (hG ds1 ds2 g1 g2)
theorem yd_tupLcL {K : PySem.W.Frag} {f : Addr} {F : AS} {H0 : Hp} {σ : L2.St} {r : List V → Hp → VK → Prop} {i j : Nat} {te : TE} {G Ge Gt : PyData → Prop} {p : Addr} {ds0 : List PyData} (hr : ∀ p ys H Q, H p = some (.lst ys) → (∀ l, H l = none → Q (.ref l) (L2.upd H l (.tup ys))) → r [.ref p] H Q) (hf : F f)
    (e : σ[j]? = some (some (.ref p))) (a : Da F H0 (.ref p) (.list ds0)) (gs : ∀ d ∈ ds0, G d) (hl : ds0.length ≤ 1000)
    (he : ∀ D H1 x d, Ext f H0 H1 → H1 D = none → Da (Wth F D) H1 x d → G d → Yd f (Wth F D) H1 ((wipe σ [i]).set i (some x)) Ge te) (hw : ∀ y, wipe ((wipe σ [i]).set i y) [i] = wipe σ [i]) (hG : ∀ ds : List PyData, ds.length = ds0.length → (∀ d ∈ ds, Ge d) → Gt (.tuple ds)) :
    Yd f F H0 σ Gt (tCB r (tCons (tLc (iList K (tVar j)) (gName i) tYes te [i]) tNil)) := by
  intro H Q x b c q
  cases a with
  | @lst _ xs _ nF ea al =>
  have lz := al.length
  have pf : p ≠ f := fun z => nF (z ▸ hf)
  have ea' := x _ _ pf ea
  refine ⟨_, e, p, rfl, ⟨_, SqL.of ea'⟩, fun D nD => ?_⟩
  refine yd_lcL (K := K) (f := f) (F := F) (G := G) (Ge := Ge) hf b c nD (by omega) pf ea' (al.ext x hf) gs (fun v d a g => he D H v d x nD a g) hw (fun H' vs ds x3 b3 eD aD lD gD => ?_)
  refine hr D vs H' _ eD fun p np => ?_
  have s4 : Same H' (L2.upd H' p (.tup vs)) := same_upd np
  exact q _ (.tuple ds) _ (x3.trans (Ext.same s4)) (b3.same s4) (.tup ((c.ext x3 b3).new np) upd_same (aD.wth.same s4)) (hG ds (by omega) gD)
theorem valV_mem {kvs : List (Key × V)} {k : Key} {v : V} (h : valV kvs k = some v) : v ∈ kvs.map (·.2) := by
  unfold valV at h
  obtain ⟨a, e, rfl⟩ := Option.map_eq_some_iff.mp h
  exact List.mem_map.mpr ⟨a, List.mem_of_find?_eq_some e, rfl⟩
def smallI (lo hi : Int) : V → Bool
  | .int i => decide (lo ≤ i) && decide (i ≤ hi)
  | _ => false
theorem smallI_of {lo hi : Int} {v : V} (h : smallI lo hi v = true) : ∃ i, v = .int i ∧ lo ≤ i ∧ i ≤ hi := by
  cases v with
  | int i =>
    simp only [smallI, Bool.and_eq_true, decide_eq_true_eq] at h
    exact ⟨i, rfl, h⟩
  | _ => cases h
def strV : V → Bool
  | .str x => PyData.strOk x && decide (x.length ≤ 100) && (decide (fk x = 0) && !(atoms.contains x))
  | _ => false
theorem strV_of {v : V} (h : strV v = true) : ∃ x, v = .str x ∧ (PyData.strOk x && decide (x.length ≤ 100)) = true ∧ fk x = 0 ∧ atoms.contains x = false := by
  cases v with
  | str x =>
    obtain ⟨h1, h2⟩ := Bool.and_eq_true_iff.mp h
    obtain ⟨h3, h4⟩ := Bool.and_eq_true_iff.mp h2
    exact ⟨x, rfl, h1, of_decide_eq_true h3, by simpa using h4⟩
  | _ => cases h
theorem same_upd2 {H : Hp} {p : Addr} {o u : HO} (h : H p = none) : Same H (L2.upd (L2.upd H p o) p u) := by
  rw [upd_upd]
  exact same_upd h
theorem b2i_lo (k : Bool) : (0 : Int) ≤ (if k then 1 else 0) ∧ (if k then 1 else 0 : Int) ≤ 1 := by cases k <;> decide
theorem ink1 (T : Top K mg) {n : Nat} (IH : FnOk P w K mg base CX0 (n + 4) T._law_inked_tree T._law_inked_tree_d ["_law_feed", "_law_deep"] (sp_ink n)) :
    FnOk P w K mg base CX0 (n + 5) T._law_inked_tree T._law_inked_tree_d ["_law_feed", "_law_deep"] (sp_ink (n + 1)) := by
  refine T._law_inked_tree_f.ok sc__law_inked_tree (fun vs H Q E h => ?_) (fun cdv A outer s H vs Q E hr h => ?_)
  · obtain ⟨f, F, k, rfl, _⟩ := h
    rfl
  obtain ⟨f, F, k, rfl, hk, hk3, hF, hf, hT, q⟩ := h
  have hr3 : Room 3 _ := hr.mono (by omega)
  have hr2 : Room 2 _ := hr.mono (by omega)
  have hr1 : Room 1 _ := hr.mono (by omega)
  -- slots: 0 _law_feed, 1 _law_deep, 2 _law_form, 3 _law_ink, 4 _law_some_here, 5 _law_items, 6 _law_heads, 7 _law_many, 8 _law_kids, 9 _law_head, 10 _law_turn, 11 _law_item
  refine ⟨_, (pss_cons (ps_set (i := 2) sc__law_inked_tree.nd rfl (.inl rfl) (pe_call (ok__law_draw T) hr1 rfl T._law_draw_g T._law_draw_k T._law_draw_b .nil pass0 (pa_cons (pv 0) (pa_cons pe_int pa_nil))))
      (pss_cons (ps_set (i := 3) sc__law_inked_tree.nd rfl (.inr rfl) (pe_callTy call_tuple_of (by rfl) T.tuple_n (by decide +kernel) (pa_cons (pe_lc (own := [("_law_turn", 10)]) (g := (gName 10)) (tt := tYes) (by rfl) sc__law_inked_tree.nd (pi_range1 (by rfl) T.range_n (pa_cons (pe_op op_mul (pe_call (ok__law_draw T) hr1 rfl T._law_draw_g T._law_draw_k T._law_draw_b .nil pass0 (pa_cons (pv 0) (pa_cons pe_int pa_nil))) (pe_callTy call_int1 (by rfl) T.int_n (by decide +kernel) (pa_cons (pe_cmpR op_eq (pe_call (ok__law_draw T) hr1 rfl T._law_draw_g T._law_draw_k T._law_draw_b .nil pass0 (pa_cons (pv 0) (pa_cons pe_int pa_nil))) pe_int (nomark _)) pa_nil))) pa_nil)) (blkOk_by (own := [("_law_turn", 10)]) (N := ["_law_feed", "_law_deep", "_law_form", "_law_ink", "_law_some_here", "_law_items", "_law_heads", "_law_many", "_law_kids", "_law_head", "_law_turn", "_law_item"]) (sc := defScope s__law_inked_tree) (by decide +kernel)) (fun _ _ _ _ _ => (pg_name (i := 10) sc__law_inked_tree.nd rfl (.inl rfl))) (fun _ _ _ _ _ => pts_nil) (fun _ _ _ _ _ => (pe_call (ok__law_mark T) hr3 rfl T._law_mark_g T._law_mark_k T._law_mark_b .nil pass0 (pa_cons (pv 0) pa_nil)))) pa_nil)))
      (pss_mid (ps_if (pt_mid (PW.pt (pw_or (pt_cmpR op_lt (pv 1) pe_int (nomark _)) (pw_or1 (pt_cmpR op_lt (pv 2) pe_int (nomark _)))))) (pss_cons (ps_set (i := 4) sc__law_inked_tree.nd rfl (.inl rfl) (pe_lst (pa_cons (pe_call (ok__law_literal T) hr3 rfl T._law_literal_g T._law_literal_k T._law_literal_b .nil pass0 (pa_cons (pv 0) pa_nil)) (pa_cons (pe_tup (pa_cons pe_str (pa_cons (pv 3) (pa_cons (pe_tup (pa_cons (pe_call (ok__law_draw T) hr1 rfl T._law_draw_g T._law_draw_k T._law_draw_b .nil pass0 (pa_cons (pv 0) (pa_cons pe_int pa_nil))) pa_nil)) pa_nil)))) (pa_cons (pe_tup (pa_cons pe_str (pa_cons (pe_tup pa_nil) (pa_cons (pe_tup (pa_cons (pe_op op_add pe_int (pe_call (ok__law_draw T) hr1 rfl T._law_draw_g T._law_draw_k T._law_draw_b .nil pass0 (pa_cons (pv 0) (pa_cons pe_int pa_nil)))) pa_nil)) pa_nil)))) pa_nil)))))
      (pss_one (ps_ret (pe_call (ok__law_pick T) hr2 rfl T._law_pick_g T._law_pick_k T._law_pick_b .nil pass0 (pa_cons (pv 0) (pa_cons (pe_op op_cat (pv 4) (pe_lst (pa_cons (pe_tup (pa_cons pe_str (pa_cons (pe_tup pa_nil) (pa_cons (pe_tup (pa_cons pe_str pa_nil)) pa_nil)))) (pa_cons (pe_tup (pa_cons pe_str (pa_cons (pv 3) (pa_cons (pe_tup pa_nil) pa_nil)))) (pa_cons (pe_tup (pa_cons pe_str (pa_cons (pe_tup pa_nil) (pa_cons (pe_tup pa_nil) pa_nil)))) pa_nil))))) pa_nil)))))) pss_nil)
      (pss_mid (ps_if (pt_cmpR op_eq (pv 2) pe_int (nomark _)) (pss_cons (ps_setLc (i := 5) (own := [("_law_turn", 10)]) (g := (gName 10)) (tt := tYes) (by rfl) sc__law_inked_tree.nd rfl rfl (sw_true rfl rfl rfl (by decide +kernel)) (pi_range1 (by rfl) T.range_n (pa_cons (pe_call (ok__law_draw T) hr1 rfl T._law_draw_g T._law_draw_k T._law_draw_b .nil pass0 (pa_cons (pv 0) (pa_cons pe_int pa_nil))) pa_nil)) (blkOk_by (own := [("_law_turn", 10)]) (N := ["_law_feed", "_law_deep", "_law_form", "_law_ink", "_law_some_here", "_law_items", "_law_heads", "_law_many", "_law_kids", "_law_head", "_law_turn", "_law_item"]) (sc := defScope s__law_inked_tree) (by decide +kernel)) (fun _ _ _ _ _ => (pg_name (i := 10) sc__law_inked_tree.nd rfl (.inl rfl))) (fun _ _ _ _ _ => pts_nil) (fun _ _ _ _ _ => (pe_call IH hr rfl T._law_inked_tree_g T._law_inked_tree_k T._law_inked_tree_b .nil pass0 (pa_cons (pv 0) (pa_cons (pe_op op_sub (pv 1) pe_int) pa_nil)))))
      (pss_cons (ps_set (i := 6) sc__law_inked_tree.nd rfl (.inr rfl) (pe_tup (pa_cons pe_str (pa_cons pe_str (pa_cons pe_str (pa_cons pe_str (pa_cons pe_str (pa_cons pe_str (pa_cons pe_str (pa_cons pe_str pa_nil))))))))))
      (pss_one (ps_ret (pe_tup (pa_cons pe_str (pa_cons (pe_tup pa_nil) (pa_cons (pe_callTy call_tuple_of (by rfl) T.tuple_n (by decide +kernel) (pa_cons (pe_lc (own := [("_law_item", 11)]) (g := (gName 11)) (tt := tYes) (by rfl) sc__law_inked_tree.nd (pi_list (pv 5)) (blkOk_by (own := [("_law_item", 11)]) (N := ["_law_feed", "_law_deep", "_law_form", "_law_ink", "_law_some_here", "_law_items", "_law_heads", "_law_many", "_law_kids", "_law_head", "_law_turn", "_law_item"]) (sc := defScope s__law_inked_tree) (by decide +kernel)) (fun _ _ _ _ _ => (pg_name (i := 11) sc__law_inked_tree.nd rfl (.inl rfl))) (fun _ _ _ _ _ => pts_nil) (fun _ _ _ _ _ => (pe_ifExp (pt_cmpR (show OpR _ _ (rIn K false) from op_in_seq) (pe_ix (show IxR _ (rIxT K) from ix_tup) (pv 11) pe_int (fun _ _ => rfl)) (pv 6) (by rfl)) (pv 11) (pe_tup (pa_cons pe_str (pa_cons (pv 3) (pa_cons (pe_tup (pa_cons pe_int (pa_cons (pv 11) pa_nil))) pa_nil))))))) pa_nil)) pa_nil)))))))) pss_nil)
      (pss_mid (ps_if (pt_cmpR op_lt (pv 2) pe_int (nomark _)) (pss_cons (ps_set (i := 7) sc__law_inked_tree.nd rfl (.inl rfl) (pe_call (ok__law_draw T) hr1 rfl T._law_draw_g T._law_draw_k T._law_draw_b .nil pass0 (pa_cons (pv 0) (pa_cons pe_int pa_nil))))
      (pss_cons (ps_set (i := 8) sc__law_inked_tree.nd rfl (.inl rfl) (pe_callTy call_tuple_of (by rfl) T.tuple_n (by decide +kernel) (pa_cons (pe_lc (own := [("_law_turn", 10)]) (g := (gName 10)) (tt := tYes) (by rfl) sc__law_inked_tree.nd (pi_range1 (by rfl) T.range_n (pa_cons (pv 7) pa_nil)) (blkOk_by (own := [("_law_turn", 10)]) (N := ["_law_feed", "_law_deep", "_law_form", "_law_ink", "_law_some_here", "_law_items", "_law_heads", "_law_many", "_law_kids", "_law_head", "_law_turn", "_law_item"]) (sc := defScope s__law_inked_tree) (by decide +kernel)) (fun _ _ _ _ _ => (pg_name (i := 10) sc__law_inked_tree.nd rfl (.inl rfl))) (fun _ _ _ _ _ => pts_nil) (fun _ _ _ _ _ => (pe_call IH hr rfl T._law_inked_tree_g T._law_inked_tree_k T._law_inked_tree_b .nil pass0 (pa_cons (pv 0) (pa_cons (pe_op op_sub (pv 1) pe_int) pa_nil))))) pa_nil)))
      (pss_one (ps_ret (pe_tup (pa_cons pe_str (pa_cons (pv 3) (pa_cons (pe_op op_catA (pe_tup (pa_cons (pe_call (ok__law_pick T) hr2 rfl T._law_pick_g T._law_pick_k T._law_pick_b .nil pass0 (pa_cons (pv 0) (pa_cons (pe_lst (pa_cons pe_str (pa_cons pe_str (pa_cons pe_str pa_nil)))) pa_nil))) (pa_cons (pe_op op_add (pv 7) (pe_call (ok__law_draw T) hr1 rfl T._law_draw_g T._law_draw_k T._law_draw_b .nil pass0 (pa_cons (pv 0) (pa_cons pe_int pa_nil)))) pa_nil))) (pv 8)) pa_nil)))))))) pss_nil)
      (pss_mid (ps_if (pt_cmpR op_eq (pv 2) pe_int (nomark _)) (pss_one (ps_ret (pe_tup (pa_cons pe_str (pa_cons (pv 3) (pa_cons (pe_tup (pa_cons (pe_call (ok__law_draw T) hr1 rfl T._law_draw_g T._law_draw_k T._law_draw_b .nil pass0 (pa_cons (pv 0) (pa_cons pe_int pa_nil))) (pa_cons (pe_call IH hr rfl T._law_inked_tree_g T._law_inked_tree_k T._law_inked_tree_b .nil pass0 (pa_cons (pv 0) (pa_cons (pe_op op_sub (pv 1) pe_int) pa_nil))) pa_nil))) pa_nil)))))) pss_nil)
      (pss_cons (ps_set (i := 9) sc__law_inked_tree.nd rfl (.inl rfl) (pe_call (ok__law_pick T) hr2 rfl T._law_pick_g T._law_pick_k T._law_pick_b .nil pass0 (pa_cons (pv 0) (pa_cons (pe_op op_cat (pe_op op_cat (pe_call0 (ok__law_ones T) hr1 rfl T._law_ones_g T._law_ones_k T._law_ones_b .nil pass0) (pe_call0 (ok__law_twos T) hr1 rfl T._law_twos_g T._law_twos_k T._law_twos_b .nil pass0)) (pe_lst (pa_cons pe_str (pa_cons pe_str (pa_cons pe_str (pa_cons pe_str (pa_cons pe_str pa_nil))))))) pa_nil))))
      (pss_cons (ps_set (i := 7) sc__law_inked_tree.nd rfl (.inl rfl) (pe_mid (pe_dget2 (hu_of hr) (pe_disp (pps_cons pe_str pe_int (pps_cons pe_str pe_int (pps_cons pe_str pe_int pps_nil))) (by rfl) (by rfl) (fun z => by cases z) (by decide)) (pv 9) (pe_op op_add (pe_op op_mul pe_int (pe_callTy call_int1 (by rfl) T.int_n (by decide +kernel) (pa_cons (pe_cmpR op_in_seq (pv 9) (pe_call0 (ok__law_ones T) hr1 rfl T._law_ones_g T._law_ones_k T._law_ones_b .nil pass0) (by rfl)) pa_nil))) (pe_op op_mul pe_int (pe_callTy call_int1 (by rfl) T.int_n (by decide +kernel) (pa_cons (pe_cmpR op_in_seq (pv 9) (pe_call0 (ok__law_twos T) hr1 rfl T._law_twos_g T._law_twos_k T._law_twos_b .nil pass0) (by rfl)) pa_nil)))) ⟨rfl, rfl, rfl, rfl⟩)))
      (pss_cons (ps_set (i := 7) sc__law_inked_tree.nd rfl (.inl rfl) (pe_mid (pe_ifExp (pt_cmpR op_gt (pv 7) pe_int (nomark _)) (pv 7) (pe_op op_add pe_int (pe_call (ok__law_draw T) hr1 rfl T._law_draw_g T._law_draw_k T._law_draw_b .nil pass0 (pa_cons (pv 0) (pa_cons pe_int pa_nil)))))))
      (pss_one (ps_ret (pe_tup (pa_cons (pv 9) (pa_cons (pv 3) (pa_cons (pe_callTy call_tuple_of (by rfl) T.tuple_n (by decide +kernel) (pa_cons (pe_lc (own := [("_law_turn", 10)]) (g := (gName 10)) (tt := tYes) (by rfl) sc__law_inked_tree.nd (pi_range1 (by rfl) T.range_n (pa_cons (pv 7) pa_nil)) (blkOk_by (own := [("_law_turn", 10)]) (N := ["_law_feed", "_law_deep", "_law_form", "_law_ink", "_law_some_here", "_law_items", "_law_heads", "_law_many", "_law_kids", "_law_head", "_law_turn", "_law_item"]) (sc := defScope s__law_inked_tree) (by decide +kernel)) (fun _ _ _ _ _ => (pg_name (i := 10) sc__law_inked_tree.nd rfl (.inl rfl))) (fun _ _ _ _ _ => pts_nil) (fun _ _ _ _ _ => (pe_call IH hr rfl T._law_inked_tree_g T._law_inked_tree_k T._law_inked_tree_b .nil pass0 (pa_cons (pv 0) (pa_cons (pe_op op_sub (pv 1) pe_int) pa_nil))))) pa_nil)) pa_nil))))))))))))))), ?_⟩
  refine ⟨_, rfl, f, 14, rfl, hF, by decide, by decide, fun r H1 r0 r1 x1 b1 => ?_⟩
  have c1 := hT.ext x1 b1
  refine go_name ?_
  dsimp only
  refine go_asg ?_
  refine yd_tupLc (f := f) (F := F) (H0 := H1) (m := 2) (Ge := Gn 6 2) (G := Gi 6 3) tupR hf ?_ (by decide) (fun D H1 k x nD => yd_gen rfl (.inl hf)) (fun y => rfl) (fun ds l g => ⟨Gn.tuple (by omega) g, ds, rfl⟩) H1 _ Ext.refl b1 c1 ?_
  · intro H' x b c Q q
    refine rd_draw rfl b (by decide) fun s1 H2 z0 z1 y1 d1 => rd_draw rfl d1 (by decide) fun s2 H3 _ _ y2 d2 => ⟨rfl, .inr ⟨_, rfl, _, _, rfl, rfl, .inl ⟨by omega, by omega⟩, ?_⟩⟩
    refine q _ ?_ ?_ H3 (y1.trans y2) d2
    all_goals
      cases decide (V.int s2 = V.int 0)
      · show _ ≤ _
        simp
      · show _ ≤ _
        simp
        omega
  intro ik dk H2 x2 b2 ak gk
  have c2 := c1.ext x2 b2
  refine go_name ?_
  -- the next tree's parts
  refine ⟨fun σ H' => σ = [some (.ref f), some (.int k), some (.int r), some ik, none, none, none, none, none, none, none, none] ∧ H2 = H' ∧ 0 < k, ?_, ?_⟩
  · refine ⟨fun b H' => H2 = H' ∧ (b = false → 0 < k), ?_, ?_⟩
    · refine ⟨_, rfl, _, _, rfl, rfl, _, rfl, ite2 (fun e => ⟨rfl, fun z => by cases z⟩) (fun e => ⟨_, rfl, _, _, rfl, rfl, _, rfl, rfl, fun _ => ?_⟩)⟩
      have := of_decide_eq_false (Bool.eq_false_iff.mpr e)
      omega
    rintro c _ ⟨rfl, hc⟩
    refine ite2 (fun e => ?_) (fun e => ⟨rfl, rfl, hc (Bool.eq_false_iff.mpr e)⟩)
    refine go_asg ?_
    refine yd_lstU (f := f) (F := F) (H0 := H2) (G := Gt 6 4 1) (m := 3) hf ?_ (by decide) H2 _ Ext.refl b2 c2 ?_
    · exact ydu_cons hf ((yd_gen rfl hf).imp fun d g => g.mono (by decide) (Nat.le_refl _))
        (ydu_cons hf (yd_head hf (by decide +kernel) (yd_var (i := 3) rfl hf ak gk) (yd_one hf (yd_draw rfl (by decide)) (by decide) (by decide) (by decide +kernel)) (by decide))
        (ydu_cons hf (yd_head hf (by decide +kernel) (yd_unit hf (by decide)) (yd_one hf (fun H Q x b c q => rd_draw (k := 0) rfl b (by decide) fun r H' r0 r1 x1 b1 => ⟨_, _, rfl, rfl, q _ (.int (1 + r)) H' x1 b1 (.int _) (gn_int (by omega))⟩) (by decide) (by decide) (by decide +kernel)) (by decide)) ydu_nil))
    rintro v d H3 x3 b3 a3 ⟨ds3, rfl, ld3, gd3⟩
    cases a3 with
    | @lst p3 xs3 _ nF3 ea3 al3 =>
      refine go_name (go_ret ?_)
      have ak3 := ak.ext x3 hf
      have sk := szB_two k
      refine rd_pickCat (f := f) (F := F) (G := Gt 6 4 1) (m := 3) hf rfl rfl (.lst nF3 ea3 al3) gd3 (by omega) (by omega) ?_ (by decide) b3 (c2.ext x3 b3) (fun v d H' x y z g => q v d H' (x1.trans (x2.trans (x3.trans x))) y z (g.mono (by omega) (by omega)))
      exact ydu_cons hf (yd_head hf (by decide +kernel) (yd_unit hf (by decide)) (yd_one hf (yd_str (gn_str (by decide +kernel))) (by decide) (by decide) (by decide +kernel)) (by decide))
        (ydu_cons hf (yd_head hf (by decide +kernel) (yd_var (i := 3) rfl hf ak3 gk) (yd_unitT hf (by decide) (by decide +kernel)) (by decide))
        (ydu_cons hf (yd_head hf (by decide +kernel) (yd_unit hf (by decide)) (yd_unitT hf (by decide) (by decide +kernel)) (by decide)) ydu_nil))
  rintro _ _ ⟨rfl, rfl, k0⟩
  have sk := szB_step k0
  -- made
  refine ⟨fun σ H' => σ = [some (.ref f), some (.int k), some (.int r), some ik, none, none, none, none, none, none, none, none] ∧ H2 = H', ?_, ?_⟩
  · refine ⟨_, rfl, rfl, _, rfl, ite2 (fun e => ?_) (fun e => ⟨rfl, rfl⟩)⟩
    refine go_asg ?_
    refine rd_draw rfl b2 (by decide) fun j H3 j0 j1 x3 b3 => ⟨j, rfl, by omega, by omega, fun D nD => ?_⟩
    have c3 := c2.ext x3 b3
    refine yd_lc (f := f) (F := F) (H0 := H2) (Ge := Gt 6 (4 * k) (szB (k - 1))) hf x3 b3 c3 nD (by omega) (fun i hi => yd_sub (.inl hf) k0 hk hk3 rfl rfl) (fun y => rfl) (fun H4 vs ds x4 b4 eD aD lD gD => ?_)
    refine go_name (go_asg ⟨by decide, fun ph nph => go_name (go_ret ?_)⟩)
    have c4 := c3.ext x4 b4
    have s5 := same_upd (o := .tup [.str "int", .str "quote", .str "flag", .str "global", .str "made", .str "ref", .str "fun", .str "use"]) nph
    have x5 : Ext f H2 _ := (x3.trans x4).trans (Ext.same s5)
    have b5 := b4.same s5
    have c5 := c4.same s5
    have ak5 := ak.ext x5 hf
    have phf : ph ≠ f := fun z => c4.new nph (z ▸ hf)
    refine yd_head (n := 4 * k + 3) hf (by decide +kernel) (yd_unit (n := 4 * k + 2) hf (by decide)) (yd_tupLcL (K := K) (G := Gt 6 (4 * k) (szB (k - 1))) (Ge := Gt 6 (4 * k + 2) (szB (k - 1) + 1)) tupR hf rfl (.lst (c3.new nD) (s5 _ _ eD) (aD.wth.same s5)) gD (by omega) ?_ (fun y => rfl) (fun ds l g => git_kids (m := 3) (by decide +kernel) (by decide +kernel) (by omega) (by omega) g)) (by decide) _ _ Ext.refl b5 c5 (fun v d H' x y z g => q v d H' (x1.trans (x2.trans (x5.trans x))) y z (g.mono (by omega) (by omega)))
    intro D2 H6 v d x6 nD2 a6 g6 H7 Q7 x7 b7 c7 q7
    obtain ⟨h6, y6, z6, rfl⟩ := g6.hd
    obtain ⟨t6, et6, tk6, st6⟩ := g6.2
    have a7 := a6.ext x7 (.inl hf)
    cases a7 with
    | @tup pv _ _ npv epv apv =>
    cases apv with
    | cons ah at1 =>
    cases ah
    refine ⟨_, rfl, pv, _, 0, .str h6, rfl, rfl, SqT.of epv, atI_nat (j := 0) rfl, _, rfl, ph, _, rfl, .inr (SqT.of (x7 _ _ phf (x6 _ _ phf upd_same))), rfl, by decide, _, rfl, ite2 (fun e => ?_) (fun e => ?_)⟩
    · exact ⟨_, rfl, q7 _ _ H7 Ext.refl b7 (.tup npv epv (.cons (.str _) at1)) (g6.mono (by omega) (by omega))⟩
    · have ak7 : Da (Wth F D2) H6 ik dk := (ak5.ext x6 hf).avoid nD2
      refine yd_head (n := 4 * k + 1) (s := szB (k - 1)) (.inl hf) (by decide +kernel) (yd_var (i := 3) rfl (.inl hf) ak7 (gk.mono (by omega))) ((yd_tup (G := fun d => d = .tuple [.int 1, TD t6]) (.inl hf) (yda_cons (G := fun d => d = .int 1) (.inl hf) (yd_int rfl) fun d e => yda_cons (G := fun d => d = TD t6) (.inl hf) (yd_var (i := 11) rfl (.inl hf) a6 et6) fun d' e' => yda_nil ⟨(by decide : (2 : Nat) ≤ 1000), by rw [e, e']⟩)).imp fun d e => ?_) (by decide) H7 _ x7 b7 c7 (fun v d H' x y z g => q7 v d H' x y z (g.mono (by omega) (by omega)))
      rw [e]
      refine ⟨Gn.tuple (n := 4 * k) (show 2 ≤ 6 by decide) fun z hz => ?_, [.int 1], [t6], by rw [TL, TL]; rfl, by decide +kernel, fun z => absurd z (by decide +kernel), fun t ht => (List.mem_singleton.mp ht) ▸ tk6, by rw [szL, szL]; omega⟩
      rcases List.mem_cons.mp hz with z1 | z1
      · rw [z1]; exact gn_int (by decide)
      · rw [List.mem_singleton.mp z1, ← et6]; exact g6.1
  rintro _ _ ⟨rfl, rfl⟩
  -- use
  refine ⟨fun σ H' => σ = [some (.ref f), some (.int k), some (.int r), some ik, none, none, none, none, none, none, none, none] ∧ H2 = H', ?_, ?_⟩
  · refine ⟨_, rfl, _, _, rfl, rfl, _, rfl, ite2 (fun e => ?_) (fun e => ⟨rfl, rfl⟩)⟩
    refine go_asg ?_
    refine rd_draw rfl b2 (by decide) fun j H3 j0 j1 x3 b3 => go_name (go_asg ?_)
    have c3 := c2.ext x3 b3
    refine yd_tupLc (f := f) (F := F) (H0 := H3) (m := 3) (Ge := Gt 6 (4 * k) (szB (k - 1))) (G := fun d => ∃ ds, d = .tuple ds ∧ ds.length ≤ 3 ∧ ∀ z ∈ ds, Gt 6 (4 * k) (szB (k - 1)) z) tupR hf (fun H' x b c Q q => ⟨_, rfl, q j j0 (by omega) H' Ext.refl b⟩) (by decide) (fun D H1 i x nD => yd_sub (.inl hf) k0 hk hk3 rfl rfl) (fun y => rfl) (fun ds l g => ⟨ds, rfl, l, g⟩) H3 _ Ext.refl b3 c3 ?_
    rintro v4 d4 H4 x4 b4 a4 ⟨ds4, rfl, l4, g4⟩
    refine go_name (go_ret ?_)
    have c4 := c3.ext x4 b4
    have ak4 := (ak.ext x3 hf).ext x4 hf
    refine yd_head (n := 4 * k + 1) (s := 3 * szB (k - 1)) hf (by decide +kernel) (yd_var (i := 3) rfl hf ak4 (gk.mono (by omega))) (yd_catA (G1 := fun d => ∃ ds, d = .tuple ds ∧ ds.length = 2 ∧ ∀ z ∈ ds, Gn 6 (4 * k) z) (G2 := fun d => ∃ ds, d = .tuple ds ∧ ds.length ≤ 3 ∧ ∀ z ∈ ds, Gt 6 (4 * k) (szB (k - 1)) z) hf
      ((yd_tupU (G := Gn 6 (4 * k)) (m := 2) hf (ydu_cons hf (yd_pickC rfl (fun _ _ q => q) (by decide) (by decide) (by decide +kernel)) (ydu_cons hf (fun H Q x b c q => ⟨_, rfl, rd_draw (k := 0) rfl b (by decide) fun r H' r0 r1 x1 b1 => ⟨_, _, rfl, rfl, q _ (.int (j + r)) H' x1 b1 (.int _) (gn_int (by omega))⟩⟩) ydu_nil)) (by decide)).imp fun d ⟨ds, e, l, g⟩ => ⟨ds, e, by omega, ds, e, l, g⟩)
      ((yd_var (i := 8) rfl hf a4 rfl).imp fun d e => ⟨ds4, e.symm, by omega, ds4, e.symm, l4, g4⟩) ?_) (by decide) H4 _ Ext.refl b4 c4 (fun v d H' x y z g => q v d H' (x1.trans (x2.trans (x3.trans (x4.trans x)))) y z (g.mono (by omega) (by omega)))
    rintro a b ⟨_, ea, la, ga⟩ ⟨_, eb, lb, gb⟩
    cases ea
    cases eb
    obtain ⟨ts, e, a1, b1⟩ := wts b fun d hd => (gb d hd).2
    refine ⟨Gn.tuple (by rw [List.length_append]; omega) fun d hd => (List.mem_append.mp hd).elim (ga d) fun z => (gb d z).1, a, ts, by rw [e], by rw [la]; decide +kernel, fun z => absurd z (by decide +kernel), a1, Nat.le_trans b1 ?_⟩
    rw [Nat.mul_comm]
    exact Nat.mul_le_mul_right _ lb
  rintro _ _ ⟨rfl, rfl⟩
  -- fun
  refine ⟨fun σ H' => σ = [some (.ref f), some (.int k), some (.int r), some ik, none, none, none, none, none, none, none, none] ∧ H2 = H', ?_, ?_⟩
  · refine ⟨_, rfl, rfl, _, rfl, ite2 (fun e => ?_) (fun e => ⟨rfl, rfl⟩)⟩
    refine go_ret ?_
    refine yd_head (n := 4 * k + 1) (s := szB (k - 1)) hf (by decide +kernel) (yd_var (i := 3) rfl hf ak (gk.mono (by omega))) ((yd_tup (G := fun d => ∃ i d', d = .tuple [.int i, d'] ∧ 0 ≤ i ∧ Gt 6 (4 * k) (szB (k - 1)) d') hf (yda_cons (G := fun d => ∃ i : Int, d = .int i ∧ 0 ≤ i) hf (fun H Q x b c q => rd_draw rfl b (by decide) fun r H' r0 _ x1 b1 => q _ (.int r) H' x1 b1 (.int r) ⟨r, rfl, r0⟩) fun d e => yda_cons hf (yd_sub hf k0 hk hk3 rfl rfl) fun d' e' => yda_nil ⟨(by decide : (2 : Nat) ≤ 1000), ?_⟩)).imp fun d e => ?_) (by decide) H2 _ Ext.refl b2 c2 (fun v d H' x y z g => q v d H' (x1.trans (x2.trans x)) y z (g.mono (by omega) (by omega)))
    · obtain ⟨i, rfl, i0⟩ := e
      exact ⟨i, d', rfl, i0, e'⟩
    · obtain ⟨i, d', rfl, i0, g6, t6, rfl, tk6, st6⟩ := e
      refine ⟨Gn.tuple (n := 4 * k) (show 2 ≤ 6 by decide) fun z hz => ?_, [.int i], [t6], by rw [TL, TL]; rfl, (show 1 = fk _ by decide +kernel), fun z => absurd z (by decide +kernel), fun t ht => (List.mem_singleton.mp ht) ▸ tk6, by rw [szL, szL]; omega⟩
      rcases List.mem_cons.mp hz with z1 | z1
      · rw [z1]; exact gn_int (by omega)
      · rw [List.mem_singleton.mp z1]; exact g6
  rintro _ _ ⟨rfl, rfl⟩
  -- others
  refine go_asg ⟨_, rfl, rfl, fun p np => ⟨rfl, fun p2 np2 => ⟨p, p2, _, _, rfl, rfl, same_upd np2 _ _ upd_same, upd_same, by decide, fun p3 np3 => ⟨by decide, fun p4 np4 => ⟨p3, p4, _, _, rfl, rfl, same_upd np4 _ _ upd_same, upd_same, by decide, fun p5 np5 => ?_⟩⟩⟩⟩⟩
  have sm : ∀ o, Same H2 (L2.upd _ p5 o) := fun o => ((((same_upd np).trans (same_upd np2)).trans (same_upd np3)).trans (same_upd np4)).trans (same_upd np5)
  have n5 : p5 ≠ f := fun z => by
    obtain ⟨g, s, e, _⟩ := b2.same ((((same_upd np).trans (same_upd np2)).trans (same_upd np3)).trans (same_upd np4))
    rw [z, e] at np5
    cases np5
  refine ⟨f, p5, _, rfl, b2.same (sm _), n5, upd_same, by decide, by decide, fun i x H3 ex x3 b3 => ?_⟩
  obtain ⟨hd, rfl, hdk, hd0, hd1⟩ := strV_of (List.all_eq_true.mp (show List.all _ strV = true by decide +kernel) x (List.mem_of_getElem? ex))
  have x3' : Ext f H2 H3 := (Ext.same (sm _)).trans x3
  have c3 := c2.ext x3' b3
  refine go_name (go_asg ?_)
  refine ⟨fun v H' => ∃ m : Int, v = .int m ∧ Ext f H3 H' ∧ Fd f H' ∧ 0 ≤ m ∧ m ≤ 3, ?_, ?_⟩
  · intro pd npd
    refine ⟨upd_same, [(.inr "let", .int 2), (.inr "try", .int 2), (.inr "if", .int 3)], rfl, by decide, pd, rfl, .inl ⟨_, .inl upd_same⟩, _, rfl, ?_⟩
    refine ⟨_, rfl, rfl, fun q1 nq1 => ⟨q1, _, rfl, .inl (SqL.of upd_same), rfl, by decide, .inr ⟨_, rfl, _, _, rfl, rfl, .inl ⟨by decide, by decide⟩, _, rfl, rfl, fun q2 nq2 => ⟨q2, _, rfl, .inl (SqL.of upd_same), rfl, by decide, .inr ⟨_, rfl, _, _, rfl, rfl, .inl ⟨by decide, by decide⟩, _, _, rfl, rfl, ?_⟩⟩⟩⟩⟩
    refine ⟨_, .inl ⟨_, .inr hd, .inl (same_upd nq2 _ _ (same_upd nq1 _ _ upd_same)), rfl, rfl⟩, ?_⟩
    have e2 : ∀ o, Same H3 (L2.upd _ q2 o) := fun o => ((same_upd2 (u := .dK (mergeK [] [(.inr "let", .int 2), (.inr "try", .int 2), (.inr "if", .int 3)])) npd).trans (same_upd nq1)).trans (same_upd nq2)
    cases hv : valV (mergeK [] [((.inr "let" : Key), V.int 2), (.inr "try", .int 2), (.inr "if", .int 3)]) (.inr hd) with
    | none =>
      refine ⟨_, rfl, Ext.same (e2 _), b3.same (e2 _), ?_, ?_⟩
      all_goals
        have h1 := b2i_lo (inV (.str hd) (onesL.map V.str))
        have h2 := b2i_lo (inV (.str hd) (twosL.map V.str))
        show _ ≤ _
        simp only [Bool.false_eq_true, if_false]
        omega
    | some v =>
      obtain ⟨m, rfl, m0, m1⟩ := smallI_of (List.all_eq_true.mp (show List.all _ (smallI 0 3) = true by decide +kernel) v (valV_mem hv))
      exact ⟨m, rfl, Ext.same (e2 _), b3.same (e2 _), m0, m1⟩
  rintro _ H4 ⟨m, rfl, x4, b4, m0, m1⟩
  refine go_name (go_asg ?_)
  refine ⟨fun v H' => ∃ m : Int, v = .int m ∧ Ext f H4 H' ∧ Fd f H' ∧ 0 ≤ m ∧ m ≤ 4, ?_, ?_⟩
  · refine ⟨_, rfl, _, _, rfl, rfl, _, rfl, ite2 (fun e => ?_) (fun e => ?_)⟩
    · exact ⟨_, rfl, m, rfl, Ext.refl, b4, m0, by omega⟩
    · exact rd_draw rfl b4 (by decide) fun j H5 j0 j1 x5 b5 => ⟨_, _, rfl, rfl, _, rfl, x5, b5, by omega, by omega⟩
  rintro _ H5 ⟨m', rfl, x5, b5, m0', m1'⟩
  refine go_name (go_ret ?_)
  have c5 := (c3.ext x4 b4).ext x5 b5
  have ak5 := ((ak.ext x3' hf).ext x4 hf).ext x5 hf
  exact yd_headV (n := 4 * k + 1) hf rfl hdk (yd_var (i := 3) rfl hf ak5 (gk.mono (by omega))) (yd_tupLc (m := 4) (Ge := Gt 6 (4 * k) (szB (k - 1))) tupR hf (fun H' x b c Q q => ⟨_, rfl, q m' m0' (by omega) H' Ext.refl b⟩) (by decide) (fun D H1 i x nD => yd_sub (.inl hf) k0 hk hk3 rfl rfl) (fun y => rfl) (fun ds l g => git_kids (m := 4) hd0 hd1 (by omega) l g)) (by decide) H5 _ Ext.refl b5 c5 (fun v d H' x y z g => q v d H' (x1.trans (x2.trans (x3'.trans (x4.trans (x5.trans x))))) y z (g.mono (by omega) (by omega)))
theorem ok_ink (T : Top K mg) : ∀ n : Nat, FnOk P w K mg base CX0 (n + 4) T._law_inked_tree T._law_inked_tree_d ["_law_feed", "_law_deep"] (sp_ink n)
  | 0 => ink0
  | n + 1 => ink1 T (ok_ink T n)
theorem ok__law_inked_tree (T : Top K mg) : FnOk P w K mg base CX0 8 T._law_inked_tree T._law_inked_tree_d ["_law_feed", "_law_deep"] (sp_ink 4) := ok_ink T 4
end
end Sa

set_option Elab.async false
set_option linter.all false
set_option maxRecDepth 100000
set_option maxHeartbeats 4000000
namespace Sa
open PySem PySem.Spec PyProof.Rows L2
/-! ### isinstance of data -/
def tyName : PyData → String
  | .none => "NoneType"
  | .bool _ => "bool"
  | .int _ => "int"
  | .str _ => "str"
  | .list _ => "list"
  | .tuple _ => "tuple"
  | .dict _ => "dict"
theorem Da.ty {K : PySem.W.Frag} {F : AS} {H : Hp} {v : V} {d : PyData} (h : Da F H v d) : TyX K H v (.type (tyName d)) := by
  cases h with
  | non => exact .base .non
  | bl b => exact .base (.bl b)
  | int i => exact .base (.int i)
  | str x => exact .base (.str x)
  | lst _ e _ => exact .base (.lst e)
  | tup _ e _ => exact .base (.tup e)
def isTup : PyData → Bool
  | .tuple _ => true
  | _ => false
def isLst : PyData → Bool
  | .list _ => true
  | _ => false
def isBool : PyData → Bool
  | .bool _ => true
  | _ => false
theorem kit_tup (d : PyData) : kitB (tyName d) "tuple" = some (isTup d) := by cases d <;> (simp only [tyName, isTup]; decide +kernel)
theorem kit_lst (d : PyData) : kitB (tyName d) "list" = some (isLst d) := by cases d <;> (simp only [tyName, isLst]; decide +kernel)
theorem kit_bool (d : PyData) : kitB (tyName d) "bool" = some (isBool d) := by cases d <;> (simp only [tyName, isBool]; decide +kernel)
/-! ### rows of pairs -/
structure PIz (J : It) (xs ys : List V) (G : Hp → Prop) : Prop where
  go : ∀ i H, G H → i < xs.length → J.go i H
  stop : ∀ i H, G H → xs.length ≤ i → J.stop i H
  yld : ∀ i H v H', G H → J.yld i H v H' → ∃ T x y, v = .ref T ∧ H T = none ∧ H' = L2.upd H T (.tup [x, y]) ∧ xs[i]? = some x ∧ ys[i]? = some y
theorem piz_l {K : PySem.W.Frag} {a b : Addr} {xs ys : List V} (hl : xs.length = ys.length) : PIz (Itz K a b) xs ys (fun H => SqL K H a xs ∧ SqL K H b ys) :=
  ⟨fun i H g h => ⟨xs, ys, xs[i], ys[i], g.1, g.2, List.getElem?_eq_getElem h, List.getElem?_eq_getElem (by omega)⟩, fun i H g h => ⟨xs, ys, g.1, g.2, .inl h⟩, fun i H v H' g h => by
    obtain ⟨T, x, y, e1, e2, e3, f1, f2⟩ := h
    exact ⟨T, x, y, e1, e2, e3, f1 xs g.1, f2 ys g.2⟩⟩
theorem piz_t {K : PySem.W.Frag} {a b : Addr} {xs ys : List V} (hl : xs.length = ys.length) : PIz (RZ.ItzT K a b) xs ys (fun H => SqT K H a xs ∧ SqT K H b ys) :=
  ⟨fun i H g h => ⟨xs, ys, xs[i], ys[i], g.1, g.2, List.getElem?_eq_getElem h, List.getElem?_eq_getElem (by omega)⟩, fun i H g h => ⟨xs, ys, g.1, g.2, .inl h⟩, fun i H v H' g h => by
    obtain ⟨T, x, y, e1, e2, e3, f1, f2⟩ := h
    exact ⟨T, x, y, e1, e2, e3, f1 xs g.1, f2 ys g.2⟩⟩
theorem lcZ {K : PySem.W.Frag} {J : It} {xs ys : List V} {G : Hp → Prop} (pi : PIz J xs ys G) {σ : L2.St} {j k : Nat} {te : TE} {H1 : Hp} {D : Addr} {Qd : Hp → Prop} (out : List V) (ho : out.length = xs.length) (hl : xs.length < sizeLine) (nD : H1 D = none) (hG : ∀ H', Same H1 H' → G H')
    (he : ∀ (i : Nat) x y z H, xs[i]? = some x → ys[i]? = some y → out[i]? = some z → Same H1 H → ∀ Q : VK, (∀ H', Same H H' → Q z H') → te (((wipe σ [j, k]).set j (some x)).set k (some y)) H Q)
    (hw : ∀ x y, wipe (((wipe σ [j, k]).set j x).set k y) [j, k] = wipe σ [j, k]) (q : ∀ H', Same H1 H' → H' D = some (.lst out) → Qd H') :
    ∃ W : Nat → Nat → Hp → Prop, (∃ m, W 0 m (L2.upd H1 D (.lst []))) ∧ ∀ i m H, W i m H →
      (J.stop i H ∧ Qd H) ∨ (J.go i H ∧ ∃ Nx : Hp → Prop, (∀ H', Nx H' → ∃ m', m' < m ∧ W (i + 1) m' H') ∧ ∀ x H', J.yld i H x H' → gTup K 2 (gCons (gName j) (gCons (gName k) gNil)) x (wipe σ [j, k]) H' fun σ2 H2 => wipe σ2 [j, k] = wipe σ [j, k] ∧ tYes σ2 H2 fun b H3 =>
        if b = true then te σ2 H3 fun y H4 => ∃ acc, H4 D = some (.lst acc) ∧ acc.length < sizeLine ∧ Nx (L2.upd H4 D (.lst (acc ++ [y]))) else Nx H3) := by
  refine ⟨fun i m H => i + m = xs.length ∧ Same H1 H ∧ H D = some (.lst (out.take i)), ⟨xs.length, by omega, same_upd nD, upd_same⟩, ?_⟩
  rintro i m H ⟨hm, sm, eD⟩
  by_cases hi : i < xs.length
  · refine .inr ⟨pi.go i H (hG H sm) hi, fun H' => Same H1 H' ∧ H' D = some (.lst (out.take (i + 1))), fun H' h => ⟨m - 1, by omega, by omega, h⟩, fun x H' hy => ?_⟩
    obtain ⟨T, x, y, rfl, nT, rfl, ex, ey⟩ := pi.yld i H x H' (hG H sm) hy
    have eo : out[i]? = some out[i] := List.getElem?_eq_getElem (by omega)
    have s2 : Same H (L2.upd H T (.tup [x, y])) := same_upd nT
    refine ⟨T, [x, y], rfl, SqT.of upd_same, rfl, x, [y], rfl, y, [], rfl, rfl, hw _ _, he i x y _ _ ex ey eo (sm.trans s2) _ fun H4 s4 => ?_⟩
    have s5 := s2.trans s4
    refine ⟨_, s5 _ _ eD, by rw [List.length_take]; omega, fun b o e => ?_, ?_⟩
    · rw [upd_ne (ne_of_none e nD)]
      exact s5 _ _ (sm _ _ e)
    · rw [upd_same, List.take_add_one, eo]
      rfl
  · refine .inl ⟨pi.stop i H (hG H sm) (by omega), q H sm ?_⟩
    rw [eD, List.take_of_length_le (by omega)]
/-! ### same data -/
section
variable {P : Program} {w : World} {K : PySem.W.Frag} {mg : Str → Option Value} {base : Heap}
def leaf : PyData → Bool
  | .none | .bool _ | .int _ | .str _ => true
  | _ => false
theorem kit_seq (d : PyData) : PySem.W.kitAny K (.type (tyName d)) [.type "tuple", .type "list"] = some (isTup d || isLst d) := by
  refine kitAny_cons (kit_ty (kit_tup d)) (fun z => kitAny_cons (kit_ty (kit_lst d)) (fun y => ?_) fun y => ?_) fun z => ?_
  · rw [z, y]; rfl
  · rw [z, y]; rfl
  · rw [z]; rfl
theorem ifSo {A B : Prop} {c : Bool} (e : c = true) (h : A) : if c = true then A else B := by
  rw [if_pos e]; exact h
theorem ifNo {A B : Prop} {c : Bool} (e : c = false) (h : B) : if c = true then A else B := by
  subst e
  rw [if_neg Bool.false_ne_true]; exact h
theorem rep_at {α : Type} {n i : Nat} {a b : α} (h : (List.replicate n a)[i]? = some b) : b = a := List.eq_of_mem_replicate (List.mem_of_getElem? h)
theorem rep_map {n : Nat} : List.replicate n (V.bl true) = (List.replicate n true).map V.bl := by rw [List.map_replicate]
theorem rep_all {n : Nat} : (List.replicate n true).all id = true := by simp
theorem leaf_eqv {d : PyData} (h : leaf d = true) : PyData.eqv d d = true := by
  cases d with
  | none => simp [PyData.eqv]
  | bool b => simp [PyData.eqv]
  | int i => simp [PyData.eqv]
  | str x => simp [PyData.eqv]
  | list _ => cases h
  | tuple _ => cases h
  | dict _ => cases h
def sp_same (n : Nat) : Sp := fun vs H Q _ => ∃ (F F' : AS) (v u : V) (d : PyData) (w m : Nat), vs = [v, u] ∧ Da F H v d ∧ Da F' H u d ∧ Gn w m d ∧ m < n ∧ m ≤ 60 ∧ w ≤ 1000 ∧ ∀ H', Same H H' → Q (.bl true) H'
theorem same0 {f : Addr} {fd : FuncData} : FnOk P w K mg base CX0 0 f fd ["_law_found", "_law_due"] (sp_same 0) :=
  ⟨fun vs H Q E h => by obtain ⟨F, F', v, u, d, w, m, _, _, _, _, h, _⟩ := h; omega, fun A outer s H args us vs Q E _ _ _ _ h => by obtain ⟨F, F', v, u, d, w, m, _, _, _, _, h, _⟩ := h; omega⟩
theorem same1 (T : Top K mg) {n : Nat} (IH : FnOk P w K mg base CX0 n T._law_same T._law_same_d ["_law_found", "_law_due"] (sp_same n)) :
    FnOk P w K mg base CX0 (n + 1) T._law_same T._law_same_d ["_law_found", "_law_due"] (sp_same (n + 1)) := by
  refine T._law_same_f.ok sc__law_same (fun vs H Q E h => ?_) (fun cdv A outer s H vs Q E hr h => ?_)
  · obtain ⟨F, F', v, u, d, w, m, rfl, _⟩ := h
    rfl
  obtain ⟨F, F', v, u, d, w', m, rfl, ha, hb, hg, hm, hm60, hw, q⟩ := h
  -- slots: 0 _law_found, 1 _law_due, 2 _law_one, 3 _law_other
  refine ⟨_, (pss_cons (ps_if (pt_val (pe_callB call_isiT (by rfl) T.isinstance_n (by decide +kernel) (pa_cons (pv 1) (pa_cons (pe_tup (pa_cons (pe_bltn (v := .ty "tuple") (u := .type "tuple") (by rfl) T.tuple_n (by decide +kernel) rfl) (pa_cons (pe_bltn (v := .ty "list") (u := .type "list") (by rfl) T.list_n (by decide +kernel) rfl) pa_nil))) pa_nil)))) (pss_cons (ps_if (PW.pt (pw_or (pt_cmpR op_ne (pe_callB call_isi (by rfl) T.isinstance_n (by decide +kernel) (pa_cons (pv 0) (pa_cons (pe_bltn (v := .ty "tuple") (u := .type "tuple") (by rfl) T.tuple_n (by decide +kernel) rfl) pa_nil))) (pe_callB call_isi (by rfl) T.isinstance_n (by decide +kernel) (pa_cons (pv 1) (pa_cons (pe_bltn (v := .ty "tuple") (u := .type "tuple") (by rfl) T.tuple_n (by decide +kernel) rfl) pa_nil))) (nomark _)) (pw_or1 (pt_cmpR op_ne (pe_callB call_isi (by rfl) T.isinstance_n (by decide +kernel) (pa_cons (pv 0) (pa_cons (pe_bltn (v := .ty "list") (u := .type "list") (by rfl) T.list_n (by decide +kernel) rfl) pa_nil))) (pe_callB call_isi (by rfl) T.isinstance_n (by decide +kernel) (pa_cons (pv 1) (pa_cons (pe_bltn (v := .ty "list") (u := .type "list") (by rfl) T.list_n (by decide +kernel) rfl) pa_nil))) (nomark _))))) (pss_one (ps_ret pe_bl)) pss_nil)
      (pss_one (ps_ret (pe_and (pe_cmpR op_eq (pe_callB call_len_seq (by rfl) T.len_n (by decide +kernel) (pa_cons (pv 0) pa_nil)) (pe_callB call_len_seq (by rfl) T.len_n (by decide +kernel) (pa_cons (pv 1) pa_nil)) (nomark _)) (pe_one (pe_callB (cr_all rfl) (by rfl) T.all_n (by decide +kernel) (pa_cons (pe_lc (own := [("_law_one", 2), ("_law_other", 3)]) (g := (gTup K 2 (gCons (gName 2) (gCons (gName 3) gNil)))) (tt := tYes) (by rfl) sc__law_same.nd (RZ.pi_zipA (by rfl) T.zip_n (pa_cons (pv 0) (pa_cons (pv 1) pa_nil))) (blkOk_by (own := [("_law_one", 2), ("_law_other", 3)]) (N := ["_law_found", "_law_due", "_law_one", "_law_other"]) (sc := defScope s__law_same) (by decide +kernel)) (fun _ _ _ _ _ => (pg_tup rfl (pgs_cons (pg_name (i := 2) sc__law_same.nd rfl (.inl rfl)) (pgs_cons (pg_name (i := 3) sc__law_same.nd rfl (.inl rfl)) pgs_nil)))) (fun _ _ _ _ _ => pts_nil) (fun _ _ _ _ _ => (pe_call IH hr rfl T._law_same_g T._law_same_k T._law_same_b .nil pass0 (pa_cons (pv 2) (pa_cons (pv 3) pa_nil))))) pa_nil))))))) pss_nil)
      (pss_one (ps_ret (pe_and (pe_cmpR op_eq (pe_callB call_isi (by rfl) T.isinstance_n (by decide +kernel) (pa_cons (pv 0) (pa_cons (pe_bltn (v := .ty "bool") (u := .type "bool") (by rfl) T.bool_n (by decide +kernel) rfl) pa_nil))) (pe_callB call_isi (by rfl) T.isinstance_n (by decide +kernel) (pa_cons (pv 1) (pa_cons (pe_bltn (v := .ty "bool") (u := .type "bool") (by rfl) T.bool_n (by decide +kernel) rfl) pa_nil))) (nomark _)) (pe_one (pe_cmpR (op_eqD hr.units) (pv 0) (pv 1) (nomark _))))))), ?_⟩
  refine ⟨_, rfl, by decide, fun p np => ?_⟩
  have s1 := same_upd (o := .tup [.ty "tuple", .ty "list"]) np
  have ha1 := ha.same s1
  have hb1 := hb.same s1
  refine ⟨_, p, _, _, [.type "tuple", .type "list"], _, rfl, upd_same, .cons (.ty _) (.cons (.ty _) .nil), hb1.ty, kit_seq d, _, rfl, ?_⟩
  by_cases hl : leaf d = true
  · have e0 : (isTup d || isLst d) = false := by cases d <;> first | rfl | cases hl
    refine ifNo e0 ?_
    refine ⟨_, rfl, _, _, _, _, _, rfl, .ty _, ha1.ty, kit_ty (kit_bool d), _, rfl, _, _, _, _, _, rfl, .ty _, hb1.ty, kit_ty (kit_bool d), rfl, _, rfl, ifSo (decide_eq_true rfl) ⟨_, rfl, _, rfl, d, d, ha1.dp _ _, hb1.dp _ _, hg.shaped (by omega), hg.shaped (by omega), ?_⟩⟩
    rw [leaf_eqv hl]
    exact q _ s1
  cases d with
  | none => exact absurd rfl hl
  | bool _ => exact absurd rfl hl
  | int _ => exact absurd rfl hl
  | str _ => exact absurd rfl hl
  | dict _ => cases ha
  | list ds =>
    cases ha1 with
    | @lst a xs _ nF ea al =>
    cases hb1 with
    | @lst b ys _ nF' eb bl =>
    have l1 := al.length
    have l2 := bl.length
    obtain ⟨lw, m0, hk⟩ := hg.list_inv
    refine ifSo rfl ?_
    refine ⟨_, rfl, _, _, _, _, _, rfl, .ty _, .base (.lst ea), kit_ty (kit_tup (.list ds)), _, rfl, _, _, _, _, _, rfl, .ty _, .base (.lst eb), kit_ty (kit_tup (.list ds)), rfl, _, rfl, ifNo rfl ?_⟩
    refine ⟨_, rfl, _, _, _, _, _, rfl, .ty _, .base (.lst ea), kit_ty (kit_lst (.list ds)), _, rfl, _, _, _, _, _, rfl, .ty _, .base (.lst eb), kit_ty (kit_lst (.list ds)), rfl, _, rfl, ifNo rfl ?_⟩
    refine ⟨_, rfl, a, xs, rfl, .inl (SqL.of ea), _, rfl, b, ys, rfl, .inl (SqL.of eb), rfl, _, rfl, ifSo (decide_eq_true (by rw [l1, l2])) ?_⟩
    refine ⟨_, rfl, _, rfl, a, b, xs, ys, rfl, .inl ⟨SqL.of ea, SqL.of eb, fun D nD => ?_⟩⟩
    refine lcZ (piz_l (l1.trans l2.symm)) (j := 2) (k := 3) (List.replicate xs.length (V.bl true)) List.length_replicate (small1000 (by omega)) nD (fun H' s2 => ⟨SqL.of (s2 _ _ ea), SqL.of (s2 _ _ eb)⟩) (fun i x y z H' ex ey ez s2 Q' q' => ?_) (fun x y => rfl) (fun H' s2 eD => ?_)
    · obtain rfl := rep_at ez
      obtain ⟨dx, ed, ax⟩ := al.get ex
      obtain ⟨dy, ed', ay⟩ := bl.get ey
      rw [ed] at ed'
      cases ed'
      exact ⟨_, rfl, _, rfl, F, F', x, y, dx, w', m - 1, rfl, ax.same s2, ay.same s2, hk _ (List.mem_of_getElem? ed), by omega, by omega, hw, q'⟩
    · refine ⟨D, List.replicate xs.length true, rfl, SqL.of (by rw [eD, rep_map]), ?_⟩
      rw [rep_all]
      exact q _ (s1.trans s2)
  | tuple ds =>
    cases ha1 with
    | @tup a xs _ nF ea al =>
    cases hb1 with
    | @tup b ys _ nF' eb bl =>
    have l1 := al.length
    have l2 := bl.length
    obtain ⟨lw, m0, hk⟩ := hg.tuple_inv
    refine ifSo rfl ?_
    refine ⟨_, rfl, _, _, _, _, _, rfl, .ty _, .base (.tup ea), kit_ty (kit_tup (.tuple ds)), _, rfl, _, _, _, _, _, rfl, .ty _, .base (.tup eb), kit_ty (kit_tup (.tuple ds)), rfl, _, rfl, ifNo rfl ?_⟩
    refine ⟨_, rfl, _, _, _, _, _, rfl, .ty _, .base (.tup ea), kit_ty (kit_lst (.tuple ds)), _, rfl, _, _, _, _, _, rfl, .ty _, .base (.tup eb), kit_ty (kit_lst (.tuple ds)), rfl, _, rfl, ifNo rfl ?_⟩
    refine ⟨_, rfl, a, xs, rfl, .inr (SqT.of ea), _, rfl, b, ys, rfl, .inr (SqT.of eb), rfl, _, rfl, ifSo (decide_eq_true (by rw [l1, l2])) ?_⟩
    refine ⟨_, rfl, _, rfl, a, b, xs, ys, rfl, .inr ⟨SqT.of ea, SqT.of eb, fun D nD => ?_⟩⟩
    refine lcZ (piz_t (l1.trans l2.symm)) (j := 2) (k := 3) (List.replicate xs.length (V.bl true)) List.length_replicate (small1000 (by omega)) nD (fun H' s2 => ⟨SqT.of (s2 _ _ ea), SqT.of (s2 _ _ eb)⟩) (fun i x y z H' ex ey ez s2 Q' q' => ?_) (fun x y => rfl) (fun H' s2 eD => ?_)
    · obtain rfl := rep_at ez
      obtain ⟨dx, ed, ax⟩ := al.get ex
      obtain ⟨dy, ed', ay⟩ := bl.get ey
      rw [ed] at ed'
      cases ed'
      exact ⟨_, rfl, _, rfl, F, F', x, y, dx, w', m - 1, rfl, ax.same s2, ay.same s2, hk _ (List.mem_of_getElem? ed), by omega, by omega, hw, q'⟩
    · refine ⟨D, List.replicate xs.length true, rfl, SqL.of (by rw [eD, rep_map]), ?_⟩
      rw [rep_all]
      exact q _ (s1.trans s2)
theorem ok_same (T : Top K mg) : ∀ n : Nat, FnOk P w K mg base CX0 n T._law_same T._law_same_d ["_law_found", "_law_due"] (sp_same n)
  | 0 => same0
  | n + 1 => same1 T (ok_same T n)
end
end Sa

set_option Elab.async false
set_option linter.all false
set_option maxRecDepth 100000
set_option maxHeartbeats 4000000
namespace Sa
open PySem PySem.Spec PyProof.Rows L2
/-! ### cuts and sums of tuples of data -/
theorem cutA_from (xs : List V) (k : Nat) : cutV xs (some (k : Int)) none = xs.drop k := by
  unfold cutV
  rw [HT.sIx_none, HT.sIx_nat]
  by_cases h : k ≤ xs.length
  · rw [Nat.min_eq_left h]
    exact List.take_of_length_le (by rw [List.length_drop]; omega)
  · rw [Nat.min_eq_right (by omega), List.drop_length, List.drop_eq_nil_of_le (by omega), List.take_nil]
theorem cutA_to (xs : List V) (k : Nat) : cutV xs none (some (k : Int)) = xs.take k := by
  unfold cutV
  rw [HT.sIx_none, HT.sIx_nat, List.drop_zero, Nat.sub_zero]
  by_cases h : k ≤ xs.length
  · rw [Nat.min_eq_left h]
  · rw [Nat.min_eq_right (by omega), List.take_length, List.take_of_length_le (by omega)]
theorem cutA_all {xs : List V} {lo hi : Option Int} (h : HT.sIx xs.length 0 lo = 0 ∧ HT.sIx xs.length xs.length hi = xs.length) : cutV xs lo hi = xs := by
  unfold cutV
  rw [h.1, h.2, List.drop_zero, Nat.sub_zero, List.take_length]
section
variable {K : PySem.W.Frag} {F : AS} {H : Hp} {q : Addr} {xs : List V} {ds : List PyData} {Q : VK}
theorem rsl_any {lo hi : Option Int} {es : List PyData} (hT : Trk F H) (nF : ¬ F q) (e : H q = some (.tup xs)) (al : DaAll F H (cutV xs lo hi) es) (h : ∀ v H', Same H H' → Da F H' v (.tuple es) → Q v H') : rSlA K (.ref q) lo hi H Q := by
  refine ⟨q, xs, rfl, SqT.of e, fun z => ?_, fun z p np => ?_⟩
  · rw [cutA_all z] at al
    exact h _ H (Same.refl _) (.tup nF e al)
  · have s := same_upd (o := .tup (cutV xs lo hi)) np
    exact h _ _ s (.tup (hT.new np) upd_same (al.same s))
theorem rsl_from {k : Nat} (hT : Trk F H) (nF : ¬ F q) (e : H q = some (.tup xs)) (al : DaAll F H xs ds) (h : ∀ v H', Same H H' → Da F H' v (.tuple (ds.drop k)) → Q v H') : rSlA K (.ref q) (some (k : Int)) none H Q :=
  rsl_any hT nF e (by rw [cutA_from]; exact al.drop k) h
theorem rsl_to {k : Nat} (hT : Trk F H) (nF : ¬ F q) (e : H q = some (.tup xs)) (al : DaAll F H xs ds) (h : ∀ v H', Same H H' → Da F H' v (.tuple (ds.take k)) → Q v H') : rSlA K (.ref q) none (some (k : Int)) H Q :=
  rsl_any hT nF e (by rw [cutA_to]; exact al.take k) h
theorem rcat {v1 v2 : V} {d1 d2 : List PyData} (hT : Trk F H) (a1 : Da F H v1 (.tuple d1)) (a2 : Da F H v2 (.tuple d2)) (hl : d1.length + d2.length ≤ sizeLine) (h : ∀ v H', Same H H' → Da F H' v (.tuple (d1 ++ d2)) → Q v H') : rCatA K v1 v2 H Q := by
  cases a1 with
  | @tup p1 xs1 _ n1 e1 al1 =>
  cases a2 with
  | @tup p2 xs2 _ n2 e2 al2 =>
  have z1 := al1.length
  have z2 := al2.length
  refine ⟨p1, p2, xs1, xs2, rfl, rfl, SqT.of e1, SqT.of e2, by omega, fun z => ?_, fun z y => ?_, fun z y p np => ?_⟩
  · have : d1 = [] := List.eq_nil_of_length_eq_zero (by rw [← z1, z]; rfl)
    subst this
    exact h _ H (Same.refl _) (.tup n2 e2 al2)
  · have : d2 = [] := List.eq_nil_of_length_eq_zero (by rw [← z2, y]; rfl)
    subst this
    rw [List.append_nil] at h
    exact h _ H (Same.refl _) (.tup n1 e1 al1)
  · have s : Same H (L2.upd H p (.tup (xs1 ++ xs2))) := same_upd np
    exact h _ _ s (.tup (hT.new np) upd_same ((al1.append al2).same s))
end
/-! ### nodes in the heap -/
theorem Da.node {F : AS} {H : Hp} {v : V} {h : Str} {ink pre : List PyData} {kids : List Tr} (a : Da F H v (TD (.nd h ink pre kids))) :
    ∃ p vi q xs, v = .ref p ∧ ¬ F p ∧ H p = some (.tup [.str h, vi, .ref q]) ∧ Da F H vi (.tuple ink) ∧ ¬ F q ∧ H q = some (.tup xs) ∧ DaAll F H xs (pre ++ TL kids) := by
  rw [TD] at a
  cases a with
  | @tup p ys _ nF e al =>
  cases al with
  | cons a1 al =>
  cases al with
  | cons a2 al =>
  cases al with
  | cons a3 al =>
  cases al
  cases a1
  cases a3 with
  | @tup q xs _ nq eq aq => exact ⟨p, _, q, xs, rfl, nF, e, a2, nq, eq, aq⟩
theorem Da.mkNode {F : AS} {H : Hp} {p q : Addr} {vi : V} {h : Str} {ink pre : List PyData} {kids : List Tr} (nF : ¬ F p) (e : H p = some (.tup [.str h, vi, .ref q])) (a : Da F H vi (.tuple ink)) (b : Da F H (.ref q) (.tuple (pre ++ TL kids))) : Da F H (.ref p) (TD (.nd h ink pre kids)) := by
  rw [TD]
  exact .tup nF e (.cons (.str h) (.cons a (.cons b .nil)))
theorem fk_items {h : Str} {pre : List PyData} {ink : List PyData} {kids : List Tr} (t : tok (.nd h ink pre kids) = true) : (pre ++ TL kids).drop (fk h) = TL kids ∧ (pre ++ TL kids).take (fk h) = pre := by
  obtain ⟨a, _, _⟩ := tok_inv t
  rw [← a]
  exact ⟨List.drop_left, List.take_left⟩
section
variable {P : Program} {w : World} {K : PySem.W.Frag} {mg : Str → Option Value} {base : Heap}
/-! ### first_kid -/
theorem eqV_str {x y : Str} : eqV (.str x) (.str y) = (x == y) := by
  unfold eqV
  rfl
theorem inV_strs {x : Str} : ∀ {l : List Str}, inV (.str x) (l.map V.str) = l.contains x
  | [] => rfl
  | y :: l => by
    have ih := inV_strs (x := x) (l := l)
    unfold inV at ih ⊢
    rw [List.map_cons, List.any_cons, ih, List.contains_cons, eqV_str]
    congr 1
    by_cases h : y = x
    · rw [h]
    · have h' : x ≠ y := fun z => h z.symm
      rw [beq_eq_false_iff_ne.mpr h, beq_eq_false_iff_ne.mpr h']
def firstK (h : Str) (n : Nat) : Nat := if h = "fun" then 1 else if h = "use" then 2 else if atoms.contains h = true then n else 0
def sp_first : Sp := fun vs H Q _ => ∃ (F : AS) (h : Str) (v : V) (ds : List PyData), vs = [.str h, v] ∧ Da F H v (.tuple ds) ∧ ∀ H', Same H H' → Q (.int (firstK h ds.length)) H'
theorem ok_first_kid (T : Top K mg) : FnOk P w K mg base CX0 1 T.first_kid T.first_kid_d ["head", "items"] sp_first := by
  refine T.first_kid_f.ok sc_first_kid (fun vs H Q E h => ?_) (fun cdv A outer s H vs Q E hr h => ?_)
  · obtain ⟨F, h, v, ds, rfl, _⟩ := h
    rfl
  obtain ⟨F, h, v, ds, rfl, ha, q⟩ := h
  -- slots: 0 head, 1 items
  refine ⟨_, (pss_cons (ps_if (pt_cmpR op_eq (pv 0) pe_str (nomark _)) (pss_one (ps_ret pe_int)) pss_nil)
      (pss_cons (ps_if (pt_cmpR op_eq (pv 0) pe_str (nomark _)) (pss_one (ps_ret pe_int)) pss_nil)
      (pss_one (ps_ret (pe_ifExp (pt_cmpR op_in_seq (pv 0) (pe_tup (pa_cons pe_str (pa_cons pe_str (pa_cons pe_str (pa_cons pe_str (pa_cons pe_str (pa_cons pe_str pa_nil))))))) (by rfl)) (pe_callB call_len_seq (by rfl) T.len_n (by decide +kernel) (pa_cons (pv 1) pa_nil)) pe_int))))), ?_⟩
  unfold firstK at q
  refine ⟨_, rfl, rfl, _, rfl, ite2 (fun e => ?_) (fun e => ?_)⟩
  · rw [if_pos (V.str.inj (of_decide_eq_true e))] at q
    exact q H (Same.refl _)
  rw [if_neg (fun z => e (decide_eq_true (congrArg V.str z)))] at q
  refine ⟨_, rfl, rfl, _, rfl, ite2 (fun e => ?_) (fun e => ?_)⟩
  · rw [if_pos (V.str.inj (of_decide_eq_true e))] at q
    exact q H (Same.refl _)
  rw [if_neg (fun z => e (decide_eq_true (congrArg V.str z)))] at q
  refine ⟨_, rfl, by decide, fun p np => ⟨p, _, rfl, .inr (SqT.of upd_same), rfl, by decide, _, rfl, ite2 (fun e => ?_) (fun e => ?_)⟩⟩
  · have e' : atoms.contains h = true := by rw [← inV_strs]; exact e
    rw [if_pos e'] at q
    cases ha with
    | @tup px xs _ nF ep al =>
    refine ⟨_, rfl, px, xs, rfl, .inr (SqT.of (same_upd np _ _ ep)), ?_⟩
    rw [al.length]
    exact q _ (same_upd np)
  · have e' : ¬ atoms.contains h = true := by rw [← inV_strs]; exact e
    rw [if_neg e'] at q
    exact q _ (same_upd np)
theorem firstK_fk {h : Str} {ink pre : List PyData} {kids : List Tr} (t : tok (.nd h ink pre kids) = true) : firstK h (pre ++ TL kids).length = fk h := by
  obtain ⟨a, b, _⟩ := tok_inv t
  unfold firstK
  by_cases h1 : h = "fun"
  · rw [if_pos h1]; unfold fk; rw [if_pos h1]
  rw [if_neg h1]
  by_cases h2 : h = "use"
  · rw [if_pos h2]; unfold fk; rw [if_neg h1, if_pos h2]
  rw [if_neg h2]
  by_cases h3 : atoms.contains h = true
  · rw [if_pos h3, b h3, TL, List.append_nil, a]
  · rw [if_neg h3]; unfold fk; rw [if_neg h1, if_neg h2, if_neg h3]
/-! ### kids_of, remade -/
def sp_kids : Sp := fun vs H Q _ => ∃ (F : AS) (h : Str) (ink pre : List PyData) (kids : List Tr) (v : V), vs = [v] ∧ Trk F H ∧ tok (.nd h ink pre kids) = true ∧ Da F H v (TD (.nd h ink pre kids)) ∧ ∀ v' H', Same H H' → Da F H' v' (.tuple (TL kids)) → Q v' H'
theorem ok_kids_of (T : Top K mg) : FnOk P w K mg base CX0 2 T.kids_of T.kids_of_d ["tree"] sp_kids := by
  refine T.kids_of_f.ok sc_kids_of (fun vs H Q E h => ?_) (fun cdv A outer s H vs Q E hr h => ?_)
  · obtain ⟨F, h, ink, pre, kids, v, rfl, _⟩ := h
    rfl
  obtain ⟨F, h, ink, pre, kids, v, rfl, hT, ht, ha, q⟩ := h
  -- slots: 0 tree
  refine ⟨_, (pss_one (ps_ret (pe_slice sl_tupA (pe_ix ix_tup (pv 0) pe_int (fun _ _ => rfl)) (po_some (pe_call (ok_first_kid T) (hr.mono (by decide)) rfl T.first_kid_g T.first_kid_k T.first_kid_b .nil pass0 (pa_cons (pe_ix ix_tup (pv 0) pe_int (fun _ _ => rfl)) (pa_cons (pe_ix ix_tup (pv 0) pe_int (fun _ _ => rfl)) pa_nil)))) po_none))), ?_⟩
  obtain ⟨p, vi, qa, xs, rfl, nF, ep, ai, nq, eq, al⟩ := ha.node
  refine ⟨_, rfl, p, _, 2, .ref qa, rfl, rfl, SqT.of ep, atI_nat (j := 2) rfl, ?_⟩
  refine ⟨_, rfl, p, _, 0, .str h, rfl, rfl, SqT.of ep, atI_nat (j := 0) rfl, _, rfl, p, _, 2, .ref qa, rfl, rfl, SqT.of ep, atI_nat (j := 2) rfl, ?_⟩
  refine ⟨F, h, _, _, rfl, .tup nq eq al, fun H1 s1 => ⟨_, rfl, ?_⟩⟩
  rw [firstK_fk ht]
  refine rsl_from (hT.same s1) nq (s1 _ _ eq) (al.same s1) fun v' H' s2 a2 => q v' H' (s1.trans s2) ?_
  rw [(fk_items ht).1] at a2
  exact a2
def sp_remade : Sp := fun vs H Q _ => ∃ (F : AS) (h : Str) (ink pre : List PyData) (kids ks : List Tr) (v : V) (l : Addr) (xs : List V), vs = [v, .ref l] ∧ Trk F H ∧ tok (.nd h ink pre kids) = true ∧ Da F H v (TD (.nd h ink pre kids)) ∧
  H l = some (.lst xs) ∧ DaAll F H xs (TL ks) ∧ pre.length + ks.length ≤ sizeLine ∧ ∀ p vi q H', Same H H' → H' p = some (.tup [.str h, vi, .ref q]) → ¬ F p → Da F H' vi (.tuple ink) → Da F H' (.ref q) (.tuple (pre ++ TL ks)) → Q (.ref p) H'
theorem ok_remade (T : Top K mg) : FnOk P w K mg base CX0 2 T.remade T.remade_d ["tree", "kids"] sp_remade := by
  refine T.remade_f.ok sc_remade (fun vs H Q E h => ?_) (fun cdv A outer s H vs Q E hr h => ?_)
  · obtain ⟨F, h, ink, pre, kids, ks, v, l, xs, rfl, _⟩ := h
    rfl
  obtain ⟨F, h, ink, pre, kids, ks, v, l, xk, rfl, hT, ht, ha, el, ak, hl, q⟩ := h
  -- slots: 0 tree, 1 kids
  refine ⟨_, (pss_one (ps_ret (pe_tup (pa_cons (pe_ix ix_tup (pv 0) pe_int (fun _ _ => rfl)) (pa_cons (pe_ix ix_tup (pv 0) pe_int (fun _ _ => rfl)) (pa_cons (pe_op op_catA (pe_slice sl_tupA (pe_ix ix_tup (pv 0) pe_int (fun _ _ => rfl)) po_none (po_some (pe_call (ok_first_kid T) (hr.mono (by decide)) rfl T.first_kid_g T.first_kid_k T.first_kid_b .nil pass0 (pa_cons (pe_ix ix_tup (pv 0) pe_int (fun _ _ => rfl)) (pa_cons (pe_ix ix_tup (pv 0) pe_int (fun _ _ => rfl)) pa_nil))))) (pe_callTy call_tuple_of (by rfl) T.tuple_n (by decide +kernel) (pa_cons (pv 1) pa_nil))) pa_nil)))))), ?_⟩
  obtain ⟨p, vi, qa, xs, rfl, nF, ep, ai, nq, eq, al⟩ := ha.node
  refine ⟨_, rfl, p, _, 0, .str h, rfl, rfl, SqT.of ep, atI_nat (j := 0) rfl, ?_⟩
  refine ⟨_, rfl, p, _, 1, vi, rfl, rfl, SqT.of ep, atI_nat (j := 1) rfl, ?_⟩
  refine ⟨_, rfl, p, _, 2, .ref qa, rfl, rfl, SqT.of ep, atI_nat (j := 2) rfl, ?_⟩
  refine ⟨_, rfl, p, _, 0, .str h, rfl, rfl, SqT.of ep, atI_nat (j := 0) rfl, _, rfl, p, _, 2, .ref qa, rfl, rfl, SqT.of ep, atI_nat (j := 2) rfl, ?_⟩
  refine ⟨F, h, _, _, rfl, .tup nq eq al, fun H1 s1 => ⟨_, rfl, ?_⟩⟩
  rw [firstK_fk ht]
  refine rsl_to (hT.same s1) nq (s1 _ _ eq) (al.same s1) fun v' H2 s2 a2 => ⟨_, rfl, l, xk, rfl, .inl ⟨SqL.of (s2 _ _ (s1 _ _ el)), fun l2 nl2 => ?_⟩⟩
  have s3 := same_upd (o := .tup xk) nl2
  have hT2 := (hT.same s1).same s2
  rw [(fk_items ht).2] at a2
  refine rcat (hT2.same s3) (a2.same s3) (.tup (hT2.new nl2) upd_same (((ak.same s1).same s2).same s3)) (by rw [TL_length]; exact hl) fun v4 H4 s4 a4 => ⟨(show 3 ≤ sizeLine by decide), fun p5 np5 => ?_⟩
  have s5 := same_upd (o := .tup [.str h, vi, v4]) np5
  have sm : Same H _ := (((s1.trans s2).trans s3).trans s4).trans s5
  cases a4 with
  | tup n4 e4 al4 =>
  exact q p5 vi _ _ sm upd_same (((hT2.same s3).same s4).new np5) (ai.same sm) (.tup n4 (s5 _ _ e4) (al4.same s5))
/-! ### subtree -/
def sp_sub : Sp := fun vs H Q _ => ∃ (F : AS) (t n : Tr) (r : List Nat) (v : V) (vp : V), vs = [v, vp] ∧ tok t = true ∧ Da F H v (TD t) ∧ Da F H vp (pD r) ∧ sub r t = some n ∧ ∀ v', Da F H v' (TD n) → Q v' H
theorem get_kid {F : AS} {H : Hp} {xs : List V} {h : Str} {ink pre : List PyData} {kids : List Tr} {j : Nat} {k : Tr} (ht : tok (.nd h ink pre kids) = true) (al : DaAll F H xs (pre ++ TL kids)) (e : kids[j]? = some k) : ∃ v, xs[fk h + j]? = some v ∧ Da F H v (TD k) := by
  have hl := al.length
  obtain ⟨a, _, _⟩ := tok_inv ht
  have ed : (pre ++ TL kids)[fk h + j]? = some (TD k) := by
    rw [← a, List.getElem?_append_right (by omega), Nat.add_sub_cancel_left, TL_map, List.getElem?_map, e]
    rfl
  obtain ⟨hj, _⟩ := List.getElem?_eq_some_iff.mp ed
  have ex : xs[fk h + j]? = some xs[fk h + j] := List.getElem?_eq_getElem (by omega)
  obtain ⟨d, e1, e2⟩ := al.get ex
  rw [ed] at e1
  cases e1
  exact ⟨_, ex, e2⟩
theorem Da.path {F : AS} {H : Hp} {v : V} {r : List Nat} (a : Da F H v (pD r)) : ∃ p, v = .ref p ∧ ¬ F p ∧ H p = some (.tup (r.map fun i : Nat => V.int (i : Int))) := by
  unfold pD at a
  cases a with
  | @tup p xs _ nF e al =>
  refine ⟨p, rfl, nF, ?_⟩
  rw [e]
  congr 2
  have go : ∀ {xs : List V} {r : List Nat}, DaAll F H xs (r.map fun i : Nat => PyData.int (i : Int)) → xs = r.map fun i : Nat => V.int (i : Int) := by
    intro xs r
    induction r generalizing xs with
    | nil => intro h; cases h; rfl
    | cons i r ih =>
      intro h
      cases h with
      | cons a b =>
        cases a
        rw [ih b]
        rfl
  exact go al
theorem daInts {F : AS} {H : Hp} : ∀ r : List Nat, DaAll F H (r.map fun i : Nat => V.int (i : Int)) (r.map fun i : Nat => PyData.int (i : Int))
  | [] => .nil
  | i :: r => .cons (.int _) (daInts r)
theorem Da.mkPath {F : AS} {H : Hp} {p : Addr} {r : List Nat} (nF : ¬ F p) (e : H p = some (.tup (r.map fun i : Nat => V.int (i : Int)))) : Da F H (.ref p) (pD r) := .tup nF e (daInts r)
theorem ok_subtree (T : Top K mg) : FnOk P w K mg base CX0 1 T.subtree T.subtree_d ["tree", "path"] sp_sub := by
  refine T.subtree_f.ok sc_subtree (fun vs H Q E h => ?_) (fun cdv A outer s H vs Q E hr h => ?_)
  · obtain ⟨F, t, n, r, v, vp, rfl, _⟩ := h
    rfl
  obtain ⟨F, t, n, r, v, vp, rfl, ht, ha, hp, hs, q⟩ := h
  -- slots: 0 tree, 1 path, 2 index
  refine ⟨_, (pss_cons (ps_for PassesOwn.never rfl (pi_tup (pv 1)) (pg_name (i := 2) sc_subtree.nd rfl (.inl rfl)) (pss_one (ps_set (i := 0) sc_subtree.nd rfl (.inl rfl) (pe_ix ix_tup (pe_ix ix_tup (pv 0) pe_int (fun _ _ => rfl)) (pv 2) (fun _ _ => rfl)))))
      (pss_one (ps_ret (pv 0)))), ?_⟩
  obtain ⟨pp, rfl, npp, ep⟩ := hp.path
  refine ⟨_, rfl, pp, rfl, ⟨_, SqT.of ep⟩, for_tup (xs := r.map fun i : Nat => V.int (i : Int)) (fun i σ H' => H = H' ∧ ∃ v u t', σ = [some v, some (.ref pp), u] ∧ tok t' = true ∧ Da F H v (TD t') ∧ sub (r.drop i) t' = some n) ⟨rfl, v, none, t, rfl, ht, ha, hs⟩ ?_ ?_ ?_⟩
  · rintro i σ H' hi ⟨rfl, _⟩
    exact SqT.of ep
  · rintro i x σ H' hx ⟨rfl, v, u, t', rfl, ht', ha', hs'⟩
    rw [List.getElem?_map] at hx
    obtain ⟨m, em, rfl⟩ := Option.map_eq_some_iff.mp hx
    obtain ⟨hm, em'⟩ := List.getElem?_eq_some_iff.mp em
    rw [List.drop_eq_getElem_cons hm, em'] at hs'
    obtain ⟨h, ink, pre, kids⟩ := t'
    obtain ⟨j, k, rfl, ek, hs2⟩ := sub_cons hs'
    obtain ⟨p, vi, qa, xs, rfl, nF, ep', ai, nq, eq, al⟩ := ha'.node
    obtain ⟨vk, evk, avk⟩ := get_kid ht' al ek
    refine ⟨_, rfl, p, _, 2, .ref qa, rfl, rfl, SqT.of ep', atI_nat (j := 2) rfl, _, rfl, qa, xs, _, vk, rfl, rfl, SqT.of eq, atI_nat evk, ?_⟩
    exact ⟨rfl, vk, _, k, rfl, (tok_inv ht').2.2 k (List.mem_of_getElem? ek), avk, hs2⟩
  · rintro σ H' ⟨rfl, v, u, t', rfl, ht', ha', hs'⟩
    rw [List.length_map, List.drop_length] at hs'
    cases hs'
    exact ⟨_, rfl, q v ha'⟩
end
end Sa

set_option Elab.async false
set_option linter.all false
set_option maxRecDepth 100000
set_option maxHeartbeats 4000000
namespace Sa
open PySem PySem.Spec PyProof.Rows L2
theorem go_nopart {σ : L2.St} {H : Hp} {Q : Option Int → Hp → Prop} (h : Q none H) : tNoPart σ H Q := h
/-- [e for x in a tuple], new data for each -/
theorem lcT {K : PySem.W.Frag} {F : AS} {σ : L2.St} {i : Nat} {te : TE} {H1 : Hp} {D p : Addr} {xs : List V} {Qd : Hp → Prop} (out : List PyData) (ho : out.length = xs.length) (hl : xs.length ≤ 1000) (c1 : Trk F H1) (nD : H1 D = none) (ep : H1 p = some (.tup xs))
    (he : ∀ (j : Nat) x d H, xs[j]? = some x → out[j]? = some d → Same H1 H → Trk (Wth F D) H → ∀ Q : VK, (∀ y H', Same H H' → Da (Wth F D) H' y d → Q y H') → te ((wipe σ [i]).set i (some x)) H Q)
    (hw : ∀ y, wipe ((wipe σ [i]).set i y) [i] = wipe σ [i]) (q : ∀ H' vs, Same H1 H' → Trk F H' → H' D = some (.lst vs) → DaAll F H' vs out → Qd H') :
    ∃ W : Nat → Nat → Hp → Prop, (∃ m, W 0 m (L2.upd H1 D (.lst []))) ∧ ∀ j m H, W j m H →
      ((Itt K p).stop j H ∧ Qd H) ∨ ((Itt K p).go j H ∧ ∃ Nx : Hp → Prop, (∀ H', Nx H' → ∃ m', m' < m ∧ W (j + 1) m' H') ∧ ∀ x H', (Itt K p).yld j H x H' → gName i x (wipe σ [i]) H' fun σ2 H2 => wipe σ2 [i] = wipe σ [i] ∧ tYes σ2 H2 fun b H3 =>
        if b = true then te σ2 H3 fun y H4 => ∃ acc, H4 D = some (.lst acc) ∧ acc.length < sizeLine ∧ Nx (L2.upd H4 D (.lst (acc ++ [y]))) else Nx H3) := by
  refine lc_tup (K := K) (a := p) (xs := xs) (fun k H => Same H1 H ∧ Trk (Wth F D) H ∧ ∃ vs, H D = some (.lst vs) ∧ DaAll (Wth F D) H vs (out.take k)) ?_ ?_ ?_ ?_
  · have s1 : Same H1 (L2.upd H1 D (.lst [])) := same_upd nD
    exact ⟨s1, (c1.same s1).wth upd_same, [], upd_same, .nil⟩
  · rintro k H hk ⟨s1, _⟩
    exact SqT.of (s1 _ _ ep)
  · rintro k x H hk ⟨s2, c2, vs, eD, aD⟩
    obtain ⟨hk', _⟩ := List.getElem?_eq_some_iff.mp hk
    have eo : out[k]? = some out[k] := List.getElem?_eq_getElem (by omega)
    refine ⟨hw _, he k x _ H hk eo s2 c2 _ fun v H3 s3 a3 => ?_⟩
    have eL := aD.length
    rw [List.length_take] at eL
    refine ⟨vs, s3 _ _ eD, small1000 (by omega), ?_⟩
    have x4 : Ext D H3 (L2.upd H3 D (.lst (vs ++ [v]))) := Ext.upd
    refine ⟨fun a o e => ?_, fun a ha => ?_, vs ++ [v], upd_same, ?_⟩
    · rw [upd_ne (ne_of_none e nD)]
      exact s3 _ _ (s2 _ _ e)
    · by_cases na : a = D
      · exact ⟨_, by rw [na]; exact upd_same⟩
      · obtain ⟨o, e⟩ := (c2.same s3) a ha
        exact ⟨o, by rw [upd_ne na]; exact e⟩
    · rw [List.take_add_one, eo]
      exact ((aD.same s3).append (.cons a3 .nil)).ext x4 (.inr rfl)
  · rintro H ⟨s2, c2, vs, eD, aD⟩
    rw [← ho, List.take_length] at aD
    exact q H vs s2 (fun a ha => c2 a (.inl ha)) eD aD.wth
section
variable {P : Program} {w : World} {K : PySem.W.Frag} {mg : Str → Option Value} {base : Heap}
/-! ### bared -/
def sp_bared (n : Nat) : Sp := fun vs H Q _ => ∃ (F : AS) (t : Tr) (v : V) (m : Nat), vs = [v] ∧ Trk F H ∧ tok t = true ∧ Da F H v (TD t) ∧ Gn 6 m (TD t) ∧ m < n ∧ ∀ v' H', Same H H' → Da F H' v' (TD (br t)) → Q v' H'
theorem bared0 {k : Nat} {f : Addr} {fd : FuncData} : FnOk P w K mg base CX0 k f fd ["tree"] (sp_bared 0) :=
  ⟨fun vs H Q E h => by obtain ⟨F, t, v, m, _, _, _, _, _, h, _⟩ := h; omega, fun A outer s H args us vs Q E _ _ _ _ h => by obtain ⟨F, t, v, m, _, _, _, _, _, h, _⟩ := h; omega⟩
theorem kid_at {kids : List Tr} {j : Nat} {d : PyData} (e : (TL kids)[j]? = some d) : ∃ k, kids[j]? = some k ∧ d = TD k ∧ k ∈ kids := by
  rw [TL_map, List.getElem?_map] at e
  obtain ⟨k, ek, rfl⟩ := Option.map_eq_some_iff.mp e
  exact ⟨k, ek, rfl, List.mem_of_getElem? ek⟩
theorem br_at {kids : List Tr} {j : Nat} {d : PyData} {k : Tr} (e : (TL (brL kids))[j]? = some d) (ek : kids[j]? = some k) : d = TD (br k) := by
  rw [TL_map, brL_map, List.map_map, List.getElem?_map, ek] at e
  cases e
  rfl
theorem bared1 (T : Top K mg) {n : Nat} (IH : FnOk P w K mg base CX0 (n + 2) T.bared T.bared_d ["tree"] (sp_bared n)) :
    FnOk P w K mg base CX0 (n + 3) T.bared T.bared_d ["tree"] (sp_bared (n + 1)) := by
  refine T.bared_f.ok sc_bared (fun vs H Q E h => ?_) (fun cdv A outer s H vs Q E hr h => ?_)
  · obtain ⟨F, t, v, m, rfl, _⟩ := h
    rfl
  obtain ⟨F, ⟨h, ink, pre, kids⟩, v, m, rfl, hT, ht, ha, hg, hm, q⟩ := h
  have hr2 : Room 2 _ := hr.mono (by omega)
  -- slots: 0 tree, 1 head, 2 ink, 3 items, 4 kid
  refine ⟨_, (pss_cons (ps_asg (pe_call (ok_remade T) hr2 rfl T.remade_g T.remade_k T.remade_b .nil pass0 (pa_cons (pv 0) (pa_cons (pe_lc (own := [("kid", 4)]) (g := (gName 4)) (tt := tYes) (by rfl) sc_bared.nd (pi_tup (pe_call (ok_kids_of T) hr2 rfl T.kids_of_g T.kids_of_k T.kids_of_b .nil pass0 (pa_cons (pv 0) pa_nil))) (blkOk_by (own := [("kid", 4)]) (N := ["tree", "head", "ink", "items", "kid"]) (sc := defScope s_bared) (by decide +kernel)) (fun _ _ _ _ _ => (pg_name (i := 4) sc_bared.nd rfl (.inl rfl))) (fun _ _ _ _ _ => pts_nil) (fun _ _ _ _ _ => (pe_call IH hr rfl T.bared_g T.bared_k T.bared_b .nil pass0 (pa_cons (pv 4) pa_nil)))) pa_nil))) (pg_tup rfl (pgs_cons (pg_name (i := 1) sc_bared.nd rfl (.inl rfl)) (pgs_cons (pg_name (i := 2) sc_bared.nd rfl (.inl rfl)) (pgs_cons (pg_name (i := 3) sc_bared.nd rfl (.inl rfl)) pgs_nil)))))
      (pss_one (ps_ret (pe_tup (pa_cons (pv 1) (pa_cons (pe_tup pa_nil) (pa_cons (pv 3) pa_nil))))))), ?_⟩
  obtain ⟨w3, m2, gh, gi, lw, gp, gk⟩ := gnT_inv hg
  refine ⟨_, rfl, _, rfl, F, h, ink, pre, kids, v, rfl, hT, ht, ha, fun v1 H1 s1 a1 => ?_⟩
  cases a1 with
  | @tup p1 xs _ n1 e1 al1 =>
  have l1 := al1.length
  rw [TL_length] at l1
  refine ⟨p1, rfl, ⟨_, SqT.of e1⟩, fun D nD => lcT (F := F) (TL (brL kids)) (by rw [TL_length, brL_map, List.length_map, l1]) (by omega) (hT.same s1) nD e1 ?_ (fun y => rfl) ?_⟩
  · intro j x d H2 ex ed s2 c2 Q' q'
    obtain ⟨dx, edx, ax⟩ := al1.get ex
    obtain ⟨k, ek, rfl, mk⟩ := kid_at edx
    have ed' := br_at ed ek
    subst ed'
    exact ⟨_, rfl, Wth F D, k, x, m - 2, rfl, c2, (tok_inv ht).2.2 k mk, (ax.avoid nD).same s2, gk k mk, by omega, q'⟩
  · intro H2 vs s2 c2 eD aD
    have s12 := s1.trans s2
    refine ⟨F, h, ink, pre, kids, brL kids, v, D, vs, rfl, c2, ht, ha.same s12, eD, aD, Nat.le_of_lt (small1000 (by rw [brL_map, List.length_map]; omega)), fun p vi qa H3 s3 e3 n3 ai aq => ?_⟩
    refine ⟨p, [.str h, vi, .ref qa], rfl, SqT.of e3, rfl, _, _, rfl, _, _, rfl, _, _, rfl, rfl, ?_⟩
    refine ⟨_, rfl, by decide, fun p4 np4 => ⟨_, rfl, (show 3 ≤ sizeLine by decide), fun p5 np5 => ?_⟩⟩
    have s4 := same_upd (o := .tup []) np4
    have s5 := same_upd (o := .tup [.str h, .ref p4, .ref qa]) np5
    have c4 := (c2.same s3).same s4
    refine q _ _ (((s12.trans s3).trans s4).trans s5) ?_
    rw [br]
    exact Da.mkNode (c4.new np5) upd_same ((Da.tup ((c2.same s3).new np4) upd_same .nil).same s5) ((aq.same s4).same s5)
theorem ok_bared (T : Top K mg) : ∀ n : Nat, FnOk P w K mg base CX0 (n + 2) T.bared T.bared_d ["tree"] (sp_bared n)
  | 0 => bared0
  | n + 1 => bared1 T (ok_bared T n)
/-! ### the law's first, bare -/
theorem valV_cons {k1 k : Key} {v : V} {r : List (Key × V)} : valV ((k1, v) :: r) k = if k1 = k then some v else valV r k := by
  unfold valV
  rw [List.find?_cons]
  by_cases h : k1 = k
  · rw [if_pos h]
    simp [h]
  · rw [if_neg h]
    simp [h]
theorem valV_nil {k : Key} : valV ([] : List (Key × V)) k = none := rfl
def firstL (h : Str) : Nat := if h = "fun" then 1 else if h = "use" then 2 else if h = "made" then 0 else if atoms.contains h = true then 1 else 0
theorem merge3 {a b c : Str} {x y z : V} (h1 : a ≠ b) (h2 : a ≠ c) (h3 : b ≠ c) : mergeK [] [((.inr a : Key), x), (.inr b, y), (.inr c, z)] = [((.inr a : Key), x), (.inr b, y), (.inr c, z)] := by
  simp [mergeK, putK, h1, h2, h3, h1.symm, h2.symm, h3.symm]
def sp_firstL : Sp := fun vs H Q _ => ∃ h : Str, vs = [.str h] ∧ ∀ H', Same H H' → Q (.int (firstL h)) H'
theorem ok__law_first (T : Top K mg) : FnOk P w K mg base CX0 1 T._law_first T._law_first_d ["_law_head"] sp_firstL := by
  refine T._law_first_f.ok sc__law_first (fun vs H Q E h => ?_) (fun cdv A outer s H vs Q E hr h => ?_)
  · obtain ⟨h, rfl, _⟩ := h
    rfl
  obtain ⟨h, rfl, q⟩ := h
  -- slots: 0 _law_head
  refine ⟨_, (pss_one (ps_ret (pe_dget2 (hu_of hr) (pe_disp (pps_cons pe_str pe_int (pps_cons pe_str pe_int (pps_cons pe_str pe_int pps_nil))) (by rfl) (by rfl) (fun z => by cases z) (by decide)) (pv 0) (pe_callTy call_int1 (by rfl) T.int_n (by decide +kernel) (pa_cons (pe_cmpR op_in_seq (pv 0) (pe_tup (pa_cons pe_str (pa_cons pe_str (pa_cons pe_str (pa_cons pe_str (pa_cons pe_str (pa_cons pe_str pa_nil))))))) (by rfl)) pa_nil)) ⟨rfl, rfl, rfl, rfl⟩))), ?_⟩
  intro p np
  refine ⟨upd_same, [(.inr "fun", .int 1), (.inr "use", .int 2), (.inr "made", .int 0)], rfl, by decide, p, rfl, .inl ⟨_, .inl upd_same⟩, _, rfl, _, rfl, by decide, fun p2 np2 => ⟨p2, _, rfl, .inr (SqT.of upd_same), rfl, by decide, .inr ⟨_, rfl, ?_⟩⟩⟩
  refine ⟨_, .inl ⟨_, .inr h, .inl (same_upd np2 _ _ upd_same), rfl, rfl⟩, ?_⟩
  have sm : ∀ o, Same H (L2.upd _ p2 o) := fun o => (same_upd2 np).trans (same_upd np2)
  have hq := q _ (sm (.tup [.str "int", .str "quote", .str "flag", .str "global", .str "ref", .str "name"]))
  have e : ((valV (mergeK [] [((.inr "fun" : Key), V.int 1), (.inr "use", .int 2), (.inr "made", .int 0)]) (.inr h)).getD (.int (if inV (.str h) (atoms.map V.str) = true then 1 else 0))) = .int (firstL h) := by
    rw [merge3 (by decide) (by decide) (by decide), valV_cons, valV_cons, valV_cons, valV_nil, inV_strs]
    unfold firstL
    by_cases h1 : h = "fun"
    · rw [if_pos (by rw [h1]), if_pos h1]; rfl
    rw [if_neg (fun z => h1 (Sum.inr.inj z).symm), if_neg h1]
    by_cases h2 : h = "use"
    · rw [if_pos (by rw [h2]), if_pos h2]; rfl
    rw [if_neg (fun z => h2 (Sum.inr.inj z).symm), if_neg h2]
    by_cases h3 : h = "made"
    · rw [if_pos (by rw [h3]), if_pos h3]; rfl
    rw [if_neg (fun z => h3 (Sum.inr.inj z).symm), if_neg h3]
    by_cases h4 : atoms.contains h = true
    · rw [if_pos h4, if_pos h4]; rfl
    · rw [if_neg h4, if_neg h4]; rfl
  rw [← e] at hq
  exact hq
theorem firstL_fk (h : Str) : firstL h = fk h := by
  unfold firstL fk
  by_cases h1 : h = "fun"
  · rw [if_pos h1, if_pos h1]
  rw [if_neg h1, if_neg h1]
  by_cases h2 : h = "use"
  · rw [if_pos h2, if_pos h2]
  rw [if_neg h2, if_neg h2]
  by_cases h3 : h = "made"
  · rw [if_pos h3, h3, if_neg (by decide +kernel)]
  · rw [if_neg h3]
theorem lbare1 (T : Top K mg) {n : Nat} (IH : FnOk P w K mg base CX0 (n + 2) T._law_bare T._law_bare_d ["_law_tree"] (sp_bared n)) :
    FnOk P w K mg base CX0 (n + 3) T._law_bare T._law_bare_d ["_law_tree"] (sp_bared (n + 1)) := by
  refine T._law_bare_f.ok sc__law_bare (fun vs H Q E h => ?_) (fun cdv A outer s H vs Q E hr h => ?_)
  · obtain ⟨F, t, v, m, rfl, _⟩ := h
    rfl
  obtain ⟨F, ⟨h, ink, pre, kids⟩, v, m, rfl, hT, ht, ha, hg, hm, q⟩ := h
  have hr1 : Room 1 _ := hr.mono (by omega)
  -- slots: 0 _law_tree, 1 _law_first_here, 2 _law_kid
  refine ⟨_, (pss_cons (ps_set (i := 1) sc__law_bare.nd rfl (.inl rfl) (pe_call (ok__law_first T) hr1 rfl T._law_first_g T._law_first_k T._law_first_b .nil pass0 (pa_cons (pe_ix ix_tup (pv 0) pe_int (fun _ _ => rfl)) pa_nil)))
      (pss_one (ps_ret (pe_tup (pa_cons (pe_ix ix_tup (pv 0) pe_int (fun _ _ => rfl)) (pa_cons (pe_tup pa_nil) (pa_cons (pe_op op_catA (pe_slice sl_tupA (pe_ix ix_tup (pv 0) pe_int (fun _ _ => rfl)) po_none (po_some (pv 1))) (pe_callTy call_tuple_of (by rfl) T.tuple_n (by decide +kernel) (pa_cons (pe_lc (own := [("_law_kid", 2)]) (g := (gName 2)) (tt := tYes) (by rfl) sc__law_bare.nd (pi_tup (pe_slice sl_tupA (pe_ix ix_tup (pv 0) pe_int (fun _ _ => rfl)) (po_some (pv 1)) po_none)) (blkOk_by (own := [("_law_kid", 2)]) (N := ["_law_tree", "_law_first_here", "_law_kid"]) (sc := defScope s__law_bare) (by decide +kernel)) (fun _ _ _ _ _ => (pg_name (i := 2) sc__law_bare.nd rfl (.inl rfl))) (fun _ _ _ _ _ => pts_nil) (fun _ _ _ _ _ => (pe_call IH hr rfl T._law_bare_g T._law_bare_k T._law_bare_b .nil pass0 (pa_cons (pv 2) pa_nil)))) pa_nil))) pa_nil))))))), ?_⟩
  obtain ⟨w3, m2, gh, gi, lw, gp, gk⟩ := gnT_inv hg
  obtain ⟨p, vi, qa, xs0, rfl, nF, ep, ai, nq, eq, al⟩ := ha.node
  refine ⟨_, rfl, p, _, 0, .str h, rfl, rfl, SqT.of ep, atI_nat (j := 0) rfl, h, rfl, fun H0 s0 => ?_⟩
  rw [firstL_fk]
  refine ⟨_, rfl, p, _, 0, .str h, rfl, rfl, SqT.of (s0 _ _ ep), atI_nat (j := 0) rfl, by decide, fun p4 np4 => ?_⟩
  have s4 := same_upd (o := .tup []) np4
  have s04 := s0.trans s4
  have c4 := hT.same s04
  refine ⟨_, rfl, p, _, 2, .ref qa, rfl, rfl, SqT.of (s04 _ _ ep), atI_nat (j := 2) rfl, _, rfl, _, rfl, ?_⟩
  refine rsl_to c4 nq (s04 _ _ eq) (al.same s04) fun v5 H5 s5 a5 => ?_
  rw [(fk_items ht).2] at a5
  have s05 := s04.trans s5
  have c5 := c4.same s5
  refine ⟨_, rfl, p, _, 2, .ref qa, rfl, rfl, SqT.of (s05 _ _ ep), atI_nat (j := 2) rfl, _, rfl, _, rfl, ?_⟩
  refine go_nopart ?_
  refine rsl_from c5 nq (s05 _ _ eq) (al.same s05) fun v1 H1 s1 a1 => ?_
  rw [(fk_items ht).1] at a1
  have s01 := s05.trans s1
  cases a1 with
  | @tup p1 xs _ n1 e1 al1 =>
  have l1 := al1.length
  rw [TL_length] at l1
  refine ⟨p1, rfl, ⟨_, SqT.of e1⟩, fun D nD => lcT (F := F) (TL (brL kids)) (by rw [TL_length, brL_map, List.length_map, l1]) (by omega) (c5.same s1) nD e1 ?_ (fun y => rfl) ?_⟩
  · intro j x d H2 ex ed s2 c2 Q' q'
    obtain ⟨dx, edx, ax⟩ := al1.get ex
    obtain ⟨k, ek, rfl, mk⟩ := kid_at edx
    have ed' := br_at ed ek
    subst ed'
    exact ⟨_, rfl, Wth F D, k, x, m - 2, rfl, c2, (tok_inv ht).2.2 k mk, (ax.avoid nD).same s2, gk k mk, by omega, q'⟩
  · intro H2 vs s2 c2 eD aD
    refine ⟨D, vs, rfl, .inl ⟨SqL.of eD, fun p6 np6 => ?_⟩⟩
    have s6 := same_upd (o := .tup vs) np6
    have c6 := c2.same s6
    refine rcat c6 (((a5.same s1).same s2).same s6) (.tup (c2.new np6) upd_same (aD.same s6)) (Nat.le_of_lt (small1000 (by rw [TL_length, brL_map, List.length_map]; omega))) fun v7 H7 s7 a7 => ⟨(show 3 ≤ sizeLine by decide), fun p8 np8 => ?_⟩
    have s8 := same_upd (o := .tup [.str h, .ref p4, v7]) np8
    have c7 := c6.same s7
    have s47 : Same _ H7 := (((s5.trans s1).trans s2).trans s6).trans s7
    refine q _ _ ((s04.trans s47).trans s8) ?_
    rw [br]
    cases a7 with
    | tup n7 e7 al7 =>
    exact Da.mkNode (c7.new np8) upd_same (((Da.tup ((hT.same s0).new np4) upd_same .nil).same s47).same s8) ((Da.tup n7 e7 al7).same s8)
theorem ok__law_bare (T : Top K mg) : ∀ n : Nat, FnOk P w K mg base CX0 (n + 2) T._law_bare T._law_bare_d ["_law_tree"] (sp_bared n)
  | 0 => ⟨fun vs H Q E h => by obtain ⟨F, t, v, m, _, _, _, _, _, h, _⟩ := h; omega, fun A outer s H args us vs Q E _ _ _ _ h => by obtain ⟨F, t, v, m, _, _, _, _, _, h, _⟩ := h; omega⟩
  | n + 1 => lbare1 T (ok__law_bare T n)
end
end Sa

set_option Elab.async false
set_option linter.all false
set_option maxRecDepth 100000
set_option maxHeartbeats 4000000
namespace Sa
open PySem PySem.Spec PyProof.Rows L2
theorem ixNn {n j : Nat} (hj : j < n) : ixN n (j : Int) = some j := by
  unfold ixN
  rw [if_pos (by omega), if_pos (by omega), Int.toNat_natCast]
theorem DaAll.set {F : AS} {H : Hp} : ∀ {vs : List V} {ds : List PyData} {i : Nat} {v : V} {d : PyData}, DaAll F H vs ds → Da F H v d → DaAll F H (vs.set i v) (ds.set i d)
  | _, _, _, _, _, .nil, _ => .nil
  | _, _, 0, _, _, .cons _ t, b => .cons b t
  | _, _, i + 1, _, _, .cons a t, b => .cons a (t.set b)
theorem items_set {h : Str} {ink pre : List PyData} {kids : List Tr} {j : Nat} {k : Tr} (ht : tok (.nd h ink pre kids) = true) : (pre ++ TL kids).set (fk h + j) (TD k) = pre ++ TL (kids.set j k) := by
  obtain ⟨a, _, _⟩ := tok_inv ht
  rw [← a, List.set_append_right _ _ (by omega), Nat.add_sub_cancel_left, TL_map, TL_map, List.map_set]
theorem shaped_path {r : List Nat} (h : r.length ≤ 60) : SeqAt.shaped (pD r) = true := (gn_pD (w := 60) (n := 0) h).shaped (by decide)
theorem shaped_unit : SeqAt.shaped (.tuple []) = true := (Gn.tuple (w := 1) (n := 0) (Nat.zero_le _) fun d hd => by cases hd).shaped (by decide)
section
variable {P : Program} {w : World} {K : PySem.W.Frag} {mg : Str → Option Value} {base : Heap}
def sp_put (n : Nat) : Sp := fun vs H Q _ => ∃ (F : AS) (t k o : Tr) (r : List Nat) (v vp vo : V) (m : Nat), vs = [v, vp, vo] ∧ Trk F H ∧ tok t = true ∧ Da F H v (TD t) ∧ Da F H vp (pD r) ∧ Da F H vo (TD o) ∧ sub r t = some k ∧ Gn 6 m (TD t) ∧ m ≤ 60 ∧ r.length < n ∧
  ∀ v' H', Same H H' → Da F H' v' (TD (put r t o)) → Q v' H'
theorem put0 {k : Nat} {f : Addr} {fd : FuncData} : FnOk P w K mg base CX0 k f fd ["_law_tree", "_law_path", "_law_other"] (sp_put 0) :=
  ⟨fun vs H Q E h => by obtain ⟨F, t, k, o, r, v, vp, vo, m, _, _, _, _, _, _, _, _, _, h, _⟩ := h; omega, fun A outer s H args us vs Q E _ _ _ _ h => by obtain ⟨F, t, k, o, r, v, vp, vo, m, _, _, _, _, _, _, _, _, _, h, _⟩ := h; omega⟩
theorem put1 (T : Top K mg) {n : Nat} (IH : FnOk P w K mg base CX0 n T._law_put T._law_put_d ["_law_tree", "_law_path", "_law_other"] (sp_put n)) :
    FnOk P w K mg base CX0 (n + 1) T._law_put T._law_put_d ["_law_tree", "_law_path", "_law_other"] (sp_put (n + 1)) := by
  refine T._law_put_f.ok sc__law_put (fun vs H Q E h => ?_) (fun cdv A outer s H vs Q E hr h => ?_)
  · obtain ⟨F, t, k, o, r, v, vp, vo, m, rfl, _⟩ := h
    rfl
  obtain ⟨F, t, k, o, r, v, vp, vo, m, rfl, hT, ht, ha, hp, hO, hs, hg, hm, hn, q⟩ := h
  -- slots: 0 _law_tree, 1 _law_path, 2 _law_other, 3 _law_items
  refine ⟨_, (pss_cons (ps_if (pt_cmpR (op_eqD hr.units) (pv 1) (pe_tup pa_nil) (nomark _)) (pss_one (ps_ret (pv 2))) pss_nil)
      (pss_cons (ps_set (i := 3) sc__law_put.nd rfl (.inl rfl) (pe_callTy call_list_of (by rfl) T.list_n (by decide +kernel) (pa_cons (pe_ix ix_tup (pv 0) pe_int (fun _ _ => rfl)) pa_nil)))
      (pss_cons (ps_asg (pe_call IH hr rfl T._law_put_g T._law_put_k T._law_put_b .nil pass0 (pa_cons (pe_ix ix_list (pv 3) (pe_ix ix_tup (pv 1) pe_int (fun _ _ => rfl)) (fun _ _ => rfl)) (pa_cons (pe_slice sl_tupA (pv 1) (po_some pe_int) po_none) (pa_cons (pv 2) pa_nil)))) (pg_sub (pv 3) (pe_ix ix_tup (pv 1) pe_int (fun _ _ => rfl)) set_list))
      (pss_one (ps_ret (pe_tup (pa_cons (pe_ix ix_tup (pv 0) pe_int (fun _ _ => rfl)) (pa_cons (pe_ix ix_tup (pv 0) pe_int (fun _ _ => rfl)) (pa_cons (pe_callTy call_tuple_of (by rfl) T.tuple_n (by decide +kernel) (pa_cons (pv 3) pa_nil)) pa_nil))))))))), ?_⟩
  have lr := (gn_sub r t k m hg hs).2
  refine ⟨_, rfl, by decide, fun pu npu => ?_⟩
  have su := same_upd (o := .tup []) npu
  refine ⟨pD r, .tuple [], (hp.same su).dp _ _, (Da.tup (hT.new npu) upd_same .nil).dp _ _, shaped_path (by omega), shaped_unit, _, rfl, ?_⟩
  cases r with
  | nil =>
    refine ifSo (by rfl) ⟨_, rfl, q _ _ su (hO.same su)⟩
  | cons i r =>
  refine ifNo (by rfl) ?_
  obtain ⟨h, ink, pre, kids⟩ := t
  obtain ⟨j, kk, rfl, ek, hs2⟩ := sub_cons hs
  obtain ⟨w3, m2, gh, gi, lw, gp, gk⟩ := gnT_inv hg
  obtain ⟨p, vi, qa, xs, rfl, nF, ep, ai, nq, eq, al⟩ := (ha.same su).node
  have hTu := hT.same su
  obtain ⟨pp, rfl, npp, epp⟩ := (hp.same su).path
  have hx := al.length
  rw [List.length_append, TL_length] at hx
  refine ⟨_, rfl, p, _, 2, .ref qa, rfl, rfl, SqT.of ep, atI_nat (j := 2) rfl, qa, xs, rfl, .inr (SqT.of eq), fun L nL => ?_⟩
  have sL := same_upd (o := .lst xs) nL
  have cL : Trk (Wth F L) (L2.upd _ L (.lst xs)) := (hTu.same sL).wth upd_same
  obtain ⟨vk, evk, avk⟩ := get_kid ht al ek
  refine ⟨_, rfl, _, rfl, pp, _, 0, .int ((fk h + j : Nat) : Int), rfl, rfl, SqT.of (sL _ _ epp), atI_nat (j := 0) rfl, L, xs, _, vk, rfl, rfl, SqL.of upd_same, atI_nat evk, ?_⟩
  refine ⟨_, rfl, 1, rfl, ?_⟩
  refine go_nopart ?_
  have npL : ¬ Wth F L pp := fun z => z.elim npp fun y => by rw [y, nL] at epp; cases epp
  refine rsl_any (F := Wth F L) (es := r.map fun i : Nat => .int (i : Int)) cL npL (sL _ _ epp) ?_ fun v4 H4 s4 a4 => ?_
  · have e := cutA_from (((fk h + j) :: r).map fun i : Nat => V.int (i : Int)) 1
    rw [show ((1 : Nat) : Int) = 1 from rfl] at e
    rw [e]
    exact daInts r
  have sL4 := sL.trans s4
  have c4 := cL.same s4
  refine ⟨_, rfl, Wth F L, kk, k, o, r, vk, v4, vo, m - 2, rfl, c4, (tok_inv ht).2.2 kk (List.mem_of_getElem? ek), (avk.avoid nL).same sL4, a4, ((hO.same su).avoid nL).same sL4, hs2, gk kk (List.mem_of_getElem? ek), by omega, by rw [List.length_cons] at hn; omega, fun v5 H5 s5 a5 => ?_⟩
  have sL5 := sL4.trans s5
  have eL5 : H5 L = some (.lst xs) := s5 _ _ (s4 _ _ upd_same)
  have ix : fk h + j < xs.length := (List.getElem?_eq_some_iff.mp evk).1
  refine ⟨_, rfl, _, rfl, pp, _, 0, .int ((fk h + j : Nat) : Int), rfl, rfl, SqT.of (sL5 _ _ epp), atI_nat (j := 0) rfl, L, xs, _, _, rfl, rfl, eL5, ixNn ix, ?_⟩
  have x6 : Ext L H5 (L2.upd H5 L (.lst (xs.set (fk h + j) v5))) := Ext.upd
  have s6 : Same _ (L2.upd H5 L (.lst (xs.set (fk h + j) v5))) := fun a ob e => by
    rw [upd_ne (ne_of_none e nL)]
    exact sL5 _ _ e
  have c6 : Trk F (L2.upd H5 L (.lst (xs.set (fk h + j) v5))) := hTu.same s6
  refine ⟨_, rfl, p, _, 0, .str h, rfl, rfl, SqT.of (s6 _ _ ep), atI_nat (j := 0) rfl, _, rfl, p, _, 1, vi, rfl, rfl, SqT.of (s6 _ _ ep), atI_nat (j := 1) rfl, _, rfl, L, _, rfl, .inl ⟨SqL.of upd_same, fun p7 np7 => ⟨(show 3 ≤ sizeLine by decide), fun p8 np8 => ?_⟩⟩⟩
  have s7 := same_upd (o := .tup (xs.set (fk h + j) v5)) np7
  have s8 := same_upd (o := .tup [.str h, vi, .ref p7]) np8
  refine q _ _ (((su.trans s6).trans s7).trans s8) ?_
  rw [put_cons ek]
  have all : DaAll F (L2.upd H5 L (.lst (xs.set (fk h + j) v5))) (xs.set (fk h + j) v5) (pre ++ TL (kids.set j (put r kk o))) := by
    rw [← items_set ht]
    exact ((((al.avoid nL).same sL5).set a5).ext x6 (.inr rfl)).wth
  refine Da.mkNode ((c6.same s7).new np8) upd_same (((ai.same s6).same s7).same s8) (.tup (c6.new np7) (s8 _ _ upd_same) ((all.same s7).same s8))
theorem ok__law_put (T : Top K mg) : ∀ n : Nat, FnOk P w K mg base CX0 n T._law_put T._law_put_d ["_law_tree", "_law_path", "_law_other"] (sp_put n)
  | 0 => put0
  | n + 1 => put1 T (ok__law_put T n)
end
end Sa

set_option Elab.async false
set_option linter.all false
set_option maxRecDepth 100000
set_option maxHeartbeats 4000000
namespace Sa
open PySem PySem.Spec PyProof.Rows L2
/-! ### a path's way up -/
def up (c : Tr × Nat) (o : Tr) : Tr := match c.1 with
  | .nd h ink pre kids => .nd h ink pre (kids.set (c.2 - fk h) o)
def cD (c : Tr × Nat) : PyData := .tuple [TD c.1, .int (c.2 : Int)]
/-- a node and the place of a kid -/
def Stp (c : Tr × Nat) : Prop := ∃ h ink pre kids j, c = (.nd h ink pre kids, fk h + j) ∧ tok (.nd h ink pre kids) = true ∧ j < kids.length ∧ pre.length + kids.length ≤ 6
theorem up_put {j : Nat} {p : List Nat} {h : Str} {ink pre : List PyData} {kids : List Tr} {k o : Tr} (e : kids[j]? = some k) : put ((fk h + j) :: p) (.nd h ink pre kids) o = up (.nd h ink pre kids, fk h + j) (put p k o) := by
  rw [put_cons e]
  show _ = Tr.nd h ink pre (kids.set (fk h + j - fk h) (put p k o))
  rw [Nat.add_sub_cancel_left]
theorem Da.pair {F : AS} {H : Hp} {v : V} {a b : PyData} (x : Da F H v (.tuple [a, b])) : ∃ p va vb, v = .ref p ∧ ¬ F p ∧ H p = some (.tup [va, vb]) ∧ Da F H va a ∧ Da F H vb b := by
  cases x with
  | @tup p ys _ nF e al =>
  cases al with
  | cons a1 al =>
  cases al with
  | cons a2 al =>
  cases al
  exact ⟨p, _, _, rfl, nF, e, a1, a2⟩
theorem cut_set {α : Type} {l : List α} {i : Nat} {x : α} (h : i < l.length) : l.take i ++ [x] ++ l.drop (i + 1) = l.set i x := by
  rw [List.set_eq_take_append_cons_drop, if_pos h, List.append_assoc]
  rfl
section
variable {P : Program} {w : World} {K : PySem.W.Frag} {mg : Str → Option Value} {base : Heap}
def sp_with : Sp := fun vs H Q _ => ∃ (F : AS) (t k o : Tr) (r : List Nat) (v vp vo : V) (m : Nat), vs = [v, vp, vo] ∧ Trk F H ∧ tok t = true ∧ Da F H v (TD t) ∧ Da F H vp (pD r) ∧ Da F H vo (TD o) ∧ sub r t = some k ∧ Gn 6 m (TD t) ∧ m ≤ 60 ∧
  ∀ v' H', Same H H' → Da F H' v' (TD (put r t o)) → Q v' H'
theorem ok_with_subtree (T : Top K mg) : FnOk P w K mg base CX0 1 T.with_subtree T.with_subtree_d ["tree", "path", "other"] sp_with := by
  refine T.with_subtree_f.ok sc_with_subtree (fun vs H Q E h => ?_) (fun cdv A outer s H vs Q E hr h => ?_)
  · obtain ⟨F, t, k, o, r, v, vp, vo, m, rfl, _⟩ := h
    rfl
  obtain ⟨F, t, k, o, r, v, vp, vo, m, rfl, hT, ht, ha, hp, hO, hs, hg, hm, q⟩ := h
  -- slots: 0 tree, 1 path, 2 other, 3 around, 4 index, 5 head, 6 ink, 7 items
  refine ⟨_, (pss_cons (ps_set (i := 3) sc_with_subtree.nd rfl (.inl rfl) (pe_lst pa_nil))
      (pss_cons (ps_for PassesOwn.never rfl (pi_tup (pv 1)) (pg_name (i := 4) sc_with_subtree.nd rfl (.inl rfl)) (pss_cons (ps_expr (pe_bm PySem.F.plainAttrs_list PySem.F.slot_list_append PySem.F.type_list_append mt_append (pv 3) (pa_cons (pe_tup (pa_cons (pv 0) (pa_cons (pv 4) pa_nil))) pa_nil)))
      (pss_one (ps_set (i := 0) sc_with_subtree.nd rfl (.inl rfl) (pe_ix ix_tup (pe_ix ix_tup (pv 0) pe_int (fun _ _ => rfl)) (pv 4) (fun _ _ => rfl))))))
      (pss_cons (ps_for PassesOwn.never rfl (pi_list (pe_revL (pv 3))) (pg_tup rfl (pgs_cons (pg_tup rfl (pgs_cons (pg_name (i := 5) sc_with_subtree.nd rfl (.inl rfl)) (pgs_cons (pg_name (i := 6) sc_with_subtree.nd rfl (.inl rfl)) (pgs_cons (pg_name (i := 7) sc_with_subtree.nd rfl (.inl rfl)) pgs_nil)))) (pgs_cons (pg_name (i := 4) sc_with_subtree.nd rfl (.inl rfl)) pgs_nil))) (pss_one (ps_set (i := 2) sc_with_subtree.nd rfl (.inl rfl) (pe_tup (pa_cons (pv 5) (pa_cons (pv 6) (pa_cons (pe_op op_catA (pe_op op_catA (pe_slice sl_tupA (pv 7) po_none (po_some (pv 4))) (pe_tup (pa_cons (pv 2) pa_nil))) (pe_slice sl_tupA (pv 7) (po_some (pe_op op_add (pv 4) pe_int)) po_none)) pa_nil)))))))
      (pss_one (ps_ret (pv 2)))))), ?_⟩
  have lr := (gn_sub r t k m hg hs).2
  refine ⟨by decide, fun R nR => ?_⟩
  have sR := same_upd (o := .lst []) nR
  obtain ⟨pp, rfl, npp, epp⟩ := hp.path
  have rR : pp ≠ R := fun z => by rw [z, nR] at epp; cases epp
  refine ⟨_, rfl, pp, rfl, ⟨_, SqT.of (sR _ _ epp)⟩, for_tup (xs := r.map fun i : Nat => V.int (i : Int)) (fun i σ H' => Same H H' ∧ Trk (Wth F R) H' ∧ ∃ v u t' vs cs m', σ = [some v, some (.ref pp), some vo, some (.ref R), u, none, none, none] ∧ H' R = some (.lst vs) ∧ DaAll (Wth F R) H' vs (cs.map cD) ∧ cs.length = i ∧ (∀ c ∈ cs, Stp c) ∧
      tok t' = true ∧ Da (Wth F R) H' v (TD t') ∧ Gn 6 m' (TD t') ∧ sub (r.drop i) t' = some k ∧ ∀ o, put r t o = cs.foldr up (put (r.drop i) t' o)) ⟨sR, (hT.same sR).wth upd_same, v, none, t, [], [], m, rfl, upd_same, .nil, rfl, fun c hc => (by cases hc), ht, (ha.avoid nR).same sR, hg, hs, fun o => rfl⟩ ?_ ?_ ?_⟩
  · rintro i σ H' hi ⟨s1, _⟩
    exact SqT.of (s1 _ _ epp)
  · rintro i x σ H' hx ⟨s1, c1, v, u, t', vs, cs, m', rfl, eR, aR, lc, sc, ht', ha', hg', hs', hput⟩
    rw [List.getElem?_map] at hx
    obtain ⟨mm, em, rfl⟩ := Option.map_eq_some_iff.mp hx
    obtain ⟨hm', em'⟩ := List.getElem?_eq_some_iff.mp em
    rw [List.drop_eq_getElem_cons hm', em'] at hs' hput
    obtain ⟨h, ink, pre, kids⟩ := t'
    obtain ⟨j, kk, rfl, ek, hs2⟩ := sub_cons hs'
    obtain ⟨w3, m2, gh, gi, lw, gp, gk⟩ := gnT_inv hg'
    have lvs := aR.length
    rw [List.length_map] at lvs
    refine ⟨_, rfl, .inl ⟨rfl, _, SqL.of eR⟩, _, rfl, _, rfl, (show 2 ≤ sizeLine by decide), fun p2 np2 => ⟨R, vs, _, rfl, rfl, ?_, small1000 (by omega), ?_⟩⟩
    · rw [upd_ne (ne_of_none eR np2)]
      exact eR
    have s2 := same_upd (o := .tup [v, .int ((fk h + j : Nat) : Int)]) np2
    have x3 : Ext R (L2.upd H' p2 (.tup [v, .int ((fk h + j : Nat) : Int)])) (L2.upd (L2.upd H' p2 (.tup [v, .int ((fk h + j : Nat) : Int)])) R (.lst (vs ++ [.ref p2]))) := Ext.upd
    have ha3 := (ha'.same s2).ext x3 (.inr rfl)
    obtain ⟨p, vi, qa, xs, rfl, nF, ep', ai, nq, eq, al⟩ := ha3.node
    obtain ⟨vk, evk, avk⟩ := get_kid ht' al ek
    refine ⟨_, rfl, p, _, 2, .ref qa, rfl, rfl, SqT.of ep', atI_nat (j := 2) rfl, _, rfl, qa, xs, _, vk, rfl, rfl, SqT.of eq, atI_nat evk, ?_⟩
    refine ⟨fun a ob e => ?_, fun a hz => ?_, vk, _, kk, _, cs ++ [(.nd h ink pre kids, fk h + j)], m' - 2, rfl, upd_same, ?_, by rw [List.length_append, lc]; rfl, fun c hc => ?_, (tok_inv ht').2.2 kk (List.mem_of_getElem? ek), avk, gk kk (List.mem_of_getElem? ek), hs2, fun o => ?_⟩
    · rw [upd_ne (ne_of_none e nR)]
      exact s2 _ _ (s1 _ _ e)
    · by_cases na : a = R
      · exact ⟨_, by rw [na]; exact upd_same⟩
      · obtain ⟨ob, e⟩ := (c1.same s2) a hz
        exact ⟨ob, by rw [upd_ne na]; exact e⟩
    · rw [List.map_append]
      exact ((aR.same s2).append (.cons (.tup (c1.new np2) upd_same (.cons (ha'.same s2) (.cons (.int _) .nil))) .nil)).ext x3 (.inr rfl)
    · rcases List.mem_append.mp hc with z | z
      · exact sc c z
      · rw [List.mem_singleton.mp z]
        exact ⟨h, ink, pre, kids, j, rfl, ht', (List.getElem?_eq_some_iff.mp ek).1, lw⟩
    · rw [hput o, up_put ek, List.foldr_append]
      rfl
  · rintro σ H' ⟨s1, c1, v, u, t', vs, cs, m', rfl, eR, aR, lc, sc, ht', ha', hg', hs', hput⟩
    rw [List.length_map, List.drop_length] at hs' hput
    cases hs'
    have lvs := aR.length
    rw [List.length_map] at lvs
    refine ⟨_, rfl, R, vs, rfl, SqL.of eR, fun p2 np2 => ?_⟩
    have s2 := same_upd (o := .lst vs.reverse) np2
    refine ⟨p2, rfl, ⟨_, SqL.of upd_same⟩, ?_⟩
    have arev : DaAll F (L2.upd H' p2 (.lst vs.reverse)) vs.reverse (cs.reverse.map cD) := by
      have rev : ∀ {vs : List V} {ds : List PyData}, DaAll F (L2.upd H' p2 (.lst vs.reverse)) vs ds → DaAll F (L2.upd H' p2 (.lst vs.reverse)) vs.reverse ds.reverse := fun {vs ds} h => by
        have go : ∀ {K : Hp} {vs : List V} {ds : List PyData}, DaAll F K vs ds → DaAll F K vs.reverse ds.reverse := by
          intro K vs
          induction vs with
          | nil => intro ds h; cases h; exact .nil
          | cons v vs ih =>
            intro ds h
            cases h with
            | cons a b =>
              rw [List.reverse_cons, List.reverse_cons]
              exact (ih b).append (.cons a .nil)
        exact go h
      rw [List.map_reverse]
      exact rev ((aR.wth).same s2)
    have s12 := s1.trans s2
    refine for_list (xs := vs.reverse) (fun i σ H3 => Same (L2.upd H' p2 (.lst vs.reverse)) H3 ∧ ∃ vo' a b c d, σ = [some v, some (.ref pp), some vo', some (.ref R), a, b, c, d] ∧ Da F H3 vo' (TD ((cs.reverse.take i).foldl (fun o c => up c o) o))) ⟨Same.refl _, vo, _, _, _, _, rfl, hO.same s12⟩ ?_ ?_ ?_
    · rintro i σ H3 hi ⟨s3, _⟩
      exact SqL.of (s3 _ _ upd_same)
    · rintro i x σ H3 hx ⟨s3, vo', a, b, c, d, rfl, ao⟩
      obtain ⟨dx, edx, ax⟩ := arev.get hx
      rw [List.getElem?_map] at edx
      obtain ⟨cc, ecc, rfl⟩ := Option.map_eq_some_iff.mp edx
      obtain ⟨h, ink, pre, kids, j, rfl, htc, hj, lw⟩ := sc cc (List.mem_reverse.mp (List.mem_of_getElem? ecc))
      obtain ⟨p4, va, vb, rfl, n4, e4, aa, ab⟩ := (ax.same s3).pair
      cases ab
      obtain ⟨p, vi, qa, xs, rfl, nF, ep', ai, nq, eq, al⟩ := aa.node
      have c3 := (hT.same s12).same s3
      refine ⟨p4, _, rfl, SqT.of e4, rfl, _, _, rfl, ?_⟩
      refine ⟨p, _, rfl, SqT.of ep', rfl, _, _, rfl, _, _, rfl, _, _, rfl, rfl, _, _, rfl, rfl, ?_⟩
      refine ⟨_, rfl, _, rfl, _, rfl, ?_⟩
      refine go_nopart ?_
      refine ⟨_, rfl, _, rfl, ?_⟩
      refine rsl_to c3 nq eq al fun v5 H5 s5 a5 => ⟨_, rfl, (show 1 ≤ sizeLine by decide), fun p6 np6 => ?_⟩
      have s6 := same_upd (o := .tup [vo']) np6
      have c5 := c3.same s5
      have s56 := s5.trans s6
      refine rcat (c5.same s6) (a5.same s6) (.tup (c5.new np6) upd_same (.cons (ao.same s56) .nil)) ?_ fun v7 H7 s7 a7 => ?_
      · rw [List.length_take, List.length_append, TL_length]
        refine Nat.le_of_lt (small1000 ?_)
        show _ + 1 ≤ _
        omega
      have s57 := s56.trans s7
      have c7 := (c5.same s6).same s7
      refine ⟨_, rfl, _, rfl, _, _, rfl, rfl, _, rfl, ?_⟩
      refine go_nopart ?_
      have e1 : ((fk h + j : Nat) : Int) + 1 = ((fk h + j + 1 : Nat) : Int) := by omega
      rw [e1]
      refine rsl_from c7 nq (s57 _ _ eq) (al.same s57) fun v8 H8 s8 a8 => ?_
      have c8 := c7.same s8
      refine rcat c8 (a7.same s8) a8 ?_ fun v9 H9 s9 a9 => ⟨(show 3 ≤ sizeLine by decide), fun p10 np10 => ?_⟩
      · rw [List.length_append, List.length_take, List.length_drop, List.length_append, TL_length]
        refine Nat.le_of_lt (small1000 ?_)
        show _ + 1 + _ ≤ _
        omega
      have s10 := same_upd (o := .tup [.str h, vi, v9]) np10
      have sall := ((s57.trans s8).trans s9).trans s10
      refine ⟨s3.trans sall, .ref p10, _, _, _, _, rfl, ?_⟩
      obtain ⟨hj2, _, _⟩ := tok_inv htc
      rw [cut_set (by rw [List.length_append, TL_length]; omega), items_set htc] at a9
      rw [List.take_add_one, ecc, List.foldl_append]
      show Da F _ (.ref p10) (TD (up (.nd h ink pre kids, fk h + j) _))
      unfold up
      show Da F _ (.ref p10) (TD (.nd h ink pre (kids.set (fk h + j - fk h) _)))
      rw [Nat.add_sub_cancel_left]
      cases a9 with
      | tup n9 e9 al9 =>
      exact Da.mkNode ((c8.same s9).new np10) upd_same (ai.same sall) ((Da.tup n9 e9 al9).same s10)
    · rintro σ H3 ⟨s3, vo', a, b, c, d, rfl, ao⟩
      refine ⟨_, rfl, q vo' H3 (s12.trans s3) ?_⟩
      rw [hput o]
      rw [List.length_reverse, lvs, List.take_of_length_le (by rw [List.length_reverse]; omega)] at ao
      rw [List.foldl_reverse] at ao
      exact ao
end
end Sa

set_option Elab.async false
set_option linter.all false
set_option maxRecDepth 100000
set_option maxHeartbeats 4000000
namespace Sa
open PySem PySem.Spec PyProof.Rows L2
/-! ### nodes in plain Lean -/
def nd1 (x : List Nat × Tr) : List (List Nat × Tr) := nds x.2 x.1
def kp : List Tr → List Nat → Nat → List (List Nat × Tr)
  | [], _, _ => []
  | k :: ks, p, i => (p ++ [i], k) :: kp ks p (i + 1)
theorem kp_nds : ∀ (ks : List Tr) (p : List Nat) (i : Nat), (kp ks p i).flatMap nd1 = ndsL ks p i
  | [], _, _ => rfl
  | k :: ks, p, i => by
    rw [kp, ndsL, List.flatMap_cons, kp_nds ks p (i + 1)]
    rfl
theorem kp_length : ∀ (ks : List Tr) (p : List Nat) (i : Nat), (kp ks p i).length = ks.length
  | [], _, _ => rfl
  | k :: ks, p, i => by rw [kp, List.length_cons, List.length_cons, kp_length ks]
theorem kp_at : ∀ (ks : List Tr) (p : List Nat) (i j : Nat) (k : Tr), ks[j]? = some k → (kp ks p i)[j]? = some (p ++ [i + j], k)
  | [], _, _, _, _, e => by simp at e
  | k :: ks, p, i, 0, _, e => by
    cases e
    rfl
  | k :: ks, p, i, j + 1, k', e => by
    rw [kp, List.getElem?_cons_succ, kp_at ks p (i + 1) j k' e, Nat.add_right_comm, Nat.add_assoc]
theorem nd1_self (x : List Nat × Tr) : x ∈ nd1 x := by
  obtain ⟨p, h, ink, pre, kids⟩ := x
  show _ ∈ nds _ _
  rw [nds]
  exact List.mem_cons_self
theorem len_flat : ∀ l : List (List Nat × Tr), l.length ≤ (l.flatMap nd1).length
  | [] => Nat.le_refl _
  | (p, .nd h ink pre kids) :: l => by
    have := len_flat l
    rw [List.flatMap_cons, List.length_append, List.length_cons]
    have e : 1 ≤ (nd1 (p, Tr.nd h ink pre kids)).length := by
      show 1 ≤ (nds _ _).length
      rw [nds, List.length_cons]
      omega
    omega
theorem split_last {α : Type} {l : List α} (h : l ≠ []) : ∃ a x, l = a ++ [x] := ⟨l.dropLast, l.getLast h, (List.dropLast_concat_getLast h).symm⟩
theorem DaAll.split {F : AS} {H : Hp} : ∀ {ds : List PyData} {d : PyData} {vs : List V}, DaAll F H vs (ds ++ [d]) → ∃ us u, vs = us ++ [u] ∧ DaAll F H us ds ∧ Da F H u d
  | [], _, _, .cons a .nil => ⟨[], _, rfl, .nil, a⟩
  | _ :: _, _, _, .cons a b => by
    obtain ⟨us, u, e, x, y⟩ := b.split
    exact ⟨_ :: us, u, by rw [e]; rfl, .cons a x, y⟩
section
variable {P : Program} {w : World} {K : PySem.W.Frag} {mg : Str → Option Value} {base : Heap}
def sp_nodes : Sp := fun vs H Q _ => ∃ (F : AS) (t : Tr) (v : V) (m : Nat), vs = [v] ∧ Trk F H ∧ tok t = true ∧ Da F H v (TD t) ∧ Gn 6 m (TD t) ∧ m ≤ 60 ∧ sz t ≤ 1000 ∧ ∀ v' H', Same H H' → Da F H' v' (.list ((nds t []).map eD)) → Q v' H'
theorem ok_nodes (T : Top K mg) : FnOk P w K mg base CX0 2 T.nodes T.nodes_d ["tree"] sp_nodes := by
  refine T.nodes_f.ok sc_nodes (fun vs H Q E h => ?_) (fun cdv A outer s H vs Q E hr h => ?_)
  · obtain ⟨F, t, v, m, rfl, _⟩ := h
    rfl
  obtain ⟨F, t, v, m, rfl, hT, ht, ha, hg, hm, hz, q⟩ := h
  -- slots: 0 tree, 1 found, 2 left, 3 path, 4 here, 5 first, 6 index
  refine ⟨_, (pss_cons (ps_par (i := 1) (j := 2) (by rfl) sc_nodes.nd rfl rfl (by decide) rfl rfl (pa_cons (pe_lst pa_nil) (pa_cons (pe_lst (pa_cons (pe_tup (pa_cons (pe_tup pa_nil) (pa_cons (pv 0) pa_nil))) pa_nil)) pa_nil)) (by rfl))
      (pss_cons (ps_while PassesOwn.never (pt_truth (pv 2) (by intro _; rfl)) (pss_cons (ps_asg (pe_bm0 PySem.F.plainAttrs_list PySem.F.slot_list_pop PySem.F.type_list_pop mt_pop (pv 2)) (pg_tup rfl (pgs_cons (pg_name (i := 3) sc_nodes.nd rfl (.inl rfl)) (pgs_cons (pg_name (i := 4) sc_nodes.nd rfl (.inl rfl)) pgs_nil))))
      (pss_cons (ps_expr (pe_bm PySem.F.plainAttrs_list PySem.F.slot_list_append PySem.F.type_list_append mt_append (pv 1) (pa_cons (pe_tup (pa_cons (pv 3) (pa_cons (pv 4) pa_nil))) pa_nil)))
      (pss_cons (ps_set (i := 5) sc_nodes.nd rfl (.inl rfl) (pe_call (ok_first_kid T) (hr.mono (by decide)) rfl T.first_kid_g T.first_kid_k T.first_kid_b .nil pass0 (pa_cons (pe_ix ix_tup (pv 4) pe_int (fun _ _ => rfl)) (pa_cons (pe_ix ix_tup (pv 4) pe_int (fun _ _ => rfl)) pa_nil))))
      (pss_one (ps_for PassesOwn.never rfl (pi_revR (by rfl) T.reversed_n (prg_2 (by rfl) T.range_n (pv 5) (pe_callB call_len_seq (by rfl) T.len_n (by decide +kernel) (pa_cons (pe_ix ix_tup (pv 4) pe_int (fun _ _ => rfl)) pa_nil)))) (pg_name (i := 6) sc_nodes.nd rfl (.inl rfl)) (pss_one (ps_expr (pe_bm PySem.F.plainAttrs_list PySem.F.slot_list_append PySem.F.type_list_append mt_append (pv 2) (pa_cons (pe_tup (pa_cons (pe_op op_catA (pv 3) (pe_tup (pa_cons (pv 6) pa_nil))) (pa_cons (pe_ix ix_tup (pe_ix ix_tup (pv 4) pe_int (fun _ _ => rfl)) (pv 6) (fun _ _ => rfl)) pa_nil))) pa_nil))))))))))
      (pss_one (ps_ret (pv 1))))), ?_⟩
  refine ⟨by decide, fun A1 n1 => ⟨by decide, fun p1 np1 => ⟨_, rfl, (show 2 ≤ sizeLine by decide), fun p2 np2 => ⟨(show 1 ≤ sizeLine by decide), fun A2 n2 => ?_⟩⟩⟩⟩
  have s1 := same_upd (o := .lst []) n1
  have s2 := same_upd (o := .tup []) np1
  have s3 := same_upd (o := .tup [.ref p1, v]) np2
  have s4 := same_upd (o := .lst [.ref p2]) n2
  have c1 : Trk (Wth F A1) (L2.upd H A1 (.lst [])) := (hT.same s1).wth upd_same
  have c2 := c1.same s2
  have c3 := c2.same s3
  have a12 : A1 ≠ A2 := ne_of_none (s3 _ _ (s2 _ _ upd_same)) n2
  have hroot : Da (Wth F A1) (L2.upd (L2.upd (L2.upd H A1 (.lst [])) p1 (.tup [])) p2 (.tup [.ref p1, v])) (.ref p2) (eD ([], t)) :=
    .tup (c2.new np2) upd_same (.cons ((Da.tup (c1.new np1) upd_same .nil).same s3) (.cons ((((ha.avoid n1).same s1).same s2).same s3) .nil))
  have s14 := ((s1.trans s2).trans s3).trans s4
  refine ⟨_, _, rfl, fun k σ H' => ∃ (fs ls : List V) (fd st : List (List Nat × Tr)) (y3 y4 y5 y6 : Option V), σ = [some v, some (.ref A1), some (.ref A2), y3, y4, y5, y6] ∧ Same H H' ∧ Trk (Wth (Wth F A1) A2) H' ∧ H' A1 = some (.lst fs) ∧ H' A2 = some (.lst ls) ∧ DaAll (Wth (Wth F A1) A2) H' fs (fd.map eD) ∧ DaAll (Wth (Wth F A1) A2) H' ls (st.map eD) ∧ fd ++ st.reverse.flatMap nd1 = nds t [] ∧ (st.reverse.flatMap nd1).length = k,
    ⟨sz t, [], [.ref p2], [], [([], t)], none, none, none, none, rfl, s14, (c3.same s4).wth upd_same, s4 _ _ (s3 _ _ (s2 _ _ upd_same)), upd_same, .nil, .cons ((hroot.avoid n2).same s4) .nil, ?_, ?_⟩, ?_⟩
  · show [] ++ ([([], t)].flatMap nd1) = _
    simp [nd1]
  · show ([([], t)].flatMap nd1).length = _
    simp [nd1, nds_length]
  rintro k σ H1 ⟨fs, ls, fd, st, y3, y4, y5, y6, rfl, s5, c5, e1, e2, al1, al2, heq, hk⟩
  have hst : st.length ≤ k := by
    have z := len_flat st.reverse
    rw [List.length_reverse, hk] at z
    exact z
  have lls := al2.length
  rw [List.length_map] at lls
  have hlen := congrArg List.length heq
  rw [List.length_append, nds_length, hk] at hlen
  have lfs := al1.length
  rw [List.length_map] at lfs
  refine ⟨_, rfl, !ls.isEmpty, .inl ⟨ls, SqL.of e2, rfl⟩, ite2 (fun e => ⟨_, fun _ _ h => h, ?_⟩) (fun e => ?_)⟩
  · have hne : st ≠ [] := fun z => by
      rw [z] at lls
      rw [List.eq_nil_of_length_eq_zero lls] at e
      cases e
    obtain ⟨st', ⟨p, t'⟩, rfl⟩ := split_last hne
    have hmem : (p, t') ∈ nds t [] := by
      rw [← heq]
      refine List.mem_append_right _ (List.mem_flatMap.mpr ⟨(p, t'), by simp, nd1_self _⟩)
    obtain ⟨r, er, hsub⟩ := nds_sub t [] p t' hmem
    rw [List.nil_append] at er
    subst er
    have tt' := tok_sub p t t' ht hsub
    obtain ⟨gt', lp⟩ := gn_sub p t t' m hg hsub
    rw [List.map_append] at al2
    obtain ⟨ls', u, rfl, al2', au⟩ := al2.split
    obtain ⟨h, ink, pre, kids⟩ := t'
    have ey : (ls' ++ [u])[(ls' ++ [u]).length - 1]? = some u := by
      rw [List.length_append, List.length_singleton, Nat.add_sub_cancel, List.getElem?_append_right (Nat.le_refl _), Nat.sub_self]
      rfl
    refine ⟨_, rfl, .inl ⟨rfl, _, SqL.of e2⟩, A2, _, u, rfl, rfl, e2, ey, ?_⟩
    rw [List.dropLast_concat]
    have x6 : Ext A2 H1 (L2.upd H1 A2 (.lst ls')) := Ext.upd
    obtain ⟨pu, va, vb, rfl, nu, eu, aa, ab⟩ := (au.ext x6 (.inr rfl)).pair
    have s6 : Same H (L2.upd H1 A2 (.lst ls')) := fun b o z => by
      rw [upd_ne (ne_of_none ((s1.trans (s2.trans s3)) _ _ z) n2)]
      exact s5 _ _ z
    have c6 : Trk (Wth (Wth F A1) A2) (L2.upd H1 A2 (.lst ls')) := fun a hz => by
      by_cases na : a = A2
      · exact ⟨_, by rw [na]; exact upd_same⟩
      · obtain ⟨o, z⟩ := c5 a hz
        exact ⟨o, by rw [upd_ne na]; exact z⟩
    have e16 : (L2.upd H1 A2 (.lst ls')) A1 = some (.lst fs) := by rw [upd_ne a12]; exact e1
    have al16 := al1.ext x6 (.inr rfl)
    have al26 := al2'.ext x6 (.inr rfl)
    have e26 : (L2.upd H1 A2 (.lst ls')) A2 = some (.lst ls') := upd_same
    generalize L2.upd H1 A2 (.lst ls') = H6 at x6 eu aa ab s6 c6 e16 al16 al26 e26
    refine ⟨pu, _, rfl, SqT.of eu, rfl, _, _, rfl, _, _, rfl, rfl, ?_⟩
    refine ⟨_, rfl, .inl ⟨rfl, _, SqL.of e16⟩, _, rfl, _, rfl, (show 2 ≤ sizeLine by decide), fun p7 np7 => ⟨A1, fs, _, rfl, rfl, ?_, small1000 (by omega), ?_⟩⟩
    · rw [upd_ne (ne_of_none e16 np7)]
      exact e16
    have s7 := same_upd (o := .tup [va, vb]) np7
    have x8 : Ext A1 (L2.upd H6 p7 (.tup [va, vb])) (L2.upd (L2.upd H6 p7 (.tup [va, vb])) A1 (.lst (fs ++ [.ref p7]))) := Ext.upd
    have fA1 : (Wth (Wth F A1) A2) A1 := .inl (.inr rfl)
    have s8 : Same H (L2.upd (L2.upd H6 p7 (.tup [va, vb])) A1 (.lst (fs ++ [.ref p7]))) := fun b o z => by
      rw [upd_ne (ne_of_none z n1)]
      exact s7 _ _ (s6 _ _ z)
    have c8 : Trk (Wth (Wth F A1) A2) (L2.upd (L2.upd H6 p7 (.tup [va, vb])) A1 (.lst (fs ++ [.ref p7]))) := fun a hz => by
      by_cases na : a = A1
      · exact ⟨_, by rw [na]; exact upd_same⟩
      · obtain ⟨o, z⟩ := (c6.same s7) a hz
        exact ⟨o, by rw [upd_ne na]; exact z⟩
    have e18 : (L2.upd (L2.upd H6 p7 (.tup [va, vb])) A1 (.lst (fs ++ [.ref p7]))) A1 = some (.lst (fs ++ [.ref p7])) := upd_same
    have e28 : (L2.upd (L2.upd H6 p7 (.tup [va, vb])) A1 (.lst (fs ++ [.ref p7]))) A2 = some (.lst ls') := by rw [upd_ne a12.symm]; exact s7 _ _ e26
    have al18 : DaAll (Wth (Wth F A1) A2) (L2.upd (L2.upd H6 p7 (.tup [va, vb])) A1 (.lst (fs ++ [.ref p7]))) (fs ++ [.ref p7]) ((fd ++ [(p, Tr.nd h ink pre kids)]).map eD) := by
      rw [List.map_append]
      exact ((al16.same s7).append (.cons (.tup (c6.new np7) upd_same (.cons (aa.same s7) (.cons (ab.same s7) .nil))) .nil)).ext x8 fA1
    have al28 := (al26.same s7).ext x8 fA1
    have aa8 := (aa.same s7).ext x8 fA1
    have ab8 := (ab.same s7).ext x8 fA1
    generalize L2.upd (L2.upd H6 p7 (.tup [va, vb])) A1 (.lst (fs ++ [.ref p7])) = H8 at s8 c8 e18 e28 al18 al28 aa8 ab8
    obtain ⟨ph, vi, qa, xs, rfl, nF, ep, ai, nq, eq, al⟩ := ab8.node
    obtain ⟨w3, m2, gh, gi, lw, gp, gk⟩ := gnT_inv gt'
    refine ⟨_, rfl, ph, _, 0, .str h, rfl, rfl, SqT.of ep, atI_nat (j := 0) rfl, _, rfl, ph, _, 2, .ref qa, rfl, rfl, SqT.of ep, atI_nat (j := 2) rfl, ?_⟩
    refine ⟨_, h, _, _, rfl, .tup nq eq al, fun H9 s9 => ?_⟩
    rw [firstK_fk tt']
    refine ⟨_, rfl, _, rfl, ph, _, 2, .ref qa, rfl, rfl, SqT.of (s9 _ _ ep), atI_nat (j := 2) rfl, qa, xs, rfl, .inr (SqT.of (s9 _ _ eq)), _, _, rfl, rfl, ?_⟩
    have lx := al.length
    rw [List.length_append, TL_length, (tok_inv tt').1] at lx
    have f2 : fk h ≤ 2 := by
      unfold fk
      split
      · omega
      · split
        · omega
        · split <;> omega
    have en : ((xs.length : Int) - (fk h : Int)).toNat = kids.length := by omega
    have lk := kp_length kids p (fk h)
    have lst : st'.length + 1 ≤ k := by
      rw [List.length_append] at hst
      exact hst
    refine ⟨by omega, by omega, by omega, by omega, ?_⟩
    refine for_rangeC (fun i σ H' => Same H H' ∧ Trk (Wth (Wth F A1) A2) H' ∧ ∃ (ls2 : List V) (y6 : Option V), σ = [some v, some (.ref A1), some (.ref A2), some va, some (.ref ph), some (.int (fk h)), y6] ∧ H' A1 = some (.lst (fs ++ [.ref p7])) ∧ H' A2 = some (.lst ls2) ∧ DaAll (Wth (Wth F A1) A2) H' (fs ++ [.ref p7]) ((fd ++ [(p, Tr.nd h ink pre kids)]).map eD) ∧
      DaAll (Wth (Wth F A1) A2) H' ls2 ((st' ++ (kp kids p (fk h)).reverse.take i).map eD) ∧ Da (Wth (Wth F A1) A2) H' va (pD p) ∧ Da (Wth (Wth F A1) A2) H' (.ref ph) (TD (.nd h ink pre kids))) ⟨s8.trans s9, c8.same s9, ls', _, rfl, s9 _ _ e18, s9 _ _ e28, al18.same s9, ?_, aa8.same s9, ab8.same s9⟩ ?_ ?_
    · rw [List.take_zero, List.append_nil]
      exact al28.same s9
    · rintro i σ H' hi ⟨z1, z2, ls2, y6, rfl, z3, z4, z5, z6, z7, z8⟩
      rw [en] at hi
      have ei : (fk h : Int) + ((((xs.length : Int) - (fk h : Int)).toNat : Nat) : Int) - 1 + (i : Int) * (-1) = ((fk h + (kids.length - 1 - i) : Nat) : Int) := by omega
      refine go_name ?_
      rw [ei]
      obtain ⟨ph', vi', qa', xs', ee, nF', ep', ai', nq', eq', al'⟩ := z8.node
      cases ee
      have ekk : kids[kids.length - 1 - i]? = some kids[kids.length - 1 - i] := List.getElem?_eq_getElem (by omega)
      generalize kids[kids.length - 1 - i] = kk at ekk
      obtain ⟨vk, evk, avk⟩ := get_kid tt' al' ekk
      have l6 := z6.length
      rw [List.length_map, List.length_append, List.length_take, List.length_reverse] at l6
      have lkk : kids.length ≤ 6 := by omega
      refine ⟨_, rfl, .inl ⟨rfl, _, SqL.of z4⟩, _, rfl, _, rfl, (show 1 ≤ sizeLine by decide), fun p10 np10 => ?_⟩
      have s10 := same_upd (o := .tup [.int ((fk h + (kids.length - 1 - i) : Nat) : Int)]) np10
      have c10 := z2.same s10
      refine rcat (F := Wth (Wth F A1) A2) (d1 := p.map fun i : Nat => PyData.int (i : Int)) (d2 := [.int ((fk h + (kids.length - 1 - i) : Nat) : Int)]) c10 (z7.same s10) (.tup (z2.new np10) upd_same (.cons (.int _) .nil)) ?_ fun v11 H11 s11 a11 => ?_
      · rw [List.length_map]
        exact Nat.le_of_lt (small1000 (show p.length + 1 ≤ 1000 by omega))
      have sa := s10.trans s11
      have c11 := c10.same s11
      refine ⟨_, rfl, ph, _, 2, .ref qa', rfl, rfl, SqT.of (sa _ _ ep'), atI_nat (j := 2) rfl, _, rfl, qa', xs', _, vk, rfl, rfl, SqT.of (sa _ _ eq'), atI_nat evk, (show 2 ≤ sizeLine by decide), fun p12 np12 => ?_⟩
      have s12 := same_upd (o := .tup [v11, vk]) np12
      have sb := sa.trans s12
      refine ⟨A2, ls2, _, rfl, rfl, sb _ _ z4, Nat.lt_of_le_of_lt (show _ ≤ 2000 by omega) (by decide), ?_⟩
      have x13 : Ext A2 (L2.upd H11 p12 (.tup [v11, vk])) (L2.upd (L2.upd H11 p12 (.tup [v11, vk])) A2 (.lst (ls2 ++ [.ref p12]))) := Ext.upd
      have fA2 : (Wth (Wth F A1) A2) A2 := .inr rfl
      refine ⟨fun b o z => ?_, fun a hz => ?_, _, _, rfl, ?_, upd_same, (z5.same sb).ext x13 fA2, ?_, (z7.same sb).ext x13 fA2, (z8.same sb).ext x13 fA2⟩
      · rw [upd_ne (ne_of_none ((s1.trans (s2.trans s3)) _ _ z) n2)]
        exact sb _ _ (z1 _ _ z)
      · by_cases na : a = A2
        · exact ⟨_, by rw [na]; exact upd_same⟩
        · obtain ⟨o, z⟩ := (z2.same sb) a hz
          exact ⟨o, by rw [upd_ne na]; exact z⟩
      · rw [upd_ne a12]
        exact sb _ _ z3
      · have er : (kp kids p (fk h)).reverse[i]? = some (p ++ [fk h + (kids.length - 1 - i)], kk) := by
          rw [List.getElem?_reverse (by omega), lk]
          exact kp_at kids p (fk h) _ kk ekk
        rw [List.take_add_one, er, ← List.append_assoc, List.map_append]
        refine ((z6.same sb).append (.cons (.tup (c11.new np12) upd_same (.cons ?_ (.cons ((avk.same sa).same s12) .nil))) .nil)).ext x13 fA2
        have e2 : pD (p ++ [fk h + (kids.length - 1 - i)]) = .tuple ((p.map fun i : Nat => PyData.int (i : Int)) ++ [.int ((fk h + (kids.length - 1 - i) : Nat) : Int)]) := by
          unfold pD
          rw [List.map_append]
          rfl
        rw [e2]
        exact a11.same s12
    · rintro σ H' ⟨z1, z2, ls2, y6, rfl, z3, z4, z5, z6, z7, z8⟩
      rw [en, List.take_of_length_le (by rw [List.length_reverse]; omega)] at z6
      have ef : (st' ++ (kp kids p (fk h)).reverse).reverse.flatMap nd1 = ndsL kids p (fk h) ++ st'.reverse.flatMap nd1 := by
        rw [List.reverse_append, List.reverse_reverse, List.flatMap_append, kp_nds]
      have eg : (st' ++ [(p, Tr.nd h ink pre kids)]).reverse.flatMap nd1 = (p, Tr.nd h ink pre kids) :: (ndsL kids p (fk h) ++ st'.reverse.flatMap nd1) := by
        rw [List.reverse_append]
        show List.flatMap nd1 ((p, Tr.nd h ink pre kids) :: st'.reverse) = _
        rw [List.flatMap_cons]
        show nds _ _ ++ _ = _
        rw [nds]
        rfl
      have hlt : (ndsL kids p (fk h) ++ st'.reverse.flatMap nd1).length + 1 = k := by
        rw [← hk, eg, List.length_cons]
      refine ⟨_, ?_, _, ls2, fd ++ [(p, Tr.nd h ink pre kids)], st' ++ (kp kids p (fk h)).reverse, _, _, _, _, rfl, z1, z2, z3, z4, z5, z6, ?_, congrArg List.length ef⟩
      · omega
      · rw [ef, ← heq, eg, List.append_assoc]
        rfl
  · have hls : ls = [] := by
      cases ls with
      | nil => rfl
      | cons _ _ => exact absurd rfl e
    have hst0 : st = [] := List.eq_nil_of_length_eq_zero (by rw [← lls, hls]; rfl)
    subst hst0
    have hfd : fd = nds t [] := by rw [← heq]; simp
    subst hfd
    refine ⟨_, rfl, q _ _ s5 (.lst (fun z => ?_) e1 al1.wth.wth)⟩
    exact (hT.new n1) z
theorem ok_count (T : Top K mg) : FnOk P w K mg base CX0 3 T.count T.count_d ["tree"] (fun vs H Q _ => ∃ (F : AS) (t : Tr) (v : V) (m : Nat), vs = [v] ∧ Trk F H ∧ tok t = true ∧ Da F H v (TD t) ∧ Gn 6 m (TD t) ∧ m ≤ 60 ∧ sz t ≤ 1000 ∧ ∀ H', Same H H' → Q (.int (sz t)) H') := by
  refine T.count_f.ok sc_count (fun vs H Q E h => ?_) (fun cdv A outer s H vs Q E hr h => ?_)
  · obtain ⟨F, t, v, m, rfl, _⟩ := h
    rfl
  obtain ⟨F, t, v, m, rfl, hT, ht, ha, hg, hm, hz, q⟩ := h
  -- slots: 0 tree
  refine ⟨_, (pss_one (ps_ret (pe_callB call_len_seq (by rfl) T.len_n (by decide +kernel) (pa_cons (pe_call (ok_nodes T) (hr.mono (by decide)) rfl T.nodes_g T.nodes_k T.nodes_b .nil pass0 (pa_cons (pv 0) pa_nil)) pa_nil)))), ?_⟩
  refine ⟨_, rfl, F, t, v, m, rfl, hT, ht, ha, hg, hm, hz, fun v' H' s1 a1 => ?_⟩
  cases a1 with
  | @lst p xs _ nF e al =>
  have l := al.length
  rw [List.length_map, nds_length] at l
  refine ⟨p, xs, rfl, .inl (SqL.of e), ?_⟩
  rw [l]
  exact q _ s1
end
end Sa

set_option Elab.async false
set_option linter.all false
set_option maxRecDepth 100000
set_option maxHeartbeats 4000000
namespace Sa
open PySem PySem.Spec PyProof.Rows L2
open AutoSeq1 (wpAny_loadPart')
/-! ### enumerate of a tuple -/
theorem newEnumT (tp : Addr) (its : Array Value) (sz : Nat) (dct : Option Addr) (sl : Array (Option Value)) :
    Meets (Builtin.«enumerate.__new__» ⟨[.type "enumerate", .ref tp], []⟩) (fun _ R st => st.heap.get? tp = some { cls := .type "tuple", dict := dct, data := .seq its sz, slots := sl } ∧
      R (.ok (.ret (.ref (st.heap.push { cls := .type "tuple_iterator", data := .fields #[.ref tp, .int 0 0] }).objs.size)))
        { st with heap := (st.heap.push { cls := .type "tuple_iterator", data := .fields #[.ref tp, .int 0 0] }).push { cls := .type "enumerate", data := .fields #[.none, .bool false, .ref st.heap.objs.size, rawInt 0, .none, .none] } }) :=
  .of_wp fun prog w A R st hh => by
    obtain ⟨hp, g, d, tk, os⟩ := st; obtain ⟨hl, h⟩ := hh
    have hsub := sub_enumerate
    have hL : Heap.IsTuple (Shared.heap ⟨hp, g, d, tk, os⟩) tp its := ⟨_, hl, rfl, sz, rfl⟩
    wp_walk using wpAny_loadPart' hl
    refine wpAny_stack_any fun st => wpAny_pure ?_
    split
    · rename_i c _ _ _ _ _
      cases (c == Value.type "enumerate")
      · wp_walk using wpAny_loadPart' hl, wpAny_pyIter_tuple hL
        exact ⟨_, rfl, h⟩
      · wp_walk using wpAny_loadPart' hl, wpAny_pyIter_tuple hL
        exact ⟨_, rfl, h⟩
    · wp_walk using wpAny_loadPart' hl, wpAny_pyIter_tuple hL
      exact ⟨_, rfl, h⟩
section
variable {prog : Program} {w : World} {A : Around} {E : Value → Shared → Prop} {s : Shared}
theorem callEnumT {tp : Addr} {its : Array Value} {Q : Value → Shared → Prop} (hL : s.heap.IsTuple tp its)
    (h : ∀ h', IsEnum h' (s.heap.objs.size + 1) s.heap.objs.size 0 .none → h'.IsTupleIter s.heap.objs.size tp 0 →
      (∀ b o, s.heap.get? b = some o → h'.get? b = some o) → Q (.ref (s.heap.objs.size + 1)) { s with heap := h' }) :
    wpAny (model prog w) A (call (.type "enumerate") [.ref tp]) Q E s := by
  obtain ⟨⟨c, dct, dt, sl⟩, hl, hc, n, hd⟩ := hL
  replace hc : c = .type "tuple" := hc
  replace hd : dt = .seq its n := hd
  subst hc hd
  refine callType_new F.called_enumerate (by decide) (F.typeCall_enumerate_1 _) (F.newCall_enumerate_1 _) (fun z => F.args_object_init_2 z _) F.entry_enumerate_new
    (newEnumT tp its n dct sl) ⟨hl, ?_⟩
  have hz : (s.heap.push { cls := .type "tuple_iterator", data := .fields #[.ref tp, .int 0 0] }).objs.size = s.heap.objs.size + 1 := Heap.size_push ..
  show _ ∧ _
  rw [hz]
  have he : IsEnum ((s.heap.push { cls := .type "tuple_iterator", data := .fields #[.ref tp, .int 0 0] }).push
      { cls := .type "enumerate", data := .fields #[.none, .bool false, .ref s.heap.objs.size, rawInt 0, .none, .none] }) (s.heap.objs.size + 1) s.heap.objs.size 0 .none := by
    have q := Heap.get?_push_size (s.heap.push { cls := .type "tuple_iterator", data := .fields #[.ref tp, .int 0 0] })
      (o := { cls := .type "enumerate", data := .fields #[.none, .bool false, .ref s.heap.objs.size, rawInt 0, .none, .none] }) rfl
    rw [hz] at q; exact q
  refine ⟨⟨_, he, rfl⟩, h _ he ⟨_, Heap.get?_push_of_some _ (Heap.get?_push_size _ rfl), rfl, rfl⟩ fun b o x => Heap.get?_push_of_some _ (Heap.get?_push_of_some _ x)⟩
end
theorem toIsTuple {h : Heap} {a : Addr} {its : Array Value} (p : IsTup h a its) : h.IsTuple a its := p
/-- the tuple at a, its items in new pairs -/
def IteT (K : PySem.W.Frag) (a : Addr) : It :=
  ⟨fun i H => ∃ (xs : List V) (x : V), SqT K H a xs ∧ xs[i]? = some x, fun i H v H' => ∃ T x, v = .ref T ∧ H T = none ∧ H' = L2.upd H T (.tup [.int (i : Nat), x]) ∧ ∀ xs, SqT K H a xs → xs[i]? = some x, fun i H => ∃ xs : List V, SqT K H a xs ∧ xs.length ≤ i⟩
theorem turnEnumT {P : Program} {w : World} {K : PySem.W.Frag} {elts : List Expr} {kk : Nat} {tpos : Pos} (a e it : Addr) :
    Turn P w K (.Tuple elts kk tpos) (IteT K a) [e, it] e (fun i h => (∃ old, IsEnum h e it ((i : Nat) : Int) old) ∧ h.IsTupleIter it a i ∧ e ≠ it ∧ a ≠ it ∧ a ≠ e) where
  mem := by simp
  obj := fun i h st b hb => by
    obtain ⟨⟨old, he⟩, ⟨o, ho, hc, hd⟩, _⟩ := st
    have z : b = e ∨ b = it := by simpa using hb
    rcases z with z | z
    · rw [z]; exact ⟨_, he, fun v q => nomatch q⟩
    · rw [z]; exact ⟨o, ho, fun v q => by rw [hd] at q; cases q⟩
  keep := fun i h h' st k => let ⟨⟨old, he⟩, hi, hne⟩ := st; ⟨⟨old, k e (by simp) _ he⟩, hi.at fun o q => k it (by simp) o q, hne⟩
  item := by
    intro X hP hw hK hc i pins s σ H E I hf st hg
    subst hP hw hK
    obtain ⟨⟨old, he⟩, hit, hne, hai, hae⟩ := st
    obtain ⟨xs, x, hq, hx⟩ := hg
    obtain ⟨its, rv, p, hz⟩ := I.tuple hq
    obtain ⟨u, hu, ru⟩ := rv.get hx
    have hel : e < s.heap.objs.size := Heap.lt_size he
    have hil : it < s.heap.objs.size := by obtain ⟨_, q, _⟩ := hit; exact Heap.lt_size q
    have hlt : i < its.toArray.size := by
      have := (List.getElem?_eq_some_iff.mp hu).1
      simpa using this
    refine wpAny_pyNext_enum_itemD (Draws.tuple (prog := X.prog) (w := X.w) (A := X.A.in1) (show X.A.in1.handled = none from I.ok.hd hc) it a hai its.toArray) he ⟨hit, p⟩ hlt hne (by simp [hne, Ne.symm hae]) fun x' h' tk hx' ho hit' hT hsz hk => ?_
    obtain rfl : x' = u := by
      have z : its.toArray[i]? = some u := by simpa using hu
      rw [z] at hx'
      exact (Option.some.inj hx').symm
    refine ⟨_, rfl, wpAny_letOwnedTupleGo_enum (s := { s with heap := h', toks := tk + 1 }) ho fun h'' he' sb => ?_⟩
    have hT2 : h''.get? s.heap.objs.size = some { cls := .type "tuple", data := .seq #[.int i tk, x'] } := (sb.2 _ (Nat.ne_of_gt hel)).trans hT
    have new : ObjOk X.prog X.w (L2.upd H s.heap.objs.size (.tup [.int (i : Nat), x])) h'' s.heap.objs.size (.tup [.int (i : Nat), x]) :=
      ⟨(show 2 ≤ sizeLine by decide), [.int i tk, x'], .cons ⟨_, rfl⟩ (.cons ru .nil), ⟨_, hT2, rfl, _, rfl⟩⟩
    have I1 : Inv X pins σ (L2.upd H s.heap.objs.size (.tup [.int (i : Nat), x])) { s with heap := h'', toks := tk + 1 } :=
      I.turnedNew (ch := [e, it]) (fun b ob hb q => (sb.2 b (fun z => hb (by simp [z]))).trans (hk b ob (fun z => hb (by simp [z])) (fun z => hb (by simp [z])) q)) hf (Nat.le_refl _) new
    refine ⟨.ref s.heap.objs.size, _, I1, rfl, ⟨_, x, rfl, I.hok.fresh (Nat.le_refl _), rfl, fun ys hy => by rw [I.tuple_inj hy hq]; exact hx⟩, ⟨⟨x', ?_⟩, hit'.1.at fun o q => (sb.2 it (Ne.symm hne)).trans q, hne, hai, hae⟩, fun b hb => ?_⟩
    · have e1 : ((i + 1 : Nat) : Int) = (i : Int) + 1 := by omega
      rw [e1]; exact he'
    · have hb' : b < s.heap.objs.size := by
        have z : b = e ∨ b = it := by simpa using hb
        rcases z with z | z
        · rw [z]; exact hel
        · rw [z]; exact hil
      rw [upd_ne (Nat.ne_of_lt hb')]
      exact (hf b hb).1
  done := by
    intro X hP hw hK hc i pins s σ H E I hf st hg
    subst hP hw hK
    obtain ⟨⟨old, he⟩, hit, hne, hai, hae⟩ := st
    obtain ⟨xs, hq, hx⟩ := hg
    obtain ⟨its, rv, p, hz⟩ := I.tuple hq
    obtain ⟨f0, f1, f2, f3, f4, f5⟩ := hf it (by simp)
    have hl := rv.length
    have hT : s.TypeIs (.ref e) "enumerate" := ⟨_, he, rfl⟩
    have fin : ∀ h', Heap.ExtBut it s.heap h' → (none : Option Value) = none ∧ Inv X pins σ H { s with heap := h' } := fun h' eb => ⟨rfl, I.turned (t' := s.toks) (fun b o hb q => eb b o hb q) f0 f1 f3 f4 f5⟩
    unfold pyNext
    refine wpAny_bind (wpAny_attempt (wpAny_callSpecial?_slot (name := Str.ofString "__next__") hT F.slot_enumerate_next
      (wpAny_call_entry F.slot_enumerate_next hT F.entry_enumerate_next ?_ (F.args_enumerate_next_1 _))))
    show wpAny _ _ (field (.ref e) 2 >>= _) _ _ _
    refine wpAny_bind (wpAny_field he rfl (x := .ref it) rfl ?_)
    refine wpAny_bind (wpAny_nextOf_tuple_end (I.ok.hd hc) hit p (by simp; omega) fun h' x he' hx' => ?_)
    obtain ⟨o, ho, hc'⟩ := hx'
    refine wpAny_bind (wpAny_isInstance (T := "StopIteration") (b := true) ⟨o, ho, hc'⟩ isSubtype_stop ?_)
    exact wpAny_pure (fin _ he')
  self := fun A i s Q E st h => let ⟨⟨_, he⟩, _⟩ := st; wpAny_pyIter_enum he h
def iEnumT (K : PySem.W.Frag) (ta : TA) : TI := fun σ H R => ta σ H fun vs H1 => ∃ a xs, vs = [.ref a] ∧ SqT K H1 a xs ∧ R (IteT K a) H1
theorem pi_enumT {X : Cx} {e : Expr} {ta : TA} {p pos tpos : Pos} {elts : List Expr} {kk : Nat} (hg : Gl X "enumerate") (hm : X.mg "enumerate" = none) (ha : PA X [e] ta) (hs : starEach [e] X.env = [(false, eval e X.env)] := by rfl) :
    PI X (.Tuple elts kk tpos) (.Call (.Name "enumerate" p) [e] [] pos) (iEnumT X.K ta) := by
  refine ⟨fun pins s σ H R I h => ?_⟩
  refine Call_ (ld_blt I hg hm boot_enumerate (PyProof.Rows.callWith_type1 (thn (ha.run pos pins s σ H _ I h) fun us s1 ⟨vs, H1, I1, r1, q1⟩ => ?_) hs rfl))
  obtain ⟨a, xs, ex, hq, q⟩ := q1
  subst ex
  cases r1 with
  | cons r rr =>
    cases rr
    cases r
    obtain ⟨its, rv, p', hz⟩ := I1.tuple hq
    refine callEnumT (toIsTuple p') fun h' he hit hk => wpAny_pyIter_enum he ?_
    have I2 : Inv X pins σ H1 { s1 with heap := h' } := I1.kept (t' := s1.toks) hk
    have hal : a < s1.heap.objs.size := by obtain ⟨_, z, _⟩ := p'; exact Heap.lt_size z
    refine ⟨s1.heap.objs.size + 1, [s1.heap.objs.size + 1, s1.heap.objs.size], _, _, H1, rfl, I2, turnEnumT a (s1.heap.objs.size + 1) s1.heap.objs.size, ⟨⟨.none, he⟩, hit, Nat.succ_ne_self _, Nat.ne_of_lt hal, Nat.ne_of_lt (Nat.lt_succ_of_lt hal)⟩, fun b hb => ?_, q⟩
    have z : b = s1.heap.objs.size + 1 ∨ b = s1.heap.objs.size := by simpa using hb
    have hle : s1.heap.objs.size ≤ b := by
      rcases z with z | z
      · rw [z]; exact Nat.le_add_right _ _
      · rw [z]; exact Nat.le_refl _
    exact I1.fpOk hle (I1.hok.fresh hle)
theorem for_enumT {K : PySem.W.Frag} {a : Addr} {xs : List V} {g : TG} {tb : TS} {D : Ends} {σ : L2.St} {H : Hp} (Pv : Nat → L2.St → Hp → Prop) (h0 : Pv 0 σ H) (hq : ∀ i σ H, Pv i σ H → SqT K H a xs)
    (hs : ∀ (i : Nat) (x : V) (T : Addr) (σ : L2.St) (H : Hp), xs[i]? = some x → Pv i σ H → H T = none → g (.ref T) σ (L2.upd H T (.tup [.int i, x])) fun σ2 H2 => tb { D with nx := Pv (i + 1), ct := Pv (i + 1), bk := D.nx } σ2 H2) (hd : ∀ σ H, Pv xs.length σ H → D.nx σ H) :
    ∃ W : Nat → Nat → L2.St → Hp → Prop, (∃ m, W 0 m σ H) ∧ ∀ i m σ H, W i m σ H →
      ((IteT K a).stop i H ∧ D.nx σ H) ∨ ((IteT K a).go i H ∧ ∃ N : L2.St → Hp → Prop, (∀ σ' H', N σ' H' → ∃ m', m' < m ∧ W (i + 1) m' σ' H') ∧ ∀ v H', (IteT K a).yld i H v H' → g v σ H' fun σ2 H2 => tb { D with nx := N, ct := N, bk := D.nx } σ2 H2) := by
  refine ⟨fun i m σ H => m = xs.length - i ∧ i ≤ xs.length ∧ Pv i σ H, ⟨xs.length, by simp, Nat.zero_le _, h0⟩, ?_⟩
  rintro i m σ H ⟨rfl, hi, p⟩
  have q := hq i σ H p
  by_cases hlt : i < xs.length
  · refine .inr ⟨⟨xs, xs[i], q, by simp [hlt]⟩, Pv (i + 1), fun σ' H' p' => ⟨xs.length - (i + 1), by omega, rfl, hlt, p'⟩, ?_⟩
    rintro v H' ⟨T, x, rfl, nT, rfl, y⟩
    exact hs i x T σ H (y xs q) p nT
  · have e : i = xs.length := by omega
    subst e
    exact .inl ⟨⟨xs, q, Nat.le_refl _⟩, hd σ H p⟩
end Sa

set_option Elab.async false
set_option linter.all false
set_option maxRecDepth 100000
set_option maxHeartbeats 4000000
namespace Sa
open PySem PySem.Spec PyProof.Rows L2
theorem sz_mem : ∀ {ts : List Tr} {k : Tr}, k ∈ ts → sz k ≤ szL ts
  | t :: ts, k, h => by
    rw [szL]
    rcases List.mem_cons.mp h with z | z
    · rw [z]; omega
    · have := sz_mem z
      omega
theorem flat_take (l : List (List Nat × Tr)) (i : Nat) : ((l.take i).flatMap nd1).length ≤ (l.flatMap nd1).length := by
  have e : (l.flatMap nd1).length = ((l.take i).flatMap nd1).length + ((l.drop i).flatMap nd1).length := by
    rw [← List.length_append, ← List.flatMap_append, List.take_append_drop]
  omega
section
variable {P : Program} {w : World} {K : PySem.W.Frag} {mg : Str → Option Value} {base : Heap}
def sp_all (n : Nat) : Sp := fun vs H Q _ => ∃ (F : AS) (t : Tr) (p : List Nat) (v vp : V) (m : Nat), vs = [v, vp] ∧ Trk F H ∧ tok t = true ∧ Da F H v (TD t) ∧ Da F H vp (pD p) ∧ Gn 6 m (TD t) ∧ m < n ∧ p.length + m ≤ 100 ∧ sz t ≤ 1000 ∧
  ∀ v' H', Same H H' → Da F H' v' (.list ((nds t p).map eD)) → Q v' H'
theorem all1 (T : Top K mg) {n : Nat} (IH : FnOk P w K mg base CX0 (n + 1) T._law_all T._law_all_d ["_law_tree", "_law_path"] (sp_all n)) :
    FnOk P w K mg base CX0 (n + 2) T._law_all T._law_all_d ["_law_tree", "_law_path"] (sp_all (n + 1)) := by
  refine T._law_all_f.ok sc__law_all (fun vs H Q E h => ?_) (fun cdv A outer s H vs Q E hr h => ?_)
  · obtain ⟨F, t, p, v, vp, m, rfl, _⟩ := h
    rfl
  obtain ⟨F, ⟨h, ink, pre, kids⟩, p, v, vp, m, rfl, hT, ht, ha, hp, hg, hm, hpm, hz, q⟩ := h
  have hr1 : Room 1 _ := hr.mono (by omega)
  -- slots: 0 _law_tree, 1 _law_path, 2 _law_found, 3 _law_first_here, 4 _law_at, 5 _law_kid
  refine ⟨_, (pss_cons (ps_par (i := 2) (j := 3) (by rfl) sc__law_all.nd rfl rfl (by decide) rfl rfl (pa_cons (pe_lst (pa_cons (pe_tup (pa_cons (pv 1) (pa_cons (pv 0) pa_nil))) pa_nil)) (pa_cons (pe_call (ok__law_first T) hr1 rfl T._law_first_g T._law_first_k T._law_first_b .nil pass0 (pa_cons (pe_ix ix_tup (pv 0) pe_int (fun _ _ => rfl)) pa_nil)) pa_nil)) (by rfl))
      (pss_cons (ps_for PassesOwn.never rfl (pi_enumT (by rfl) T.enumerate_n (pa_cons (pe_slice sl_tupA (pe_ix ix_tup (pv 0) pe_int (fun _ _ => rfl)) (po_some (pv 3)) po_none) pa_nil)) (pg_tup rfl (pgs_cons (pg_name (i := 4) sc__law_all.nd rfl (.inl rfl)) (pgs_cons (pg_name (i := 5) sc__law_all.nd rfl (.inl rfl)) pgs_nil))) (pss_one (ps_expr (pe_bm PySem.F.plainAttrs_list PySem.F.slot_list_extend PySem.F.type_list_extend mt_extend (pv 2) (pa_cons (pe_call IH hr rfl T._law_all_g T._law_all_k T._law_all_b .nil pass0 (pa_cons (pv 5) (pa_cons (pe_op op_catA (pv 1) (pe_tup (pa_cons (pe_op op_add (pv 3) (pv 4)) pa_nil))) pa_nil))) pa_nil)))))
      (pss_one (ps_ret (pv 2))))), ?_⟩
  obtain ⟨w3, m2, gh, gi, lw, gp, gk⟩ := gnT_inv hg
  obtain ⟨pt, vi, qa, xs, rfl, nF, ep, ai, nq, eq, al⟩ := ha.node
  refine ⟨_, rfl, _, rfl, (show 2 ≤ sizeLine by decide), fun p1 np1 => ⟨(show 1 ≤ sizeLine by decide), fun L nL => ?_⟩⟩
  have s1 := same_upd (o := .tup [vp, .ref pt]) np1
  have s2 := same_upd (o := .lst [.ref p1]) nL
  have s12 := s1.trans s2
  refine ⟨_, rfl, pt, _, 0, .str h, rfl, rfl, SqT.of (s12 _ _ ep), atI_nat (j := 0) rfl, h, rfl, fun H3 s3 => ?_⟩
  rw [firstL_fk]
  have s13 := s12.trans s3
  have s23 := s2.trans s3
  have nLH : H L = none := by
    cases e : H L with
    | none => rfl
    | some o => rw [s1 _ _ e] at nL; cases nL
  have c3 : Trk (Wth F L) H3 := (((hT.same s1).same s2).wth upd_same).same s3
  have nqL : ¬ Wth F L qa := fun z => z.elim nq fun y => by rw [y, nLH] at eq; cases eq
  refine ⟨_, _, rfl, _, rfl, pt, _, 2, .ref qa, rfl, rfl, SqT.of (s13 _ _ ep), atI_nat (j := 2) rfl, _, rfl, _, rfl, ?_⟩
  refine go_nopart ?_
  refine rsl_from (F := Wth F L) c3 nqL (s13 _ _ eq) ((al.avoid nLH).same s13) fun v4 H4 s4 a4 => ?_
  rw [(fk_items ht).1] at a4
  cases a4 with
  | @tup p4 ks _ n4 e4 al4 =>
  have l4 := al4.length
  rw [TL_length] at l4
  have lk := kp_length kids p (fk h)
  have tot : 1 + ((kp kids p (fk h)).flatMap nd1).length ≤ 1000 := by
    rw [kp_nds, ndsL_length]
    rw [sz] at hz
    exact hz
  have s14 := s13.trans s4
  refine ⟨p4, ks, rfl, SqT.of e4, ?_⟩
  refine for_enumT (xs := ks) (fun i σ H' => Same H H' ∧ Trk (Wth F L) H' ∧ ∃ (vs : List V) (y4 y5 : Option V), σ = [some (.ref pt), some vp, some (.ref L), some (.int (fk h)), y4, y5] ∧ H' L = some (.lst vs) ∧ DaAll (Wth F L) H' vs (((p, Tr.nd h ink pre kids) :: ((kp kids p (fk h)).take i).flatMap nd1).map eD) ∧
    H' p4 = some (.tup ks) ∧ DaAll (Wth F L) H' ks (TL kids) ∧ Da (Wth F L) H' vp (pD p)) ⟨s14, c3.same s4, [.ref p1], none, none, rfl, s4 _ _ (s3 _ _ upd_same), ?_, e4, al4, (hp.avoid nLH).same s14⟩ ?_ ?_ ?_
  · refine .cons ?_ .nil
    refine ((((Da.tup (hT.new np1) upd_same (.cons (hp.same s1) (.cons (ha.same s1) .nil))).avoid nL).same s2).same s3).same s4
  · rintro i σ H' ⟨_, _, vs, y4, y5, rfl, _, _, z, _⟩
    exact SqT.of z
  · rintro i x T5 σ H' hx ⟨z1, z2, vs, y4, y5, rfl, z3, z4, z5, z6, z7⟩ nT5
    have s5 := same_upd (o := .tup [.int i, x]) nT5
    obtain ⟨dx, edx, ax⟩ := z6.get hx
    obtain ⟨k, ek, rfl, mk⟩ := kid_at edx
    have c5 := z2.same s5
    refine ⟨T5, _, rfl, SqT.of upd_same, rfl, _, _, rfl, _, _, rfl, rfl, ?_⟩
    refine ⟨_, rfl, .inl ⟨rfl, _, SqL.of (s5 _ _ z3)⟩, _, rfl, _, rfl, _, rfl, _, rfl, _, _, rfl, rfl, (show 1 ≤ sizeLine by decide), fun p6 np6 => ?_⟩
    have s6 := same_upd (o := .tup [.int ((fk h : Int) + (i : Int))]) np6
    have c6 := c5.same s6
    have s56 := s5.trans s6
    refine rcat (F := Wth F L) (d1 := p.map fun i : Nat => PyData.int (i : Int)) (d2 := [.int ((fk h : Int) + (i : Int))]) c6 (z7.same s56) (.tup (c5.new np6) upd_same (.cons (.int _) .nil)) ?_ fun v7 H7 s7 a7 => ?_
    · rw [List.length_map]
      exact Nat.le_of_lt (small1000 (show p.length + 1 ≤ 1000 by omega))
    have s57 := s56.trans s7
    have c7 := c6.same s7
    have a7' : Da (Wth F L) H7 v7 (pD (p ++ [fk h + i])) := by
      have e2 : pD (p ++ [fk h + i]) = .tuple ((p.map fun i : Nat => PyData.int (i : Int)) ++ [.int ((fk h : Int) + (i : Int))]) := by
        unfold pD
        rw [List.map_append]
        rfl
      rw [e2]
      exact a7
    have szk := sz_mem mk
    rw [sz] at hz
    refine ⟨Wth F L, k, p ++ [fk h + i], x, v7, m - 2, rfl, c7, (tok_inv ht).2.2 k mk, ax.same s57, a7', gk k mk, by omega, by rw [List.length_append, List.length_singleton]; omega, by omega, fun v8 H8 s8 a8 => ?_⟩
    cases a8 with
    | @lst p8 zs _ n8 e8 al8 =>
    have s58 := s57.trans s8
    have lv := z4.length
    rw [List.length_map, List.length_cons] at lv
    have lz := al8.length
    rw [List.length_map, nds_length] at lz
    have lf := flat_take (kp kids p (fk h)) i
    refine ⟨L, p8, vs, zs, rfl, rfl, s58 _ _ z3, e8, Nat.le_of_lt (Nat.lt_of_le_of_lt (show _ ≤ 3000 by omega) (by decide)), ?_⟩
    have x9 : Ext L H8 (L2.upd H8 L (.lst (vs ++ zs))) := Ext.upd
    have fL : Wth F L L := .inr rfl
    have p4L : p4 ≠ L := fun z => n4 (.inr z)
    refine ⟨fun b o z => ?_, fun a hz => ?_, _, _, _, rfl, upd_same, ?_, ?_, (z6.same s58).ext x9 fL, (z7.same s58).ext x9 fL⟩
    · rw [upd_ne (ne_of_none z nLH)]
      exact s58 _ _ (z1 _ _ z)
    · by_cases na : a = L
      · exact ⟨_, by rw [na]; exact upd_same⟩
      · obtain ⟨o, z⟩ := (z2.same s58) a hz
        exact ⟨o, by rw [upd_ne na]; exact z⟩
    · have ei := kp_at kids p (fk h) i k ek
      rw [List.take_add_one, ei, List.flatMap_append, ← List.cons_append, List.map_append]
      refine ((z4.same s58).append ?_).ext x9 fL
      have e3 : (Option.toList (some (p ++ [fk h + i], k))).flatMap nd1 = nds k (p ++ [fk h + i]) := by
        show List.flatMap nd1 [_] = _
        simp [nd1]
      rw [e3]
      exact al8
    · rw [upd_ne p4L]
      exact s58 _ _ z5
  · rintro σ H' ⟨z1, z2, vs, y4, y5, rfl, z3, z4, z5, z6, z7⟩
    rw [l4, List.take_of_length_le (by omega), kp_nds] at z4
    refine ⟨_, rfl, q _ _ z1 (.lst (fun z => ?_) z3 ?_)⟩
    · exact hT.new nLH z
    · rw [nds]
      exact z4.wth
theorem ok__law_all (T : Top K mg) : ∀ n : Nat, FnOk P w K mg base CX0 (n + 1) T._law_all T._law_all_d ["_law_tree", "_law_path"] (sp_all n)
  | 0 => ⟨fun vs H Q E h => by obtain ⟨F, t, p, v, vp, m, _, _, _, _, _, _, h, _⟩ := h; omega, fun A outer s H args us vs Q E _ _ _ _ h => by obtain ⟨F, t, p, v, vp, m, _, _, _, _, _, _, h, _⟩ := h; omega⟩
  | n + 1 => all1 T (ok__law_all T n)
end
end Sa

set_option Elab.async false
set_option linter.all false
set_option maxRecDepth 100000
set_option maxHeartbeats 4000000
namespace Sa
open PySem PySem.Spec PyProof.Rows L2
theorem DaAll.erase {F : AS} {H : Hp} : ∀ {vs : List V} {ds : List PyData} (i : Nat), DaAll F H vs ds → DaAll F H (vs.eraseIdx i) (ds.eraseIdx i)
  | _, _, _, .nil => .nil
  | _, _, 0, .cons _ t => t
  | _, _, i + 1, .cons a t => .cons a (t.erase i)
section
variable {P : Program} {w : World} {K : PySem.W.Frag} {mg : Str → Option Value} {base : Heap}
def sp_mixed : Sp := fun vs H Q _ => ∃ (f : Addr) (F : AS) (v : V) (ds : List PyData), vs = [.ref f, v] ∧ Fd f H ∧ F f ∧ Trk F H ∧ Da F H v (.list ds) ∧ (∀ d ∈ ds, Gn 1000 59 d) ∧ ds.length ≤ 1000 ∧
  ∀ v' ds' H', Ext f H H' → Fd f H' → Da F H' v' (.list ds') → (∀ d ∈ ds', d ∈ ds) → ds'.length ≤ 1000 → Q v' H'
theorem ok__law_mixed (T : Top K mg) : FnOk P w K mg base CX0 2 T._law_mixed T._law_mixed_d ["_law_feed", "_law_items"] sp_mixed := by
  refine T._law_mixed_f.ok sc__law_mixed (fun vs H Q E h => ?_) (fun cdv A outer s H vs Q E hr h => ?_)
  · obtain ⟨f, F, v, ds, rfl, _⟩ := h
    rfl
  obtain ⟨f, F, v, ds, rfl, hF, hf, hT, ha, hg, hl, q⟩ := h
  -- slots: 0 _law_feed, 1 _law_items, 2 _law_left, 3 _law_found
  refine ⟨_, (pss_cons (ps_par (i := 2) (j := 3) (by rfl) sc__law_mixed.nd rfl rfl (by decide) rfl rfl (pa_cons (pe_callTy call_list_of (by rfl) T.list_n (by decide +kernel) (pa_cons (pv 1) pa_nil)) (pa_cons (pe_lst pa_nil) pa_nil)) (by rfl))
      (pss_cons (ps_while PassesOwn.never (pt_cmpR (op_neD hr.units) (pv 2) (pe_lst pa_nil) (nomark _)) (pss_one (ps_expr (pe_bm PySem.F.plainAttrs_list PySem.F.slot_list_append PySem.F.type_list_append mt_append (pv 3) (pa_cons (pe_bm PySem.F.plainAttrs_list PySem.F.slot_list_pop PySem.F.type_list_pop mt_popAt (pv 2) (pa_cons (pe_call (ok__law_draw T) (hr.mono (by decide)) rfl T._law_draw_g T._law_draw_k T._law_draw_b .nil pass0 (pa_cons (pv 0) (pa_cons (pe_callB call_len_seq (by rfl) T.len_n (by decide +kernel) (pa_cons (pv 2) pa_nil)) pa_nil))) pa_nil)) pa_nil)))))
      (pss_one (ps_ret (pv 3))))), ?_⟩
  cases ha with
  | @lst p xs _ nF e al =>
  have l0 := al.length
  refine ⟨_, rfl, p, xs, rfl, .inl (SqL.of e), fun L1 n1 => ⟨by decide, fun L2' n2 => ?_⟩⟩
  have s1 := same_upd (o := .lst xs) n1
  have s2 := same_upd (o := .lst []) n2
  have s12 := s1.trans s2
  have c2 : Trk (Wth (Wth F L1) L2') (L2.upd (L2.upd H L1 (.lst xs)) L2' (.lst [])) := (((hT.same s1).wth upd_same).same s2).wth upd_same
  have n2H : H L2' = none := by
    cases z : H L2' with
    | none => rfl
    | some o => rw [s1 _ _ z] at n2; cases n2
  have l12 : L1 ≠ L2' := ne_of_none upd_same n2
  have fL1 : L1 ≠ f := fun z => hT.new n1 (z ▸ hf)
  have fL2 : L2' ≠ f := fun z => hT.new n2H (z ▸ hf)
  have ff : Wth (Wth F L1) L2' f := .inl (.inl hf)
  refine ⟨_, _, rfl, fun k σ H' => ∃ (vs us : List V) (es gs : List PyData), σ = [some (.ref f), some (.ref p), some (.ref L1), some (.ref L2')] ∧ Ext f H H' ∧ Fd f H' ∧ Trk (Wth (Wth F L1) L2') H' ∧ H' L1 = some (.lst vs) ∧ H' L2' = some (.lst us) ∧ DaAll (Wth (Wth F L1) L2') H' vs es ∧ DaAll (Wth (Wth F L1) L2') H' us gs ∧ (∀ d ∈ es, d ∈ ds) ∧ (∀ d ∈ gs, d ∈ ds) ∧ es.length = k ∧ gs.length + k ≤ 1000,
    ⟨ds.length, xs, [], ds, [], rfl, Ext.same s12, hF.same s12, c2, s2 _ _ upd_same, upd_same, (((al.avoid n1).same s1).avoid n2).same s2, .nil, fun d hd => hd, fun d hd => (by cases hd), rfl, by simpa using hl⟩, ?_⟩
  rintro k σ H1 ⟨vs, us, es, gs, rfl, x1, b1, c1, e1, e2, al1, al2, m1, m2, rfl, hk⟩
  have lv := al1.length
  have lu := al2.length
  refine ⟨_, rfl, by decide, fun p3 np3 => ?_⟩
  have s3 := same_upd (o := .lst []) np3
  have gl : Gn 1000 60 (.list es) := Gn.list (by omega) fun d hd => hg d (m1 d hd)
  have gl0 : Gn 1000 60 (.list []) := Gn.list (n := 59) (Nat.zero_le _) fun d hd => by cases hd
  refine ⟨.list es, .list [], (Da.lst (F := fun _ => False) (fun z => z) (s3 _ _ e1) ((DaAll.mono (fun a o _ z => ⟨fun y => y, z⟩) es vs al1).same s3)).dp _ _, (Da.lst (F := fun _ => False) (fun z => z) upd_same .nil).dp _ _, gl.shaped (by decide), gl0.shaped (by decide), _, rfl, ?_⟩
  cases es with
  | nil =>
    refine ifNo (by rfl) ?_
    refine ⟨_, rfl, q _ gs _ (x1.trans (Ext.same s3)) (b1.same s3) (.lst (fun z => hT.new n2H z) (s3 _ _ e2) ((al2.wth.wth).same s3)) m2 (by omega)⟩
  | cons d es =>
  refine ifSo (by rfl) ⟨_, fun _ _ h => h, ?_⟩
  rw [List.length_cons] at lv
  refine ⟨_, rfl, .inl ⟨rfl, _, SqL.of (s3 _ _ e2)⟩, _, rfl, .inl ⟨rfl, _, SqL.of (s3 _ _ e1)⟩, _, rfl, _, rfl, L1, vs, rfl, .inl (SqL.of (s3 _ _ e1)), ?_⟩
  refine ⟨f, _, rfl, b1.same s3, by omega, by rw [lv]; rw [List.length_cons] at hk; omega, fun r H4 r0 r1 x4 b4 => ?_⟩
  have x34 : Ext f H1 H4 := (Ext.same s3).trans x4
  have e14 : H4 L1 = some (.lst vs) := x4 _ _ fL1 (s3 _ _ e1)
  have e24 : H4 L2' = some (.lst us) := x4 _ _ fL2 (s3 _ _ e2)
  have hr2 : r.toNat < vs.length := by omega
  have ey : vs[r.toNat]? = some vs[r.toNat] := List.getElem?_eq_getElem hr2
  generalize vs[r.toNat] = y at ey
  refine ⟨L1, vs, r, r.toNat, y, rfl, rfl, e14, by omega, by rw [List.length_cons] at hk; omega, seqIndex_of r0 (by omega), ey, ?_⟩
  obtain ⟨dy, edy, ay⟩ := (al1.ext x34 ff).get ey
  have x5 : Ext L1 H4 (L2.upd H4 L1 (.lst (vs.eraseIdx r.toNat))) := Ext.upd
  have w1 : Wth (Wth F L1) L2' L1 := .inl (.inr rfl)
  have w2 : Wth (Wth F L1) L2' L2' := .inr rfl
  have e25 : (L2.upd H4 L1 (.lst (vs.eraseIdx r.toNat))) L2' = some (.lst us) := by rw [upd_ne l12.symm]; exact e24
  refine ⟨L2', us, y, rfl, rfl, e25, small1000 (by rw [List.length_cons] at hk; omega), ?_⟩
  have x6 : Ext L2' (L2.upd H4 L1 (.lst (vs.eraseIdx r.toNat))) (L2.upd (L2.upd H4 L1 (.lst (vs.eraseIdx r.toNat))) L2' (.lst (us ++ [y]))) := Ext.upd
  have c4 := (c1.same s3).ext x4 b4
  have le : ((d :: es).eraseIdx r.toNat).length = es.length := by
    rw [List.length_eraseIdx, if_pos (by rw [List.length_cons]; omega), List.length_cons]
    rfl
  refine ⟨_, ?_, _, _, _, gs ++ [dy], rfl, fun a o na z => ?_, ?_, fun a hz => ?_, ?_, upd_same, (((al1.ext x34 ff).erase r.toNat).ext x5 w1).ext x6 w2, (((al2.ext x34 ff).append (.cons ay .nil)).ext x5 w1).ext x6 w2, fun z hz => m1 z (List.mem_of_mem_eraseIdx hz), fun z hz => ?_, rfl, ?_⟩
  · rw [le, List.length_cons]
    omega
  · rw [upd_ne (ne_of_none z n2H), upd_ne (ne_of_none z n1)]
    exact x34 _ _ na (x1 _ _ na z)
  · obtain ⟨g, ss, z, r⟩ := b4
    exact ⟨g, ss, by rw [upd_ne fL2.symm, upd_ne fL1.symm]; exact z, r⟩
  · by_cases na : a = L2'
    · exact ⟨_, by rw [na]; exact upd_same⟩
    · rw [upd_ne na]
      by_cases nb : a = L1
      · exact ⟨_, by rw [nb]; exact upd_same⟩
      · obtain ⟨o, z⟩ := c4 a hz
        exact ⟨o, by rw [upd_ne nb]; exact z⟩
  · rw [upd_ne l12]
    exact upd_same
  · rcases List.mem_append.mp hz with z | z
    · exact m2 _ z
    · rw [List.mem_singleton.mp z]
      exact m1 _ (List.mem_of_getElem? edy)
  · rw [le, List.length_append, List.length_singleton]
    rw [List.length_cons] at hk
    omega
end
end Sa

set_option Elab.async false
set_option linter.all false
set_option maxRecDepth 100000
set_option maxHeartbeats 4000000
namespace Sa
open PySem PySem.Spec PyProof.Rows L2
/-! ### if in a generator's body -/
section
variable {M : Model} {A : Around} {R : GenEnd} {Y : Protocol} {n : Nat} {s₀ : Shared} {c : Code} {fs : List Frame} {s : Shared} {env : Env} {K : Flow → Sem PySem.Fin} {J : Value → Sem PySem.Fin} {gd : Bool → Bool} {lv : List Value → List Value}
theorem seg_If {test : Expr} {a b : List Stmt} {pos : Pos}
    (h : wpAny M (A.over c fs) (isTrue test env (eval test env)) (fun d s' => if d = true then Seg M A R Y n s₀ c ((execs a env).wrap K J gd lv) fs s' else Seg M A R Y n s₀ c ((execs b env).wrap K J gd lv) fs s') (fun x s' => Seg M A R Y n s₀ c (J x) fs s') s) :
    Seg M A R Y n s₀ c ((exec (.If test a b pos) env).wrap K J gd lv) fs s := by
  rw [exec_If]
  refine seg_at ?_
  show Seg M A R Y n s₀ c ((isTrue test env (eval test env) >>= fun d => if d then execs a env else execs b env).wrap K J gd lv) fs s
  rw [Sem.bind_eq_wrap', Sem.wrap_wrap]
  refine seg_wrap (wpAny_mono h (fun d s' hd => ?_) fun _ _ x => x)
  cases d <;> exact hd
end
def tGIf (tc : TT) (t u : TGn) : TGn := fun D ys σ H => tc σ H fun b H1 => if b = true then t D ys σ H1 else u D ys σ H1
theorem gs_if {X : Cx} {test : Expr} {a b : List Stmt} {pos : Pos} {tc : TT} {t u : TGn} (hc : PT X test tc) (ha : GSs X a t) (hb : GSs X b u) : GS X (.If test a b pos) (tGIf tc t u) := by
  refine ⟨fun A S ip R n ys s₀ c fs K J gd lv s σ H D g hn k hI ht => ?_⟩
  obtain ⟨acc, cc, r, I⟩ := hI
  refine seg_If ?_
  rw [g.over]
  refine wpAny_mono (hc.run _ s σ H _ I ht) (fun d s' hd => ?_) fun x s' hx => k.exc n s₀ x s' hx
  obtain ⟨H2, I2, q2⟩ := hd
  cases d with
  | true => exact ha.run A S ip R n ys s₀ c fs K J gd lv s' σ H2 D g hn k ⟨acc, cc, r, I2⟩ q2
  | false => exact hb.run A S ip R n ys s₀ c fs K J gd lv s' σ H2 D g hn k ⟨acc, cc, r, I2⟩ q2
end Sa

set_option Elab.async false
set_option linter.all false
set_option maxRecDepth 100000
set_option maxHeartbeats 4000000
namespace Sa
open PySem PySem.Spec PyProof.Rows L2
/-! ### for in a generator's body -/
section
variable {M : Model} {A : Around} {R : GenEnd} {Y : Protocol} {n : Nat} {s₀ : Shared} {c : Code} {fs : List Frame} {s : Shared} {env : Env} {K : Flow → Sem PySem.Fin} {J : Value → Sem PySem.Fin} {gd : Bool → Bool} {lv : List Value → List Value}
theorem seg_For {target iter : Expr} {body orelse : List Stmt} {pos : Pos}
    (h : wpAny M (A.over c fs) (eval iter env) (fun x s1 => wpAny M (A.over c fs) (pyIter x) (fun it s2 => ∀ p, Seg M A R Y n s₀ (.forLoop target it body orelse env) (M.den (.forLoop target it body orelse env))
      (.ret (fun r => ((match r with | .ok f => (.pure f : Sem Flow) | .error e => .raise e).onRaise (cameBack env)).wrap K J gd lv) none (gd false) (lv []) c p [] :: fs) s2) (fun x s' => Seg M A R Y n s₀ c (J x) fs s') s1) (fun x s' => Seg M A R Y n s₀ c (J x) fs s') s)
    (hs : ∀ x, foldedSetIterable iter env x = pure x) : Seg M A R Y n s₀ c ((exec (.For target iter body orelse pos) env).wrap K J gd lv) fs s := by
  rw [exec_For]
  refine seg_at ?_
  show Seg M A R Y n s₀ c ((eval iter env >>= fun y => foldedSetIterable iter env y >>= fun x => standAt iter.pos >>= fun _ => holding [x] (pyIter x) >>= fun it => runOwn (.forLoop target it body orelse env) env).wrap K J gd lv) fs s
  rw [Sem.bind_eq_wrap', Sem.wrap_wrap]
  refine seg_wrap (wpAny_mono h (fun x s1 h1 => ?_) fun _ _ z => z)
  show Seg M A R Y n s₀ c ((foldedSetIterable iter env x >>= fun x => standAt iter.pos >>= fun _ => holding [x] (pyIter x) >>= fun it => runOwn (.forLoop target it body orelse env) env).wrap K J gd lv) fs s1
  rw [hs x]
  refine seg_at ?_
  show Seg M A R Y n s₀ c ((holding [x] (pyIter x) >>= fun it => runOwn (.forLoop target it body orelse env) env).wrap K J gd lv) fs s1
  rw [Sem.bind_eq_wrap', Sem.wrap_wrap]
  refine seg_wrap (wpAny_holding (wpAny_mono h1 (fun it s2 h2 => ?_) fun _ _ z => z))
  exact seg_call h2
end
section
variable {prog : Program} {w : World} {A : Around} {R : GenEnd} {Y : Protocol} {n : Nat} {s₀ : Shared} {fs : List Frame} {s : Shared} {env : Env}
/-- what a loop's code does with an exception -/
abbrev notedS (env : Env) (x : Value) : Sem PySem.Fin := (do noteFrame x env; theTreesLotGoes x : Sem Unit).wrap (fun _ => .raise x) .raise id id
theorem seg_forLoop {target : Expr} {it : Value} {body : List Stmt}
    (h : wpAny (model prog w) (A.over (.forLoop target it body [] env) fs) (pyNext it) (fun r s1 => match r with
      | none => Seg (model prog w) A R Y n s₀ (.block [] env) ((model prog w).den (.block [] env)) fs s1
      | some v => wpAny (model prog w) (A.over (.forLoop target it body [] env) fs) (letOwnedTupleGo target it v) (fun _ s2 =>
          wpAny (model prog w) (A.over (.forLoop target it body [] env) fs) (assign target env v) (fun _ s3 =>
            Seg (model prog w) A R Y n s₀ (.forLoop target it body [] env) ((execs body env).wrap (fun f => match f with
              | .next | .cont => .pure (.again (.forLoop target it body [] env))
              | .brk => .pure (.done .next)
              | .ret v => .pure (.done (.ret v))) (notedS env) id id) fs s3)
            (fun x s' => Seg (model prog w) A R Y n s₀ (.forLoop target it body [] env) (notedS env x) fs s') s2)
          (fun x s' => Seg (model prog w) A R Y n s₀ (.forLoop target it body [] env) (notedS env x) fs s') s1)
      (fun x s' => Seg (model prog w) A R Y n s₀ (.forLoop target it body [] env) (notedS env x) fs s') s) :
    Seg (model prog w) A R Y n s₀ (.forLoop target it body [] env) ((model prog w).den (.forLoop target it body [] env)) fs s := by
  show Seg _ A R Y n s₀ _ ((forTurn target it body [] env).onRaise (fun x => do noteFrame x env; theTreesLotGoes x)) fs s
  have exc : ∀ x, ((do noteFrame x env; theTreesLotGoes x : Sem Unit).bind (fun _ => (.raise x : Sem PySem.Fin))) = notedS env x := fun x => by
    first | exact Sem.bind_eq_wrap _ _ | rw [Sem.bind_eq_wrap]
  unfold forTurn
  rw [Sem.onRaise_eq_wrap]
  refine seg_at ?_
  rw [show (fun e => (do noteFrame e env; theTreesLotGoes e : Sem Unit).bind (fun _ => (.raise e : Sem PySem.Fin))) = notedS env from funext exc]
  show Seg _ A R Y n s₀ _ (((pyNext it).onRaise (fun _ => standAt { target.pos with line := 0 }) >>= fun r => (match r with
    | none => again (.block [] env)
    | some v => (do
      letOwnedTupleGo target it v
      assign target env v
      match ← execs body env with
      | .next | .cont => again (.forLoop target it body [] env)
      | .brk => pure (.done .next)
      | .ret v => pure (.done (.ret v))) : Sem PySem.Fin)).wrap Sem.pure (notedS env) id id) fs s
  rw [Sem.bind_eq_wrap', Sem.wrap_wrap]
  refine seg_wrap (wpAny_onRaise (wpAny_mono h (fun r s1 h1 => ?_) fun x s' h' => wpAny_standAt h'))
  cases r with
  | none => exact seg_again rfl h1
  | some v =>
    show Seg _ A R Y n s₀ _ ((letOwnedTupleGo target it v >>= fun _ => (do
      assign target env v
      match ← execs body env with
      | .next | .cont => again (.forLoop target it body [] env)
      | .brk => pure (.done .next)
      | .ret v => pure (.done (.ret v)) : Sem PySem.Fin)).wrap Sem.pure (notedS env) id id) fs s1
    rw [Sem.bind_eq_wrap', Sem.wrap_wrap]
    refine seg_wrap (wpAny_mono h1 (fun _ s2 h2 => ?_) fun _ _ z => z)
    show Seg _ A R Y n s₀ _ ((assign target env v >>= fun _ => (do
      match ← execs body env with
      | .next | .cont => again (.forLoop target it body [] env)
      | .brk => pure (.done .next)
      | .ret v => pure (.done (.ret v)) : Sem PySem.Fin)).wrap Sem.pure (notedS env) id id) fs s2
    rw [Sem.bind_eq_wrap', Sem.wrap_wrap]
    refine seg_wrap (wpAny_mono h2 (fun _ s3 h3 => ?_) fun _ _ z => z)
    show Seg _ A R Y n s₀ _ ((execs body env >>= fun f => (match f with
      | .next | .cont => again (.forLoop target it body [] env)
      | .brk => pure (.done .next)
      | .ret v => pure (.done (.ret v)) : Sem PySem.Fin)).wrap Sem.pure (notedS env) id id) fs s3
    rw [Sem.bind_eq_wrap', Sem.wrap_wrap]
    rw [Sem.wrap_congr (execs body env) _ _ (K' := fun f => match f with
      | .next | .cont => .pure (.again (.forLoop target it body [] env))
      | .brk => .pure (.done .next)
      | .ret v => .pure (.done (.ret v))) (H' := notedS env) (fun f => by cases f <;> rfl) (fun e => by rfl)]
    exact h3
end
end Sa

set_option Elab.async false
set_option linter.all false
set_option maxRecDepth 100000
set_option maxHeartbeats 4000000
namespace Sa
open PySem PySem.Spec PyProof.Rows L2
def tGFor (wi : TI) (g : TG) (tb : TGn) : TGn := fun D ys σ H => wi σ H fun J H1 => ∃ W : Nat → Nat → List V → L2.St → Hp → Prop, (∃ m, W 0 m ys σ H1) ∧ ∀ i m ys σ H, W i m ys σ H →
  (J.stop i H ∧ D.nx ys σ H) ∨ (J.go i H ∧ ∃ N : List V → L2.St → Hp → Prop, (∀ ys' σ' H', N ys' σ' H' → ∃ m', m' < m ∧ W (i + 1) m' ys' σ' H') ∧ ∀ x H', J.yld i H x H' → g x σ H' fun σ2 H2 => tb { D with nx := N, ct := N, bk := D.nx } ys σ2 H2)
theorem gs_for {X : Cx} {tg iter : Expr} {body : List Stmt} {pos : Pos} {wi : TI} {g : TG} {tb : TGn} (hp : PassesOwn (model X.prog X.w) X.A X.env X.xe) (hc : X.calm = true) (hi : PI X tg iter wi) (hg : PG X tg g) (hb : GSs X body tb)
    (hs : ∀ x, foldedSetIterable iter X.env x = pure x := by intro _; rfl) : GS X (.For tg iter body [] pos) (tGFor wi g tb) := by
  refine ⟨fun A S ip R n ys s₀ c fs K J gd lv s σ H D gc hn k hI ht => ?_⟩
  obtain ⟨acc, cc, r, I⟩ := hI
  refine seg_For ?_ hs
  rw [gc.over]
  refine wpAny_mono (hi.run _ s σ H _ I ht) (fun v s1 h1 => wpAny_mono h1 (fun itv s2 h2 => ?_) fun x s' hx => k.exc n s₀ x s' hx) fun x s' hx => k.exc n s₀ x s' hx
  obtain ⟨it, fp, tn, Jt, H2, e, I2, T, st2, f2, W, ⟨m0, w0⟩, turn⟩ := h2
  subst e
  intro p
  have gl := fun (kk : Result → Sem PySem.Fin) => gc_loop (k := kk) (c' := .forLoop tg (.ref it) body [] X.env) (l := lv []) (kp := []) (p := p) gc rfl rfl
  -- what stays true of the iterator's objects
  have stat : ∀ {H' : Hp} {acc' : Array Value} {cc' : Nat}, (∀ b ∈ fp, H' b = none) → ∀ b ∈ fp, FpOk X ((S, lstObj acc' cc') :: ip) H' b := fun {H' acc' cc'} hn b hb => by
    obtain ⟨_, q1, q2, q3, q4, q5⟩ := f2 b hb
    refine ⟨hn b hb, q1, q2, q3, q4, fun pp hpp => ?_⟩
    rcases List.mem_append.mp hpp with z | z
    · exact q5 pp (List.mem_append_left _ z)
    · rcases List.mem_cons.mp z with z | z
      · rw [z]
        exact q5 (S, lstObj acc cc) (List.mem_append_right _ List.mem_cons_self)
      · exact q5 pp (List.mem_append_right _ (List.mem_cons_of_mem _ z))
  have nS : ∀ b ∈ fp, b ≠ S := fun b hb z => (f2 b hb).2.2.2.2.2 (S, lstObj acc cc) (List.mem_append_right _ List.mem_cons_self) z.symm
  have unp : ∀ {q : List (Addr × Obj)} {ys : List V} {σ : L2.St} {H : Hp} {s : Shared}, GI X S (ip ++ q) ys σ H s → GI X S ip ys σ H s := fun {q ys σ H s} h => by
    obtain ⟨a1, c1, r1, I1⟩ := h
    exact ⟨a1, c1, r1, I1.pins_of fun pp hpp => I1.pin pp (List.mem_append_right _ ((List.mem_cons.mp hpp).elim (fun z => z ▸ List.mem_cons_self) fun z => List.mem_cons_of_mem _ (List.mem_append_left _ z)))⟩
  have loop : ∀ (m n i : Nat) (ys : List V) (s₀ s : Shared) (σ : L2.St) (H : Hp), n + ys.length = sizeLine → W i m ys σ H → GI X S ip ys σ H s → tn i s.heap → (∀ b ∈ fp, H b = none) →
      Seg (model X.prog X.w) A R (GY X S) n s₀ (.forLoop tg (.ref it) body [] X.env) ((model X.prog X.w).den (.forLoop tg (.ref it) body [] X.env))
        (.ret (fun r => ((match r with | .ok f => (.pure f : Sem Flow) | .error e => .raise e).onRaise (cameBack X.env)).wrap K J gd lv) none (gd false) (lv []) c p [] :: fs) s := by
    intro m
    induction m using Nat.strongRecOn with
    | ind m ih =>
      intro n i ys s₀ s σ H hn w hI st fr
      have ee : ∀ (n : Nat) (s₀ : Shared) (x : Value) (s' : Shared), X.xe x s' → Seg (model X.prog X.w) A R (GY X S) n s₀ (.forLoop tg (.ref it) body [] X.env) (notedS X.env x)
          (.ret (fun r => ((match r with | .ok f => (.pure f : Sem Flow) | .error e => .raise e).onRaise (cameBack X.env)).wrap K J gd lv) none (gd false) (lv []) c p [] :: fs) s' := fun n s₀ x s' hx => by
        refine seg_wrap ?_
        rw [(gl _).over]
        refine wpAny_bind (wpAny_mono (hp x s' hx) (fun _ s'' hcb => wpAny_theTreesLotGoes ?_) fun y s'' hcb => ?_)
        · exact seg_leaf (.error x) (seg_cameBack gc k hcb)
        · exact seg_leaf (.error y) (seg_cameBack gc k hcb)
      refine seg_forLoop ?_
      rw [(gl _).over]
      obtain ⟨acc1, cc1, r1, I1⟩ := hI
      rcases turn i m ys σ H w with ⟨stop, qn⟩ | ⟨go, N, hN, step⟩
      · refine wpAny_mono (T.done X rfl rfl rfl hc i _ s σ H X.xe I1 (stat fr) st stop) (fun r' s4 h4 => ?_) fun x s' hx => ee n s₀ x s' hx
        obtain ⟨hr, I4⟩ := h4
        subst hr
        exact seg_leaf (.ok .next) (k.ok n ys s₀ s4 .next hn ⟨σ, H, ⟨acc1, cc1, r1, I4⟩, qn⟩)
      · refine wpAny_mono (T.item X rfl rfl rfl hc i _ s σ H X.xe I1 (stat fr) st go) (fun r' s4 h4 => ?_) fun x s' hx => ee n s₀ x s' hx
        obtain ⟨u, hr, h4⟩ := h4
        subst hr
        refine wpAny_mono h4 (fun _ s5 h5 => ?_) fun x s' hx => ee n s₀ x s' hx
        obtain ⟨x, H5, I5, r5, y5, st5, fr5⟩ := h5
        have I5' := I5.pinned (stat fr5) (T.obj _ _ st5)
        refine wpAny_mono (hg.run _ s5 σ H5 x u _ I5' r5 (step x H5 y5)) (fun _ s6 h6 => ?_) fun x s' hx => ee n s₀ x s' hx
        obtain ⟨σ6, H6, I6, q6⟩ := h6
        have g2 := fun (kk : Result → Sem PySem.Fin) => (gl kk)
        refine hb.run A S (ip ++ pinsAt fp s5.heap) R n ys s₀ _ _ _ _ id id s6 σ6 H6 { D with nx := N, ct := N, bk := D.nx } { gl _ with ip := fun pp hpp => (List.mem_append.mp hpp).elim (gc.ip pp) fun z => nS _ (of_pinsAt z).1 } hn ⟨fun n' ys' s₀' s3 f hn' hs3 => ?_, fun n' s₀' x s3 hx => ee n' s₀' x s3 hx⟩ ⟨acc1, cc1, r1, I6⟩ q6
        have again : ∀ {σ3 : L2.St} {H3 : Hp}, GI X S (ip ++ pinsAt fp s5.heap) ys' σ3 H3 s3 → N ys' σ3 H3 → Seg (model X.prog X.w) A R (GY X S) n' s₀' (.forLoop tg (.ref it) body [] X.env) (.pure (.again (.forLoop tg (.ref it) body [] X.env)))
            (.ret (fun r => ((match r with | .ok f => (.pure f : Sem Flow) | .error e => .raise e).onRaise (cameBack X.env)).wrap K J gd lv) none (gd false) (lv []) c p [] :: fs) s3 := fun {σ3 H3} G3 n3 => by
          obtain ⟨m', hm, w3⟩ := hN ys' σ3 H3 n3
          have pinF : ∀ b ∈ fp, ∀ o, s5.heap.get? b = some o → s3.heap.get? b = some o ∧ H3 b = none := fun b hb o e => by
            obtain ⟨a3, c3, r3, I3⟩ := G3
            have z := I3.pin (b, o) (List.mem_append_right _ (List.mem_cons_of_mem _ (List.mem_append_right _ (mem_pinsAt hb e))))
            exact ⟨z.1, z.2.1⟩
          exact seg_again rfl (ih m' hm n' (i + 1) ys' s₀' s3 σ3 H3 hn' w3 (unp G3) (T.keep _ _ _ st5 fun b hb o e => (pinF b hb o e).1) fun b hb => by
            obtain ⟨o, e, _⟩ := T.obj _ _ st5 b hb
            exact (pinF b hb o e).2)
        cases f with
        | next =>
          obtain ⟨σ3, H3, G3, n3⟩ := hs3
          exact again G3 n3
        | cont =>
          obtain ⟨σ3, H3, G3, n3⟩ := hs3
          exact again G3 n3
        | brk =>
          obtain ⟨σ3, H3, G3, n3⟩ := hs3
          exact seg_leaf (.ok .next) (k.ok n' ys' s₀' s3 .next hn' ⟨σ3, H3, unp G3, n3⟩)
        | ret v =>
          obtain ⟨v3, σ3, H3, G3, r3, n3⟩ := hs3
          exact seg_leaf (.ok (.ret v)) (k.ok n' ys' s₀' s3 (.ret v) hn' ⟨v3, σ3, H3, unp G3, r3, n3⟩)
  exact loop m0 n 0 ys s₀ s2 σ H2 hn w0 ⟨acc, cc, r, I2⟩ st2 fun b hb => (f2 b hb).1
end Sa

set_option Elab.async false
set_option linter.all false
set_option maxRecDepth 100000
set_option maxHeartbeats 4000000
namespace Sa
open PySem PySem.Spec PyProof.Rows L2
section
variable {P : Program} {w : World} {K : PySem.W.Frag} {mg : Str → Option Value} {base : Heap}
def inkD (t : Tr) : List PyData := ((nds t []).filter hasInk).map dD
def sp_inked : SpG := fun vs H Q _ => ∃ (F : AS) (t : Tr) (v : V) (m : Nat), vs = [v] ∧ Trk F H ∧ tok t = true ∧ Da F H v (TD t) ∧ Gn 6 m (TD t) ∧ m ≤ 60 ∧ sz t ≤ 1000 ∧ ∀ out H', Same H H' → DaAll F H' out (inkD t) → Q out H'
theorem ok_inked (T : Top K mg) : GFn P w K mg base 3 T.inked T.inked_d ["tree"] sp_inked := by
  obtain ⟨⟨oc, od, kV, doc, pm, an, cdv, ct, osl, e1, e2, e3⟩, e4⟩ := T.inked_f
  rw [e1] at e2 ⊢
  refine gfn_of (k := 2) e2 e3 sc_inked (fun vs H Q E h => ?_) (fun A outer s H vs Q E pn hr h => ?_)
  · obtain ⟨F, t, v, m, rfl, _⟩ := h
    rfl
  obtain ⟨F, t, v, m, rfl, hT, ht, ha, hg, hm, hz, q⟩ := h
  refine ⟨_, gss_cons (gs_for owns_gcx rfl (pi_list (pe_call (ok_nodes T) hr rfl T.nodes_g T.nodes_k T.nodes_b .nil pass0 (pa_cons (pv 0) pa_nil))) (pg_tup rfl (pgs_cons (pg_name (i := 1) sc_inked.nd rfl (.inl rfl)) (pgs_cons (pg_name (i := 2) sc_inked.nd rfl (.inl rfl)) pgs_nil)))
    (gss_cons (gs_if (pt_cmpR (op_neD hr.units) (pe_ix ix_tup (pv 2) pe_int (fun _ _ => rfl)) (pe_tup pa_nil) (nomark _)) (gss_cons (gs_yield (pe_tup (pa_cons (pv 1) (pa_cons (pe_ix ix_tup (pv 2) pe_int (fun _ _ => rfl)) pa_nil)))) gss_nil) gss_nil) gss_nil)) gss_nil, ?_⟩
  refine ⟨_, rfl, F, t, v, m, rfl, hT, ht, ha, hg, hm, hz, fun v' H1 s1 a1 => ?_⟩
  cases a1 with
  | @lst p xs _ nF ep al =>
  have lx := al.length
  rw [List.length_map, nds_length] at lx
  refine ⟨p, rfl, ⟨_, SqL.of ep⟩, fun i k ys σ H' => i + k = xs.length ∧ Same H1 H' ∧ DaAll F H' ys ((((nds t []).take i).filter hasInk).map dD) ∧ ∃ y1 y2, σ = [some v, y1, y2], ⟨xs.length, by omega, Same.refl _, .nil, none, none, rfl⟩, ?_⟩
  rintro i k ys σ H2 ⟨hk, s2, ay, y1, y2, rfl⟩
  have lf : ys.length ≤ 1000 := by
    have z := ay.length
    rw [List.length_map] at z
    have z1 := List.length_filter_le hasInk ((nds t []).take i)
    rw [List.length_take, nds_length] at z1
    omega
  by_cases hi : i < xs.length
  · refine .inr ⟨⟨xs, xs[i], SqL.of (s2 _ _ ep), List.getElem?_eq_getElem hi⟩, fun ys' σ' H' => Same H1 H' ∧ DaAll F H' ys' ((((nds t []).take (i + 1)).filter hasInk).map dD) ∧ ∃ y1 y2, σ' = [some v, y1, y2], fun ys' σ' H' z => ⟨k - 1, by omega, by omega, z⟩, ?_⟩
    rintro x H3 ⟨eH, hx⟩
    rw [eH]
    have hx := hx xs (SqL.of (s2 _ _ ep))
    obtain ⟨dx, edx, ax⟩ := al.get hx
    rw [List.getElem?_map] at edx
    obtain ⟨⟨pth, n⟩, en, rfl⟩ := Option.map_eq_some_iff.mp edx
    have gn : Gn 6 m (TD n) ∧ pth.length + 2 ≤ m := by
      obtain ⟨r, er, hs⟩ := nds_sub t [] pth n (List.mem_of_getElem? en)
      rw [List.nil_append] at er
      subst er
      exact gn_sub _ t n m hg hs
    have gink := gn_ink gn.1
    obtain ⟨h, ink, pre, kids⟩ := n
    obtain ⟨p3, va, vb, rfl, n3, e3, aa, ab⟩ := (ax.same s2).pair
    obtain ⟨pn', vi, qa, ks, rfl, nFn, epn, ai, nq, eq, alk⟩ := ab.node
    refine ⟨p3, _, rfl, SqT.of e3, rfl, _, _, rfl, _, _, rfl, rfl, ?_⟩
    refine ⟨_, rfl, pn', _, 1, vi, rfl, rfl, SqT.of epn, atI_nat (j := 1) rfl, by decide, fun p4 np4 => ?_⟩
    have s4 := same_upd (o := .tup []) np4
    have hT2 : Trk F H2 := (hT.same s1).same s2
    refine ⟨.tuple ink, .tuple [], (ai.same s4).dp _ _, (Da.tup (hT2.new np4) upd_same .nil).dp _ _, gink.shaped (by omega), shaped_unit, _, rfl, ?_⟩
    have et : (nds t []).take (i + 1) = (nds t []).take i ++ [(pth, Tr.nd h ink pre kids)] := by
      rw [List.take_add_one, en]
      rfl
    cases ink with
    | nil =>
      refine ifNo (by rfl) ⟨s2.trans s4, ?_, _, _, rfl⟩
      rw [et, List.filter_append]
      have e0 : List.filter hasInk [(pth, Tr.nd h [] pre kids)] = [] := rfl
      rw [e0, List.append_nil]
      exact ay.same s4
    | cons d ink =>
      refine ifSo (by rfl) ⟨Nat.lt_of_le_of_lt lf (by decide), ?_⟩
      refine ⟨_, rfl, _, rfl, pn', _, 1, vi, rfl, rfl, SqT.of (s4 _ _ epn), atI_nat (j := 1) rfl, (show 2 ≤ sizeLine by decide), fun p5 np5 => ⟨?_, ?_, _, _, rfl⟩⟩
      · exact (s2.trans s4).trans (same_upd np5)
      have s5 := same_upd (o := .tup [va, vi]) np5
      rw [et, List.filter_append, List.map_append]
      have e0 : List.filter hasInk [(pth, Tr.nd h (d :: ink) pre kids)] = [(pth, Tr.nd h (d :: ink) pre kids)] := rfl
      rw [e0]
      exact ((ay.same s4).same s5).append (.cons (.tup ((hT2.same s4).new np5) upd_same (.cons ((aa.same s4).same s5) (.cons ((ai.same s4).same s5) .nil))) .nil)
  · refine .inl ⟨⟨xs, SqL.of (s2 _ _ ep), by omega⟩, q ys H2 (s1.trans s2) ?_⟩
    rw [List.take_of_length_le (by rw [nds_length]; omega)] at ay
    exact ay
end
end Sa

set_option Elab.async false
set_option linter.all false
set_option maxRecDepth 100000
set_option maxHeartbeats 4000000
namespace Sa
open PySem PySem.Spec PyProof.Rows L2 GenW
/-! ### a generator whose consumer is a for: between two items the consumer puts the item behind its list at S and stores in its own frame at L -/
structure GP where
  P : Program
  w : World
  K : PySem.W.Frag
  mg : Str → Option Value
  base : Heap
  N : List Str
  qual : Str
  scope : Scope
  f : Addr
  cd : Value
  A : Around
  outer : List Env
  sc : Shared
  H1 : Hp
  pn : List (Addr × Obj)
  S : Addr
  L : Addr
  Dat : List V → Hp → Prop
def GP.gx (G : GP) (b : Shared) : Cx := { gcxOf G.P G.w G.K G.mg G.base G.N G.qual G.scope G.f G.cd G.A G.outer G.sc G.H1 (fun _ _ _ => False) [] with s_0 := b, pn := G.pn, xe := fun _ _ => False }
def GP.bs (G : GP) (s : Shared) : Shared := { G.sc with heap := (G.sc.heap.update G.S fun o => (s.heap.get? G.S).getD o).update G.L fun o => (s.heap.get? G.L).getD o }
/-- what is fixed -/
structure GP.Ok (G : GP) : Prop where
  sl : G.S ≠ G.L
  s : ∃ o, G.sc.heap.get? G.S = some o
  l : ∃ o, G.sc.heap.get? G.L = some o
  sH : G.H1 G.S = none
  sf : G.S ∉ frs G.outer
  lf : G.L ∈ frs G.outer
  sb : G.base.get? G.S = none
  pS : ∀ p ∈ G.pn, p.1 ≠ G.S
theorem notFreed {h : Heap} {a : Addr} {o : Obj} (e : h.get? a = some o) : o.isFreed = false := (Heap.get?_some_iff.mp e).2
section
variable {G : GP}
theorem bs_size (s : Shared) : (G.bs s).heap.objs.size = G.sc.heap.objs.size := by
  show ((G.sc.heap.update _ _).update _ _).objs.size = _
  rw [(Heap.SameBut.update ..).1, (Heap.SameBut.update ..).1]
theorem bs_other {s : Shared} {b : Addr} (h1 : b ≠ G.S) (h2 : b ≠ G.L) : (G.bs s).heap.get? b = G.sc.heap.get? b := by
  show ((G.sc.heap.update _ _).update _ _).get? b = _
  rw [Heap.get?_update_other _ _ (Ne.symm h2), Heap.get?_update_other _ _ (Ne.symm h1)]
theorem bs_S (k : G.Ok) {s : Shared} {o : Obj} (e : s.heap.get? G.S = some o) : (G.bs s).heap.get? G.S = some o := by
  obtain ⟨o0, e0⟩ := k.s
  show ((G.sc.heap.update _ _).update _ _).get? _ = _
  rw [Heap.get?_update_other _ _ k.sl.symm, Heap.get?_update_self _ e0 (by rw [e]; exact notFreed e), e]
  rfl
theorem bs_L (k : G.Ok) {s : Shared} {o : Obj} (e : s.heap.get? G.L = some o) : (G.bs s).heap.get? G.L = some o := by
  obtain ⟨o0, e0⟩ := k.l
  have e1 : (G.sc.heap.update G.S fun o => (s.heap.get? G.S).getD o).get? G.L = some o0 := by
    rw [Heap.get?_update_other _ _ k.sl]; exact e0
  show ((G.sc.heap.update _ _).update _ _).get? _ = _
  rw [Heap.get?_update_self _ e1 (by rw [e]; exact notFreed e), e]
  rfl
theorem frames_by {h h' base : Heap} : ∀ {l : List Env}, h.FunFrames base l → (∀ b ∈ frs l, ∃ o, h'.get? b = some o ∧ ∀ vs, o.data ≠ .fields vs) → h'.FunFrames base l
  | [], _, _ => trivial
  | env :: rest, hl, k => by
    obtain ⟨hk, ⟨L, o, hf, hn, ho, hd⟩, hr⟩ := hl
    have mem : L ∈ frs (env :: rest) := by
      show L ∈ List.filterMap _ _
      rw [List.filterMap_cons, hf]
      exact List.mem_cons_self
    obtain ⟨o', e', d'⟩ := k L mem
    refine ⟨hk, ⟨L, o', hf, hn, e', d'⟩, frames_by hr fun b hb => k b ?_⟩
    show b ∈ List.filterMap _ _
    rw [List.filterMap_cons, hf]
    exact List.mem_cons_of_mem _ hb
/-- the consumer's part -/
structure Wk (G : GP) (x : V) (s s' : Shared) : Prop where
  os : s'.os = s.os
  bare : AllBare s'.gens
  keep : ∀ b o, b ≠ G.S → b ≠ G.L → s.heap.get? b = some o → s'.heap.get? b = some o
  own : ∀ acc c, s.heap.get? G.S = some (lstObj acc c) → ∃ v c', RelV x v ∧ s'.heap.get? G.S = some (lstObj (acc.push v) c')
  frm : s'.heap.FunFrames G.base G.outer
def GJ (G : GP) (s₀ : Shared) (ip : List (Addr × Obj)) (ys : List V) (σ : L2.St) (H : Hp) (s : Shared) : Prop :=
  ∃ (acc : Array Value) (c : Nat), Vals ys acc.toList ∧ (G.bs s₀).heap.get? G.S = some (lstObj acc c) ∧ Inv (G.gx (G.bs s₀)) ip σ H s
theorem GJ.S {s₀ : Shared} {ip : List (Addr × Obj)} {ys : List V} {σ : L2.St} {H : Hp} {s : Shared} (k : G.Ok) (h : GJ G s₀ ip ys σ H s) : ∃ (acc : Array Value) (c : Nat), Vals ys acc.toList ∧ s.heap.get? G.S = some (lstObj acc c) ∧ H G.S = none := by
  obtain ⟨acc, c, r, e, I⟩ := h
  exact ⟨acc, c, r, I.base.keep _ _ e k.sH k.sf (by show _ ∉ []; simp), I.base.free _ _ e k.sH (by show _ ∉ []; simp)⟩
/-- another base -/
theorem Inv.rebase {b b' : Shared} {ip : List (Addr × Obj)} {σ : L2.St} {H : Hp} {s s' : Shared} (I : Inv (G.gx b) ip σ H s) (bsz : b'.heap.objs.size ≤ b.heap.objs.size) (hbs : ∀ a o, G.base.get? a = some o → b'.heap.get? a = some o ∧ G.H1 a = none) (hbz : G.base.objs.size ≤ b'.heap.objs.size)
    (hf : b'.heap.FunFrames G.base G.outer) (os : s'.os = b'.os) (bare : AllBare s'.gens) (un : Un (frs G.outer) [] G.H1 H b'.heap s'.heap)
    (keep : ∀ a o, (a = (G.gx b).env.locals ∨ (∃ x, (G.gx b).env.cells.lookup x = some a) ∨ ∃ q ∈ G.pn ++ ip, q.1 = a) → s.heap.get? a = some o → s'.heap.get? a = some o) (hok : HOk G.P G.w H s'.heap) : Inv (G.gx b') ip σ H s' := by
  refine ⟨⟨I.ok.mod, I.ok.kind, I.ok.glob, I.ok.blt, Nat.le_trans bsz I.ok.above, I.ok.inj, I.ok.has, fun x c h1 h2 => ?_, I.ok.hd, I.ok.frames, I.ok.stk, I.ok.exf, hbs, hbz, I.ok.noex, I.ok.exfs, hf, I.ok.frf⟩,
    os, bare, un, ?_, fun x c h => ?_, I.free, I.freeC, fun p hp => ?_, hok, I.len⟩
  · exact Nat.le_trans bsz (I.ok.cab x c h1 h2)
  · obtain ⟨m, hn, hl⟩ := I.loc
    refine ⟨m, hn.at' fun o e => keep _ o (.inl rfl) e, fun i x v h1 h2 h3 => ?_⟩
    obtain ⟨u, ru, lk⟩ := hl i x v h1 h2 h3
    refine ⟨u, ru, ?_⟩
    rcases lk with z | ⟨k, c, e, ⟨o, ho, hr⟩⟩
    · exact .inl z
    · exact .inr ⟨k, c, e, ⟨o, keep _ o (.inr (.inl ⟨x, e⟩)) ho, hr⟩⟩
  · obtain ⟨v, o, ho, hr⟩ := I.cell x c h
    exact ⟨v, o, keep _ o (.inr (.inl ⟨x, h⟩)) ho, hr⟩
  · obtain ⟨h1, h2, h3, h4, h5⟩ := I.pin p hp
    exact ⟨keep _ _ (.inr (.inr ⟨p, hp, rfl⟩)) h1, h2, h3, h4, h5⟩
/-- woken again -/
theorem GJ.woken {s₀ : Shared} {ip : List (Addr × Obj)} {ys : List V} {x : V} {σ : L2.St} {H : Hp} {s s' : Shared} (k : G.Ok) (hip : ∀ p ∈ ip, p.1 ≠ G.S) (h : GJ G s₀ ip ys σ H s) (z : Wk G x s s') : GJ G s' ip (ys ++ [x]) σ H s' := by
  obtain ⟨acc0, c0, r0, eS, hS⟩ := h.S k
  obtain ⟨acc, c, r, e0, I⟩ := h
  obtain ⟨v, c', rv, eS'⟩ := z.own acc0 c0 eS
  have nil : ∀ a : Addr, a ∉ ([] : List Addr) := fun a h => by simp at h
  have Lf : G.L ∈ (G.gx (G.bs s₀)).fs := k.lf
  have hLH : H G.L = none := by
    obtain ⟨o, eo⟩ := k.l
    obtain ⟨_, o1, e1, _⟩ := I.ok.funs.mem k.lf
    exact I.base.free _ _ e1 (I.ok.frf _ k.lf) (nil _)
  obtain ⟨lb, oL, eL, dL⟩ := z.frm.mem k.lf
  have bL := bs_L k eL
  have bS := bs_S k eS'
  have nS : ∀ a u, H a = some u → a ≠ G.S := fun a u q e => by rw [e, hS] at q; cases q
  have nL : ∀ a u, H a = some u → a ≠ G.L := fun a u q e => by rw [e, hLH] at q; cases q
  have loc : ∀ a, G.sc.heap.objs.size ≤ a → a ≠ G.S ∧ a ≠ G.L := fun a ha => by
    obtain ⟨o1, e1⟩ := k.s
    obtain ⟨o2, e2⟩ := k.l
    exact ⟨fun q => absurd (Heap.lt_size e1) (by rw [← q]; exact Nat.not_lt.mpr ha), fun q => absurd (Heap.lt_size e2) (by rw [← q]; exact Nat.not_lt.mpr ha)⟩
  have old : ∀ a, a ≠ G.S → a ≠ G.L → (G.bs s').heap.get? a = (G.bs s₀).heap.get? a := fun a h1 h2 => by rw [bs_other h1 h2, bs_other h1 h2]
  have Lb : G.base.get? G.L = none := lb
  refine ⟨acc0.push v, c', ?_, bS, Inv.rebase I (by rw [bs_size, bs_size]; exact Nat.le_refl _) (fun a o e => ?_) ?_ ?_ ?_ z.bare ⟨fun a o e n hf _ => ?_, fun a o e n hf _ => ?_, fun a o e n _ => ?_, fun a o e _ => ?_, I.base.tups, I.base.frzs, I.base.tbls⟩ (fun a o ha e => ?_) (fun a u q => ?_)⟩
  · rw [Array.toList_push]
    exact r0.append (.cons rv .nil)
  · have h1 : a ≠ G.S := fun q => by rw [q, k.sb] at e; cases e
    have h2 : a ≠ G.L := fun q => by rw [q, Lb] at e; cases e
    rw [old a h1 h2]
    exact I.ok.bs a o e
  · rw [bs_size, ← bs_size s₀]
    exact I.ok.bsz
  · refine frames_by I.ok.funs fun a ha => ?_
    by_cases h2 : a = G.L
    · rw [h2]
      exact ⟨oL, bL, dL⟩
    · obtain ⟨_, o, e, d⟩ := I.ok.funs.mem ha
      have h1 : a ≠ G.S := fun q => k.sf (q ▸ ha)
      exact ⟨o, by rw [old a h1 h2]; exact e, d⟩
  · rw [z.os, I.os]
    rfl
  · have h2 : a ≠ G.L := fun q => hf (q ▸ Lf)
    by_cases h1 : a = G.S
    · rw [h1] at e ⊢
      rw [bS] at e
      cases e
      exact eS'
    · rw [old a h1 h2] at e
      exact z.keep a o h1 h2 (I.base.keep a o e n hf (nil _))
  · by_cases h2 : a = G.L
    · rw [h2] at e ⊢
      rw [bL] at e
      cases e
      exact ⟨_, eL⟩
    · have h1 : a ≠ G.S := fun q => k.sf (q ▸ hf)
      rw [old a h1 h2] at e
      obtain ⟨sl, e'⟩ := I.base.slot a o e n hf (nil _)
      exact ⟨sl, z.keep a _ h1 h2 e'⟩
  · by_cases h1 : a = G.S
    · rw [h1]; exact hS
    by_cases h2 : a = G.L
    · rw [h2]; exact hLH
    rw [old a h1 h2] at e
    exact I.base.free a o e n (nil _)
  · by_cases h1 : a = G.S
    · rw [h1]; exact ⟨_, eS'⟩
    by_cases h2 : a = G.L
    · rw [h2]; exact ⟨_, eL⟩
    rw [old a h1 h2] at e
    obtain ⟨o', e'⟩ := I.base.there a o e (nil _)
    exact ⟨o', z.keep a o' h1 h2 e'⟩
  · have ne : a ≠ G.S ∧ a ≠ G.L := by
      rcases ha with q | ⟨x, q⟩ | ⟨p, hp, q⟩
      · rw [q]; exact loc _ (Nat.le_refl _)
      · have cb := I.ok.cab x a rfl q
        have cb' : (G.bs s₀).heap.objs.size ≤ a := cb
        rw [bs_size] at cb'
        exact loc a cb'
      · obtain ⟨_, _, _, h4, _⟩ := I.pin p hp
        refine ⟨fun y => ?_, fun y => h4 (by rw [q, y]; exact Lf)⟩
        rcases List.mem_append.mp hp with w1 | w1
        · exact k.pS p w1 (q.trans y)
        · exact hip p w1 (q.trans y)
    exact z.keep a o ne.1 ne.2 e
  · refine (I.hok a u q).stay (fun c w' hc y => ?_) (fun _ y => y) fun _ _ y => y
    rcases hc with y1 | y1
    · rw [y1] at y ⊢
      exact z.keep a w' (nS a u q) (nL a u q) y
    · exact z.keep c w' (nS c _ y1) (nL c _ y1) y
end
end Sa

set_option Elab.async false
set_option linter.all false
set_option maxRecDepth 100000
set_option maxHeartbeats 4000000
namespace Sa
open PySem PySem.Spec PyProof.Rows L2 GenW
/-! ### the body's rules -/
def JY (G : GP) : Protocol := fun n s₀ v s kap =>
  ∃ ys x ip σ H, n + 1 + ys.length = sizeLine ∧ RelV x v ∧ GJ G s₀ ip ys σ H s ∧ G.Dat (ys ++ [x]) H ∧ ∀ s', Wk G x s s' → kap (.send .none) s'
def JR (G : GP) (Q : List V → VK) : GenEnd := fun n s₀ r s => match r with
  | .ok (.ret u) => ∃ ys v ip σ H, GJ G s₀ ip ys σ H s ∧ RelV v u ∧ Q ys v H
  | .ok _ => False
  | .error _ => False
def JSP (G : GP) (s₀ : Shared) (ip : List (Addr × Obj)) (D : GEnds) (ys : List V) (f : Flow) (s : Shared) : Prop :=
  match f with
  | .next => ∃ σ H, GJ G s₀ ip ys σ H s ∧ D.nx ys σ H
  | .brk => ∃ σ H, GJ G s₀ ip ys σ H s ∧ D.bk ys σ H
  | .cont => ∃ σ H, GJ G s₀ ip ys σ H s ∧ D.ct ys σ H
  | .ret u => ∃ v σ H, GJ G s₀ ip ys σ H s ∧ RelV v u ∧ D.rt ys v H
structure JC (G : GP) (ip : List (Addr × Obj)) (A : Around) (c : Code) (fs : List Frame) (gd : Bool → Bool) : Prop where
  ok : G.Ok
  ip : ∀ p ∈ ip, p.1 ≠ G.S
  over : A.over c fs = (G.gx G.sc).A
  split : splitAtGen fs = none
  guard : fs.any Frame.guarded = false
  gd : gd false = false
def JK (G : GP) (ip : List (Addr × Obj)) (A : Around) (R : GenEnd) (c : Code) (fs : List Frame) (K : Flow → Sem PySem.Fin) (D : GEnds) : Prop :=
  ∀ (n : Nat) (ys : List V) (s₀ s : Shared) (f : Flow), n + ys.length = sizeLine → JSP G s₀ ip D ys f s → Seg (model G.P G.w) A R (JY G) n s₀ c (K f) fs s
structure JS (G : GP) (st : Stmt) (t : TGn) : Prop where
  run : ∀ (A : Around) (ip : List (Addr × Obj)) (R : GenEnd) (n : Nat) (ys : List V) (s₀ : Shared) (c : Code) (fs : List Frame) (K : Flow → Sem PySem.Fin) (J : Value → Sem PySem.Fin) (gd : Bool → Bool) (lv : List Value → List Value) (s : Shared) (σ : L2.St) (H : Hp) (D : GEnds),
    JC G ip A c fs gd → n + ys.length = sizeLine → JK G ip A R c fs K D → GJ G s₀ ip ys σ H s → t D ys σ H →
    Seg (model G.P G.w) A R (JY G) n s₀ c ((exec st (G.gx G.sc).env).wrap K J gd lv) fs s
structure JSs (G : GP) (st : List Stmt) (t : TGn) : Prop where
  run : ∀ (A : Around) (ip : List (Addr × Obj)) (R : GenEnd) (n : Nat) (ys : List V) (s₀ : Shared) (c : Code) (fs : List Frame) (K : Flow → Sem PySem.Fin) (J : Value → Sem PySem.Fin) (gd : Bool → Bool) (lv : List Value → List Value) (s : Shared) (σ : L2.St) (H : Hp) (D : GEnds),
    JC G ip A c fs gd → n + ys.length = sizeLine → JK G ip A R c fs K D → GJ G s₀ ip ys σ H s → t D ys σ H →
    Seg (model G.P G.w) A R (JY G) n s₀ c ((execs st (G.gx G.sc).env).wrap K J gd lv) fs s
section
variable {G : GP}
theorem js_nil : JSs G [] tG0 := ⟨fun A ip R n ys s₀ c fs K J gd lv s σ H D g hn k hI ht => seg_execs_nil (k n ys s₀ s .next hn ⟨σ, H, hI, ht⟩)⟩
theorem js_cons {st : Stmt} {rest : List Stmt} {t u : TGn} (a : JS G st t) (b : JSs G rest u) : JSs G (st :: rest) (tGThen t u) := by
  refine ⟨fun A ip R n ys s₀ c fs K J gd lv s σ H D g hn k hI ht => ?_⟩
  refine seg_execs_cons ?_
  refine a.run A ip R n ys s₀ c fs _ J gd lv s σ H { D with nx := fun ys' σ' H' => u D ys' σ' H' } g hn (fun n' ys' s₀' s' f hn' hs => ?_) hI ht
  cases f with
  | next =>
    obtain ⟨σ', H', I', q⟩ := hs
    exact b.run A ip R n' ys' s₀' c fs K J gd lv s' σ' H' D g hn' k I' q
  | brk => exact k n' ys' s₀' s' .brk hn' hs
  | cont => exact k n' ys' s₀' s' .cont hn' hs
  | ret u => exact k n' ys' s₀' s' (.ret u) hn' hs
theorem js_if {test : Expr} {a b : List Stmt} {pos : Pos} {tc : TT} {t u : TGn} (hc : ∀ s₀, PT (G.gx (G.bs s₀)) test tc) (ha : JSs G a t) (hb : JSs G b u) : JS G (.If test a b pos) (tGIf tc t u) := by
  refine ⟨fun A ip R n ys s₀ c fs K J gd lv s σ H D g hn k hI ht => ?_⟩
  obtain ⟨acc, cc, r, e, I⟩ := hI
  refine seg_If ?_
  rw [g.over]
  refine wpAny_mono ((hc s₀).run _ s σ H _ I ht) (fun d s' hd => ?_) fun x s' hx => hx.elim
  obtain ⟨H2, I2, q2⟩ := hd
  cases d with
  | true => exact ha.run A ip R n ys s₀ c fs K J gd lv s' σ H2 D g hn k ⟨acc, cc, r, e, I2⟩ q2
  | false => exact hb.run A ip R n ys s₀ c fs K J gd lv s' σ H2 D g hn k ⟨acc, cc, r, e, I2⟩ q2
def tJYield (G : GP) (te : TE) : TGn := fun D ys σ H => ys.length < sizeLine ∧ te σ H fun x H1 => G.Dat (ys ++ [x]) H1 ∧ D.nx (ys ++ [x]) σ H1
theorem js_yield {e : Expr} {yp pos : Pos} {te : TE} (he : ∀ s₀, PE (G.gx (G.bs s₀)) e te) (hco : (G.gx G.sc).env.scope.isCoroutine = false) (hi : interactive (G.gx G.sc).env = false) : JS G (.Expr (.Yield (some e) yp) pos) (tJYield G te) := by
  refine ⟨fun A ip R n ys s₀ c fs K J gd lv s σ H D g hn k hI ht => ?_⟩
  obtain ⟨hlt, ht⟩ := ht
  obtain ⟨n, rfl⟩ : ∃ m, n = m + 1 := ⟨n - 1, by omega⟩
  obtain ⟨acc, cc, r, eb, I⟩ := hI
  refine seg_Expr_Yield g.split g.gd g.guard ?_ hco hi
  rw [g.over]
  refine wpAny_mono ((he s₀).run _ s σ H _ I ht) (fun v s' hv => ?_) fun x s' hx => hx.elim
  obtain ⟨x, H1, I1, rv, dq, q⟩ := hv
  have G1 : GJ G s₀ ip ys σ H1 s' := ⟨acc, cc, r, eb, I1⟩
  intro kap hk
  refine ⟨ys, x, ip, σ, H1, hn, rv, G1, dq, fun s'' z => hk .none s'' ?_⟩
  refine k n (ys ++ [x]) s'' s'' .next ?_ ⟨σ, H1, G1.woken g.ok g.ip z, q⟩
  rw [List.length_append, List.length_singleton]; omega
theorem js_loop {ip : List (Addr × Obj)} {A : Around} {c c' : Code} {fs : List Frame} {gd : Bool → Bool} {k : Result → Sem PySem.Fin} {l kp : List Value} {p : Pos} (g : JC G ip A c fs gd) (hw : c'.weight = 0) (hu : c'.cUnits = 0) :
    JC G ip A c' (.ret k none (gd false) l c p kp :: fs) id where
  ok := g.ok
  ip := g.ip
  over := (over_loop hw hu).trans g.over
  split := by
    show Option.map _ (splitAtGen fs) = none
    rw [g.split]; rfl
  guard := by
    show (gd false || List.any fs Frame.guarded) = false
    rw [g.gd, g.guard]; rfl
  gd := rfl
theorem js_for {tg iter : Expr} {body : List Stmt} {pos : Pos} {wi : TI} {g : TG} {tb : TGn} (hi : ∀ s₀, PI (G.gx (G.bs s₀)) tg iter wi) (hg : ∀ s₀, PG (G.gx (G.bs s₀)) tg g) (hb : JSs G body tb)
    (hs : ∀ x, foldedSetIterable iter (G.gx G.sc).env x = pure x := by intro _; rfl) : JS G (.For tg iter body [] pos) (tGFor wi g tb) := by
  refine ⟨fun A ip R n ys s₀ c fs K J gd lv s σ H D gc hn k hI ht => ?_⟩
  obtain ⟨acc, cc, r, eb, I⟩ := hI
  refine seg_For ?_ hs
  rw [gc.over]
  refine wpAny_mono ((hi s₀).run _ s σ H _ I ht) (fun v s1 h1 => wpAny_mono h1 (fun itv s2 h2 => ?_) fun x s' hx => hx.elim) fun x s' hx => hx.elim
  obtain ⟨it, fp, tn, Jt, H2, e, I2, T, st2, f2, W, ⟨m0, w0⟩, turn⟩ := h2
  subst e
  intro p
  have gl := fun (kk : Result → Sem PySem.Fin) => js_loop (k := kk) (c' := .forLoop tg (.ref it) body [] (G.gx G.sc).env) (l := lv []) (kp := []) (p := p) gc rfl rfl
  have big : ∀ b ∈ fp, G.sc.heap.objs.size ≤ b := fun b hb => by
    rcases (f2 b hb).2.2.2.1 with q | q
    · exact absurd (show b ∈ ([] : List Addr) from q) (by simp)
    · have q' : (G.bs s₀).heap.objs.size ≤ b := q
      rw [bs_size] at q'
      exact q'
  have nS : ∀ b ∈ fp, b ≠ G.S := fun b hb z => by
    obtain ⟨o1, e1⟩ := gc.ok.s
    exact absurd (Heap.lt_size e1) (by rw [← z]; exact Nat.not_lt.mpr (big b hb))
  have stat : ∀ {s₀' : Shared} {H' : Hp}, (∀ b ∈ fp, H' b = none) → ∀ b ∈ fp, FpOk (G.gx (G.bs s₀')) ip H' b := fun {s₀' H'} hn b hb => by
    obtain ⟨_, q1, q2, q3, q4, q5⟩ := f2 b hb
    refine ⟨hn b hb, q1, q2, .inr ?_, q4, q5⟩
    show (G.bs s₀').heap.objs.size ≤ b
    rw [bs_size]
    exact big b hb
  have unp : ∀ {s₀' : Shared} {q : List (Addr × Obj)} {ys : List V} {σ : L2.St} {H : Hp} {s : Shared}, GJ G s₀' (ip ++ q) ys σ H s → GJ G s₀' ip ys σ H s := fun {s₀' q ys σ H s} h => by
    obtain ⟨a1, c1, r1, e1, I1⟩ := h
    exact ⟨a1, c1, r1, e1, I1.pins_of fun pp hpp => I1.pin pp (List.mem_append_right _ (List.mem_append_left _ hpp))⟩
  have loop : ∀ (m n i : Nat) (ys : List V) (s₀ s : Shared) (σ : L2.St) (H : Hp), n + ys.length = sizeLine → W i m ys σ H → GJ G s₀ ip ys σ H s → tn i s.heap → (∀ b ∈ fp, H b = none) →
      Seg (model G.P G.w) A R (JY G) n s₀ (.forLoop tg (.ref it) body [] (G.gx G.sc).env) ((model G.P G.w).den (.forLoop tg (.ref it) body [] (G.gx G.sc).env))
        (.ret (fun r => ((match r with | .ok f => (.pure f : Sem Flow) | .error e => .raise e).onRaise (cameBack (G.gx G.sc).env)).wrap K J gd lv) none (gd false) (lv []) c p [] :: fs) s := by
    intro m
    induction m using Nat.strongRecOn with
    | ind m ih =>
      intro n i ys s₀ s σ H hn w hI st fr
      refine seg_forLoop ?_
      rw [(gl _).over]
      obtain ⟨acc1, cc1, r1, eb1, I1⟩ := hI
      rcases turn i m ys σ H w with ⟨stop, qn⟩ | ⟨go, N, hN, step⟩
      · refine wpAny_mono (T.done (G.gx (G.bs s₀)) rfl rfl rfl rfl i _ s σ H (fun _ _ => False) I1 (stat fr) st stop) (fun r' s4 h4 => ?_) fun x s' hx => hx.elim
        obtain ⟨hr, I4⟩ := h4
        subst hr
        exact seg_leaf (.ok .next) (k n ys s₀ s4 .next hn ⟨σ, H, ⟨acc1, cc1, r1, eb1, I4⟩, qn⟩)
      · refine wpAny_mono (T.item (G.gx (G.bs s₀)) rfl rfl rfl rfl i _ s σ H (fun _ _ => False) I1 (stat fr) st go) (fun r' s4 h4 => ?_) fun x s' hx => hx.elim
        obtain ⟨u, hr, h4⟩ := h4
        subst hr
        refine wpAny_mono h4 (fun _ s5 h5 => ?_) fun x s' hx => hx.elim
        obtain ⟨x, H5, I5, r5, y5, st5, fr5⟩ := h5
        have I5' := I5.pinned (stat fr5) (T.obj _ _ st5)
        refine wpAny_mono ((hg s₀).run _ s5 σ H5 x u _ I5' r5 (step x H5 y5)) (fun _ s6 h6 => ?_) fun x s' hx => hx.elim
        obtain ⟨σ6, H6, I6, q6⟩ := h6
        refine hb.run A (ip ++ pinsAt fp s5.heap) R n ys s₀ _ _ _ _ id id s6 σ6 H6 { D with nx := N, ct := N, bk := D.nx } { gl _ with ip := fun pp hpp => (List.mem_append.mp hpp).elim (gc.ip pp) fun z => nS _ (of_pinsAt z).1 } hn (fun n' ys' s₀' s3 f hn' hs3 => ?_) ⟨acc1, cc1, r1, eb1, I6⟩ q6
        have again : ∀ {σ3 : L2.St} {H3 : Hp}, GJ G s₀' (ip ++ pinsAt fp s5.heap) ys' σ3 H3 s3 → N ys' σ3 H3 → Seg (model G.P G.w) A R (JY G) n' s₀' (.forLoop tg (.ref it) body [] (G.gx G.sc).env) (.pure (.again (.forLoop tg (.ref it) body [] (G.gx G.sc).env)))
            (.ret (fun r => ((match r with | .ok f => (.pure f : Sem Flow) | .error e => .raise e).onRaise (cameBack (G.gx G.sc).env)).wrap K J gd lv) none (gd false) (lv []) c p [] :: fs) s3 := fun {σ3 H3} G3 n3 => by
          obtain ⟨m', hm, w3⟩ := hN ys' σ3 H3 n3
          have pinF : ∀ b ∈ fp, ∀ o, s5.heap.get? b = some o → s3.heap.get? b = some o ∧ H3 b = none := fun b hb o e => by
            obtain ⟨a3, c3, r3, e3, I3⟩ := G3
            have z := I3.pin (b, o) (List.mem_append_right _ (List.mem_append_right _ (mem_pinsAt hb e)))
            exact ⟨z.1, z.2.1⟩
          exact seg_again rfl (ih m' hm n' (i + 1) ys' s₀' s3 σ3 H3 hn' w3 (unp G3) (T.keep _ _ _ st5 fun b hb o e => (pinF b hb o e).1) fun b hb => by
            obtain ⟨o, e, _⟩ := T.obj _ _ st5 b hb
            exact (pinF b hb o e).2)
        cases f with
        | next =>
          obtain ⟨σ3, H3, G3, n3⟩ := hs3
          exact again G3 n3
        | cont =>
          obtain ⟨σ3, H3, G3, n3⟩ := hs3
          exact again G3 n3
        | brk =>
          obtain ⟨σ3, H3, G3, n3⟩ := hs3
          exact seg_leaf (.ok .next) (k n' ys' s₀' s3 .next hn' ⟨σ3, H3, unp G3, n3⟩)
        | ret v =>
          obtain ⟨v3, σ3, H3, G3, r3, n3⟩ := hs3
          exact seg_leaf (.ok (.ret v)) (k n' ys' s₀' s3 (.ret v) hn' ⟨v3, σ3, H3, unp G3, r3, n3⟩)
  exact loop m0 n 0 ys s₀ s2 σ H2 hn w0 ⟨acc, cc, r, eb, I2⟩ st2 fun b hb => (f2 b hb).1
end
end Sa

set_option Elab.async false
set_option linter.all false
set_option maxRecDepth 100000
set_option maxHeartbeats 4000000
namespace Sa
open PySem PySem.Spec PyProof.Rows L2 GenW
/-! ### a generator made by a call in a for -/
/-- the abstract heap without S -/
def wo (H : Hp) (S : Addr) : Hp := fun a => if a = S then none else H a
theorem wo_S {H : Hp} {S : Addr} : wo H S S = none := if_pos rfl
theorem wo_ne {H : Hp} {S a : Addr} (h : a ≠ S) : wo H S a = H a := if_neg h
theorem wo_none {H : Hp} {S a : Addr} (h : H a = none) : wo H S a = none := by
  by_cases e : a = S
  · rw [e]; exact wo_S
  · rw [wo_ne e]; exact h
theorem wo_some {H : Hp} {S a : Addr} {o : HO} (h : wo H S a = some o) : a ≠ S ∧ H a = some o := by
  by_cases e : a = S
  · rw [e, wo_S] at h; cases h
  · rw [wo_ne e] at h; exact ⟨e, h⟩
/-- the generator that was made, at its first waking -/
def JMade (P : Program) (w : World) (K : PySem.W.Frag) (mg : Str → Option Value) (base : Heap) (N : List Str) (qual : Str) (scope : Scope) (f : Addr) (cd : Value) (A : Around) (outer : List Env) (sc : Shared) (H1 : Hp) (S L : Addr) (Dat : List V → Hp → Prop) (Q : List V → VK) (u : Value) (s' : Shared) : Prop :=
  ∃ (a : Addr) (g : Nat) (c : Code) (go : Obj), u = .ref a ∧ sc.heap.objs.size ≤ a ∧ s'.heap.get? a = some go ∧ s'.heap.IsGen a g ∧ s'.gens[g]? = some (.fresh c) ∧ s'.os = sc.os ∧ AllBare s'.gens ∧ (∀ b o, sc.heap.get? b = some o → s'.heap.get? b = some o) ∧
    (⟨P, w, K, mg, base, N, qual, scope, f, cd, A, outer, sc, H1, [(a, go)], S, L, Dat⟩ : GP).Ok ∧ (∀ h : Heap, h.get? a = some go → h.IsGen a g) ∧
    ∀ s2 : Shared, s2.heap = s'.heap → s2.os = sc.os → AllBare s2.gens →
      Seg (model P w) A (JR ⟨P, w, K, mg, base, N, qual, scope, f, cd, A, outer, sc, H1, [(a, go)], S, L, Dat⟩ Q) (JY ⟨P, w, K, mg, base, N, qual, scope, f, cd, A, outer, sc, H1, [(a, go)], S, L, Dat⟩) sizeLine s2 c ((model P w).den c) [] s2
theorem jmade_of {P : Program} {w : World} {K : PySem.W.Frag} {mg : Str → Option Value} {base : Heap} {k : Nat} {f : Addr} {name qual : Str} {params : Arguments} {body : List Stmt} {scope : Scope} {dV kV doc pm cdv ct oc : Value} {an od : Option Addr}
    {osl : Array (Option Value)} {N ps : List Str} (lk : K.lookup f = some ⟨oc, od, .func (PySem.W.fnOf name qual params body scope dV kV doc pm an cdv ct), osl⟩) (hcd : PySem.W.codeIn K cdv qual = true) (S0 : GScope N ps scope)
    {A0 A : Around} {outer : List Env} {sc : Shared} {H : Hp} {S L : Addr} {args : Args} {us : List Value} {vs : List V} {nS : Nat} {Dat : List V → Hp → Prop} {Q : List V → VK}
    (hr0 : Room (k + 1) A0) (hr : Room (k + 1) A) (e0 : Env0 P w K mg base A outer sc (wo H S)) (hb : BindsTo sc (PySem.W.fnOf name qual params body scope dV kV doc pm an cdv ct) args (ps.zip us)) (r : Vals vs us) (hl : vs.length = ps.length)
    (hS : sc.heap.get? S = some (lstObj #[] nS)) (hL : ∃ o, sc.heap.get? L = some o) (hSL : S ≠ L) (hSf : S ∉ frs outer) (hLf : L ∈ frs outer) (hSb : base.get? S = none)
    (hbody : ∀ pn : List (Addr × Obj), Room k (A.deeper (envOfC qual scope sc.heap.objs.size f cdv)) →
      ∃ t, JSs ⟨P, w, K, mg, base, N, qual, scope, f, cdv, A, outer, sc, wo H S, pn, S, L, Dat⟩ body t ∧ t { nx := fun ys _ H' => Q ys .non H', rt := Q } [] (start N vs) (wo H S)) :
    codeAny (model P w) A0 (.call (.ref f) args) (fun r s' => match r with | .ok (.ret u) => JMade P w K mg base N qual scope f cdv A outer sc (wo H S) S L Dat Q u s' | _ => False) sc := by
  have KX : K.In sc.heap := e0.mod.kin.keeps fun b o e => (e0.bs b o e).1
  have lim : sc.heap.NoLimit := e0.mod.nolimit.keeps fun b o e => (e0.bs b o e).1
  have hkind : ∀ y ∈ ps.zip us, scope.names.lookup y.1 = some .local ∨ (scope.names.lookup y.1 = some .cell ∧ ((cellsFrom (sc.heap.objs.size + 1) scope.names []).lookup y.1).isSome = true) := fun ⟨n, v⟩ hy => by
    rcases S0.par n (List.of_mem_zip hy).1 with q | q
    · exact .inl q
    · exact .inr ⟨q, PySem.W.cellsFrom_some _ _ _ (.inl q)⟩
  refine codeAny_call_generator hr0.depth (KX _ _ lk) rfl S0.co S0.gen rfl (PySem.W.codeRec_of KX hcd) (hb _ _ _ _ ?_)
  refine wpAny_newFunctionEnv_cells S0.kind hkind fun env he s1 x => ?_
  subst he
  have lim1 : s1.heap.NoLimit := lim.keeps x.toInCall.keep
  refine ⟨lim1, ?_⟩
  obtain ⟨h1, tk, es1, hk1⟩ := x.done
  have os1 : s1.os = sc.os := by rw [es1]
  have gen1 : s1.gens = sc.gens := by rw [es1]
  have lt1 : sc.heap.objs.size < s1.heap.objs.size := x.toInCall.ns.lt
  have kp1 : ∀ b o, sc.heap.get? b = some o → s1.heap.get? b = some o := x.toInCall.keep
  have Sn : S < sc.heap.objs.size := Heap.lt_size hS
  have main : ∀ (go : Obj) (nm qn : Value) (tk2 : Nat), go.cls = .type "generator" → go.data = .fields #[.int s1.gens.size 0, nm, qn] → go.slots = #[] → (∀ h : Heap, (h.push go).get? h.objs.size = some go) →
      JMade P w K mg base N qual scope f cdv A outer sc (wo H S) S L Dat Q (.ref s1.heap.objs.size) { s1 with gens := s1.gens.push (.fresh (.func body (envOfC qual scope sc.heap.objs.size f cdv))), toks := tk2, heap := s1.heap.push go } := by
    intro go nm qn tk2 hgc hgd0 hgs hgp
    have hgen : ∀ h : Heap, h.get? s1.heap.objs.size = some go → h.IsGen s1.heap.objs.size s1.gens.size := fun h e => ⟨go, nm, qn, e, hgc, hgd0, hgs⟩
    have hpushed : (s1.heap.push go).get? s1.heap.objs.size = some go := hgp _
    have kp2 : ∀ b o, sc.heap.get? b = some o → (s1.heap.push go).get? b = some o := fun b o e => Heap.get?_push_of_some _ (kp1 b o e)
    have gok : (⟨P, w, K, mg, base, N, qual, scope, f, cdv, A, outer, sc, wo H S, [(s1.heap.objs.size, go)], S, L, Dat⟩ : GP).Ok := by
      refine ⟨hSL, ⟨_, hS⟩, hL, wo_S, hSf, hLf, hSb, fun p hp => ?_⟩
      rw [List.mem_singleton.mp hp]
      exact Nat.ne_of_gt (Nat.lt_trans Sn lt1)
    refine ⟨s1.heap.objs.size, s1.gens.size, _, go, rfl, Nat.le_of_lt lt1, hpushed, hgen _ hpushed, Array.getElem?_push_size .., os1, ?_, kp2, gok, hgen, ?_⟩
    · exact AllBare.push (by rw [gen1]; exact e0.bare) rfl
    intro s2 hs2 hos hba
    generalize eG : (⟨P, w, K, mg, base, N, qual, scope, f, cdv, A, outer, sc, wo H S, [(s1.heap.objs.size, go)], S, L, Dat⟩ : GP) = G at gok
    obtain ⟨t, ht, hq⟩ := hbody [(s1.heap.objs.size, go)] (hr.deeper _)
    rw [eG] at ht
    have I1 : Inv (gcxOf P w K mg base N qual scope f cdv A outer sc (wo H S) (fun _ _ _ => False) []) [] (start N vs) (wo H S) s1 := inv_startG S0 hr.hd e0 hl r x
    have kp12 : ∀ b o, s1.heap.get? b = some o → s2.heap.get? b = some o := fun b o e => by rw [hs2]; exact Heap.get?_push_of_some _ e
    have I2 : Inv (gcxOf P w K mg base N qual scope f cdv A outer sc (wo H S) (fun _ _ _ => False) []) [] (start N vs) (wo H S) s2 :=
      I1.call' (ch := []) (hos.trans os1.symm) (Un.kept kp12) (I1.hok.kept kp12) hba fun b z => by simp at z
    have eS2 : s2.heap.get? S = some (lstObj #[] nS) := by rw [hs2]; exact kp2 _ _ hS
    have eqb : ∀ b, (G.bs s2).heap.get? b = sc.heap.get? b := fun b => by
      subst eG
      by_cases h1 : b = S
      · rw [h1, hS]
        exact bs_S gok eS2
      by_cases h2 : b = L
      · obtain ⟨oL, eL⟩ := hL
        rw [h2, eL]
        exact bs_L gok (by rw [hs2]; exact kp2 _ _ eL)
      exact bs_other (G := ⟨P, w, K, mg, base, N, qual, scope, f, cdv, A, outer, sc, wo H S, [(s1.heap.objs.size, go)], S, L, Dat⟩) h1 h2
    have hJ : GJ G s2 [] [] (start N vs) (wo H S) s2 := by
      subst eG
      refine ⟨#[], nS, .nil, bs_S gok eS2, ?_⟩
      have hz := bs_size (G := ⟨P, w, K, mg, base, N, qual, scope, f, cdv, A, outer, sc, wo H S, [(s1.heap.objs.size, go)], S, L, Dat⟩) s2
      have U := I2.base
      have young : ∀ b, s1.heap.objs.size ≤ b → (wo H S) b = none ∧ b ≠ sc.heap.objs.size ∧ b ∉ frs outer := fun b hb => ⟨I1.hok.fresh hb, Nat.ne_of_gt (Nat.lt_of_lt_of_le lt1 hb), I1.nofs hb⟩
      refine ⟨⟨I2.ok.mod, I2.ok.kind, I2.ok.glob, I2.ok.blt, ?_, I2.ok.inj, I2.ok.has, fun y c h1 h2 => ?_, I2.ok.hd, I2.ok.frames, I2.ok.stk, I2.ok.exf, fun b o e => ?_, ?_, I2.ok.noex, I2.ok.exfs, ?_, I2.ok.frf⟩,
        ?_, I2.bare, ⟨fun b o e n hb hx => U.keep b o ((eqb b).symm.trans e) n hb hx, fun b o e n hb hx => U.slot b o ((eqb b).symm.trans e) n hb hx, fun b o e n hx => U.free b o ((eqb b).symm.trans e) n hx, fun b o e hx => U.there b o ((eqb b).symm.trans e) hx, U.tups, U.frzs, U.tbls⟩, I2.loc, I2.cell, I2.free, I2.freeC, fun p hp => ?_, I2.hok, I2.len⟩
      · exact Nat.le_trans (Nat.le_of_eq hz) I2.ok.above
      · exact Nat.le_trans (Nat.le_of_eq hz) (I2.ok.cab y c h1 h2)
      · exact ⟨(eqb b).trans (I2.ok.bs b o e).1, (I2.ok.bs b o e).2⟩
      · exact Nat.le_trans I2.ok.bsz (Nat.le_of_eq hz.symm)
      · refine frames_by I2.ok.funs fun b hb => ?_
        obtain ⟨_, o, e, d⟩ := I2.ok.funs.mem hb
        exact ⟨o, (eqb b).trans e, d⟩
      · exact hos
      · have hp' : p ∈ [(s1.heap.objs.size, go)] := by
          rcases List.mem_append.mp hp with z | z
          · exact z
          · exact absurd z (by simp)
        rw [List.mem_singleton.mp hp']
        obtain ⟨y1, y2, y3⟩ := young s1.heap.objs.size (Nat.le_refl _)
        exact ⟨by rw [hs2]; exact hpushed, y1, y2, y3, fun v q => by rw [hgd0] at q; cases q⟩
    refine seg_func ?_
    have eP : G.P = P := by rw [← eG]
    have ew : G.w = w := by rw [← eG]
    subst eG
    refine ht.run A [] _ sizeLine [] s2 _ [] _ _ id id s2 (start N vs) (wo H S) _ ⟨gok, fun p hp => (by simp at hp), over_func, rfl, rfl, rfl⟩ (Nat.add_zero _) (fun n ys s₀ s' fl hn hs => ?_) hJ hq
    cases fl with
    | next =>
      obtain ⟨σ', H', hI, hQ⟩ := hs
      exact seg_end (.ok (.ret .none)) ⟨ys, .non, [], σ', H', hI, rfl, hQ⟩
    | brk => obtain ⟨_, _, _, q⟩ := hs; exact False.elim q
    | cont => obtain ⟨_, _, _, q⟩ := hs; exact False.elim q
    | ret u =>
      obtain ⟨v, σ', H', hI, rv, hQ⟩ := hs
      exact seg_end (.ok (.ret u)) ⟨ys, v, [], σ', H', hI, rv, hQ⟩
  exact main _ _ _ _ rfl rfl rfl fun h => Heap.get?_push_size _ rfl
end Sa

set_option Elab.async false
set_option linter.all false
set_option maxRecDepth 100000
set_option maxHeartbeats 4000000
namespace Sa
open PySem PySem.Spec PyProof.Rows L2 GenW
/-! ### the consumer's turn, with all that it leaves as it was -/
section
variable {X : Cx} {pins : List (Addr × Obj)} {σ : L2.St} {H : Hp} {s : Shared} {E : Value → Shared → Prop}
theorem ev_var {i : Nat} {x : Str} {v : V} {pos : Pos} {Q : Value → Shared → Prop} (I : Inv X pins σ H s) (hN : X.N[i]? = some x) (e : σ[i]? = some (some v)) (hv : Vis X.env.scope x) (h : ∀ u, RelV v u → Q u s)
    (hd : (x == ("__debug__" : Str)) = false := by decide) (hcd : (x == ("__classdict__" : Str)) = false := by decide) : wpAny (model X.prog X.w) X.A (eval (.Name x pos) X.env) Q E s := by
  obtain ⟨m, hn, hl⟩ := I.loc
  obtain ⟨u, r, l⟩ := hl i x v hN e hv
  rcases l with ⟨hk, hm⟩ | ⟨hk, c, hc, hcell⟩
  · exact wpAny_Name (wpAny_loadName_local I.ok.kind hk hn hm (h u r)) hd
  · rcases hk with hk | hk
    · exact wpAny_Name (wpAny_loadName_cell I.ok.kind hk hc hcell (h u r)) hd
    · exact wpAny_Name (wpAny_loadName_free I.ok.kind hk hc hcell (h u r) hcd) hd
theorem st_var {i : Nat} {x : Str} {v : V} {u : Value} {Q : Unit → Shared → Prop} (I : Inv X pins σ H s) (hN : X.N.Nodup) (hi : X.N[i]? = some x) (hk : X.env.scope.names.lookup x = some .local) (r : RelV v u)
    (h : ∀ h', Inv X pins (σ.set i (some v)) H { s with heap := h', toks := s.toks + 1 } → Heap.SameBut X.env.locals s.heap h' → Q () { s with heap := h', toks := s.toks + 1 }) : wpAny (model X.prog X.w) X.A (storeName X.env x u) Q E s := by
  obtain ⟨m, hn, hl⟩ := id I.loc
  have hcls : (X.env.scope.kind == .class || (X.env.scope.kind == .module && X.env.locals != X.env.globals)) = false := by rw [I.ok.kind]; rfl
  have hiσ : i < σ.length := by rw [I.len]; exact (List.getElem?_eq_some_iff.mp hi).1
  have cne := I.cne
  refine wpAny_storeName_local hk hn (fun h' hn' hs => ?_) hcls
  obtain ⟨oL, _, _, hoL, _⟩ := id hn
  have low : ∀ {b : Addr} {o : Obj}, X.s_0.heap.get? b = some o → b ≠ X.env.locals := fun {b o} e => Nat.ne_of_lt (Nat.lt_of_lt_of_le (Heap.lt_size e) I.ok.above)
  refine h h' ⟨I.ok, I.os, I.bare, ⟨fun b o e n hb hx => (hs.2 b (low e)).trans (I.base.keep b o e n hb hx), fun b o e n hb hx => ?_, I.base.free, fun b o e hx => ?_, I.base.tups, I.base.frzs, I.base.tbls⟩, ⟨_, hn', fun j y v' q1 q2 q3 => ?_⟩, fun y c e => ?_, I.free, I.freeC, fun p hp => ?_, fun b ob e => ?_, by simpa using I.len⟩ hs
  · obtain ⟨sl, q⟩ := I.base.slot b o e n hb hx
    exact ⟨sl, (hs.2 b (low e)).trans q⟩
  · obtain ⟨o', q⟩ := I.base.there b o e hx
    exact ⟨o', (hs.2 b (low e)).trans q⟩
  · by_cases hj : j = i
    · subst hj
      rw [hi] at q1; cases q1
      rw [List.getElem?_set_self hiσ] at q2
      cases q2
      exact ⟨u, r, .inl ⟨hk, by simp⟩⟩
    · rw [List.getElem?_set_ne (Ne.symm hj)] at q2
      obtain ⟨u', r', q⟩ := hl j y v' q1 q2 q3
      refine ⟨u', r', ?_⟩
      rcases q with ⟨k, e⟩ | ⟨k, c, e, z⟩
      · have ny : y ≠ x := fun e => hj (nodup_ix hN q1 (e ▸ hi))
        exact .inl ⟨k, by simp [ny, e]⟩
      · exact .inr ⟨k, c, e, z.sameBut hs (cne y c e)⟩
  · obtain ⟨w', z⟩ := I.cell y c e
    exact ⟨w', z.sameBut hs (cne y c e)⟩
  · obtain ⟨e, n, ne, nf, d⟩ := I.pin p hp
    exact ⟨(hs.2 p.1 ne).trans e, n, ne, nf, d⟩
  · refine (I.hok b ob e).stay (fun c w' hc q => (hs.2 c ?_).trans q) (fun _ q => q) fun _ _ q => q
    intro z
    rcases hc with y | y
    · rw [← y, z, I.free] at e; cases e
    · rw [z, I.free] at y; cases y
/-- what is left as it was -/
structure Fz (S L : Addr) (x : V) (s s' : Shared) : Prop where
  os : s'.os = s.os
  gens : s'.gens = s.gens
  keep : ∀ b o, b ≠ S → b ≠ L → s.heap.get? b = some o → s'.heap.get? b = some o
  own : ∀ acc c, s.heap.get? S = some (lstObj acc c) → ∃ v c', RelV x v ∧ s'.heap.get? S = some (lstObj (acc.push v) c')
/-- x = item; xs.append(x); if len(xs) >= n: break -/
theorem turnJ {xn fn mn : Str} {i j k : Nat} {p0 p1 p2 p3 p4 p5 p6 p7 p8 p9 p10 p11 p12 : Pos} (hN : X.N.Nodup) (hi : X.N[i]? = some xn) (hxk : X.env.scope.names.lookup xn = some .local) (hxv : Vis X.env.scope xn) (hj : X.N[j]? = some fn) (hfv : Vis X.env.scope fn) (hk : X.N[k]? = some mn) (hmv : Vis X.env.scope mn) (nij : i ≠ j) (nik : i ≠ k)
    (dx : (xn == ("__debug__" : Str)) = false) (dx' : (xn == ("__classdict__" : Str)) = false) (df : (fn == ("__debug__" : Str)) = false) (df' : (fn == ("__classdict__" : Str)) = false) (dm : (mn == ("__debug__" : Str)) = false) (dm' : (mn == ("__classdict__" : Str)) = false)
    (hg : Gl X "len") (hmg : X.mg "len" = none) (hline : (p1.endLine == p2.line) = true)
    (hsw : swapsWith (.Call (.Attribute (.Name fn p0) "append" p1) [.Name xn p3] [] p2) none p4.line X.env = pure false)
    (he1 : starEach [.Name xn p3] X.env = [(false, eval (.Name xn p3) X.env)]) (he2 : starEach [.Name fn p6] X.env = (false, eval (.Name fn p6) X.env) :: starEach [] X.env) (he3 : backTo p7 (starEach [] X.env) = [])
    (hbase : attributeBase (.Name fn p0) "append" X.env (eval (.Name fn p0) X.env) = eval (.Name fn p0) X.env)
    (hkw : keywordEach [] X.env = [])
    {S : Addr} {ys : List V} {x : V} {v : Value} {m : Int} {acc : Array Value} {c : Nat} (I : Inv X pins σ H s) (ej : σ[j]? = some (some (.ref S))) (ek : σ[k]? = some (some (.int m))) (iσ : i < σ.length) (hS : H S = some (.lst ys)) (eS : s.heap.get? S = some (lstObj acc c)) (hl : ys.length < 1000) (rv : RelV x v)
    {Q : Flow → Shared → Prop}
    (q : ∀ s', Inv X pins (σ.set i (some x)) (L2.upd H S (.lst (ys ++ [x]))) s' → Fz S X.env.locals x s s' → Q (if m ≤ (ys.length : Int) + 1 then .brk else .next) s') :
    wpAny (model X.prog X.w) X.A (assign (.Name xn p11) X.env v) (fun _ s2 => wpAny (model X.prog X.w) X.A (execs [.Expr (.Call (.Attribute (.Name fn p0) "append" p1) [.Name xn p3] [] p2) p4, .If (.Compare (.Call (.Name "len" p5) [.Name fn p6] [] p7) [.GtE] [.Name mn p8] p9) [.Break p10] [] p12] X.env) Q E s2) E s := by
  refine wpAny_assign_Name (st_var I hN hi hxk rv fun h2 I2 sb2 => ?_)
  have ej2 : (σ.set i (some x))[j]? = some (some (.ref S)) := by rw [List.getElem?_set_ne nij]; exact ej
  have ek2 : (σ.set i (some x))[k]? = some (some (.int m)) := by rw [List.getElem?_set_ne nik]; exact ek
  have ei2 : (σ.set i (some x))[i]? = some (some x) := List.getElem?_set_self iσ
  have SL : S ≠ X.env.locals := fun z => by rw [z, I.free] at hS; cases hS
  have eS2 : h2.get? S = some (lstObj acc c) := (sb2.2 S SL).trans eS
  have hlen : acc.size = ys.length := by
    obtain ⟨_, its, n, r, _, e⟩ := I.lstM hS
    rw [eS] at e
    have z := r.length
    have e' : acc = its.toArray := by injection e with e; injection e with _ _ e _; injection e
    rw [e']
    simpa using z.symm
  refine wpAny_execs_cons (wpAny_Expr_any (wpAny_Call_method_late hbase (by rw [he1, hkw]; rfl) hline rfl (ev_var I2 hj ej2 hfv (fun u0 r0 => ?_) df df')) I.quiet hsw)
  obtain rfl : u0 = Value.ref S := r0
  refine ⟨"list", "list.append", PySem.F.plainAttrs_list, PySem.F.slot_list_append, PySem.F.type_list_append, ⟨_, eS2, rfl⟩, fun a ea => ?_, ?_⟩
  · cases ea
    exact ⟨_, eS2, rfl⟩
  rw [he1]
  refine Calls.callWith_builtin rfl (Calls.evalArgs_plain (Calls.spliced_cons (ev_var I2 hi ei2 hxv (fun u1 r1 => ?_) dx dx')))
  refine Calls.spliced_nil ?_
  obtain ⟨z, its, n, r, hlz, e⟩ := I2.lstM hS
  have ea : acc = its.toArray := by
    have e' : h2.get? S = some (lstObj its.toArray n) := e
    rw [eS2] at e'
    injection e' with e'; injection e' with _ _ e' _; injection e'
  refine call_meets F.slot_list_append ⟨_, e, rfl⟩ F.entry_list_append (F.args_list_append_2 _ _) (PySem.list_append S its.toArray n u1 (by rw [List.size_toArray]; omega)) ⟨e, ?_⟩
  have I3 := I2.lset (its' := its ++ [u1]) (ys := ys ++ [x]) (f := (·.push u1)) (t' := s.toks + 1) hS e (by simp) (r.append (.cons r1 .nil)) (by rw [List.length_append, List.length_singleton]; exact Nat.le_of_lt (small1000 (by omega)))
  show wpAny (model X.prog X.w) X.A (execs [.If (.Compare (.Call (.Name "len" p5) [.Name fn p6] [] p7) [.GtE] [.Name mn p8] p9) [.Break p10] [] p12] X.env) Q E { s with heap := h2.update S (Obj.mapSeq (·.push u1)), toks := s.toks + 1 }
  refine wpAny_execs_cons (wpAny_If (wpAny_isTrue_Compare1 (wpAny_Call_Name_kw (ld_blt I3 hg hmg PySem.boot_len (PyProof.Rows.callWith_builtin1 ?_ he2 (by rw [he3]; rfl)))) (by rfl)))
  rw [he2]
  show wpAny _ _ (spliced ((false, eval (.Name fn p6) X.env) :: backTo p7 (starEach [] X.env))) _ _ _
  refine Calls.spliced_cons (ev_var I3 hj ej2 hfv (fun u2 r2 => ?_) df df')
  rw [he3]
  refine Calls.spliced_nil ?_
  obtain rfl : u2 = Value.ref S := r2
  obtain ⟨its3, rv3, pl3, hz3⟩ := I3.list (xs := ys ++ [x]) (SqL.of upd_same)
  have l3 := rv3.length
  have hn := line63
  refine Calls.call_len_list pl3.isList (by simp only [List.size_toArray]; omega) ?_
  have I4 := I3.tok (s.toks + 1 + 1 + 1)
  refine ev_var I4 hk ek2 hmv (fun u4 r4 => ?_) dm dm'
  obtain ⟨t4, rfl⟩ := r4
  refine ge_int (wpAny_truthy_bool ?_)
  have esz : ((its3.toArray.size : Nat) : Int) = (ys.length : Int) + 1 := by
    rw [List.size_toArray, ← l3, List.length_append, List.length_singleton]
    omega
  have fz : Fz S X.env.locals x s { s with heap := h2.update S (Obj.mapSeq (·.push u1)), toks := s.toks + 1 + 1 + 1 } := by
    refine ⟨rfl, rfl, fun b o n1 n2 q => ?_, fun acc' c' q => ?_⟩
    · show (h2.update S (Obj.mapSeq (·.push u1))).get? b = some o
      rw [Heap.get?_update_other _ _ (Ne.symm n1)]
      exact (sb2.2 b n2).trans q
    · have q' : h2.get? S = some (lstObj acc' c') := (sb2.2 S SL).trans q
      exact ⟨u1, _, r1, Heap.get?_update_self _ q' rfl⟩
  have fin := q _ I4 fz
  rw [esz]
  by_cases hb : m ≤ (ys.length : Int) + 1
  · rw [if_pos hb] at fin
    rw [if_pos (by simpa using hb)]
    exact wpAny_execs_cons (wpAny_Break fin)
  · rw [if_neg hb] at fin
    rw [if_neg (by simpa using hb)]
    exact wpAny_execs_nil (wpAny_execs_nil fin)
end
end Sa

set_option Elab.async false
set_option linter.all false
set_option maxRecDepth 100000
set_option maxHeartbeats 4000000
namespace Sa
open PySem PySem.Spec PyProof.Rows L2 GenW
section
variable {X : Cx} {pins : List (Addr × Obj)} {G : GP} {H : Hp} {S : Addr}
/-- the consumer, where the generator's base stands -/
theorem virt {σ0 σ : L2.St} {ys0 ys : List V} {Hr : Hp} {s : Shared} (k : G.Ok) (eL : G.L = X.env.locals) (hS : H G.S = some (.lst ys0)) (hcell : ∀ x, X.env.cells.lookup x = none)
    (I0 : Inv X pins σ0 H G.sc) (I : Inv X pins σ (L2.upd Hr G.S (.lst ys)) s) : Inv X pins σ (L2.upd H G.S (.lst ys)) (G.bs s) := by
  have hLs : ∃ o, s.heap.get? G.L = some o := by
    obtain ⟨m, hn, _⟩ := I.loc
    obtain ⟨o, _, _, e, _⟩ := hn
    exact ⟨o, by rw [eL]; exact e⟩
  obtain ⟨oL, eoL⟩ := hLs
  have bL := bs_L k eoL
  obtain ⟨z, its, n, r, eS⟩ := I.hok G.S _ upd_same
  have bS := bs_S k eS
  have low : ∀ {b : Addr} {o : Obj}, X.s_0.heap.get? b = some o → b ≠ G.L := fun {b o} e => by rw [eL]; exact Nat.ne_of_lt (Nat.lt_of_lt_of_le (Heap.lt_size e) I0.ok.above)
  have nS : ∀ {b : Addr}, H b = none → b ≠ G.S := fun {b} e q => by rw [q, hS] at e; cases e
  have nL : ∀ {b : Addr} {u : HO}, H b = some u → b ≠ G.L := fun {b u} e q => by rw [q, eL, I0.free] at e; cases e
  have U := I0.base
  refine ⟨I0.ok, I0.os, I0.bare, ⟨fun b o e n hb hx => ?_, fun b o e n hb hx => ?_, fun b o e n hx => ?_, fun b o e hx => ?_, fun b xs e => ?_, fun b o u e => ?_, fun b qs e => ?_⟩, ?_, fun x c e => ?_, ?_, fun x c e => ?_, fun p hp => ?_, fun a u q => ?_, I.len⟩
  · rw [bs_other (nS (U.free b o e n hx)) (low e)]
    exact U.keep b o e n hb hx
  · rw [bs_other (nS (U.free b o e n hx)) (low e)]
    exact U.slot b o e n hb hx
  · rw [upd_ne (nS (U.free b o e n hx))]
    exact U.free b o e n hx
  · by_cases h1 : b = G.S
    · rw [h1]; exact ⟨_, bS⟩
    · rw [bs_other h1 (low e)]
      exact U.there b o e hx
  · have q := U.tups b xs e
    rw [upd_ne (fun z => by rw [z, hS] at q; cases q)]
    exact q
  · have q := U.frzs b o u e
    rw [upd_ne (fun z => by rw [z, hS] at q; cases q)]
    exact q
  · obtain ⟨more, q⟩ := U.tbls b qs e
    exact ⟨more, by rw [upd_ne (fun z => by rw [z, hS] at q; cases q)]; exact q⟩
  · obtain ⟨m, hn, hl⟩ := I.loc
    refine ⟨m, ?_, fun i x v h1 h2 h3 => ?_⟩
    · refine hn.at' fun o e => ?_
      rw [← eL] at e ⊢
      rw [eoL] at e
      cases e
      exact bL
    · obtain ⟨u, ru, lk⟩ := hl i x v h1 h2 h3
      refine ⟨u, ru, ?_⟩
      rcases lk with y | ⟨_, c, e, _⟩
      · exact .inl y
      · rw [hcell x] at e; cases e
  · rw [hcell x] at e; cases e
  · rw [upd_ne (by rw [← eL]; exact k.sl.symm)]
    exact I0.free
  · rw [hcell x] at e; cases e
  · obtain ⟨h1, h2, h3, h4, h5⟩ := I0.pin p hp
    refine ⟨?_, by rw [upd_ne (nS h2)]; exact h2, h3, h4, h5⟩
    rw [bs_other (nS h2) (by rw [eL]; exact h3)]
    exact h1
  · by_cases h1 : a = G.S
    · subst h1
      rw [upd_same] at q
      cases q
      exact ⟨z, its, n, r, bS⟩
    · rw [upd_ne h1] at q
      have own : ∀ {b : Addr}, H b = some (.own a) → b ≠ G.S := fun {b} e y => by rw [y, hS] at e; cases e
      refine (I0.hok a u q).stay (fun c w' hc y => ?_) (fun b y => by rw [upd_ne (own y)]; exact y) fun b xs y => ?_
      · rcases hc with y1 | y1
        · rw [y1] at y ⊢
          rw [bs_other h1 (nL q)]
          exact y
        · rw [bs_other (own y1) (nL y1)]
          exact y
      · rw [upd_ne (fun z => by rw [z, hS] at y; cases y)]
        exact y
/-- the consumer behind the generator's run -/
theorem behind {σ : L2.St} {ys0 ys : List V} {ip : List (Addr × Obj)} {σg : L2.St} {Hg : Hp} {s₀ s : Shared} (k : G.Ok) (eP : G.P = X.prog) (ew : G.w = X.w) (eo : G.outer = X.stack) (eH : G.H1 = wo H G.S) (hy : ys.length ≤ sizeLine)
    (V : Inv X pins σ (L2.upd H G.S (.lst ys0)) (G.bs s₀)) (J : GJ G s₀ ip ys σg Hg s) : Inv X pins σ (L2.upd Hg G.S (.lst ys)) s := by
  obtain ⟨acc1, c1, r1, eS1, hS1⟩ := J.S k
  obtain ⟨acc, c, r, e, I⟩ := J
  have U : Un (frs X.stack) [] (wo H G.S) Hg (G.bs s₀).heap s.heap := by rw [← eo, ← eH]; exact I.base
  have hs : ∀ {b : Addr}, (L2.upd H G.S (.lst ys0)) b = none → b ≠ G.S ∧ wo H G.S b = none := fun {b} e => by
    have n : b ≠ G.S := fun z => by rw [z, upd_same] at e; cases e
    rw [upd_ne n] at e
    exact ⟨n, wo_none e⟩
  have nil : ∀ a : Addr, a ∉ ([] : List Addr) := fun a h => by simp at h
  refine V.call' (ch := []) I.os ⟨fun b o e n hb hx => U.keep b o e (hs n).2 hb hx, fun b o e n hb hx => U.slot b o e (hs n).2 hb hx, fun b o e n hx => ?_, fun b o e hx => ?_, fun b xs q => ?_, fun b o u q => ?_, fun b qs q => ?_⟩ (fun a u q => ?_) I.bare fun b hb => absurd hb (nil b)
  · rw [upd_ne (hs n).1]
    exact U.free b o e (hs n).2 hx
  · exact U.there b o e hx
  · have n : b ≠ G.S := fun z => by rw [z, upd_same] at q; cases q
    rw [upd_ne n] at q ⊢
    exact U.tups b xs (by rw [wo_ne n]; exact q)
  · have n : b ≠ G.S := fun z => by rw [z, upd_same] at q; cases q
    rw [upd_ne n] at q ⊢
    exact U.frzs b o u (by rw [wo_ne n]; exact q)
  · have n : b ≠ G.S := fun z => by rw [z, upd_same] at q; cases q
    rw [upd_ne n] at q ⊢
    exact U.tbls b qs (by rw [wo_ne n]; exact q)
  · by_cases h1 : a = G.S
    · subst h1
      rw [upd_same] at q
      cases q
      exact ⟨hy, acc1.toList, c1, r1, by rw [eS1]⟩
    · rw [upd_ne h1] at q
      have own : ∀ {b : Addr} {o : HO}, Hg b = some o → b ≠ G.S := fun {b o} e y => by rw [y, hS1] at e; cases e
      have hok : HOk X.prog X.w Hg s.heap := by rw [← eP, ← ew]; exact I.hok
      exact (hok a u q).stay (fun _ _ _ y => y) (fun b y => by rw [upd_ne (own y)]; exact y) fun b xs y => by rw [upd_ne (own y)]; exact y
end
end Sa

set_option Elab.async false
set_option linter.all false
set_option maxRecDepth 100000
set_option maxHeartbeats 4000000
namespace Sa
open PySem PySem.Spec PyProof.Rows L2 GenW
/-! ### for x in g(e): xs.append(x); if len(xs) >= n: break -/
def tForJ (X : Cx) (i j k l : Nat) (Ng : List Str) (qual : Str) (scope : Scope) (f : Addr) (cdv : Value) (body : List Stmt) (kr : Nat) : TS := fun D σ H =>
  ∃ (v : V) (m : Int) (S : Addr) (Dat : List V → Hp → Prop) (Qe : List V → Hp → Prop), σ[l]? = some (some v) ∧ σ[j]? = some (some (.ref S)) ∧ σ[k]? = some (some (.int m)) ∧ i < σ.length ∧ H S = some (.lst []) ∧ 0 < m ∧ (∀ ys H', Dat ys H' → ys.length ≤ 1000) ∧ (∀ ys H', Qe ys H' → ys.length ≤ 1000) ∧
  (∀ (A : Around) (sc : Shared) (pn : List (Addr × Obj)), Room kr (A.deeper (envOfC qual scope sc.heap.objs.size f cdv)) →
    ∃ t, JSs ⟨X.prog, X.w, X.K, X.mg, X.base, Ng, qual, scope, f, cdv, A, X.stack, sc, wo H S, pn, S, X.env.locals, Dat⟩ body t ∧ t { nx := fun ys _ H' => V.non = .non ∧ Qe ys H', rt := fun ys v H' => v = .non ∧ Qe ys H' } [] (start Ng [v]) (wo H S)) ∧
  (∀ ys x Hg σ', Dat (ys ++ [x]) Hg → Hg S = none → m = (ys.length : Int) + 1 → (∀ q, q ≠ i → σ'[q]? = σ[q]?) → D.nx σ' (L2.upd Hg S (.lst (ys ++ [x])))) ∧
  (∀ ys Hg σ', Qe ys Hg → Hg S = none → (ys.length : Int) < m → (∀ q, q ≠ i → σ'[q]? = σ[q]?) → D.nx σ' (L2.upd Hg S (.lst ys)))
theorem invGens {X : Cx} {pins : List (Addr × Obj)} {σ : L2.St} {H : Hp} {s : Shared} {g : Nat} {x : GenState} (I : Inv X pins σ H s) (hx : x.bare = true) : Inv X pins σ H (s.setGen g x) :=
  I.call' (s' := s.setGen g x) (ch := []) rfl (Un.kept fun b o e => e) I.hok (allBare_setGen I.bare hx) fun b hb => by simp at hb
theorem ps_forJ {X : Cx} {xn fn mn tn gn : Str} {i j k l kr : Nat} {p0 p1 p2 p3 p4 p5 p6 p7 p8 p9 p10 p11 p12 p13 p14 p15 p16 : Pos}
    {f : Addr} {name qual : Str} {params : Arguments} {body : List Stmt} {scope : Scope} {dV kV doc pm cdv ct oc : Value} {an od : Option Addr} {osl : Array (Option Value)} {Ng : List Str} {gp : Str}
    (lk : X.K.lookup f = some ⟨oc, od, .func (PySem.W.fnOf name qual params body scope dV kV doc pm an cdv ct), osl⟩) (hcd : PySem.W.codeIn X.K cdv qual = true) (S0 : GScope Ng [gp] scope) (hb : Binds X.K (PySem.W.fnOf name qual params body scope dV kV doc pm an cdv ct) [gp] [])
    (hgl : Gl X gn) (hmg : X.mg gn = some (.ref f)) (hkp : PySem.W.keepIn X.K (.ref f) = true) (hr : Room (kr + 3) X.A) (hcalm : X.calm = true) (hstk : X.stack = X.env :: X.outer) (hfr : X.env.frame = some X.env.locals) (hcell : ∀ x, X.env.cells.lookup x = none)
    (hN : X.N.Nodup) (hi : X.N[i]? = some xn) (hxk : X.env.scope.names.lookup xn = some .local) (hxv : Vis X.env.scope xn) (hj : X.N[j]? = some fn) (hfv : Vis X.env.scope fn) (hk : X.N[k]? = some mn) (hmv : Vis X.env.scope mn) (hl : X.N[l]? = some tn) (htv : Vis X.env.scope tn) (nij : i ≠ j) (nik : i ≠ k)
    (dx : (xn == ("__debug__" : Str)) = false) (dx' : (xn == ("__classdict__" : Str)) = false) (df : (fn == ("__debug__" : Str)) = false) (df' : (fn == ("__classdict__" : Str)) = false) (dm : (mn == ("__debug__" : Str)) = false) (dm' : (mn == ("__classdict__" : Str)) = false)
    (dt : (tn == ("__debug__" : Str)) = false) (dt' : (tn == ("__classdict__" : Str)) = false) (dg : (gn == ("__debug__" : Str)) = false)
    (hg : Gl X "len") (hml : X.mg "len" = none) (hline : (p1.endLine == p2.line) = true)
    (hsw : swapsWith (.Call (.Attribute (.Name fn p0) "append" p1) [.Name xn p3] [] p2) none p4.line X.env = pure false)
    (he1 : starEach [.Name xn p3] X.env = [(false, eval (.Name xn p3) X.env)]) (he2 : starEach [.Name fn p6] X.env = (false, eval (.Name fn p6) X.env) :: starEach [] X.env) (he3 : backTo p7 (starEach [] X.env) = [])
    (hbase : attributeBase (.Name fn p0) "append" X.env (eval (.Name fn p0) X.env) = eval (.Name fn p0) X.env)
    (hkw : keywordEach [] X.env = []) (he4 : starEach [.Name tn p13] X.env = (false, eval (.Name tn p13) X.env) :: starEach [] X.env) (hpl : (backTo p14 (starEach [] X.env)).any (·.1) = false)
    (hs : ∀ x, foldedSetIterable (.Call (.Name gn p15) [.Name tn p13] [] p14) X.env x = pure x) :
    PS X (.For (.Name xn p11) (.Call (.Name gn p15) [.Name tn p13] [] p14) [.Expr (.Call (.Attribute (.Name fn p0) "append" p1) [.Name xn p3] [] p2) p4, .If (.Compare (.Call (.Name "len" p5) [.Name fn p6] [] p7) [.GtE] [.Name mn p8] p9) [.Break p10] [] p12] [] p16)
      (tForJ X i j k l Ng qual scope f cdv body kr) := by
  refine ⟨fun pins s σ H D I h => ?_⟩
  obtain ⟨v, m, S, Dat, Qe, el, ej, ek, iσ, hS, hm, hDat, hQe, hbody, hbrk, hend⟩ := h
  refine wpAny_For (wpAny_Call_Name_kw (ld_glob I hgl hmg ?_ dg)) hs
  have ha : PA X [.Name tn p13] (tCons (tVar l) tNil) := pa_cons (pe_var hl htv dt dt') pa_nil he4
  refine PySem.W.callWith_K (h₀ := X.base) I.ok.mod.kin hkp (thn (ha.run p14 pins s σ H (fun vs H1 => vs = [v] ∧ H1 = H) I ⟨v, el, rfl, rfl⟩) fun us s1 ⟨vs, H1, I1, r, ev, eH⟩ => ⟨I1.kIn, ?_⟩) he4 hpl
  subst ev
  rw [eH] at I1
  have hok1 : HOk X.prog X.w (wo H S) s1.heap := fun a u q => by
    obtain ⟨n, q⟩ := wo_some q
    refine (I1.hok a u q).stay (fun _ _ _ y => y) (fun b y => ?_) fun b xs y => ?_
    · rw [wo_ne (fun z => by rw [z, hS] at y; cases y)]; exact y
    · rw [wo_ne (fun z => by rw [z, hS] at y; cases y)]; exact y
  have e0 : Env0 X.prog X.w X.K X.mg X.base X.A.in1 X.stack s1 (wo H S) := ⟨I1.ok.frames, I1.mod, fun b o e => ⟨(I1.bs b o e).1, wo_none (I1.bs b o e).2⟩, Nat.le_trans I1.ok.bsz I1.sz, I1.stack, fun b hb => wo_none (I1.stkFree b hb), hok1, I1.bare⟩
  obtain ⟨z0, its0, n0, r0, l0, eS0⟩ := I1.lstM hS
  have eit : its0 = [] := List.eq_nil_of_length_eq_zero (by rw [← l0]; rfl)
  subst eit
  have eSl : s1.heap.get? S = some (lstObj #[] n0) := eS0
  have hLs : ∃ o, s1.heap.get? X.env.locals = some o := by
    obtain ⟨mm, hn, _⟩ := I1.loc
    obtain ⟨o, _, _, e, _⟩ := hn
    exact ⟨o, e⟩
  have SL : S ≠ X.env.locals := fun z => by rw [z, I.free] at hS; cases hS
  have Sf : S ∉ frs X.stack := fun z => by rw [I1.stkFree S z] at hS; cases hS
  have Lf : X.env.locals ∈ frs X.stack := by
    rw [hstk]
    show _ ∈ List.filterMap _ _
    rw [List.filterMap_cons, hfr]
    exact List.mem_cons_self
  have Sb : X.base.get? S = none := by
    cases e : X.base.get? S with
    | none => rfl
    | some o => rw [(I1.bs S o e).2] at hS; cases hS
  have hrA : Room (kr + 1) X.A.in1 := by
    refine ⟨hr.hd, ?_, ?_⟩
    · have := hr.dp
      show X.A.depth + 3 * (kr + 1) + 5 < _
      omega
    · have := hr.un
      show X.A.units + 1 + 16 * (kr + 1) + 200 < _
      omega
  have l2 := r.length
  have hl1 : us.length = [gp].length := by rw [← l2]; rfl
  have hbt := hb s1 us I1.kIn (by rw [List.append_nil]; exact hl1)
  rw [List.append_nil] at hbt
  refine wpAny_call (codeAny_mono (jmade_of (Dat := Dat) (Q := fun ys v H' => v = .non ∧ Qe ys H') lk hcd S0 (hr.mono (by omega)) hrA e0 hbt r rfl eSl hLs SL Sf Lf Sb (fun pn hr' => ?_)) fun rr s2 hq => ?_)
  · exact hbody X.A.in1 s1 pn hr'
  cases rr with
  | error e => exact False.elim hq
  | ok fl =>
  cases fl with
  | next => exact False.elim hq
  | brk => exact False.elim hq
  | cont => exact False.elim hq
  | ret u =>
  obtain ⟨a, g, c, go, rfl, ha1, hgo, hgen, hgs, hos, hbare, hkeep, gok, hgenof, wake⟩ := hq
  refine wpAny_pyIter_gen hgen ?_
  generalize eG : (⟨X.prog, X.w, X.K, X.mg, X.base, Ng, qual, scope, f, cdv, X.A.in1, X.stack, s1, wo H S, [(a, go)], S, X.env.locals, Dat⟩ : GP) = G at gok wake
  have gS : G.S = S := by rw [← eG]
  have gL : G.L = X.env.locals := by rw [← eG]
  have gsc : G.sc = s1 := by rw [← eG]
  have gDat : G.Dat = Dat := by rw [← eG]
  have aS : a ≠ S := fun z => absurd (Heap.lt_size eSl) (by rw [← z]; exact Nat.not_lt.mpr ha1)
  have aL : a ≠ X.env.locals := fun z => absurd I1.lt (by rw [← z]; exact Nat.not_lt.mpr ha1)
  have wake2 : ∀ s2' : Shared, s2'.heap = s2.heap → s2'.os = s1.os → AllBare s2'.gens →
      Seg (model X.prog X.w) X.A.in1 (fun n s₀ r s₁ => ((r = .ok (.ret .none) ∨ r = .ok .next) ∧ ∃ ys ip σg Hg, GJ G s₀ ip ys σg Hg s₁ ∧ Qe ys Hg) ∨ ∃ e, r = .error e ∧ False) (JY G) sizeLine s2' c ((model X.prog X.w).den c) [] s2' := fun s2' q1 q2 q3 => by
    refine seg_imp (fun n s₀ r s₁ hR => ?_) (fun n s₀ v s₁ kap kap' hkk hY => ?_) sizeLine (wake s2' q1 q2 q3)
    · cases r with
      | error e => exact False.elim hR
      | ok fl =>
        cases fl with
        | next => exact False.elim hR
        | brk => exact False.elim hR
        | cont => exact False.elim hR
        | ret u =>
          obtain ⟨ys, v', ip, σg, Hg, J, rv, ev', hQ⟩ := hR
          subst ev'
          have eu : u = Value.none := rv
          subst eu
          exact .inl ⟨.inl rfl, ys, ip, σg, Hg, J, hQ⟩
    · obtain ⟨ys, x, ip, σg, Hg, h1, h2, h3, h4, h5⟩ := hY
      exact ⟨ys, x, ip, σg, Hg, h1, h2, h3, h4, fun s' z => hkk _ _ (h5 s' z)⟩
  have I2 : Inv X pins σ H s2 := I1.call' (ch := []) hos (Un.kept hkeep) (I1.hok.kept hkeep) hbare fun b hb => by simp at hb
  have HS : L2.upd H S (.lst []) = H := by
    funext b
    by_cases e : b = S
    · rw [e, upd_same, hS]
    · rw [upd_ne e]
  have I1s : Inv X pins σ H G.sc := by rw [gsc]; exact I1
  have V0 : Inv X pins σ (L2.upd H G.S (.lst [])) (G.bs s2) := virt gok gL (by rw [gS]; exact hS) hcell I1s (Hr := H) (by rw [gS, HS]; exact I2)
  refine codeAny_forLoop_any (fun n s => ∃ (gs : GenState) (σ' : L2.St) (ys : List V) (acc : Array Value) (c : Nat) (Hr : Hp), (∀ q, q ≠ i → σ'[q]? = σ[q]?) ∧ σ'.length = σ.length ∧ s.gens[g]? = some gs ∧
    gs.Goes (model X.prog X.w) X.A.in1 (fun n s₀ r s₁ => ((r = .ok (.ret .none) ∨ r = .ok .next) ∧ ∃ ys ip σg Hg, GJ G s₀ ip ys σg Hg s₁ ∧ Qe ys Hg) ∨ ∃ e, r = .error e ∧ False) (JY G) n (.send .none) (s.setGen g .running) ∧
    s.heap.get? S = some (lstObj acc c) ∧ (acc.size : Int) < m ∧ s.heap.get? a = some go ∧ Inv X pins σ' Hr s ∧ Inv X pins σ' (L2.upd H G.S (.lst ys)) (G.bs s)) ?_ sizeLine
    ⟨_, σ, [], #[], n0, H, fun _ _ => rfl, rfl, hgs, ⟨rfl, wake2 _ rfl hos (allBare_setGen hbare rfl)⟩, hkeep _ _ eSl, hm, hgo, I2, V0⟩
  rintro n s3 ⟨gs, σ', ys0, acc, c3, Hr, hσ, hσl, hgs3, hgoes, eS3, hacc, hgo3, I3, V3⟩
  have hgl3 : g < s3.gens.size := (Array.getElem?_eq_some_iff.mp hgs3).1
  -- what an item or the end tells
  have tell : ∀ {ip : List (Addr × Obj)} {ys : List V} {σg : L2.St} {Hg : Hp} {s₁ : Shared}, ys.length ≤ 1000 → GJ G (s3.setGen g .running) ip ys σg Hg s₁ → Inv X pins σ' (L2.upd Hg S (.lst ys)) s₁ ∧ (ys.length : Int) < m ∧ Hg S = none ∧ (∃ acc c, s₁.heap.get? S = some (lstObj acc c)) ∧ s₁.heap.get? a = some go := fun {ip ys σg Hg s₁} hy J => by
    obtain ⟨acc1, c1, r1, q1, q2⟩ := J.S gok
    have B := behind (X := X) (pins := pins) (H := H) gok (by rw [← eG]) (by rw [← eG]) (by rw [← eG]) (by rw [← eG]) (Nat.le_of_lt (small1000 hy)) V3 J
    rw [gS] at B q1 q2
    obtain ⟨acc2, c2, r2, e2, IG⟩ := J
    have e2' : (G.bs s3).heap.get? G.S = some (lstObj acc2 c2) := e2
    have eb := bs_S gok (show s3.heap.get? G.S = some (lstObj acc c3) by rw [gS]; exact eS3)
    rw [eb] at e2'
    have ea : acc = acc2 := by
      injection e2' with e2'
      injection e2' with _ _ e2' _
      injection e2'
    have lz : ys.length = acc.size := by
      have lz := r2.length
      rw [← ea] at lz
      simpa using lz
    refine ⟨B, by rw [lz]; exact hacc, q2, ⟨acc1, c1, q1⟩, ?_⟩
    have hp : (a, go) ∈ (G.gx (G.bs (s3.setGen g .running))).pn ++ ip := List.mem_append_left _ (by subst eG; exact List.mem_singleton.mpr rfl)
    exact (IG.pin (a, go) hp).1
  have hdep : X.A.depth < recursionLimit := by
    have := hr.dp
    omega
  cases n with
  | zero =>
    refine next_genG (A := X.A) (n := 0) (I3.ok.hd hcalm) I3.nolimit hdep (hgenof _ hgo3) hgs3 hgoes (fun v s₁ gs' hb' hv => ?_) (fun s₁ hp h' hk' => ?_) (fun e s₁ h => False.elim h)
    · obtain ⟨ys, x, ip, σg, Hg, hn, rv, J, dat, wk⟩ := hv
      rw [gDat] at dat
      have z := hDat _ _ dat
      rw [List.length_append, List.length_singleton] at z
      have z2 : (0 : Nat) - 1 + 1 + ys.length = sizeLine := hn
      have := small1000 (n := 1000) (Nat.le_refl _)
      omega
    · obtain ⟨ys, ip, σg, Hg, J, hQ⟩ := hp
      obtain ⟨B, lt, hn, _, _⟩ := tell (hQe _ _ hQ) J
      exact wpAny_execs_nil ⟨σ', _, (invGens (g := g) B rfl).kept (t' := s₁.toks) hk', hend ys Hg σ' hQ hn lt hσ⟩
  | succ n =>
    refine wpAny_gsz (n := g + 1) hgl3 (next_genG (A := X.A) (n := n + 1) (I3.ok.hd hcalm) I3.nolimit hdep (hgenof _ hgo3) hgs3 hgoes (fun v s₁ gs' hb' hv => ?_) (fun s₁ hp h' hk' => ?_) (fun e s₁ h => False.elim h))
    · intro hsz
      obtain ⟨ys, x, ip, σg, Hg, hn, rv, J, dat, wk⟩ := hv
      rw [gDat] at dat
      have z := hDat _ _ dat
      rw [List.length_append, List.length_singleton] at z
      obtain ⟨B, lt, hn', ⟨acc1, c1, q1⟩, hgo1⟩ := tell (show ys.length ≤ 1000 by omega) J
      have B2 := invGens (g := g) B hb'
      refine wpAny_pure ?_
      have ej' : σ'[j]? = some (some (.ref S)) := (hσ j (Ne.symm nij)).trans ej
      have ek' : σ'[k]? = some (some (.int m)) := (hσ k (Ne.symm nik)).trans ek
      refine turnJ hN hi hxk hxv hj hfv hk hmv nij nik dx dx' df df' dm dm' hg hml hline hsw he1 he2 he3 hbase hkw B2 ej' ek' (by rw [hσl]; exact iσ) upd_same q1 (by omega) rv fun s4 I4 fz => ?_
      rw [upd_upd] at I4
      have hσ4 : ∀ q, q ≠ i → (σ'.set i (some x))[q]? = σ[q]? := fun q nq => by rw [List.getElem?_set_ne (Ne.symm nq)]; exact hσ q nq
      by_cases hb : m ≤ (ys.length : Int) + 1
      · rw [if_pos hb]
        exact ⟨_, _, I4, hbrk ys x Hg _ dat hn' (by omega) hσ4⟩
      · rw [if_neg hb]
        have hsz1 : g < s₁.gens.size := by
          have q : (s₁.setGen g gs').gens.size = s₁.gens.size := setGen_size _ _ _
          have hsz' : g + 1 ≤ (s₁.setGen g gs').gens.size := hsz
          omega
        obtain ⟨v5, c5, rv5, eS5⟩ := fz.own acc1 c1 q1
        have lz : acc1.size = ys.length := by
          obtain ⟨acc2, c2, r2, e2, _⟩ := J.S gok
          rw [gS] at e2
          rw [q1] at e2
          have ea : acc1 = acc2 := by
            injection e2 with e2
            injection e2 with _ _ e2 _
            injection e2
          have lz := r2.length
          rw [← ea] at lz
          simpa using lz.symm
        have W : Wk G x s₁ (s4.setGen g .running) := by
          refine ⟨fz.os, allBare_setGen I4.bare rfl, fun b o n1 n2 e => fz.keep b o (by rw [← gS]; exact n1) (by rw [← gL]; exact n2) e, fun acc' c' e => ?_, ?_⟩
          · rw [gS] at e ⊢
            exact fz.own acc' c' e
          · subst eG
            exact I4.stack
        refine ⟨n, Nat.lt_succ_self _, gs', σ'.set i (some x), ys ++ [x], acc1.push v5, c5, _, hσ4, by rw [List.length_set]; exact hσl, ?_, wk _ W, eS5, ?_, fz.keep a go aS aL hgo1, I4, ?_⟩
        · rw [fz.gens]
          exact setGen_at hsz1
        · rw [Array.size_push, lz]
          omega
        · exact virt gok gL (by rw [gS]; exact hS) hcell I1s (by rw [gS]; exact I4)
    · intro hsz
      obtain ⟨ys, ip, σg, Hg, J, hQ⟩ := hp
      obtain ⟨B, lt, hn, _, _⟩ := tell (hQe _ _ hQ) J
      exact wpAny_execs_nil ⟨σ', _, (invGens (g := g) B rfl).kept (t' := s₁.toks) hk', hend ys Hg σ' hQ hn lt hσ⟩
end Sa

set_option Elab.async false
set_option linter.all false
set_option maxRecDepth 100000
set_option maxHeartbeats 4000000
namespace Sa
open PySem PySem.Spec PyProof.Rows L2 GenW
theorem filter_take {α : Type} (p : α → Bool) (l : List α) (k : Nat) : (l.filter p).take ((l.take k).filter p).length = (l.take k).filter p := by
  conv => lhs; rw [← List.take_append_drop k l, List.filter_append]
  rw [List.take_append_drop]
  exact List.take_left
section
variable {P : Program} {w : World} {K : PySem.W.Frag} {mg : Str → Option Value} {base : Heap}
theorem inkJ (T : Top K mg) {cdv : Value} {A : Around} {outer : List Env} {sc : Shared} {H : Hp} {pn : List (Addr × Obj)} {S L : Addr} {F : AS} {t : Tr} {v : V} {m : Nat}
    (hr : Room 2 (A.deeper (envOfC "inked" (defScope s_inked) sc.heap.objs.size T.inked cdv))) (hT : Trk F H) (ht : tok t = true) (ha : Da F H v (TD t)) (hg : Gn 6 m (TD t)) (hm : m ≤ 60) (hz : sz t ≤ 1000) :
    ∃ tt, JSs ⟨P, w, K, mg, base, ["tree", "path", "here"], "inked", defScope s_inked, T.inked, cdv, A, outer, sc, H, pn, S, L, fun ys H' => Same H H' ∧ ys.length ≤ (inkD t).length ∧ DaAll F H' ys ((inkD t).take ys.length)⟩ (defBody s_inked) tt ∧
      tt { nx := fun ys _ H' => V.non = .non ∧ Same H H' ∧ DaAll F H' ys (inkD t), rt := fun ys v H' => v = .non ∧ Same H H' ∧ DaAll F H' ys (inkD t) } [] (start ["tree", "path", "here"] [v]) H := by
  refine ⟨_, js_cons (js_for (wi := iList K (tCall sp_nodes [] E0 (tCons (tVar 0) tNil))) (g := gTup K 2 (gCons (gName 1) (gCons (gName 2) gNil))) (fun s₀ => pi_list (pe_call (ok_nodes T) hr rfl T.nodes_g T.nodes_k T.nodes_b .nil pass0 (pa_cons (pv 0) pa_nil))) (fun s₀ => pg_tup rfl (pgs_cons (pg_name (i := 1) sc_inked.nd rfl (.inl rfl)) (pgs_cons (pg_name (i := 2) sc_inked.nd rfl (.inl rfl)) pgs_nil)))
    (js_cons (js_if (tc := tTest (tOp (rNeD K) (tOp (rIxT K) (tVar 2) (tC (.int 1))) (tTup tNil))) (fun s₀ => pt_cmpR (op_neD hr.units) (pe_ix ix_tup (pv 2) pe_int (fun _ _ => rfl)) (pe_tup pa_nil) (nomark _))
      (js_cons (js_yield (te := tTup (tCons (tVar 1) (tCons (tOp (rIxT K) (tVar 2) (tC (.int 1))) tNil))) (fun s₀ => pe_tup (pa_cons (pv 1) (pa_cons (pe_ix ix_tup (pv 2) pe_int (fun _ _ => rfl)) pa_nil))) rfl rfl) js_nil) js_nil) js_nil)) js_nil, ?_⟩
  refine ⟨_, rfl, F, t, v, m, rfl, hT, ht, ha, hg, hm, hz, fun v' H1 s1 a1 => ?_⟩
  cases a1 with
  | @lst p xs _ nF ep al =>
  have lx := al.length
  rw [List.length_map, nds_length] at lx
  refine ⟨p, rfl, ⟨_, SqL.of ep⟩, fun i k ys σ H' => i + k = xs.length ∧ Same H1 H' ∧ DaAll F H' ys ((((nds t []).take i).filter hasInk).map dD) ∧ ∃ y1 y2, σ = [some v, y1, y2], ⟨xs.length, by omega, Same.refl _, .nil, none, none, rfl⟩, ?_⟩
  rintro i k ys σ H2 ⟨hk, s2, ay, y1, y2, rfl⟩
  have lf : ys.length ≤ 1000 := by
    have z := ay.length
    rw [List.length_map] at z
    have z1 := List.length_filter_le hasInk ((nds t []).take i)
    rw [List.length_take, nds_length] at z1
    omega
  by_cases hi : i < xs.length
  · refine .inr ⟨⟨xs, xs[i], SqL.of (s2 _ _ ep), List.getElem?_eq_getElem hi⟩, fun ys' σ' H' => Same H1 H' ∧ DaAll F H' ys' ((((nds t []).take (i + 1)).filter hasInk).map dD) ∧ ∃ y1 y2, σ' = [some v, y1, y2], fun ys' σ' H' z => ⟨k - 1, by omega, by omega, z⟩, ?_⟩
    rintro x H3 ⟨eH, hx⟩
    rw [eH]
    have hx := hx xs (SqL.of (s2 _ _ ep))
    obtain ⟨dx, edx, ax⟩ := al.get hx
    rw [List.getElem?_map] at edx
    obtain ⟨⟨pth, n⟩, en, rfl⟩ := Option.map_eq_some_iff.mp edx
    have gn : Gn 6 m (TD n) ∧ pth.length + 2 ≤ m := by
      obtain ⟨r, er, hs⟩ := nds_sub t [] pth n (List.mem_of_getElem? en)
      rw [List.nil_append] at er
      subst er
      exact gn_sub _ t n m hg hs
    have gink := gn_ink gn.1
    obtain ⟨h, ink, pre, kids⟩ := n
    obtain ⟨p3, va, vb, rfl, n3, e3, aa, ab⟩ := (ax.same s2).pair
    obtain ⟨pn', vi, qa, ks, rfl, nFn, epn, ai, nq, eq, alk⟩ := ab.node
    refine ⟨p3, _, rfl, SqT.of e3, rfl, _, _, rfl, _, _, rfl, rfl, ?_⟩
    refine ⟨_, rfl, pn', _, 1, vi, rfl, rfl, SqT.of epn, atI_nat (j := 1) rfl, by decide, fun p4 np4 => ?_⟩
    have s4 := same_upd (o := .tup []) np4
    have hT2 : Trk F H2 := (hT.same s1).same s2
    refine ⟨.tuple ink, .tuple [], (ai.same s4).dp _ _, (Da.tup (hT2.new np4) upd_same .nil).dp _ _, gink.shaped (by omega), shaped_unit, _, rfl, ?_⟩
    have et : (nds t []).take (i + 1) = (nds t []).take i ++ [(pth, Tr.nd h ink pre kids)] := by
      rw [List.take_add_one, en]
      rfl
    cases ink with
    | nil =>
      refine ifNo (by rfl) ⟨s2.trans s4, ?_, _, _, rfl⟩
      rw [et, List.filter_append]
      have e0 : List.filter hasInk [(pth, Tr.nd h [] pre kids)] = [] := rfl
      rw [e0, List.append_nil]
      exact ay.same s4
    | cons d ink =>
      refine ifSo (by rfl) ⟨Nat.lt_of_le_of_lt lf (by decide), ?_⟩
      refine ⟨_, rfl, _, rfl, pn', _, 1, vi, rfl, rfl, SqT.of (s4 _ _ epn), atI_nat (j := 1) rfl, (show 2 ≤ sizeLine by decide), fun p5 np5 => ?_⟩
      have s5 := same_upd (o := .tup [va, vi]) np5
      have all : DaAll F (L2.upd (L2.upd H2 p4 (.tup [])) p5 (.tup [va, vi])) (ys ++ [.ref p5]) ((((nds t []).take (i + 1)).filter hasInk).map dD) := by
        rw [et, List.filter_append, List.map_append]
        have e0 : List.filter hasInk [(pth, Tr.nd h (d :: ink) pre kids)] = [(pth, Tr.nd h (d :: ink) pre kids)] := rfl
        rw [e0]
        exact ((ay.same s4).same s5).append (.cons (.tup ((hT2.same s4).new np5) upd_same (.cons ((aa.same s4).same s5) (.cons ((ai.same s4).same s5) .nil))) .nil)
      have la := all.length
      rw [List.length_map] at la
      have sall := ((s1.trans s2).trans s4).trans s5
      refine ⟨⟨sall, ?_, ?_⟩, (s2.trans s4).trans s5, all, _, _, rfl⟩
      · rw [la]
        unfold inkD
        rw [List.length_map, ← filter_take hasInk (nds t []) (i + 1), List.length_take]
        exact Nat.min_le_right _ _
      · rw [la]
        unfold inkD
        rw [← List.map_take, filter_take]
        exact all
  · refine .inl ⟨⟨xs, SqL.of (s2 _ _ ep), by omega⟩, rfl, s1.trans s2, ?_⟩
    rw [List.take_of_length_le (by rw [nds_length]; omega)] at ay
    exact ay
def sp_some : Sp := fun vs H Q _ => ∃ (F : AS) (t : Tr) (v : V) (m : Nat) (many : Int), vs = [v, .int many] ∧ Trk F H ∧ tok t = true ∧ Da F H v (TD t) ∧ Gn 6 m (TD t) ∧ m ≤ 60 ∧ sz t ≤ 1000 ∧ 0 < many ∧ ∀ v' H', Same H H' → Da F H' v' (.list ((inkD t).take many.toNat)) → Q v' H'
theorem ok__law_some (T : Top K mg) : FnOk P w K mg base CX0 6 T._law_some T._law_some_d ["_law_tree", "_law_many"] sp_some := by
  refine T._law_some_f.ok sc__law_some (fun vs H Q E h => ?_) (fun cdv A outer s H vs Q E hr h => ?_)
  · obtain ⟨F, t, v, m, many, rfl, _⟩ := h
    rfl
  obtain ⟨F, t, v, m, many, rfl, hT, ht, ha, hg, hm, hz, h0, q⟩ := h
  have hb := T.inked_b
  obtain ⟨⟨oc, od, kV, doc, pm, an, cdi, ct, osl, e1, e2, e3⟩, e4⟩ := T.inked_f
  rw [e1] at e2 hb
  refine ⟨_, pss_cons (ps_set (i := 2) sc__law_some.nd rfl (.inl rfl) (pe_lst pa_nil)) (pss_cons (ps_forJ (i := 3) (j := 2) (k := 1) (l := 0) (kr := 2) e2 e3 sc_inked hb rfl T.inked_g T.inked_k hr rfl rfl rfl (fun x => rfl) sc__law_some.nd rfl rfl (.inl rfl) rfl (.inl rfl) rfl (.inl rfl) rfl (.inl rfl) (by decide) (by decide)
    (by decide) (by decide) (by decide) (by decide) (by decide) (by decide) (by decide) (by decide) (by decide) rfl T.len_n rfl rfl rfl rfl rfl rfl rfl rfl rfl (fun _ => rfl)) (pss_one (ps_ret (pv 2)))), ?_⟩
  refine ⟨by decide, fun S nS => ?_⟩
  have s1 := same_upd (o := .lst []) nS
  have woH : wo (L2.upd H S (.lst [])) S = H := by
    funext b
    by_cases e : b = S
    · rw [e, wo_S, nS]
    · rw [wo_ne e, upd_ne e]
  have lk : (inkD t).length ≤ 1000 := by
    unfold inkD
    rw [List.length_map]
    have z := List.length_filter_le hasInk (nds t [])
    rw [nds_length] at z
    omega
  have fin : ∀ {ys : List V} {Hg : Hp}, Same H Hg → Hg S = none → DaAll F Hg ys ((inkD t).take many.toNat) → Q (.ref S) (L2.upd Hg S (.lst ys)) := fun {ys Hg} sm hn a => by
    refine q _ _ (fun b o e => ?_) (.lst (hT.new nS) upd_same ?_)
    · rw [upd_ne (ne_of_none e nS)]
      exact sm _ _ e
    · have x : Ext S Hg (L2.upd Hg S (.lst ys)) := Ext.upd
      exact ((a.avoid hn).ext x (.inr rfl)).wth
  refine ⟨v, many, S, fun ys H' => Same H H' ∧ ys.length ≤ (inkD t).length ∧ DaAll F H' ys ((inkD t).take ys.length), fun ys H' => Same H H' ∧ DaAll F H' ys (inkD t), rfl, rfl, rfl, (show 3 < 4 by decide), upd_same, h0, fun ys H' z => Nat.le_trans z.2.1 lk, fun ys H' z => ?_, fun A' sc pn hr' => ?_, fun ys x Hg σ' z hn hm' hσ => ?_, fun ys Hg σ' z hn hlt hσ => ?_⟩
  · rw [z.2.length]
    exact lk
  · rw [woH]
    exact inkJ T hr' hT ht ha hg hm hz
  · refine ⟨_, hσ 2 (by decide), fin z.1 hn ?_⟩
    have e : many.toNat = (ys ++ [x]).length := by
      rw [List.length_append, List.length_singleton]
      omega
    rw [e]
    exact z.2.2
  · refine ⟨_, hσ 2 (by decide), fin z.1 hn ?_⟩
    have l := z.2.length
    rw [List.take_of_length_le (by omega)]
    exact z.2
end
end Sa

set_option Elab.async false
set_option linter.all false
set_option maxRecDepth 100000
set_option maxHeartbeats 4000000
namespace Sa
open PySem PySem.Spec PyProof.Rows L2 GenW
theorem Same.ext {f : Addr} {H H1 H2 : Hp} (s : Same H H1) (n : H f = none) (x : Ext f H1 H2) : Same H H2 := fun b o e => x b o (ne_of_none e n) (s b o e)
theorem passN {P : Program} {w : World} {X : Cx} : Passes (CX P w) X (fun _ _ _ => False) := fun _ _ _ _ _ _ _ c => by
  obtain ⟨a, B, H', cls, d, rfl, fl, _, _, _, _, _, hW⟩ := c
  exact hW.elim
theorem noStopN {K : PySem.W.Frag} : NoStop K (fun _ _ _ => False) := fun _ _ _ h => h.elim
theorem eqvNe {w n : Nat} {d : PyData} (g : Gn w n d) : (!PyData.eqv d d) = false := by
  rw [SeqAt.eqv_refl d (gd_lay d g.1)]
  rfl
section
variable {P : Program} {w : World} {K : PySem.W.Frag} {mg : Str → Option Value} {base : Heap}
def spLaw (K : PySem.W.Frag) : Sp := fun vs H Q _ => ∃ (a : Addr) (ns : List Int), vs = [.ref a] ∧ SqL K H a (ns.map V.int) ∧ ns.length ≤ 63 ∧ ∀ H', Q (.bl true) H'
theorem ok_law (T : Top K mg) : FnOk P w K mg base CX0 31 T.law T.law_d ["_law_script"] (spLaw K) := by
  refine T.law_f.ok sc_law (fun vs H Q E h => ?_) (fun cdv A outer s H vs Q E hr h => ?_)
  · obtain ⟨a, ns, rfl, _⟩ := h
    rfl
  obtain ⟨a, ns, rfl, hS, hlen, q⟩ := h
  -- slots: 0 _law_script, 1 _law_k, 2 _law_feed, 3 _law_turn, 4 _law_tree, 5 _law_other, 6 _law_known, 7 _law_path, 8 _law_node, 9 _law_due, 10 _law_many, 11 _law_found
  refine ⟨_, (pss_cons (ps_for PassesOwn.never rfl (pi_range1 (by rfl) T.range_n (pa_cons (pe_callB (call_max2 rfl) (by rfl) T.max_n (by decide +kernel) (pa_cons pe_int (pa_cons (pe_callB (call_min2 rfl) (by rfl) T.min_n (by decide +kernel) (pa_cons pe_int (pa_cons (pe_callB call_len_seq (by rfl) T.len_n (by decide +kernel) (pa_cons (pv 0) pa_nil)) pa_nil))) pa_nil))) pa_nil)) (pg_name (i := 1) sc_law.nd rfl (.inl rfl)) (pss_cons (ps_set (i := 2) sc_law.nd rfl (.inl rfl) (pe_call (ok__law_feed_of T) (hr.mono (by decide)) rfl T._law_feed_of_g T._law_feed_of_k T._law_feed_of_b .nil pass0 (pa_cons (pv 0) (pa_cons (pv 1) pa_nil))))
      (pss_one (ps_for PassesOwn.never rfl (pi_range1 (by rfl) T.range_n (pa_cons pe_int pa_nil)) (pg_name (i := 3) sc_law.nd rfl (.inl rfl)) (pss_cons (ps_par (i := 4) (j := 5) (by rfl) sc_law.nd rfl rfl (by decide) rfl rfl (pa_cons (pe_call (ok__law_inked_tree T) (hr.mono (by decide)) rfl T._law_inked_tree_g T._law_inked_tree_k T._law_inked_tree_b .nil pass0 (pa_cons (pv 2) (pa_cons pe_int pa_nil))) (pa_cons (pe_call (ok__law_inked_tree T) (hr.mono (by decide)) rfl T._law_inked_tree_g T._law_inked_tree_k T._law_inked_tree_b .nil pass0 (pa_cons (pv 2) (pa_cons pe_int pa_nil))) pa_nil)) (by rfl))
      (pss_cons (ps_set (i := 6) sc_law.nd rfl (.inl rfl) (pe_call (ok__law_all T 17) (hr.mono (by decide)) rfl T._law_all_g T._law_all_k T._law_all_b .nil pass0 (pa_cons (pv 4) (pa_cons (pe_tup pa_nil) pa_nil))))
      (pss_cons (ps_par (i := 9) (j := 10) (by rfl) sc_law.nd rfl rfl (by decide) rfl rfl (pa_cons (pe_lc (own := [("_law_path", 7), ("_law_node", 8)]) (g := (gTup K 2 (gCons (gName 7) (gCons (gName 8) gNil))))  (by rfl) sc_law.nd (pi_list (pv 6)) (blkOk_by (own := [("_law_path", 7), ("_law_node", 8)]) (N := ["_law_script", "_law_k", "_law_feed", "_law_turn", "_law_tree", "_law_other", "_law_known", "_law_path", "_law_node", "_law_due", "_law_many", "_law_found"]) (sc := defScope s_law) (by decide +kernel)) (fun _ _ _ _ _ => (pg_tup rfl (pgs_cons (pg_name (i := 7) sc_law.nd rfl (.inl rfl)) (pgs_cons (pg_name (i := 8) sc_law.nd rfl (.inl rfl)) pgs_nil)))) (fun _ _ _ _ _ => (pts_one (pt_cmpR (show OpR _ _ (rNeD K) from op_neD hr.units) (pe_ix (show IxR _ (rIxT K) from ix_tup) (pv 8) pe_int (fun _ _ => rfl)) (pe_tup pa_nil) (nomark _)))) (fun _ _ _ _ _ => (pe_tup (pa_cons (pv 7) (pa_cons (pe_ix (show IxR _ (rIxT K) from ix_tup) (pv 8) pe_int (fun _ _ => rfl)) pa_nil))))) (pa_cons (pe_op op_add pe_int (pe_call (ok__law_draw T) (hr.mono (by decide)) rfl T._law_draw_g T._law_draw_k T._law_draw_b .nil pass0 (pa_cons (pv 2) (pa_cons pe_int pa_nil)))) pa_nil)) (by rfl))
      (pss_cons (ps_if (pt_not (pt_val (pe_call (ok_same T 25) (hr.mono (by decide)) rfl T._law_same_g T._law_same_k T._law_same_b .nil pass0 (pa_cons (pe_lst (pa_cons (pe_call (ok_count T) (hr.mono (by decide)) rfl T.count_g T.count_k T.count_b .nil pass0 (pa_cons (pv 4) pa_nil)) (pa_cons (pe_call (ok_bared T 17) (hr.mono (by decide)) rfl T.bared_g T.bared_k T.bared_b .nil pass0 (pa_cons (pv 4) pa_nil)) pa_nil))) (pa_cons (pe_lst (pa_cons (pe_callB call_len_seq (by rfl) T.len_n (by decide +kernel) (pa_cons (pv 6) pa_nil)) (pa_cons (pe_call (ok__law_bare T 17) (hr.mono (by decide)) rfl T._law_bare_g T._law_bare_k T._law_bare_b .nil pass0 (pa_cons (pv 4) pa_nil)) pa_nil))) pa_nil))))) (pss_one (ps_ret pe_bl)) pss_nil)
      (pss_cons (ps_if (PW.pt (pw_or (pt_not (pt_val (pe_call (ok_same T 25) (hr.mono (by decide)) rfl T._law_same_g T._law_same_k T._law_same_b .nil pass0 (pa_cons (pe_call (ok__law_some T) (hr.mono (by decide)) rfl T._law_some_g T._law_some_k T._law_some_b .nil pass0 (pa_cons (pv 4) (pa_cons (pv 10) pa_nil))) (pa_cons (pe_slice sl_list (pv 9) po_none (po_some (pv 10))) pa_nil))))) (pw_or1 (pt_not (pt_val (pe_call (ok_same T 25) (hr.mono (by decide)) rfl T._law_same_g T._law_same_k T._law_same_b .nil pass0 (pa_cons (pe_listG (pgen_call (ok_inked T) (hr.mono (by decide)) rfl T.inked_g T.inked_k T.inked_b .nil (pa_cons (pv 4) pa_nil)) passN noStopN (hr.mono (by decide)) (by rfl) T.list_n (by decide +kernel)) (pa_cons (pv 9) pa_nil)))))))) (pss_one (ps_ret pe_bl)) pss_nil)
      (pss_one (ps_for PassesOwn.never rfl (pi_list (pe_slice sl_list (pe_call (ok__law_mixed T) (hr.mono (by decide)) rfl T._law_mixed_g T._law_mixed_k T._law_mixed_b .nil pass0 (pa_cons (pv 2) (pa_cons (pv 6) pa_nil))) po_none (po_some pe_int))) (pg_tup rfl (pgs_cons (pg_name (i := 7) sc_law.nd rfl (.inl rfl)) (pgs_cons (pg_name (i := 8) sc_law.nd rfl (.inl rfl)) pgs_nil))) (pss_cons (ps_set (i := 11) sc_law.nd rfl (.inl rfl) (pe_call (ok_with_subtree T) (hr.mono (by decide)) rfl T.with_subtree_g T.with_subtree_k T.with_subtree_b .nil pass0 (pa_cons (pv 4) (pa_cons (pv 7) (pa_cons (pv 5) pa_nil)))))
      (pss_cons (ps_if (PW.pt (pw_or (pt_cmpR (op_neD hr.units) (pe_call (ok_subtree T) (hr.mono (by decide)) rfl T.subtree_g T.subtree_k T.subtree_b .nil pass0 (pa_cons (pv 4) (pa_cons (pv 7) pa_nil))) (pv 8) (nomark _)) (pw_or1 (pt_cmpR (op_neD hr.units) (pv 11) (pe_call (ok__law_put T 20) (hr.mono (by decide)) rfl T._law_put_g T._law_put_k T._law_put_b .nil pass0 (pa_cons (pv 4) (pa_cons (pv 7) (pa_cons (pv 5) pa_nil)))) (nomark _))))) (pss_one (ps_ret pe_bl)) pss_nil)
      (pss_one (ps_if (PW.pt (pw_or (pt_cmpR (op_neD hr.units) (pe_call (ok_subtree T) (hr.mono (by decide)) rfl T.subtree_g T.subtree_k T.subtree_b .nil pass0 (pa_cons (pv 11) (pa_cons (pv 7) pa_nil))) (pv 5) (nomark _)) (pw_or1 (pt_cmpR (op_neD hr.units) (pe_call (ok_with_subtree T) (hr.mono (by decide)) rfl T.with_subtree_g T.with_subtree_k T.with_subtree_b .nil pass0 (pa_cons (pv 11) (pa_cons (pv 7) (pa_cons (pv 8) pa_nil)))) (pv 4) (nomark _))))) (pss_one (ps_ret pe_bl)) pss_nil)))))))))))))))
      (pss_one (ps_ret pe_bl))), ?_⟩
  refine ⟨_, rfl, a, _, rfl, .inl hS, _, _, rfl, _, _, rfl, _, rfl, ?_, ?_, ?_⟩
  · split <;> split <;> omega
  · rw [List.length_map]
    split <;> split <;> omega
  refine for_range (lo := 0) (fun i σ H' => ∃ y1 y2 y3 y4 y5 y6 y7 y8 y9 yA yB, σ = [some (.ref a), y1, y2, y3, y4, y5, y6, y7, y8, y9, yA, yB] ∧ Same H H') ⟨none, none, none, none, none, none, none, none, none, none, none, rfl, Same.refl _⟩ ?_ ?_
  · rintro i σ H1 hi ⟨y1, y2, y3, y4, y5, y6, y7, y8, y9, yA, yB, rfl, s1⟩
    have hi5 : i ≤ 1000 := by
      rw [List.length_map] at hi
      have : i < 6 := by
        refine Nat.lt_of_lt_of_le hi ?_
        split <;> split <;> omega
      omega
    refine go_name ?_
    refine ⟨_, rfl, _, rfl, a, ns, i, (by rw [Int.zero_add]; rfl), s1.seq hS, hi5, fun f H2 nf1 s2 b2 => go_name ?_⟩
    have nf : H f = none := s1.free nf1
    refine ⟨6, rfl, by decide, by decide, for_range (lo := 0) (n := 6) (fun j σ H' => ∃ y3 y4 y5 y6 y7 y8 y9 yA yB, σ = [some (.ref a), some (.int (0 + i)), some (.ref f), y3, y4, y5, y6, y7, y8, y9, yA, yB] ∧ Same H H' ∧ Fd f H') ⟨_, _, _, _, _, _, _, _, _, rfl, s1.trans s2, b2⟩ ?_ ?_⟩
    · rintro j σ H3 hj ⟨y3, y4, y5, y6, y7, y8, y9, yA, yB, rfl, s3, b3⟩
      refine go_name ?_
      have hT3 : Trk (fun a => a = f) H3 := fun a ha => by
        obtain ⟨g, z, e, _⟩ := b3
        exact ⟨_, ha ▸ e⟩
      refine ⟨_, rfl, f, fun a => a = f, 3, rfl, by decide, by decide, b3, rfl, hT3, fun tv td H4 x4 b4 a4 g4 => ?_⟩
      have c4 := hT3.ext x4 b4
      refine ⟨_, rfl, f, fun a => a = f, 2, rfl, by decide, by decide, b4, rfl, c4, fun ov od H5 x5 b5 a5 g5 => ⟨_, _, rfl, ?_⟩⟩
      have c5 := c4.ext x5 b5
      obtain ⟨g4, t, rfl, tt, zt⟩ := g4
      obtain ⟨g5, o, rfl, to, zo⟩ := g5
      have z1000 : sz t ≤ 1000 := Nat.le_trans zt (by decide)
      have a4' := a4.ext x5 rfl
      -- known
      refine ⟨_, rfl, by decide, fun p6 np6 => ?_⟩
      have s6 := same_upd (o := .tup []) np6
      have c6 := c5.same s6
      refine ⟨fun a => a = f, t, [], tv, .ref p6, 16, rfl, c6, tt, a4'.same s6, .tup (c5.new np6) upd_same .nil, g4, by decide, by decide, z1000, fun kv H7 s7 a7 => go_name ?_⟩
      have c7 := c6.same s7
      have s67 := s6.trans s7
      have b7 := b5.same s67
      have a47 := a4'.same s67
      have a57 := a5.same s67
      have gN : ∀ x ∈ nds t [], Gn 6 16 (TD x.2) ∧ x.1.length ≤ 14 ∧ tok x.2 = true ∧ sub x.1 t = some x.2 := fun ⟨pth, n⟩ hx => by
        obtain ⟨r, er, hs⟩ := nds_sub t [] pth n hx
        rw [List.nil_append] at er
        subst er
        have z := gn_sub _ t n 16 g4 hs
        exact ⟨z.1, Nat.le_sub_of_add_le z.2, tok_sub _ t n tt hs, hs⟩
      cases a7 with
      | @lst pk xs _ nFk ek alk =>
      have lk := alk.length
      rw [List.length_map, nds_length] at lk
      have pkf : pk ≠ f := nFk
      -- due
      refine ⟨_, rfl, pk, rfl, ⟨_, SqL.of ek⟩, fun D nD => lc_list (K := K) (a := pk) (xs := xs) (fun k H' => Same H7 H' ∧ Trk (Wth (fun a => a = f) D) H' ∧ ∃ vs, H' D = some (.lst vs) ∧ DaAll (Wth (fun a => a = f) D) H' vs ((((nds t []).take k).filter hasInk).map dD)) ?_ ?_ ?_ ?_⟩
      · have sD : Same H7 (L2.upd H7 D (.lst [])) := same_upd nD
        exact ⟨sD, (c7.same sD).wth upd_same, [], upd_same, .nil⟩
      · rintro k H' hk ⟨sD, _⟩
        exact SqL.of (sD _ _ ek)
      · rintro k x H' hk ⟨sD, cD', vs, eD, aD⟩
        obtain ⟨dx, edx, ax⟩ := alk.get hk
        rw [List.getElem?_map] at edx
        obtain ⟨⟨pth, n⟩, en, rfl⟩ := Option.map_eq_some_iff.mp edx
        obtain ⟨gn, lp, tn, sn⟩ := gN _ (List.mem_of_getElem? en)
        have gink := gn_ink gn
        obtain ⟨h, ink, pre, kids⟩ := n
        obtain ⟨p8, va, vb, rfl, n8, e8, aa, ab⟩ := ((ax.avoid nD).same sD).pair
        obtain ⟨pn', vi, qa, ks, rfl, nFn, epn, ai, nq, eq, al⟩ := ab.node
        refine ⟨p8, _, rfl, SqT.of e8, rfl, _, _, rfl, _, _, rfl, rfl, rfl, ?_⟩
        refine ⟨_, rfl, pn', _, 1, vi, rfl, rfl, SqT.of epn, atI_nat (j := 1) rfl, by decide, fun p9 np9 => ?_⟩
        have s9 := same_upd (o := .tup []) np9
        refine ⟨.tuple ink, .tuple [], (ai.same s9).dp _ _, (Da.tup (cD'.new np9) upd_same .nil).dp _ _, gink.shaped (by decide), shaped_unit, _, rfl, ?_⟩
        have et : (nds t []).take (k + 1) = (nds t []).take k ++ [(pth, Tr.nd h ink pre kids)] := by
          rw [List.take_add_one, en]
          rfl
        have lv := aD.length
        rw [List.length_map] at lv
        have lf := List.length_filter_le hasInk ((nds t []).take k)
        rw [List.length_take, nds_length] at lf
        cases ink with
        | nil =>
          refine ifNo (by rfl) ⟨sD.trans s9, cD'.same s9, vs, s9 _ _ eD, ?_⟩
          rw [et, List.filter_append]
          have e0 : List.filter hasInk [(pth, Tr.nd h [] pre kids)] = [] := rfl
          rw [e0, List.append_nil]
          exact aD.same s9
        | cons d ink =>
          refine ifSo (by rfl) ?_
          refine ⟨_, rfl, _, rfl, pn', _, 1, vi, rfl, rfl, SqT.of (s9 _ _ epn), atI_nat (j := 1) rfl, (show 2 ≤ sizeLine by decide), fun pA npA => ⟨vs, ?_, small1000 (by omega), ?_⟩⟩
          · have sA := same_upd (o := .tup [va, vi]) npA
            exact sA _ _ (s9 _ _ eD)
          have sA := same_upd (o := .tup [va, vi]) npA
          have xB : Ext D (L2.upd (L2.upd H' p9 (.tup [])) pA (.tup [va, vi])) (L2.upd (L2.upd (L2.upd H' p9 (.tup [])) pA (.tup [va, vi])) D (.lst (vs ++ [.ref pA]))) := Ext.upd
          refine ⟨fun b o z => ?_, fun b hz => ?_, _, upd_same, ?_⟩
          · rw [upd_ne (ne_of_none z nD)]
            exact sA _ _ (s9 _ _ (sD _ _ z))
          · by_cases na : b = D
            · exact ⟨_, by rw [na]; exact upd_same⟩
            · obtain ⟨ob, z⟩ := ((cD'.same s9).same sA) b hz
              exact ⟨ob, by rw [upd_ne na]; exact z⟩
          · rw [et, List.filter_append, List.map_append]
            have e0 : List.filter hasInk [(pth, Tr.nd h (d :: ink) pre kids)] = [(pth, Tr.nd h (d :: ink) pre kids)] := rfl
            rw [e0]
            exact (((aD.same s9).same sA).append (.cons (.tup ((cD'.same s9).new npA) upd_same (.cons ((aa.same s9).same sA) (.cons ((ai.same s9).same sA) .nil))) .nil)).ext xB (.inr rfl)
      rintro H8 ⟨s8, c8, dv, eD, aD⟩
      rw [lk, ← nds_length t [], List.take_length] at aD
      have aD' : DaAll (fun a => a = f) H8 dv (inkD t) := aD.wth
      have fD : D ≠ f := fun z => c7.new nD z
      have c8' : Trk (fun a => a = f) H8 := fun b hb => c8 b (.inl hb)
      have b8 := b7.same s8
      refine rd_draw rfl b8 (by decide) fun r H9 r0 r1 x9 b9 => ⟨_, _, rfl, rfl, _, _, rfl, ?_⟩
      have c9 := c8'.ext x9 b9
      have x89 : Ext f H7 H9 := (Ext.same s8).trans x9
      have a49 := a47.ext x89 rfl
      have a59 := a57.ext x89 rfl
      have ek9 := x89 _ _ pkf ek
      have alk9 := alk.ext x89 rfl
      have eD9 := x9 _ _ fD eD
      have aD9 := aD'.ext x9 rfl
      have nFD : ¬ (fun a => a = f) D := fD
      have gink : ∀ d ∈ inkD t, Gn 1000 20 d := fun d hd => by
        obtain ⟨⟨pth, n⟩, hx, rfl⟩ := List.mem_map.mp hd
        obtain ⟨gn, lp, tn, sn⟩ := gN _ (List.mem_filter.mp hx).1
        refine Gn.tuple (n := 19) (show 2 ≤ 1000 by decide) fun z hz => ?_
        rcases List.mem_cons.mp hz with q1 | q1
        · rw [q1]; exact gn_pD (by omega)
        · rw [List.mem_singleton.mp q1]; exact (gn_ink gn).mono (by decide) (by decide)
      have lD : (inkD t).length ≤ 1000 := by
        unfold inkD
        rw [List.length_map]
        have z := List.length_filter_le hasInk (nds t [])
        rw [nds_length] at z
        omega
      -- count, bared
      refine ⟨_, rfl, fun a => a = f, t, tv, 16, rfl, c9, tt, a49, g4, by decide, z1000, fun HA sA => ?_⟩
      have cA := c9.same sA
      refine ⟨_, rfl, fun a => a = f, t, tv, 16, rfl, cA, tt, a49.same sA, g4, by decide, fun vB HB sB aB => ⟨(show 2 ≤ sizeLine by decide), fun pC npC => ?_⟩⟩
      have sC := same_upd (o := .lst [.int (sz t), vB]) npC
      have cB := cA.same sB
      have sAC := (sA.trans sB).trans sC
      refine ⟨_, rfl, pk, xs, rfl, .inl (SqL.of (sAC _ _ ek9)), ?_⟩
      have cC := cB.same sC
      refine ⟨_, rfl, fun a => a = f, t, tv, 16, rfl, cC, tt, a49.same sAC, g4, by decide, fun vD HD sD' aBD => ⟨(show 2 ≤ sizeLine by decide), fun pE npE => ?_⟩⟩
      have sE := same_upd (o := .lst [.int (xs.length : Int), vD]) npE
      have cD2 := cC.same sD'
      have gbr := gn_br t 16 g4
      refine ⟨fun a => a = f, fun a => a = f, _, _, .list [.int (sz t), TD (br t)], 6, 17, rfl, .lst (cB.new npC) (sE _ _ (sD' _ _ upd_same)) (.cons (.int _) (.cons (((aB.same sC).same sD').same sE) .nil)), ?_, Gn.list (n := 16) (show 2 ≤ 6 by decide) (fun z hz => ?_), by decide, by decide, by decide, fun HF sF => ?_⟩
      · refine .lst (cD2.new npE) upd_same (.cons ?_ (.cons (aBD.same sE) .nil))
        rw [← lk]
        exact .int _
      · rcases List.mem_cons.mp hz with q1 | q1
        · rw [q1]; exact gn_int (by omega)
        · rw [List.mem_singleton.mp q1]; exact gbr
      refine ⟨_, rfl, iteF ?_⟩
      have s9F := ((sAC.trans sD').trans sE).trans sF
      have cF := c9.same s9F
      -- some
      refine ⟨_, rfl, _, rfl, fun a => a = f, t, tv, 16, 1 + r, rfl, cF, tt, a49.same s9F, g4, by decide, z1000, by omega, fun vG HG sG aG => ?_⟩
      have s9G := s9F.trans sG
      refine ⟨_, rfl, ?_⟩
      refine go_nopart ?_
      refine ⟨_, rfl, _, rfl, D, dv, rfl, SqL.of (s9G _ _ eD9), fun pH npH => ?_⟩
      have sH := same_upd (o := .lst (cutV dv none (some (1 + r)))) npH
      have cG := cF.same sG
      have ecut : cutV dv none (some (1 + r)) = dv.take (1 + r).toNat := by
        have e : (1 + r) = (((1 + r).toNat : Nat) : Int) := by omega
        conv => lhs; rw [e]
        exact cutA_to dv _
      have aH : Da (fun a => a = f) (L2.upd HG pH (.lst (cutV dv none (some (1 + r))))) (.ref pH) (.list ((inkD t).take (1 + r).toNat)) := by
        refine .lst (cG.new npH) upd_same ?_
        rw [ecut]
        exact ((aD9.same s9G).take _).same (by rw [← ecut]; exact sH)
      have gl : ∀ k : Nat, Gn 1000 21 (.list ((inkD t).take k)) := fun k => Gn.list (by rw [List.length_take]; omega) fun d hd => gink d (List.mem_of_mem_take hd)
      refine ⟨fun a => a = f, fun a => a = f, _, _, _, 1000, 21, rfl, aG.same sH, aH, gl _, by decide, by decide, by decide, fun HI sI => ⟨_, rfl, ?_⟩⟩
      have s9I := (s9G.trans sH).trans sI
      have cI := c9.same s9I
      refine iteF ?_
      refine ⟨_, rfl, fun a => a = f, t, tv, 16, rfl, cI, tt, a49.same s9I, g4, by decide, z1000, fun out HJ sJ aJ pJ npJ => ⟨_, rfl, ?_⟩⟩
      have sK := same_upd (o := .lst out) npJ
      have s9J := s9I.trans sJ
      have s9K := s9J.trans sK
      have gl' : Gn 1000 21 (.list (inkD t)) := Gn.list lD gink
      refine ⟨fun a => a = f, fun a => a = f, _, _, .list (inkD t), 1000, 21, rfl, .lst ((c9.same s9J).new npJ) upd_same (aJ.same sK), .lst nFD (s9K _ _ eD9) (aD9.same s9K), gl', by decide, by decide, by decide, fun HL sL => ⟨_, rfl, iteF ?_⟩⟩
      have s9L := s9K.trans sL
      have cL := c9.same s9L
      have bL := b9.same s9L
      -- mixed
      have gk : ∀ d ∈ (nds t []).map Sa.eD, Gn 1000 59 d := fun d hd => by
        obtain ⟨⟨pth, n⟩, hx, rfl⟩ := List.mem_map.mp hd
        obtain ⟨gn, lp, tn, sn⟩ := gN _ hx
        refine Gn.tuple (n := 58) (show 2 ≤ 1000 by decide) fun z hz => ?_
        rcases List.mem_cons.mp hz with q1 | q1
        · rw [q1]; exact gn_pD (by omega)
        · rw [List.mem_singleton.mp q1]; exact gn.mono (by decide) (by decide)
      refine ⟨_, rfl, _, rfl, f, fun a => a = f, .ref pk, (nds t []).map Sa.eD, rfl, bL, rfl, cL, .lst nFk (s9L _ _ ek9) (alk9.same s9L), gk, by rw [List.length_map, nds_length]; exact z1000, fun mv md HM xM bM aM mM lM => ?_⟩
      have cM := cL.ext xM bM
      have x9M : Ext f H9 HM := (Ext.same s9L).trans xM
      cases aM with
      | @lst pm ms _ nFm em alm =>
      refine go_nopart ?_
      refine ⟨_, rfl, pm, ms, rfl, SqL.of em, fun pN npN => ?_⟩
      have sN := same_upd (o := .lst (cutV ms none (some 8))) npN
      have cN := cM.same sN
      have bN := bM.same sN
      have x9N : Ext f H9 _ := x9M.trans (Ext.same sN)
      have eN : (L2.upd HM pN (.lst (cutV ms none (some 8)))) pN = some (.lst (cutV ms none (some 8))) := upd_same
      have alN : DaAll (fun a => a = f) (L2.upd HM pN (.lst (cutV ms none (some 8)))) (cutV ms none (some 8)) (md.take 8) := by
        have e := cutA_to ms 8
        have e' : cutV ms none (some 8) = ms.take 8 := e
        rw [e']
        exact ((alm.take 8).same (by rw [← e']; exact sN))
      have a4N := a49.ext x9N rfl
      have a5N := a59.ext x9N rfl
      have sHN : Same H (L2.upd HM pN (.lst (cutV ms none (some 8)))) := Same.ext s3 nf (x4.trans (x5.trans ((Ext.same s67).trans (x89.trans x9N))))
      generalize L2.upd HM pN (.lst (cutV ms none (some 8))) = HN at cN bN eN alN a4N a5N sHN x9N
      have pNf : pN ≠ f := fun z => cM.new npN z
      generalize cutV ms none (some 8) = cs at eN alN
      refine ⟨pN, rfl, ⟨_, SqL.of eN⟩, for_list (K := K) (a := pN) (xs := cs) (fun m σ H' => ∃ y7 y8 yB, σ = [some (.ref a), some (.int (0 + i)), some (.ref f), some (.int (0 + j)), some tv, some ov, some (.ref pk), y7, y8, some (.ref D), some (.int (1 + r)), yB] ∧ Same HN H') ⟨_, _, _, rfl, Same.refl _⟩ ?_ ?_ ?_⟩
      · rintro m σ H' _ ⟨y7, y8, yB, _, sO⟩
        exact SqL.of (sO _ _ eN)
      · rintro m x σ HO ex ⟨y7, y8, yB, rfl, sO⟩
        obtain ⟨dx, edx, ax⟩ := alN.get ex
        have hmem := mM dx (List.mem_of_mem_take (List.mem_of_getElem? edx))
        obtain ⟨⟨pth, n⟩, hx, rfl⟩ := List.mem_map.mp hmem
        obtain ⟨gn, lp, tn, sn⟩ := gN _ hx
        have gn : Gn 6 16 (TD n) := gn
        have sn : sub pth t = some n := sn
        obtain ⟨p8, va, vb, rfl, n8, e8, aa, ab⟩ := (ax.same sO).pair
        have aa : Da (fun a => a = f) HO va (pD pth) := aa
        have ab : Da (fun a => a = f) HO vb (TD n) := ab
        have cO := cN.same sO
        have a4O := a4N.same sO
        have a5O := a5N.same sO
        refine ⟨p8, _, rfl, SqT.of e8, rfl, _, _, rfl, _, _, rfl, rfl, ?_⟩
        -- found
        refine ⟨_, rfl, _, rfl, _, rfl, fun a => a = f, t, n, o, pth, tv, va, ov, 16, rfl, cO, tt, a4O, aa, a5O, sn, g4, by decide, fun fv HP sP aP => ?_⟩
        have cP := cO.same sP
        have gp : Gn 6 28 (TD (put pth t o)) := gn_put g5 pth t n 16 g4 sn
        have tp := tok_put pth t n o tt to sn
        have sp := sub_put pth t n o sn
        refine ⟨_, rfl, _, rfl, fun a => a = f, t, n, pth, tv, va, rfl, tt, a4O.same sP, aa.same sP, sn, fun v1 a1 => ⟨_, rfl, ?_⟩⟩
        refine ⟨TD n, TD n, a1.dp _ _, (ab.same sP).dp _ _, gn.shaped (by decide), gn.shaped (by decide), _, rfl, ifNo (eqvNe gn) ?_⟩
        refine ⟨_, rfl, _, rfl, _, rfl, _, rfl, fun a => a = f, t, n, o, pth, tv, va, ov, 16, rfl, cP, tt, a4O.same sP, aa.same sP, a5O.same sP, sn, g4, by decide, Nat.lt_of_le_of_lt lp (by decide), fun v2 HR sR aR => ?_⟩
        refine ⟨TD (put pth t o), TD (put pth t o), (aP.same sR).dp _ _, aR.dp _ _, gp.shaped (by decide), gp.shaped (by decide), _, rfl, ?_⟩
        refine ifNo (eqvNe gp) ?_
        have cR := cP.same sR
        have sPR := sP.trans sR
        refine ⟨_, rfl, _, rfl, fun a => a = f, put pth t o, o, pth, fv, va, rfl, tp, aP.same sR, aa.same sPR, sp, fun v3 a3 => ⟨_, rfl, ?_⟩⟩
        refine ⟨TD o, TD o, a3.dp _ _, (a5O.same sPR).dp _ _, g5.shaped (by decide), g5.shaped (by decide), _, rfl, ifNo (eqvNe g5) ?_⟩
        refine ⟨_, rfl, _, rfl, _, rfl, fun a => a = f, put pth t o, o, n, pth, fv, va, vb, 28, rfl, cR, tp, aP.same sR, aa.same sPR, ab.same sPR, sp, gp, by decide, fun v4 HS sS aS => ⟨_, rfl, ?_⟩⟩
        rw [put_put pth t n o sn] at aS
        have sPS := sPR.trans sS
        refine ⟨TD t, TD t, aS.dp _ _, (a4O.same sPS).dp _ _, g4.shaped (by decide), g4.shaped (by decide), _, rfl, ifNo (eqvNe g4) ?_⟩
        exact ⟨_, _, _, rfl, sO.trans sPS⟩
      · rintro σ H' ⟨y7, y8, yB, rfl, sO⟩
        exact ⟨_, _, _, _, _, _, _, _, _, rfl, sHN.trans sO, bN.same sO⟩
    · rintro σ H' ⟨y3, y4, y5, y6, y7, y8, y9, yA, yB, rfl, s3, _⟩
      exact ⟨_, _, _, _, _, _, _, _, _, _, _, rfl, s3⟩
  · rintro σ H' ⟨y1, y2, y3, y4, y5, y6, y7, y8, y9, yA, yB, rfl, s1⟩
    exact q H'
end
end Sa

set_option Elab.async false
set_option linter.all false
set_option maxRecDepth 100000
set_option maxHeartbeats 4000000
namespace Sa
open PySem PySem.Spec PyProof.Rows L2
def chkStrs : List Value → List Str → Bool
  | [], [] => true
  | .str x _ :: r, y :: l => x == y && chkStrs r l
  | _, _ => false
def okTup (o : Obj) (l : List Str) : Bool := match o with
  | ⟨.type n, _, .seq its _, _⟩ => n == "tuple" && decide (its.size ≤ 1000) && chkStrs its.toList l
  | _ => false
theorem chkStrs_vals : ∀ {us : List Value} {l : List Str}, chkStrs us l = true → Vals (l.map V.str) us
  | [], [], _ => .nil
  | .str x t :: r, y :: l, h => by
    simp only [chkStrs, Bool.and_eq_true, beq_iff_eq] at h
    exact .cons ⟨t, by rw [h.1]⟩ (chkStrs_vals h.2)
  | [], _ :: _, h => by cases h
  | .str .. :: _, [], h => by cases h
  | .none :: _, [], h => by cases h
  | .none :: _, _ :: _, h => by cases h
  | .bool _ :: _, l, h => by cases l <;> cases h
  | .int .. :: _, l, h => by cases l <;> cases h
  | .float .. :: _, l, h => by cases l <;> cases h
  | .bytes .. :: _, l, h => by cases l <;> cases h
  | .ref _ :: _, l, h => by cases l <;> cases h
  | .type _ :: _, l, h => by cases l <;> cases h
  | .builtin _ :: _, l, h => by cases l <;> cases h
theorem sqT_of {K : PySem.W.Frag} {a : Addr} {o : Obj} {l : List Str} (h : K.lookup a = some o) (c : okTup o l = true) (H : Hp) : SqT K H a (l.map V.str) := by
  unfold okTup at c
  split at c
  · rename_i n dd its m sl
    simp only [Bool.and_eq_true, beq_iff_eq, decide_eq_true_eq] at c
    obtain ⟨⟨rfl, c2⟩, c3⟩ := c
    exact .inr ⟨_, its, m, h, rfl, rfl, Nat.le_of_lt (small1000 c2), chkStrs_vals c3⟩
  · cases c
theorem all_mk {l : PySem.W.OpenLaw} {w : World} {K : PySem.W.Frag} {h : Heap} {mg : Str → Option Value} {fa : Addr} (X : K.In h) (G : h.Ns mainGlobals mg) (hfa : mg "law" = some (.ref fa))
    {f0 : Addr} {od0 an0 : Option Addr} {sl0 : Array (Option Value)} {oc0 kV0 dc0 pm0 cd0 ct0 : Value}
    {f1 : Addr} {od1 an1 : Option Addr} {sl1 : Array (Option Value)} {oc1 kV1 dc1 pm1 cd1 ct1 : Value}
    {f2 : Addr} {od2 an2 : Option Addr} {sl2 : Array (Option Value)} {oc2 kV2 dc2 pm2 cd2 ct2 : Value}
    {f3 : Addr} {od3 an3 : Option Addr} {sl3 : Array (Option Value)} {oc3 kV3 dc3 pm3 cd3 ct3 : Value}
    {f4 : Addr} {od4 an4 : Option Addr} {sl4 : Array (Option Value)} {oc4 kV4 dc4 pm4 cd4 ct4 : Value}
    {f5 : Addr} {od5 an5 : Option Addr} {sl5 : Array (Option Value)} {oc5 kV5 dc5 pm5 cd5 ct5 : Value}
    {f6 : Addr} {od6 an6 : Option Addr} {sl6 : Array (Option Value)} {oc6 kV6 dc6 pm6 cd6 ct6 : Value}
    {f7 : Addr} {od7 an7 : Option Addr} {sl7 : Array (Option Value)} {oc7 kV7 dc7 pm7 cd7 ct7 : Value}
    {f8 : Addr} {od8 an8 : Option Addr} {sl8 : Array (Option Value)} {oc8 kV8 dc8 pm8 cd8 ct8 : Value}
    {f9 : Addr} {od9 an9 : Option Addr} {sl9 : Array (Option Value)} {oc9 kV9 dc9 pm9 cd9 ct9 : Value}
    {f10 : Addr} {od10 an10 : Option Addr} {sl10 : Array (Option Value)} {oc10 kV10 dc10 pm10 cd10 ct10 : Value}
    {f11 : Addr} {od11 an11 : Option Addr} {sl11 : Array (Option Value)} {oc11 kV11 dc11 pm11 cd11 ct11 : Value}
    {f12 : Addr} {od12 an12 : Option Addr} {sl12 : Array (Option Value)} {oc12 kV12 dc12 pm12 cd12 ct12 : Value}
    {f13 : Addr} {od13 an13 : Option Addr} {sl13 : Array (Option Value)} {oc13 kV13 dc13 pm13 cd13 ct13 : Value}
    {f14 : Addr} {od14 an14 : Option Addr} {sl14 : Array (Option Value)} {oc14 kV14 dc14 pm14 cd14 ct14 : Value}
    {f15 : Addr} {od15 an15 : Option Addr} {sl15 : Array (Option Value)} {oc15 kV15 dc15 pm15 cd15 ct15 : Value}
    {f16 : Addr} {od16 an16 : Option Addr} {sl16 : Array (Option Value)} {oc16 kV16 dc16 pm16 cd16 ct16 : Value}
    {f17 : Addr} {od17 an17 : Option Addr} {sl17 : Array (Option Value)} {oc17 kV17 dc17 pm17 cd17 ct17 : Value}
    {f18 : Addr} {od18 an18 : Option Addr} {sl18 : Array (Option Value)} {oc18 kV18 dc18 pm18 cd18 ct18 : Value}
    {f19 : Addr} {od19 an19 : Option Addr} {sl19 : Array (Option Value)} {oc19 kV19 dc19 pm19 cd19 ct19 : Value}
    {f20 : Addr} {od20 an20 : Option Addr} {sl20 : Array (Option Value)} {oc20 kV20 dc20 pm20 cd20 ct20 : Value}
    {f21 : Addr} {od21 an21 : Option Addr} {sl21 : Array (Option Value)} {oc21 kV21 dc21 pm21 cd21 ct21 : Value}
    {f22 : Addr} {od22 an22 : Option Addr} {sl22 : Array (Option Value)} {oc22 kV22 dc22 pm22 cd22 ct22 : Value}
    {f23 : Addr} {od23 an23 : Option Addr} {sl23 : Array (Option Value)} {oc23 kV23 dc23 pm23 cd23 ct23 : Value}
    {f24 : Addr} {od24 an24 : Option Addr} {sl24 : Array (Option Value)} {oc24 kV24 dc24 pm24 cd24 ct24 : Value}
    (a0 : PySem.W.nsIn K mainGlobals "first_kid" = some (some (.ref f0))) (l0 : K.lookup f0 = some ⟨oc0, od0, .func (PySem.W.fnOf "first_kid" "first_kid" (defArgs s_first_kid) (defBody s_first_kid) (defScope s_first_kid) .none kV0 dc0 pm0 an0 cd0 ct0), sl0⟩) (c0 : PySem.W.codeIn K cd0 "first_kid" = true) (k0 : PySem.W.keepIn K (.ref f0) = true)
    (a1 : PySem.W.nsIn K mainGlobals "kids_of" = some (some (.ref f1))) (l1 : K.lookup f1 = some ⟨oc1, od1, .func (PySem.W.fnOf "kids_of" "kids_of" (defArgs s_kids_of) (defBody s_kids_of) (defScope s_kids_of) .none kV1 dc1 pm1 an1 cd1 ct1), sl1⟩) (c1 : PySem.W.codeIn K cd1 "kids_of" = true) (k1 : PySem.W.keepIn K (.ref f1) = true)
    (a2 : PySem.W.nsIn K mainGlobals "remade" = some (some (.ref f2))) (l2 : K.lookup f2 = some ⟨oc2, od2, .func (PySem.W.fnOf "remade" "remade" (defArgs s_remade) (defBody s_remade) (defScope s_remade) .none kV2 dc2 pm2 an2 cd2 ct2), sl2⟩) (c2 : PySem.W.codeIn K cd2 "remade" = true) (k2 : PySem.W.keepIn K (.ref f2) = true)
    (a3 : PySem.W.nsIn K mainGlobals "subtree" = some (some (.ref f3))) (l3 : K.lookup f3 = some ⟨oc3, od3, .func (PySem.W.fnOf "subtree" "subtree" (defArgs s_subtree) (defBody s_subtree) (defScope s_subtree) .none kV3 dc3 pm3 an3 cd3 ct3), sl3⟩) (c3 : PySem.W.codeIn K cd3 "subtree" = true) (k3 : PySem.W.keepIn K (.ref f3) = true)
    (a4 : PySem.W.nsIn K mainGlobals "with_subtree" = some (some (.ref f4))) (l4 : K.lookup f4 = some ⟨oc4, od4, .func (PySem.W.fnOf "with_subtree" "with_subtree" (defArgs s_with_subtree) (defBody s_with_subtree) (defScope s_with_subtree) .none kV4 dc4 pm4 an4 cd4 ct4), sl4⟩) (c4 : PySem.W.codeIn K cd4 "with_subtree" = true) (k4 : PySem.W.keepIn K (.ref f4) = true)
    (a5 : PySem.W.nsIn K mainGlobals "nodes" = some (some (.ref f5))) (l5 : K.lookup f5 = some ⟨oc5, od5, .func (PySem.W.fnOf "nodes" "nodes" (defArgs s_nodes) (defBody s_nodes) (defScope s_nodes) .none kV5 dc5 pm5 an5 cd5 ct5), sl5⟩) (c5 : PySem.W.codeIn K cd5 "nodes" = true) (k5 : PySem.W.keepIn K (.ref f5) = true)
    (a6 : PySem.W.nsIn K mainGlobals "count" = some (some (.ref f6))) (l6 : K.lookup f6 = some ⟨oc6, od6, .func (PySem.W.fnOf "count" "count" (defArgs s_count) (defBody s_count) (defScope s_count) .none kV6 dc6 pm6 an6 cd6 ct6), sl6⟩) (c6 : PySem.W.codeIn K cd6 "count" = true) (k6 : PySem.W.keepIn K (.ref f6) = true)
    (a7 : PySem.W.nsIn K mainGlobals "inked" = some (some (.ref f7))) (l7 : K.lookup f7 = some ⟨oc7, od7, .func (PySem.W.fnOf "inked" "inked" (defArgs s_inked) (defBody s_inked) (defScope s_inked) .none kV7 dc7 pm7 an7 cd7 ct7), sl7⟩) (c7 : PySem.W.codeIn K cd7 "inked" = true) (k7 : PySem.W.keepIn K (.ref f7) = true)
    (a8 : PySem.W.nsIn K mainGlobals "bared" = some (some (.ref f8))) (l8 : K.lookup f8 = some ⟨oc8, od8, .func (PySem.W.fnOf "bared" "bared" (defArgs s_bared) (defBody s_bared) (defScope s_bared) .none kV8 dc8 pm8 an8 cd8 ct8), sl8⟩) (c8 : PySem.W.codeIn K cd8 "bared" = true) (k8 : PySem.W.keepIn K (.ref f8) = true)
    (a9 : PySem.W.nsIn K mainGlobals "_law_feed_of" = some (some (.ref f9))) (l9 : K.lookup f9 = some ⟨oc9, od9, .func (PySem.W.fnOf "_law_feed_of" "_law_feed_of" (defArgs s__law_feed_of) (defBody s__law_feed_of) (defScope s__law_feed_of) .none kV9 dc9 pm9 an9 cd9 ct9), sl9⟩) (c9 : PySem.W.codeIn K cd9 "_law_feed_of" = true) (k9 : PySem.W.keepIn K (.ref f9) = true)
    (a10 : PySem.W.nsIn K mainGlobals "_law_draw" = some (some (.ref f10))) (l10 : K.lookup f10 = some ⟨oc10, od10, .func (PySem.W.fnOf "_law_draw" "_law_draw" (defArgs s__law_draw) (defBody s__law_draw) (defScope s__law_draw) .none kV10 dc10 pm10 an10 cd10 ct10), sl10⟩) (c10 : PySem.W.codeIn K cd10 "_law_draw" = true) (k10 : PySem.W.keepIn K (.ref f10) = true)
    (a11 : PySem.W.nsIn K mainGlobals "_law_pick" = some (some (.ref f11))) (l11 : K.lookup f11 = some ⟨oc11, od11, .func (PySem.W.fnOf "_law_pick" "_law_pick" (defArgs s__law_pick) (defBody s__law_pick) (defScope s__law_pick) .none kV11 dc11 pm11 an11 cd11 ct11), sl11⟩) (c11 : PySem.W.codeIn K cd11 "_law_pick" = true) (k11 : PySem.W.keepIn K (.ref f11) = true)
    (a12 : PySem.W.nsIn K mainGlobals "_law_mixed" = some (some (.ref f12))) (l12 : K.lookup f12 = some ⟨oc12, od12, .func (PySem.W.fnOf "_law_mixed" "_law_mixed" (defArgs s__law_mixed) (defBody s__law_mixed) (defScope s__law_mixed) .none kV12 dc12 pm12 an12 cd12 ct12), sl12⟩) (c12 : PySem.W.codeIn K cd12 "_law_mixed" = true) (k12 : PySem.W.keepIn K (.ref f12) = true)
    (a13 : PySem.W.nsIn K mainGlobals "_law_same" = some (some (.ref f13))) (l13 : K.lookup f13 = some ⟨oc13, od13, .func (PySem.W.fnOf "_law_same" "_law_same" (defArgs s__law_same) (defBody s__law_same) (defScope s__law_same) .none kV13 dc13 pm13 an13 cd13 ct13), sl13⟩) (c13 : PySem.W.codeIn K cd13 "_law_same" = true) (k13 : PySem.W.keepIn K (.ref f13) = true)
    (a14 : PySem.W.nsIn K mainGlobals "_law_first" = some (some (.ref f14))) (l14 : K.lookup f14 = some ⟨oc14, od14, .func (PySem.W.fnOf "_law_first" "_law_first" (defArgs s__law_first) (defBody s__law_first) (defScope s__law_first) .none kV14 dc14 pm14 an14 cd14 ct14), sl14⟩) (c14 : PySem.W.codeIn K cd14 "_law_first" = true) (k14 : PySem.W.keepIn K (.ref f14) = true)
    (a15 : PySem.W.nsIn K mainGlobals "_law_ones" = some (some (.ref f15))) (l15 : K.lookup f15 = some ⟨oc15, od15, .func (PySem.W.fnOf "_law_ones" "_law_ones" (defArgs s__law_ones) (defBody s__law_ones) (defScope s__law_ones) .none kV15 dc15 pm15 an15 cd15 ct15), sl15⟩) (c15 : PySem.W.codeIn K cd15 "_law_ones" = true) (k15 : PySem.W.keepIn K (.ref f15) = true)
    (a16 : PySem.W.nsIn K mainGlobals "_law_twos" = some (some (.ref f16))) (l16 : K.lookup f16 = some ⟨oc16, od16, .func (PySem.W.fnOf "_law_twos" "_law_twos" (defArgs s__law_twos) (defBody s__law_twos) (defScope s__law_twos) .none kV16 dc16 pm16 an16 cd16 ct16), sl16⟩) (c16 : PySem.W.codeIn K cd16 "_law_twos" = true) (k16 : PySem.W.keepIn K (.ref f16) = true)
    (a17 : PySem.W.nsIn K mainGlobals "_law_literal" = some (some (.ref f17))) (l17 : K.lookup f17 = some ⟨oc17, od17, .func (PySem.W.fnOf "_law_literal" "_law_literal" (defArgs s__law_literal) (defBody s__law_literal) (defScope s__law_literal) .none kV17 dc17 pm17 an17 cd17 ct17), sl17⟩) (c17 : PySem.W.codeIn K cd17 "_law_literal" = true) (k17 : PySem.W.keepIn K (.ref f17) = true)
    (a18 : PySem.W.nsIn K mainGlobals "_law_inked_tree" = some (some (.ref f18))) (l18 : K.lookup f18 = some ⟨oc18, od18, .func (PySem.W.fnOf "_law_inked_tree" "_law_inked_tree" (defArgs s__law_inked_tree) (defBody s__law_inked_tree) (defScope s__law_inked_tree) .none kV18 dc18 pm18 an18 cd18 ct18), sl18⟩) (c18 : PySem.W.codeIn K cd18 "_law_inked_tree" = true) (k18 : PySem.W.keepIn K (.ref f18) = true)
    (a19 : PySem.W.nsIn K mainGlobals "_law_mark" = some (some (.ref f19))) (l19 : K.lookup f19 = some ⟨oc19, od19, .func (PySem.W.fnOf "_law_mark" "_law_mark" (defArgs s__law_mark) (defBody s__law_mark) (defScope s__law_mark) .none kV19 dc19 pm19 an19 cd19 ct19), sl19⟩) (c19 : PySem.W.codeIn K cd19 "_law_mark" = true) (k19 : PySem.W.keepIn K (.ref f19) = true)
    (a20 : PySem.W.nsIn K mainGlobals "_law_all" = some (some (.ref f20))) (l20 : K.lookup f20 = some ⟨oc20, od20, .func (PySem.W.fnOf "_law_all" "_law_all" (defArgs s__law_all) (defBody s__law_all) (defScope s__law_all) .none kV20 dc20 pm20 an20 cd20 ct20), sl20⟩) (c20 : PySem.W.codeIn K cd20 "_law_all" = true) (k20 : PySem.W.keepIn K (.ref f20) = true)
    (a21 : PySem.W.nsIn K mainGlobals "_law_put" = some (some (.ref f21))) (l21 : K.lookup f21 = some ⟨oc21, od21, .func (PySem.W.fnOf "_law_put" "_law_put" (defArgs s__law_put) (defBody s__law_put) (defScope s__law_put) .none kV21 dc21 pm21 an21 cd21 ct21), sl21⟩) (c21 : PySem.W.codeIn K cd21 "_law_put" = true) (k21 : PySem.W.keepIn K (.ref f21) = true)
    (a22 : PySem.W.nsIn K mainGlobals "_law_bare" = some (some (.ref f22))) (l22 : K.lookup f22 = some ⟨oc22, od22, .func (PySem.W.fnOf "_law_bare" "_law_bare" (defArgs s__law_bare) (defBody s__law_bare) (defScope s__law_bare) .none kV22 dc22 pm22 an22 cd22 ct22), sl22⟩) (c22 : PySem.W.codeIn K cd22 "_law_bare" = true) (k22 : PySem.W.keepIn K (.ref f22) = true)
    (a23 : PySem.W.nsIn K mainGlobals "_law_some" = some (some (.ref f23))) (l23 : K.lookup f23 = some ⟨oc23, od23, .func (PySem.W.fnOf "_law_some" "_law_some" (defArgs s__law_some) (defBody s__law_some) (defScope s__law_some) .none kV23 dc23 pm23 an23 cd23 ct23), sl23⟩) (c23 : PySem.W.codeIn K cd23 "_law_some" = true) (k23 : PySem.W.keepIn K (.ref f23) = true)
    (a24 : PySem.W.nsIn K mainGlobals "law" = some (some (.ref f24))) (l24 : K.lookup f24 = some ⟨oc24, od24, .func (PySem.W.fnOf "law" "law" (defArgs s_law) (defBody s_law) (defScope s_law) .none kV24 dc24 pm24 an24 cd24 ct24), sl24⟩) (c24 : PySem.W.codeIn K cd24 "law" = true) (k24 : PySem.W.keepIn K (.ref f24) = true)
    (z_len : PySem.W.nsIn K mainGlobals "len" = some none)
    (z_isinstance : PySem.W.nsIn K mainGlobals "isinstance" = some none)
    (z_str : PySem.W.nsIn K mainGlobals "str" = some none)
    (z_int : PySem.W.nsIn K mainGlobals "int" = some none)
    (z_bool : PySem.W.nsIn K mainGlobals "bool" = some none)
    (z_tuple : PySem.W.nsIn K mainGlobals "tuple" = some none)
    (z_list : PySem.W.nsIn K mainGlobals "list" = some none)
    (z_range : PySem.W.nsIn K mainGlobals "range" = some none)
    (z_all : PySem.W.nsIn K mainGlobals "all" = some none)
    (z_zip : PySem.W.nsIn K mainGlobals "zip" = some none)
    (z_max : PySem.W.nsIn K mainGlobals "max" = some none)
    (z_min : PySem.W.nsIn K mainGlobals "min" = some none)
    (z_enumerate : PySem.W.nsIn K mainGlobals "enumerate" = some none)
    (z_reversed : PySem.W.nsIn K mainGlobals "reversed" = some none) :
    ∃ fd : FuncData, (∀ (s : Shared) (v : Value), BindsTo s fd ⟨[v], []⟩ [("_law_script", v)]) ∧ ∀ base : Heap, K.In base → base.Ns mainGlobals mg → FnOk l.prog w K mg base CX0 31 fa fd ["_law_script"] (spLaw K) := by
  have e := hfa.symm.trans (PySem.W.mg_of X G a24)
  cases e
  have F0 := fun_mk (st := s_first_kid) l0 c0 k0
  have b0 := F0.binds (ps := ["head", "items"]) fun _ _ _ _ _ _ us hl => match us, hl with | [_, _], _ => rfl
  have F1 := fun_mk (st := s_kids_of) l1 c1 k1
  have b1 := F1.binds (ps := ["tree"]) fun _ _ _ _ _ _ us hl => match us, hl with | [_], _ => rfl
  have F2 := fun_mk (st := s_remade) l2 c2 k2
  have b2 := F2.binds (ps := ["tree", "kids"]) fun _ _ _ _ _ _ us hl => match us, hl with | [_, _], _ => rfl
  have F3 := fun_mk (st := s_subtree) l3 c3 k3
  have b3 := F3.binds (ps := ["tree", "path"]) fun _ _ _ _ _ _ us hl => match us, hl with | [_, _], _ => rfl
  have F4 := fun_mk (st := s_with_subtree) l4 c4 k4
  have b4 := F4.binds (ps := ["tree", "path", "other"]) fun _ _ _ _ _ _ us hl => match us, hl with | [_, _, _], _ => rfl
  have F5 := fun_mk (st := s_nodes) l5 c5 k5
  have b5 := F5.binds (ps := ["tree"]) fun _ _ _ _ _ _ us hl => match us, hl with | [_], _ => rfl
  have F6 := fun_mk (st := s_count) l6 c6 k6
  have b6 := F6.binds (ps := ["tree"]) fun _ _ _ _ _ _ us hl => match us, hl with | [_], _ => rfl
  have F7 := fun_mk (st := s_inked) l7 c7 k7
  have b7 := F7.binds (ps := ["tree"]) fun _ _ _ _ _ _ us hl => match us, hl with | [_], _ => rfl
  have F8 := fun_mk (st := s_bared) l8 c8 k8
  have b8 := F8.binds (ps := ["tree"]) fun _ _ _ _ _ _ us hl => match us, hl with | [_], _ => rfl
  have F9 := fun_mk (st := s__law_feed_of) l9 c9 k9
  have b9 := F9.binds (ps := ["_law_script", "_law_k"]) fun _ _ _ _ _ _ us hl => match us, hl with | [_, _], _ => rfl
  have F10 := fun_mk (st := s__law_draw) l10 c10 k10
  have b10 := F10.binds (ps := ["_law_feed", "_law_many"]) fun _ _ _ _ _ _ us hl => match us, hl with | [_, _], _ => rfl
  have F11 := fun_mk (st := s__law_pick) l11 c11 k11
  have b11 := F11.binds (ps := ["_law_feed", "_law_items"]) fun _ _ _ _ _ _ us hl => match us, hl with | [_, _], _ => rfl
  have F12 := fun_mk (st := s__law_mixed) l12 c12 k12
  have b12 := F12.binds (ps := ["_law_feed", "_law_items"]) fun _ _ _ _ _ _ us hl => match us, hl with | [_, _], _ => rfl
  have F13 := fun_mk (st := s__law_same) l13 c13 k13
  have b13 := F13.binds (ps := ["_law_found", "_law_due"]) fun _ _ _ _ _ _ us hl => match us, hl with | [_, _], _ => rfl
  have F14 := fun_mk (st := s__law_first) l14 c14 k14
  have b14 := F14.binds (ps := ["_law_head"]) fun _ _ _ _ _ _ us hl => match us, hl with | [_], _ => rfl
  have F15 := fun_mk (st := s__law_ones) l15 c15 k15
  have b15 := F15.binds (ps := []) fun _ _ _ _ _ _ us hl => match us, hl with | [], _ => rfl
  have F16 := fun_mk (st := s__law_twos) l16 c16 k16
  have b16 := F16.binds (ps := []) fun _ _ _ _ _ _ us hl => match us, hl with | [], _ => rfl
  have F17 := fun_mk (st := s__law_literal) l17 c17 k17
  have b17 := F17.binds (ps := ["_law_feed"]) fun _ _ _ _ _ _ us hl => match us, hl with | [_], _ => rfl
  have F18 := fun_mk (st := s__law_inked_tree) l18 c18 k18
  have b18 := F18.binds (ps := ["_law_feed", "_law_deep"]) fun _ _ _ _ _ _ us hl => match us, hl with | [_, _], _ => rfl
  have F19 := fun_mk (st := s__law_mark) l19 c19 k19
  have b19 := F19.binds (ps := ["_law_feed"]) fun _ _ _ _ _ _ us hl => match us, hl with | [_], _ => rfl
  have F20 := fun_mk (st := s__law_all) l20 c20 k20
  have b20 := F20.binds (ps := ["_law_tree", "_law_path"]) fun _ _ _ _ _ _ us hl => match us, hl with | [_, _], _ => rfl
  have F21 := fun_mk (st := s__law_put) l21 c21 k21
  have b21 := F21.binds (ps := ["_law_tree", "_law_path", "_law_other"]) fun _ _ _ _ _ _ us hl => match us, hl with | [_, _, _], _ => rfl
  have F22 := fun_mk (st := s__law_bare) l22 c22 k22
  have b22 := F22.binds (ps := ["_law_tree"]) fun _ _ _ _ _ _ us hl => match us, hl with | [_], _ => rfl
  have F23 := fun_mk (st := s__law_some) l23 c23 k23
  have b23 := F23.binds (ps := ["_law_tree", "_law_many"]) fun _ _ _ _ _ _ us hl => match us, hl with | [_, _], _ => rfl
  have F24 := fun_mk (st := s_law) l24 c24 k24
  have b24 := F24.binds (ps := ["_law_script"]) fun _ _ _ _ _ _ us hl => match us, hl with | [_], _ => rfl
  let T : Top K mg := { first_kid := f0, first_kid_d := _, first_kid_f := F0, first_kid_b := b0, first_kid_g := PySem.W.mg_of X G a0, first_kid_k := k0, kids_of := f1, kids_of_d := _, kids_of_f := F1, kids_of_b := b1, kids_of_g := PySem.W.mg_of X G a1, kids_of_k := k1, remade := f2, remade_d := _, remade_f := F2, remade_b := b2, remade_g := PySem.W.mg_of X G a2, remade_k := k2, subtree := f3, subtree_d := _, subtree_f := F3, subtree_b := b3, subtree_g := PySem.W.mg_of X G a3, subtree_k := k3, with_subtree := f4, with_subtree_d := _, with_subtree_f := F4, with_subtree_b := b4, with_subtree_g := PySem.W.mg_of X G a4, with_subtree_k := k4, nodes := f5, nodes_d := _, nodes_f := F5, nodes_b := b5, nodes_g := PySem.W.mg_of X G a5, nodes_k := k5, count := f6, count_d := _, count_f := F6, count_b := b6, count_g := PySem.W.mg_of X G a6, count_k := k6, inked := f7, inked_d := _, inked_f := F7, inked_b := b7, inked_g := PySem.W.mg_of X G a7, inked_k := k7, bared := f8, bared_d := _, bared_f := F8, bared_b := b8, bared_g := PySem.W.mg_of X G a8, bared_k := k8, _law_feed_of := f9, _law_feed_of_d := _, _law_feed_of_f := F9, _law_feed_of_b := b9, _law_feed_of_g := PySem.W.mg_of X G a9, _law_feed_of_k := k9, _law_draw := f10, _law_draw_d := _, _law_draw_f := F10, _law_draw_b := b10, _law_draw_g := PySem.W.mg_of X G a10, _law_draw_k := k10, _law_pick := f11, _law_pick_d := _, _law_pick_f := F11, _law_pick_b := b11, _law_pick_g := PySem.W.mg_of X G a11, _law_pick_k := k11, _law_mixed := f12, _law_mixed_d := _, _law_mixed_f := F12, _law_mixed_b := b12, _law_mixed_g := PySem.W.mg_of X G a12, _law_mixed_k := k12, _law_same := f13, _law_same_d := _, _law_same_f := F13, _law_same_b := b13, _law_same_g := PySem.W.mg_of X G a13, _law_same_k := k13, _law_first := f14, _law_first_d := _, _law_first_f := F14, _law_first_b := b14, _law_first_g := PySem.W.mg_of X G a14, _law_first_k := k14, _law_ones := f15, _law_ones_d := _, _law_ones_f := F15, _law_ones_b := b15, _law_ones_g := PySem.W.mg_of X G a15, _law_ones_k := k15, _law_twos := f16, _law_twos_d := _, _law_twos_f := F16, _law_twos_b := b16, _law_twos_g := PySem.W.mg_of X G a16, _law_twos_k := k16, _law_literal := f17, _law_literal_d := _, _law_literal_f := F17, _law_literal_b := b17, _law_literal_g := PySem.W.mg_of X G a17, _law_literal_k := k17, _law_inked_tree := f18, _law_inked_tree_d := _, _law_inked_tree_f := F18, _law_inked_tree_b := b18, _law_inked_tree_g := PySem.W.mg_of X G a18, _law_inked_tree_k := k18, _law_mark := f19, _law_mark_d := _, _law_mark_f := F19, _law_mark_b := b19, _law_mark_g := PySem.W.mg_of X G a19, _law_mark_k := k19, _law_all := f20, _law_all_d := _, _law_all_f := F20, _law_all_b := b20, _law_all_g := PySem.W.mg_of X G a20, _law_all_k := k20, _law_put := f21, _law_put_d := _, _law_put_f := F21, _law_put_b := b21, _law_put_g := PySem.W.mg_of X G a21, _law_put_k := k21, _law_bare := f22, _law_bare_d := _, _law_bare_f := F22, _law_bare_b := b22, _law_bare_g := PySem.W.mg_of X G a22, _law_bare_k := k22, _law_some := f23, _law_some_d := _, _law_some_f := F23, _law_some_b := b23, _law_some_g := PySem.W.mg_of X G a23, _law_some_k := k23, law := fa, law_d := _, law_f := F24, law_b := b24, law_g := PySem.W.mg_of X G a24, law_k := k24, len_n := PySem.W.mg_none_of X G z_len, isinstance_n := PySem.W.mg_none_of X G z_isinstance, str_n := PySem.W.mg_none_of X G z_str, int_n := PySem.W.mg_none_of X G z_int, bool_n := PySem.W.mg_none_of X G z_bool, tuple_n := PySem.W.mg_none_of X G z_tuple, list_n := PySem.W.mg_none_of X G z_list, range_n := PySem.W.mg_none_of X G z_range, all_n := PySem.W.mg_none_of X G z_all, zip_n := PySem.W.mg_none_of X G z_zip, max_n := PySem.W.mg_none_of X G z_max, min_n := PySem.W.mg_none_of X G z_min, enumerate_n := PySem.W.mg_none_of X G z_enumerate, reversed_n := PySem.W.mg_none_of X G z_reversed }
  exact ⟨T.law_d, fun s v => .of_eq rfl, fun base _ _ => ok_law (P := l.prog) (w := w) (base := base) T⟩
end Sa

set_option Elab.async false
set_option linter.all false
set_option maxRecDepth 100000
set_option maxHeartbeats 4000000
open PySem PySem.W PyProof.Rows
set_option maxHeartbeats 0 in
theorem PySem.Challenge.cw_saidanew_k03_paths_and_inks_holds : PySem.Challenge.rw_saidanew_k03_paths_and_inks.Holds := by
  w_on; o_law; k_head; (case hw => w_witness2)
  k_fill
  refine L2.walk_of (l := PySem.Challenge.rw_saidanew_k03_paths_and_inks) (n := 63) (k := 31) (x := "_law_script") (CX := fun _ => L2.CX0) (sp := fun w => Sa.spLaw _) rfl (by decide) rfl ⟨rfl, by decide, by decide⟩ (fun w h Y => PySem.W.kIn_of Y) ?F (fun _ _ a ns hl _ hS => ⟨a, ns, rfl, hS, hl, fun _ => rfl⟩) (fun _ _ _ _ _ h => h)
  case F =>
    intro w mg fa h KX G hmg
    refine' Sa.all_mk KX G hmg ?a0 ?l0 ?c0 ?k0 ?a1 ?l1 ?c1 ?k1 ?a2 ?l2 ?c2 ?k2 ?a3 ?l3 ?c3 ?k3 ?a4 ?l4 ?c4 ?k4 ?a5 ?l5 ?c5 ?k5 ?a6 ?l6 ?c6 ?k6 ?a7 ?l7 ?c7 ?k7 ?a8 ?l8 ?c8 ?k8 ?a9 ?l9 ?c9 ?k9 ?a10 ?l10 ?c10 ?k10 ?a11 ?l11 ?c11 ?k11 ?a12 ?l12 ?c12 ?k12 ?a13 ?l13 ?c13 ?k13 ?a14 ?l14 ?c14 ?k14 ?a15 ?l15 ?c15 ?k15 ?a16 ?l16 ?c16 ?k16 ?a17 ?l17 ?c17 ?k17 ?a18 ?l18 ?c18 ?k18 ?a19 ?l19 ?c19 ?k19 ?a20 ?l20 ?c20 ?k20 ?a21 ?l21 ?c21 ?k21 ?a22 ?l22 ?c22 ?k22 ?a23 ?l23 ?c23 ?k23 ?a24 ?l24 ?c24 ?k24 ?z_len ?z_isinstance ?z_str ?z_int ?z_bool ?z_tuple ?z_list ?z_range ?z_all ?z_zip ?z_max ?z_min ?z_enumerate ?z_reversed
    (case a0 => k_is)
    (case l0 => k_is)
    (case c0 => k_is)
    (case k0 => k_is)
    (case a1 => k_is)
    (case l1 => k_is)
    (case c1 => k_is)
    (case k1 => k_is)
    (case a2 => k_is)
    (case l2 => k_is)
    (case c2 => k_is)
    (case k2 => k_is)
    (case a3 => k_is)
    (case l3 => k_is)
    (case c3 => k_is)
    (case k3 => k_is)
    (case a4 => k_is)
    (case l4 => k_is)
    (case c4 => k_is)
    (case k4 => k_is)
    (case a5 => k_is)
    (case l5 => k_is)
    (case c5 => k_is)
    (case k5 => k_is)
    (case a6 => k_is)
    (case l6 => k_is)
    (case c6 => k_is)
    (case k6 => k_is)
    (case a7 => k_is)
    (case l7 => k_is)
    (case c7 => k_is)
    (case k7 => k_is)
    (case a8 => k_is)
    (case l8 => k_is)
    (case c8 => k_is)
    (case k8 => k_is)
    (case a9 => k_is)
    (case l9 => k_is)
    (case c9 => k_is)
    (case k9 => k_is)
    (case a10 => k_is)
    (case l10 => k_is)
    (case c10 => k_is)
    (case k10 => k_is)
    (case a11 => k_is)
    (case l11 => k_is)
    (case c11 => k_is)
    (case k11 => k_is)
    (case a12 => k_is)
    (case l12 => k_is)
    (case c12 => k_is)
    (case k12 => k_is)
    (case a13 => k_is)
    (case l13 => k_is)
    (case c13 => k_is)
    (case k13 => k_is)
    (case a14 => k_is)
    (case l14 => k_is)
    (case c14 => k_is)
    (case k14 => k_is)
    (case a15 => k_is)
    (case l15 => k_is)
    (case c15 => k_is)
    (case k15 => k_is)
    (case a16 => k_is)
    (case l16 => k_is)
    (case c16 => k_is)
    (case k16 => k_is)
    (case a17 => k_is)
    (case l17 => k_is)
    (case c17 => k_is)
    (case k17 => k_is)
    (case a18 => k_is)
    (case l18 => k_is)
    (case c18 => k_is)
    (case k18 => k_is)
    (case a19 => k_is)
    (case l19 => k_is)
    (case c19 => k_is)
    (case k19 => k_is)
    (case a20 => k_is)
    (case l20 => k_is)
    (case c20 => k_is)
    (case k20 => k_is)
    (case a21 => k_is)
    (case l21 => k_is)
    (case c21 => k_is)
    (case k21 => k_is)
    (case a22 => k_is)
    (case l22 => k_is)
    (case c22 => k_is)
    (case k22 => k_is)
    (case a23 => k_is)
    (case l23 => k_is)
    (case c23 => k_is)
    (case k23 => k_is)
    (case a24 => k_is)
    (case l24 => k_is)
    (case c24 => k_is)
    (case k24 => k_is)
    (case z_len => k_is)
    (case z_isinstance => k_is)
    (case z_str => k_is)
    (case z_int => k_is)
    (case z_bool => k_is)
    (case z_tuple => k_is)
    (case z_list => k_is)
    (case z_range => k_is)
    (case z_all => k_is)
    (case z_zip => k_is)
    (case z_max => k_is)
    (case z_min => k_is)
    (case z_enumerate => k_is)
    (case z_reversed => k_is)

