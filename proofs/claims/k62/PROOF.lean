import PyProof.Rows.All
import Wide.All
import OpenK.AllK
import Wide.FinOn
import KE.KStateDown
import Lean
import HandS.Base
import HandS.Call
import HandS.Ends
import HandS.More
import HandS.Words
import HandS.WordsExc
import HandS.Defaults
import HandS.Codes
import HandS.Head0
import HandS.Head1
import HandS.Head2
import HandS.HeadEnd
import HandS.HeadHook1
import HandS.HeadHook2
import HandS.HeadHook3
import HandS.HeadHook4
import PySem.Challenge.RW_roundways_k62_whole_sights_of_moving_pac
import HandS.ForMost
import HandS.IsInst
import HandS.Conv
import HandS.Zip
import HandS.Style
import HandS.TupAny
import HandS.Deep
import HandS.DictComp
import HandS.SortRule
import KE.SortData
import PyProof.EqAt
import PyProof.EqKinds
import PyProof.TupleCall
import HandS.List
import HandS.Dict
import HandS.Iter
import HandS.Strs
import HandS.TupSets
import HandS.Set
import HandS.Star
import HandS.TupLe
import HandS.DictTup
section
set_option Elab.async false
set_option linter.all false
set_option maxRecDepth 100000
set_option maxHeartbeats 0
namespace K62
open PySem PySem.Spec PyProof.Rows L2
def top (i : Nat) : Stmt := PySem.Challenge.pw_roundways_k62_whole_sights_of_moving_pac.main.body.getD i (.Pass ⟨0, 0, 0, 0⟩)
abbrev s_is_number : Stmt := top 15
abbrev s_is_list : Stmt := top 16
abbrev s_is_name : Stmt := top 17
abbrev s_are_names : Stmt := top 18
abbrev s_is_place : Stmt := top 19
abbrev s_is_table : Stmt := top 20
abbrev s_nodes_of : Stmt := top 21
abbrev s_are_tables : Stmt := top 22
abbrev s_are_nodes : Stmt := top 23
abbrev s_ordered : Stmt := top 24
abbrev s_need_net : Stmt := top 26
abbrev s_need_goal : Stmt := top 27
abbrev s_is_lot : Stmt := top 30
abbrev s_need_done : Stmt := top 31
abbrev s_need_round : Stmt := top 32
abbrev s_mixture : Stmt := top 33
abbrev s_ways : Stmt := top 34
abbrev s_parts_of : Stmt := top 36
abbrev s_need_plan : Stmt := top 38
abbrev s_done_at : Stmt := top 39
abbrev s_round_at : Stmt := top 40
abbrev s_is_sight : Stmt := top 43
abbrev s_need_sights : Stmt := top 44
abbrev s_need_all : Stmt := top 45
abbrev s_is_new : Stmt := top 46
abbrev s_agrees : Stmt := top 47
abbrev s_follows : Stmt := top 48
abbrev s_all_pairs : Stmt := top 49
abbrev s_rows_of : Stmt := top 50
abbrev s_is_pair : Stmt := top 51
abbrev s_is_story : Stmt := top 52
abbrev s_story : Stmt := top 53
abbrev s_stages : Stmt := top 54
abbrev s_known : Stmt := top 55
abbrev s_clash : Stmt := top 56
abbrev s__law_begin : Stmt := top 58
abbrev s__law_blend : Stmt := top 59
abbrev s__law_pick : Stmt := top 60
abbrev s__law_mixed : Stmt := top 61
abbrev s__law_take : Stmt := top 62
abbrev s__law_words : Stmt := top 63
abbrev s__law_tree : Stmt := top 64
abbrev s__law_path : Stmt := top 65
abbrev s__law_wild : Stmt := top 66
abbrev s__law_near : Stmt := top 67
abbrev s__law_pair : Stmt := top 68
abbrev s__law_model : Stmt := top 69
abbrev s__law_net : Stmt := top 70
abbrev s__law_moving_dots : Stmt := top 71
abbrev s__law_plan : Stmt := top 72
abbrev s__law_done_in : Stmt := top 73
abbrev s__law_hop : Stmt := top 74
abbrev s__law_moved : Stmt := top 75
abbrev s_law : Stmt := top 76
abbrev s_Net : Stmt := top 25
abbrev s_init : Stmt := inClass s_Net 0
abbrev s_does_change : Stmt := inClass s_Net 1
def d_is_number : He.DefD := ⟨("is_number", none), "is_number", "is_number", defArgs s_is_number, defBody s_is_number, defScope s_is_number, [], []⟩
def d_is_list : He.DefD := ⟨("is_list", none), "is_list", "is_list", defArgs s_is_list, defBody s_is_list, defScope s_is_list, [], []⟩
def d_is_name : He.DefD := ⟨("is_name", none), "is_name", "is_name", defArgs s_is_name, defBody s_is_name, defScope s_is_name, [], []⟩
def d_are_names : He.DefD := ⟨("are_names", none), "are_names", "are_names", defArgs s_are_names, defBody s_are_names, defScope s_are_names, [], []⟩
def d_is_place : He.DefD := ⟨("is_place", none), "is_place", "is_place", defArgs s_is_place, defBody s_is_place, defScope s_is_place, [], []⟩
def d_is_table : He.DefD := ⟨("is_table", none), "is_table", "is_table", defArgs s_is_table, defBody s_is_table, defScope s_is_table, [], []⟩
def d_nodes_of : He.DefD := ⟨("nodes_of", none), "nodes_of", "nodes_of", defArgs s_nodes_of, defBody s_nodes_of, defScope s_nodes_of, [], []⟩
def d_are_tables : He.DefD := ⟨("are_tables", none), "are_tables", "are_tables", defArgs s_are_tables, defBody s_are_tables, defScope s_are_tables, [], []⟩
def d_are_nodes : He.DefD := ⟨("are_nodes", none), "are_nodes", "are_nodes", defArgs s_are_nodes, defBody s_are_nodes, defScope s_are_nodes, [], []⟩
def d_ordered : He.DefD := ⟨("ordered", none), "ordered", "ordered", defArgs s_ordered, defBody s_ordered, defScope s_ordered, [], []⟩
def d_need_net : He.DefD := ⟨("need_net", none), "need_net", "need_net", defArgs s_need_net, defBody s_need_net, defScope s_need_net, [], []⟩
def d_need_goal : He.DefD := ⟨("need_goal", none), "need_goal", "need_goal", defArgs s_need_goal, defBody s_need_goal, defScope s_need_goal, [], []⟩
def d_is_lot : He.DefD := ⟨("is_lot", none), "is_lot", "is_lot", defArgs s_is_lot, defBody s_is_lot, defScope s_is_lot, [], []⟩
def d_need_done : He.DefD := ⟨("need_done", none), "need_done", "need_done", defArgs s_need_done, defBody s_need_done, defScope s_need_done, [], []⟩
def d_need_round : He.DefD := ⟨("need_round", none), "need_round", "need_round", defArgs s_need_round, defBody s_need_round, defScope s_need_round, [], []⟩
def d_mixture : He.DefD := ⟨("mixture", none), "mixture", "mixture", defArgs s_mixture, defBody s_mixture, defScope s_mixture, [], []⟩
def d_ways : He.DefD := ⟨("ways", none), "ways", "ways", defArgs s_ways, defBody s_ways, defScope s_ways, [], []⟩
def d_parts_of : He.DefD := ⟨("parts_of", none), "parts_of", "parts_of", defArgs s_parts_of, defBody s_parts_of, defScope s_parts_of, [], []⟩
def d_need_plan : He.DefD := ⟨("need_plan", none), "need_plan", "need_plan", defArgs s_need_plan, defBody s_need_plan, defScope s_need_plan, [], []⟩
def d_done_at : He.DefD := ⟨("done_at", none), "done_at", "done_at", defArgs s_done_at, defBody s_done_at, defScope s_done_at, [], []⟩
def d_round_at : He.DefD := ⟨("round_at", none), "round_at", "round_at", defArgs s_round_at, defBody s_round_at, defScope s_round_at, [], []⟩
def d_is_sight : He.DefD := ⟨("is_sight", none), "is_sight", "is_sight", defArgs s_is_sight, defBody s_is_sight, defScope s_is_sight, [], []⟩
def d_need_sights : He.DefD := ⟨("need_sights", none), "need_sights", "need_sights", defArgs s_need_sights, defBody s_need_sights, defScope s_need_sights, [], []⟩
def d_need_all : He.DefD := ⟨("need_all", none), "need_all", "need_all", defArgs s_need_all, defBody s_need_all, defScope s_need_all, [], []⟩
def d_is_new : He.DefD := ⟨("is_new", none), "is_new", "is_new", defArgs s_is_new, defBody s_is_new, defScope s_is_new, [], []⟩
def d_agrees : He.DefD := ⟨("agrees", none), "agrees", "agrees", defArgs s_agrees, defBody s_agrees, defScope s_agrees, [], []⟩
def d_follows : He.DefD := ⟨("follows", none), "follows", "follows", defArgs s_follows, defBody s_follows, defScope s_follows, [], []⟩
def d_all_pairs : He.DefD := ⟨("all_pairs", none), "all_pairs", "all_pairs", defArgs s_all_pairs, defBody s_all_pairs, defScope s_all_pairs, [], []⟩
def d_rows_of : He.DefD := ⟨("rows_of", none), "rows_of", "rows_of", defArgs s_rows_of, defBody s_rows_of, defScope s_rows_of, [], []⟩
def d_is_pair : He.DefD := ⟨("is_pair", none), "is_pair", "is_pair", defArgs s_is_pair, defBody s_is_pair, defScope s_is_pair, [], []⟩
def d_is_story : He.DefD := ⟨("is_story", none), "is_story", "is_story", defArgs s_is_story, defBody s_is_story, defScope s_is_story, [], []⟩
def d_story : He.DefD := ⟨("story", none), "story", "story", defArgs s_story, defBody s_story, defScope s_story, [], []⟩
def d_stages : He.DefD := ⟨("stages", none), "stages", "stages", defArgs s_stages, defBody s_stages, defScope s_stages, [], []⟩
def d_known : He.DefD := ⟨("known", none), "known", "known", defArgs s_known, defBody s_known, defScope s_known, [], []⟩
def d_clash : He.DefD := ⟨("clash", none), "clash", "clash", defArgs s_clash, defBody s_clash, defScope s_clash, [], []⟩
def d__law_begin : He.DefD := ⟨("_law_begin", none), "_law_begin", "_law_begin", defArgs s__law_begin, defBody s__law_begin, defScope s__law_begin, [], []⟩
def d__law_blend : He.DefD := ⟨("_law_blend", none), "_law_blend", "_law_blend", defArgs s__law_blend, defBody s__law_blend, defScope s__law_blend, [], []⟩
def d__law_pick : He.DefD := ⟨("_law_pick", none), "_law_pick", "_law_pick", defArgs s__law_pick, defBody s__law_pick, defScope s__law_pick, [], []⟩
def d__law_mixed : He.DefD := ⟨("_law_mixed", none), "_law_mixed", "_law_mixed", defArgs s__law_mixed, defBody s__law_mixed, defScope s__law_mixed, [], []⟩
def d__law_take : He.DefD := ⟨("_law_take", none), "_law_take", "_law_take", defArgs s__law_take, defBody s__law_take, defScope s__law_take, [], []⟩
def d__law_words : He.DefD := ⟨("_law_words", none), "_law_words", "_law_words", defArgs s__law_words, defBody s__law_words, defScope s__law_words, [], []⟩
def d__law_tree : He.DefD := ⟨("_law_tree", none), "_law_tree", "_law_tree", defArgs s__law_tree, defBody s__law_tree, defScope s__law_tree, [], []⟩
def d__law_path : He.DefD := ⟨("_law_path", none), "_law_path", "_law_path", defArgs s__law_path, defBody s__law_path, defScope s__law_path, [], []⟩
def d__law_wild : He.DefD := ⟨("_law_wild", none), "_law_wild", "_law_wild", defArgs s__law_wild, defBody s__law_wild, defScope s__law_wild, [], []⟩
def d__law_near : He.DefD := ⟨("_law_near", none), "_law_near", "_law_near", defArgs s__law_near, defBody s__law_near, defScope s__law_near, [], []⟩
def d__law_pair : He.DefD := ⟨("_law_pair", none), "_law_pair", "_law_pair", defArgs s__law_pair, defBody s__law_pair, defScope s__law_pair, [], []⟩
def d__law_model : He.DefD := ⟨("_law_model", none), "_law_model", "_law_model", defArgs s__law_model, defBody s__law_model, defScope s__law_model, [], []⟩
def d__law_net : He.DefD := ⟨("_law_net", none), "_law_net", "_law_net", defArgs s__law_net, defBody s__law_net, defScope s__law_net, [], []⟩
def d__law_moving_dots : He.DefD := ⟨("_law_moving_dots", none), "_law_moving_dots", "_law_moving_dots", defArgs s__law_moving_dots, defBody s__law_moving_dots, defScope s__law_moving_dots, [], []⟩
def d__law_plan : He.DefD := ⟨("_law_plan", none), "_law_plan", "_law_plan", defArgs s__law_plan, defBody s__law_plan, defScope s__law_plan, [], []⟩
def d__law_done_in : He.DefD := ⟨("_law_done_in", none), "_law_done_in", "_law_done_in", defArgs s__law_done_in, defBody s__law_done_in, defScope s__law_done_in, [], []⟩
def d__law_hop : He.DefD := ⟨("_law_hop", none), "_law_hop", "_law_hop", defArgs s__law_hop, defBody s__law_hop, defScope s__law_hop, [], []⟩
def d__law_moved : He.DefD := ⟨("_law_moved", none), "_law_moved", "_law_moved", defArgs s__law_moved, defBody s__law_moved, defScope s__law_moved, [], []⟩
def d_law : He.DefD := ⟨("law", none), "law", "law", defArgs s_law, defBody s_law, defScope s_law, [], []⟩
def d_init : He.DefD := ⟨("Net", some "__init__"), "__init__", "Net.__init__", defArgs s_init, defBody s_init, defScope s_init, [.adr (He.dflAt ("Net", some "__init__") 0), .adr (He.dflAt ("Net", some "__init__") 1)], []⟩
def d_does_change : He.DefD := ⟨("Net", some "does_change"), "does_change", "Net.does_change", defArgs s_does_change, defBody s_does_change, defScope s_does_change, [], []⟩
def fnA : List He.DefD := [d_is_number, d_is_list, d_is_name, d_are_names, d_is_place, d_is_table, d_nodes_of, d_are_tables, d_are_nodes, d_ordered, d_need_net, d_need_goal, d_is_lot, d_need_done, d_need_round, d_mixture, d_ways, d_parts_of, d_need_plan, d_done_at, d_round_at, d_is_sight, d_need_sights, d_need_all, d_is_new, d_agrees, d_follows, d_all_pairs, d_rows_of, d_is_pair]
def fnB : List He.DefD := [d_is_story, d_story, d_stages, d_known, d_clash, d__law_begin, d__law_blend, d__law_pick, d__law_mixed, d__law_take, d__law_words, d__law_tree, d__law_path, d__law_wild, d__law_near, d__law_pair, d__law_model, d__law_net, d__law_moving_dots, d__law_plan, d__law_done_in, d__law_hop, d__law_moved, d_law, d_init, d_does_change]
def fn : List He.DefD := fnA ++ fnB
def faA : List He.Fa := [.glo "is_number", .glo "is_list", .glo "is_name", .glo "are_names", .glo "is_place", .glo "is_table", .glo "nodes_of", .glo "are_tables", .glo "are_nodes", .glo "ordered", .glo "need_net", .glo "need_goal", .glo "is_lot", .glo "need_done", .glo "need_round", .glo "mixture", .glo "ways", .glo "parts_of", .glo "need_plan", .glo "done_at", .glo "round_at", .glo "is_sight", .glo "need_sights", .glo "need_all", .glo "is_new", .glo "agrees", .glo "follows", .glo "all_pairs", .glo "rows_of", .glo "is_pair"]
def faB : List He.Fa := [.glo "is_story", .glo "story", .glo "stages", .glo "known", .glo "clash", .glo "_law_begin", .glo "_law_blend", .glo "_law_pick", .glo "_law_mixed", .glo "_law_take", .glo "_law_words", .glo "_law_tree", .glo "_law_path", .glo "_law_wild", .glo "_law_near", .glo "_law_pair", .glo "_law_model", .glo "_law_net", .glo "_law_moving_dots", .glo "_law_plan", .glo "_law_done_in", .glo "_law_hop", .glo "_law_moved", .glo "law", .glo "Net", .free "isinstance", .free "int", .free "bool", .free "list", .free "tuple"]
def faC : List He.Fa := [.free "str", .free "len", .free "all", .free "any", .free "dict", .free "sorted", .free "min", .free "set", .free "range", .free "zip", .free "enumerate", .free "abs", .int "LONGEST" 6, .int "MOST_GOALS" 2, .int "MOST_NODES" 6, .int "MOST_POSTS" 2, .int "MOST_SIGHTS" 12, .str "LETTERS" "abcdefghijklmnopqrstuvwxyz", .cls "Net", .noat "Net" "own_tables", .noat "Net" "own_goals", .noat "Net" "own_nodes", .noat "Net" "own_sources", .noat "Net" "own_posts", .noat "Net" "own_changing", .meth "Net" "does_change", .mkr "Net"]
def fa : List He.Fa := faA ++ faB ++ faC
def insB (K : PySem.W.Frag) : Bool := let C := He.ga K "Net"
  He.eqO (PySem.W.findIn K (.ref C) "__class__") (some (some (.builtin "object.__class__"))) &&
  (He.eqO (PySem.W.specialIn K (.builtin "object.__class__") "__get__") (some (some (.builtin "getset_descriptor.__get__"))) &&
  (decide (PySem.W.takesIn K (.builtin "object.__class__") = some true) && (decide (PySem.W.mroIn K C (.type "object") = some true) && decide (PySem.W.kitOne K (.ref C) (.ref C) = some true))))
abbrev R : PySem.W.OpenRow := PySem.W.OpenLaw.row PySem.Challenge.rw_roundways_k62_whole_sights_of_moving_pac
abbrev hk : PySem.W.Hook := He.hookX 5 fa fn [] [] insB
def ob (s : PySem.W.SharedT) : He.AlX := He.obsX 5 fa fn [] [] insB (HandSHeadRun.getT s)
theorem ob_eq (s : PySem.W.SharedT) : ob s = hk.obs s.abs := He.obsX_eq (HandSHeadRun.getT_eq s)
def nmA : List Str := [("_wall" : Str), ("WayError" : Str), ("BadNet" : Str), ("NoGoal" : Str), ("NoNode" : Str), ("BadLot" : Str), ("BadPlan" : Str), ("BadSights" : Str), ("LETTERS" : Str), ("LONGEST" : Str), ("MOST_GOALS" : Str), ("MOST_NODES" : Str), ("MOST_POSTS" : Str), ("is_number" : Str), ("is_list" : Str), ("is_name" : Str), ("are_names" : Str), ("is_place" : Str), ("is_table" : Str), ("nodes_of" : Str), ("are_tables" : Str), ("are_nodes" : Str), ("ordered" : Str), ("Net" : Str), ("need_net" : Str), ("need_goal" : Str), ("need_node" : Str), ("is_lot" : Str), ("need_done" : Str), ("need_round" : Str), ("mixture" : Str), ("ways" : Str), ("parts_of" : Str), ("need_plan" : Str), ("done_at" : Str)]
def nmB : List Str := [("round_at" : Str), ("MOST_SIGHTS" : Str), ("is_sight" : Str), ("need_sights" : Str), ("need_all" : Str), ("is_new" : Str), ("agrees" : Str), ("follows" : Str), ("all_pairs" : Str), ("rows_of" : Str), ("is_pair" : Str), ("is_story" : Str), ("story" : Str), ("stages" : Str), ("known" : Str), ("clash" : Str), ("_law_begin" : Str), ("_law_blend" : Str), ("_law_pick" : Str), ("_law_mixed" : Str), ("_law_take" : Str), ("_law_words" : Str), ("_law_tree" : Str), ("_law_path" : Str), ("_law_wild" : Str), ("_law_near" : Str), ("_law_pair" : Str), ("_law_model" : Str), ("_law_net" : Str), ("_law_moving_dots" : Str), ("_law_plan" : Str), ("_law_done_in" : Str), ("_law_hop" : Str), ("_law_moved" : Str)]
def nm : List Str := nmA ++ nmB
theorem run (w : World) : HandSHeadRun.RunEq R (PySem.W.view R.prog [76]) hk ob 12000 nm w := by
  intro os
  kernel_rfl
end K62

end

section
set_option Elab.async false
set_option linter.all false
set_option maxRecDepth 100000
set_option maxHeartbeats 4000000
/-! worlds, representations -/
namespace K62
open PySem PySem.Spec PyProof.Rows L2

/-- what an object reads as -/
def strip : HO → HO
  | .frz _ (.dK k) => .dK k
  | .frz _ (.lst l) => .lst l
  | o => o
def rd (H : Hp) (a : Addr) : Option HO := (H a).map strip
theorem rd_none {H : Hp} {a : Addr} : rd H a = none ↔ H a = none := by
  unfold rd; cases H a <;> simp
theorem rd_some {H : Hp} {a : Addr} {o : HO} (h : rd H a = some o) : H a ≠ none := fun e => by
  rw [rd_none.mpr e] at h; cases h
theorem rd_of {H : Hp} {a : Addr} {o : HO} (h : H a = some o) : rd H a = some (strip o) := by unfold rd; rw [h]; rfl
theorem rd_lst {H : Hp} {a : Addr} {xs : List V} (h : rd H a = some (.lst xs)) : Rd H a (.lst xs) := by
  unfold rd at h
  cases e : H a with
  | none => rw [e] at h; cases h
  | some o =>
    rw [e] at h
    have h1 : strip o = .lst xs := Option.some.inj h
    cases o with
    | frz ob u =>
      cases u with
      | lst ys => cases h1; exact .inr ⟨ob, e⟩
      | _ => cases h1
    | lst ys => cases h1; exact .inl e
    | _ => cases h1
theorem rd_dK {H : Hp} {a : Addr} {k : List (Key × V)} (h : rd H a = some (.dK k)) : Rd H a (.dK k) := by
  unfold rd at h
  cases e : H a with
  | none => rw [e] at h; cases h
  | some o =>
    rw [e] at h
    have h1 : strip o = .dK k := Option.some.inj h
    cases o with
    | frz ob u =>
      cases u with
      | dK ys => cases h1; exact .inr ⟨ob, e⟩
      | _ => cases h1
    | dK ys => cases h1; exact .inl e
    | _ => cases h1
theorem rd_tup {H : Hp} {a : Addr} {xs : List V} (h : rd H a = some (.tup xs)) : H a = some (.tup xs) := by
  unfold rd at h
  cases e : H a with
  | none => rw [e] at h; cases h
  | some o =>
    rw [e] at h
    have h1 : strip o = .tup xs := Option.some.inj h
    cases o with
    | frz ob u => cases u <;> cases h1
    | tup ys => cases h1; rfl
    | _ => cases h1
theorem rd_ins {H : Hp} {a C dx : Addr} {fs : List (Str × V)} (h : rd H a = some (.ins C dx fs)) : H a = some (.ins C dx fs) := by
  unfold rd at h
  cases e : H a with
  | none => rw [e] at h; cases h
  | some o =>
    rw [e] at h
    have h1 : strip o = .ins C dx fs := Option.some.inj h
    cases o with
    | frz ob u => cases u <;> cases h1
    | ins _ _ _ => cases h1; rfl
    | _ => cases h1
theorem rd_l {H : Hp} {a : Addr} {xs : List V} (h : H a = some (.lst xs)) : rd H a = some (.lst xs) := rd_of h
theorem rd_t {H : Hp} {a : Addr} {xs : List V} (h : H a = some (.tup xs)) : rd H a = some (.tup xs) := rd_of h
theorem rd_d {H : Hp} {a : Addr} {k : List (Key × V)} (h : H a = some (.dK k)) : rd H a = some (.dK k) := rd_of h
theorem rd_upd_ne {H : Hp} {a b : Addr} {o : HO} (h : b ≠ a) : rd (upd H a o) b = rd H b := by unfold rd; rw [upd_ne h]
theorem rd_upd {H : Hp} {a : Addr} {o : HO} : rd (upd H a o) a = some (strip o) := by unfold rd; rw [upd_same]; rfl
theorem sqL_of {K : PySem.W.Frag} {H : Hp} {a : Addr} {xs : List V} (h : rd H a = some (.lst xs)) : SqL K H a xs := .inl (rd_lst h)
theorem sqT_of {K : PySem.W.Frag} {H : Hp} {a : Addr} {xs : List V} (h : rd H a = some (.tup xs)) : SqT K H a xs := .inl (.inl (rd_tup h))

/-- a world: the addresses that may change, and what holds there -/
structure Wd where
  M : Addr → Prop
  I : Hp → Prop
  al : ∀ {H a}, I H → M a → H a ≠ none
  fp : ∀ {H H1}, (∀ a, M a → H1 a = H a) → I H → I H1
def w0 : Wd := ⟨fun _ => False, fun _ => True, fun _ h => h.elim, fun _ _ => trivial⟩

structure Ext (W : Wd) (H H1 : Hp) : Prop where
  keep : ∀ a o, H a = some o → ¬ W.M a → H1 a = some o
  free : ∀ a, H1 a = none → H a = none
  inv : W.I H1
theorem Ext.refl {W : Wd} {H : Hp} (h : W.I H) : Ext W H H := ⟨fun _ _ h _ => h, fun _ h => h, h⟩
theorem Ext.trans {W : Wd} {H H1 H2 : Hp} (a : Ext W H H1) (b : Ext W H1 H2) : Ext W H H2 :=
  ⟨fun x o h n => b.keep x o (a.keep x o h n) n, fun x h => a.free x (b.free x h), b.inv⟩
theorem Wd.fresh {W : Wd} {H : Hp} {p : Addr} (hi : W.I H) (hp : H p = none) : ¬ W.M p := fun m => W.al hi m hp
theorem Ext.new {W : Wd} {H : Hp} {p : Addr} {o : HO} (hi : W.I H) (hp : H p = none) : Ext W H (upd H p o) where
  keep := fun a u h n => by rw [upd_ne (fun e => by rw [e, hp] at h; cases h)]; exact h
  free := fun a h => by
    by_cases e : a = p
    · rw [e]; exact hp
    · rw [upd_ne e] at h; exact h
  inv := W.fp (fun a m => upd_ne (fun e => by subst e; exact W.al hi m hp)) hi
/-- a write at an address that may change -/
theorem Ext.mut {W : Wd} {H : Hp} {p : Addr} {o : HO} (hp : W.M p) (hi : W.I (upd H p o)) : Ext W H (upd H p o) where
  keep := fun a u h n => by rw [upd_ne (fun e => n (by rw [e]; exact hp))]; exact h
  free := fun a h => by
    by_cases e : a = p
    · subst e; rw [upd_same] at h; cases h
    · rw [upd_ne e] at h; exact h
  inv := hi

/-- the world with some further addresses and their contents -/
def Wd.adds (W : Wd) (ow : List (Addr × HO)) : Wd where
  M := fun a => W.M a ∨ ∃ p ∈ ow, p.1 = a
  I := fun H => W.I H ∧ ∀ p ∈ ow, H p.1 = some p.2
  al := fun hi m e => by
    rcases m with m | ⟨p, hp, rfl⟩
    · exact W.al hi.1 m e
    · rw [hi.2 p hp] at e; cases e
  fp := fun h hi => ⟨W.fp (fun a m => h a (.inl m)) hi.1, fun p hp => by rw [h p.1 (.inr ⟨p, hp, rfl⟩)]; exact hi.2 p hp⟩
theorem nin_ow {ow : List (Addr × HO)} {H0 : Hp} (h0 : ∀ p ∈ ow, H0 p.1 = none) {a : Addr} (h : H0 a ≠ none) : ¬ ∃ p ∈ ow, p.1 = a := fun ⟨p, hp, e⟩ => h (by rw [← e]; exact h0 p hp)
theorem Ext.weak {W : Wd} {ow : List (Addr × HO)} {H H1 : Hp} {H0 : Hp} (h0 : ∀ p ∈ ow, H0 p.1 = none) (e0 : Ext W H0 H) (e : Ext (W.adds ow) H H1) : Ext W H0 H1 where
  keep := fun a o h n => e.keep a o (e0.keep a o h n) (fun m => m.elim n (nin_ow h0 (by rw [h]; exact fun z => by cases z)))
  free := fun a h => e0.free a (e.free a h)
  inv := e.inv.1

/-- all that could be read and does not change is read still, and does not change -/
def Agr (W1 : Wd) (H1 : Hp) (W2 : Wd) (H2 : Hp) : Prop := ∀ a o, rd H1 a = some o → ¬ W1.M a → ¬ W2.M a ∧ rd H2 a = some o
/-- .. as it stands -/
def AgrX (W1 : Wd) (H1 : Hp) (W2 : Wd) (H2 : Hp) : Prop := ∀ a o, H1 a = some o → ¬ W1.M a → ¬ W2.M a ∧ H2 a = some o
theorem AgrX.agr {W1 W2 : Wd} {H1 H2 : Hp} (h : AgrX W1 H1 W2 H2) : Agr W1 H1 W2 H2 := fun a o e n => by
  unfold rd at e
  cases q : H1 a with
  | none => rw [q] at e; cases e
  | some u =>
    obtain ⟨n2, h2⟩ := h a u q n
    exact ⟨n2, by unfold rd; rw [h2]; rw [q] at e; exact e⟩
theorem Agr.trans {W1 W2 W3 : Wd} {H1 H2 H3 : Hp} (a : Agr W1 H1 W2 H2) (b : Agr W2 H2 W3 H3) : Agr W1 H1 W3 H3 := fun x o h n =>
  let ⟨n2, h2⟩ := a x o h n; b x o h2 n2
theorem AgrX.trans {W1 W2 W3 : Wd} {H1 H2 H3 : Hp} (a : AgrX W1 H1 W2 H2) (b : AgrX W2 H2 W3 H3) : AgrX W1 H1 W3 H3 := fun x o h n =>
  let ⟨n2, h2⟩ := a x o h n; b x o h2 n2
theorem Ext.agrX {W : Wd} {H H1 : Hp} (e : Ext W H H1) : AgrX W H W H1 := fun a o h n => ⟨n, e.keep a o h n⟩
theorem Ext.agr {W : Wd} {H H1 : Hp} (e : Ext W H H1) : Agr W H W H1 := e.agrX.agr
theorem AgrX.into {W : Wd} {H H1 : Hp} {ow : List (Addr × HO)} (h0 : ∀ p ∈ ow, H p.1 = none) (e : Ext W H H1) : AgrX W H (W.adds ow) H1 := fun a o h n =>
  ⟨fun m => m.elim n (nin_ow h0 (by rw [h]; exact fun z => by cases z)), e.keep a o h n⟩
theorem Agr.into {W : Wd} {H H1 : Hp} {ow : List (Addr × HO)} (h0 : ∀ p ∈ ow, H p.1 = none) (e : Ext W H H1) : Agr W H (W.adds ow) H1 := (AgrX.into h0 e).agr
theorem Agr.out {W : Wd} {H : Hp} {ow : List (Addr × HO)} : Agr (W.adds ow) H W H := fun a o h n => ⟨fun m => n (.inl m), h⟩
theorem Agr.refl {W : Wd} {H : Hp} : Agr W H W H := fun a o h n => ⟨n, h⟩
theorem AgrX.refl {W : Wd} {H : Hp} : AgrX W H W H := fun a o h n => ⟨n, h⟩
/-- the same is read -/
def SameR (H H1 : Hp) : Prop := ∀ a, rd H1 a = rd H a
theorem SameR.agr {W : Wd} {H H1 : Hp} (h : SameR H H1) : Agr W H W H1 := fun a o e n => ⟨n, by rw [h a]; exact e⟩

/-- how values stand for plain data -/
structure RepT (α : Type) where
  r : Wd → Hp → V → α → Prop
  mono : ∀ {W H H1 v x}, Ext W H H1 → r W H v x → r W H1 v x
  into : ∀ {W H H1 ow v x}, W.I H → (∀ p ∈ ow, H p.1 = none) → Ext W H H1 → (W.adds ow).I H1 → r W H v x → r (W.adds ow) H1 v x
  lock : ∀ {W H H1 v x}, SameR H H1 → r W H v x → r W H1 v x
class Plain {α : Type} (R : RepT α) : Prop where
  pl : ∀ {W1 W2 H1 H2 v x}, Agr W1 H1 W2 H2 → R.r W1 H1 v x → R.r W2 H2 v x
def RepT.ofPl {α : Type} (r : Wd → Hp → V → α → Prop) (pl : ∀ {W1 W2 H1 H2 v x}, Agr W1 H1 W2 H2 → r W1 H1 v x → r W2 H2 v x) : RepT α where
  r := r
  mono := fun e h => pl e.agr h
  into := fun _ h0 e _ h => pl (Agr.into h0 e) h
  lock := fun s h => pl s.agr h

/-! ### flat ones -/
def rF {α : Type} (f : α → V) : RepT α := RepT.ofPl (fun _ _ v x => v = f x) fun _ h => h
instance {α : Type} (f : α → V) : Plain (rF f) := ⟨fun _ h => h⟩
def oV : Option Str → V
  | none => .non
  | some s => .str s
abbrev rS : RepT Str := rF V.str
abbrev rI : RepT Int := rF V.int
abbrev rNat : RepT Nat := rF fun n => V.int n
abbrev rB : RepT Bool := rF V.bl
abbrev rO : RepT (Option Str) := rF oV
abbrev rN : RepT Unit := rF fun _ => V.non
abbrev rV : RepT V := rF id
/-! ### lists, tuples, dicts -/
theorem Paired.mp {α β : Type} {F G : α → β → Prop} {l₁ : List α} {l₂ : List β} (h : Paired F l₁ l₂) (f : ∀ a b, F a b → G a b) : Paired G l₁ l₂ := Paired.mapP h f
def rL {α : Type} (R : RepT α) [Plain R] : RepT (List α) := RepT.ofPl (fun W H v xs => ∃ a us, v = .ref a ∧ ¬ W.M a ∧ rd H a = some (.lst us) ∧ Paired (R.r W H) us xs)
  fun {_ _ _ _ _ _} ag ⟨a, us, e, n, h, p⟩ => let ⟨n2, h2⟩ := ag a _ h n; ⟨a, us, e, n2, h2, Paired.mp p fun _ _ q => Plain.pl ag q⟩
instance {α : Type} (R : RepT α) [Plain R] : Plain (rL R) := ⟨fun {_ _ _ _ _ _} ag ⟨a, us, e, n, h, p⟩ => let ⟨n2, h2⟩ := ag a _ h n; ⟨a, us, e, n2, h2, Paired.mp p fun _ _ q => Plain.pl ag q⟩⟩
def rT {α : Type} (R : RepT α) [Plain R] : RepT (List α) := RepT.ofPl (fun W H v xs => ∃ a us, v = .ref a ∧ ¬ W.M a ∧ rd H a = some (.tup us) ∧ Paired (R.r W H) us xs)
  fun {_ _ _ _ _ _} ag ⟨a, us, e, n, h, p⟩ => let ⟨n2, h2⟩ := ag a _ h n; ⟨a, us, e, n2, h2, Paired.mp p fun _ _ q => Plain.pl ag q⟩
instance {α : Type} (R : RepT α) [Plain R] : Plain (rT R) := ⟨fun {_ _ _ _ _ _} ag ⟨a, us, e, n, h, p⟩ => let ⟨n2, h2⟩ := ag a _ h n; ⟨a, us, e, n2, h2, Paired.mp p fun _ _ q => Plain.pl ag q⟩⟩
def rP {α β : Type} (R : RepT α) (S : RepT β) [Plain R] [Plain S] : RepT (α × β) := RepT.ofPl (fun W H v x => ∃ a u w, v = .ref a ∧ ¬ W.M a ∧ rd H a = some (.tup [u, w]) ∧ R.r W H u x.1 ∧ S.r W H w x.2)
  fun {_ _ _ _ _ _} ag ⟨a, u, w, e, n, h, p, q⟩ => let ⟨n2, h2⟩ := ag a _ h n; ⟨a, u, w, e, n2, h2, Plain.pl ag p, Plain.pl ag q⟩
instance {α β : Type} (R : RepT α) (S : RepT β) [Plain R] [Plain S] : Plain (rP R S) := ⟨fun {_ _ _ _ _ _} ag ⟨a, u, w, e, n, h, p, q⟩ => let ⟨n2, h2⟩ := ag a _ h n; ⟨a, u, w, e, n2, h2, Plain.pl ag p, Plain.pl ag q⟩⟩
def rQ {α β γ : Type} (R : RepT α) (S : RepT β) (T : RepT γ) [Plain R] [Plain S] [Plain T] : RepT (α × β × γ) := RepT.ofPl (fun W H v x => ∃ a u w z, v = .ref a ∧ ¬ W.M a ∧ rd H a = some (.tup [u, w, z]) ∧ R.r W H u x.1 ∧ S.r W H w x.2.1 ∧ T.r W H z x.2.2)
  fun {_ _ _ _ _ _} ag ⟨a, u, w, z, e, n, h, p, q, t⟩ => let ⟨n2, h2⟩ := ag a _ h n; ⟨a, u, w, z, e, n2, h2, Plain.pl ag p, Plain.pl ag q, Plain.pl ag t⟩
instance {α β γ : Type} (R : RepT α) (S : RepT β) (T : RepT γ) [Plain R] [Plain S] [Plain T] : Plain (rQ R S T) := ⟨fun {_ _ _ _ _ _} ag ⟨a, u, w, z, e, n, h, p, q, t⟩ => let ⟨n2, h2⟩ := ag a _ h n; ⟨a, u, w, z, e, n2, h2, Plain.pl ag p, Plain.pl ag q, Plain.pl ag t⟩⟩
/-- entries of a dict with text keys -/
def DEnt {α : Type} (R : RepT α) (W : Wd) (H : Hp) (kv : Key × V) (x : Str × α) : Prop := kv.1 = .inr x.1 ∧ R.r W H kv.2 x.2
def rD {α : Type} (R : RepT α) [Plain R] : RepT (List (Str × α)) := RepT.ofPl (fun W H v xs => ∃ a us, v = .ref a ∧ ¬ W.M a ∧ rd H a = some (.dK us) ∧ Paired (DEnt R W H) us xs)
  fun {_ _ _ _ _ _} ag ⟨a, us, e, n, h, p⟩ => let ⟨n2, h2⟩ := ag a _ h n; ⟨a, us, e, n2, h2, Paired.mp p fun _ _ q => ⟨q.1, Plain.pl ag q.2⟩⟩
instance {α : Type} (R : RepT α) [Plain R] : Plain (rD R) := ⟨fun {_ _ _ _ _ _} ag ⟨a, us, e, n, h, p⟩ => let ⟨n2, h2⟩ := ag a _ h n; ⟨a, us, e, n2, h2, Paired.mp p fun _ _ q => ⟨q.1, Plain.pl ag q.2⟩⟩⟩
/-- None or something else -/
def rU {α : Type} (R : RepT α) [Plain R] : RepT (Option α) := RepT.ofPl (fun W H v x => match x with | none => v = .non | some y => v ≠ .non ∧ R.r W H v y)
  fun {_ _ _ _ _ x} ag h => match x, h with | none, h => h | some _, h => ⟨h.1, Plain.pl ag h.2⟩
instance {α : Type} (R : RepT α) [Plain R] : Plain (rU R) := ⟨fun {_ _ _ _ _ x} ag h => match x, h with | none, h => h | some _, h => ⟨h.1, Plain.pl ag h.2⟩⟩

/-! ### containers of one's own, whose contents the world tells -/
def rOL {α : Type} (R : RepT α) : RepT (List α) where
  r := fun W H v xs => ∃ a us, v = .ref a ∧ W.M a ∧ (∀ H', W.I H' → H' a = some (.lst us)) ∧ Paired (R.r W H) us xs
  mono := fun {_ _ _ _ _} e ⟨a, us, ev, m, h, p⟩ => ⟨a, us, ev, m, h, Paired.mp p fun _ _ q => R.mono e q⟩
  into := fun {_ _ _ _ _ _} hi h0 e hi2 ⟨a, us, ev, m, h, p⟩ => ⟨a, us, ev, .inl m, fun H' q => h H' q.1, Paired.mp p fun _ _ q => R.into hi h0 e hi2 q⟩
  lock := fun {_ _ _ _ _} s ⟨a, us, ev, m, h, p⟩ => ⟨a, us, ev, m, h, Paired.mp p fun _ _ q => R.lock s q⟩
def rOD {α : Type} (R : RepT α) : RepT (List (Str × α)) where
  r := fun W H v xs => ∃ a us, v = .ref a ∧ W.M a ∧ (∀ H', W.I H' → H' a = some (.dK us)) ∧ Paired (DEnt R W H) us xs
  mono := fun {_ _ _ _ _} e ⟨a, us, ev, m, h, p⟩ => ⟨a, us, ev, m, h, Paired.mp p fun _ _ q => ⟨q.1, R.mono e q.2⟩⟩
  into := fun {_ _ _ _ _ _} hi h0 e hi2 ⟨a, us, ev, m, h, p⟩ => ⟨a, us, ev, .inl m, fun H' q => h H' q.1, Paired.mp p fun _ _ q => ⟨q.1, R.into hi h0 e hi2 q.2⟩⟩
  lock := fun {_ _ _ _ _} s ⟨a, us, ev, m, h, p⟩ => ⟨a, us, ev, m, h, Paired.mp p fun _ _ q => ⟨q.1, R.lock s q.2⟩⟩
/-- a list that can be read -/
class LikeL {α : Type} (RL : RepT (List α)) (R : outParam (RepT α)) : Prop where
  rd : ∀ {W H v xs}, W.I H → RL.r W H v xs → ∃ a us, v = .ref a ∧ rd H a = some (.lst us) ∧ Paired (R.r W H) us xs
instance {α : Type} (R : RepT α) [Plain R] : LikeL (rL R) R := ⟨fun _ ⟨a, us, e, _, h, p⟩ => ⟨a, us, e, h, p⟩⟩
instance {α : Type} (R : RepT α) : LikeL (rOL R) R := ⟨fun hi ⟨a, us, e, _, h, p⟩ => ⟨a, us, e, rd_l (h _ hi), p⟩⟩
class LikeD {α : Type} (RD : RepT (List (Str × α))) (R : outParam (RepT α)) : Prop where
  rd : ∀ {W H v xs}, W.I H → RD.r W H v xs → ∃ a us, v = .ref a ∧ rd H a = some (.dK us) ∧ Paired (DEnt R W H) us xs
instance {α : Type} (R : RepT α) [Plain R] : LikeD (rD R) R := ⟨fun _ ⟨a, us, e, _, h, p⟩ => ⟨a, us, e, h, p⟩⟩
instance {α : Type} (R : RepT α) : LikeD (rOD R) R := ⟨fun hi ⟨a, us, e, _, h, p⟩ => ⟨a, us, e, rd_d (h _ hi), p⟩⟩

/-! ### slots -/
structure Slot where
  {α : Type}
  R : RepT α
  x : α
abbrev ECtx := List (Option Slot)
structure HoldsE (W : Wd) (H : Hp) (σ : L2.St) (Γ : ECtx) : Prop where
  len : σ.length = Γ.length
  sl : ∀ (i : Nat) (g : Slot), Γ[i]? = some (some g) → ∃ v, σ[i]? = some (some v) ∧ g.R.r W H v g.x
inductive SlotsOk (W : Wd) (H : Hp) : List V → List Slot → Prop
  | nil : SlotsOk W H [] []
  | cons {v : V} {vs : List V} {g : Slot} {gs : List Slot} : g.R.r W H v g.x → SlotsOk W H vs gs → SlotsOk W H (v :: vs) (g :: gs)
theorem SlotsOk.mono {W : Wd} {H H1 : Hp} (e : Ext W H H1) : ∀ {vs : List V} {gs : List Slot}, SlotsOk W H vs gs → SlotsOk W H1 vs gs
  | _, _, .nil => .nil
  | _, _, .cons h t => .cons (RepT.mono _ e h) (SlotsOk.mono e t)
theorem SlotsOk.length {W : Wd} {H : Hp} : ∀ {vs : List V} {gs : List Slot}, SlotsOk W H vs gs → vs.length = gs.length
  | _, _, .nil => rfl
  | _, _, .cons _ t => congrArg Nat.succ (SlotsOk.length t)
theorem HoldsE.mono {W : Wd} {H H1 : Hp} {σ : L2.St} {Γ : ECtx} (e : Ext W H H1) (h : HoldsE W H σ Γ) : HoldsE W H1 σ Γ :=
  ⟨h.len, fun i g q => let ⟨v, e1, r⟩ := h.sl i g q; ⟨v, e1, g.R.mono e r⟩⟩
theorem HoldsE.into {W : Wd} {H H1 : Hp} {ow : List (Addr × HO)} {σ : L2.St} {Γ : ECtx} (hi : W.I H) (h0 : ∀ p ∈ ow, H p.1 = none) (e : Ext W H H1) (hi2 : (W.adds ow).I H1) (h : HoldsE W H σ Γ) : HoldsE (W.adds ow) H1 σ Γ :=
  ⟨h.len, fun i g q => let ⟨v, e1, r⟩ := h.sl i g q; ⟨v, e1, g.R.into hi h0 e hi2 r⟩⟩
theorem HoldsE.lock {W : Wd} {H H1 : Hp} {σ : L2.St} {Γ : ECtx} (s : SameR H H1) (h : HoldsE W H σ Γ) : HoldsE W H1 σ Γ :=
  ⟨h.len, fun i g q => let ⟨v, e1, r⟩ := h.sl i g q; ⟨v, e1, g.R.lock s r⟩⟩
theorem HoldsE.set {W : Wd} {H : Hp} {σ : L2.St} {Γ : ECtx} {i : Nat} {v : V} {g : Slot} (h : HoldsE W H σ Γ) (r : g.R.r W H v g.x) : HoldsE W H (σ.set i (some v)) (Γ.set i (some g)) := by
  refine ⟨by rw [List.length_set, List.length_set]; exact h.len, fun j g' q => ?_⟩
  by_cases e : i = j
  · subst e
    by_cases hl : i < Γ.length
    · rw [List.getElem?_set_self hl] at q
      cases q
      exact ⟨v, List.getElem?_set_self (by rw [h.len]; exact hl), r⟩
    · rw [List.getElem?_eq_none (by rw [List.length_set]; omega)] at q; cases q
  · rw [List.getElem?_set_ne e] at q
    obtain ⟨w, e1, r1⟩ := h.sl j g' q
    exact ⟨w, by rw [List.getElem?_set_ne e]; exact e1, r1⟩
def wipeC (Γ : ECtx) : List Nat → ECtx
  | [] => Γ
  | v :: vs => (wipeC Γ vs).set v none
theorem wipeC_len (Γ : ECtx) : ∀ vs, (wipeC Γ vs).length = Γ.length
  | [] => rfl
  | v :: vs => by unfold wipeC; rw [List.length_set, wipeC_len Γ vs]
theorem wipe_at {σ : L2.St} {i : Nat} : ∀ {vs : List Nat}, i ∉ vs → (wipe σ vs)[i]? = σ[i]?
  | [], _ => rfl
  | v :: vs, h => by
    unfold wipe
    rw [List.getElem?_set_ne (fun e => h (by rw [e]; exact List.mem_cons_self))]
    exact wipe_at fun m => h (List.mem_cons_of_mem _ m)
theorem wipeC_at {Γ : ECtx} {i : Nat} {g : Slot} : ∀ {vs : List Nat}, (wipeC Γ vs)[i]? = some (some g) → Γ[i]? = some (some g) ∧ i ∉ vs
  | [], h => ⟨h, by simp⟩
  | v :: vs, h => by
    unfold wipeC at h
    by_cases e : v = i
    · subst e
      by_cases hl : v < (wipeC Γ vs).length
      · rw [List.getElem?_set_self hl] at h; cases h
      · rw [List.getElem?_eq_none (by rw [List.length_set]; omega)] at h; cases h
    · rw [List.getElem?_set_ne e] at h
      obtain ⟨h1, h2⟩ := wipeC_at h
      exact ⟨h1, fun m => (List.mem_cons.mp m).elim (fun q => e q.symm) h2⟩
theorem HoldsE.wipe {W : Wd} {H : Hp} {σ : L2.St} {Γ : ECtx} (h : HoldsE W H σ Γ) (vs : List Nat) : HoldsE W H (wipe σ vs) (wipeC Γ vs) := by
  refine ⟨by rw [wipe_length, wipeC_len]; exact h.len, fun i g q => ?_⟩
  obtain ⟨q1, q2⟩ := wipeC_at q
  obtain ⟨v, e, r⟩ := h.sl i g q1
  exact ⟨v, by rw [wipe_at q2]; exact e, r⟩
/-- several slots set -/
def setA (σ : L2.St) : List Nat → List V → L2.St
  | i :: is, v :: vs => setA (σ.set i (some v)) is vs
  | _, _ => σ
def setC (Γ : ECtx) : List (Nat × Slot) → ECtx
  | [] => Γ
  | (i, g) :: r => setC (Γ.set i (some g)) r
theorem HoldsE.setA {W : Wd} {H : Hp} : ∀ {ups : List (Nat × Slot)} {vs : List V} {σ : L2.St} {Γ : ECtx}, HoldsE W H σ Γ → SlotsOk W H vs (ups.map (·.2)) → HoldsE W H (setA σ (ups.map (·.1)) vs) (setC Γ ups)
  | [], _, σ, Γ, h, .nil => h
  | (i, g) :: r, v :: vs, σ, Γ, h, .cons a t => HoldsE.setA (ups := r) (h.set a) t
theorem wipe_set_in {σ : L2.St} {i : Nat} {x : Option V} : ∀ {vs : List Nat}, i ∈ vs → wipe (σ.set i x) vs = wipe σ vs
  | v :: vs, h => by
    unfold wipe
    by_cases e : i = v
    · subst e
      by_cases m : i ∈ vs
      · rw [wipe_set_in m]
      · rw [wipe_set_out m, List.set_set]
    · rw [wipe_set_in ((List.mem_cons.mp h).resolve_left e)]
where wipe_set_out {σ : L2.St} {i : Nat} {x : Option V} : ∀ {vs : List Nat}, i ∉ vs → wipe (σ.set i x) vs = (wipe σ vs).set i x
  | [], _ => rfl
  | v :: vs, h => by
    unfold wipe
    rw [wipe_set_out fun m => h (List.mem_cons_of_mem _ m), List.set_comm]
    exact fun e => h (by rw [e]; exact List.mem_cons_self)
theorem wipe_setA {vs : List Nat} : ∀ {is : List Nat} {us : List V} {σ : L2.St}, (∀ i ∈ is, i ∈ vs) → wipe (setA σ is us) vs = wipe σ vs
  | [], _, _, _ => by unfold setA; rfl
  | _ :: _, [], _, _ => rfl
  | i :: is, u :: us, σ, h => by
    show wipe (setA (σ.set i (some u)) is us) vs = _
    rw [wipe_setA fun j m => h j (List.mem_cons_of_mem _ m), wipe_set_in (h i List.mem_cons_self)]
theorem wipe_wipe {σ : L2.St} (vs : List Nat) : wipe (wipe σ vs) vs = wipe σ vs := by
  have key : ∀ (us : List Nat), (∀ u ∈ us, u ∈ vs) → wipe (wipe σ us) vs = wipe σ vs := by
    intro us
    induction us with
    | nil => intro _; rfl
    | cons u us ih =>
      intro h
      show wipe ((wipe σ us).set u none) vs = _
      rw [wipe_set_in (h u List.mem_cons_self), ih fun x m => h x (List.mem_cons_of_mem _ m)]
  exact key vs fun _ h => h
end K62

end

section
set_option Elab.async false
set_option linter.all false
set_option maxRecDepth 100000
set_option maxHeartbeats 4000000
/-! expressions: what they evaluate to -/
namespace K62
open PySem PySem.Spec PyProof.Rows L2

def EE {α : Type} (X : Cx) (Γ : ECtx) (e : Expr) (R : RepT α) (p : α → Prop) : Prop :=
  ∀ (W : Wd) (σ : L2.St) (H : Hp) (pins : List (Addr × Obj)) (s : Shared) (Q : VK), W.I H → HoldsE W H σ Γ → Inv X pins σ H s →
    (∀ v H1 x, Ext W H H1 → p x → R.r W H1 v x → Q v H1) → wpAny (model X.prog X.w) X.A (eval e X.env) (EP X pins σ Q) X.xe s
def ET (X : Cx) (Γ : ECtx) (e : Expr) (p : Bool → Prop) : Prop :=
  ∀ (W : Wd) (σ : L2.St) (H : Hp) (pins : List (Addr × Obj)) (s : Shared) (Q : Bool → Hp → Prop), W.I H → HoldsE W H σ Γ → Inv X pins σ H s →
    (∀ b H1, Ext W H H1 → p b → Q b H1) → wpAny (model X.prog X.w) X.A (isTrue e X.env (eval e X.env)) (TP X pins σ Q) X.xe s
abbrev EV {α : Type} (X : Cx) (Γ : ECtx) (e : Expr) (R : RepT α) (a : α) : Prop := EE X Γ e R (fun y => y = a)
abbrev TV (X : Cx) (Γ : ECtx) (e : Expr) (a : Bool) : Prop := ET X Γ e (fun y => y = a)
def te (X : Cx) (e : Expr) : TE := fun σ H Q => ∀ (pins : List (Addr × Obj)) (s : Shared), Inv X pins σ H s → wpAny (model X.prog X.w) X.A (eval e X.env) (EP X pins σ Q) X.xe s
def tt (X : Cx) (e : Expr) : TT := fun σ H Q => ∀ (pins : List (Addr × Obj)) (s : Shared), Inv X pins σ H s → wpAny (model X.prog X.w) X.A (isTrue e X.env (eval e X.env)) (TP X pins σ Q) X.xe s
section
variable {X : Cx} {Γ : ECtx} {e a b c : Expr} {α β γ δ : Type} {R : RepT α} {S : RepT β} {T : RepT γ} {U : RepT δ} {p : α → Prop} {q : β → Prop} {pos : Pos} {W : Wd} {σ : L2.St} {H : Hp}
theorem pe_te : PE X e (te X e) := ⟨fun pins s _ _ _ I h => h pins s I⟩
theorem pt_tt : PT X e (tt X e) := ⟨fun pins s _ _ _ I h => h pins s I⟩
theorem EE.te {Q : VK} (h : EE X Γ e R p) (hi : W.I H) (hh : HoldsE W H σ Γ) (q : ∀ v H1 x, Ext W H H1 → p x → R.r W H1 v x → Q v H1) : te X e σ H Q := fun pins s I => h W σ H pins s Q hi hh I q
theorem ET.tt {Q : Bool → Hp → Prop} {pb : Bool → Prop} (h : ET X Γ e pb) (hi : W.I H) (hh : HoldsE W H σ Γ) (q : ∀ b H1, Ext W H H1 → pb b → Q b H1) : tt X e σ H Q := fun pins s I => h W σ H pins s Q hi hh I q
theorem EE.of {t : TE} (h : PE X e t) (k : ∀ (W : Wd) σ H (Q : VK), W.I H → HoldsE W H σ Γ → (∀ v H1 x, Ext W H H1 → p x → R.r W H1 v x → Q v H1) → t σ H Q) : EE X Γ e R p :=
  fun W σ H pins s Q hi hh I q => h.run pins s σ H Q I (k W σ H Q hi hh q)
theorem ET.of {t : TT} {pb : Bool → Prop} (h : PT X e t) (k : ∀ (W : Wd) σ H (Q : Bool → Hp → Prop), W.I H → HoldsE W H σ Γ → (∀ b H1, Ext W H H1 → pb b → Q b H1) → t σ H Q) : ET X Γ e pb :=
  fun W σ H pins s Q hi hh I q => h.run pins s σ H Q I (k W σ H Q hi hh q)
theorem EE.imp {p' : α → Prop} (h : EE X Γ e R p) (k : ∀ x, p x → p' x) : EE X Γ e R p' := fun W σ H pins s Q hi hh I q => h W σ H pins s Q hi hh I fun v H1 x e px r => q v H1 x e (k x px) r
theorem ET.imp {p p' : Bool → Prop} (h : ET X Γ e p) (k : ∀ x, p x → p' x) : ET X Γ e p' := fun W σ H pins s Q hi hh I q => h W σ H pins s Q hi hh I fun v H1 e px => q v H1 e (k v px)
/-- another way to see the value -/
theorem EE.as (h : EE X Γ e R p) (S : RepT β) (q : β → Prop) (k : ∀ (W : Wd) H v x, W.I H → p x → R.r W H v x → ∃ y, q y ∧ S.r W H v y) : EE X Γ e S q := fun W σ H pins s Q hi hh I f =>
  h W σ H pins s Q hi hh I fun v H1 x e px r => let ⟨y, qy, ry⟩ := k W H1 v x e.inv px r; f v H1 y e qy ry
theorem EE.is {x y : α} (h : EV X Γ e R x) (k : x = y) : EV X Γ e R y := k ▸ h
theorem ET.is {x y : Bool} (h : TV X Γ e x) (k : x = y) : TV X Γ e y := k ▸ h
/-- an int that is a natural number -/
theorem EE.nat {n : Nat} (h : EV X Γ e rI (n : Int)) : EV X Γ e rNat n := h.as _ _ fun W H v x _ px r => ⟨n, rfl, by rw [px] at r; exact r⟩
theorem EE.int {n : Nat} (h : EV X Γ e rNat n) : EV X Γ e rI (n : Int) := h.as _ _ fun W H v x _ px r => ⟨(n : Int), rfl, by rw [px] at r; exact r⟩

/-! ### names and constants -/
theorem vv (i : Nat) {x : Str} {a : α} (hN : X.N[i]? = some x := by rfl) (hv : Vis X.env.scope x := by first | exact Or.inl rfl | exact Or.inr (Or.inl rfl) | exact Or.inr (Or.inr rfl)) (hG : Γ[i]? = some (some ⟨R, a⟩) := by rfl)
    (hd : (x == ("__debug__" : Str)) = false := by decide) (hcd : (x == ("__classdict__" : Str)) = false := by decide) : EV X Γ (.Name x pos) R a :=
  EE.of (pe_var hN hv hd hcd) fun W σ H Q hi hh q => let ⟨v, e, r⟩ := hh.sl i _ hG; ⟨v, e, q v H a (Ext.refl hi) rfl r⟩
theorem ee_int {i : Int} {j} : EV X Γ (.Constant (.int i) j pos) rI i := EE.of pe_int fun _ _ H _ hi _ q => q _ H i (Ext.refl hi) rfl rfl
theorem ee_nat {i : Nat} {j} : EV X Γ (.Constant (.int (i : Int)) j pos) rNat i := EE.of pe_int fun _ _ H _ hi _ q => q _ H i (Ext.refl hi) rfl rfl
theorem ee_str {z : Str} {j} : EV X Γ (.Constant (.str z) j pos) rS z := EE.of pe_str fun _ _ H _ hi _ q => q _ H z (Ext.refl hi) rfl rfl
theorem ee_bl {z : Bool} {j} : EV X Γ (.Constant (.bool z) j pos) rB z := EE.of pe_bl fun _ _ H _ hi _ q => q _ H z (Ext.refl hi) rfl rfl
theorem ee_non {j} : EV X Γ (.Constant .none j pos) rN () := EE.of pe_non fun _ _ H _ hi _ q => q _ H () (Ext.refl hi) rfl rfl
theorem ee_nonO {j} : EV X Γ (.Constant .none j pos) rO none := EE.of pe_non fun _ _ H _ hi _ q => q _ H none (Ext.refl hi) rfl rfl
theorem ee_globI {x : Str} {i : Int} (hg : Gl X x) (hm : ∃ t, X.mg x = some (.int i t)) (hd : (x == ("__debug__" : Str)) = false := by decide) : EV X Γ (.Name x pos) rI i :=
  let ⟨t, h⟩ := hm; EE.of (pe_glob (v := .int i) hg h ⟨t, rfl⟩ hd) fun _ _ H _ hi _ q => q _ H i (Ext.refl hi) rfl rfl
theorem ee_globS {x : Str} {i : Str} (hg : Gl X x) (hm : ∃ t, X.mg x = some (.str i t)) (hd : (x == ("__debug__" : Str)) = false := by decide) : EV X Γ (.Name x pos) rS i :=
  let ⟨t, h⟩ := hm; EE.of (pe_glob (v := .str i) hg h ⟨t, rfl⟩ hd) fun _ _ H _ hi _ q => q _ H i (Ext.refl hi) rfl rfl

/-! ### operators -/
/-- f of an x and a y that C joins is g x y -/
def OpE (X : Cx) (f : Value → Value → Sem Value) (Ra : RepT α) (Rb : RepT β) (R : RepT γ) (C : α → β → Prop) (g : α → β → γ) : Prop :=
  ∃ r : R2, OpR X f r ∧ ∀ (W : Wd) H x y u v (Q : VK), W.I H → Ra.r W H u x → Rb.r W H v y → C x y → (∀ z H1, Ext W H H1 → R.r W H1 z (g x y) → Q z H1) → r u v H Q
theorem ee_bin {op : Operator} {C : α → β → Prop} {g : α → β → γ} {r : γ → Prop} (ho : OpE X (binaryOp op) R S T C g) (ha : EE X Γ a R p) (hb : EE X Γ b S q) (k : ∀ x y, p x → q y → C x y ∧ r (g x y)) : EE X Γ (.BinOp a op b pos) T r := by
  obtain ⟨r2, h2, kk⟩ := ho
  refine EE.of (pe_op h2 pe_te pe_te) fun W σ H Q hi hh f => ha.te hi hh fun u H1 x e1 px rx => hb.te e1.inv (hh.mono e1) fun v H2 y e2 py ry => ?_
  exact kk W H2 x y u v Q e2.inv (R.mono e2 rx) ry (k x y px py).1 fun z H3 e3 rz => f z H3 _ ((e1.trans e2).trans e3) (k x y px py).2 rz
theorem ee_cmp {op : CmpOp} {C : α → β → Prop} {g : α → β → γ} {r : γ → Prop} (ho : OpE X (compareOp op) R S T C g) (ha : EE X Γ a R p) (hb : EE X Γ b S q) (k : ∀ x y, p x → q y → C x y ∧ r (g x y)) (hm : behindInMarks op b = false := by first | exact nomark _ | rfl | with_unfolding_all rfl) : EE X Γ (.Compare a [op] [b] pos) T r := by
  obtain ⟨r2, h2, kk⟩ := ho
  refine EE.of (pe_cmpR h2 pe_te pe_te hm) fun W σ H Q hi hh f => ha.te hi hh fun u H1 x e1 px rx => hb.te e1.inv (hh.mono e1) fun v H2 y e2 py ry => ?_
  exact kk W H2 x y u v Q e2.inv (R.mono e2 rx) ry (k x y px py).1 fun z H3 e3 rz => f z H3 _ ((e1.trans e2).trans e3) (k x y px py).2 rz
theorem et_cmp {op : CmpOp} {C : α → β → Prop} {g : α → β → Bool} {r : Bool → Prop} (ho : OpE X (compareOp op) R S rB C g) (ha : EE X Γ a R p) (hb : EE X Γ b S q) (k : ∀ x y, p x → q y → C x y ∧ r (g x y)) (hm : behindInMarks op b = false := by first | exact nomark _ | rfl | with_unfolding_all rfl) : ET X Γ (.Compare a [op] [b] pos) r := by
  obtain ⟨r2, h2, kk⟩ := ho
  refine ET.of (pt_cmpR h2 pe_te pe_te hm) fun W σ H Q hi hh f => ha.te hi hh fun u H1 x e1 px rx => hb.te e1.inv (hh.mono e1) fun v H2 y e2 py ry => ?_
  exact kk W H2 x y u v _ e2.inv (R.mono e2 rx) ry (k x y px py).1 fun z H3 e3 rz => ⟨g x y, rz, f _ H3 ((e1.trans e2).trans e3) (k x y px py).2⟩
/-- .. told by the values -/
theorem dv_bin {op : Operator} {C : α → β → Prop} {g : α → β → γ} {x : α} {y : β} (ho : OpE X (binaryOp op) R S T C g) (ha : EV X Γ a R x) (hb : EV X Γ b S y) (hc : C x y) : EV X Γ (.BinOp a op b pos) T (g x y) :=
  ee_bin ho ha hb fun _ _ h1 h2 => by subst h1 h2; exact ⟨hc, rfl⟩
theorem dv_cmp {op : CmpOp} {C : α → β → Prop} {g : α → β → γ} {x : α} {y : β} (ho : OpE X (compareOp op) R S T C g) (ha : EV X Γ a R x) (hb : EV X Γ b S y) (hc : C x y) (hm : behindInMarks op b = false := by first | exact nomark _ | rfl | with_unfolding_all rfl) : EV X Γ (.Compare a [op] [b] pos) T (g x y) :=
  ee_cmp ho ha hb (fun _ _ h1 h2 => by subst h1 h2; exact ⟨hc, rfl⟩) hm
theorem dt_cmp {op : CmpOp} {C : α → β → Prop} {g : α → β → Bool} {x : α} {y : β} (ho : OpE X (compareOp op) R S rB C g) (ha : EV X Γ a R x) (hb : EV X Γ b S y) (hc : C x y) (hm : behindInMarks op b = false := by first | exact nomark _ | rfl | with_unfolding_all rfl) : TV X Γ (.Compare a [op] [b] pos) (g x y) :=
  et_cmp ho ha hb (fun _ _ h1 h2 => by subst h1 h2; exact ⟨hc, rfl⟩) hm

abbrev CT : α → β → Prop := fun _ _ => True
theorem opI0 {f : Value → Value → Sem Value} {h : Int → Int → V} {R : RepT γ} {g : Int → Int → γ} (ho : OpR X f (rI0 h)) (hg : ∀ (W : Wd) H i j, R.r W H (h i j) (g i j)) : OpE X f rI rI R CT g :=
  ⟨_, ho, fun W H x y u v Q hi hu hv _ k => by cases hu; cases hv; exact ⟨x, y, rfl, rfl, k _ H (Ext.refl hi) (hg W H x y)⟩⟩
theorem opIC {f : Value → Value → Sem Value} {C : Int → Int → Prop} {h : Int → Int → V} {R : RepT γ} {g : Int → Int → γ} (ho : OpR X f (L2.rI C h)) (hg : ∀ (W : Wd) H i j, R.r W H (h i j) (g i j)) : OpE X f rI rI R C g :=
  ⟨_, ho, fun W H x y u v Q hi hu hv hc k => by cases hu; cases hv; exact ⟨x, y, rfl, rfl, hc, k _ H (Ext.refl hi) (hg W H x y)⟩⟩
theorem o_add : OpE X (binaryOp .Add) rI rI rI CT (fun i j => i + j) := opI0 op_add fun _ _ _ _ => rfl
theorem o_sub : OpE X (binaryOp .Sub) rI rI rI CT (fun i j => i - j) := opI0 op_sub fun _ _ _ _ => rfl
theorem o_mul : OpE X (binaryOp .Mult) rI rI rI CMul (fun i j => i * j) := opIC op_mul fun _ _ _ _ => rfl
theorem o_fdiv : OpE X (binaryOp .FloorDiv) rI rI rI CDiv (fun i j => i / j) := opIC op_fdiv fun _ _ _ _ => rfl
theorem o_mod : OpE X (binaryOp .Mod) rI rI rI (fun _ j => 0 < j) (fun i j => i % j) := opIC op_mod fun _ _ _ _ => rfl
theorem o_pow : OpE X (binaryOp .Pow) rI rI rI CPow (fun i j => i ^ j.toNat) := opIC op_pow fun _ _ _ _ => rfl
theorem o_lt : OpE X (compareOp .Lt) rI rI rB CT (fun i j => decide (i < j)) := opI0 op_lt fun _ _ _ _ => rfl
theorem o_le : OpE X (compareOp .LtE) rI rI rB CT (fun i j => decide (i ≤ j)) := opI0 op_le fun _ _ _ _ => rfl
theorem o_gt : OpE X (compareOp .Gt) rI rI rB CT (fun i j => decide (j < i)) := opI0 op_gt fun _ _ _ _ => rfl
theorem o_ge : OpE X (compareOp .GtE) rI rI rB CT (fun i j => decide (j ≤ i)) := opI0 op_ge fun _ _ _ _ => rfl
theorem o_eqF {f : α → V} {g : β → V} : OpE X (compareOp .Eq) (rF f) (rF g) rB (fun x y => scal (f x) (g y) = true) (fun x y => decide (f x = g y)) :=
  ⟨_, op_eq, fun W H x y u v Q hi hu hv hc k => by cases hu; cases hv; exact ⟨hc, k _ H (Ext.refl hi) rfl⟩⟩
theorem o_neF {f : α → V} {g : β → V} : OpE X (compareOp .NotEq) (rF f) (rF g) rB (fun x y => scal (f x) (g y) = true) (fun x y => !decide (f x = g y)) :=
  ⟨_, op_ne, fun W H x y u v Q hi hu hv hc k => by cases hu; cases hv; exact ⟨hc, k _ H (Ext.refl hi) rfl⟩⟩
theorem oV_inj {a b : Option Str} (h : oV a = oV b) : a = b := by
  cases a <;> cases b <;> first | rfl | cases h | skip
  rfl
theorem scalO (a b : Option Str) : scal (oV a) (oV b) = true := by cases a <;> cases b <;> rfl
theorem decV {f : α → V} [DecidableEq α] (hf : ∀ a b, f a = f b → a = b) (a b : α) : decide (f a = f b) = decide (a = b) := by
  by_cases e : a = b
  · subst e; simp
  · rw [decide_eq_false e, decide_eq_false fun q => e (hf _ _ q)]
theorem o_eqI : OpE X (compareOp .Eq) rI rI rB CT (fun x y => decide (x = y)) := ⟨_, op_eq, fun W H x y u v Q hi hu hv hc k => by cases hu; cases hv; exact ⟨rfl, k _ H (Ext.refl hi) (congrArg (fun b => V.bl (b)) (decV (f := V.int) (fun _ _ h => V.int.inj h) x y))⟩⟩
theorem o_neI : OpE X (compareOp .NotEq) rI rI rB CT (fun x y => !decide (x = y)) := ⟨_, op_ne, fun W H x y u v Q hi hu hv hc k => by cases hu; cases hv; exact ⟨rfl, k _ H (Ext.refl hi) (congrArg (fun b => V.bl (!b)) (decV (f := V.int) (fun _ _ h => V.int.inj h) x y))⟩⟩
theorem o_eqS : OpE X (compareOp .Eq) rS rS rB CT (fun x y => decide (x = y)) := ⟨_, op_eq, fun W H x y u v Q hi hu hv hc k => by cases hu; cases hv; exact ⟨rfl, k _ H (Ext.refl hi) (congrArg (fun b => V.bl (b)) (decV (f := V.str) (fun _ _ h => V.str.inj h) x y))⟩⟩
theorem o_neS : OpE X (compareOp .NotEq) rS rS rB CT (fun x y => !decide (x = y)) := ⟨_, op_ne, fun W H x y u v Q hi hu hv hc k => by cases hu; cases hv; exact ⟨rfl, k _ H (Ext.refl hi) (congrArg (fun b => V.bl (!b)) (decV (f := V.str) (fun _ _ h => V.str.inj h) x y))⟩⟩
theorem o_eqO : OpE X (compareOp .Eq) rO rO rB CT (fun x y => decide (x = y)) := ⟨_, op_eq, fun W H x y u v Q hi hu hv hc k => by cases hu; cases hv; exact ⟨scalO _ _, k _ H (Ext.refl hi) (congrArg (fun b => V.bl (b)) (decV (f := oV) (fun _ _ h => oV_inj h) x y))⟩⟩
theorem o_neO : OpE X (compareOp .NotEq) rO rO rB CT (fun x y => !decide (x = y)) := ⟨_, op_ne, fun W H x y u v Q hi hu hv hc k => by cases hu; cases hv; exact ⟨scalO _ _, k _ H (Ext.refl hi) (congrArg (fun b => V.bl (!b)) (decV (f := oV) (fun _ _ h => oV_inj h) x y))⟩⟩
theorem o_neB : OpE X (compareOp .NotEq) rB rB rB CT (fun x y => x != y) := ⟨_, op_ne, fun W H x y u v Q hi hu hv hc k => by
  cases hu; cases hv; exact ⟨rfl, k _ H (Ext.refl hi) (by show V.bl _ = V.bl _; cases x <;> cases y <;> simp)⟩⟩
theorem o_ltS : OpE X (compareOp .Lt) rS rS rB CT (fun x y => decide (x.cps.toList < y.cps.toList)) := ⟨_, op_lt_str, fun W H x y u v Q hi hu hv hc k => by cases hu; cases hv; exact ⟨x, y, rfl, rfl, k _ H (Ext.refl hi) rfl⟩⟩
theorem o_catS : OpE X (binaryOp .Add) rS rS rS (fun x y => x.length + y.length ≤ sizeLine) (fun x y => x ++ y) := ⟨_, op_add_str, fun W H x y u v Q hi hu hv hc k => by cases hu; cases hv; exact ⟨x, y, rfl, rfl, hc, k _ H (Ext.refl hi) rfl⟩⟩
/-- is None -/
theorem o_isN (isn : ∀ (W : Wd) H v x, R.r W H v x → (v = .non ↔ p x)) [DecidablePred p] : OpE X (compareOp .Is) R rN rB CT (fun x _ => decide (p x)) :=
  ⟨_, op_isN, fun W H x y u v Q hi hu hv hc k => by cases hv; exact ⟨rfl, k _ H (Ext.refl hi) (by show V.bl _ = V.bl _; congr 1; exact decide_eq_decide.mpr (isn W H u x hu))⟩⟩
theorem o_notN (isn : ∀ (W : Wd) H v x, R.r W H v x → (v = .non ↔ p x)) [DecidablePred p] : OpE X (compareOp .IsNot) R rN rB CT (fun x _ => !decide (p x)) :=
  ⟨_, op_notN, fun W H x y u v Q hi hu hv hc k => by cases hv; exact ⟨rfl, k _ H (Ext.refl hi) (by show V.bl _ = V.bl _; congr 2; exact decide_eq_decide.mpr (isn W H u x hu))⟩⟩
theorem isnU {R : RepT α} [Plain R] (W : Wd) H v (x : Option α) (h : (rU R).r W H v x) : (v = .non ↔ x = none) := by
  cases x with
  | none => exact ⟨fun _ => rfl, fun _ => h⟩
  | some y => exact ⟨fun e => absurd e h.1, fun e => by cases e⟩
theorem isnO (W : Wd) H v (x : Option Str) (h : rO.r W H v x) : (v = .non ↔ x = none) := by
  cases h; cases x
  · exact ⟨fun _ => rfl, fun _ => rfl⟩
  · exact ⟨fun e => (by cases e), fun e => (by cases e)⟩

/-! ### tests -/
theorem et_val {pb : Bool → Prop} (h : EE X Γ e rB pb) (he : ∀ whole, isTrue e X.env whole = (do let v ← whole; standAt e.pos; holding [v] (truthy v)) := by intro _; rfl) : ET X Γ e pb :=
  ET.of (pt_val pe_te he) fun W σ H Q hi hh f => h.te hi hh fun v H1 x e px r => ⟨x, r, f x H1 e px⟩
theorem et_not {pb : Bool → Prop} (h : ET X Γ e fun b => pb (!b)) : ET X Γ (.UnaryOp .Not e pos) pb :=
  ET.of (pt_not pt_tt) fun W σ H Q hi hh f => h.tt hi hh fun b H1 e pb => f (!b) H1 e pb
theorem dt_not {x : Bool} (h : TV X Γ e x) : TV X Γ (.UnaryOp .Not e pos) (!x) := et_not (h.imp fun b hb => by rw [hb])
theorem et_and {pa pb : Bool → Prop} (h1 : ET X Γ a pa) (h2 : pa true → ET X Γ b pb) {pr : Bool → Prop} (kf : pa false → pr false) (kt : ∀ x, pa true → pb x → pr x) : ET X Γ (.BoolOp .And [a, b] pos) pr :=
  ET.of (PW.pt (pw_and pt_tt (pw_and1 pt_tt))) fun W σ H Q hi hh f => h1.tt hi hh fun x H1 e1 px => by
    cases x with
    | true =>
      show tt X b σ H1 Q
      exact (h2 px).tt e1.inv (hh.mono e1) fun y H2 e2 py => f y H2 (e1.trans e2) (kt y px py)
    | false => exact f false H1 e1 (kf px)
theorem et_or {pa pb : Bool → Prop} (h1 : ET X Γ a pa) (h2 : pa false → ET X Γ b pb) {pr : Bool → Prop} (kt : pa true → pr true) (kf : ∀ x, pa false → pb x → pr x) : ET X Γ (.BoolOp .Or [a, b] pos) pr :=
  ET.of (PW.pt (pw_or pt_tt (pw_or1 pt_tt))) fun W σ H Q hi hh f => h1.tt hi hh fun x H1 e1 px => by
    cases x with
    | true => exact f true H1 e1 (kt px)
    | false =>
      show tt X b σ H1 Q
      exact (h2 px).tt e1.inv (hh.mono e1) fun y H2 e2 py => f y H2 (e1.trans e2) (kf y px py)
theorem dt_and {x y : Bool} (h1 : TV X Γ a x) (h2 : x = true → TV X Γ b y) : TV X Γ (.BoolOp .And [a, b] pos) (x && y) :=
  et_and h1 (fun h => h2 h.symm) (fun h => by rw [← h]; rfl) (fun z h hz => by rw [← h, hz]; rfl)
theorem dt_or {x y : Bool} (h1 : TV X Γ a x) (h2 : x = false → TV X Γ b y) : TV X Γ (.BoolOp .Or [a, b] pos) (x || y) :=
  et_or h1 (fun h => h2 h.symm) (fun h => by rw [← h]; rfl) (fun z h hz => by rw [← h, hz]; rfl)
theorem dt_and3 {x y z : Bool} (h1 : TV X Γ a x) (h2 : x = true → TV X Γ b y) (h3 : x = true → y = true → TV X Γ c z) : TV X Γ (.BoolOp .And [a, b, c] pos) (x && (y && z)) :=
  ET.of (PW.pt (pw_and pt_tt (pw_and pt_tt (pw_and1 pt_tt)))) fun W σ H Q hi hh f => h1.tt hi hh fun v H1 e1 px => by
    subst px
    cases v with
    | true =>
      show tAnd (tt X b) (tt X c) σ H1 Q
      refine (h2 rfl).tt e1.inv (hh.mono e1) fun v H2 e2 py => ?_
      subst py
      cases v with
      | true =>
        show tt X c σ H2 Q
        exact (h3 rfl rfl).tt e2.inv (hh.mono (e1.trans e2)) fun v H3 e3 pz => f v H3 ((e1.trans e2).trans e3) (by rw [pz]; rfl)
      | false => exact f false H2 (e1.trans e2) rfl
    | false => exact f false H1 e1 rfl
theorem dt_or3 {x y z : Bool} (h1 : TV X Γ a x) (h2 : x = false → TV X Γ b y) (h3 : x = false → y = false → TV X Γ c z) : TV X Γ (.BoolOp .Or [a, b, c] pos) (x || (y || z)) :=
  ET.of (PW.pt (pw_or pt_tt (pw_or pt_tt (pw_or1 pt_tt)))) fun W σ H Q hi hh f => h1.tt hi hh fun v H1 e1 px => by
    subst px
    cases v with
    | false =>
      show tOr (tt X b) (tt X c) σ H1 Q
      refine (h2 rfl).tt e1.inv (hh.mono e1) fun v H2 e2 py => ?_
      subst py
      cases v with
      | false =>
        show tt X c σ H2 Q
        exact (h3 rfl rfl).tt e2.inv (hh.mono (e1.trans e2)) fun v H3 e3 pz => f v H3 ((e1.trans e2).trans e3) (by rw [pz]; rfl)
      | true => exact f true H2 (e1.trans e2) rfl
    | true => exact f true H1 e1 rfl
/-- as values -/
theorem dv_one {op} {x : α} (h : EV X Γ a R x) : EV X Γ (.BoolOp op [a] pos) R x := EE.of (pe_one pe_te) fun W σ H Q hi hh f => h.te hi hh f
theorem dv_and {x y : Bool} (h1 : EV X Γ a rB x) (h2 : x = true → EV X Γ b rB y) : EV X Γ (.BoolOp .And [a, b] pos) rB (x && y) :=
  EE.of (pe_and pe_te (pe_one pe_te)) fun W σ H Q hi hh f => h1.te hi hh fun v H1 z e1 px r => ⟨z, r, by
    subst px
    cases z with
    | true =>
      show te X b σ H1 Q
      exact (h2 rfl).te e1.inv (hh.mono e1) fun v H2 z e2 py r => f v H2 z (e1.trans e2) (by rw [py]; rfl) r
    | false => exact f _ H1 false e1 rfl rfl⟩
theorem dv_or {x y : Bool} (h1 : EV X Γ a rB x) (h2 : x = false → EV X Γ b rB y) : EV X Γ (.BoolOp .Or [a, b] pos) rB (x || y) :=
  EE.of (pe_or pe_te (pe_one pe_te)) fun W σ H Q hi hh f => h1.te hi hh fun v H1 z e1 px r => ⟨z, r, by
    subst px
    cases z with
    | false =>
      show te X b σ H1 Q
      exact (h2 rfl).te e1.inv (hh.mono e1) fun v H2 z e2 py r => f v H2 z (e1.trans e2) (by rw [py]; rfl) r
    | true => exact f _ H1 true e1 rfl rfl⟩
theorem dv_and3 {x y z : Bool} (h1 : EV X Γ a rB x) (h2 : x = true → EV X Γ b rB y) (h3 : x = true → y = true → EV X Γ c rB z) : EV X Γ (.BoolOp .And [a, b, c] pos) rB (x && (y && z)) :=
  EE.of (pe_and pe_te (pe_and pe_te (pe_one pe_te))) fun W σ H Q hi hh f => h1.te hi hh fun v H1 w e1 px r => ⟨w, r, by
    subst px
    cases w with
    | true =>
      show tAndV (te X b) (te X c) σ H1 Q
      refine (h2 rfl).te e1.inv (hh.mono e1) fun v H2 w e2 py r => ⟨w, r, ?_⟩
      subst py
      cases w with
      | true =>
        show te X c σ H2 Q
        exact (h3 rfl rfl).te e2.inv (hh.mono (e1.trans e2)) fun v H3 z e3 pz r => f v H3 z ((e1.trans e2).trans e3) (by rw [pz]; rfl) r
      | false => exact f _ H2 false (e1.trans e2) rfl rfl
    | false => exact f _ H1 false e1 rfl rfl⟩
theorem dv_not {x : Bool} (h1 : EV X Γ a rB x) : EV X Γ (.UnaryOp .Not a pos) rB (!x) :=
  EE.of (pe_not pe_te) fun W σ H Q hi hh f => h1.te hi hh fun v H1 z e1 px r => ⟨z, r, f _ H1 (!z) e1 (by rw [px]) rfl⟩
theorem ee_if {pb : Bool → Prop} (h : ET X Γ c pb) (h1 : pb true → EE X Γ a R p) (h2 : pb false → EE X Γ b R p) : EE X Γ (.IfExp c a b pos) R p :=
  EE.of (pe_ifExp pt_tt pe_te pe_te) fun W σ H Q hi hh f => h.tt hi hh fun v H1 e1 px => by
    cases v with
    | true =>
      show te X a σ H1 Q
      exact (h1 px).te e1.inv (hh.mono e1) fun v H2 x e2 py r => f v H2 x (e1.trans e2) py r
    | false =>
      show te X b σ H1 Q
      exact (h2 px).te e1.inv (hh.mono e1) fun v H2 x e2 py r => f v H2 x (e1.trans e2) py r
/-- a chained comparison of ints -/
theorem dt_chain {op op' : CmpOp} {g g' : Int → Int → Bool} {x y z : Int} (ho : OpE X (compareOp op) rI rI rB CT g) (ho' : OpE X (compareOp op') rI rI rB CT g') (ha : EV X Γ a rI x) (hb : EV X Γ b rI y) (hc : EV X Γ c rI z)
    (hm : lastMarks [op, op'] [b, c] = false := by with_unfolding_all rfl) : TV X Γ (.Compare a [op, op'] [b, c] pos) (g x y && g' y z) := by
  obtain ⟨r, h, k⟩ := ho
  obtain ⟨r', h', k'⟩ := ho'
  refine ET.of (pt_chain h h' pe_te pe_te pe_te hm) fun W σ H Q hi hh f => ha.te hi hh fun u H1 x1 e1 px rx => hb.te e1.inv (hh.mono e1) fun v H2 y1 e2 py ry => ?_
  subst px py
  refine k W H2 x1 y1 u v _ e2.inv (RepT.mono _ e2 rx) ry trivial fun w H3 e3 rw => ⟨g x1 y1, rw, ?_⟩
  cases hg : g x1 y1 with
  | true =>
    rw [if_pos rfl]
    refine hc.te e3.inv (hh.mono ((e1.trans e2).trans e3)) fun w' H4 z1 e4 pz rz => ?_
    subst pz
    exact k' W H4 y1 z1 v w' _ e4.inv (RepT.mono _ e4 (RepT.mono _ e3 ry)) rz trivial fun z2 H5 e5 r5 => ⟨g' y1 z1, r5, f _ H5 ((((e1.trans e2).trans e3).trans e4).trans e5) (by rw [hg]; rfl)⟩
  | false =>
    rw [if_neg Bool.false_ne_true]
    exact ⟨false, rfl, f false H3 ((e1.trans e2).trans e3) (by rw [hg]; rfl)⟩
theorem dv_chain {op op' : CmpOp} {g g' : Int → Int → Bool} {x y z : Int} (ho : OpE X (compareOp op) rI rI rB CT g) (ho' : OpE X (compareOp op') rI rI rB CT g') (ha : EV X Γ a rI x) (hb : EV X Γ b rI y) (hc : EV X Γ c rI z)
    (hm : lastMarks [op, op'] [b, c] = false := by with_unfolding_all rfl) : EV X Γ (.Compare a [op, op'] [b, c] pos) rB (g x y && g' y z) := by
  obtain ⟨r, h, k⟩ := ho
  obtain ⟨r', h', k'⟩ := ho'
  refine EE.of (pe_chain h h' pe_te pe_te pe_te hm) fun W σ H Q hi hh f => ha.te hi hh fun u H1 x1 e1 px rx => hb.te e1.inv (hh.mono e1) fun v H2 y1 e2 py ry => ?_
  subst px py
  refine k W H2 x1 y1 u v _ e2.inv (RepT.mono _ e2 rx) ry trivial fun w H3 e3 rw => ⟨g x1 y1, rw, ?_⟩
  cases hg : g x1 y1 with
  | true =>
    rw [if_pos rfl]
    refine hc.te e3.inv (hh.mono ((e1.trans e2).trans e3)) fun w' H4 z1 e4 pz rz => ?_
    subst pz
    exact k' W H4 y1 z1 v w' _ e4.inv (RepT.mono _ e4 (RepT.mono _ e3 ry)) rz trivial fun z2 H5 e5 r5 => f _ H5 _ ((((e1.trans e2).trans e3).trans e4).trans e5) (by rw [hg]; rfl) r5
  | false =>
    rw [if_neg Bool.false_ne_true]
    exact f _ H3 false ((e1.trans e2).trans e3) (by rw [hg]; rfl) rfl
end
end K62

end

section
set_option Elab.async false
set_option linter.all false
set_option maxRecDepth 100000
set_option maxHeartbeats 4000000
/-! lists, tuples, dicts, calls -/
namespace K62
open PySem PySem.Spec PyProof.Rows L2
/-! ### pairs of lists -/
section
variable {α β γ : Type} {F G : α → β → Prop}
theorem Paired.at2 : ∀ {l₁ : List α} {l₂ : List β} {i : Nat} {y : β}, Paired F l₁ l₂ → l₂[i]? = some y → ∃ x, l₁[i]? = some x ∧ F x y
  | _, _, _, _, .nil, h => by simp at h
  | _, _, 0, _, .cons a _, h => by simp at h; subst h; exact ⟨_, rfl, a⟩
  | _, _, i + 1, y, .cons _ t, h => by
    obtain ⟨x, e, f⟩ := Paired.at2 (i := i) (y := y) t (by simpa using h)
    exact ⟨x, by simpa using e, f⟩
theorem Paired.at1 : ∀ {l₁ : List α} {l₂ : List β} {i : Nat} {x : α}, Paired F l₁ l₂ → l₁[i]? = some x → ∃ y, l₂[i]? = some y ∧ F x y
  | _, _, _, _, .nil, h => by simp at h
  | _, _, 0, _, .cons a _, h => by simp at h; subst h; exact ⟨_, rfl, a⟩
  | _, _, i + 1, x, .cons _ t, h => by
    obtain ⟨y, e, f⟩ := Paired.at1 (i := i) (x := x) t (by simpa using h)
    exact ⟨y, by simpa using e, f⟩
theorem Paired.tk : ∀ {l₁ : List α} {l₂ : List β} (n : Nat), Paired F l₁ l₂ → Paired F (l₁.take n) (l₂.take n)
  | _, _, 0, _ => .nil
  | _, _, _ + 1, .nil => .nil
  | _, _, n + 1, .cons a t => .cons a (Paired.tk n t)
theorem Paired.dp : ∀ {l₁ : List α} {l₂ : List β} (n : Nat), Paired F l₁ l₂ → Paired F (l₁.drop n) (l₂.drop n)
  | _, _, 0, h => h
  | _, _, _ + 1, .nil => .nil
  | _, _, n + 1, .cons _ t => Paired.dp n t
theorem Paired.app : ∀ {l₁ m₁ : List α} {l₂ m₂ : List β}, Paired F l₁ l₂ → Paired F m₁ m₂ → Paired F (l₁ ++ m₁) (l₂ ++ m₂)
  | _, _, _, _, .nil, h => h
  | _, _, _, _, .cons a t, h => .cons a (Paired.app t h)
theorem Paired.rev : ∀ {l₁ : List α} {l₂ : List β}, Paired F l₁ l₂ → Paired F l₁.reverse l₂.reverse
  | _, _, .nil => .nil
  | _, _, .cons a t => by rw [List.reverse_cons, List.reverse_cons]; exact Paired.app (Paired.rev t) (.cons a .nil)
theorem Paired.ers : ∀ {l₁ : List α} {l₂ : List β} (n : Nat), Paired F l₁ l₂ → Paired F (l₁.eraseIdx n) (l₂.eraseIdx n)
  | _, _, _, .nil => .nil
  | _, _, 0, .cons _ t => t
  | _, _, n + 1, .cons a t => .cons a (Paired.ers n t)
theorem Paired.st {x : α} {y : β} (h : F x y) : ∀ {l₁ : List α} {l₂ : List β} (n : Nat), Paired F l₁ l₂ → Paired F (l₁.set n x) (l₂.set n y)
  | _, _, _, .nil => .nil
  | _, _, 0, .cons _ t => .cons h t
  | _, _, n + 1, .cons a t => .cons a (Paired.st h n t)
theorem Paired.mp2 {F' : α → β → Prop} {l₁ : List α} {l₂ : List β} (h : Paired F l₁ l₂) (f : ∀ a b, b ∈ l₂ → F a b → F' a b) : Paired F' l₁ l₂ := by
  induction h with
  | nil => exact .nil
  | cons a t ih => exact .cons (f _ _ List.mem_cons_self a) (ih fun x y m => f x y (List.mem_cons_of_mem _ m))
/-- the values of flat data -/
theorem flat_map {f : α → V} {W : Wd} {H : Hp} : ∀ {us : List V} {xs : List α}, Paired ((rF f).r W H) us xs → us = xs.map f
  | _, _, .nil => rfl
  | _, _, .cons h t => by
    have e : _ = f _ := h
    rw [e, flat_map t]; rfl
theorem map_flat {f : α → V} {W : Wd} {H : Hp} : ∀ (xs : List α), Paired ((rF f).r W H) (xs.map f) xs
  | [] => .nil
  | x :: xs => .cons rfl (map_flat xs)
theorem prPl {R : RepT β} [Plain R] {W1 W2 : Wd} {H1 H2 : Hp} (ag : Agr W1 H1 W2 H2) {us : List V} {xs : List β} (h : Paired (R.r W1 H1) us xs) : Paired (R.r W2 H2) us xs := Paired.mp h fun _ _ q => Plain.pl ag q
theorem prMono {R : RepT β} {W : Wd} {H1 H2 : Hp} (e : Ext W H1 H2) {us : List V} {xs : List β} (h : Paired (R.r W H1) us xs) : Paired (R.r W H2) us xs := Paired.mp h fun _ _ q => R.mono e q
end
theorem atI_paired {β : Type} {F : V → β → Prop} {us : List V} {xs : List β} {i : Int} {x : β} (h : Paired F us xs) (e : atI xs i = some x) : ∃ u, atI us i = some u ∧ F u x := by
  have hl := h.length
  unfold atI at e ⊢
  rw [hl]
  cases q : ixN xs.length i with
  | none => rw [q] at e; cases e
  | some j => rw [q] at e; exact Paired.at2 h e
/-- a part of a list -/
def cutL {α : Type} (xs : List α) (lo hi : Option Int) : List α := (xs.drop (HT.sIx xs.length 0 lo)).take (HT.sIx xs.length xs.length hi - HT.sIx xs.length 0 lo)
theorem cut_paired {β : Type} {F : V → β → Prop} {us : List V} {xs : List β} (lo hi : Option Int) (h : Paired F us xs) : Paired F (cutV us lo hi) (cutL xs lo hi) := by
  unfold cutV cutL
  rw [h.length]
  exact Paired.tk _ (Paired.dp _ h)
/-- a dict's value -/
def lk {α : Type} (kvs : List (Str × α)) (k : Str) : Option α := (kvs.find? fun kv => decide (kv.1 = k)).map (·.2)
def pt {α : Type} (kvs : List (Str × α)) (k : Str) (v : α) : List (Str × α) := if (kvs.any fun kv => decide (kv.1 = k)) = true then kvs.map (fun kv => if kv.1 = k then (kv.1, v) else kv) else kvs ++ [(k, v)]
theorem lk_paired {β : Type} {R : RepT β} {W : Wd} {H : Hp} {k : Str} : ∀ {us : List (Key × V)} {xs : List (Str × β)}, Paired (DEnt R W H) us xs → (lk xs k = none ∧ valV us (.inr k) = none) ∨ ∃ v x, lk xs k = some x ∧ valV us (.inr k) = some v ∧ R.r W H v x
  | _, _, .nil => .inl ⟨rfl, rfl⟩
  | (xk, u) :: us, (y, x) :: xs, .cons ⟨e, r⟩ t => by
    have e' : xk = Sum.inr y := e
    subst e'
    have r : R.r W H u x := r
    by_cases h : y = k
    · subst h
      exact .inr ⟨u, x, by simp [lk], by simp [valV], r⟩
    · have e1 : lk ((y, x) :: xs) k = lk xs k := by simp [lk, List.find?_cons, h]
      have e2 : valV ((Sum.inr y, u) :: us) (.inr k) = valV us (.inr k) := by
        have : ¬ (Sum.inr y : Key) = Sum.inr k := fun q => h (Sum.inr.inj q)
        exact valV_neg this
      rw [e1, e2]
      exact lk_paired t
theorem any_paired {β : Type} {R : RepT β} {W : Wd} {H : Hp} {k : Str} : ∀ {us : List (Key × V)} {xs : List (Str × β)}, Paired (DEnt R W H) us xs → (us.any fun kv => decide (kv.1 = (Sum.inr k : Key))) = (xs.any fun kv => decide (kv.1 = k))
  | _, _, .nil => rfl
  | (xk, u) :: us, (y, x) :: xs, .cons ⟨e, r⟩ t => by
    have e' : xk = Sum.inr y := e
    subst e'
    rw [List.any_cons, List.any_cons, any_paired t]
    congr 1
    exact decide_eq_decide.mpr ⟨fun q => Sum.inr.inj q, fun q => congrArg Sum.inr q⟩
theorem put_paired {β : Type} {R : RepT β} {W : Wd} {H : Hp} {k : Str} {v : V} {x : β} (r : R.r W H v x) {us : List (Key × V)} {xs : List (Str × β)} (h : Paired (DEnt R W H) us xs) : Paired (DEnt R W H) (putK us (.inr k) v) (pt xs k x) := by
  unfold putK pt
  rw [any_paired h]
  split
  · have key : ∀ {us : List (Key × V)} {xs : List (Str × β)}, Paired (DEnt R W H) us xs → Paired (DEnt R W H) (us.map fun kv => if kv.1 = (Sum.inr k : Key) then (kv.1, v) else kv) (xs.map fun kv => if kv.1 = k then (kv.1, x) else kv) := by
      intro us xs h
      induction h with
      | nil => exact .nil
      | @cons a b l m e t ih =>
        obtain ⟨a1, a2⟩ := a
        obtain ⟨b1, b2⟩ := b
        obtain ⟨e1, e2⟩ := e
        have e1' : a1 = Sum.inr b1 := e1
        subst e1'
        have e2 : R.r W H a2 b2 := e2
        refine .cons ?_ ih
        by_cases q : b1 = k
        · subst q
          simp only [if_true]
          exact ⟨rfl, r⟩
        · have q' : ¬ (Sum.inr b1 : Key) = Sum.inr k := fun z => q (Sum.inr.inj z)
          simp only [if_neg q, if_neg q']
          exact ⟨rfl, e2⟩
    exact key h
  · exact Paired.app h (.cons ⟨rfl, r⟩ .nil)
theorem keys_paired {β : Type} {R : RepT β} {W : Wd} {H : Hp} : ∀ {us : List (Key × V)} {xs : List (Str × β)}, Paired (DEnt R W H) us xs → us.map (·.1) = (xs.map (·.1)).map Sum.inr
  | _, _, .nil => rfl
  | (xk, u) :: us, (y, x) :: xs, .cons ⟨e, r⟩ t => by
    have e' : xk = Sum.inr y := e
    subst e'
    rw [List.map_cons, List.map_cons, List.map_cons, keys_paired t]

/-! ### arguments -/
def EA (X : Cx) (Γ : ECtx) (es : List Expr) (q : List Slot → Prop) : Prop :=
  ∀ (W : Wd) (σ : L2.St) (H : Hp) (pos : Pos) (pins : List (Addr × Obj)) (s : Shared) (Q : List V → Hp → Prop), W.I H → HoldsE W H σ Γ → Inv X pins σ H s →
    (∀ vs H1 gs, Ext W H H1 → q gs → SlotsOk W H1 vs gs → Q vs H1) → wpAny (model X.prog X.w) X.A (spliced (backTo pos (starEach es X.env))) (AP X pins σ Q) X.xe s
def ta (X : Cx) (es : List Expr) : TA := fun σ H Q => ∀ (pos : Pos) (pins : List (Addr × Obj)) (s : Shared), Inv X pins σ H s → wpAny (model X.prog X.w) X.A (spliced (backTo pos (starEach es X.env))) (AP X pins σ Q) X.xe s
section
variable {X : Cx} {Γ : ECtx} {e a b c : Expr} {es : List Expr} {α β γ δ : Type} {R : RepT α} {S : RepT β} {T : RepT γ} {U : RepT δ} {p : α → Prop} {q : β → Prop} {pos : Pos} {W : Wd} {σ : L2.St} {H : Hp}
/-- no star -/
def NS (X : Cx) (e : Expr) : Prop := ∀ es, starEach (e :: es) X.env = (false, eval e X.env) :: starEach es X.env
theorem pa_ta : PA X es (ta X es) := ⟨fun pos pins s _ _ _ I h => h pos pins s I⟩
theorem EA.ta {q : List Slot → Prop} {Q : List V → Hp → Prop} (h : EA X Γ es q) (hi : W.I H) (hh : HoldsE W H σ Γ) (k : ∀ vs H1 gs, Ext W H H1 → q gs → SlotsOk W H1 vs gs → Q vs H1) : ta X es σ H Q :=
  fun pos pins s I => h W σ H pos pins s Q hi hh I k
theorem EA.of {t : TA} {q : List Slot → Prop} (h : PA X es t) (k : ∀ (W : Wd) σ H (Q : List V → Hp → Prop), W.I H → HoldsE W H σ Γ → (∀ vs H1 gs, Ext W H H1 → q gs → SlotsOk W H1 vs gs → Q vs H1) → t σ H Q) : EA X Γ es q :=
  fun W σ H pos pins s Q hi hh I f => h.run pos pins s σ H Q I (k W σ H Q hi hh f)
theorem ea_nil {q : List Slot → Prop} (h : q []) : EA X Γ [] q := EA.of pa_nil fun W σ H Q hi hh f => f [] H [] (Ext.refl hi) h .nil
theorem ea_cons {q : List Slot → Prop} (h : EE X Γ e R p) (k : ∀ x, p x → EA X Γ es fun gs => q (⟨R, x⟩ :: gs)) (ns : NS X e := by intro _; rfl) : EA X Γ (e :: es) q :=
  EA.of (pa_cons pe_te pa_ta (ns _)) fun W σ H Q hi hh f => h.te hi hh fun v H1 x e1 px r => (k x px).ta e1.inv (hh.mono e1) fun vs H2 gs e2 qg sk =>
    f (v :: vs) H2 (⟨R, x⟩ :: gs) (e1.trans e2) qg (.cons (R.mono e2 r) sk)
theorem ed_cons {q : List Slot → Prop} {x : α} (h : EV X Γ e R x) (k : EA X Γ es fun gs => q (⟨R, x⟩ :: gs)) (ns : NS X e := by intro _; rfl) : EA X Γ (e :: es) q := ea_cons h (fun y hy => by rw [hy]; exact k) ns
/-- all of one kind -/
abbrev EL (X : Cx) (Γ : ECtx) (es : List Expr) (R : RepT α) (xs : List α) : Prop := EA X Γ es fun gs => gs = xs.map fun x => ⟨R, x⟩
theorem el_nil : EL X Γ [] R [] := ea_nil rfl
theorem el_cons {x : α} {xs : List α} (h : EV X Γ e R x) (k : EL X Γ es R xs) (ns : NS X e := by intro _; rfl) : EL X Γ (e :: es) R (x :: xs) := ed_cons h (EA.imp' k) ns
where EA.imp' {x : α} {xs : List α} (k : EL X Γ es R xs) : EA X Γ es fun gs => (⟨R, x⟩ : Slot) :: gs = (x :: xs).map fun x => (⟨R, x⟩ : Slot) := fun W σ H pos pins s Q hi hh I f => k W σ H pos pins s Q hi hh I fun vs H1 gs e1 qg sk => f vs H1 gs e1 (by rw [qg]; rfl) sk
theorem slots_paired : ∀ {vs : List V} {xs : List α}, SlotsOk W H vs (xs.map fun x => (⟨R, x⟩ : Slot)) → Paired (R.r W H) vs xs
  | [], [], _ => .nil
  | _ :: _, _ :: _, .cons h t => .cons h (slots_paired t)
  | [], _ :: _, h => by cases h
  | _ :: _, [], h => by cases h

/-! ### displays -/
theorem slots1 {vs : List V} {g : Slot} (h : SlotsOk W H vs [g]) : ∃ v, vs = [v] ∧ g.R.r W H v g.x := by
  cases h with
  | cons h t => cases t; exact ⟨_, rfl, h⟩
theorem slots2 {vs : List V} {g g2 : Slot} (h : SlotsOk W H vs [g, g2]) : ∃ v v2, vs = [v, v2] ∧ g.R.r W H v g.x ∧ g2.R.r W H v2 g2.x := by
  cases h with
  | cons h t => obtain ⟨v2, rfl, h2⟩ := slots1 t; exact ⟨_, v2, rfl, h, h2⟩
theorem slots3 {vs : List V} {g g2 g3 : Slot} (h : SlotsOk W H vs [g, g2, g3]) : ∃ v v2 v3, vs = [v, v2, v3] ∧ g.R.r W H v g.x ∧ g2.R.r W H v2 g2.x ∧ g3.R.r W H v3 g3.x := by
  cases h with
  | cons h t => obtain ⟨v2, v3, rfl, h2, h3⟩ := slots2 t; exact ⟨_, v2, v3, rfl, h, h2, h3⟩
theorem new_tup {us : List V} {t : Addr} (hi : W.I H) (ht : H t = none) : Ext W H (upd H t (.tup us)) ∧ ¬ W.M t ∧ rd (upd H t (.tup us)) t = some (.tup us) := ⟨Ext.new hi ht, Wd.fresh hi ht, rd_upd⟩
theorem new_lst {us : List V} {t : Addr} (hi : W.I H) (ht : H t = none) : Ext W H (upd H t (.lst us)) ∧ ¬ W.M t ∧ rd (upd H t (.lst us)) t = some (.lst us) := ⟨Ext.new hi ht, Wd.fresh hi ht, rd_upd⟩
theorem ee_pair [Plain R] [Plain S] {k} (ha : EE X Γ a R p) (hb : EE X Γ b S q) (na : NS X a := by intro _; rfl) (nb : NS X b := by intro _; rfl) : EE X Γ (.Tuple [a, b] k pos) (rP R S) (fun x => p x.1 ∧ q x.2) :=
  EE.of (pe_tup (pa_cons pe_te (pa_cons pe_te pa_nil (nb _)) (na _))) fun W σ H Q hi hh f => ha.te hi hh fun u H1 x e1 px rx => hb.te e1.inv (hh.mono e1) fun v H2 y e2 py ry => ⟨by show 2 ≤ sizeLine; decide, fun t ht =>
    let ⟨e3, n3, d3⟩ := new_tup (us := [u, v]) e2.inv ht
    f _ _ (x, y) ((e1.trans e2).trans e3) ⟨px, py⟩ ⟨t, u, v, rfl, n3, d3, R.mono e3 (R.mono e2 rx), S.mono e3 ry⟩⟩
theorem dv_pair [Plain R] [Plain S] {k} {x : α} {y : β} (ha : EV X Γ a R x) (hb : EV X Γ b S y) (na : NS X a := by intro _; rfl) (nb : NS X b := by intro _; rfl) : EV X Γ (.Tuple [a, b] k pos) (rP R S) (x, y) := (ee_pair ha hb na nb).imp fun z h => Prod.ext h.1 h.2
theorem dv_trip [Plain R] [Plain S] [Plain T] {k} {x : α} {y : β} {z : γ} (ha : EV X Γ a R x) (hb : EV X Γ b S y) (hc : EV X Γ c T z) (na : NS X a := by intro _; rfl) (nb : NS X b := by intro _; rfl) (nc : NS X c := by intro _; rfl) : EV X Γ (.Tuple [a, b, c] k pos) (rQ R S T) (x, y, z) :=
  EE.of (pe_tup (pa_cons pe_te (pa_cons pe_te (pa_cons pe_te pa_nil (nc _)) (nb _)) (na _))) fun W σ H Q hi hh f => ha.te hi hh fun u H1 x e1 px rx => hb.te e1.inv (hh.mono e1) fun v H2 y e2 py ry => hc.te e2.inv (hh.mono (e1.trans e2)) fun w H3 z e3 pz rz => ⟨by show 3 ≤ sizeLine; decide, fun t ht =>
    let ⟨e4, n4, d4⟩ := new_tup (us := [u, v, w]) e3.inv ht
    f _ _ (x, y, z) (((e1.trans e2).trans e3).trans e4) (by rw [px, py, pz]) ⟨t, u, v, w, rfl, n4, d4, R.mono e4 (R.mono e3 (R.mono e2 rx)), S.mono e4 (S.mono e3 ry), T.mono e4 rz⟩⟩
theorem dv_tup [Plain R] {k} {xs : List α} (h : EL X Γ es R xs) (hz : xs.length ≤ sizeLine := by first | decide | (show (0 : Nat) ≤ _; exact Nat.zero_le _)) : EV X Γ (.Tuple es k pos) (rT R) xs :=
  EE.of (pe_tup pa_ta) fun W σ H Q hi hh f => h.ta hi hh fun vs H1 gs e1 qg sk => by
    subst qg
    have pr := slots_paired sk
    refine ⟨by rw [pr.length]; exact hz, fun t ht => ?_⟩
    obtain ⟨e3, n3, d3⟩ := new_tup (us := vs) e1.inv ht
    exact f _ _ xs (e1.trans e3) rfl ⟨t, vs, rfl, n3, d3, prMono e3 pr⟩
/-- a new list -/
def EN (X : Cx) (Γ : ECtx) (e : Expr) (R : RepT α) (p : List α → Prop) : Prop :=
  ∀ (W : Wd) (σ : L2.St) (H : Hp) (pins : List (Addr × Obj)) (s : Shared) (Q : VK), W.I H → HoldsE W H σ Γ → Inv X pins σ H s →
    (∀ l H1 us xs, H l = none → Ext W H H1 → H1 l = some (.lst us) → p xs → Paired (R.r (W.adds [(l, .lst us)]) H1) us xs → Q (.ref l) H1) → wpAny (model X.prog X.w) X.A (eval e X.env) (EP X pins σ Q) X.xe s
/-- a new dict -/
def ED (X : Cx) (Γ : ECtx) (e : Expr) (R : RepT α) (p : List (Str × α) → Prop) : Prop :=
  ∀ (W : Wd) (σ : L2.St) (H : Hp) (pins : List (Addr × Obj)) (s : Shared) (Q : VK), W.I H → HoldsE W H σ Γ → Inv X pins σ H s →
    (∀ l H1 us xs, H l = none → Ext W H H1 → H1 l = some (.dK us) → p xs → Paired (DEnt R (W.adds [(l, .dK us)]) H1) us xs → Q (.ref l) H1) → wpAny (model X.prog X.w) X.A (eval e X.env) (EP X pins σ Q) X.xe s
theorem fresh_nm {l : Addr} {H1 : Hp} (hi : W.I H) (hl : H l = none) : ¬ W.M l := Wd.fresh hi hl
theorem EN.ee [Plain R] {p : List α → Prop} (h : EN X Γ e R p) : EE X Γ e (rL R) p := fun W σ H pins s Q hi hh I f => h W σ H pins s Q hi hh I fun l H1 us xs hl e1 hd px pr =>
  f _ H1 xs e1 px ⟨l, us, rfl, Wd.fresh hi hl, rd_l hd, (prPl Agr.out pr)⟩
theorem ED.ee [Plain R] {p : List (Str × α) → Prop} (h : ED X Γ e R p) : EE X Γ e (rD R) p := fun W σ H pins s Q hi hh I f => h W σ H pins s Q hi hh I fun l H1 us xs hl e1 hd px pr =>
  f _ H1 xs e1 px ⟨l, us, rfl, Wd.fresh hi hl, rd_d hd, Paired.mp pr fun _ _ q => ⟨q.1, Plain.pl Agr.out q.2⟩⟩
theorem EN.of {t : TE} {p : List α → Prop} (h : PE X e t) (k : ∀ (W : Wd) σ H (Q : VK), W.I H → HoldsE W H σ Γ → (∀ l H1 us xs, H l = none → Ext W H H1 → H1 l = some (.lst us) → p xs → Paired (R.r (W.adds [(l, .lst us)]) H1) us xs → Q (.ref l) H1) → t σ H Q) : EN X Γ e R p :=
  fun W σ H pins s Q hi hh I q => h.run pins s σ H Q I (k W σ H Q hi hh q)
theorem ED.of {t : TE} {p : List (Str × α) → Prop} (h : PE X e t) (k : ∀ (W : Wd) σ H (Q : VK), W.I H → HoldsE W H σ Γ → (∀ l H1 us xs, H l = none → Ext W H H1 → H1 l = some (.dK us) → p xs → Paired (DEnt R (W.adds [(l, .dK us)]) H1) us xs → Q (.ref l) H1) → t σ H Q) : ED X Γ e R p :=
  fun W σ H pins s Q hi hh I q => h.run pins s σ H Q I (k W σ H Q hi hh q)
theorem EN.imp {p p' : List α → Prop} (h : EN X Γ e R p) (k : ∀ x, p x → p' x) : EN X Γ e R p' := fun W σ H pins s Q hi hh I f => h W σ H pins s Q hi hh I fun l H1 us xs a b c px d => f l H1 us xs a b c (k _ px) d
theorem ED.imp {p p' : List (Str × α) → Prop} (h : ED X Γ e R p) (k : ∀ x, p x → p' x) : ED X Γ e R p' := fun W σ H pins s Q hi hh I f => h W σ H pins s Q hi hh I fun l H1 us xs a b c px d => f l H1 us xs a b c (k _ px) d
/-- elements that stood ahead stand beside a new object -/
theorem into1 [Plain R] {l : Addr} {o : HO} {us : List V} {xs : List α} (hi : W.I H) (hl : H l = none) (h : Paired (R.r W H) us xs) : Paired (R.r (W.adds [(l, o)]) (upd H l o)) us xs :=
  prPl (Agr.into (fun p hp => by rw [List.mem_singleton.mp hp]; exact hl) (Ext.new hi hl)) h
theorem into1D [Plain R] {l : Addr} {o : HO} {us : List (Key × V)} {xs : List (Str × α)} (hi : W.I H) (hl : H l = none) (h : Paired (DEnt R W H) us xs) : Paired (DEnt R (W.adds [(l, o)]) (upd H l o)) us xs :=
  Paired.mp h fun _ _ q => ⟨q.1, Plain.pl (Agr.into (fun p hp => by rw [List.mem_singleton.mp hp]; exact hl) (Ext.new hi hl)) q.2⟩
theorem en_lst [Plain R] {xs : List α} (h : EL X Γ es R xs) (hz : xs.length ≤ sizeLine := by first | decide | (show (0 : Nat) ≤ _; exact Nat.zero_le _)) : EN X Γ (.List es pos) R (· = xs) :=
  EN.of (pe_lst pa_ta) fun W σ H Q hi hh f => h.ta hi hh fun vs H1 gs e1 qg sk => by
    subst qg
    have pr := slots_paired sk
    refine ⟨by rw [pr.length]; exact hz, fun t ht => ?_⟩
    obtain ⟨e3, n3, d3⟩ := new_lst (us := vs) e1.inv ht
    exact f t _ vs xs (e1.free t ht) (e1.trans e3) upd_same rfl (into1 e1.inv ht pr)
theorem dv_lst [Plain R] {xs : List α} (h : EL X Γ es R xs) (hz : xs.length ≤ sizeLine := by first | decide | (show (0 : Nat) ≤ _; exact Nat.zero_le _)) : EV X Γ (.List es pos) (rL R) xs := (en_lst h hz).ee
theorem ed_new : ED X Γ (.Dict [] [] pos) R (· = []) :=
  ED.of pe_dnewK fun W σ H Q hi hh f l hl => f l _ [] [] hl (Ext.new hi hl) upd_same rfl .nil

/-! ### subscripts, slices -/
theorem ee_ixL {RL : RepT (List α)} [LikeL RL R] {pl : List α → Prop} {pi : Int → Prop} (ha : EE X Γ a RL pl) (hb : EE X Γ b rI pi) (k : ∀ xs i, pl xs → pi i → ∃ x, atI xs i = some x ∧ p x) (hs : PlainIx b := by exact fun _ _ => rfl) : EE X Γ (.Subscript a b pos) R p :=
  EE.of (pe_ix ix_list pe_te pe_te hs) fun W σ H Q hi hh f => ha.te hi hh fun u H1 xs e1 px rx => hb.te e1.inv (hh.mono e1) fun v H2 i e2 py ry => by
    obtain ⟨x, hx, hp⟩ := k xs i px py
    obtain ⟨l, us, rfl, hd, pr⟩ := LikeL.rd e2.inv (RL.mono e2 rx)
    obtain ⟨w, hw, rw⟩ := atI_paired pr hx
    exact ⟨l, us, i, w, rfl, ry, sqL_of hd, hw, f w H2 x (e1.trans e2) hp rw⟩
theorem dv_ixL {RL : RepT (List α)} [LikeL RL R] {xs : List α} {i : Int} {x : α} (ha : EV X Γ a RL xs) (hb : EV X Γ b rI i) (hx : atI xs i = some x) (hs : PlainIx b := by exact fun _ _ => rfl) : EV X Γ (.Subscript a b pos) R x :=
  ee_ixL ha hb (fun _ _ h1 h2 => by subst h1 h2; exact ⟨x, hx, rfl⟩) hs
theorem dv_ixT [Plain R] {xs : List α} {i : Int} {x : α} (ha : EV X Γ a (rT R) xs) (hb : EV X Γ b rI i) (hx : atI xs i = some x) (hs : PlainIx b := by exact fun _ _ => rfl) : EV X Γ (.Subscript a b pos) R x :=
  EE.of (pe_ix ix_tup pe_te pe_te hs) fun W σ H Q hi hh f => ha.te hi hh fun u H1 xs e1 px rx => hb.te e1.inv (hh.mono e1) fun v H2 i e2 py ry => by
    subst px py
    obtain ⟨l, us, rfl, n, hd, pr⟩ := (rT R).mono e2 rx
    obtain ⟨w, hw, rw⟩ := atI_paired pr hx
    exact ⟨l, us, i, w, rfl, ry, sqT_of hd, hw, f w H2 x (e1.trans e2) rfl rw⟩
theorem dv_fst [Plain R] [Plain S] {x : α × β} {j ps} (ha : EV X Γ a (rP R S) x) : EV X Γ (.Subscript a (.Constant (.int 0) j ps) pos) R x.1 :=
  EE.of (pe_ix ix_tup pe_te pe_int fun _ _ => rfl) fun W σ H Q hi hh f => ha.te hi hh fun u H1 xs e1 px rx => by
    subst px
    obtain ⟨l, u1, u2, rfl, n, hd, r1, r2⟩ := rx
    exact ⟨l, _, 0, u1, rfl, rfl, sqT_of hd, rfl, f _ H1 _ e1 rfl r1⟩
theorem dv_snd [Plain R] [Plain S] {x : α × β} {j ps} (ha : EV X Γ a (rP R S) x) : EV X Γ (.Subscript a (.Constant (.int 1) j ps) pos) S x.2 :=
  EE.of (pe_ix ix_tup pe_te pe_int fun _ _ => rfl) fun W σ H Q hi hh f => ha.te hi hh fun u H1 xs e1 px rx => by
    subst px
    obtain ⟨l, u1, u2, rfl, n, hd, r1, r2⟩ := rx
    exact ⟨l, _, 1, u2, rfl, rfl, sqT_of hd, rfl, f _ H1 _ e1 rfl r2⟩
/-- pair[int(b)]: two of one kind -/
theorem dv_pick [Plain R] {x : α × α} {k : Bool} (ha : EV X Γ a (rP R R) x) (hb : EV X Γ b rI (if k then 1 else 0)) (hs : PlainIx b := by exact fun _ _ => rfl) : EV X Γ (.Subscript a b pos) R (if k then x.2 else x.1) :=
  EE.of (pe_ix ix_tup pe_te pe_te hs) fun W σ H Q hi hh f => ha.te hi hh fun u H1 xs e1 px rx => hb.te e1.inv (hh.mono e1) fun v H2 i e2 py ry => by
    subst px py
    obtain ⟨l, u1, u2, rfl, n, hd, r1, r2⟩ := (rP R R).mono e2 rx
    cases k with
    | true => exact ⟨l, _, 1, u2, rfl, ry, sqT_of hd, rfl, f _ H2 _ (e1.trans e2) rfl r2⟩
    | false => exact ⟨l, _, 0, u1, rfl, ry, sqT_of hd, rfl, f _ H2 _ (e1.trans e2) rfl r1⟩
theorem dv_q0 [Plain R] [Plain S] [Plain T] {x : α × β × γ} {j ps} (ha : EV X Γ a (rQ R S T) x) : EV X Γ (.Subscript a (.Constant (.int 0) j ps) pos) R x.1 :=
  EE.of (pe_ix ix_tup pe_te pe_int fun _ _ => rfl) fun W σ H Q hi hh f => ha.te hi hh fun u H1 xs e1 px rx => by
    subst px
    obtain ⟨l, u1, u2, u3, rfl, n, hd, r1, r2, r3⟩ := rx
    exact ⟨l, _, 0, u1, rfl, rfl, sqT_of hd, rfl, f _ H1 _ e1 rfl r1⟩
theorem dv_q1 [Plain R] [Plain S] [Plain T] {x : α × β × γ} {j ps} (ha : EV X Γ a (rQ R S T) x) : EV X Γ (.Subscript a (.Constant (.int 1) j ps) pos) S x.2.1 :=
  EE.of (pe_ix ix_tup pe_te pe_int fun _ _ => rfl) fun W σ H Q hi hh f => ha.te hi hh fun u H1 xs e1 px rx => by
    subst px
    obtain ⟨l, u1, u2, u3, rfl, n, hd, r1, r2, r3⟩ := rx
    exact ⟨l, _, 1, u2, rfl, rfl, sqT_of hd, rfl, f _ H1 _ e1 rfl r2⟩
/-- a text's sign -/
theorem ee_ixS {ps : Str → Prop} {pi : Int → Prop} {pr : Str → Prop} (ha : EE X Γ a rS ps) (hb : EE X Γ b rI pi) (k : ∀ z i, ps z → pi i → z.length ≤ sizeLine ∧ ∃ c, atI z.cps.toList i = some c ∧ pr ⟨#[c]⟩) (hs : PlainIx b := by exact fun _ _ => rfl) : EE X Γ (.Subscript a b pos) rS pr :=
  EE.of (pe_ix ix_str pe_te pe_te hs) fun W σ H Q hi hh f => ha.te hi hh fun u H1 xs e1 px rx => hb.te e1.inv (hh.mono e1) fun v H2 i e2 py ry => by
    obtain ⟨hz, c, hc, hp⟩ := k xs i px py
    exact ⟨xs, i, c, rx, ry, hz, hc, f _ H2 _ (e1.trans e2) hp rfl⟩
/-- a part of a slice -/
def EO (X : Cx) (Γ : ECtx) (e : Option Expr) (q : Option Int → Prop) : Prop :=
  ∀ (W : Wd) (σ : L2.St) (H : Hp) (pins : List (Addr × Obj)) (s : Shared) (Q : Option Int → Hp → Prop), W.I H → HoldsE W H σ Γ → Inv X pins σ H s →
    (∀ o H1, Ext W H H1 → q o → Q o H1) → wpAny (model X.prog X.w) X.A (evalPart e X.env) (fun u s' => ∃ o H', Inv X pins σ H' s' ∧ IsPart u o ∧ Q o H') X.xe s
def tp (X : Cx) (e : Option Expr) : TO := fun σ H Q => ∀ (pins : List (Addr × Obj)) (s : Shared), Inv X pins σ H s → wpAny (model X.prog X.w) X.A (evalPart e X.env) (fun u s' => ∃ o H', Inv X pins σ H' s' ∧ IsPart u o ∧ Q o H') X.xe s
theorem po_tp {e : Option Expr} : PO X e (tp X e) := ⟨fun pins s _ _ _ I h => h pins s I⟩
theorem EO.tp {e : Option Expr} {q : Option Int → Prop} {Q : Option Int → Hp → Prop} (h : EO X Γ e q) (hi : W.I H) (hh : HoldsE W H σ Γ) (k : ∀ o H1, Ext W H H1 → q o → Q o H1) : tp X e σ H Q := fun pins s I => h W σ H pins s Q hi hh I k
theorem eo_none : EO X Γ none (· = none) := fun W σ H pins s Q hi hh I k => po_none.run pins s σ H Q I (k none H (Ext.refl hi) rfl)
theorem eo_some {pi : Int → Prop} (h : EE X Γ e rI pi) : EO X Γ (some e) (fun o => ∃ i, o = some i ∧ pi i) := fun W σ H pins s Q hi hh I k =>
  (po_some pe_te).run pins s σ H Q I (h.te hi hh fun v H1 x e1 px r => ⟨x, r, k _ H1 e1 ⟨x, rfl, px⟩⟩)
theorem en_slL {RL : RepT (List α)} [LikeL RL R] [Plain R] {lo hi : Option Expr} {p2} {pl : List α → Prop} {ql qh : Option Int → Prop} {pr : List α → Prop} (ha : EE X Γ a RL pl) (hl : EO X Γ lo ql) (hu : EO X Γ hi qh) (k : ∀ xs l u, pl xs → ql l → qh u → pr (cutL xs l u)) :
    EN X Γ (.Subscript a (.Slice lo hi none p2) pos) R pr :=
  EN.of (pe_slice sl_list pe_te po_tp po_tp) fun W σ H Q hi hh f => ha.te hi hh fun u H1 xs e1 px rx => hl.tp e1.inv (hh.mono e1) fun l H2 e2 ql => hu.tp e2.inv (hh.mono (e1.trans e2)) fun h H3 e3 qh => by
    obtain ⟨a, us, rfl, hd, pr⟩ := LikeL.rd e3.inv (RL.mono e3 (RL.mono e2 rx))
    have e13 := (e1.trans e2).trans e3
    refine ⟨a, us, rfl, sqL_of hd, fun t ht => ?_⟩
    exact f t _ _ _ (e13.free t ht) (e13.trans (Ext.new e3.inv ht)) upd_same (k _ _ _ px ql qh) (into1 e3.inv ht (cut_paired l h pr))
theorem en_rev {RL : RepT (List α)} [LikeL RL R] [Plain R] {k p1 p2 p3} {xs : List α} (ha : EV X Γ a RL xs) : EN X Γ (.Subscript a (.Slice none none (some (.UnaryOp .USub (.Constant (.int 1) k p1) p2)) p3) pos) R (· = xs.reverse) :=
  EN.of (pe_revL pe_te) fun W σ H Q hi hh f => ha.te hi hh fun u H1 xs e1 px rx => by
    subst px
    obtain ⟨a, us, rfl, hd, pr⟩ := LikeL.rd e1.inv rx
    refine ⟨a, us, rfl, sqL_of hd, fun t ht => ?_⟩
    exact f t _ _ _ (e1.free t ht) (e1.trans (Ext.new e1.inv ht)) upd_same rfl (into1 e1.inv ht (Paired.rev pr))
/-- t[lo:], a tuple -/
theorem ee_slT [Plain R] {lo hi : Option Expr} {p2} {xs : List α} {ql qh : Option Int → Prop} {pr : List α → Prop} (ha : EV X Γ a (rT R) xs) (hl : EO X Γ lo ql) (hu : EO X Γ hi qh) (k : ∀ l u, ql l → qh u → pr (cutL xs l u)) :
    EE X Γ (.Subscript a (.Slice lo hi none p2) pos) (rT R) pr :=
  EE.of (pe_slice sl_tupA pe_te po_tp po_tp) fun W σ H Q hi hh f => ha.te hi hh fun u H1 xs e1 px rx => hl.tp e1.inv (hh.mono e1) fun l H2 e2 ql => hu.tp e2.inv (hh.mono (e1.trans e2)) fun h H3 e3 qh => by
    subst px
    obtain ⟨a, us, rfl, n, hd, pr⟩ := (rT R).mono e3 ((rT R).mono e2 rx)
    have e13 := (e1.trans e2).trans e3
    have hl := pr.length
    refine ⟨a, us, rfl, sqT_of hd, fun hw => ?_, fun hw t ht => ?_⟩
    · have ec : cutL xs l h = xs := by
        unfold cutL
        rw [← hl, hw.1, hw.2, hl]
        simp
      exact f _ _ _ e13 (k _ _ ql qh) ⟨a, us, rfl, n, hd, by rw [ec]; exact pr⟩
    · obtain ⟨e4, n4, d4⟩ := new_tup (us := cutV us l h) e3.inv ht
      exact f _ _ _ (e13.trans e4) (k _ _ ql qh) ⟨t, _, rfl, n4, d4, prMono e4 (cut_paired l h pr)⟩
/-- z[:n], a text -/
theorem dv_slS {lo hi : Option Expr} {p2} {z : Str} {ql qh : Option Int → Prop} {pr : Str → Prop} (ha : EV X Γ a rS z) (hl : EO X Γ lo ql) (hu : EO X Γ hi qh) (hz : z.length ≤ sizeLine) (k : ∀ l u, ql l → qh u → pr (cutS z l u)) :
    EE X Γ (.Subscript a (.Slice lo hi none p2) pos) rS pr :=
  EE.of (pe_slice sl_str pe_te po_tp po_tp) fun W σ H Q hi hh f => ha.te hi hh fun u H1 xs e1 px rx => hl.tp e1.inv (hh.mono e1) fun l H2 e2 ql => hu.tp e2.inv (hh.mono (e1.trans e2)) fun h H3 e3 qh => by
    subst px
    exact ⟨xs, rx, hz, f _ H3 _ ((e1.trans e2).trans e3) (k _ _ ql qh) rfl⟩
/-! ### dicts -/
theorem ee_dget {RD : RepT (List (Str × α))} [LikeD RD R] {pd : List (Str × α) → Prop} {pk : Str → Prop} (hu : X.A.units + 1 < cLine) (ha : EE X Γ a RD pd) (hb : EE X Γ b rS pk) (k : ∀ d z, pd d → pk z → ∃ x, lk d z = some x ∧ p x) (hs : NoSl b := by exact fun _ _ => rfl) : EE X Γ (.Subscript a b pos) R p :=
  EE.of (pe_dget hu pe_te pe_te hs) fun W σ H Q hi hh f => ha.te hi hh fun u H1 d e1 px rx => hb.te e1.inv (hh.mono e1) fun v H2 z e2 py ry => by
    obtain ⟨x, hx, hp⟩ := k d z px py
    obtain ⟨l, us, rfl, hd, pr⟩ := LikeD.rd e2.inv (RD.mono e2 rx)
    rcases lk_paired (k := z) pr with ⟨q, _⟩ | ⟨w, y, q1, q2, r⟩
    · rw [hx] at q; cases q
    · rw [hx] at q1; cases q1
      exact ⟨l, w, rfl, .inl ⟨us, .inr z, rd_dK hd, ry, q2.symm⟩, f w H2 x (e1.trans e2) hp r⟩
theorem dv_dget {RD : RepT (List (Str × α))} [LikeD RD R] {d : List (Str × α)} {z : Str} {x : α} (hu : X.A.units + 1 < cLine) (ha : EV X Γ a RD d) (hb : EV X Γ b rS z) (hx : lk d z = some x) (hs : NoSl b := by exact fun _ _ => rfl) : EV X Γ (.Subscript a b pos) R x :=
  ee_dget hu ha hb (fun _ _ h1 h2 => by subst h1 h2; exact ⟨x, hx, rfl⟩) hs
theorem dv_din {RD : RepT (List (Str × α))} [LikeD RD R] {d : List (Str × α)} {z : Str} (hu : X.A.units + 1 < cLine) (ha : EV X Γ a rS z) (hb : EV X Γ b RD d) (h1 : behindInMarks .In b = false := by first | rfl | with_unfolding_all rfl) : EV X Γ (.Compare a [.In] [b] pos) rB (lk d z).isSome :=
  EE.of (pe_cmp (pc_din hu pe_te pe_te) h1) fun W σ H Q hi hh f => ha.te hi hh fun u H1 z e1 px rx => hb.te e1.inv (hh.mono e1) fun v H2 d e2 py ry => by
    subst px py
    obtain ⟨l, us, rfl, hd, pr⟩ := LikeD.rd e2.inv ry
    refine ⟨l, valV us (.inr z), rfl, .inl ⟨us, .inr z, rd_dK hd, rx, rfl⟩, f _ H2 _ (e1.trans e2) rfl ?_⟩
    rcases lk_paired (k := z) pr with ⟨q1, q2⟩ | ⟨w, y, q1, q2, r⟩ <;> rw [q1, q2] <;> rfl
end
end K62

end

section
set_option Elab.async false
set_option linter.all false
set_option maxRecDepth 100000
set_option maxHeartbeats 4000000
/-! calls -/
namespace K62
open PySem PySem.Spec PyProof.Rows L2
/-- a built-in of one argument -/
def CallE {α γ : Type} (X : Cx) (f : Value) (S : RepT α) (R : RepT γ) (C : α → Prop) (g : α → γ → Prop) : Prop :=
  ∃ r, CallR X f r ∧ ∀ (W : Wd) H x u (Q : VK), W.I H → S.r W H u x → C x → (∀ z H1 y, Ext W H H1 → g x y → R.r W H1 z y → Q z H1) → r [u] H Q
/-- .. that makes a list -/
def CallN {α γ : Type} (X : Cx) (f : Value) (S : RepT α) (R : RepT γ) (C : α → Prop) (g : α → List γ → Prop) : Prop :=
  ∃ r, CallR X f r ∧ ∀ (W : Wd) H x u (Q : VK), W.I H → S.r W H u x → C x → (∀ l us ys, H l = none → g x ys → Paired (R.r (W.adds [(l, .lst us)]) (upd H l (.lst us))) us ys → Q (.ref l) (upd H l (.lst us))) → r [u] H Q
section
variable {X : Cx} {Γ : ECtx} {e a b c : Expr} {es : List Expr} {α β γ δ : Type} {R : RepT α} {S : RepT β} {T : RepT γ} {U : RepT δ} {p : α → Prop} {q : β → Prop} {pos pp : Pos} {W : Wd} {σ : L2.St} {H : Hp}
theorem ee_cb {n : Str} {id : String} {C : α → Prop} {g : α → β → Prop} (hc : CallE X (.builtin id) R S C g) (ha : EE X Γ a R p) (k : ∀ x, p x → C x ∧ ∀ y, g x y → q y) (hm : X.mg n = none) (hv : bootBuiltins n = some (.builtin id) := by decide +kernel) (hg : Gl X n := by rfl)
    (ns : NS X a := by intro _; rfl) (hn : n ≠ "__name__" := by decide) (hdb : (n == ("__debug__" : Str)) = false := by decide) : EE X Γ (.Call (.Name n pp) [a] [] pos) S q := by
  obtain ⟨r, h, kk⟩ := hc
  exact EE.of (pe_callB h hg hm hv (pa_cons pe_te pa_nil (ns _)) hn hdb (ns _) rfl) fun W σ H Q hi hh f => ha.te hi hh fun u H1 x e1 px rx =>
    kk W H1 x u Q e1.inv rx (k x px).1 fun z H2 y e2 gy ry => f z H2 y (e1.trans e2) ((k x px).2 y gy) ry
theorem ee_ct {n : Str} {t : String} {C : α → Prop} {g : α → β → Prop} (hc : CallE X (.type t) R S C g) (ha : EE X Γ a R p) (k : ∀ x, p x → C x ∧ ∀ y, g x y → q y) (hm : X.mg n = none) (hv : bootBuiltins n = some (.type t) := by decide +kernel) (hg : Gl X n := by rfl)
    (ns : NS X a := by intro _; rfl) (hn : n ≠ "__name__" := by decide) (hdb : (n == ("__debug__" : Str)) = false := by decide) : EE X Γ (.Call (.Name n pp) [a] [] pos) S q := by
  obtain ⟨r, h, kk⟩ := hc
  exact EE.of (pe_callTy h hg hm hv (pa_cons pe_te pa_nil (ns _)) hn hdb (ns _) rfl) fun W σ H Q hi hh f => ha.te hi hh fun u H1 x e1 px rx =>
    kk W H1 x u Q e1.inv rx (k x px).1 fun z H2 y e2 gy ry => f z H2 y (e1.trans e2) ((k x px).2 y gy) ry
theorem en_cb {n : Str} {id : String} {C : α → Prop} {g : α → List β → Prop} {q : List β → Prop} (hc : CallN X (.builtin id) R S C g) (ha : EE X Γ a R p) (k : ∀ x, p x → C x ∧ ∀ y, g x y → q y) (hm : X.mg n = none) (hv : bootBuiltins n = some (.builtin id) := by decide +kernel) (hg : Gl X n := by rfl)
    (ns : NS X a := by intro _; rfl) (hn : n ≠ "__name__" := by decide) (hdb : (n == ("__debug__" : Str)) = false := by decide) : EN X Γ (.Call (.Name n pp) [a] [] pos) S q := by
  obtain ⟨r, h, kk⟩ := hc
  exact EN.of (pe_callB h hg hm hv (pa_cons pe_te pa_nil (ns _)) hn hdb (ns _) rfl) fun W σ H Q hi hh f => ha.te hi hh fun u H1 x e1 px rx =>
    kk W H1 x u Q e1.inv rx (k x px).1 fun l us ys hl gy ry => f l _ us ys (e1.free l hl) (e1.trans (Ext.new e1.inv hl)) upd_same ((k x px).2 ys gy) ry
theorem en_ct {n : Str} {t : String} {C : α → Prop} {g : α → List β → Prop} {q : List β → Prop} (hc : CallN X (.type t) R S C g) (ha : EE X Γ a R p) (k : ∀ x, p x → C x ∧ ∀ y, g x y → q y) (hm : X.mg n = none) (hv : bootBuiltins n = some (.type t) := by decide +kernel) (hg : Gl X n := by rfl)
    (ns : NS X a := by intro _; rfl) (hn : n ≠ "__name__" := by decide) (hdb : (n == ("__debug__" : Str)) = false := by decide) : EN X Γ (.Call (.Name n pp) [a] [] pos) S q := by
  obtain ⟨r, h, kk⟩ := hc
  exact EN.of (pe_callTy h hg hm hv (pa_cons pe_te pa_nil (ns _)) hn hdb (ns _) rfl) fun W σ H Q hi hh f => ha.te hi hh fun u H1 x e1 px rx =>
    kk W H1 x u Q e1.inv rx (k x px).1 fun l us ys hl gy ry => f l _ us ys (e1.free l hl) (e1.trans (Ext.new e1.inv hl)) upd_same ((k x px).2 ys gy) ry
/-- told by the values: y is g x -/
theorem dv_cb {n : Str} {id : String} {C : α → Prop} {g : α → β} {x : α} (hc : CallE X (.builtin id) R S C (fun x y => y = g x)) (ha : EV X Γ a R x) (hm : X.mg n = none) (h : C x) (hv : bootBuiltins n = some (.builtin id) := by decide +kernel) (hg : Gl X n := by rfl)
    (ns : NS X a := by intro _; rfl) (hn : n ≠ "__name__" := by decide) (hdb : (n == ("__debug__" : Str)) = false := by decide) : EV X Γ (.Call (.Name n pp) [a] [] pos) S (g x) :=
  ee_cb hc ha (fun y hy => by rw [hy]; exact ⟨h, fun _ h => h⟩) hm hv hg ns hn hdb
theorem dv_ct {n : Str} {t : String} {C : α → Prop} {g : α → β} {x : α} (hc : CallE X (.type t) R S C (fun x y => y = g x)) (ha : EV X Γ a R x) (hm : X.mg n = none) (h : C x) (hv : bootBuiltins n = some (.type t) := by decide +kernel) (hg : Gl X n := by rfl)
    (ns : NS X a := by intro _; rfl) (hn : n ≠ "__name__" := by decide) (hdb : (n == ("__debug__" : Str)) = false := by decide) : EV X Γ (.Call (.Name n pp) [a] [] pos) S (g x) :=
  ee_ct hc ha (fun y hy => by rw [hy]; exact ⟨h, fun _ h => h⟩) hm hv hg ns hn hdb
abbrev C1 : α → Prop := fun _ => True
theorem c_lenL {RL : RepT (List α)} [LikeL RL R] : CallE X (.builtin "len") RL rI C1 (fun xs n => n = (xs.length : Int)) :=
  ⟨_, call_len, fun W H x u Q hi r _ k => let ⟨l, us, e, hd, pr⟩ := LikeL.rd hi r; ⟨u, us.length, rfl, by rw [e]; exact .inl ⟨us, sqL_of hd, rfl⟩, k _ H _ (Ext.refl hi) rfl (by rw [pr.length]; rfl)⟩⟩
theorem c_lenT [Plain R] : CallE X (.builtin "len") (rT R) rI C1 (fun xs n => n = (xs.length : Int)) :=
  ⟨_, call_len, fun W H x u Q hi r _ k => let ⟨l, us, e, n, hd, pr⟩ := r; ⟨u, us.length, rfl, by rw [e]; exact .inr ⟨us, sqT_of hd, rfl⟩, k _ H _ (Ext.refl hi) rfl (by rw [pr.length]; rfl)⟩⟩
theorem c_lenP [Plain R] [Plain S] : CallE X (.builtin "len") (rP R S) rI C1 (fun _ n => n = 2) :=
  ⟨_, call_len, fun W H x u Q hi r _ k => let ⟨l, u1, u2, e, n, hd, _⟩ := r; ⟨u, 2, rfl, by rw [e]; exact .inr ⟨_, sqT_of hd, rfl⟩, k _ H _ (Ext.refl hi) rfl rfl⟩⟩
theorem c_lenQ [Plain R] [Plain S] [Plain T] : CallE X (.builtin "len") (rQ R S T) rI C1 (fun _ n => n = 3) :=
  ⟨_, call_len, fun W H x u Q hi r _ k => let ⟨l, u1, u2, u3, e, n, hd, _⟩ := r; ⟨u, 3, rfl, by rw [e]; exact .inr ⟨_, sqT_of hd, rfl⟩, k _ H _ (Ext.refl hi) rfl rfl⟩⟩
theorem c_lenS : CallE X (.builtin "len") rS rI (fun z => z.length ≤ sizeLine) (fun z n => n = (z.length : Int)) :=
  ⟨_, call_len_str, fun W H x u Q hi r h k => ⟨x, by cases r; rfl, h, k _ H _ (Ext.refl hi) rfl rfl⟩⟩
theorem call_lenRd : CallR X (.builtin "len") (fun xs H Q => ∃ a kvs, xs = [V.ref a] ∧ Rd H a (.dK kvs) ∧ Q (.int kvs.length) H) := by
  intro pins s σ H xs us Q I r h
  obtain ⟨a, kvs, rfl, ha, q⟩ := h
  obtain ⟨u, rfl, ru⟩ := vals1 r
  cases ru
  exact d_len I ha fun t s' I' => ⟨.int kvs.length, H, I', ⟨t, rfl⟩, q⟩
theorem c_lenD {RD : RepT (List (Str × α))} [LikeD RD R] : CallE X (.builtin "len") RD rI C1 (fun xs n => n = (xs.length : Int)) :=
  ⟨_, call_lenRd, fun W H x u Q hi r _ k => let ⟨l, us, e, hd, pr⟩ := LikeD.rd hi r; ⟨l, us, by rw [e], rd_dK hd, k _ H _ (Ext.refl hi) rfl (by rw [pr.length]; rfl)⟩⟩
theorem c_all {RL : RepT (List Bool)} [LikeL RL rB] (hc : X.calm = true) : CallE X (.builtin "all") RL rB C1 (fun xs b => b = xs.all id) :=
  ⟨_, cr_all hc, fun W H x u Q hi r _ k => let ⟨l, us, e, hd, pr⟩ := LikeL.rd hi r; ⟨l, x, by rw [e], by rw [← flat_map pr]; exact sqL_of hd, k _ H _ (Ext.refl hi) rfl rfl⟩⟩
theorem c_any {RL : RepT (List Bool)} [LikeL RL rB] (hc : X.calm = true) : CallE X (.builtin "any") RL rB C1 (fun xs b => b = xs.any id) :=
  ⟨_, cr_any hc, fun W H x u Q hi r _ k => let ⟨l, us, e, hd, pr⟩ := LikeL.rd hi r; ⟨l, x, by rw [e], by rw [← flat_map pr]; exact sqL_of hd, k _ H _ (Ext.refl hi) rfl rfl⟩⟩
theorem c_intB : CallE X (.type "int") rB rI C1 (fun b n => n = if b then 1 else 0) := ⟨_, call_int1, fun W H x u Q hi r _ k => .inr ⟨x, by cases r; rfl, k _ H _ (Ext.refl hi) rfl rfl⟩⟩
theorem c_intI : CallE X (.type "int") rI rI C1 (fun b n => n = b) := ⟨_, call_int1, fun W H x u Q hi r _ k => .inl ⟨x, by cases r; rfl, k _ H _ (Ext.refl hi) rfl rfl⟩⟩
theorem c_abs : CallE X (.builtin "abs") rI rI C1 (fun i n => n = if i < 0 then -i else i) := ⟨_, call_abs, fun W H x u Q hi r _ k => ⟨x, by cases r; rfl, k _ H _ (Ext.refl hi) rfl rfl⟩⟩
theorem c_tupL {RL : RepT (List α)} [LikeL RL R] [Plain R] : CallE X (.type "tuple") RL (rT R) C1 (fun xs ys => ys = xs) :=
  ⟨_, call_tuple_of, fun W H x u Q hi r _ k => let ⟨l, us, e, hd, pr⟩ := LikeL.rd hi r; ⟨l, us, by rw [e], .inl ⟨sqL_of hd, fun t ht => let ⟨e3, n3, d3⟩ := new_tup (us := us) hi ht; k _ _ x e3 rfl ⟨t, us, rfl, n3, d3, prMono e3 pr⟩⟩⟩⟩
theorem c_tupT [Plain R] : CallE X (.type "tuple") (rT R) (rT R) C1 (fun xs ys => ys = xs) :=
  ⟨_, call_tuple_of, fun W H x u Q hi r _ k => let ⟨l, us, e, n, hd, pr⟩ := r; ⟨l, us, by rw [e], .inr ⟨sqT_of hd, k _ H x (Ext.refl hi) rfl ⟨l, us, rfl, n, hd, pr⟩⟩⟩⟩
theorem c_lstL {RL : RepT (List α)} [LikeL RL R] [Plain R] : CallN X (.type "list") RL R C1 (fun xs ys => ys = xs) :=
  ⟨_, call_list_of, fun W H x u Q hi r _ k => let ⟨l, us, e, hd, pr⟩ := LikeL.rd hi r; ⟨l, us, by rw [e], .inl (sqL_of hd), fun t ht => k t us x ht rfl (into1 hi ht pr)⟩⟩
theorem c_lstT [Plain R] : CallN X (.type "list") (rT R) R C1 (fun xs ys => ys = xs) :=
  ⟨_, call_list_of, fun W H x u Q hi r _ k => let ⟨l, us, e, n, hd, pr⟩ := r; ⟨l, us, by rw [e], .inr (sqT_of hd), fun t ht => k t us x ht rfl (into1 hi ht pr)⟩⟩
theorem c_lstD {RD : RepT (List (Str × α))} [LikeD RD R] (hc : X.calm = true) : CallN X (.type "list") RD rS C1 (fun xs ys => ys = xs.map (·.1)) :=
  ⟨_, call_listD hc, fun W H x u Q hi r _ k => let ⟨l, us, e, hd, pr⟩ := LikeD.rd hi r; ⟨l, us, by rw [e], rd_dK hd, fun t ht => by
    have ek : us.map (fun kv => kV kv.1) = (x.map (·.1)).map V.str := by
      have e2 := congrArg (List.map kV) (keys_paired pr)
      rw [List.map_map, List.map_map] at e2
      exact e2
    rw [ek]
    exact k t _ _ ht rfl (map_flat _)⟩⟩
theorem c_sortS {RL : RepT (List Str)} [LikeL RL rS] : CallN X (.builtin "sorted") RL rS (fun xs => xs.length < 64) (fun xs ys => ys.Perm xs ∧ sortedS ys = true) :=
  ⟨_, cr_sortedS, fun W H x u Q hi r h k => let ⟨l, us, e, hd, pr⟩ := LikeL.rd hi r; ⟨l, x, by rw [e], by rw [← flat_map pr]; exact sqL_of hd, h, fun ys t p s ht => k t _ ys ht ⟨p, s⟩ (map_flat _)⟩⟩
theorem c_sortD {RD : RepT (List (Str × α))} [LikeD RD R] (hc : X.calm = true) : CallN X (.builtin "sorted") RD rS (fun xs => xs.length < 64) (fun xs ys => ys.Perm (xs.map (·.1)) ∧ sortedS ys = true) :=
  ⟨_, call_sortedD hc, fun W H x u Q hi r h k => let ⟨l, us, e, hd, pr⟩ := LikeD.rd hi r; ⟨l, us, x.map (·.1), by rw [e], rd_dK hd, keys_paired pr, by rw [List.length_map]; exact h, fun ys t p s ht => k t _ ys ht ⟨p, s⟩ (map_flat _)⟩⟩
theorem ed_dict {RD : RepT (List (Str × α))} [LikeD RD R] [Plain R] {d : List (Str × α)} (ha : EV X Γ a RD d) (hm : X.mg "dict" = none) (hg : Gl X "dict" := by rfl) (ns : NS X a := by intro _; rfl) : ED X Γ (.Call (.Name "dict" pp) [a] [] pos) R (· = d) :=
  ED.of (pe_callTy call_dictD hg hm (by decide +kernel) (pa_cons pe_te pa_nil (ns _)) (by decide) (by decide) (ns _) rfl) fun W σ H Q hi hh f => ha.te hi hh fun u H1 x e1 px rx => by
    obtain ⟨l, us, rfl, hd, pr⟩ := LikeD.rd e1.inv rx
    exact ⟨l, us, rfl, rd_dK hd, fun t ht => f t _ us x (e1.free t ht) (e1.trans (Ext.new e1.inv ht)) upd_same px (into1D e1.inv ht pr)⟩

/-! ### isinstance -/
class HasTy (R : RepT α) (t : outParam String) : Prop where
  ty : ∀ (K : PySem.W.Frag) (W : Wd) H v x, W.I H → R.r W H v x → TyX K H v (.type t)
instance : HasTy rS "str" := ⟨fun K W H v x _ r => by cases r; exact .base (.str _)⟩
instance : HasTy rI "int" := ⟨fun K W H v x _ r => by cases r; exact .base (.int _)⟩
instance : HasTy rNat "int" := ⟨fun K W H v x _ r => by cases r; exact .base (.int _)⟩
instance : HasTy rN "NoneType" := ⟨fun K W H v x _ r => by cases r; exact .base .non⟩
theorem ty_lst {K : PySem.W.Frag} {l : Addr} {us : List V} (hd : rd H l = some (.lst us)) : TyX K H (.ref l) (.type "list") := by
  rcases rd_lst hd with h | ⟨o, h⟩
  · exact .base (.lst h)
  · exact .base (.frz h)
theorem ty_dk {K : PySem.W.Frag} {l : Addr} {us : List (Key × V)} (hd : rd H l = some (.dK us)) : TyX K H (.ref l) (.type "dict") := by
  rcases rd_dK hd with h | ⟨o, h⟩
  · exact .base (.dK h)
  · exact .fDict h
instance [Plain R] : HasTy (rL R) "list" := ⟨fun K W H v x hi ⟨l, us, e, n, hd, pr⟩ => by rw [e]; exact ty_lst hd⟩
instance : HasTy (rOL R) "list" := ⟨fun K W H v x hi ⟨l, us, e, n, hd, pr⟩ => by rw [e]; exact ty_lst (rd_l (hd _ hi))⟩
instance [Plain R] : HasTy (rT R) "tuple" := ⟨fun K W H v x hi ⟨l, us, e, n, hd, pr⟩ => by rw [e]; exact .base (.tup (rd_tup hd))⟩
instance [Plain R] [Plain S] : HasTy (rP R S) "tuple" := ⟨fun K W H v x hi ⟨l, u1, u2, e, n, hd, _⟩ => by rw [e]; exact .base (.tup (rd_tup hd))⟩
instance [Plain R] [Plain S] [Plain T] : HasTy (rQ R S T) "tuple" := ⟨fun K W H v x hi ⟨l, u1, u2, u3, e, n, hd, _⟩ => by rw [e]; exact .base (.tup (rd_tup hd))⟩
instance [Plain R] : HasTy (rD R) "dict" := ⟨fun K W H v x hi ⟨l, us, e, n, hd, pr⟩ => by rw [e]; exact ty_dk hd⟩
/-- isinstance(a, T) -/
theorem ee_isi {t T : String} {n : Str} {bb : Bool} (tyx : ∀ (W : Wd) H v x, W.I H → p x → R.r W H v x → TyX X.K H v (.type t)) (ha : EE X Γ a R p) (hm : X.mg "isinstance" = none) (hmT : X.mg n = none) (hb : kitB t T = some bb := by decide +kernel) (hT : bootBuiltins n = some (.type T) := by decide +kernel)
    (hg : Gl X "isinstance" := by rfl) (hgT : Gl X n := by rfl) (ns : NS X a := by intro _; rfl) {p1 p2 : Pos} (hn : n ≠ "__name__" := by decide) (hd : (n == ("__debug__" : Str)) = false := by decide) : EV X Γ (.Call (.Name "isinstance" p1) [a, .Name n p2] [] pos) rB bb :=
  EE.of (pe_callB call_isi hg hm (by decide +kernel) (pa_cons pe_te (pa_cons (pe_bltn (v := .ty T) hgT hmT hT rfl hn hd) pa_nil rfl) (ns _)) (by decide) (by decide) (ns _) rfl) fun W σ H Q hi hh f => ha.te hi hh fun u H1 x e1 px rx =>
    ⟨u, .ty T, .type t, .type T, bb, rfl, .ty T, tyx W H1 u x e1.inv px rx, kit_ty hb, f _ H1 bb e1 rfl rfl⟩
theorem dv_isi {t T : String} {n : Str} {bb : Bool} [HasTy R t] (ha : EE X Γ a R p) (hm : X.mg "isinstance" = none) (hmT : X.mg n = none) (hb : kitB t T = some bb := by decide +kernel) (hT : bootBuiltins n = some (.type T) := by decide +kernel)
    (hg : Gl X "isinstance" := by rfl) (hgT : Gl X n := by rfl) (ns : NS X a := by intro _; rfl) {p1 p2 : Pos} (hn : n ≠ "__name__" := by decide) (hd : (n == ("__debug__" : Str)) = false := by decide) : EV X Γ (.Call (.Name "isinstance" p1) [a, .Name n p2] [] pos) rB bb :=
  ee_isi (fun W H v x hi _ r => HasTy.ty X.K W H v x hi r) ha hm hmT hb hT hg hgT ns hn hd
/-- isinstance(a, (T1, T2)) -/
theorem dv_isi2 {t T1 T2 : String} {n1 n2 : Str} {b1 b2 : Bool} [HasTy R t] (ha : EE X Γ a R p) (hm : X.mg "isinstance" = none) (hm1 : X.mg n1 = none) (hm2 : X.mg n2 = none) (hb1 : kitB t T1 = some b1 := by decide +kernel) (hb2 : kitB t T2 = some b2 := by decide +kernel)
    (h1 : bootBuiltins n1 = some (.type T1) := by decide +kernel) (h2 : bootBuiltins n2 = some (.type T2) := by decide +kernel) (hg : Gl X "isinstance" := by rfl) (hg1 : Gl X n1 := by rfl) (hg2 : Gl X n2 := by rfl) (ns : NS X a := by intro _; rfl) {p1 p2 p3 p4 : Pos} {kk : Nat}
    (hn1 : n1 ≠ "__name__" := by decide) (hd1 : (n1 == ("__debug__" : Str)) = false := by decide) (hn2 : n2 ≠ "__name__" := by decide) (hd2 : (n2 == ("__debug__" : Str)) = false := by decide) :
    EV X Γ (.Call (.Name "isinstance" p1) [a, .Tuple [.Name n1 p2, .Name n2 p3] kk p4] [] pos) rB (b1 || b2) :=
  EE.of (pe_callB call_isiT hg hm (by decide +kernel) (pa_cons pe_te (pa_cons (pe_tup (pa_cons (pe_bltn (v := .ty T1) hg1 hm1 h1 rfl hn1 hd1) (pa_cons (pe_bltn (v := .ty T2) hg2 hm2 h2 rfl hn2 hd2) pa_nil rfl) rfl)) pa_nil rfl) (ns _)) (by decide) (by decide) (ns _) rfl) fun W σ H Q hi hh f =>
    ha.te hi hh fun u H1 x e1 px rx => ⟨by show 2 ≤ sizeLine; decide, fun t ht => by
      have e2 : Ext W H1 (upd H1 t (.tup [.ty T1, .ty T2])) := Ext.new e1.inv ht
      refine ⟨u, t, _, .type _, [.type T1, .type T2], b1 || b2, rfl, upd_same, .cons (.ty T1) (.cons (.ty T2) .nil), HasTy.ty X.K W _ u x e2.inv (R.mono e2 rx), ?_, f _ _ _ (e1.trans e2) rfl rfl⟩
      exact kitAny_cons (kit_ty hb1) (fun z => by subst z; exact kitAny_cons (kit_ty hb2) (fun z => by subst z; exact kitAny_nil) fun z => by subst z; rfl) fun z => by subst z; rfl⟩

/-! ### in, not in -/
def smp : V → Bool
  | .non => true
  | .int _ => true
  | .str _ => true
  | _ => false
theorem smp_flat {v : V} (h : smp v = true) : flatV v = true := by cases v <;> first | rfl | exact absurd h Bool.false_ne_true
theorem eqV_smp {u v : V} (h : smp u = true) (h' : smp v = true) : eqV u v = decide (u = v) := by
  cases u <;> cases v <;> first | exact absurd h Bool.false_ne_true | exact absurd h' Bool.false_ne_true | rfl | (simp [eqV]; done) | (simp [eqV]; rfl)
theorem inV_smp {f : α → V} {g : β → V} {x : α} {ys : List β} (hf : smp (f x) = true) (hg : ∀ y, smp (g y) = true) : inV (f x) (ys.map g) = ys.any fun y => decide (g y = f x) := by
  unfold inV
  rw [List.any_map]
  congr 1
  funext y
  exact eqV_smp (hg y) hf
theorem all_flat {g : β → V} (hg : ∀ y, smp (g y) = true) (ys : List β) : (ys.map g).all flatV = true := by
  rw [List.all_map]
  exact List.all_eq_true.mpr fun y _ => smp_flat (hg y)
theorem o_inL {f : α → V} {g : β → V} {RL : RepT (List β)} [LikeL RL (rF g)] (hf : ∀ x, smp (f x) = true) (hg : ∀ y, smp (g y) = true) : OpE X (compareOp .In) (rF f) RL rB CT (fun x ys => ys.any fun y => decide (g y = f x)) :=
  ⟨_, op_in_seq, fun W H x y u v Q hi hu hv _ k => by
    cases hu
    obtain ⟨l, us, rfl, hd, pr⟩ := LikeL.rd hi hv
    rw [flat_map pr] at hd
    exact ⟨l, _, rfl, .inl (sqL_of hd), smp_flat (hf x), all_flat hg y, k _ H (Ext.refl hi) (congrArg V.bl (inV_smp (hf x) hg))⟩⟩
theorem o_ninL {f : α → V} {g : β → V} {RL : RepT (List β)} [LikeL RL (rF g)] (hf : ∀ x, smp (f x) = true) (hg : ∀ y, smp (g y) = true) : OpE X (compareOp .NotIn) (rF f) RL rB CT (fun x ys => !ys.any fun y => decide (g y = f x)) :=
  ⟨_, op_notIn_seq, fun W H x y u v Q hi hu hv _ k => by
    cases hu
    obtain ⟨l, us, rfl, hd, pr⟩ := LikeL.rd hi hv
    rw [flat_map pr] at hd
    exact ⟨l, _, rfl, .inl (sqL_of hd), smp_flat (hf x), all_flat hg y, k _ H (Ext.refl hi) (congrArg (fun b => V.bl (!b)) (inV_smp (hf x) hg))⟩⟩
theorem o_inT {f : α → V} {g : β → V} (hf : ∀ x, smp (f x) = true) (hg : ∀ y, smp (g y) = true) : OpE X (compareOp .In) (rF f) (rT (rF g)) rB CT (fun x ys => ys.any fun y => decide (g y = f x)) :=
  ⟨_, op_in_seq, fun W H x y u v Q hi hu hv _ k => by
    cases hu
    obtain ⟨l, us, rfl, n, hd, pr⟩ := hv
    rw [flat_map pr] at hd
    exact ⟨l, _, rfl, .inr (sqT_of hd), smp_flat (hf x), all_flat hg y, k _ H (Ext.refl hi) (congrArg V.bl (inV_smp (hf x) hg))⟩⟩
theorem o_ninT {f : α → V} {g : β → V} (hf : ∀ x, smp (f x) = true) (hg : ∀ y, smp (g y) = true) : OpE X (compareOp .NotIn) (rF f) (rT (rF g)) rB CT (fun x ys => !ys.any fun y => decide (g y = f x)) :=
  ⟨_, op_notIn_seq, fun W H x y u v Q hi hu hv _ k => by
    cases hu
    obtain ⟨l, us, rfl, n, hd, pr⟩ := hv
    rw [flat_map pr] at hd
    exact ⟨l, _, rfl, .inr (sqT_of hd), smp_flat (hf x), all_flat hg y, k _ H (Ext.refl hi) (congrArg (fun b => V.bl (!b)) (inV_smp (hf x) hg))⟩⟩
theorem anyV {f : α → V} (hf : ∀ a b, f a = f b → a = b) (x : α) (ys : List α) [Decidable (x ∈ ys)] : (ys.any fun y => decide (f y = f x)) = decide (x ∈ ys) := by
  rw [Bool.eq_iff_iff, List.any_eq_true, decide_eq_true_eq]
  exact ⟨fun ⟨y, m, h⟩ => hf _ _ (of_decide_eq_true h) ▸ m, fun m => ⟨x, m, decide_eq_true rfl⟩⟩
theorem smpS (x : Str) : smp (V.str x) = true := rfl
theorem smpI (x : Int) : smp (V.int x) = true := rfl
theorem smpO (x : Option Str) : smp (oV x) = true := by cases x <;> rfl
theorem OpE.eq {f : Value → Value → Sem Value} {C : α → β → Prop} {g g' : α → β → γ} (h : OpE X f R S T C g) (e : ∀ x y, g x y = g' x y) : OpE X f R S T C g' := by
  have : g = g' := funext fun x => funext fun y => e x y
  rw [← this]; exact h
theorem o_inSL {RL : RepT (List Str)} [LikeL RL rS] : OpE X (compareOp .In) rS RL rB CT (fun x ys => decide (x ∈ ys)) := (o_inL smpS smpS).eq fun x ys => anyV (fun _ _ h => V.str.inj h) x ys
theorem o_ninSL {RL : RepT (List Str)} [LikeL RL rS] : OpE X (compareOp .NotIn) rS RL rB CT (fun x ys => !decide (x ∈ ys)) := (o_ninL smpS smpS).eq fun x ys => congrArg (!·) (anyV (fun _ _ h => V.str.inj h) x ys)
theorem o_inST : OpE X (compareOp .In) rS (rT rS) rB CT (fun x ys => decide (x ∈ ys)) := (o_inT smpS smpS).eq fun x ys => anyV (fun _ _ h => V.str.inj h) x ys
theorem o_ninST : OpE X (compareOp .NotIn) rS (rT rS) rB CT (fun x ys => !decide (x ∈ ys)) := (o_ninT smpS smpS).eq fun x ys => congrArg (!·) (anyV (fun _ _ h => V.str.inj h) x ys)
theorem o_ninIT : OpE X (compareOp .NotIn) rI (rT rI) rB CT (fun x ys => !decide (x ∈ ys)) := (o_ninT smpI smpI).eq fun x ys => congrArg (!·) (anyV (fun _ _ h => V.int.inj h) x ys)
theorem o_ninNT : OpE X (compareOp .NotIn) rNat (rT rNat) rB CT (fun x ys => !decide (x ∈ ys)) := (o_ninT (fun _ => rfl) (fun _ => rfl)).eq fun x ys => congrArg (!·) (anyV (fun _ _ h => Int.ofNat.inj (V.int.inj h)) x ys)
theorem o_ninOL {RL : RepT (List (Option Str))} [LikeL RL rO] : OpE X (compareOp .NotIn) rO RL rB CT (fun x ys => !decide (x ∈ ys)) := (o_ninL smpO smpO).eq fun x ys => congrArg (!·) (anyV (fun _ _ h => oV_inj h) x ys)
theorem o_inOL {RL : RepT (List Str)} [LikeL RL rS] : OpE X (compareOp .In) rO RL rB CT (fun x ys => decide (∃ y ∈ ys, x = some y)) := (o_inL smpO smpS).eq fun x ys => by
  rw [Bool.eq_iff_iff, List.any_eq_true, decide_eq_true_eq]
  constructor
  · rintro ⟨y, m, h⟩
    have h := of_decide_eq_true h
    cases x with
    | none => cases h
    | some z => exact ⟨y, m, by rw [V.str.inj h]⟩
  · rintro ⟨y, m, h⟩
    subst h
    exact ⟨y, m, decide_eq_true rfl⟩
/-- a sign in a text -/
theorem o_inSg : OpE X (compareOp .In) rS rS rB (fun x _ => ∃ c, x = ⟨#[c]⟩) (fun x y => decide (x.cps.getD 0 0 ∈ y.cps.toList)) :=
  ⟨_, op_in_sign, fun W H x y u v Q hi hu hv ⟨c, hc⟩ k => by
    cases hu; cases hv; subst hc
    exact ⟨c, y, rfl, rfl, k _ H (Ext.refl hi) rfl⟩⟩

/-! ### list + list -/
theorem op_catR : OpR X (binaryOp .Add) (fun x y H Q => ∃ l b xs zs, x = .ref l ∧ y = .ref b ∧ Rd H l (.lst xs) ∧ Rd H b (.lst zs) ∧ xs.length + zs.length ≤ sizeLine ∧ ∀ p, H p = none → Q (.ref p) (upd H p (.lst (xs ++ zs)))) := by
  intro pins s σ H x y v u Q I rx ry h
  obtain ⟨l, b, xs, zs, rfl, rfl, hH, hB, hz, q⟩ := h
  cases rx
  cases ry
  obtain ⟨z, its, n, r, e⟩ := hH.ok I.hok
  obtain ⟨z2, its2, n2, r2, e2⟩ := hB.ok I.hok
  have hl := r.length
  have hl2 := r2.length
  refine PySem.P.add_list e e2 ?_ (by rw [List.size_toArray, List.size_toArray]; omega)
  have ea : its.toArray ++ its2.toArray = (its ++ its2).toArray := by simp
  rw [ea]
  exact ⟨.ref _, _, I.lnew (t' := s.toks) (r.append r2) (by rw [List.length_append]; omega), rfl, q _ I.fresh⟩
theorem en_cat {RL RL' : RepT (List α)} [LikeL RL R] [LikeL RL' R] [Plain R] {pl pl' pr : List α → Prop} (ha : EE X Γ a RL pl) (hb : EE X Γ b RL' pl') (k : ∀ xs ys, pl xs → pl' ys → xs.length + ys.length ≤ sizeLine ∧ pr (xs ++ ys)) : EN X Γ (.BinOp a .Add b pos) R pr :=
  EN.of (pe_op op_catR pe_te pe_te) fun W σ H Q hi hh f => ha.te hi hh fun u H1 xs e1 px rx => hb.te e1.inv (hh.mono e1) fun v H2 ys e2 py ry => by
    obtain ⟨a, us, rfl, hd, pa⟩ := LikeL.rd e2.inv (RL.mono e2 rx)
    obtain ⟨b, vs, rfl, hd', pb⟩ := LikeL.rd e2.inv ry
    obtain ⟨hz, hp⟩ := k xs ys px py
    refine ⟨a, b, us, vs, rfl, rfl, rd_lst hd, rd_lst hd', by rw [pa.length, pb.length]; exact hz, fun t ht => ?_⟩
    exact f t _ _ _ ((e1.trans e2).free t ht) ((e1.trans e2).trans (Ext.new e2.inv ht)) upd_same hp (into1 e2.inv ht (Paired.app pa pb))
/-- t + u -/
theorem dv_catT [Plain R] {xs ys : List α} (ha : EV X Γ a (rT R) xs) (hb : EV X Γ b (rT R) ys) (hz : xs.length + ys.length ≤ sizeLine) : EV X Γ (.BinOp a .Add b pos) (rT R) (xs ++ ys) :=
  EE.of (pe_op op_catA pe_te pe_te) fun W σ H Q hi hh f => ha.te hi hh fun u H1 xs e1 px rx => hb.te e1.inv (hh.mono e1) fun v H2 ys e2 py ry => by
    subst px py
    obtain ⟨a, us, rfl, n, hd, pa⟩ := (rT R).mono e2 rx
    obtain ⟨b, vs, rfl, n', hd', pb⟩ := ry
    refine ⟨a, b, us, vs, rfl, rfl, sqT_of hd, sqT_of hd', by rw [pa.length, pb.length]; exact hz, fun hu => ?_, fun hu hv => ?_, fun hu hv t ht => ?_⟩
    · subst hu; cases pa
      exact f _ H2 _ (e1.trans e2) rfl ⟨b, vs, rfl, n', hd', pb⟩
    · subst hv; cases pb
      rw [List.append_nil] at f
      exact f _ H2 _ (e1.trans e2) rfl ⟨a, us, rfl, n, hd, pa⟩
    · obtain ⟨e3, n3, d3⟩ := new_tup (us := us ++ vs) e2.inv ht
      exact f _ _ _ ((e1.trans e2).trans e3) rfl ⟨t, _, rfl, n3, d3, prMono e3 (Paired.app pa pb)⟩

/-! ### defs -/
/-- a promise: from arguments that stand for (Γa a), pre a, comes a value that stands for some y with post a y -/
def spOf {A β : Type} (Ga : A → List Slot) (pre : A → Prop) (R : RepT β) (post : A → β → Prop) : Sp := fun vs H Q _ =>
  ∃ (a : A) (W : Wd), pre a ∧ W.I H ∧ SlotsOk W H vs (Ga a) ∧ ∀ v H1 y, Ext W H H1 → post a y → R.r W H1 v y → Q v H1
theorem ee_call {A : Type} {n : Str} {Ga : A → List Slot} {pre : A → Prop} {post : A → β → Prop} {k j : Nat} (c : C8.Cal X.prog X.w X.K X.mg X.base k n (spOf Ga pre S post) []) (hr : Room j X.A) (hk : k ≤ j)
    (ha : EA X Γ (e :: es) fun gs => ∃ a, pre a ∧ gs = Ga a ∧ ∀ y, post a y → q y) (hg : Gl X n := by rfl) (ns : NS X e := by intro _; rfl) (hpl : (backTo pos (starEach es X.env)).any (·.1) = false := by rfl) (hdb : (n == ("__debug__" : Str)) = false := by decide) : EE X Γ (.Call (.Name n pp) (e :: es) [] pos) S q :=
  EE.of (C8.pe_c c hr hk hg pa_ta hdb (ns _) hpl) fun W σ H Q hi hh f => ha.ta hi hh fun vs H1 gs e1 ⟨a, hpre, hgs, hpost⟩ sk => by
    subst hgs
    rw [List.append_nil]
    exact ⟨a, W, hpre, e1.inv, sk, fun v H2 y e2 py r => f v H2 y (e1.trans e2) (hpost y py) r⟩
end
end K62

end

section
set_option Elab.async false
set_option linter.all false
set_option maxRecDepth 100000
set_option maxHeartbeats 4000000
/-! what is walked, comprehensions -/
namespace K62
open PySem PySem.Spec PyProof.Rows L2
def WalkP {α : Type} (W : Wd) (Hs : Hp) (J : It) (R : RepT α) (xs : List α) : Prop :=
  ∀ (W2 : Wd) (H : Hp), AgrX W Hs W2 H → W2.I H → ∀ i, (∀ x, xs[i]? = some x → J.go i H ∧ ∀ v H', J.yld i H v H' → Ext W2 H H' ∧ R.r W2 H' v x) ∧ (xs[i]? = none → J.stop i H)
def ES {α : Type} (X : Cx) (Γ : ECtx) (tg iter : Expr) (R : RepT α) (p : List α → Prop) : Prop :=
  ∀ (W : Wd) (σ : L2.St) (H : Hp) (pins : List (Addr × Obj)) (s : Shared) (Q : It → Hp → Prop), W.I H → HoldsE W H σ Γ → Inv X pins σ H s →
    (∀ J H1 xs, Ext W H H1 → p xs → WalkP W H1 J R xs → Q J H1) →
    wpAny (model X.prog X.w) X.A (eval iter X.env) (fun v s1 => wpAny (model X.prog X.w) X.A (pyIter v) (PIE X pins σ tg Q) X.xe s1) X.xe s
def ti (X : Cx) (tg iter : Expr) : TI := fun σ H Q => ∀ (pins : List (Addr × Obj)) (s : Shared), Inv X pins σ H s →
  wpAny (model X.prog X.w) X.A (eval iter X.env) (fun v s1 => wpAny (model X.prog X.w) X.A (pyIter v) (PIE X pins σ tg Q) X.xe s1) X.xe s
theorem pi_ti {X : Cx} {tg iter : Expr} : PI X tg iter (ti X tg iter) := ⟨fun pins s _ _ _ I h => h pins s I⟩
section
variable {X : Cx} {Γ : ECtx} {e a b c tg iter elt : Expr} {es ifs : List Expr} {α β γ δ : Type} {R : RepT α} {S : RepT β} {T : RepT γ} {U : RepT δ} {p : List α → Prop} {q : List β → Prop} {pos pp : Pos} {W : Wd} {σ : L2.St} {H : Hp}
theorem ES.ti {Q : It → Hp → Prop} (h : ES X Γ tg iter R p) (hi : W.I H) (hh : HoldsE W H σ Γ) (k : ∀ J H1 xs, Ext W H H1 → p xs → WalkP W H1 J R xs → Q J H1) : ti X tg iter σ H Q := fun pins s I => h W σ H pins s Q hi hh I k
theorem ES.of {t : TI} (h : PI X tg iter t) (k : ∀ (W : Wd) σ H (Q : It → Hp → Prop), W.I H → HoldsE W H σ Γ → (∀ J H1 xs, Ext W H H1 → p xs → WalkP W H1 J R xs → Q J H1) → t σ H Q) : ES X Γ tg iter R p :=
  fun W σ H pins s Q hi hh I f => h.run pins s σ H Q I (k W σ H Q hi hh f)
theorem walk_list {K : PySem.W.Frag} [Plain R] {l : Addr} {us : List V} {xs : List α} (n : ¬ W.M l) (hd : rd H l = some (.lst us)) (pr : Paired (R.r W H) us xs) : WalkP W H (Itl K l) R xs := fun W2 H2 ag hi i => by
  obtain ⟨n2, hd2⟩ := ag.agr l _ hd n
  refine ⟨fun x hx => ?_, fun hx => ⟨us, sqL_of hd2, by rw [pr.length]; exact List.getElem?_eq_none_iff.mp hx⟩⟩
  obtain ⟨u, hu, ru⟩ := Paired.at2 pr hx
  refine ⟨⟨us, u, sqL_of hd2, hu⟩, fun v H' ⟨e, hv⟩ => ?_⟩
  subst e
  have := hv us (sqL_of hd2)
  rw [hu] at this; cases this
  exact ⟨Ext.refl hi, Plain.pl ag.agr ru⟩
theorem es_list [Plain R] (ha : EE X Γ iter (rL R) p) : ES X Γ tg iter R p :=
  ES.of (pi_list pe_te) fun W σ H Q hi hh f => ha.te hi hh fun u H1 xs e1 px ⟨l, us, e, n, hd, pr⟩ => ⟨l, e, ⟨us, sqL_of hd⟩, f _ H1 xs e1 px (walk_list n hd pr)⟩
theorem es_tup [Plain R] (ha : EE X Γ iter (rT R) p) : ES X Γ tg iter R p :=
  ES.of (pi_tup pe_te) fun W σ H Q hi hh f => ha.te hi hh fun u H1 xs e1 px ⟨l, us, e, n, hd, pr⟩ => ⟨l, e, ⟨us, sqT_of hd⟩, f _ H1 xs e1 px fun W2 H2 ag hi i => by
    obtain ⟨n2, hd2⟩ := ag.agr l _ hd n
    refine ⟨fun x hx => ?_, fun hx => ⟨us, sqT_of hd2, by rw [pr.length]; exact List.getElem?_eq_none_iff.mp hx⟩⟩
    obtain ⟨u, hu, ru⟩ := Paired.at2 pr hx
    refine ⟨⟨us, u, sqT_of hd2, hu⟩, fun v H' ⟨e, hv⟩ => ?_⟩
    subst e
    have := hv us (sqT_of hd2)
    rw [hu] at this; cases this
    exact ⟨Ext.refl hi, Plain.pl ag.agr ru⟩⟩
theorem walk_range {lo : Int} {n : Nat} {S : RepT α} {xs : List α} (hl : xs.length = n) (hx : ∀ (i : Nat) x, xs[i]? = some x → ∀ (W : Wd) H, S.r W H (.int (lo + (i : Int))) x) : WalkP W H (Itr lo n) S xs := fun W2 H2 ag hi i =>
  ⟨fun x h => ⟨by rw [← hl]; exact (List.getElem?_eq_some_iff.mp h).1, fun v H' ⟨e, hv⟩ => by subst e hv; exact ⟨Ext.refl hi, hx i x h W2 H'⟩⟩, fun h => by rw [← hl]; exact List.getElem?_eq_none_iff.mp h⟩
/-- range(n), n a natural number -/
theorem es_range {pn : Nat → Prop} (ha : EE X Γ a rI fun z => ∃ n : Nat, z = (n : Int) ∧ pn n ∧ n < 2 ^ 60) (hm : X.mg "range" = none) (hg : Gl X "range" := by rfl) (ns : NS X a := by intro _; rfl) (hs : starEach [a] X.env = [(false, eval a X.env)] := by rfl) :
    ES X Γ tg (.Call (.Name "range" pp) [a] [] pos) rNat (fun xs => ∃ n, pn n ∧ xs = List.range n) :=
  ES.of (pi_range1 hg hm (pa_cons pe_te pa_nil (ns _)) hs) fun W σ H Q hi hh f => ha.te hi hh fun u H1 z e1 ⟨n, ez, pn, hn⟩ r => ⟨z, by cases r; rfl, by omega, by omega, f _ H1 (List.range n) e1 ⟨n, pn, rfl⟩ (by
    subst ez
    exact walk_range (by simp) fun i x h W H => by
      obtain ⟨h1, h2⟩ := List.getElem?_eq_some_iff.mp h
      simp at h2
      subst h2
      show V.int _ = V.int _
      rw [Int.zero_add])⟩
/-- range(lo, n) -/
theorem es_range2 {lo n : Nat} (ha : EV X Γ a rI (lo : Int)) (hb : EV X Γ b rI (n : Int)) (hz : n < 2 ^ 60) (hz2 : lo < 2 ^ 60) (hm : X.mg "range" = none) (hg : Gl X "range" := by rfl) (ns : NS X a := by intro _; rfl) (nb : NS X b := by intro _; rfl) (hs : starEach [a, b] X.env = [(false, eval a X.env), (false, eval b X.env)] := by rfl) (hs2 : starEach [b] X.env = [(false, eval b X.env)] := by rfl) :
    ES X Γ tg (.Call (.Name "range" pp) [a, b] [] pos) rNat (fun xs => xs = (List.range (n - lo)).map (lo + ·)) :=
  ES.of (pi_range2 hg hm (pa_cons pe_te (pa_cons pe_te pa_nil (nb _)) (ns _)) hs hs2) fun W σ H Q hi hh f => ha.te hi hh fun u H1 z e1 px r => hb.te e1.inv (hh.mono e1) fun v H2 y e2 py r2 => ⟨z, y, by cases r; cases r2; rfl, ⟨by omega, by omega, by omega, by omega⟩, f _ H2 _ (e1.trans e2) rfl (by
    subst px py
    exact walk_range (by simp) fun i x h W H => by
      rw [List.getElem?_map] at h
      obtain ⟨h1, h2⟩ := List.getElem?_eq_some_iff.mp (Option.map_eq_some_iff.mp h).choose_spec.1
      have h3 := (Option.map_eq_some_iff.mp h).choose_spec.2
      simp at h2
      rw [← h3, ← h2]
      show V.int _ = V.int _
      congr 1)⟩
/-- range(n - 2, -1, -1): down -/
theorem es_down {n : Nat} (ha : EV X Γ a rI ((n : Int) - 1)) (hb : EV X Γ b rI (-1)) (hc : EV X Γ c rI (-1)) (hz : n < 2 ^ 60) (hm : X.mg "range" = none) (hg : Gl X "range" := by rfl) (na : NS X a := by intro _; rfl) (nb : NS X b := by intro _; rfl) (nc : NS X c := by intro _; rfl)
    (hpl : (backTo pos (starEach [b, c] X.env)).any (·.1) = false := by rfl) : ES X Γ tg (.Call (.Name "range" pp) [a, b, c] [] pos) rNat (fun xs => xs = (List.range n).reverse) :=
  ES.of (pi_range3 hg hm (pa_cons pe_te (pa_cons pe_te (pa_cons pe_te pa_nil (nc _)) (nb _)) (na _)) (na _) hpl) fun W σ H Q hi hh f => ha.te hi hh fun u H1 z e1 px r => hb.te e1.inv (hh.mono e1) fun v H2 y e2 py r2 => hc.te e2.inv (hh.mono (e1.trans e2)) fun w H3 t e3 pt r3 => by
    subst px py pt
    refine ⟨_, _, _, (((n : Int) - 1) - (-1)).toNat, by cases r; cases r2; cases r3; rfl, RgC.neg (by omega) (by omega) (by omega) (by omega), f _ H3 _ ((e1.trans e2).trans e3) rfl fun W2 H2 ag hi i => ?_⟩
    have en : (((n : Int) - 1) - (-1)).toNat = n := by omega
    rw [en]
    refine ⟨fun x h => ?_, fun h => ?_⟩
    · have hlt := (List.getElem?_eq_some_iff.mp h).1
      simp at hlt
      refine ⟨hlt, fun v H' ⟨e, hv⟩ => ?_⟩
      subst e hv
      refine ⟨Ext.refl hi, ?_⟩
      rw [List.getElem?_reverse (by simpa using hlt)] at h
      have h2 := (List.getElem?_eq_some_iff.mp h).2
      simp at h2
      show V.int _ = V.int _
      congr 1
      omega
    · have := List.getElem?_eq_none_iff.mp h
      show n ≤ i
      simpa using this
/-- the signs of a text -/
theorem es_str {z : Str} (ha : EV X Γ iter rS z) : ES X Γ tg iter rS (fun xs => xs = z.cps.toList.map fun c => (⟨#[c]⟩ : Str)) :=
  ES.of (pi_str pe_te) fun W σ H Q hi hh f => ha.te hi hh fun u H1 x e1 px r => ⟨x, r, f _ H1 _ e1 rfl (by
    subst px
    intro W2 H2 ag hi i
    refine ⟨fun y h => ?_, fun h => ?_⟩
    · rw [List.getElem?_map] at h
      obtain ⟨c, h1, h2⟩ := Option.map_eq_some_iff.mp h
      have hlt := (List.getElem?_eq_some_iff.mp h1).1
      refine ⟨by show i < x.cps.size; simpa using hlt, fun v H' ⟨e, c', hc, hv⟩ => ?_⟩
      subst e hv
      refine ⟨Ext.refl hi, ?_⟩
      rw [← Array.getElem?_toList, h1] at hc
      cases hc
      rw [← h2]; rfl
    · have := List.getElem?_eq_none_iff.mp h
      show x.cps.size ≤ i
      simpa using this)⟩
/-- enumerate(xs) -/
theorem es_enum [Plain R] {elts kk tpos} (ha : EE X Γ a (rL R) p) (hm : X.mg "enumerate" = none) (hg : Gl X "enumerate" := by rfl) (ns : NS X a := by intro _; rfl) (hs : starEach [a] X.env = [(false, eval a X.env)] := by rfl) :
    ES X Γ (.Tuple elts kk tpos) (.Call (.Name "enumerate" pp) [a] [] pos) (rP rNat R) (fun ys => ∃ xs, p xs ∧ ys = (List.range xs.length).zip xs) :=
  ES.of (pi_enum hg hm (pa_cons pe_te pa_nil (ns _)) hs) fun W σ H Q hi hh f => ha.te hi hh fun u H1 xs e1 px ⟨l, us, e, n, hd, pr⟩ => ⟨l, us, by rw [e], sqL_of hd, f _ H1 _ e1 ⟨xs, px, rfl⟩ fun W2 H2 ag hi i => by
    obtain ⟨n2, hd2⟩ := ag.agr l _ hd n
    refine ⟨fun x hx => ?_, fun hx => ⟨us, sqL_of hd2, by
      have := List.getElem?_eq_none_iff.mp hx
      simp at this
      rw [pr.length]; exact this⟩⟩
    obtain ⟨h1, h2⟩ := List.getElem?_zip_eq_some.mp hx
    have h1' := (List.getElem?_eq_some_iff.mp h1).2
    simp at h1'
    obtain ⟨u, hu, ru⟩ := Paired.at2 pr h2
    refine ⟨⟨us, u, sqL_of hd2, hu⟩, fun v H' ⟨t, w, ev, ht, eH, hv⟩ => ?_⟩
    subst eH ev
    have := hv us (sqL_of hd2)
    rw [hu] at this; cases this
    obtain ⟨e3, n3, d3⟩ := new_tup (us := [V.int (i : Nat), u]) hi ht
    exact ⟨e3, t, _, u, rfl, n3, d3, by rw [← h1']; rfl, R.mono e3 (Plain.pl ag.agr ru)⟩⟩
/-- zip(xs, ys), two lists -/
theorem es_zip [Plain R] [Plain S] {elts kk tpos} {pb : List β → Prop} (ha : EE X Γ a (rL R) p) (hb : EE X Γ b (rL S) pb) (hm : X.mg "zip" = none) (hg : Gl X "zip" := by rfl) (na : NS X a := by intro _; rfl) (nb : NS X b := by intro _; rfl) (hpl : (backTo pos (starEach [b] X.env)).any (·.1) = false := by rfl) :
    ES X Γ (.Tuple elts kk tpos) (.Call (.Name "zip" pp) [a, b] [] pos) (rP R S) (fun zs => ∃ xs ys, p xs ∧ pb ys ∧ zs = xs.zip ys) :=
  ES.of (RZ.pi_zipA hg hm (pa_cons pe_te (pa_cons pe_te pa_nil (nb _)) (na _)) (na _) hpl) fun W σ H Q hi hh f => ha.te hi hh fun u H1 xs e1 px rx => hb.te e1.inv (hh.mono e1) fun v H2 ys e2 py ⟨l', us', e', n', hd', pr'⟩ => by
    obtain ⟨l, us, e, n, hd, pr⟩ := (rL R).mono e2 rx
    subst e e'
    refine ⟨l, l', us, us', rfl, .inl ⟨sqL_of hd, sqL_of hd', f _ H2 _ (e1.trans e2) ⟨xs, ys, px, py, rfl⟩ fun W2 H2 ag hi i => ?_⟩⟩
    obtain ⟨n2, hd2⟩ := ag.agr l _ hd n
    obtain ⟨n2', hd2'⟩ := ag.agr l' _ hd' n'
    refine ⟨fun x hx => ?_, fun hx => ⟨us, us', sqL_of hd2, sqL_of hd2', by
      have := List.getElem?_eq_none_iff.mp hx
      rw [List.length_zip] at this
      rw [pr.length, pr'.length]; omega⟩⟩
    obtain ⟨h1, h2⟩ := List.getElem?_zip_eq_some.mp hx
    obtain ⟨u, hu, ru⟩ := Paired.at2 pr h1
    obtain ⟨u', hu', ru'⟩ := Paired.at2 pr' h2
    refine ⟨⟨us, us', u, u', sqL_of hd2, sqL_of hd2', hu, hu'⟩, fun v H' ⟨t, w, w', ev, ht, eH, hv, hv'⟩ => ?_⟩
    subst eH ev
    have h3 := hv us (sqL_of hd2)
    rw [hu] at h3; cases h3
    have h4 := hv' us' (sqL_of hd2')
    rw [hu'] at h4; cases h4
    obtain ⟨e3, n3, d3⟩ := new_tup (us := [u, u']) hi ht
    exact ⟨e3, t, u, u', rfl, n3, d3, R.mono e3 (Plain.pl ag.agr ru), S.mono e3 (Plain.pl ag.agr ru')⟩
/-- zip(xs, ys), two tuples -/
theorem es_zipT [Plain R] [Plain S] {elts kk tpos} {pb : List β → Prop} (ha : EE X Γ a (rT R) p) (hb : EE X Γ b (rT S) pb) (hm : X.mg "zip" = none) (hg : Gl X "zip" := by rfl) (na : NS X a := by intro _; rfl) (nb : NS X b := by intro _; rfl) (hpl : (backTo pos (starEach [b] X.env)).any (·.1) = false := by rfl) :
    ES X Γ (.Tuple elts kk tpos) (.Call (.Name "zip" pp) [a, b] [] pos) (rP R S) (fun zs => ∃ xs ys, p xs ∧ pb ys ∧ zs = xs.zip ys) :=
  ES.of (RZ.pi_zipA hg hm (pa_cons pe_te (pa_cons pe_te pa_nil (nb _)) (na _)) (na _) hpl) fun W σ H Q hi hh f => ha.te hi hh fun u H1 xs e1 px rx => hb.te e1.inv (hh.mono e1) fun v H2 ys e2 py ⟨l', us', e', n', hd', pr'⟩ => by
    obtain ⟨l, us, e, n, hd, pr⟩ := (rT R).mono e2 rx
    subst e e'
    refine ⟨l, l', us, us', rfl, .inr ⟨sqT_of hd, sqT_of hd', f _ H2 _ (e1.trans e2) ⟨xs, ys, px, py, rfl⟩ fun W2 H2 ag hi i => ?_⟩⟩
    obtain ⟨n2, hd2⟩ := ag.agr l _ hd n
    obtain ⟨n2', hd2'⟩ := ag.agr l' _ hd' n'
    refine ⟨fun x hx => ?_, fun hx => ⟨us, us', sqT_of hd2, sqT_of hd2', by
      have := List.getElem?_eq_none_iff.mp hx
      rw [List.length_zip] at this
      rw [pr.length, pr'.length]; omega⟩⟩
    obtain ⟨h1, h2⟩ := List.getElem?_zip_eq_some.mp hx
    obtain ⟨u, hu, ru⟩ := Paired.at2 pr h1
    obtain ⟨u', hu', ru'⟩ := Paired.at2 pr' h2
    refine ⟨⟨us, us', u, u', sqT_of hd2, sqT_of hd2', hu, hu'⟩, fun v H' ⟨t, w, w', ev, ht, eH, hv, hv'⟩ => ?_⟩
    subst eH ev
    have h3 := hv us (sqT_of hd2)
    rw [hu] at h3; cases h3
    have h4 := hv' us' (sqT_of hd2')
    rw [hu'] at h4; cases h4
    obtain ⟨e3, n3, d3⟩ := new_tup (us := [u, u']) hi ht
    exact ⟨e3, t, u, u', rfl, n3, d3, R.mono e3 (Plain.pl ag.agr ru), S.mono e3 (Plain.pl ag.agr ru')⟩

/-! ### targets -/
def GOk (g : TG) (R : RepT α) (x : α) (ups : List (Nat × Slot)) : Prop :=
  ∀ (W : Wd) (σ : L2.St) H v (Q : L2.St → Hp → Prop), W.I H → R.r W H v x → (∀ vs, SlotsOk W H vs (ups.map (·.2)) → Q (setA σ (ups.map (·.1)) vs) H) → g v σ H Q
theorem g_name {i : Nat} {x : α} : GOk (gName i) R x [(i, ⟨R, x⟩)] := fun W σ H v Q hi r k => k [v] (.cons r .nil)
theorem g_pair {K : PySem.W.Frag} [Plain R] [Plain S] {i j : Nat} {x : α × β} : GOk (gTup K 2 (gCons (gName i) (gCons (gName j) gNil))) (rP R S) x [(i, ⟨R, x.1⟩), (j, ⟨S, x.2⟩)] := fun W σ H v Q hi ⟨l, u1, u2, e, n, hd, r1, r2⟩ k =>
  ⟨l, _, e, sqT_of hd, rfl, u1, [u2], rfl, u2, [], rfl, rfl, k [u1, u2] (.cons r1 (.cons r2 .nil))⟩
theorem g_trip {K : PySem.W.Frag} [Plain R] [Plain S] [Plain T] {i j l : Nat} {x : α × β × γ} : GOk (gTup K 3 (gCons (gName i) (gCons (gName j) (gCons (gName l) gNil)))) (rQ R S T) x [(i, ⟨R, x.1⟩), (j, ⟨S, x.2.1⟩), (l, ⟨T, x.2.2⟩)] := fun W σ H v Q hi ⟨a, u1, u2, u3, e, n, hd, r1, r2, r3⟩ k =>
  ⟨a, _, e, sqT_of hd, rfl, u1, [u2, u3], rfl, u2, [u3], rfl, u3, [], rfl, rfl, k [u1, u2, u3] (.cons r1 (.cons r2 (.cons r3 .nil)))⟩
/-- at, (a, b, c) -/
theorem g_pair3 {K : PySem.W.Frag} [Plain R] [Plain S] [Plain T] [Plain U] {m i j l : Nat} {x : δ × α × β × γ} : GOk (gTup K 2 (gCons (gName m) (gCons (gTup K 3 (gCons (gName i) (gCons (gName j) (gCons (gName l) gNil)))) gNil))) (rP U (rQ R S T)) x
    [(m, ⟨U, x.1⟩), (i, ⟨R, x.2.1⟩), (j, ⟨S, x.2.2.1⟩), (l, ⟨T, x.2.2.2⟩)] := fun W σ H v Q hi ⟨a0, u0, u4, e0, n0, hd0, r0, a, u1, u2, u3, e, n, hd, r1, r2, r3⟩ k =>
  ⟨a0, _, e0, sqT_of hd0, rfl, u0, [u4], rfl, u4, [], rfl, a, _, e, sqT_of hd, rfl, u1, [u2, u3], rfl, u2, [u3], rfl, u3, [], rfl, rfl, rfl, k [u0, u1, u2, u3] (.cons r0 (.cons r1 (.cons r2 (.cons r3 .nil))))⟩
/-! ### tests of a clause -/
def ETs (X : Cx) (Γ : ECtx) (ifs : List Expr) (b : Bool) : Prop :=
  ∀ (W : Wd) (σ : L2.St) (H : Hp) (pins : List (Addr × Obj)) (s : Shared) (Q : Bool → Hp → Prop), W.I H → HoldsE W H σ Γ → Inv X pins σ H s → (∀ H1, Ext W H H1 → Q b H1) →
    wpAny (model X.prog X.w) X.A (forIn ifs true fun c r => if r = true then do let ok ← isTrue c X.env (eval c X.env); pure (ForInStep.yield ok) else pure (ForInStep.yield r)) (TP X pins σ Q) X.xe s
theorem ets_nil : ETs X Γ [] true := fun W σ H pins s Q hi hh I k => pts_nil.run pins s σ H Q I (k H (Ext.refl hi))
theorem ets_one {x : Bool} (h : TV X Γ c x) : ETs X Γ [c] x := fun W σ H pins s Q hi hh I k => (pts_one pt_tt).run pins s σ H Q I (h.tt hi hh fun b H1 e px => by rw [px]; exact k H1 e)
end
/-- the readings of a block's parts, whatever the block's frame is -/
def teB (X : Cx) (scope : Scope) (e : Expr) : TE := fun σ H Q => ∀ (s0 : Shared) (H0 : Hp) (C : Addr) (cl : List (Str × Addr)) (fp : List Addr), te (X.blk s0 H0 scope (compEnvC scope cl C X.env) fp) e σ H Q
def ttB (X : Cx) (scope : Scope) (ifs : List Expr) : TT := fun σ H Q => ∀ (s0 : Shared) (H0 : Hp) (C : Addr) (cl : List (Str × Addr)) (fp : List Addr) (pins : List (Addr × Obj)) (s : Shared), Inv (X.blk s0 H0 scope (compEnvC scope cl C X.env) fp) pins σ H s →
  wpAny (model X.prog X.w) X.A (forIn ifs true fun c r => if r = true then do let ok ← isTrue c (compEnvC scope cl C X.env) (eval c (compEnvC scope cl C X.env)); pure (ForInStep.yield ok) else pure (ForInStep.yield r)) (TP (X.blk s0 H0 scope (compEnvC scope cl C X.env) fp) pins σ Q) (fun _ _ => False) s
def tiB (X : Cx) (scope : Scope) (tg e : Expr) : TI := fun σ H Q => ∀ (s0 : Shared) (H0 : Hp) (C : Addr) (cl : List (Str × Addr)) (fp : List Addr), ti (X.blk s0 H0 scope (compEnvC scope cl C X.env) fp) tg e σ H Q
section
variable {X : Cx} {scope : Scope} {e tg : Expr} {ifs : List Expr} {s0 : Shared} {H0 : Hp} {C : Addr} {cl : List (Str × Addr)} {fp : List Addr}
theorem pe_teB : PE (X.blk s0 H0 scope (compEnvC scope cl C X.env) fp) e (teB X scope e) := ⟨fun pins s _ _ _ I h => h s0 H0 C cl fp pins s I⟩
theorem pt_ttB : PTs (X.blk s0 H0 scope (compEnvC scope cl C X.env) fp) ifs (ttB X scope ifs) := ⟨fun pins s _ _ _ I h => h s0 H0 C cl fp pins s I⟩
theorem pi_tiB : PI (X.blk s0 H0 scope (compEnvC scope cl C X.env) fp) tg e (tiB X scope tg e) := ⟨fun pins s _ _ _ I h => h s0 H0 C cl fp pins s I⟩
end
/-- for every block of this scope -/
abbrev Blk (X : Cx) (scope : Scope) (f : Cx → Prop) : Prop := ∀ (s0 : Shared) (H0 : Hp) (C : Addr) (cl : List (Str × Addr)) (fp : List Addr), f (X.blk s0 H0 scope (compEnvC scope cl C X.env) fp)
theorem Agr.upd {W1 W2 : Wd} {H : Hp} {D : Addr} {o : HO} (hM : ∀ a, W2.M a → W1.M a) (hD : W1.M D) : Agr W1 H W2 (upd H D o) := fun a u h n =>
  ⟨fun m => n (hM a m), by rw [rd_upd_ne (fun e => n (by rw [e]; exact hD))]; exact h⟩
theorem adds1_M {W : Wd} {D : Addr} {o o' : HO} : ∀ a, (W.adds [(D, o)]).M a → (W.adds [(D, o')]).M a := fun a m => m.elim .inl fun ⟨p, hp, e⟩ => .inr ⟨(D, o'), List.mem_singleton.mpr rfl, by rw [List.mem_singleton.mp hp] at e; exact e⟩
theorem adds1_D {W : Wd} {D : Addr} {o : HO} : (W.adds [(D, o)]).M D := .inr ⟨_, List.mem_singleton.mpr rfl, rfl⟩
theorem adds1_I {W : Wd} {D : Addr} {o : HO} {H : Hp} (h1 : W.I H) (h2 : H D = some o) : (W.adds [(D, o)]).I H := ⟨h1, fun p hp => by rw [List.mem_singleton.mp hp]; exact h2⟩
theorem adds1_get {W : Wd} {D : Addr} {o : HO} {H : Hp} (h : (W.adds [(D, o)]).I H) : H D = some o := h.2 _ (List.mem_singleton.mpr rfl)
theorem Ext.weak' {W : Wd} {ow : List (Addr × HO)} {H0 H H1 : Hp} (e0 : Ext W H0 H) (h0 : ∀ p ∈ ow, H0 p.1 = none) (e : Ext (W.adds ow) H H1) : Ext W H0 H1 := Ext.weak h0 e0 e
/-- a write at a place that did not stand -/
theorem Ext.own {W : Wd} {H0 H : Hp} {D : Addr} {o : HO} (e : Ext W H0 H) (hi0 : W.I H0) (hn : H0 D = none) : Ext W H0 (upd H D o) where
  keep := fun a u h n => by rw [upd_ne (fun z => by rw [z, hn] at h; cases h)]; exact e.keep a u h n
  free := fun a h => by
    by_cases z : a = D
    · rw [z]; exact hn
    · rw [upd_ne z] at h; exact e.free a h
  inv := W.fp (fun a m => upd_ne (fun z => by subst z; exact W.al hi0 m hn)) e.inv
section
variable {X : Cx} {Γ : ECtx} {e a b c tg iter elt : Expr} {es ifs : List Expr} {α β γ δ : Type} {R : RepT α} {S : RepT β} {T : RepT γ} {U : RepT δ} {pos pp : Pos} {scope : Scope}
/-- the loop of [elt for tg in .. if ..] -/
theorem lc_go [Plain S] {own : List (Str × Nat)} {ups : α → List (Nat × Slot)} {g : TG} {f : α → Bool} {qe : α → β → Prop} {W : Wd} {Hs : Hp} {σ : L2.St} {J : It} {xs : List α} {Q : VK} (hIs : W.I Hs) (hh : HoldsE W Hs σ Γ) (wk : WalkP W Hs J R xs)
    (hG : ∀ x, GOk g R x (ups x)) (hup : ∀ x, ∀ u ∈ ups x, u.1 ∈ own.map (·.2)) (hz : xs.length < sizeLine)
    (ht : ∀ x ∈ xs, Blk X scope fun B => ETs B (setC (wipeC Γ (own.map (·.2))) (ups x)) ifs (f x))
    (he : ∀ x ∈ xs, f x = true → Blk X scope fun B => EE B (setC (wipeC Γ (own.map (·.2))) (ups x)) elt S (qe x))
    (k : ∀ D H us ys, Hs D = none → Ext W Hs H → H D = some (.lst us) → Paired qe (xs.filter f) ys → Paired (S.r (W.adds [(D, .lst us)]) H) us ys → Q (.ref D) H) :
    tLc (fun _ H R => R J H) g (ttB X scope ifs) (teB X scope elt) (own.map (·.2)) σ Hs Q := by
  intro D hD
  have h0 : ∀ o : HO, ∀ p ∈ ([(D, o)] : List (Addr × HO)), Hs p.1 = none := fun o p hp => by rw [List.mem_singleton.mp hp]; exact hD
  refine ⟨fun i m H => m = xs.length - i ∧ i ≤ xs.length ∧ ∃ us ys, H D = some (.lst us) ∧ Ext W Hs H ∧ Paired qe ((xs.take i).filter f) ys ∧ Paired (S.r (W.adds [(D, .lst us)]) H) us ys,
    ⟨xs.length, by simp, Nat.zero_le _, [], [], upd_same, (Ext.refl hIs).own hIs hD, .nil, .nil⟩, ?_⟩
  rintro i m H ⟨rfl, hil, us, ys, hDl, eH, pq, pS⟩
  have hI2 : (W.adds [(D, .lst us)]).I H := adds1_I eH.inv hDl
  obtain ⟨w1, w2⟩ := wk (W.adds [(D, .lst us)]) H (AgrX.into (h0 _) eH) hI2 i
  by_cases hlt : i < xs.length
  · have hx : xs[i]? = some xs[i] := List.getElem?_eq_getElem hlt
    obtain ⟨go, yl⟩ := w1 _ hx
    have hmem : xs[i] ∈ xs := List.getElem_mem hlt
    have htake : xs.take (i + 1) = xs.take i ++ [xs[i]] := by rw [List.take_add_one, hx]; rfl
    refine .inr ⟨go, fun H => i + 1 ≤ xs.length ∧ ∃ us ys, H D = some (.lst us) ∧ Ext W Hs H ∧ Paired qe ((xs.take (i + 1)).filter f) ys ∧ Paired (S.r (W.adds [(D, .lst us)]) H) us ys, fun H' ⟨a, b⟩ => ⟨xs.length - (i + 1), by omega, rfl, a, b⟩, fun v H' hy => ?_⟩
    obtain ⟨eY, rv⟩ := yl v H' hy
    have eW : Ext W Hs H' := eH.weak' (h0 _) eY
    have hB : HoldsE (W.adds [(D, .lst us)]) H' (wipe σ (own.map (·.2))) (wipeC Γ (own.map (·.2))) := (hh.into hIs (h0 _) eW eY.inv).wipe _
    refine hG _ (W.adds [(D, .lst us)]) _ H' v _ eY.inv rv fun vs hvs => ?_
    have hB2 := hB.setA hvs
    refine ⟨?_, ?_⟩
    · rw [wipe_setA, wipe_wipe]
      intro j hj
      obtain ⟨u, hu, rfl⟩ := List.mem_map.mp hj
      exact hup _ u hu
    · intro s0 H0 C cl fp pins s I
      refine ht _ hmem s0 H0 C cl fp (W.adds [(D, .lst us)]) _ H' pins s _ eY.inv hB2 I fun H3 e3 => ?_
      cases hf : f xs[i] with
      | false =>
        rw [if_neg Bool.false_ne_true]
        refine ⟨hlt, us, ys, adds1_get e3.inv, eW.weak' (h0 _) e3, ?_, prMono (eY.trans e3) pS⟩
        rw [htake, List.filter_append, List.filter_cons, hf]
        simpa using pq
      | true =>
        rw [if_pos rfl]
        intro s0 H0 C cl fp
        refine (he _ hmem hf s0 H0 C cl fp).te e3.inv (hB2.mono e3) fun w H4 y e4 qy ry => ?_
        have hD4 := adds1_get e4.inv
        have hlen : us.length < sizeLine := by
          have h1 := pS.length
          have h2 := pq.length
          have h3 := List.length_filter_le f (xs.take i)
          rw [List.length_take] at h3
          omega
        refine ⟨us, hD4, hlen, hlt, us ++ [w], ys ++ [y], upd_same, ((eW.weak' (h0 _) e3).weak' (h0 _) e4).own hIs hD, ?_, ?_⟩
        · rw [htake, List.filter_append, List.filter_cons, hf]
          exact Paired.app pq (.cons qy .nil)
        · exact prPl (Agr.upd adds1_M adds1_D) (Paired.app (prMono ((eY.trans e3).trans e4) pS) (.cons ry .nil))
  · have e : i = xs.length := by omega
    subst e
    refine .inl ⟨w2 (List.getElem?_eq_none (Nat.le_refl _)), k D H us ys hD eH hDl ?_ pS⟩
    rw [List.take_length] at pq
    exact pq
/-- [elt for tg in iter if ..]: a new list -/
theorem en_lc [Plain S] {own : List (Str × Nat)} {ups : α → List (Nat × Slot)} {g : TG} {f : α → Bool} {qe : α → β → Prop} {ps : List α → Prop} (hc : X.calm = true) (hN : X.N.Nodup) (hi : ES X Γ tg iter R ps) (ok : BlkOk X.N X.env.scope scope own)
    (hg : Blk X scope fun B => PG B tg g) (hG : ∀ x, GOk g R x (ups x)) (hup : ∀ x, ∀ u ∈ ups x, u.1 ∈ own.map (·.2)) (hz : ∀ xs, ps xs → xs.length < sizeLine)
    (ht : ∀ xs, ps xs → ∀ x ∈ xs, Blk X scope fun B => ETs B (setC (wipeC Γ (own.map (·.2))) (ups x)) ifs (f x))
    (he : ∀ xs, ps xs → ∀ x ∈ xs, f x = true → Blk X scope fun B => EE B (setC (wipeC Γ (own.map (·.2))) (ups x)) elt S (qe x)) (hs : ∀ x, foldedSetIterable iter X.env x = pure x := by intro _; rfl) :
    EN X Γ (.ListComp elt [⟨tg, iter, ifs, 0⟩] scope pos) S (fun ys => ∃ xs, ps xs ∧ Paired qe (xs.filter f) ys) := by
  refine EN.of (pe_lc (tt := ttB X scope ifs) (te := teB X scope elt) hc hN pi_ti ok hg (fun _ _ _ _ _ => pt_ttB) (fun _ _ _ _ _ => pe_teB) hs) fun W σ H Q hI hh k => ?_
  refine hi.ti hI hh fun J Hs xs e1 px wk => ?_
  exact lc_go e1.inv (hh.mono e1) wk hG hup (hz xs px) (ht xs px) (he xs px) fun D H us ys hD eH hDl pq pS => k D H us ys (e1.free D hD) (e1.trans eH) hDl ⟨xs, px, pq⟩ pS

/-! ### dicts walked -/
/-- e's value can be told from the slots and the heap -/
def EP1 (X : Cx) (Γ : ECtx) (e : Expr) (R : RepT α) (x : α) : Prop := ∀ (W : Wd) σ H, W.I H → HoldsE W H σ Γ → ∃ v, R.r W H v x ∧ ∀ H' (Q : VK), SameR H H' → Q v H' → te X e σ H' Q
theorem ep_name (i : Nat) {x : Str} {v : α} (hN : X.N[i]? = some x := by rfl) (hv : Vis X.env.scope x := by first | exact Or.inl rfl | exact Or.inr (Or.inl rfl) | exact Or.inr (Or.inr rfl)) (hG : Γ[i]? = some (some ⟨R, v⟩) := by rfl)
    (hd : (x == ("__debug__" : Str)) = false := by decide) (hcd : (x == ("__classdict__" : Str)) = false := by decide) : EP1 X Γ (.Name x pos) R v := fun W σ H hi hh =>
  let ⟨u, e, r⟩ := hh.sl i _ hG; ⟨u, r, fun H' Q _ q pins s I => (pe_var hN hv hd hcd).run pins s σ H' Q I ⟨u, e, q⟩⟩
theorem ep_dget [Plain R] {RD : RepT (List (Str × α))} [LikeD RD R] {d : List (Str × α)} {z : Str} {x : α} {j ps} (hu : X.A.units + 1 < cLine) (ha : EP1 X Γ a RD d) (hx : lk d z = some x) : EP1 X Γ (.Subscript a (.Constant (.str z) j ps) pos) R x := fun W σ H hi hh => by
  obtain ⟨v, r, ev⟩ := ha W σ H hi hh
  obtain ⟨l, us, rfl, hd, pr⟩ := LikeD.rd hi r
  rcases lk_paired (k := z) pr with ⟨q, _⟩ | ⟨w, y, q1, q2, rr⟩
  · rw [hx] at q; cases q
  · rw [hx] at q1; cases q1
    exact ⟨w, rr, fun H' Q sr q pins s I => (pe_dget hu pe_te pe_str (fun _ _ => rfl)).run pins s σ H' Q I (ev H' _ sr ⟨l, w, rfl, .inl ⟨us, .inr z, rd_dK (by rw [sr l]; exact hd), rfl, q2.symm⟩, q⟩)⟩
theorem sameR_lock {H : Hp} {l : Addr} {us : List (Key × V)} {o : Obj} (h : H l = some (.dK us)) : SameR H (upd H l (.frz o (.dK us))) := fun a => by
  by_cases e : a = l
  · subst e; rw [rd_upd, rd_of h]; rfl
  · rw [rd_upd_ne e]
theorem sameR_unlock {H : Hp} {l : Addr} {us : List (Key × V)} {o : Obj} (h : H l = some (.frz o (.dK us))) : SameR H (upd H l (.dK us)) := fun a => by
  by_cases e : a = l
  · subst e; rw [rd_upd, rd_of h]; rfl
  · rw [rd_upd_ne e]
theorem walk_keys {W : Wd} {H : Hp} {l : Addr} {us : List (Key × V)} {d : List (Str × α)} {o : Obj} (n : ¬ W.M l) (hd : H l = some (.frz o (.dK us))) (pr : Paired (DEnt R W H) us d) : WalkP W H (Itk l o us) rS (d.map (·.1)) := fun W2 H2 ag hi i => by
  obtain ⟨n2, hd2⟩ := ag l _ hd n
  refine ⟨fun x hx => ?_, fun hx => ⟨hd2, by have := List.getElem?_eq_none_iff.mp hx; rw [List.length_map] at this; rw [pr.length]; exact this⟩⟩
  rw [List.getElem?_map] at hx
  obtain ⟨⟨x1, x2⟩, hx', rfl⟩ := Option.map_eq_some_iff.mp hx
  obtain ⟨⟨k, w⟩, hu, e1, e2⟩ := Paired.at2 pr hx'
  have hlt := (List.getElem?_eq_some_iff.mp hu).1
  refine ⟨⟨hd2, hlt⟩, fun v H' ⟨e, k', w', hk, hv⟩ => ?_⟩
  subst e hv
  rw [hu] at hk
  cases hk
  have e1 : k = Sum.inr x1 := e1
  subst e1
  exact ⟨Ext.refl hi, rfl⟩
theorem walk_vals [Plain R] {W : Wd} {H : Hp} {l : Addr} {us : List (Key × V)} {d : List (Str × α)} {o : Obj} (n : ¬ W.M l) (hd : H l = some (.frz o (.dK us))) (pr : Paired (DEnt R W H) us d) : WalkP W H (Itd l o us) R (d.map (·.2)) := fun W2 H2 ag hi i => by
  obtain ⟨n2, hd2⟩ := ag l _ hd n
  refine ⟨fun x hx => ?_, fun hx => ⟨hd2, by have := List.getElem?_eq_none_iff.mp hx; rw [List.length_map] at this; rw [pr.length]; exact this⟩⟩
  rw [List.getElem?_map] at hx
  obtain ⟨⟨x1, x2⟩, hx', rfl⟩ := Option.map_eq_some_iff.mp hx
  obtain ⟨⟨k, w⟩, hu, e1, e2⟩ := Paired.at2 pr hx'
  have hlt := (List.getElem?_eq_some_iff.mp hu).1
  refine ⟨⟨hd2, hlt⟩, fun v H' ⟨e, k', hk⟩ => ?_⟩
  subst e
  rw [hu] at hk
  cases hk
  exact ⟨Ext.refl hi, Plain.pl ag.agr e2⟩
theorem unlock_ext {W : Wd} {H H' : Hp} {l : Addr} {us : List (Key × V)} {o : Obj} (hx : H l = some (.dK us)) (n : ¬ W.M l) (e : Ext W (upd H l (.frz o (.dK us))) H') : Ext W H (upd H' l (.dK us)) where
  keep := fun a u h m => by
    by_cases z : a = l
    · subst z; rw [hx] at h; cases h; exact upd_same
    · rw [upd_ne z]; exact e.keep a u (by rw [upd_ne z]; exact h) m
  free := fun a h => by
    by_cases z : a = l
    · subst z; rw [upd_same] at h; cases h
    · rw [upd_ne z] at h
      have := e.free a h
      rw [upd_ne z] at this; exact this
  inv := W.fp (fun a m => upd_ne (fun z => by subst z; exact n m)) e.inv
/-- [elt for tg in d if ..] over the keys of a dict -/
theorem en_lcK [Plain S] [Plain R] {own : List (Str × Nat)} {ups : Str → List (Nat × Slot)} {g : TG} {f : Str → Bool} {qe : Str → β → Prop} {d : List (Str × α)} (hc : X.calm = true) (hN : X.N.Nodup) (hp : EP1 X Γ iter (rD R) d) (ok : BlkOk X.N X.env.scope scope own)
    (hg : Blk X scope fun B => PG B tg g) (hG : ∀ x, GOk g rS x (ups x)) (hup : ∀ x, ∀ u ∈ ups x, u.1 ∈ own.map (·.2)) (hz : d.length < sizeLine)
    (ht : ∀ x ∈ d.map (·.1), Blk X scope fun B => ETs B (setC (wipeC Γ (own.map (·.2))) (ups x)) ifs (f x))
    (he : ∀ x ∈ d.map (·.1), f x = true → Blk X scope fun B => EE B (setC (wipeC Γ (own.map (·.2))) (ups x)) elt S (qe x)) (hs : ∀ x, foldedSetIterable iter X.env x = pure x := by intro _; rfl) :
    EN X Γ (.ListComp elt [⟨tg, iter, ifs, 0⟩] scope pos) S (fun ys => Paired qe ((d.map (·.1)).filter f) ys) := by
  intro W σ H pins s Q hI hh I k
  obtain ⟨v, ⟨l, us, rfl, n, hd, pr⟩, ev⟩ := hp W σ H hI hh
  have P := pe_lc (tt := ttB X scope ifs) (te := teB X scope elt) (pos := pos) hc hN (pi_keys (tg := tg) (pe_te (e := iter))) ok hg (fun _ _ _ _ _ => pt_ttB) (fun _ _ _ _ _ => pe_teB) hs
  rcases rd_dK hd with hx | ⟨od, hx⟩
  · refine (pe_lock P).run pins s σ H Q I ⟨l, .dK us, hx, trivial, fun od => ?_⟩
    have sr := sameR_lock (o := od) hx
    have hIL : W.I (upd H l (.frz od (.dK us))) := W.fp (fun a m => upd_ne (fun z => by subst z; exact n m)) hI
    refine ev _ _ sr ⟨l, od, rfl, .inl ⟨us, upd_same, ?_⟩⟩
    refine lc_go (Q := fun v H' => H' l = some (.frz od (.dK us)) ∧ Q v (upd H' l (.dK us))) (R := rS) hIL (hh.lock sr) (walk_keys (R := R) n upd_same (Paired.mp pr fun _ _ q => ⟨q.1, R.lock sr q.2⟩)) hG hup (by rw [List.length_map]; exact hz) ht he fun D H' us' ys hD eH hDl pq pS => ?_
    have hlD : D ≠ l := fun z => by rw [z, upd_same] at hD; cases hD
    have hl : H' l = some (.frz od (.dK us)) := eH.keep l _ upd_same n
    refine ⟨hl, k D _ us' ys (by rw [upd_ne hlD] at hD; exact hD) (unlock_ext hx n eH) (by rw [upd_ne hlD]; exact hDl) pq (prPl (sameR_unlock hl).agr pS)⟩
  · refine P.run pins s σ H Q I (ev H _ (fun _ => rfl) ⟨l, od, rfl, .inl ⟨us, hx, ?_⟩⟩)
    exact lc_go (R := rS) hI hh (walk_keys (R := R) n hx pr) hG hup (by rw [List.length_map]; exact hz) ht he fun D H' us' ys hD eH hDl pq pS => k D H' us' ys hD eH hDl pq pS
/-- .. over its values -/
theorem en_lcV [Plain S] [Plain R] {own : List (Str × Nat)} {ups : α → List (Nat × Slot)} {g : TG} {f : α → Bool} {qe : α → β → Prop} {d : List (Str × α)} {apos cpos : Pos} (hc : X.calm = true) (hN : X.N.Nodup) (hp : EP1 X Γ iter (rD R) d) (ok : BlkOk X.N X.env.scope scope own)
    (hg : Blk X scope fun B => PG B tg g) (hG : ∀ x, GOk g R x (ups x)) (hup : ∀ x, ∀ u ∈ ups x, u.1 ∈ own.map (·.2)) (hz : d.length < sizeLine)
    (ht : ∀ x ∈ d.map (·.2), Blk X scope fun B => ETs B (setC (wipeC Γ (own.map (·.2))) (ups x)) ifs (f x))
    (he : ∀ x ∈ d.map (·.2), f x = true → Blk X scope fun B => EE B (setC (wipeC Γ (own.map (·.2))) (ups x)) elt S (qe x)) (hbase : attributeBase iter "values" X.env (eval iter X.env) = eval iter X.env := by rfl) (hline : (apos.endLine == cpos.line) = true := by rfl)
    (hs : ∀ x, foldedSetIterable (.Call (.Attribute iter "values" apos) [] [] cpos) X.env x = pure x := by intro _; rfl) :
    EN X Γ (.ListComp elt [⟨tg, .Call (.Attribute iter "values" apos) [] [] cpos, ifs, 0⟩] scope pos) S (fun ys => Paired qe ((d.map (·.2)).filter f) ys) := by
  intro W σ H pins s Q hI hh I k
  obtain ⟨v, ⟨l, us, rfl, n, hd, pr⟩, ev⟩ := hp W σ H hI hh
  have P := pe_lc (tt := ttB X scope ifs) (te := teB X scope elt) (pos := pos) hc hN (pi_values (tg := tg) (pe_te (e := iter)) hbase hline) ok hg (fun _ _ _ _ _ => pt_ttB) (fun _ _ _ _ _ => pe_teB) hs
  rcases rd_dK hd with hx | ⟨od, hx⟩
  · refine (pe_lock P).run pins s σ H Q I ⟨l, .dK us, hx, trivial, fun od => ?_⟩
    have sr := sameR_lock (o := od) hx
    have hIL : W.I (upd H l (.frz od (.dK us))) := W.fp (fun a m => upd_ne (fun z => by subst z; exact n m)) hI
    refine ev _ _ sr ⟨l, od, us, rfl, upd_same, ?_⟩
    refine lc_go (Q := fun v H' => H' l = some (.frz od (.dK us)) ∧ Q v (upd H' l (.dK us))) (R := R) hIL (hh.lock sr) (walk_vals (R := R) n upd_same (Paired.mp pr fun _ _ q => ⟨q.1, R.lock sr q.2⟩)) hG hup (by rw [List.length_map]; exact hz) ht he fun D H' us' ys hD eH hDl pq pS => ?_
    have hlD : D ≠ l := fun z => by rw [z, upd_same] at hD; cases hD
    have hl : H' l = some (.frz od (.dK us)) := eH.keep l _ upd_same n
    refine ⟨hl, k D _ us' ys (by rw [upd_ne hlD] at hD; exact hD) (unlock_ext hx n eH) (by rw [upd_ne hlD]; exact hDl) pq (prPl (sameR_unlock hl).agr pS)⟩
  · refine P.run pins s σ H Q I (ev H _ (fun _ => rfl) ⟨l, od, us, rfl, hx, ?_⟩)
    exact lc_go (R := R) hI hh (walk_vals (R := R) n hx pr) hG hup (by rw [List.length_map]; exact hz) ht he fun D H' us' ys hD eH hDl pq pS => k D H' us' ys hD eH hDl pq pS
end
end K62

end

section
set_option Elab.async false
set_option linter.all false
set_option maxRecDepth 100000
set_option maxHeartbeats 4000000
/-! comprehensions of two clauses, dict comprehensions -/
namespace K62
open PySem PySem.Spec PyProof.Rows L2
theorem SlotsOk.pl {W1 W2 : Wd} {H1 H2 : Hp} (ag : Agr W1 H1 W2 H2) : ∀ {vs : List V} {gs : List Slot}, (∀ g ∈ gs, Plain g.R) → SlotsOk W1 H1 vs gs → SlotsOk W2 H2 vs gs
  | _, _, _, .nil => .nil
  | _, _, p, .cons h t => .cons ((p _ List.mem_cons_self).pl ag h) (SlotsOk.pl ag (fun g m => p g (List.mem_cons_of_mem _ m)) t)
section
variable {X : Cx} {Γ : ECtx} {e a b c tg iter tg1 iter1 elt kx vx : Expr} {es ifs : List Expr} {α β γ δ : Type} {R : RepT α} {S : RepT β} {T : RepT γ} {U : RepT δ} {pos pp : Pos} {scope : Scope}
def flat2 (xs : List α) (yss : List (List γ)) : List (α × γ) := (xs.zip yss).flatMap fun p => p.2.map fun y => (p.1, y)
theorem flat2_snoc {xs : List α} {yss : List (List γ)} {x : α} {ys : List γ} (h : xs.length = yss.length) : flat2 (xs ++ [x]) (yss ++ [ys]) = flat2 xs yss ++ ys.map fun y => (x, y) := by
  unfold flat2
  rw [List.zip_append h, List.flatMap_append]
  simp
theorem en_lc2 [Plain S] {own : List (Str × Nat)} {vs1 : List Nat} {ups : α → List (Nat × Slot)} {ups1 : γ → List (Nat × Slot)} {g g1 : TG} {qe : α → γ → β → Prop} {ps : List α → Prop} {ps1 : α → List γ → Prop} {bnd : Nat} (hc : X.calm = true) (hN : X.N.Nodup) (hi : ES X Γ tg iter R ps) (ok : BlkOk X.N X.env.scope scope own) (hv : ∀ i ∈ vs1, i ∈ own.map (·.2))
    (hg : Blk X scope fun B => PG B tg g) (hG : ∀ x, GOk g R x (ups x)) (hpl : ∀ x, ∀ u ∈ ups x, Plain u.2.R) (hup : ∀ x, ∀ u ∈ ups x, u.1 ∈ own.map (·.2)) (hg1 : Blk X scope fun B => PG B tg1 g1) (hG1 : ∀ x, GOk g1 T x (ups1 x)) (hup1 : ∀ x, ∀ u ∈ ups1 x, u.1 ∈ vs1)
    (hz : ∀ xs, ps xs → xs.length ≤ bnd) (hz1 : ∀ x ys, ps1 x ys → ys.length ≤ bnd) (hb : bnd * bnd < sizeLine)
    (hi1 : ∀ xs, ps xs → ∀ x ∈ xs, Blk X scope fun B => ES B (setC (wipeC Γ (own.map (·.2))) (ups x)) tg1 iter1 T (ps1 x))
    (he : ∀ xs, ps xs → ∀ x ∈ xs, ∀ ys, ps1 x ys → ∀ y ∈ ys, Blk X scope fun B => EE B (setC (wipeC (setC (wipeC Γ (own.map (·.2))) (ups x)) vs1) (ups1 y)) elt S (qe x y))
    (hs : ∀ x, foldedSetIterable iter X.env x = pure x := by intro _; rfl) (hs1 : ∀ env x, foldedSetIterable iter1 env x = pure x := by intro _ _; rfl) :
    EN X Γ (.ListComp elt [⟨tg, iter, [], 0⟩, ⟨tg1, iter1, [], 0⟩] scope pos) S (fun zs => ∃ xs yss, ps xs ∧ Paired ps1 xs yss ∧ Paired (fun p z => qe p.1 p.2 z) (flat2 xs yss) zs) := by
  refine EN.of (pe_lc2 (tt := ttB X scope []) (tt1 := ttB X scope []) (wi1 := tiB X scope tg1 iter1) (te := teB X scope elt) hc hN pi_ti ok hv hg (fun _ _ _ _ _ => pt_ttB) (fun _ _ _ _ _ => pi_tiB) hg1 (fun _ _ _ _ _ => pt_ttB) (fun _ _ _ _ _ => pe_teB) hs hs1) fun W σ H Q hI hh k => ?_
  refine hi.ti hI hh fun J Hs xs e1 px wk D hD => ?_
  have hIs := e1.inv
  have hhs := hh.mono e1
  have h0 : ∀ o : HO, ∀ p ∈ ([(D, o)] : List (Addr × HO)), Hs p.1 = none := fun o p hp => by rw [List.mem_singleton.mp hp]; exact hD
  refine ⟨fun i m H => m = xs.length - i ∧ i ≤ xs.length ∧ ∃ us yss zs, H D = some (.lst us) ∧ Ext W Hs H ∧ Paired ps1 (xs.take i) yss ∧ Paired (fun p z => qe p.1 p.2 z) (flat2 (xs.take i) yss) zs ∧ Paired (S.r (W.adds [(D, .lst us)]) H) us zs ∧ us.length ≤ i * bnd,
    ⟨xs.length, by simp, Nat.zero_le _, [], [], [], upd_same, (Ext.refl hIs).own hIs hD, .nil, .nil, .nil, Nat.zero_le _⟩, ?_⟩
  rintro i m H ⟨rfl, hil, us, yss, zs, hDl, eH, pys, pq, pS, hlen⟩
  have hI2 : (W.adds [(D, .lst us)]).I H := adds1_I eH.inv hDl
  obtain ⟨w1, w2⟩ := wk (W.adds [(D, .lst us)]) H (AgrX.into (h0 _) eH) hI2 i
  by_cases hlt : i < xs.length
  · have hx : xs[i]? = some xs[i] := List.getElem?_eq_getElem hlt
    obtain ⟨go, yl⟩ := w1 _ hx
    have hmem : xs[i] ∈ xs := List.getElem_mem hlt
    have htake : xs.take (i + 1) = xs.take i ++ [xs[i]] := by rw [List.take_add_one, hx]; rfl
    refine .inr ⟨go, fun H => i + 1 ≤ xs.length ∧ ∃ us yss zs, H D = some (.lst us) ∧ Ext W Hs H ∧ Paired ps1 (xs.take (i + 1)) yss ∧ Paired (fun p z => qe p.1 p.2 z) (flat2 (xs.take (i + 1)) yss) zs ∧ Paired (S.r (W.adds [(D, .lst us)]) H) us zs ∧ us.length ≤ (i + 1) * bnd, fun H' ⟨a, b⟩ => ⟨xs.length - (i + 1), by omega, rfl, a, b⟩, fun v H' hy => ?_⟩
    obtain ⟨eY, rv⟩ := yl v H' hy
    have eW : Ext W Hs H' := eH.weak' (h0 _) eY
    have hB : HoldsE (W.adds [(D, .lst us)]) H' (wipe σ (own.map (·.2))) (wipeC Γ (own.map (·.2))) := (hhs.into hIs (h0 _) eW eY.inv).wipe _
    refine hG _ (W.adds [(D, .lst us)]) _ H' v _ eY.inv rv fun vs hvs => ?_
    have hB2 := hB.setA hvs
    refine ⟨?_, ?_⟩
    · rw [wipe_setA, wipe_wipe]
      intro j hj
      obtain ⟨u, hu, rfl⟩ := List.mem_map.mp hj
      exact hup _ u hu
    · intro s0 H0 C cl fp pins s I
      refine (ets_nil (Γ := setC (wipeC Γ (own.map (·.2))) (ups xs[i]))) (W.adds [(D, .lst us)]) _ H' pins s _ eY.inv hB2 I fun H3 e3 => ?_
      rw [if_pos rfl]
      intro s0 H0 C cl fp
      refine (hi1 xs px _ hmem s0 H0 C cl fp).ti e3.inv (hB2.mono e3) fun J1 H4 ys e4 p1 wk1 => ?_
      have eW4 := (eW.weak' (h0 _) e3).weak' (h0 _) e4
      have e34 := (eY.trans e3).trans e4
      refine ⟨fun j m H => m = ys.length - j ∧ j ≤ ys.length ∧ ∃ us2 zs2, H D = some (.lst us2) ∧ Ext W Hs H ∧ AgrX (W.adds [(D, .lst us)]) H4 (W.adds [(D, .lst us2)]) H ∧ Paired (fun p z => qe p.1 p.2 z) (flat2 (xs.take i) yss ++ (ys.take j).map fun y => (xs[i], y)) zs2 ∧ Paired (S.r (W.adds [(D, .lst us2)]) H) us2 zs2 ∧ us2.length ≤ i * bnd + j,
        ⟨ys.length, by simp, Nat.zero_le _, us, zs, adds1_get e4.inv, eW4, AgrX.refl, by simpa using pq, prMono e34 pS, hlen⟩, ?_⟩
      rintro j m H5 ⟨rfl, hjl, us2, zs2, hD5, eH5, ag5, pq5, pS5, hlen5⟩
      have hI5 : (W.adds [(D, .lst us2)]).I H5 := adds1_I eH5.inv hD5
      obtain ⟨v1, v2⟩ := wk1 (W.adds [(D, .lst us2)]) H5 ag5 hI5 j
      by_cases hlt1 : j < ys.length
      · have hy1 : ys[j]? = some ys[j] := List.getElem?_eq_getElem hlt1
        obtain ⟨go1, yl1⟩ := v1 _ hy1
        have hmem1 : ys[j] ∈ ys := List.getElem_mem hlt1
        have htake1 : ys.take (j + 1) = ys.take j ++ [ys[j]] := by rw [List.take_add_one, hy1]; rfl
        refine .inr ⟨go1, fun H => j + 1 ≤ ys.length ∧ ∃ us2 zs2, H D = some (.lst us2) ∧ Ext W Hs H ∧ AgrX (W.adds [(D, .lst us)]) H4 (W.adds [(D, .lst us2)]) H ∧ Paired (fun p z => qe p.1 p.2 z) (flat2 (xs.take i) yss ++ (ys.take (j + 1)).map fun y => (xs[i], y)) zs2 ∧ Paired (S.r (W.adds [(D, .lst us2)]) H) us2 zs2 ∧ us2.length ≤ i * bnd + (j + 1), fun H' ⟨a, b⟩ => ⟨ys.length - (j + 1), by omega, rfl, a, b⟩, fun v' H6 hy' => ?_⟩
        obtain ⟨eY1, rv1⟩ := yl1 v' H6 hy'
        have eW6 : Ext W Hs H6 := eH5.weak' (h0 _) eY1
        have ag6 : AgrX (W.adds [(D, .lst us)]) H4 (W.adds [(D, .lst us2)]) H6 := ag5.trans eY1.agrX
        have hvs6 : SlotsOk (W.adds [(D, .lst us2)]) H6 vs ((ups xs[i]).map (·.2)) := SlotsOk.pl (((e3.trans e4).agrX.trans ag6).agr) (fun g hg => by obtain ⟨u, hu, rfl⟩ := List.mem_map.mp hg; exact hpl _ u hu) hvs
        have hB6 := (((hhs.into hIs (h0 _) eW6 eY1.inv).wipe (own.map (·.2))).setA hvs6).wipe vs1
        refine hG1 _ (W.adds [(D, .lst us2)]) _ H6 v' _ eY1.inv rv1 fun vs' hvs' => ?_
        have hB7 := hB6.setA hvs'
        refine ⟨?_, ?_⟩
        · rw [wipe_setA, wipe_wipe]
          intro j hj
          obtain ⟨u, hu, rfl⟩ := List.mem_map.mp hj
          exact hup1 _ u hu
        · intro s0 H0 C cl fp pins s I
          refine (ets_nil (Γ := setC (wipeC (setC (wipeC Γ (own.map (·.2))) (ups xs[i])) vs1) (ups1 ys[j]))) (W.adds [(D, .lst us2)]) _ H6 pins s _ eY1.inv hB7 I fun H7 e7 => ?_
          rw [if_pos rfl]
          intro s0 H0 C cl fp
          refine (he xs px _ hmem ys p1 _ hmem1 s0 H0 C cl fp).te e7.inv (hB7.mono e7) fun w H8 y e8 qy ry => ?_
          have hD8 := adds1_get e8.inv
          have hb1 := hz xs px
          have hb2 := hz1 _ _ p1
          have hlt2 : us2.length < sizeLine := by
            have h3 : i * bnd + j < bnd * bnd := by
              have h4 : (i + 1) * bnd ≤ bnd * bnd := Nat.mul_le_mul (by omega) (Nat.le_refl _)
              rw [Nat.succ_mul] at h4
              omega
            omega
          refine ⟨us2, hD8, hlt2, hlt1, us2 ++ [w], zs2 ++ [y], upd_same, ((eW6.weak' (h0 _) e7).weak' (h0 _) e8).own hIs hD, ?_, ?_, ?_, by rw [List.length_append]; simp; omega⟩
          · refine (ag6.trans (e7.trans e8).agrX).trans fun a u ha hn => ?_
            have hne : a ≠ D := fun z => hn (by rw [z]; exact adds1_D)
            exact ⟨fun m => hn (adds1_M a m), by rw [upd_ne hne]; exact ha⟩
          · rw [htake1, List.map_append, ← List.append_assoc]
            exact Paired.app pq5 (.cons qy .nil)
          · exact prPl (Agr.upd adds1_M adds1_D) (Paired.app (prMono ((eY1.trans e7).trans e8) pS5) (.cons ry .nil))
      · have ej : j = ys.length := by omega
        subst ej
        refine .inl ⟨v2 (List.getElem?_eq_none (Nat.le_refl _)), hlt, us2, yss ++ [ys], zs2, hD5, eH5, ?_, ?_, pS5, ?_⟩
        · rw [htake]; exact Paired.app pys (.cons p1 .nil)
        · rw [htake, flat2_snoc (by rw [pys.length])]
          rw [List.take_length] at pq5
          exact pq5
        · have := hz1 _ _ p1
          rw [Nat.succ_mul]; omega
  · have ei : i = xs.length := by omega
    subst ei
    refine .inl ⟨w2 (List.getElem?_eq_none (Nat.le_refl _)), k D H us zs (e1.free D hD) (e1.trans eH) hDl ⟨xs, yss, px, ?_, ?_⟩ pS⟩
    · rw [List.take_length] at pys; exact pys
    · rw [List.take_length] at pq; exact pq
/-! ### dict comprehensions -/
def puts (kf : α → Str) (l : List (α × β)) : List (Str × β) := l.foldl (fun d p => pt d (kf p.1) p.2) []
theorem puts_snoc {kf : α → Str} {l : List (α × β)} {p : α × β} : puts kf (l ++ [p]) = pt (puts kf l) (kf p.1) p.2 := by unfold puts; rw [List.foldl_append]; rfl
theorem pt_len {d : List (Str × β)} {k : Str} {v : β} : (pt d k v).length ≤ d.length + 1 := by
  unfold pt
  split
  · rw [List.length_map]; omega
  · rw [List.length_append]; simp
theorem ed_dc [Plain S] {own : List (Str × Nat)} {ups : α → List (Nat × Slot)} {g : TG} {kf : α → Str} {qe : α → β → Prop} {ps : List α → Prop} (hc : X.calm = true) (hN : X.N.Nodup) (hi : ES X Γ tg iter R ps) (ok : BlkOk X.N X.env.scope scope own)
    (hg : Blk X scope fun B => PG B tg g) (hG : ∀ x, GOk g R x (ups x)) (hup : ∀ x, ∀ u ∈ ups x, u.1 ∈ own.map (·.2)) (hz : ∀ xs, ps xs → xs.length < sizeLine)
    (hk : ∀ xs, ps xs → ∀ x ∈ xs, Blk X scope fun B => EV B (setC (wipeC Γ (own.map (·.2))) (ups x)) kx rS (kf x))
    (he : ∀ xs, ps xs → ∀ x ∈ xs, Blk X scope fun B => EE B (setC (wipeC Γ (own.map (·.2))) (ups x)) vx S (qe x)) (hs : ∀ x, foldedSetIterable iter X.env x = pure x := by intro _; rfl) :
    ED X Γ (.DictComp kx vx [⟨tg, iter, [], 0⟩] scope pos) S (fun d => ∃ xs ys, ps xs ∧ Paired qe xs ys ∧ d = puts kf (xs.zip ys)) := by
  refine ED.of (pe_dc (tt := ttB X scope []) (tk := teB X scope kx) (tv := teB X scope vx) hc hN pi_ti ok hg (fun _ _ _ _ _ => pt_ttB) (fun _ _ _ _ _ => pe_teB) (fun _ _ _ _ _ => pe_teB) hs) fun W σ H Q hI hh k => ?_
  refine hi.ti hI hh fun J Hs xs e1 px wk D hD => ?_
  have hIs := e1.inv
  have hhs := hh.mono e1
  have h0 : ∀ o : HO, ∀ p ∈ ([(D, o)] : List (Addr × HO)), Hs p.1 = none := fun o p hp => by rw [List.mem_singleton.mp hp]; exact hD
  refine ⟨fun i m H => m = xs.length - i ∧ i ≤ xs.length ∧ ∃ us ys, H D = some (.dK us) ∧ Ext W Hs H ∧ Paired qe (xs.take i) ys ∧ Paired (DEnt S (W.adds [(D, .dK us)]) H) us (puts kf ((xs.take i).zip ys)) ∧ us.length ≤ i,
    ⟨xs.length, by simp, Nat.zero_le _, [], [], upd_same, (Ext.refl hIs).own hIs hD, .nil, .nil, Nat.zero_le _⟩, ?_⟩
  rintro i m H ⟨rfl, hil, us, ys, hDl, eH, pq, pS, hlen⟩
  have hI2 : (W.adds [(D, .dK us)]).I H := adds1_I eH.inv hDl
  obtain ⟨w1, w2⟩ := wk (W.adds [(D, .dK us)]) H (AgrX.into (h0 _) eH) hI2 i
  by_cases hlt : i < xs.length
  · have hx : xs[i]? = some xs[i] := List.getElem?_eq_getElem hlt
    obtain ⟨go, yl⟩ := w1 _ hx
    have hmem : xs[i] ∈ xs := List.getElem_mem hlt
    have htake : xs.take (i + 1) = xs.take i ++ [xs[i]] := by rw [List.take_add_one, hx]; rfl
    refine .inr ⟨go, fun H => i + 1 ≤ xs.length ∧ ∃ us ys, H D = some (.dK us) ∧ Ext W Hs H ∧ Paired qe (xs.take (i + 1)) ys ∧ Paired (DEnt S (W.adds [(D, .dK us)]) H) us (puts kf ((xs.take (i + 1)).zip ys)) ∧ us.length ≤ i + 1, fun H' ⟨a, b⟩ => ⟨xs.length - (i + 1), by omega, rfl, a, b⟩, fun v H' hy => ?_⟩
    obtain ⟨eY, rv⟩ := yl v H' hy
    have eW : Ext W Hs H' := eH.weak' (h0 _) eY
    have hB : HoldsE (W.adds [(D, .dK us)]) H' (wipe σ (own.map (·.2))) (wipeC Γ (own.map (·.2))) := (hhs.into hIs (h0 _) eW eY.inv).wipe _
    refine hG _ (W.adds [(D, .dK us)]) _ H' v _ eY.inv rv fun vs hvs => ?_
    have hB2 := hB.setA hvs
    refine ⟨?_, ?_⟩
    · rw [wipe_setA, wipe_wipe]
      intro j hj
      obtain ⟨u, hu, rfl⟩ := List.mem_map.mp hj
      exact hup _ u hu
    · intro s0 H0 C cl fp pins s I
      refine (ets_nil (Γ := setC (wipeC Γ (own.map (·.2))) (ups xs[i]))) (W.adds [(D, .dK us)]) _ H' pins s _ eY.inv hB2 I fun H3 e3 => ?_
      rw [if_pos rfl]
      intro s0 H0 C cl fp
      refine (hk xs px _ hmem s0 H0 C cl fp).te e3.inv (hB2.mono e3) fun kv H4 z e4 qk rk => ?_
      intro s0 H0 C cl fp
      refine (he xs px _ hmem s0 H0 C cl fp).te e4.inv (hB2.mono (e3.trans e4)) fun w H5 y e5 qy ry => ?_
      subst qk
      cases rk
      have hD5 := adds1_get e5.inv
      have hpl := pq.length
      refine ⟨us, .inr (kf xs[i]), rfl, hD5, by have := hz xs px; omega, hlt, putK us (.inr (kf xs[i])) w, ys ++ [y], upd_same, (((eW.weak' (h0 _) e3).weak' (h0 _) e4).weak' (h0 _) e5).own hIs hD, ?_, ?_, ?_⟩
      · rw [htake]; exact Paired.app pq (.cons qy .nil)
      · rw [htake, List.zip_append hpl]
        show Paired _ _ (puts kf (_ ++ [(xs[i], y)]))
        rw [puts_snoc]
        have ag : Agr (W.adds [(D, .dK us)]) H5 (W.adds [(D, .dK (putK us (.inr (kf xs[i])) w))]) (upd H5 D (.dK (putK us (.inr (kf xs[i])) w))) := Agr.upd adds1_M adds1_D
        exact put_paired (Plain.pl ag ry) (Paired.mp pS fun _ _ q => ⟨q.1, Plain.pl ag (S.mono (((eY.trans e3).trans e4).trans e5) q.2)⟩)
      · unfold putK
        split
        · rw [List.length_map]; omega
        · rw [List.length_append]; simp; omega
  · have ei : i = xs.length := by omega
    subst ei
    refine .inl ⟨w2 (List.getElem?_eq_none (Nat.le_refl _)), k D H us _ (e1.free D hD) (e1.trans eH) hDl ⟨xs, ys, px, ?_, rfl⟩ ?_⟩
    · rw [List.take_length] at pq; exact pq
    · rw [List.take_length] at pS; exact pS
/-- a dict whose keys are natural numbers: its keys -/
def rKN : RepT (List Nat) := RepT.ofPl (fun W H v ks => ∃ a us, v = .ref a ∧ ¬ W.M a ∧ rd H a = some (.dK us) ∧ us.map (·.1) = ks.map (fun k : Nat => (Sum.inl (k : Int) : Key)))
  fun {_ _ _ _ _ _} ag ⟨a, us, e, n, h, p⟩ => let ⟨n2, h2⟩ := ag a _ h n; ⟨a, us, e, n2, h2, p⟩
instance : Plain rKN := ⟨fun {_ _ _ _ _ _} ag ⟨a, us, e, n, h, p⟩ => let ⟨n2, h2⟩ := ag a _ h n; ⟨a, us, e, n2, h2, p⟩⟩
def ins1 (ks : List Nat) (k : Nat) : List Nat := if k ∈ ks then ks else ks ++ [k]
theorem keys_putN {us : List (Key × V)} {ks : List Nat} {k : Nat} {v : V} (h : us.map (·.1) = ks.map (fun k : Nat => (Sum.inl (k : Int) : Key))) : (putK us (.inl (k : Int)) v).map (·.1) = (ins1 ks k).map (fun k : Nat => (Sum.inl (k : Int) : Key)) := by
  have hm : (us.any fun kv => decide (kv.1 = (Sum.inl (k : Int) : Key))) = decide (k ∈ ks) := by
    rw [Bool.eq_iff_iff, List.any_eq_true, decide_eq_true_eq]
    constructor
    · rintro ⟨kv, m, e⟩
      have e := of_decide_eq_true e
      have : (Sum.inl (k : Int) : Key) ∈ ks.map (fun k : Nat => (Sum.inl (k : Int) : Key)) := by rw [← h]; exact List.mem_map.mpr ⟨kv, m, e⟩
      obtain ⟨j, hj, e2⟩ := List.mem_map.mp this
      have := Int.ofNat.inj (Sum.inl.inj e2)
      rw [← this]; exact hj
    · intro m
      have : (Sum.inl (k : Int) : Key) ∈ us.map (·.1) := by rw [h]; exact List.mem_map.mpr ⟨k, m, rfl⟩
      obtain ⟨kv, hk, e⟩ := List.mem_map.mp this
      exact ⟨kv, hk, decide_eq_true e⟩
  unfold putK ins1
  rw [hm]
  by_cases hk : k ∈ ks
  · rw [if_pos (decide_eq_true hk), if_pos hk, List.map_map, ← h]
    apply List.map_congr_left
    intro kv _
    show (if kv.1 = _ then (kv.1, v) else kv).1 = kv.1
    split <;> rfl
  · rw [if_neg (by rw [decide_eq_false hk]; exact Bool.false_ne_true), if_neg hk, List.map_append, List.map_append, h]; rfl
theorem ee_dcN {S : RepT β} {own : List (Str × Nat)} {ups : α → List (Nat × Slot)} {g : TG} {kf : α → Nat} {qe : α → β → Prop} {ps : List α → Prop} (hc : X.calm = true) (hN : X.N.Nodup) (hi : ES X Γ tg iter R ps) (ok : BlkOk X.N X.env.scope scope own)
    (hg : Blk X scope fun B => PG B tg g) (hG : ∀ x, GOk g R x (ups x)) (hup : ∀ x, ∀ u ∈ ups x, u.1 ∈ own.map (·.2)) (hz : ∀ xs, ps xs → xs.length < sizeLine)
    (hk : ∀ xs, ps xs → ∀ x ∈ xs, Blk X scope fun B => EV B (setC (wipeC Γ (own.map (·.2))) (ups x)) kx rNat (kf x))
    (he : ∀ xs, ps xs → ∀ x ∈ xs, Blk X scope fun B => EE B (setC (wipeC Γ (own.map (·.2))) (ups x)) vx S (qe x)) (hs : ∀ x, foldedSetIterable iter X.env x = pure x := by intro _; rfl) :
    EE X Γ (.DictComp kx vx [⟨tg, iter, [], 0⟩] scope pos) rKN (fun ks => ∃ xs, ps xs ∧ ks = (xs.map kf).foldl ins1 []) := by
  refine EE.of (pe_dc (tt := ttB X scope []) (tk := teB X scope kx) (tv := teB X scope vx) hc hN pi_ti ok hg (fun _ _ _ _ _ => pt_ttB) (fun _ _ _ _ _ => pe_teB) (fun _ _ _ _ _ => pe_teB) hs) fun W σ H Q hI hh k => ?_
  refine hi.ti hI hh fun J Hs xs e1 px wk D hD => ?_
  have hIs := e1.inv
  have hhs := hh.mono e1
  have h0 : ∀ o : HO, ∀ p ∈ ([(D, o)] : List (Addr × HO)), Hs p.1 = none := fun o p hp => by rw [List.mem_singleton.mp hp]; exact hD
  refine ⟨fun i m H => m = xs.length - i ∧ i ≤ xs.length ∧ ∃ us, H D = some (.dK us) ∧ Ext W Hs H ∧ us.map (·.1) = (((xs.take i).map kf).foldl ins1 []).map (fun k : Nat => (Sum.inl (k : Int) : Key)) ∧ us.length ≤ i,
    ⟨xs.length, by simp, Nat.zero_le _, [], upd_same, (Ext.refl hIs).own hIs hD, rfl, Nat.zero_le _⟩, ?_⟩
  rintro i m H ⟨rfl, hil, us, hDl, eH, pS, hlen⟩
  have hI2 : (W.adds [(D, .dK us)]).I H := adds1_I eH.inv hDl
  obtain ⟨w1, w2⟩ := wk (W.adds [(D, .dK us)]) H (AgrX.into (h0 _) eH) hI2 i
  by_cases hlt : i < xs.length
  · have hx : xs[i]? = some xs[i] := List.getElem?_eq_getElem hlt
    obtain ⟨go, yl⟩ := w1 _ hx
    have hmem : xs[i] ∈ xs := List.getElem_mem hlt
    have htake : xs.take (i + 1) = xs.take i ++ [xs[i]] := by rw [List.take_add_one, hx]; rfl
    refine .inr ⟨go, fun H => i + 1 ≤ xs.length ∧ ∃ us, H D = some (.dK us) ∧ Ext W Hs H ∧ us.map (·.1) = (((xs.take (i + 1)).map kf).foldl ins1 []).map (fun k : Nat => (Sum.inl (k : Int) : Key)) ∧ us.length ≤ i + 1, fun H' ⟨a, b⟩ => ⟨xs.length - (i + 1), by omega, rfl, a, b⟩, fun v H' hy => ?_⟩
    obtain ⟨eY, rv⟩ := yl v H' hy
    have eW : Ext W Hs H' := eH.weak' (h0 _) eY
    have hB : HoldsE (W.adds [(D, .dK us)]) H' (wipe σ (own.map (·.2))) (wipeC Γ (own.map (·.2))) := (hhs.into hIs (h0 _) eW eY.inv).wipe _
    refine hG _ (W.adds [(D, .dK us)]) _ H' v _ eY.inv rv fun vs hvs => ?_
    have hB2 := hB.setA hvs
    refine ⟨?_, ?_⟩
    · rw [wipe_setA, wipe_wipe]
      intro j hj
      obtain ⟨u, hu, rfl⟩ := List.mem_map.mp hj
      exact hup _ u hu
    · intro s0 H0 C cl fp pins s I
      refine (ets_nil (Γ := setC (wipeC Γ (own.map (·.2))) (ups xs[i]))) (W.adds [(D, .dK us)]) _ H' pins s _ eY.inv hB2 I fun H3 e3 => ?_
      rw [if_pos rfl]
      intro s0 H0 C cl fp
      refine (hk xs px _ hmem s0 H0 C cl fp).te e3.inv (hB2.mono e3) fun kv H4 z e4 qk rk => ?_
      intro s0 H0 C cl fp
      refine (he xs px _ hmem s0 H0 C cl fp).te e4.inv (hB2.mono (e3.trans e4)) fun w H5 y e5 qy ry => ?_
      subst qk
      cases rk
      have hD5 := adds1_get e5.inv
      refine ⟨us, .inl (kf xs[i] : Int), rfl, hD5, by have := hz xs px; omega, hlt, putK us (.inl (kf xs[i] : Int)) w, upd_same, (((eW.weak' (h0 _) e3).weak' (h0 _) e4).weak' (h0 _) e5).own hIs hD, ?_, ?_⟩
      · rw [htake, List.map_append, List.foldl_append]
        exact keys_putN pS
      · unfold putK
        split
        · rw [List.length_map]; omega
        · rw [List.length_append]; simp; omega
  · have ei : i = xs.length := by omega
    subst ei
    refine .inl ⟨w2 (List.getElem?_eq_none (Nat.le_refl _)), k _ H _ (e1.trans eH) ⟨xs, px, rfl⟩ ⟨D, us, rfl, Wd.fresh hIs hD, rd_d hDl, ?_⟩⟩
    rw [List.take_length] at pS
    exact pS
theorem c_sortKN (hc : X.calm = true) : CallN X (.builtin "sorted") rKN rNat (fun ks => ks.length < 64) (fun ks ys => ys.Perm ks ∧ ys.Pairwise (· ≤ ·)) :=
  ⟨_, call_sortedDI hc, fun W H ks u Q hi r h k => let ⟨l, us, e, n, hd, pr⟩ := r; ⟨l, us, ks.map (fun k : Nat => (k : Int)), by rw [e], rd_dK hd, by rw [pr, List.map_map]; rfl, by rw [List.length_map]; exact h, fun ys t p s ht => by
    have hnn : ∀ y ∈ ys, ∃ n : Nat, y = (n : Int) := fun y hy => by
      have := p.mem_iff.mp hy
      obtain ⟨n, _, e⟩ := List.mem_map.mp this
      exact ⟨n, e.symm⟩
    have key : ∃ ns : List Nat, ys = ns.map fun n : Nat => (n : Int) := by
      clear p s k
      induction ys with
      | nil => exact ⟨[], rfl⟩
      | cons y ys ih =>
        obtain ⟨n, rfl⟩ := hnn y List.mem_cons_self
        obtain ⟨ns, rfl⟩ := ih fun z hz => hnn z (List.mem_cons_of_mem _ hz)
        exact ⟨n :: ns, rfl⟩
    obtain ⟨ns, rfl⟩ := key
    rw [List.map_map]
    refine k t _ ns ht ⟨?_, ?_⟩ (map_flat (f := fun n : Nat => V.int n) ns)
    · have := p.map Int.toNat
      rw [List.map_map, List.map_map] at this
      simpa [Function.comp_def] using this
    · have := List.pairwise_map.mp s
      exact this.imp fun h => Int.ofNat_le.mp h⟩⟩
end
end K62

end

section
set_option Elab.async false
set_option linter.all false
set_option maxRecDepth 100000
set_option maxHeartbeats 4000000
/-! statements -/
namespace K62
open PySem PySem.Spec PyProof.Rows L2
inductive SK where
  | non : SK
  | base (g : Slot) : SK
  | val (g : Slot) : SK
  | own (k : Nat) : SK
inductive OSl where
  | lst {α : Type} (R : RepT α) (xs : List α)
  | dct {α : Type} (R : RepT α) (kvs : List (Str × α))
structure Ctx where
  Γ : List SK
  O : List OSl
def OSl.slot : OSl → Slot
  | .lst R xs => ⟨rOL R, xs⟩
  | .dct R kvs => ⟨rOD R, kvs⟩
def SK.slot (O : List OSl) : SK → Option Slot
  | .non => none
  | .base g => some g
  | .val g => some g
  | .own k => (O[k]?).map OSl.slot
def Ctx.E (C : Ctx) : ECtx := C.Γ.map (SK.slot C.O)
def OkO (W : Wd) (H : Hp) (p : Addr × HO) : OSl → Prop
  | .lst R xs => Plain R ∧ ∃ us, p.2 = .lst us ∧ Paired (R.r W H) us xs
  | .dct R kvs => Plain R ∧ ∃ us, p.2 = .dK us ∧ Paired (DEnt R W H) us kvs
theorem OkO.pl {W W2 : Wd} {H H2 : Hp} {p : Addr × HO} {o : OSl} (ag : Agr W H W2 H2) (h : OkO W H p o) : OkO W2 H2 p o := by
  cases o with
  | lst R xs => obtain ⟨pl, us, e, pr⟩ := h; exact ⟨pl, us, e, Paired.mp pr fun _ _ q => pl.pl ag q⟩
  | dct R xs => obtain ⟨pl, us, e, pr⟩ := h; exact ⟨pl, us, e, Paired.mp pr fun _ _ q => ⟨q.1, pl.pl ag q.2⟩⟩
def SOk (W : Wd) (H0 : Hp) (ow : List (Addr × HO)) (H : Hp) (v : Option (Option V)) : SK → Prop
  | .non => True
  | .base g => ∃ u, v = some (some u) ∧ g.R.r W H0 u g.x
  | .val g => Plain g.R ∧ ∃ u, v = some (some u) ∧ g.R.r (W.adds ow) H u g.x
  | .own k => ∃ p, ow[k]? = some p ∧ v = some (some (.ref p.1))
structure PO (F : Addr × HO → OSl → Prop) (l : List (Addr × HO)) (os : List OSl) : Prop where
  length : l.length = os.length
  at_ : ∀ (i : Nat) a b, l[i]? = some a → os[i]? = some b → F a b
theorem PO.nil {F : Addr × HO → OSl → Prop} : PO F [] [] := ⟨rfl, fun i a b h => by simp at h⟩
theorem PO.at1 {F : Addr × HO → OSl → Prop} {l : List (Addr × HO)} {os : List OSl} {i : Nat} {a : Addr × HO} (h : PO F l os) (e : l[i]? = some a) : ∃ b, os[i]? = some b ∧ F a b := by
  have hl := (List.getElem?_eq_some_iff.mp e).1
  rw [h.length] at hl
  exact ⟨os[i], List.getElem?_eq_getElem hl, h.at_ i a _ e (List.getElem?_eq_getElem hl)⟩
theorem PO.mp {F G : Addr × HO → OSl → Prop} {l : List (Addr × HO)} {os : List OSl} (h : PO F l os) (k : ∀ a b, F a b → G a b) : PO G l os := ⟨h.length, fun i a b e1 e2 => k a b (h.at_ i a b e1 e2)⟩
theorem PO.snoc {F : Addr × HO → OSl → Prop} {l : List (Addr × HO)} {os : List OSl} {a : Addr × HO} {b : OSl} (h : PO F l os) (q : F a b) : PO F (l ++ [a]) (os ++ [b]) := by
  refine ⟨by rw [List.length_append, List.length_append, h.length]; rfl, fun i x y e1 e2 => ?_⟩
  by_cases hi : i < l.length
  · rw [List.getElem?_append_left hi] at e1
    rw [List.getElem?_append_left (by rw [← h.length]; exact hi)] at e2
    exact h.at_ i x y e1 e2
  · rw [List.getElem?_append_right (by omega)] at e1
    rw [List.getElem?_append_right (by rw [← h.length]; omega)] at e2
    rw [h.length] at e1
    cases hz : i - os.length with
    | zero => rw [hz] at e1 e2; simp at e1 e2; subst e1 e2; exact q
    | succ n => rw [hz] at e1; simp at e1
theorem PO.st {F : Addr × HO → OSl → Prop} {l : List (Addr × HO)} {os : List OSl} {a : Addr × HO} {b : OSl} (k : Nat) (h : PO F l os) (q : F a b) : PO F (l.set k a) (os.set k b) := by
  refine ⟨by rw [List.length_set, List.length_set, h.length], fun i x y e1 e2 => ?_⟩
  by_cases hi : k = i
  · subst hi
    have h1 := (List.getElem?_eq_some_iff.mp e1).1
    have h2 := (List.getElem?_eq_some_iff.mp e2).1
    rw [List.length_set] at h1 h2
    rw [List.getElem?_set_self h1] at e1
    rw [List.getElem?_set_self h2] at e2
    cases e1; cases e2; exact q
  · rw [List.getElem?_set_ne hi] at e1 e2
    exact h.at_ i x y e1 e2
structure Holds (W : Wd) (H0 : Hp) (ow : List (Addr × HO)) (H : Hp) (σ : L2.St) (C : Ctx) : Prop where
  i0 : W.I H0
  new : ∀ p ∈ ow, H0 p.1 = none
  nd : (ow.map (·.1)).Nodup
  ext : Ext W H0 H
  own : ∀ p ∈ ow, H p.1 = some p.2
  prO : PO (OkO (W.adds ow) H) ow C.O
  len : σ.length = C.Γ.length
  sl : ∀ (i : Nat) (k : SK), C.Γ[i]? = some k → SOk W H0 ow H σ[i]? k
section
variable {W : Wd} {H0 H H1 : Hp} {ow : List (Addr × HO)} {σ : L2.St} {C : Ctx}
theorem Holds.I (h : Holds W H0 ow H σ C) : (W.adds ow).I H := ⟨h.ext.inv, h.own⟩
theorem Holds.slot (h : Holds W H0 ow H σ C) {i : Nat} {k : SK} {g : Slot} (e : C.Γ[i]? = some k) (q : SK.slot C.O k = some g) : ∃ v, σ[i]? = some (some v) ∧ g.R.r (W.adds ow) H v g.x := by
  have r := h.sl i k e
  cases k with
  | non => cases q
  | base g' => cases q; obtain ⟨u, e1, r⟩ := r; exact ⟨u, e1, g.R.into h.i0 h.new h.ext h.I r⟩
  | val g' => cases q; exact r.2
  | own k =>
    obtain ⟨p, e1, e2⟩ := r
    obtain ⟨o, eo, rfl⟩ := Option.map_eq_some_iff.mp q
    obtain ⟨o', eo', ok⟩ := PO.at1 h.prO e1
    rw [eo] at eo'; cases eo'
    have hm : p ∈ ow := List.mem_of_getElem? e1
    have hM : (W.adds ow).M p.1 := .inr ⟨p, hm, rfl⟩
    cases o with
    | lst R xs =>
      obtain ⟨pl, us, e3, pr⟩ := ok
      exact ⟨_, e2, p.1, us, rfl, hM, fun H' i => by rw [← e3]; exact i.2 p hm, pr⟩
    | dct R xs =>
      obtain ⟨pl, us, e3, pr⟩ := ok
      exact ⟨_, e2, p.1, us, rfl, hM, fun H' i => by rw [← e3]; exact i.2 p hm, pr⟩
theorem Holds.E (h : Holds W H0 ow H σ C) : HoldsE (W.adds ow) H σ C.E := by
  refine ⟨by unfold Ctx.E; rw [List.length_map]; exact h.len, fun i g q => ?_⟩
  unfold Ctx.E at q
  rw [List.getElem?_map] at q
  obtain ⟨k, e1, e2⟩ := Option.map_eq_some_iff.mp q
  exact h.slot e1 e2
theorem agr_adds {W1 W2 : Wd} {H : Hp} (hM : ∀ a, W2.M a → W1.M a) : Agr W1 H W2 H := fun a o h n => ⟨fun m => n (hM a m), h⟩
theorem Holds.mono (h : Holds W H0 ow H σ C) (e : Ext (W.adds ow) H H1) : Holds W H0 ow H1 σ C where
  i0 := h.i0
  new := h.new
  nd := h.nd
  ext := h.ext.weak' h.new e
  own := e.inv.2
  prO := PO.mp h.prO fun _ _ q => q.pl e.agr
  len := h.len
  sl := fun i k q => by
    have r := h.sl i k q
    cases k with
    | non => trivial
    | base g => exact r
    | val g => obtain ⟨pl, u, e1, r⟩ := r; exact ⟨pl, u, e1, g.R.mono e r⟩
    | own k => exact r
theorem SOk.plv {ow2 : List (Addr × HO)} {v : Option (Option V)} {k : SK} (ag : Agr (W.adds ow) H (W.adds ow2) H1) (hk : ∀ (j : Nat) (p : Addr × HO), ow[j]? = some p → ∃ p' : Addr × HO, ow2[j]? = some p' ∧ p'.1 = p.1) (r : SOk W H0 ow H v k) : SOk W H0 ow2 H1 v k := by
  cases k with
  | non => trivial
  | base g => exact r
  | val g => obtain ⟨pl, u, e1, r⟩ := r; exact ⟨pl, u, e1, pl.pl ag r⟩
  | own k =>
    obtain ⟨p, e1, e2⟩ := r
    obtain ⟨p', e3, e4⟩ := hk k p e1
    exact ⟨p', e3, by rw [e4]; exact e2⟩
def Ctx.set (C : Ctx) (i : Nat) (k : SK) : Ctx := ⟨C.Γ.set i k, C.O⟩
abbrev Ctx.put (C : Ctx) (i : Nat) (g : Slot) : Ctx := C.set i (.val g)
def Ctx.puts (C : Ctx) : List (Nat × Slot) → Ctx
  | [] => C
  | (i, g) :: r => (C.put i g).puts r
theorem Holds.setK (h : Holds W H0 ow H σ C) {i : Nat} {v : V} {k : SK} (r : SOk W H0 ow H (some (some v)) k) : Holds W H0 ow H (σ.set i (some v)) (C.set i k) where
  i0 := h.i0
  new := h.new
  nd := h.nd
  ext := h.ext
  own := h.own
  prO := h.prO
  len := by show _ = (C.Γ.set i k).length; rw [List.length_set, List.length_set]; exact h.len
  sl := fun j k' q => by
    have q : (C.Γ.set i k)[j]? = some k' := q
    by_cases e : i = j
    · subst e
      by_cases hl : i < C.Γ.length
      · rw [List.getElem?_set_self hl] at q
        cases q
        rw [List.getElem?_set_self (by rw [h.len]; exact hl)]
        exact r
      · rw [List.getElem?_eq_none (by rw [List.length_set]; omega)] at q; cases q
    · rw [List.getElem?_set_ne e] at q ⊢
      exact h.sl j k' q
theorem Holds.put (h : Holds W H0 ow H σ C) {i : Nat} {v : V} {g : Slot} (pl : Plain g.R) (r : g.R.r (W.adds ow) H v g.x) : Holds W H0 ow H (σ.set i (some v)) (C.put i g) := h.setK ⟨pl, v, rfl, r⟩
theorem Holds.puts : ∀ {ups : List (Nat × Slot)} {vs : List V} {σ : L2.St} {C : Ctx}, Holds W H0 ow H σ C → (∀ u ∈ ups, Plain u.2.R) → SlotsOk (W.adds ow) H vs (ups.map (·.2)) → Holds W H0 ow H (setA σ (ups.map (·.1)) vs) (C.puts ups)
  | [], _, σ, C, h, _, .nil => h
  | (i, g) :: r, v :: vs, σ, C, h, pl, .cons a t => Holds.puts (ups := r) (h.put (pl _ List.mem_cons_self) a) (fun u m => pl u (List.mem_cons_of_mem _ m)) t
/-- a new container of one's own -/
theorem Holds.newO {l : Addr} {o : HO} {os : OSl} (h : Holds W H0 ow H σ C) (hl : H l = none) (e : Ext (W.adds ow) H H1) (ho : H1 l = some o) (ok : OkO ((W.adds ow).adds [(l, o)]) H1 (l, o) os) : Holds W H0 (ow ++ [(l, o)]) H1 σ ⟨C.Γ, C.O ++ [os]⟩ ∧ AgrX (W.adds ow) H (W.adds (ow ++ [(l, o)])) H1 := by
  have hM : ∀ a, (W.adds (ow ++ [(l, o)])).M a → ((W.adds ow).adds [(l, o)]).M a := fun a m => m.elim (fun z => .inl (.inl z)) fun ⟨p, hp, e⟩ => (List.mem_append.mp hp).elim (fun z => .inl (.inr ⟨p, z, e⟩)) fun z => .inr ⟨p, z, e⟩
  have h0 : ∀ p ∈ ([(l, o)] : List (Addr × HO)), H p.1 = none := fun p hp => by rw [List.mem_singleton.mp hp]; exact hl
  have agx : AgrX (W.adds ow) H (W.adds (ow ++ [(l, o)])) H1 := fun a u ha hn => by
    obtain ⟨n2, h2⟩ := (AgrX.into h0 e) a u ha hn
    exact ⟨fun m => n2 (hM a m), h2⟩
  have ag := agx.agr
  refine ⟨{ i0 := h.i0, new := ?_, nd := ?_, ext := h.ext.weak' h.new e, own := ?_, prO := ?_, len := h.len, sl := ?_ }, agx⟩
  · intro p hp
    rcases List.mem_append.mp hp with hp | hp
    · exact h.new p hp
    · rw [List.mem_singleton.mp hp]; exact h.ext.free l hl
  · rw [List.map_append, List.nodup_append]
    refine ⟨h.nd, by simp, fun a ha b hb => ?_⟩
    obtain ⟨p, hp, rfl⟩ := List.mem_map.mp ha
    have : b = l := by simpa using hb
    subst this
    intro z
    have := h.own p hp
    rw [z, hl] at this; cases this
  · intro p hp
    rcases List.mem_append.mp hp with hp | hp
    · exact e.inv.2 p hp
    · rw [List.mem_singleton.mp hp]; exact ho
  · exact PO.snoc (PO.mp h.prO fun _ _ q => q.pl ag) (ok.pl (agr_adds hM))
  · intro i k q
    refine SOk.plv ag (fun j p hp => ⟨p, ?_, rfl⟩) (h.sl i k q)
    rw [List.getElem?_append_left (List.getElem?_eq_some_iff.mp hp).1]; exact hp
theorem set_self' {α : Type} {l : List α} {k : Nat} {x : α} (h : l[k]? = some x) : l.set k x = l := by
  obtain ⟨h1, h2⟩ := List.getElem?_eq_some_iff.mp h
  rw [← h2]; exact List.set_getElem_self h1
theorem nodup_at {α : Type} {x : α} : ∀ {l : List α} {i j : Nat}, l.Nodup → l[i]? = some x → l[j]? = some x → i = j
  | [], i, j, _, h, _ => by simp at h
  | a :: l, 0, 0, _, _, _ => rfl
  | a :: l, 0, j + 1, nd, h1, h2 => by
    simp at h1 h2; subst h1
    exact absurd (List.mem_of_getElem? h2) (List.nodup_cons.mp nd).1
  | a :: l, i + 1, 0, nd, h1, h2 => by
    simp at h1 h2; subst h2
    exact absurd (List.mem_of_getElem? h1) (List.nodup_cons.mp nd).1
  | a :: l, i + 1, j + 1, nd, h1, h2 => by
    simp at h1 h2
    rw [nodup_at (List.nodup_cons.mp nd).2 h1 h2]
/-- a container written -/
theorem Holds.wrO {l : Addr} {o o' : HO} {os : OSl} {k : Nat} (h : Holds W H0 ow H σ C) (hk : ow[k]? = some (l, o)) (ok : ∀ ow', Agr (W.adds ow) H (W.adds ow') (upd H l o') → OkO (W.adds ow') (upd H l o') (l, o') os) :
    Holds W H0 (ow.set k (l, o')) (upd H l o') σ ⟨C.Γ, C.O.set k os⟩ ∧ AgrX (W.adds ow) H (W.adds (ow.set k (l, o'))) (upd H l o') := by
  have hlt := (List.getElem?_eq_some_iff.mp hk).1
  have hmem : (l, o) ∈ ow := List.mem_of_getElem? hk
  have hadr : (ow.set k (l, o')).map (·.1) = ow.map (·.1) := by
    rw [List.map_set]
    apply set_self'
    rw [List.getElem?_map, hk]; rfl
  have hM : ∀ a, (W.adds (ow.set k (l, o'))).M a → (W.adds ow).M a := fun a m => m.elim .inl fun ⟨p, hp, e⟩ => by
    have : a ∈ (ow.set k (l, o')).map (·.1) := List.mem_map.mpr ⟨p, hp, e⟩
    rw [hadr] at this
    obtain ⟨p', hp', e'⟩ := List.mem_map.mp this
    exact .inr ⟨p', hp', e'⟩
  have hD : (W.adds ow).M l := .inr ⟨_, hmem, rfl⟩
  have ag : Agr (W.adds ow) H (W.adds (ow.set k (l, o'))) (upd H l o') := Agr.upd hM hD
  have agx : AgrX (W.adds ow) H (W.adds (ow.set k (l, o'))) (upd H l o') := fun a u ha hn => ⟨fun m => hn (hM a m), by rw [upd_ne (fun e => hn (by rw [e]; exact hD))]; exact ha⟩
  have hnM : ¬ W.M l := Wd.fresh h.i0 (h.new _ hmem)
  refine ⟨{ i0 := h.i0, new := ?_, nd := by rw [hadr]; exact h.nd, ext := h.ext.own h.i0 (h.new _ hmem), own := ?_, prO := ?_, len := h.len, sl := ?_ }, agx⟩
  · intro p hp
    have : p.1 ∈ (ow.set k (l, o')).map (·.1) := List.mem_map.mpr ⟨p, hp, rfl⟩
    rw [hadr] at this
    obtain ⟨p', hp', e'⟩ := List.mem_map.mp this
    rw [← e']; exact h.new p' hp'
  · intro p hp
    obtain ⟨j, hj⟩ := List.mem_iff_getElem?.mp hp
    by_cases e : k = j
    · subst e
      rw [List.getElem?_set_self hlt] at hj
      cases hj
      exact upd_same
    · rw [List.getElem?_set_ne e] at hj
      have hne : p.1 ≠ l := fun z => by
        apply e
        have a1 : (ow.map (·.1))[k]? = some l := by rw [List.getElem?_map, hk]; rfl
        have a2 : (ow.map (·.1))[j]? = some l := by rw [List.getElem?_map, hj, ← z]; rfl
        exact nodup_at h.nd a1 a2
      rw [upd_ne hne]
      exact h.own p (List.mem_of_getElem? hj)
  · exact PO.st k (PO.mp h.prO fun _ _ q => q.pl ag) (ok _ ag)
  · intro i kk q
    refine SOk.plv ag (fun j p hp => ?_) (h.sl i kk q)
    by_cases e : k = j
    · subst e
      rw [hk] at hp; cases hp
      exact ⟨_, List.getElem?_set_self hlt, rfl⟩
    · exact ⟨p, by rw [List.getElem?_set_ne e]; exact hp, rfl⟩
/-- forgetting -/
def Weak (C C' : Ctx) : Prop := C'.O = C.O ∧ C'.Γ.length = C.Γ.length ∧ ∀ (i : Nat) (k : SK), C'.Γ[i]? = some k → k = SK.non ∨ C.Γ[i]? = some k
theorem Weak.refl : Weak C C := ⟨rfl, rfl, fun _ _ h => .inr h⟩
theorem Holds.weak {C' : Ctx} (h : Holds W H0 ow H σ C) (w : Weak C C') : Holds W H0 ow H σ C' where
  i0 := h.i0
  new := h.new
  nd := h.nd
  ext := h.ext
  own := h.own
  prO := by rw [w.1]; exact h.prO
  len := by rw [w.2.1]; exact h.len
  sl := fun i k q => by
    rcases w.2.2 i k q with e | e
    · subst e; trivial
    · exact h.sl i k e
inductive WkL : List SK → List SK → Prop
  | nil : WkL [] []
  | keep {k l l'} : WkL l l' → WkL (k :: l) (k :: l')
  | drop {k l l'} : WkL l l' → WkL (k :: l) (.non :: l')
theorem WkL.len : ∀ {l l' : List SK}, WkL l l' → l'.length = l.length
  | _, _, .nil => rfl
  | _, _, .keep t => congrArg Nat.succ t.len
  | _, _, .drop t => congrArg Nat.succ t.len
theorem WkL.at_ : ∀ {l l' : List SK} {i : Nat} {k : SK}, WkL l l' → l'[i]? = some k → k = SK.non ∨ l[i]? = some k
  | _, _, _, _, .nil, h => by simp at h
  | _, _, 0, _, .keep t, h => .inr h
  | _, _, 0, _, .drop t, h => by simp at h; exact .inl h.symm
  | _, _, i + 1, _, .keep t, h => by simpa using WkL.at_ (i := i) t (by simpa using h)
  | _, _, i + 1, _, .drop t, h => by simpa using WkL.at_ (i := i) t (by simpa using h)
theorem weak_by {Γ Γ' : List SK} {O : List OSl} (h : WkL Γ Γ') : Weak ⟨Γ, O⟩ ⟨Γ', O⟩ := ⟨rfl, h.len, fun i k q => h.at_ q⟩
end
/-! ### the judgement -/
structure Fin {β : Type} (W : Wd) (H0 : Hp) (ow : List (Addr × HO)) (H : Hp) (D : Ends) (nx : Ctx → Prop) (R : RepT β) (p : β → Prop) : Prop where
  n : ∀ C' ow' σ' H', nx C' → Holds W H0 ow' H' σ' C' → AgrX (W.adds ow) H (W.adds ow') H' → D.nx σ' H'
  r : ∀ v H1 y, Ext W H0 H1 → p y → R.r W H1 v y → D.rt v H1
def SS {β : Type} (X : Cx) (C : Ctx) (sts : List Stmt) (nx : Ctx → Prop) (R : RepT β) (p : β → Prop) : Prop :=
  ∀ (W : Wd) (H0 : Hp) (ow : List (Addr × HO)) (σ : L2.St) (H : Hp) (pins : List (Addr × Obj)) (s : Shared) (D : Ends), Holds W H0 ow H σ C → Inv X pins σ H s → Fin W H0 ow H D nx R p →
    wpAny (model X.prog X.w) X.A (execs sts X.env) (SP X pins D) X.xe s
def tss (X : Cx) (sts : List Stmt) : TS := fun D σ H => ∀ (pins : List (Addr × Obj)) (s : Shared), Inv X pins σ H s → wpAny (model X.prog X.w) X.A (execs sts X.env) (SP X pins D) X.xe s
section
variable {X : Cx} {C : Ctx} {e a b c : Expr} {es : List Expr} {rest th el : List Stmt} {α β γ δ : Type} {R : RepT α} {S : RepT β} {T : RepT γ} {U : RepT δ} {p : α → Prop} {q : β → Prop} {r : γ → Prop} {pos pp : Pos} {nx nx1 : Ctx → Prop}
theorem pss_tss {sts : List Stmt} : PSs X sts (tss X sts) := ⟨fun pins s _ _ _ I h => h pins s I⟩
theorem SS.tss {W : Wd} {H0 H : Hp} {ow : List (Addr × HO)} {σ : L2.St} {D : Ends} {sts : List Stmt} (h : SS X C sts nx T r) (hh : Holds W H0 ow H σ C) (f : Fin W H0 ow H D nx T r) : tss X sts D σ H := fun pins s I => h W H0 ow σ H pins s D hh I f
theorem SS.of {t : TS} {sts : List Stmt} (h : PSs X sts t) (k : ∀ (W : Wd) H0 ow σ H (D : Ends), Holds W H0 ow H σ C → Fin W H0 ow H D nx T r → t D σ H) : SS X C sts nx T r :=
  fun W H0 ow σ H pins s D hh I f => h.run pins s σ H D I (k W H0 ow σ H D hh f)
theorem Fin.step {W : Wd} {H0 H H1 : Hp} {ow ow1 : List (Addr × HO)} {D : Ends} (f : Fin W H0 ow H D nx T r) (a : AgrX (W.adds ow) H (W.adds ow1) H1) : Fin W H0 ow1 H1 D nx T r := ⟨fun C' ow' σ' H' n h a2 => f.n C' ow' σ' H' n h (a.trans a2), f.r⟩
theorem SS.weak {C' : Ctx} {sts : List Stmt} (h : SS X C' sts nx T r) (w : Weak C C') : SS X C sts nx T r := fun W H0 ow σ H pins s D hh I f => h W H0 ow σ H pins s D (hh.weak w) I f
theorem SS.imp {sts : List Stmt} {r' : γ → Prop} (h : SS X C sts nx T r) (k : ∀ y, r y → r' y) : SS X C sts nx T r' := fun W H0 ow σ H pins s D hh I f => h W H0 ow σ H pins s D hh I ⟨f.n, fun v H1 y e py => f.r v H1 y e (k y py)⟩
theorem sq_nil {C' : Ctx} (h : nx C') (w : Weak C C' := by exact Weak.refl) : SS X C [] nx T r := SS.of pss_nil fun W H0 ow σ H D hh f => f.n C' ow σ H h (hh.weak w) AgrX.refl
/-- name = value -/
theorem sq_set (i : Nat) {x : Str} {pos' : Pos} [Plain R] (he : EE X C.E e R p) (k : ∀ y, p y → SS X (C.put i ⟨R, y⟩) rest nx T r) (hN : X.N.Nodup) (hi : X.N[i]? = some x := by rfl) (hx : Loc X.env.scope x := by first | exact Or.inl rfl | exact Or.inr rfl)
    (hs : swapsWith e (some (.Name x pos')) pos.line X.env = pure false := by rfl) (hf : X.fn x = true := by rfl) : SS X C (.Assign [.Name x pos'] e pos :: rest) nx T r :=
  SS.of (pss_cons (ps_set hN hi hx pe_te hs (.inl hf)) pss_tss) fun W H0 ow σ H D hh f => he.te hh.I hh.E fun v H1 y e1 py ry =>
    (k y py).tss ((hh.mono e1).put (g := ⟨R, y⟩) ‹_› ry) (f.step e1.agrX)
/-- name = value, told -/
theorem dq_set (i : Nat) {x : Str} {pos' : Pos} [Plain R] {y : α} (he : EV X C.E e R y) (k : SS X (C.put i ⟨R, y⟩) rest nx T r) (hN : X.N.Nodup) (hi : X.N[i]? = some x := by rfl) (hx : Loc X.env.scope x := by first | exact Or.inl rfl | exact Or.inr rfl)
    (hs : swapsWith e (some (.Name x pos')) pos.line X.env = pure false := by rfl) (hf : X.fn x = true := by rfl) : SS X C (.Assign [.Name x pos'] e pos :: rest) nx T r :=
  sq_set i he (fun z hz => by rw [hz]; exact k) hN hi hx hs hf
/-- name = a new list of one's own -/
theorem sq_own (i : Nat) {x : Str} {pos' : Pos} [Plain R] {p : List α → Prop} (he : EN X C.E e R p) (k : ∀ y, p y → SS X ⟨C.Γ.set i (.own C.O.length), C.O ++ [.lst R y]⟩ rest nx T r) (hN : X.N.Nodup) (hi : X.N[i]? = some x := by rfl) (hx : Loc X.env.scope x := by first | exact Or.inl rfl | exact Or.inr rfl)
    (hs : swapsWith e (some (.Name x pos')) pos.line X.env = pure false := by rfl) (hf : X.fn x = true := by rfl) : SS X C (.Assign [.Name x pos'] e pos :: rest) nx T r :=
  SS.of (pss_cons (ps_set hN hi hx pe_te hs (.inl hf)) pss_tss) fun W H0 ow σ H D hh f => fun pins s I => he (W.adds ow) σ H pins s _ hh.I hh.E I fun l H1 us ys hl e1 hd py pr => by
    obtain ⟨h2, ag⟩ := hh.newO (os := .lst R ys) hl e1 hd ⟨‹_›, us, rfl, pr⟩
    refine (k ys py).tss (h2.setK (k := .own C.O.length) ⟨(l, .lst us), ?_, rfl⟩) (f.step ag)
    have := h2.prO.length
    have hl2 := hh.prO.length
    rw [← hl2]; simp
theorem sq_ownD (i : Nat) {x : Str} {pos' : Pos} [Plain R] {p : List (Str × α) → Prop} (he : ED X C.E e R p) (k : ∀ y, p y → SS X ⟨C.Γ.set i (.own C.O.length), C.O ++ [.dct R y]⟩ rest nx T r) (hN : X.N.Nodup) (hi : X.N[i]? = some x := by rfl) (hx : Loc X.env.scope x := by first | exact Or.inl rfl | exact Or.inr rfl)
    (hs : swapsWith e (some (.Name x pos')) pos.line X.env = pure false := by rfl) (hf : X.fn x = true := by rfl) : SS X C (.Assign [.Name x pos'] e pos :: rest) nx T r :=
  SS.of (pss_cons (ps_set hN hi hx pe_te hs (.inl hf)) pss_tss) fun W H0 ow σ H D hh f => fun pins s I => he (W.adds ow) σ H pins s _ hh.I hh.E I fun l H1 us ys hl e1 hd py pr => by
    obtain ⟨h2, ag⟩ := hh.newO (os := .dct R ys) hl e1 hd ⟨‹_›, us, rfl, pr⟩
    refine (k ys py).tss (h2.setK (k := .own C.O.length) ⟨(l, .dK us), ?_, rfl⟩) (f.step ag)
    have hl2 := hh.prO.length
    rw [← hl2]; simp
theorem sq_if {pb : Bool → Prop} (ht : ET X C.E c pb) (h1 : pb true → SS X C th nx1 T r) (h2 : pb false → SS X C el nx1 T r) (k : ∀ C1, nx1 C1 → SS X C1 rest nx T r) : SS X C (.If c th el pos :: rest) nx T r :=
  SS.of (pss_cons (ps_if pt_tt pss_tss pss_tss) pss_tss) fun W H0 ow σ H D hh f => ht.tt hh.I hh.E fun v H1 e1 pv => by
    have fin : Fin W H0 ow H1 { D with nx := tss X rest D } nx1 T r := ⟨fun C' ow' σ' H' n h a2 => (k C' n).tss h (f.step (e1.agrX.trans a2)), f.r⟩
    cases v with
    | true => exact (h1 pv).tss (hh.mono e1) fin
    | false => exact (h2 pv).tss (hh.mono e1) fin
/-- if c: return .. -/
theorem sq_ifr {pb : Bool → Prop} (ht : ET X C.E c pb) (h1 : pb true → SS X C th (fun _ => False) T r) (k : pb false → SS X C rest nx T r) : SS X C (.If c th [] pos :: rest) nx T r :=
  SS.of (pss_cons (ps_if pt_tt pss_tss pss_nil) pss_tss) fun W H0 ow σ H D hh f => ht.tt hh.I hh.E fun v H1 e1 pv => by
    cases v with
    | true => exact (h1 pv).tss (hh.mono e1) ⟨fun _ _ _ _ n => n.elim, f.r⟩
    | false => exact (k pv).tss (hh.mono e1) (f.step e1.agrX)
theorem dq_ifr {x : Bool} (ht : TV X C.E c x) (h1 : x = true → SS X C th (fun _ => False) T r) (k : x = false → SS X C rest nx T r) : SS X C (.If c th [] pos :: rest) nx T r := sq_ifr ht (fun h => h1 h.symm) fun h => k h.symm
/-- an expression as a statement -/
theorem sq_expr {p : α → Prop} (he : EE X C.E e R p) (k : SS X C rest nx T r) (hs : swapsWith e none pos.line X.env = pure false := by rfl) : SS X C (.Expr e pos :: rest) nx T r :=
  SS.of (pss_cons (ps_expr pe_te hs) pss_tss) fun W H0 ow σ H D hh f => he.te hh.I hh.E fun v H1 y e1 py ry => k.tss (hh.mono e1) (f.step e1.agrX)
/-- return -/
theorem sq_ret [Plain T] (he : EE X C.E e T r) : SS X C (.Return (some e) pos :: rest) nx T r :=
  SS.of (pss_cons (ps_ret pe_te) pss_tss) fun W H0 ow σ H D hh f => he.te hh.I hh.E fun v H1 y e1 py ry => f.r v H1 y (hh.ext.weak' hh.new e1) py (Plain.pl Agr.out ry)
theorem sq_ret' [Plain T] {q : γ → Prop} (he : EE X C.E e T q) (k : ∀ y, q y → r y) : SS X C (.Return (some e) pos :: rest) nx T r := sq_ret (he.imp k)
/-- all of one's own containers are given away -/
inductive Seal : List OSl → List SK → List SK → Prop
  | nil {O} : Seal O [] []
  | non {O Γ Γ'} : Seal O Γ Γ' → Seal O (.non :: Γ) (.non :: Γ')
  | base {O Γ Γ' g} : Seal O Γ Γ' → Seal O (.base g :: Γ) (.base g :: Γ')
  | val {O Γ Γ' g} : Seal O Γ Γ' → Seal O (.val g :: Γ) (.val g :: Γ')
  | lst {O Γ Γ' k} {α : Type} {R : RepT α} {xs : List α} (pl : Plain R) : O[k]? = some (.lst R xs) → Seal O Γ Γ' → Seal O (.own k :: Γ) (.val ⟨rL R, xs⟩ :: Γ')
  | dct {O Γ Γ' k} {α : Type} {R : RepT α} {xs : List (Str × α)} (pl : Plain R) : O[k]? = some (.dct R xs) → Seal O Γ Γ' → Seal O (.own k :: Γ) (.val ⟨rD R, xs⟩ :: Γ')
theorem Seal.at {O : List OSl} {k' : SK} : ∀ {Γ Γ' : List SK} {i : Nat}, Seal O Γ Γ' → Γ'[i]? = some k' → ∃ k, Γ[i]? = some k ∧ Seal O [k] [k']
  | _, _, _, .nil, h => by simp at h
  | _, _, 0, .non t, h => by simp at h; subst h; exact ⟨_, rfl, .non .nil⟩
  | _, _, 0, .base t, h => by simp at h; subst h; exact ⟨_, rfl, .base .nil⟩
  | _, _, 0, .val t, h => by simp at h; subst h; exact ⟨_, rfl, .val .nil⟩
  | _, _, 0, .lst p q t, h => by simp at h; subst h; exact ⟨_, rfl, .lst p q .nil⟩
  | _, _, 0, .dct p q t, h => by simp at h; subst h; exact ⟨_, rfl, .dct p q .nil⟩
  | _, _, i + 1, .non t, h => by obtain ⟨k, a, b⟩ := Seal.at (i := i) t (by simpa using h); exact ⟨k, by simpa using a, b⟩
  | _, _, i + 1, .base t, h => by obtain ⟨k, a, b⟩ := Seal.at (i := i) t (by simpa using h); exact ⟨k, by simpa using a, b⟩
  | _, _, i + 1, .val t, h => by obtain ⟨k, a, b⟩ := Seal.at (i := i) t (by simpa using h); exact ⟨k, by simpa using a, b⟩
  | _, _, i + 1, .lst p q t, h => by obtain ⟨k, a, b⟩ := Seal.at (i := i) t (by simpa using h); exact ⟨k, by simpa using a, b⟩
  | _, _, i + 1, .dct p q t, h => by obtain ⟨k, a, b⟩ := Seal.at (i := i) t (by simpa using h); exact ⟨k, by simpa using a, b⟩
theorem Seal.len {O : List OSl} : ∀ {Γ Γ' : List SK}, Seal O Γ Γ' → Γ'.length = Γ.length
  | _, _, .nil => rfl
  | _, _, .non t => congrArg Nat.succ t.len
  | _, _, .base t => congrArg Nat.succ t.len
  | _, _, .val t => congrArg Nat.succ t.len
  | _, _, .lst _ _ t => congrArg Nat.succ t.len
  | _, _, .dct _ _ t => congrArg Nat.succ t.len
theorem Holds.seal {W : Wd} {H0 H : Hp} {ow : List (Addr × HO)} {σ : L2.St} {Γ' : List SK} (h : Holds W H0 ow H σ C) (se : Seal C.O C.Γ Γ') : Holds W H0 [] H σ ⟨Γ', []⟩ ∧ AgrX (W.adds ow) H (W.adds []) H := by
  have hM : ∀ a, (W.adds []).M a → (W.adds ow).M a := fun a m => m.elim .inl fun ⟨p, hp, _⟩ => absurd hp (by simp)
  refine ⟨{ i0 := h.i0, new := by simp, nd := by simp, ext := h.ext, own := by simp, prO := .nil, len := by show _ = Γ'.length; rw [se.len]; exact h.len, sl := ?_ }, fun a o ha hn => ⟨fun m => hn (hM a m), ha⟩⟩
  intro i k' qq
  obtain ⟨k, e, s1⟩ := Seal.at se qq
  have r := h.sl i k e
  have ag : Agr (W.adds ow) H (W.adds []) H := agr_adds hM
  cases s1 with
  | non t => trivial
  | base t => exact r
  | val t => obtain ⟨pl, u, e1, r⟩ := r; exact ⟨pl, u, e1, pl.pl ag r⟩
  | @lst _ _ j α R xs pl q t =>
    obtain ⟨p, e1, e2⟩ := r
    obtain ⟨o', eo', ok⟩ := PO.at1 h.prO e1
    rw [q] at eo'; cases eo'
    obtain ⟨pl', us, e3, pr⟩ := ok
    have hm : p ∈ ow := List.mem_of_getElem? e1
    refine ⟨inferInstance, _, e2, p.1, us, rfl, ?_, rd_l (by rw [h.own p hm, e3]), Paired.mp pr fun _ _ q => pl'.pl ag q⟩
    exact fun m => m.elim (Wd.fresh h.i0 (h.new p hm)) fun ⟨p, hp, _⟩ => absurd hp (by simp)
  | @dct _ _ j α R xs pl q t =>
    obtain ⟨p, e1, e2⟩ := r
    obtain ⟨o', eo', ok⟩ := PO.at1 h.prO e1
    rw [q] at eo'; cases eo'
    obtain ⟨pl', us, e3, pr⟩ := ok
    have hm : p ∈ ow := List.mem_of_getElem? e1
    refine ⟨inferInstance, _, e2, p.1, us, rfl, ?_, rd_d (by rw [h.own p hm, e3]), Paired.mp pr fun _ _ q => ⟨q.1, pl'.pl ag q.2⟩⟩
    exact fun m => m.elim (Wd.fresh h.i0 (h.new p hm)) fun ⟨p, hp, _⟩ => absurd hp (by simp)
theorem sq_seal {Γ' : List SK} {sts : List Stmt} (se : Seal C.O C.Γ Γ') (k : SS X ⟨Γ', []⟩ sts nx T r) : SS X C sts nx T r := fun W H0 ow σ H pins s D hh I f =>
  let ⟨h2, ag⟩ := hh.seal se; k W H0 [] σ H pins s D h2 I (f.step ag)

/-! ### loops -/
theorem setA_len : ∀ {is : List Nat} {us : List V} {σ : L2.St}, (setA σ is us).length = σ.length
  | [], _, _ => by unfold setA; rfl
  | _ :: _, [], _ => rfl
  | i :: is, u :: us, σ => by show (setA (σ.set i (some u)) is us).length = _; rw [setA_len, List.length_set]
/-- for tg in iter: body. inv xs i: the context ahead of the turn i -/
theorem sq_for {tg iter : Expr} {body : List Stmt} {g : TG} {pl : List α → Prop} {ups : α → List (Nat × Slot)} {inv : List α → Nat → Ctx → Prop} (hc : X.calm = true) (hp : PassesOwn (model X.prog X.w) X.A X.env X.xe) (hi : ES X C.E tg iter R pl) (hg : PG X tg g) (hG : ∀ x, GOk g R x (ups x))
    (hpl : ∀ x, ∀ u ∈ ups x, Plain u.2.R) (start : ∀ xs, pl xs → inv xs 0 C) (hb : ∀ xs (i : Nat) x C', pl xs → xs[i]? = some x → inv xs i C' → SS X (C'.puts (ups x)) body (fun C2 => ∃ C3, inv xs (i + 1) C3 ∧ Weak C2 C3) T r)
    (k : ∀ xs C', pl xs → inv xs xs.length C' → SS X C' rest nx T r) (hs : ∀ x, foldedSetIterable iter X.env x = pure x := by intro _; rfl) : SS X C (.For tg iter body [] pos :: rest) nx T r :=
  SS.of (pss_cons (ps_for hp hc pi_ti hg pss_tss hs) pss_tss) fun W H0 ow σ H D hh f => hi.ti hh.I hh.E fun J H1 xs e1 px wk => by
    refine ⟨fun i m σ' H' => m = xs.length - i ∧ i ≤ xs.length ∧ ∃ C' ow', inv xs i C' ∧ Holds W H0 ow' H' σ' C' ∧ AgrX (W.adds ow) H1 (W.adds ow') H', ⟨xs.length, by simp, Nat.zero_le _, C, ow, start xs px, hh.mono e1, AgrX.refl⟩, ?_⟩
    rintro i m σ' H' ⟨rfl, hil, C', ow', hinv, hh', ag⟩
    obtain ⟨w1, w2⟩ := wk (W.adds ow') H' ag hh'.I i
    by_cases hlt : i < xs.length
    · have hx : xs[i]? = some xs[i] := List.getElem?_eq_getElem hlt
      obtain ⟨go, yl⟩ := w1 _ hx
      refine .inr ⟨go, fun σ2 H2 => i + 1 ≤ xs.length ∧ ∃ C' ow', inv xs (i + 1) C' ∧ Holds W H0 ow' H2 σ2 C' ∧ AgrX (W.adds ow) H1 (W.adds ow') H2, fun σ2 H2 ⟨a, b⟩ => ⟨xs.length - (i + 1), by omega, rfl, a, b⟩, fun v H2 hy => ?_⟩
      obtain ⟨eY, rv⟩ := yl v H2 hy
      refine hG _ (W.adds ow') σ' H2 v _ eY.inv rv fun vs hvs => ?_
      refine (hb xs i _ C' px hx hinv).tss ((hh'.mono eY).puts (hpl _) hvs) ⟨fun C2 ow2 σ2 H3 ⟨C3, hi3, w3⟩ h2 a2 => ⟨hlt, C3, ow2, hi3, h2.weak w3, (ag.trans eY.agrX).trans a2⟩, f.r⟩
    · have e : i = xs.length := by omega
      subst e
      exact .inl ⟨w2 (List.getElem?_eq_none (Nat.le_refl _)), (k xs C' px hinv).tss hh' (f.step (e1.agrX.trans ag))⟩
/-- while c: body -/
theorem sq_while {body : List Stmt} {inv : Nat → Ctx → Prop} {pt : Ctx → Bool → Prop} (hp : PassesOwn (model X.prog X.w) X.A X.env X.xe) {m0 : Nat} (start : inv m0 C) (ht : ∀ m C', inv m C' → ET X C'.E c (pt C'))
    (hb : ∀ m C', inv m C' → pt C' true → SS X C' body (fun C2 => ∃ m' C3, m' < m ∧ inv m' C3 ∧ Weak C2 C3) T r) (k : ∀ m C', inv m C' → pt C' false → SS X C' rest nx T r) : SS X C (.While c body [] pos :: rest) nx T r :=
  SS.of (pss_cons (ps_while hp pt_tt pss_tss) pss_tss) fun W H0 ow σ H D hh f => by
    refine ⟨fun m σ' H' => ∃ C' ow', inv m C' ∧ Holds W H0 ow' H' σ' C' ∧ AgrX (W.adds ow) H (W.adds ow') H', ⟨m0, C, ow, start, hh, AgrX.refl⟩, ?_⟩
    rintro m σ' H' ⟨C', ow', hinv, hh', ag⟩
    refine (ht m C' hinv).tt hh'.I hh'.E fun v H1 e1 pv => ?_
    cases v with
    | true =>
      rw [if_pos rfl]
      refine ⟨fun σ2 H2 => ∃ m', m' < m ∧ ∃ C' ow', inv m' C' ∧ Holds W H0 ow' H2 σ2 C' ∧ AgrX (W.adds ow) H (W.adds ow') H2, fun σ2 H2 h => h, ?_⟩
      refine (hb m C' hinv pv).tss (hh'.mono e1) ⟨fun C2 ow2 σ2 H3 ⟨m', C3, hm, hi3, w3⟩ h2 a2 => ⟨m', hm, C3, ow2, hi3, h2.weak w3, (ag.trans e1.agrX).trans a2⟩, f.r⟩
    | false =>
      rw [if_neg Bool.false_ne_true]
      exact (k m C' hinv pv).tss (hh'.mono e1) (f.step (ag.trans e1.agrX))
end
end K62

end

section
set_option Elab.async false
set_option linter.all false
set_option maxRecDepth 100000
set_option maxHeartbeats 4000000
/-! defs, writes -/
namespace K62
open PySem PySem.Spec PyProof.Rows L2
/-- a def of the top, known by name -/
def DefOk (K : PySem.W.Frag) (mg : Str → Option Value) (d : He.DefD) : Prop := ∃ f fd, FunD K d.name d.qual d.params d.body d.scope [] [] f fd ∧ mg d.name = some (.ref f)
abbrev fx (P : Program) (w : World) (K : PySem.W.Frag) (mg : Str → Option Value) (base : Heap) (N : List Str) (d : He.DefD) (f : Addr) (cdv : Value) (A : Around) (outer : List Env) (s : Shared) (H : Hp) (E : XK) : Cx :=
  (cxOf C8.CX0 P w K mg base N d.qual d.scope f cdv A outer s H E).nox
theorem slots_at {W : Wd} {H : Hp} : ∀ {vs : List V} {gs : List Slot} {i : Nat} {g : Slot}, SlotsOk W H vs gs → gs[i]? = some g → ∃ v, vs[i]? = some v ∧ g.R.r W H v g.x
  | _, _, _, _, .nil, h => by simp at h
  | _, _, 0, _, .cons a _, h => by simp at h; subst h; exact ⟨_, rfl, a⟩
  | _, _, i + 1, g, .cons _ t, h => by
    obtain ⟨v, e, r⟩ := slots_at (i := i) (g := g) t (by simpa using h)
    exact ⟨v, by simpa using e, r⟩
def C0 (N : List Str) (gs : List Slot) : Ctx := ⟨gs.map .base ++ List.replicate (N.length - gs.length) .non, []⟩
theorem holds_start {W : Wd} {H : Hp} {vs : List V} {gs : List Slot} {N : List Str} (hi : W.I H) (sk : SlotsOk W H vs gs) : Holds W H [] H (L2.start N vs) (C0 N gs) where
  i0 := hi
  new := by simp
  nd := by simp
  ext := Ext.refl hi
  own := by simp
  prO := PO.nil
  len := by simp [L2.start, C0, sk.length]
  sl := fun i k q => by
    have hl := sk.length
    have q : (gs.map SK.base ++ List.replicate (N.length - gs.length) SK.non)[i]? = some k := q
    by_cases h : i < gs.length
    · rw [List.getElem?_append_left (by simpa using h), List.getElem?_map] at q
      obtain ⟨g, e1, e2⟩ := Option.map_eq_some_iff.mp q
      subst e2
      obtain ⟨v, e3, r⟩ := slots_at sk e1
      refine ⟨v, ?_, r⟩
      unfold L2.start
      rw [List.getElem?_append_left (by rw [List.length_map, hl]; exact h), List.getElem?_map, e3]; rfl
    · rw [List.getElem?_append_right (by simpa using h), List.getElem?_replicate] at q
      split at q
      · cases q; trivial
      · cases q
section
variable {P : Program} {w : World} {K : PySem.W.Frag} {mg : Str → Option Value} {base : Heap} {A β : Type} {k : Nat} {Ga : A → List Slot} {pre : A → Prop} {R : RepT β} {post : A → β → Prop}
theorem fn_ok {d : He.DefD} (N ps : List Str) (D : DefOk K mg d) (S : FnScope N ps d.scope)
    (b : ∀ (kV doc pm : Value) (an : Option Addr) (cdv ct : Value) (us : List Value), us.length = ps.length → bindArgs (PySem.W.fnOf d.name d.qual d.params d.body d.scope .none kV doc pm an cdv ct) ⟨us, []⟩ = pure (ps.zip us))
    (hl : ∀ a, (Ga a).length = ps.length)
    (hb : ∀ (a : A) (f : Addr) (cdv : Value) (A : Around) (outer : List Env) (s : Shared) (H : Hp) (E : XK), pre a → Room k (fx P w K mg base N d f cdv A outer s H E).A → SS (fx P w K mg base N d f cdv A outer s H E) (C0 N (Ga a)) d.body (fun _ => False) R (post a)) :
    C8.Cal P w K mg base (k + 1) d.name (spOf Ga pre R post) [] := by
  obtain ⟨f, fd, F, hm⟩ := D
  refine ⟨f, fd, ps, [], F.ok S (fun vs H Q E ⟨a, W, h1, h2, h3, h4⟩ => by rw [h3.length]; exact hl a) ?_, hm, F.kp, F.bindsN b, .nil⟩
  intro cdv A outer s H vs Q E hr ⟨a, W, hp, hi, sk, q⟩
  refine ⟨tss _ d.body, PSs.nox pss_tss, (hb a f cdv A outer s H E hp hr).tss (holds_start hi sk) ⟨fun _ _ _ _ n => n.elim, fun v H1 y e py r => q v H1 y e py r⟩⟩
/-- .. that returns nothing -/
theorem fn_okN {d : He.DefD} {post : A → Unit → Prop} (N ps : List Str) (D : DefOk K mg d) (S : FnScope N ps d.scope)
    (b : ∀ (kV doc pm : Value) (an : Option Addr) (cdv ct : Value) (us : List Value), us.length = ps.length → bindArgs (PySem.W.fnOf d.name d.qual d.params d.body d.scope .none kV doc pm an cdv ct) ⟨us, []⟩ = pure (ps.zip us))
    (hl : ∀ a, (Ga a).length = ps.length)
    (hb : ∀ (a : A) (f : Addr) (cdv : Value) (A : Around) (outer : List Env) (s : Shared) (H : Hp) (E : XK), pre a → Room k (fx P w K mg base N d f cdv A outer s H E).A → SS (fx P w K mg base N d f cdv A outer s H E) (C0 N (Ga a)) d.body (fun _ => post a ()) rN (post a)) :
    C8.Cal P w K mg base (k + 1) d.name (spOf Ga pre rN post) [] := by
  obtain ⟨f, fd, F, hm⟩ := D
  refine ⟨f, fd, ps, [], F.ok S (fun vs H Q E ⟨a, W, h1, h2, h3, h4⟩ => by rw [h3.length]; exact hl a) ?_, hm, F.kp, F.bindsN b, .nil⟩
  intro cdv A outer s H vs Q E hr ⟨a, W, hp, hi, sk, q⟩
  refine ⟨tss _ d.body, PSs.nox pss_tss, (hb a f cdv A outer s H E hp hr).tss (holds_start hi sk) ⟨fun _ _ _ _ n hh _ => q .non _ () hh.ext n rfl, fun v H1 y e py r => q v H1 y e py r⟩⟩
end
/-! ### writes -/
section
variable {X : Cx} {C : Ctx} {e a b c o i : Expr} {es : List Expr} {rest : List Stmt} {α β γ δ : Type} {R : RepT α} {S : RepT β} {T : RepT γ} {p : α → Prop} {q : β → Prop} {r : γ → Prop} {pos pp : Pos} {nx : Ctx → Prop}
theorem own_at {W : Wd} {H0 H : Hp} {ow : List (Addr × HO)} {σ : L2.St} {v k : Nat} {os : OSl} (hh : Holds W H0 ow H σ C) (hv : C.Γ[v]? = some (.own k)) (hO : C.O[k]? = some os) : ∃ p, ow[k]? = some p ∧ σ[v]? = some (some (.ref p.1)) ∧ H p.1 = some p.2 ∧ OkO (W.adds ow) H p os := by
  obtain ⟨p, e1, e2⟩ := hh.sl v _ hv
  obtain ⟨o', eo', ok⟩ := PO.at1 hh.prO e1
  rw [hO] at eo'; cases eo'
  exact ⟨p, e1, e2, hh.own p (List.mem_of_getElem? e1), ok⟩
/-- xs.append(e) -/
theorem sq_append (v : Nat) {x : Str} {k : Nat} {xs : List α} {p1 p2 p3 : Pos} (he : EE X C.E e R p) (hv : C.Γ[v]? = some (.own k)) (hO : C.O[k]? = some (.lst R xs)) (hz : xs.length < sizeLine) (kk : ∀ y, p y → SS X ⟨C.Γ, C.O.set k (.lst R (xs ++ [y]))⟩ rest nx T r)
    (hN : X.N[v]? = some x := by rfl) (hx : Vis X.env.scope x := by first | exact Or.inl rfl | exact Or.inr (Or.inl rfl) | exact Or.inr (Or.inr rfl))
    (hd : (x == ("__debug__" : Str)) = false := by decide) (hcd : (x == ("__classdict__" : Str)) = false := by decide)
    (hbase : attributeBase (.Name x p1) "append" X.env (eval (.Name x p1) X.env) = eval (.Name x p1) X.env := by rfl)
    (hfew : ((backTo p3 (starEach [e] X.env)).all (fun x => !x.1) && (backToKw p3 (keywordEach [] X.env)).all (fun x => x.1.isSome)
      && decide ([e].length + ([] : List Keyword).length + (if ([] : List Keyword).isEmpty then 0 else 1) < 30)) = true := by rfl)
    (hline : (p2.endLine == p3.line) = true := by rfl) (hs : starEach [e] X.env = (false, eval e X.env) :: starEach [] X.env := by rfl) (hplain : (backTo p3 (starEach [] X.env)).any (·.1) = false := by rfl)
    (hsw : swapsWith (.Call (.Attribute (.Name x p1) "append" p2) [e] [] p3) none pos.line X.env = pure false := by rfl) :
    SS X C (.Expr (.Call (.Attribute (.Name x p1) "append" p2) [e] [] p3) pos :: rest) nx T r :=
  SS.of (pss_cons (ps_expr (pe_bm PySem.F.plainAttrs_list PySem.F.slot_list_append PySem.F.type_list_append mt_append (pe_var hN hx hd hcd) (pa_cons pe_te pa_nil hs) hbase hfew hline hs hplain) hsw) pss_tss) fun W H0 ow σ H D hh f => by
    obtain ⟨⟨l, o⟩, e1, e2, e3, pl, us, e4, pr⟩ := own_at hh hv hO
    have e4 : o = .lst us := e4
    subst e4
    refine ⟨_, e2, .inl ⟨rfl, us, sqL_of (rd_l e3)⟩, he.te hh.I hh.E fun w H1 y ee py ry => ?_⟩
    have h1 := hh.mono ee
    obtain ⟨⟨l', o'⟩, e1', e2', e3', pl', us', e4', pr'⟩ := own_at h1 hv hO
    rw [e1] at e1'
    cases e1'
    cases e4'
    refine ⟨l, us, w, rfl, rfl, e3', by rw [pr'.length]; exact hz, ?_⟩
    obtain ⟨h2, ag⟩ := h1.wrO (o' := .lst (us ++ [w])) (os := .lst R (xs ++ [y])) e1 fun ow' ag => ⟨pl, us ++ [w], rfl, Paired.app (Paired.mp pr' fun _ _ q => pl.pl ag q) (.cons (pl.pl ag ry) .nil)⟩
    exact (kk y py).tss h2 (f.step (ee.agrX.trans ag))
/-- d[k] = e, a dict of one's own -/
theorem sq_dput (v : Nat) {x : Str} {k : Nat} {kvs : List (Str × α)} {pk : Str → Prop} {p1 : Pos} (hu : X.A.units + 1 < cLine) (he : EE X C.E e R p) (hk : EE X C.E i rS pk) (hv : C.Γ[v]? = some (.own k)) (hO : C.O[k]? = some (.dct R kvs)) (hz : kvs.length < sizeLine) (kk : ∀ z y, pk z → p y → SS X ⟨C.Γ, C.O.set k (.dct R (pt kvs z y))⟩ rest nx T r)
    (hN : X.N[v]? = some x := by rfl) (hx : Vis X.env.scope x := by first | exact Or.inl rfl | exact Or.inr (Or.inl rfl) | exact Or.inr (Or.inr rfl))
    (hd : (x == ("__debug__" : Str)) = false := by decide) (hcd : (x == ("__classdict__" : Str)) = false := by decide)
    (hs : swapsWith e (some (.Subscript (.Name x p1) i pp)) pos.line X.env = pure false := by rfl) : SS X C (.Assign [.Subscript (.Name x p1) i pp] e pos :: rest) nx T r :=
  SS.of (pss_cons (ps_dput hu (pe_var hN hx hd hcd) pe_te pe_te hs) pss_tss) fun W H0 ow σ H D hh f => he.te hh.I hh.E fun w H1 y e1 py ry => by
    have h1 := hh.mono e1
    obtain ⟨⟨l, o⟩, a1, a2, a3, pl, us, a4, pr⟩ := own_at h1 hv hO
    refine ⟨_, a2, hk.te h1.I h1.E fun u H2 z e2 pz rz => ?_⟩
    have h2 := h1.mono e2
    obtain ⟨⟨l', o'⟩, b1, b2, b3, _, us', b4, pr'⟩ := own_at h2 hv hO
    rw [a1] at b1
    cases b1
    have b4 : o = .dK us' := b4
    subst b4
    cases rz
    refine ⟨l, upd H2 l (.dK (putK us' (.inr z) w)), rfl, .inl ⟨us', .inr z, b3, rfl, by rw [pr'.length]; exact hz, rfl⟩, ?_⟩
    obtain ⟨h3, ag⟩ := h2.wrO (o' := .dK (putK us' (.inr z) w)) (os := .dct R (pt kvs z y)) a1 fun ow' ag => ⟨pl, _, rfl, put_paired (pl.pl ag (R.mono e2 ry)) (Paired.mp pr' fun _ _ q => ⟨q.1, pl.pl ag q.2⟩)⟩
    exact (kk z y pz py).tss h3 (f.step ((e1.trans e2).agrX.trans ag))
/-- xs[k] = e, a list of one's own -/
theorem sq_lput (v : Nat) {x : Str} {k : Nat} {xs : List α} {j : Nat} {ii : Int} {p1 : Pos} (hc : X.calm = true) (he : EE X C.E e R p) (hk : EV X C.E i rI ii) (hj : ixN xs.length ii = some j) (hv : C.Γ[v]? = some (.own k)) (hO : C.O[k]? = some (.lst R xs)) (kk : ∀ y, p y → SS X ⟨C.Γ, C.O.set k (.lst R (xs.set j y))⟩ rest nx T r)
    (hN : X.N[v]? = some x := by rfl) (hx : Vis X.env.scope x := by first | exact Or.inl rfl | exact Or.inr (Or.inl rfl) | exact Or.inr (Or.inr rfl))
    (hd : (x == ("__debug__" : Str)) = false := by decide) (hcd : (x == ("__classdict__" : Str)) = false := by decide)
    (ha : ∀ v, assign (.Subscript (.Name x p1) i pp) X.env v = (do
      let ov ← holding [v] (eval (.Name x p1) X.env)
      let iv ← holding [v, ov] (eval i X.env)
      standAt pp
      holding [v, ov, iv] (setItem ov iv v)
      release [v, ov, iv] []) := by intro _; rfl)
    (hs : swapsWithSole [.Subscript (.Name x p1) i pp] e pos.line X.env = pure false := by rfl) (hw : swappedStores [.Subscript (.Name x p1) i pp] e X.env = pure none := by rfl)
    (h1 : (assignEach [.Subscript (.Name x p1) i pp] X.env).map (·.2) = [assign (.Subscript (.Name x p1) i pp) X.env] := by rfl) : SS X C (.Assign [.Subscript (.Name x p1) i pp] e pos :: rest) nx T r :=
  SS.of (pss_cons (ps_asg pe_te (pg_sub (pe_var hN hx hd hcd) pe_te set_list ha) hs hw h1) pss_tss) fun W H0 ow σ H D hh f => he.te hh.I hh.E fun w H1 y e1 py ry => by
    have h1 := hh.mono e1
    obtain ⟨⟨l, o⟩, a1, a2, a3, pl, us, a4, pr⟩ := own_at h1 hv hO
    refine ⟨_, a2, hk.te h1.I h1.E fun u H2 z e2 pz rz => ?_⟩
    have h2 := h1.mono e2
    obtain ⟨⟨l', o'⟩, b1, b2, b3, _, us', b4, pr'⟩ := own_at h2 hv hO
    rw [a1] at b1
    cases b1
    have b4 : o = .lst us' := b4
    subst b4
    subst pz
    refine ⟨l, us', z, j, rfl, rz, b3, by rw [pr'.length]; exact hj, ?_⟩
    obtain ⟨h3, ag⟩ := h2.wrO (o' := .lst (us'.set j w)) (os := .lst R (xs.set j y)) a1 fun ow' ag => ⟨pl, _, rfl, Paired.st (pl.pl ag (R.mono e2 ry)) j (Paired.mp pr' fun _ _ q => pl.pl ag q)⟩
    exact (kk y py).tss h3 (f.step ((e1.trans e2).agrX.trans ag))
end
end K62

end

section
set_option Elab.async false
set_option linter.all false
set_option maxRecDepth 100000
set_option maxHeartbeats 4000000
/-! further rules -/
namespace K62
open PySem PySem.Spec PyProof.Rows L2
/-! ### what reads as data -/
class HasDp {α : Type} (R : RepT α) (enc : outParam (α → PyData)) : Prop where
  dp : ∀ (K : PySem.W.Frag) (W : Wd) H v x, W.I H → R.r W H v x → Dp K H v (enc x)
section
variable {α β γ δ : Type} {R : RepT α} {S : RepT β} {T : RepT γ} {X : Cx} {K : PySem.W.Frag} {W : Wd} {H : Hp}
theorem dpAll_of {enc : α → PyData} [HasDp R enc] (hi : W.I H) : ∀ {us : List V} {xs : List α}, Paired (R.r W H) us xs → DpAll K H us (xs.map enc)
  | _, _, .nil => .nil
  | _, _, .cons h t => .cons (HasDp.dp K W H _ _ hi h) (dpAll_of hi t)
instance : HasDp rS PyData.str := ⟨fun K W H v x _ r => by cases r; exact .str x⟩
instance : HasDp rI PyData.int := ⟨fun K W H v x _ r => by cases r; exact .int x⟩
instance : HasDp rNat (fun n => PyData.int n) := ⟨fun K W H v x _ r => by cases r; exact .int x⟩
def encO : Option Str → PyData
  | none => .none
  | some s => .str s
instance : HasDp rO encO := ⟨fun K W H v x _ r => by cases r; cases x; exact .non; exact .str _⟩
instance {enc : α → PyData} [Plain R] [HasDp R enc] : HasDp (rT R) (fun xs => PyData.tuple (xs.map enc)) := ⟨fun K W H v x hi ⟨l, us, e, n, hd, pr⟩ => by rw [e]; exact .tup (sqT_of hd) (dpAll_of hi pr)⟩
instance {enc : α → PyData} {enc2 : β → PyData} [Plain R] [Plain S] [HasDp R enc] [HasDp S enc2] : HasDp (rP R S) (fun x => PyData.tuple [enc x.1, enc2 x.2]) := ⟨fun K W H v x hi ⟨l, u1, u2, e, n, hd, r1, r2⟩ => by
  rw [e]; exact .tup (sqT_of hd) (.cons (HasDp.dp K W H _ _ hi r1) (.cons (HasDp.dp K W H _ _ hi r2) .nil))⟩
instance {enc : α → PyData} {enc2 : β → PyData} {enc3 : γ → PyData} [Plain R] [Plain S] [Plain T] [HasDp R enc] [HasDp S enc2] [HasDp T enc3] : HasDp (rQ R S T) (fun x => PyData.tuple [enc x.1, enc2 x.2.1, enc3 x.2.2]) := ⟨fun K W H v x hi ⟨l, u1, u2, u3, e, n, hd, r1, r2, r3⟩ => by
  rw [e]; exact .tup (sqT_of hd) (.cons (HasDp.dp K W H _ _ hi r1) (.cons (HasDp.dp K W H _ _ hi r2) (.cons (HasDp.dp K W H _ _ hi r3) .nil)))⟩
theorem dp_list {RL : RepT (List α)} {enc : α → PyData} [LikeL RL R] [HasDp R enc] {v : V} {xs : List α} (hi : W.I H) (r : RL.r W H v xs) : Dp K H v (.list (xs.map enc)) := by
  obtain ⟨l, us, e, hd, pr⟩ := LikeL.rd hi r
  rw [e]; exact .lst (sqL_of hd) (dpAll_of hi pr)
/-- xs != [] -/
theorem o_neNil {S : RepT β} [Plain S] {RL : RepT (List α)} {enc : α → PyData} [LikeL RL R] [HasDp R enc] (hu : X.A.units + 64 < cLine) : OpE X (compareOp .NotEq) RL (rL S) rB (fun xs ys => ys = [] ∧ SeqAt.shaped (.list (xs.map enc)) = true) (fun xs _ => !xs.isEmpty) :=
  ⟨_, op_neD hu, fun W H xs ys u v Q hi hu hv ⟨hy, hs⟩ k => by
    subst hy
    obtain ⟨l, us, e, n, hd, pr⟩ := hv
    cases pr
    subst e
    refine ⟨.list (xs.map enc), .list [], dp_list hi hu, .lst (sqL_of hd) .nil, hs, by decide, k _ H (Ext.refl hi) ?_⟩
    show V.bl _ = V.bl _
    cases xs with
    | nil => rfl
    | cons x xs => rfl⟩
theorem depthAll_le {ds : List PyData} {n : Nat} (h : ∀ d ∈ ds, d.depth ≤ n) : PyData.depthAll ds ≤ n := by
  induction ds with
  | nil => exact Nat.zero_le _
  | cons d ds ih =>
    show max d.depth (PyData.depthAll ds) ≤ n
    exact Nat.max_le.mpr ⟨h d List.mem_cons_self, ih fun z hz => h z (List.mem_cons_of_mem _ hz)⟩
theorem canAll {ds : List PyData} (h : ∀ d ∈ ds, d.canLay0 = true) : PyData.canLayAll0 ds = true := by
  induction ds with
  | nil => rfl
  | cons d ds ih =>
    show (d.canLay0 && PyData.canLayAll0 ds) = true
    rw [h d List.mem_cons_self, ih fun z hz => h z (List.mem_cons_of_mem _ hz)]; rfl
theorem shaped_list {ds : List PyData} {n : Nat} (h : ∀ d ∈ ds, d.canLay0 = true ∧ d.depth ≤ n) (hn : n < 64) : SeqAt.shaped (.list ds) = true := by
  unfold SeqAt.shaped
  rw [Bool.and_eq_true]
  exact ⟨canAll fun d m => (h d m).1, decide_eq_true (by show PyData.depthAll ds + 1 ≤ 64; have := depthAll_le fun d m => (h d m).2; omega)⟩
theorem shaped_tuple {ds : List PyData} {n : Nat} (h : ∀ d ∈ ds, d.canLay0 = true ∧ d.depth ≤ n) (hn : n < 64) : SeqAt.shaped (.tuple ds) = true := by
  unfold SeqAt.shaped
  rw [Bool.and_eq_true]
  exact ⟨canAll fun d m => (h d m).1, decide_eq_true (by show PyData.depthAll ds + 1 ≤ 64; have := depthAll_le fun d m => (h d m).2; omega)⟩
/-- a tuple of texts in a list of such -/
def encT (z : List Str) : PyData := .tuple (z.map .str)
theorem eqvAll_strs : ∀ (x y : List Str), PyData.eqvAll (x.map .str) (y.map .str) = decide (x = y)
  | [], [] => rfl
  | [], _ :: _ => rfl
  | _ :: _, [] => rfl
  | a :: x, b :: y => by
    show (PyData.eqv (.str a) (.str b) && PyData.eqvAll (x.map .str) (y.map .str)) = _
    rw [eqvAll_strs x y]
    show ((a == b) && _) = _
    by_cases h : a = b
    · subst h; simp
    · have : (a == b) = false := by simpa using h
      rw [this]; simp [h]
theorem o_inTL {RL : RepT (List (List Str))} [LikeL RL (rT rS)] (hu : X.A.units + 65 < cLine) : OpE X (compareOp .In) (rT rS) RL rB (fun x ys => SeqAt.shaped (encT x) = true ∧ SeqAt.shaped (.list (ys.map encT)) = true) (fun x ys => decide (x ∈ ys)) :=
  ⟨_, op_inD hu, fun W H x ys u v Q hi hx hv ⟨s1, s2⟩ k => by
    refine ⟨encT x, ys.map encT, HasDp.dp _ W H _ _ hi hx, dp_list (enc := encT) hi hv, s1, s2, k _ H (Ext.refl hi) ?_⟩
    show V.bl _ = V.bl _
    congr 1
    rw [List.any_map, Bool.eq_iff_iff, List.any_eq_true, decide_eq_true_eq]
    constructor
    · rintro ⟨y, m, h⟩
      have : PyData.eqvAll (y.map .str) (x.map .str) = true := h
      rw [eqvAll_strs] at this
      rw [← of_decide_eq_true this]; exact m
    · intro m
      refine ⟨x, m, ?_⟩
      show PyData.eqvAll (x.map .str) (x.map .str) = true
      rw [eqvAll_strs]; exact decide_eq_true rfl⟩
end

/-! ### sorted of a list of tuples that read as alike data -/
def rSortedDp (K : PySem.W.Frag) : List V → Hp → VK → Prop := fun vs H Q => ∃ (a : Addr) (xs : List V) (ds : List PyData), vs = [V.ref a] ∧ SqL K H a xs ∧ (∀ x ∈ xs, ∃ t, x = V.ref t) ∧ DpAll K H xs ds ∧ PySem.W.AllAlike ds ∧ PySem.W.Sortable ds ∧ (∀ d ∈ ds, d.depth ≤ 8) ∧
  ∀ ys p, ys.Perm xs → H p = none → Q (.ref p) (upd H p (.lst ys))
theorem dpAll_reads {X : Cx} {pins : List (Addr × Obj)} {σ : L2.St} {H : Hp} {s : Shared} (I : Inv X pins σ H s) : ∀ {vs : List V} {ds : List PyData} {us : List Value}, DpAll X.K H vs ds → Vals vs us → PySem.W.EachIs (fun u (b : Value × PyData) => ∃ as, Reads s.heap u b.2 as) us (us.zip ds)
  | _, _, _, .nil, .nil => .nil
  | _, _, _, .cons a t, .cons b r => .cons (Dp.reads I _ _ _ a b) (dpAll_reads I t r)
theorem each_fst : ∀ {us : List Value} {ds : List PyData}, us.length = ds.length → PySem.W.EachIs (fun u (b : Value × PyData) => u = b.1) us (us.zip ds)
  | [], [], _ => .nil
  | _ :: _, _ :: _, h => .cons rfl (each_fst (Nat.succ.inj h))
  | [], _ :: _, h => by simp at h
  | _ :: _, [], h => by simp at h
theorem each_map_fst {out : List Value} {bs : List (Value × PyData)} (h : PySem.W.EachIs (fun u (b : Value × PyData) => u = b.1) out bs) : out = bs.map (·.1) := by
  induction h with
  | nil => rfl
  | cons a _ ih => rw [ih, a]; rfl
theorem dpAll_len {K : PySem.W.Frag} {H : Hp} : ∀ {vs : List V} {ds : List PyData}, DpAll K H vs ds → vs.length = ds.length
  | _, _, .nil => rfl
  | _, _, .cons _ t => congrArg Nat.succ (dpAll_len t)
theorem zip_snd {α β : Type} : ∀ {us : List α} {ds : List β}, us.length = ds.length → (us.zip ds).map (·.2) = ds
  | [], [], _ => rfl
  | _ :: us, _ :: ds, h => congrArg (List.cons _) (zip_snd (Nat.succ.inj h))
  | [], _ :: _, h => by simp at h
  | _ :: _, [], h => by simp at h
theorem zip_fst {α β : Type} : ∀ {us : List α} {ds : List β}, us.length = ds.length → (us.zip ds).map (·.1) = us
  | [], [], _ => rfl
  | _ :: us, _ :: ds, h => congrArg (List.cons _) (zip_fst (Nat.succ.inj h))
  | [], _ :: _, h => by simp at h
  | _ :: _, [], h => by simp at h
theorem cr_sortedDp {X : Cx} (hu : X.A.units + 16 < cLine) : CallR X (.builtin "sorted") (rSortedDp X.K) := by
  intro pins s σ H vs us Q I r h
  obtain ⟨a, xs, ds, rfl, hs, hx, hd, hal, hk, hdep, q⟩ := h
  obtain ⟨its, rv, hl, hz⟩ := I.list hs
  obtain ⟨u, rfl, ru⟩ := vals1 r
  obtain rfl : u = Value.ref a := ru
  obtain ⟨e1, e2⟩ := refs_back rv hx
  have hlen : its.length = ds.length := rv.length.symm.trans (dpAll_len hd)
  have e3 : (its.zip ds).map (·.2) = ds := zip_snd hlen
  refine PySem.W.sorted_data (bs := its.zip ds) (enc := fun b : Value × PyData => b.2) hl.isList (each_fst hlen) (dpAll_reads I hd rv) (by rw [e3]; exact hal) (by rw [e3]; exact hk) (by
    rw [List.length_zip]
    have := rv.length
    omega) (fun b hb => by
      have : b.2 ∈ (its.zip ds).map (·.2) := List.mem_map.mpr ⟨b, hb, rfl⟩
      rw [e3] at this
      have := hdep _ this
      omega) fun out ho eo => ?_
  have hp : out.Perm its := by
    rw [each_map_fst eo]
    have := (List.mergeSort_perm (its.zip ds) (PySem.W.dataLe false fun b : Value × PyData => b.2)).map (·.1)
    rw [zip_fst hlen] at this
    exact this
  have h3 : ∀ u ∈ out, ∃ a, u = Value.ref a := fun u hu => e2 u (hp.mem_iff.mp hu)
  obtain ⟨ep, he'⟩ := PyProof.Rows.sortedAll_at s.heap its out.toArray
  refine ⟨.ref _, upd H (s.heap.objs.size + 1) (.lst (out.map backV)), I.laid (t' := s.toks) (fun _ _ => PyProof.Rows.sortedAll_old) (Nat.le_succ _) ⟨?_, out, ep, vals_back h3, he'⟩, rfl, q _ _ ?_ (I.hok.fresh (Nat.le_succ _))⟩
  · rw [List.length_map, hp.length_eq, ← rv.length]
    exact hz
  · rw [e1]; exact hp.map backV
section
variable {α β γ : Type} {R : RepT α} {X : Cx}
theorem Paired.perm {F : V → β → Prop} {us vs : List V} (p : vs.Perm us) : ∀ {xs : List β}, Paired F us xs → ∃ ys, ys.Perm xs ∧ Paired F vs ys := by
  induction p with
  | nil => intro xs h; cases h; exact ⟨[], List.Perm.refl _, .nil⟩
  | cons x _ ih =>
    intro xs h
    cases h with
    | cons a t => obtain ⟨ys, p, q⟩ := ih t; exact ⟨_ :: ys, p.cons _, .cons a q⟩
  | swap x y l =>
    intro xs h
    cases h with
    | cons a t => cases t with
      | cons b t => exact ⟨_, List.Perm.swap _ _ _, .cons b (.cons a t)⟩
  | trans _ _ ih1 ih2 =>
    intro xs h
    obtain ⟨ys, p, q⟩ := ih2 h
    obtain ⟨zs, p2, q2⟩ := ih1 q
    exact ⟨zs, p2.trans p, q2⟩
class IsRef (R : RepT α) : Prop where
  ref : ∀ (W : Wd) H v x, R.r W H v x → ∃ t, v = V.ref t
instance {S : RepT β} [Plain R] [Plain S] : IsRef (rP R S) := ⟨fun W H v x ⟨l, u1, u2, e, _⟩ => ⟨l, e⟩⟩
theorem c_sortDp {RL : RepT (List α)} {enc : α → PyData} [LikeL RL R] [Plain R] [HasDp R enc] [IsRef R] (hu : X.A.units + 16 < cLine) : CallN X (.builtin "sorted") RL R (fun xs => PySem.W.AllAlike (xs.map enc) ∧ PySem.W.Sortable (xs.map enc) ∧ ∀ x ∈ xs, (enc x).depth ≤ 8) (fun xs ys => ys.Perm xs) :=
  ⟨_, cr_sortedDp hu, fun W H x u Q hi r ⟨h1, h2, h3⟩ k => by
    obtain ⟨l, us, e, hd, pr⟩ := LikeL.rd hi r
    subst e
    refine ⟨l, us, x.map enc, rfl, sqL_of hd, fun v hv => ?_, dpAll_of hi pr, h1, h2, fun d hd => ?_, fun ys p hp ht => ?_⟩
    · obtain ⟨i, hi'⟩ := List.mem_iff_getElem?.mp hv
      obtain ⟨y, _, ry⟩ := Paired.at1 pr hi'
      exact IsRef.ref W H v y ry
    · obtain ⟨y, hy, rfl⟩ := List.mem_map.mp hd
      exact h3 y hy
    · obtain ⟨zs, q1, q2⟩ := Paired.perm hp pr
      exact k p ys zs ht q1 (into1 hi ht q2)⟩
end
end K62

end

section
set_option Elab.async false
set_option linter.all false
set_option maxRecDepth 100000
set_option maxHeartbeats 4000000
/-! tuple(d), min(d), set of texts: rules at the heap's level, after the roads of HandS.Conv, TupSets, Strs -/
namespace K62
open PySem PySem.Spec PyProof.Rows L2
section
variable {prog : Program} {w : World} {A : Around} {E : Value → Shared → Prop} {s : Shared} {T : String} {r d : Addr} {n : Nat} {P : Nat → Value → Prop} {OK : Heap → Prop}
theorem collect_src {Q : List Value → Shared → Prop} (K : PySem.W.KdlSrc prog w T r d n P OK) (hh : A.handled = none) (hok : OK s.heap) (hn : n ≤ sizeLine)
    (hQ : ∀ (h' : Heap) (tk : Nat) (acc : Array Value), (∀ b o, s.heap.get? b = some o → h'.get? b = some o) → ItemsOf P acc n → Q acc.toList { s with heap := h', toks := tk }) : wpAny (model prog w) A (collect (.ref r)) Q E s := by
  unfold collect
  refine wpAny_bind (wpAny_runValue (codeAny_builtin PySem.F.entry_proto_collect ?_))
  rw [Around.under_plainId PySem.F.plain_proto_collect _]
  show wpAny _ A.in1 (newList [] >>= fun l => again (.builtin "list.__iadd__" ⟨[l, .ref r], []⟩)) _ _ s
  refine wpAny_bind (wpAny_newObj_type ?_)
  refine wpAny_pure ⟨plainId_quiet PySem.F.plain_list_iadd _, codeAny_builtin PySem.F.entry_list_iadd ?_⟩
  rw [Around.under_plainId PySem.F.plain_list_iadd _]
  show wpAny _ A.in1 (Builtin.List.listExtendWith (.ref s.heap.objs.size) (.ref r) (.ref s.heap.objs.size)) _ _ _
  have hS : (s.heap.push { cls := .type "list", data := .seq ([] : List Value).toArray }).get? s.heap.objs.size = some { cls := .type "list", data := .seq #[] 0 } := Heap.get?_push_size _ rfl
  have hlt := K.there _ hok
  refine wpAny_mono (PySem.W.kdl_extend (A := A) (R := fun rr s' => rr = .ok (.ret (.ref s.heap.objs.size)) ∧ ∃ (h' : Heap) (tk : Nat) (acc : Array Value) (c' : Nat), s' = { s with heap := h', toks := tk } ∧
      (∀ b o, s.heap.get? b = some o → h'.get? b = some o) ∧ h'.get? s.heap.objs.size = some { cls := .type "list", dict := none, data := .seq acc c', slots := #[] } ∧ ItemsOf P acc n)
    (s := { s with heap := s.heap.push { cls := .type "list", data := .seq ([] : List Value).toArray } }) K hh (K.keep _ _ hok fun b _ o e => Heap.get?_push_of_some _ e) _ (Nat.ne_of_gt hlt.1) (Nat.ne_of_gt hlt.2) _ 0 hS
    (fun h' tk acc c' hk e hi => ⟨rfl, h', tk, acc, c', rfl, fun b o q => hk b o (Nat.ne_of_lt (Heap.lt_size q)) (Heap.get?_push_of_some _ q), e, hi⟩) hn) (fun fin s' h => ?_) (fun e s' h => ?_)
  · cases fin with
    | done f =>
      obtain ⟨e, h', tk, acc, c', rfl, hk, hS', hi⟩ := h
      cases e
      show wpAny _ A (load s.heap.objs.size >>= _) _ _ _
      exact wpAny_bind (wpAny_load hS' (wpAny_pure (hQ h' tk acc hk hi)))
    | again c' =>
      refine ⟨h.1, codeAny_mono h.2 fun rr s'' hr' => ?_⟩
      obtain ⟨rfl, h', tk, acc, c', rfl, hk, hS', hi⟩ := hr'
      show wpAny _ A (load s.heap.objs.size >>= _) _ _ _
      exact wpAny_bind (wpAny_load hS' (wpAny_pure (hQ h' tk acc hk hi)))
  · exact absurd h.1 (by simp)
theorem code_tuple_src {Q₁ : Value → Shared → Prop} (K : PySem.W.KdlSrc prog w T r d n P OK) (hh : A.handled = none) (hok : OK s.heap) (hn : n ≤ sizeLine) (hT1 : (Value.type T == Value.type "tuple") = false)
    (h : ∀ (h' : Heap) (tk : Nat) (acc : Array Value), (∀ b o, s.heap.get? b = some o → h'.get? b = some o) → ItemsOf P acc n → Q₁ (.ref h'.objs.size) { s with heap := h'.push { cls := .type "tuple", data := .seq acc }, toks := tk }) :
    codeAny (model prog w) A (.call (.builtin "tuple.__new__") ⟨[.type "tuple", .ref r], []⟩) (wants Q₁ E) s := by
  refine codeAny_of_tree ?_
  show wpAny _ A.in1 (do checkBuiltinCall "tuple.__new__" ⟨[.type "tuple", .ref r], []⟩; again (.builtin "tuple.__new__" ⟨[.type "tuple", .ref r], []⟩)) _ _ s
  refine wpAny_bind (wpAny_of_eq (PySem.F.newCall_tuple_1 _) (wpAny_pure ⟨plainId_quiet PySem.F.plain_tuple_new _, codeAny_builtin PySem.F.entry_tuple_new ?_⟩))
  rw [Around.under_plainId PySem.F.plain_tuple_new _]
  have hsub := sub_tuple_self
  have hinit := init_tuple_lookup
  have hmh := madeHere_tuple
  have hTI : s.TypeIs (.ref r) T := K.type s hok
  have hh1 : A.in1.handled = none := hh
  wp_walk using wpAny_typeOf hTI, collect_src (A := A.in1) K hh1 hok hn
  intro h' tk acc hk hacc
  show wpAny _ _ (Builtin.Tuple.tupleExact acc.toList.toArray >>= fun v => ret v) _ _ _
  unfold Builtin.Tuple.tupleExact
  refine wpAny_bind (wpAny_newObj_type ?_ (by show acc.toList.toArray.size ≤ sizeLine; simp only [Array.toArray_toList]; rw [hacc.1]; exact hn))
  refine wpAny_pure ?_
  have e : acc.toList.toArray = acc := by simp
  rw [e]
  exact h h' tk acc hk hacc
theorem call_tuple_src {Q : Value → Shared → Prop} (K : PySem.W.KdlSrc prog w T r d n P OK) (hh : A.handled = none) (hok : OK s.heap) (hn : n ≤ sizeLine) (hT1 : (Value.type T == Value.type "tuple") = false)
    (hQ : ∀ (h' : Heap) (tk : Nat) (acc : Array Value), (∀ b o, s.heap.get? b = some o → h'.get? b = some o) → ItemsOf P acc n → Q (.ref h'.objs.size) { s with heap := h'.push { cls := .type "tuple", data := .seq acc }, toks := tk }) :
    wpAny (model prog w) A (call (.type "tuple") [.ref r]) Q E s := by
  refine callType_codes (Q₁ := fun obj s₁ => s₁.TypeIs obj "tuple" ∧ Q obj s₁) PySem.F.called_tuple (PySem.F.typeCall_tuple_1 _) PySem.F.entry_object_init
    (code_tuple_src (A := A.in1) K hh hok hn hT1 fun h' tk acc hk hacc => ⟨⟨_, Heap.get?_push_size _ rfl, rfl⟩, hQ h' tk acc hk hacc⟩) fun obj s₁ h₁ => ?_
  exact ⟨h₁.1, PySem.F.args_object_init_2 obj _, object_init_meets PySem.F.called_tuple.init.lookup PySem.F.called_tuple.made (by decide) prog w A.in1 _ s₁ ⟨h₁.1, rfl, h₁.2⟩⟩
end
section
variable {X : Cx}
/-- tuple(d): the keys -/
theorem call_tupleD (hcalm : X.calm = true) : CallR X (.type "tuple") (fun xs H Q => ∃ (a : Addr) (kvs : List (Key × V)), xs = [.ref a] ∧ Rd H a (.dK kvs) ∧ ∀ p, H p = none → Q (.ref p) (upd H p (.tup (kvs.map fun kv => kV kv.1)))) := by
  intro pins s σ H xs us Q I r q
  obtain ⟨a, kvs, ex, hd, q⟩ := q
  subst ex
  obtain ⟨u, eu, rx⟩ := vals1 r
  subst eu
  cases rx
  obtain ⟨z, lo, vs, rel, dd⟩ := dk_rd I.hok hd
  obtain ⟨ep, hat⟩ := dd.dictAt
  have ek : (kvs.map fun kv => kV kv.1) = vs.map fun p => kV p.1 := by
    have e := congrArg (List.map kV) rel.keys
    rw [List.map_map, List.map_map] at e
    exact e
  refine call_tuple_src (PySem.W.kdl_dict (knd := mixKind X.prog X.w) (kvs := vs) (ep := ep) lo) (I.ok.hd hcalm) hat (by rw [← rel.length]; exact z) (by decide) fun h' tk acc hk hacc => ?_
  have hv : Vals (vs.map fun p => kV p.1) acc.toList := keys_at (by rw [Array.length_toList]; exact hacc.1) fun j v e => hacc.2 j v (by rw [← Array.getElem?_toList]; exact e)
  have I1 : Inv X pins σ H { s with heap := h', toks := tk } := I.kept (t' := tk) hk
  have I2 : Inv X pins σ (upd H h'.objs.size (.tup (kvs.map fun kv => kV kv.1))) { s with heap := h'.push { cls := .type "tuple", data := .seq acc }, toks := tk } :=
    I1.laid (t' := tk) (fun b o e => Heap.get?_push_of_some _ e) (Nat.le_refl _) (show ObjOk X.prog X.w _ _ _ (.tup (kvs.map fun kv => kV kv.1)) from ⟨by rw [List.length_map]; exact z, acc.toList, by rw [ek]; exact hv, by rw [Array.toArray_toList]; exact IsTup.new _ _⟩)
  exact ⟨.ref h'.objs.size, _, I2, rfl, q _ (I1.hok.fresh (Nat.le_refl _))⟩
theorem cmp_strs {prog : Program} {w : World} {A : Around} {P : Nat → Value → Prop} (val : Nat → Str) (hval : ∀ i v, P i v → ∃ t, v = .str (val i) t) :
    CmpOf prog w A .Lt P (fun i j => decide ((val i).cps.toList < (val j).cps.toList)) := fun i j vi vj s Q E hi hj h => by
  obtain ⟨t, rfl⟩ := hval i vi hi
  obtain ⟨u, rfl⟩ := hval j vj hj
  exact richCompare_gives (op := .Lt) (typeIs_str s _ t) (typeIs_str s _ u) PySem.F.slot_str_lt PySem.F.entry_str_lt (PySem.F.args_str_lt_2 _ _) (gives_str_lt _ _ t u) (fun x => nomatch x) h
theorem argBest_le (bt : Nat → Nat → Bool) : ∀ k, argBest bt k ≤ k
  | 0 => Nat.le_refl _
  | k + 1 => by
    unfold argBest
    split
    · exact Nat.le_refl _
    · exact Nat.le_succ_of_le (argBest_le bt k)
/-- min(d), the keys texts: one of them -/
theorem cr_minS (hc : X.calm = true) : CallR X (.builtin "min") (fun vs H Q => ∃ (a : Addr) (kvs : List (Key × V)) (is : List Str), vs = [V.ref a] ∧ Rd H a (.dK kvs) ∧ kvs.map (·.1) = is.map Sum.inr ∧ is ≠ [] ∧ ∀ m, m ∈ is → Q (.str m) H) := by
  intro pins s σ H vs us Q I r h
  obtain ⟨a, kvs, is, rfl, ha, hv, hne, q⟩ := h
  rw [Vals.ref1 r]
  obtain ⟨_, hsys, vs, rel, dof⟩ := dk_rd I.hok ha
  obtain ⟨ep, dat⟩ := dof.dictAt
  obtain ⟨ob, es, ho, hex, hdat, hko, hpr, hnd⟩ := id dat
  have hlt : a < s.heap.objs.size := Heap.lt_size ho
  have hkeys : vs.map (·.1) = is.map Sum.inr := (KV.keys rel).symm.trans hv
  have hlv : vs.length = is.length := by
    have e1 := congrArg List.length hkeys
    rw [List.length_map, List.length_map] at e1
    exact e1
  have hlen : 0 < vs.length := by
    rw [hlv]
    exact List.length_pos_iff.mpr hne
  have hval : ∀ (i : Nat) (v : Value), (∃ k x, vs[i]? = some (k, x) ∧ (mixKind X.prog X.w).is k v = true) → ∃ t, v = Value.str (is.getD i Str.empty) t := fun i v ⟨k, x, hk, hkey⟩ => by
    have e1 : (vs.map (·.1))[i]? = some k := by rw [List.getElem?_map, hk] <;> rfl
    rw [hkeys, List.getElem?_map] at e1
    obtain ⟨j, hj, e2⟩ := Option.map_eq_some_iff.mp e1
    subst e2
    rcases L2.keyIs_shape (k := Sum.inr j) (v := v) hkey with ⟨n, t, e3, e4⟩ | ⟨z, t, e3, e4⟩
    · cases e3
    · cases e3
      exact ⟨t, by rw [e4, List.getD_eq_getElem?_getD, hj] <;> rfl⟩
  refine call_min_walk (wpAny_pyIter_dict (knd := mixKind X.prog X.w) hsys dat ?_)
  refine ⟨_, _, _, _, _, _, _, rfl, Walks.dictKeys (knd := mixKind X.prog X.w) (A := X.A.in1) (I.ok.hd hc) s.heap.objs.size a (Nat.ne_of_lt hlt) vs ep,
    ⟨⟨_, Heap.get?_push_size _ rfl, rfl, rfl⟩, dat.keep fun b u e => Heap.get?_push_of_some _ e⟩, fun b hb => ?_, hlen, cmp_strs (fun i => is.getD i Str.empty) hval, fun v h' tk hP hk => ?_⟩
  · show b < (s.heap.push _).objs.size
    rw [Heap.size_push]
    rcases List.mem_cons.mp hb with e | hb
    · rw [e]
      exact Nat.lt_succ_self _
    · rw [List.mem_singleton.mp hb]
      exact Nat.lt_succ_of_lt hlt
  · obtain ⟨t, rfl⟩ := hval _ v hP
    refine ⟨.str _, H, I.kept (t' := tk) fun b u e => hk b u (fun hmem => ?_) (Heap.get?_push_of_some _ e), ⟨t, rfl⟩, q _ ?_⟩
    · have e1 : b = s.heap.objs.size := List.mem_singleton.mp hmem
      have e2 := Heap.lt_size e
      rw [e1] at e2
      exact absurd e2 (Nat.lt_irrefl _)
    · have h2 := argBest_le (fun i j => decide ((is.getD i Str.empty).cps.toList < (is.getD j Str.empty).cps.toList)) (vs.length - 1)
      have hb : argBest (fun i j => decide ((is.getD i Str.empty).cps.toList < (is.getD j Str.empty).cps.toList)) (vs.length - 1) < is.length := by omega
      rw [List.getD_eq_getElem?_getD, List.getElem?_eq_getElem hb]
      exact List.getElem_mem hb
end
end K62

end

section
set_option Elab.async false
set_option linter.all false
set_option maxRecDepth 100000
set_option maxHeartbeats 4000000
/-! len(set(xs)), xs a list of texts that differ: after the road of HandS.Strs (which has it for one text at most) -/
namespace K62
open PySem PySem.Spec PyProof.Rows L2
section
variable {prog : Program} {w : World} {A : Around} {R : Result → Shared → Prop} {I : Addr} {fp wr : List Addr} {G : Array GenState → Array GenState → Prop} {n : Nat} {P : Nat → Value → Prop} {St : Nat → Shared → Prop}
theorem loop_strs (W : WalksS prog w A.in1 I fp wr G n P St) (S : Addr) (hSf : S ∉ fp) (xs : List Str) (hsz : xs.length = n) (hnd : xs.Nodup) (hb : n + 1 < scanBound)
    (hval : ∀ i v, P i v → ∃ t, v = .str (xs.getD i Str.empty) t) :
    ∀ (k i : Nat) (s : Shared), n - i = k → i ≤ n → St i s →
      s.heap.SetOf (PySem.strKind prog w) S (fun k' => (xs.take i).any (· == k')) i →
      (∀ s', Moved (S :: wr) G s s' → s'.heap.SetOf (PySem.strKind prog w) S (fun k' => (xs.take n).any (· == k')) n → R (.ok (.ret .none)) s') →
      codeAny (model prog w) A (.builtin "set.update.loop" ⟨[.ref S, .ref I], []⟩) R s := by
  have hSw : S ∉ wr := fun h => hSf (W.sub _ h)
  have hsub : ∀ b ∈ wr, b ∈ S :: wr := fun b hb => List.mem_cons_of_mem _ hb
  intro k
  induction k with
  | zero =>
    intro i s hk hi hst hS hR
    have hin : i = n := by omega
    subst hin
    refine codeAny_builtin PyProof.Rows.F.entry_set_update_loop ?_
    rw [Around.under_plainId PyProof.Rows.F.plain_set_update_loop _]
    show wpAny _ A.in1 (pyNext (.ref I) >>= _) _ _ s
    refine wpAny_bind (W.done s _ _ hst fun s' hm => ?_)
    show wpAny _ A.in1 (ret Value.none) _ _ s'
    exact wpAny_pure (hR s' (hm.mono hsub) (by
      obtain ⟨o, es, ep, t, ho, rest⟩ := hS
      exact ⟨o, es, ep, t, hm.heap S _ hSw ho, rest⟩))
  | succ k ih =>
    intro i s hk hi hst hS hR
    have hlt : i < n := by omega
    have hlx : i < xs.length := by omega
    have hget : xs.getD i Str.empty = xs[i] := by rw [List.getD_eq_getElem?_getD, List.getElem?_eq_getElem hlx]; rfl
    have hnew : xs.getD i Str.empty ∉ xs.take i := by
      rw [hget]
      intro hm
      obtain ⟨j, hj, e⟩ := List.mem_iff_getElem.mp hm
      rw [List.length_take] at hj
      rw [List.getElem_take] at e
      have := (List.getElem_inj hnd).mp e
      omega
    refine codeAny_builtin PyProof.Rows.F.entry_set_update_loop ?_
    rw [Around.under_plainId PyProof.Rows.F.plain_set_update_loop _]
    show wpAny _ A.in1 (pyNext (.ref I) >>= _) _ _ s
    refine wpAny_bind (W.item i s _ _ hlt hst fun v s' hP hst' hm => ?_)
    obtain ⟨t, rfl⟩ := hval i v hP
    have hS' : s'.heap.SetOf (PySem.strKind prog w) S (fun k' => (xs.take i).any (· == k')) i := by
      obtain ⟨o, es, ep, tb, ho, rest⟩ := hS
      exact ⟨o, es, ep, tb, hm.heap S _ hSw ho, rest⟩
    show wpAny _ A.in1 (holding [Value.str (xs.getD i Str.empty) t] (setAdd S (.str (xs.getD i Str.empty) t)) >>= _) _ _ s'
    refine wpAny_bind (wpAny_holding ?_)
    unfold setAdd
    refine wpAny_holding ?_
    refine wpAny_bind ((PySem.strKind prog w).pyHash (k := xs.getD i Str.empty) (strKind_is _ _ _ _) ?_)
    refine wpAny_setAddHashed_of (knd := PySem.strKind prog w) (s := { s' with toks := s'.toks + 1 }) (strKind_is _ _ _ _) rfl hS' (by omega) fun h' hsb hS2 => ?_
    have hno : ((xs.take i).any (· == xs.getD i Str.empty)) = false := by
      rw [List.any_eq_false]
      intro y hy e
      exact hnew (by rw [← eq_of_beq e]; exact hy)
    have hSi : h'.SetOf (PySem.strKind prog w) S (fun k' => (xs.take (i + 1)).any (· == k')) (i + 1) := by
      refine SetOf_congr hS2 (fun k' => ?_) (by rw [hno]; simp)
      show ((xs.take i).any (· == k') || decide (k' = xs.getD i Str.empty)) = (xs.take (i + 1)).any (· == k')
      rw [List.take_add_one, List.getElem?_eq_getElem hlx, List.any_append, hget]
      congr 1
      show _ = (xs[i] == k' || false)
      rw [Bool.or_false]
      by_cases e : k' = xs[i]
      · subst e; simp
      · have h1 : (xs[i] == k') = false := by simpa [beq_iff_eq] using (fun h' : xs[i] = k' => e h'.symm)
        rw [h1]; exact decide_eq_false e
    refine wpAny_pure ⟨plainId_quiet PyProof.Rows.F.plain_set_update_loop _, ih (i + 1) _ (by omega) hlt (W.frame _ s' _ _ hst' (Nat.le_succ _) fun b hb o e => ?_) hSi fun s'' hm'' hS'' => ?_⟩
    · rw [hsb.2 b (fun h : b = S => hSf (by rw [← h]; exact hb))]; exact e
    · refine hR s'' (Moved.trans W.gtrans ((hm.mono hsub).then_heap (Nat.le_succ _) fun b o hb e => ?_) hm'') hS''
      rw [hsb.2 b (fun h : b = S => hb (by rw [h]; exact List.mem_cons_self))]; exact e
end
section
variable {prog : Program} {w : World} {A : Around} {E : Value → Shared → Prop} {s : Shared}
set_option maxHeartbeats 3200000 in
theorem set_of_strs {l : Addr} {items : Array Value} {xs : List Str} {Q : Value → Shared → Prop}
    (hh : A.handled = none) (hl : s.heap.IsList l items) (hi : PyProof.Rows.StrsAre items.toList xs) (hnd : xs.Nodup) (hb : xs.length + 1 < scanBound)
    (h : ∀ (h' : Heap) (tk : Nat), h'.SetOf (PySem.strKind prog w) s.heap.objs.size (fun k' => (xs.take items.size).any (· == k')) items.size →
      (∀ b o, b < s.heap.objs.size → s.heap.get? b = some o → h'.get? b = some o) → Q (.ref s.heap.objs.size) { s with heap := h', toks := tk }) :
    wpAny (model prog w) A (call (.type "set") [.ref l]) Q E s := by
  obtain ⟨c, tl, hmro⟩ := PySem.F.called_set.mro
  have hmade := PySem.F.called_set.made
  have hsub := PySem.F.called_set.sub
  refine wpAny_call (codeAny_of_tree ?_)
  show wpAny _ _ (callAny (.type "set") _) _ _ _
  refine wpAny_pure ⟨Code.quiet_builtin _ (by decide +kernel), codeAny_builtin PySem.F.entry_type_call ?_⟩
  rw [Around.under_plain (weight_type_call_type "set" [.ref l] []) rfl]
  have h1 := PySem.F.called_set.notType
  have h2 := PySem.F.called_set.canCreate
  have hct := PySem.F.typeCall_set_1 (.ref l)
  repeat (any_goals (first | assumption | wp_step))
  refine codeAny_mono (code_set_new_1 (.ref l) (E := E) (Q₁ := fun obj s₁ => ∃ led : Bool, obj = .ref s.heap.objs.size ∧ s₁ = { s with heap := s.heap.push { cls := .type "set", dict := none, data := .set #[] 0 (.fresh 0 0 led) } }) fun led => ⟨led, rfl, rfl⟩) fun r s₁ hr => ?_
  cases r with
  | error e => exact hr
  | ok fl =>
    cases fl with
    | ret obj =>
      obtain ⟨led, rfl, rfl⟩ := hr
      have hS : (s.heap.push { cls := .type "set", dict := none, data := .set #[] 0 (.fresh 0 0 led) }).get? s.heap.objs.size = some { cls := .type "set", dict := none, data := .set #[] 0 (.fresh 0 0 led) } := Heap.get?_push_size _ rfl
      have hT : Shared.TypeIs { s with heap := s.heap.push { cls := .type "set", dict := none, data := .set #[] 0 (.fresh 0 0 led) } } (.ref s.heap.objs.size) "set" := ⟨_, hS, rfl⟩
      have hli := PySem.F.called_set.init.lookup
      have hbi := PySem.F.called_set.init.bind (.ref s.heap.objs.size)
      repeat (any_goals (first | assumption | wp_step))
      refine codeAny_mono (codeAny_call_builtin (R := wants (fun r s₂ => r = .none ∧ ∃ h' tk, s₂ = { s with heap := h', toks := tk } ∧
          h'.SetOf (PySem.strKind prog w) s.heap.objs.size (fun k' => (xs.take items.size).any (· == k')) items.size ∧
          (∀ b o, b < s.heap.objs.size → s.heap.get? b = some o → h'.get? b = some o)) E) PySem.F.called_set.init.plain PySem.F.entry_set_init (check_set_init_1 hT ?_)) fun r₂ s₂ hr₂ => ?_
      · obtain ⟨ol, hol, hcl, nl, hdl⟩ := hl
        obtain ⟨ocls, odict, odata, oslots⟩ := ol
        simp only at hcl hdl
        subst hcl; subst hdl
        have hol' : (s.heap.push { cls := .type "set", dict := none, data := .set #[] 0 (.fresh 0 0 led) }).get? l = some { cls := .type "list", dict := odict, data := .seq items nl, slots := oslots } := Heap.get?_push_of_some _ hol
        have hsls := PySem.F.sub_list_set
        have hslf := PySem.F.sub_list_frozenset
        have hne : (Value.type "list" == Value.type "dict") = false := by decide
        have hl1 : (s.heap.push { cls := .type "set", dict := none, data := .set #[] 0 (.fresh 0 0 led) }).IsList l items := ⟨_, hol', rfl, nl, rfl⟩
        unfold Builtin.«set.__init__» noKeywords Builtin.Frozenset.updateFrom
        generalize hPI : pyIter = PI
        wp_walk
        subst hPI
        refine wpAny_pyIter_list hl1 ?_
        refine wpAny_bind (wpAny_runValue ?_)
        have hlS : l < s.heap.objs.size := Heap.lt_size hol
        have hh3 : A.in1.in1.in1.handled = none := by simp [hh]
        have hneI : l ≠ (s.heap.push { cls := .type "set", dict := none, data := .set #[] 0 (.fresh 0 0 led) }).objs.size := by
          rw [Heap.size_push]; exact Nat.ne_of_lt (Nat.lt_succ_of_lt hlS)
        have hSf : s.heap.objs.size ∉ [(s.heap.push { cls := .type "set", dict := none, data := .set #[] 0 (.fresh 0 0 led) }).objs.size, l] := by
          rw [Heap.size_push]; simp only [List.mem_cons, List.mem_singleton, List.not_mem_nil, or_false, not_or]
          exact ⟨Nat.ne_of_lt (Nat.lt_succ_self _), Nat.ne_of_gt hlS⟩
        have hsz : xs.length = items.size := by rw [← StrsAre.len_eq hi, Array.length_toList]
        have hval : ∀ (i : Nat) (v : Value), items[i]? = some v → ∃ t, v = .str (xs.getD i Str.empty) t := fun i v hv => SS.strs_at hi i v (by rw [Array.getElem?_toList]; exact hv)
        refine loop_strs ((Walks.list hh3 _ l hneI items).toS) s.heap.objs.size
          hSf xs hsz hnd (by rw [← hsz]; exact hb) hval (items.size - 0) 0 _ (by omega) (Nat.zero_le _)
          ⟨⟨_, Heap.get?_push_size _ rfl, rfl, rfl⟩, (hl1.push _)⟩ ?hS0 ?hR
        case hS0 =>
          have hget : ((s.heap.push { cls := .type "set", dict := none, data := .set #[] 0 (.fresh 0 0 led) }).push { cls := .type "list_iterator", data := .fields #[.ref l, .int 0 0] }).get? s.heap.objs.size
              = some { cls := .type "set", dict := none, data := .set #[] 0 (.fresh 0 0 led) } := Heap.get?_push_of_some _ hS
          exact PyProof.Rows.SetOf_congr ((PyProof.Rows.setObjOf_fresh (knd := PySem.strKind prog w) led).setOf hget (by unfold scanBound; omega)) (fun _ => rfl) rfl
        case hR =>
          intro s' hm hS'
          obtain ⟨h', g', d', tk', os'⟩ := s'
          have eg : g' = s.gens := hm.gens
          have ed : d' = s.drawn := hm.drawn
          have eo : os' = s.os := hm.os
          subst eg; subst ed; subst eo
          show wpAny _ _ _ _ _ _
          refine wpAny_pure ?_
          show wpAny _ _ (ret Value.none) _ _ _
          refine wpAny_pure ⟨rfl, h', tk', rfl, hS', fun b o hb e => ?_⟩
          have hb1 : b ≠ s.heap.objs.size := Nat.ne_of_lt hb
          have hb2 : b ≠ (s.heap.push { cls := .type "set", dict := none, data := .set #[] 0 (.fresh 0 0 led) }).objs.size := by
            rw [Heap.size_push]; exact Nat.ne_of_lt (Nat.lt_succ_of_lt hb)
          exact hm.heap b o (by simp only [List.mem_cons, List.mem_singleton, List.not_mem_nil, or_false, not_or]; exact ⟨hb1, hb2⟩) (Heap.get?_push_of_some _ (Heap.get?_push_of_some _ e))
      · cases r₂ with
        | error e => exact hr₂
        | ok fl₂ =>
          cases fl₂ with
          | ret r =>
            obtain ⟨rfl, h', tk, rfl, hS', hk'⟩ := hr₂
            repeat (any_goals (first | assumption | wp_step))
            exact h _ _ hS' hk'
          | _ => exact hr₂.elim
    | _ => exact hr.elim
end
section
variable {X : Cx}
def tLenSetN (K : PySem.W.Frag) (ta : TE) : TE := fun σ H Q => ta σ H fun x H1 => ∃ l, ∃ xs : List Str, x = .ref l ∧ SqL K H1 l (xs.map V.str) ∧ xs.Nodup ∧ xs.length < 64 ∧ Q (.int xs.length) H1
theorem pe_lenSetN {a : Expr} {ta : TE} {p p2 q pos : Pos} (hc : X.calm = true) (hg : Gl X "len") (hm : X.mg "len" = none) (hg2 : Gl X "set") (hm2 : X.mg "set" = none) (ha : PE X a ta)
    (na : starEach [a] X.env = (false, eval a X.env) :: starEach [] X.env := by rfl) : PE X (.Call (.Name "len" p) [.Call (.Name "set" p2) [a] [] q] [] pos) (tLenSetN X.K ta) := by
  refine ⟨fun pins s σ H Q I h => ?_⟩
  refine Call_ (ld_blt I hg hm boot_len ?_)
  refine PyProof.Rows.callWith_builtin1 (PyProof.Rows.args_cons ?_ rfl) rfl rfl
  refine Call_ (ld_blt I hg2 hm2 boot_set ?_)
  refine PyProof.Rows.callWith_type1 (PyProof.Rows.args_cons (thn (ha.run pins s σ H _ I h) fun v s1 ⟨x, H1, I1, r1, q1⟩ => PyProof.Rows.args_nil ?_) na) na rfl
  obtain ⟨l, xs, rfl, hq, hnd, h64, q1⟩ := q1
  cases r1
  obtain ⟨its, r, pl, hz⟩ := I1.list hq
  refine set_of_strs (I1.ok.hd hc) pl.isList (by simpa using strsAre_of r) hnd (by unfold scanBound; omega) fun h' tk hS hk => ?_
  refine PyProof.Rows.args_nil ?_
  have hl : its.toArray.size = xs.length := by rw [List.size_toArray, ← r.length, List.length_map]
  rw [hl] at hS
  obtain ⟨o, es, ep, t, ho, hex, hd, _, _, _, hf, hn⟩ := hS
  have I2 : Inv X pins σ H1 { s1 with heap := h', toks := tk } := I1.kept fun b o e => hk b o (Heap.lt_size e) e
  refine call_len_set ho hex hd hf (by rw [hn] <;> omega) ⟨.int xs.length, H1, I2.tok _, ⟨_, by rw [hn]⟩, q1⟩
end
end K62

end

section
set_option Elab.async false
set_option linter.all false
set_option maxRecDepth 100000
set_option maxHeartbeats 4000000
/-! further rules, the net's rep, free names -/
namespace K62
open PySem PySem.Spec PyProof.Rows L2
section
variable {X : Cx} {Γ : ECtx} {C : Ctx} {e a b c tg iter elt : Expr} {es ifs : List Expr} {rest : List Stmt} {α β γ δ : Type} {R : RepT α} {S : RepT β} {T : RepT γ} {U : RepT δ} {p : α → Prop} {q : β → Prop} {r : γ → Prop} {pos pp p1 p2 p3 p4 : Pos} {nx : Ctx → Prop} {t : String} {bb : Bool}
theorem isi_int (ha : EE X Γ a R p) (hm : X.mg "isinstance" = none) (hmT : X.mg "int" = none) (hty : HasTy R t := by infer_instance) (hb : kitB t "int" = some bb := by rfl) (hg : Gl X "isinstance" := by rfl) (hgT : Gl X "int" := by rfl) (ns : NS X a := by intro _; rfl) : EV X Γ (.Call (.Name "isinstance" p1) [a, .Name "int" p2] [] pos) rB bb :=
  dv_isi ha hm hmT hb (by decide +kernel) hg hgT ns (by decide) (by decide)
theorem isi_bool (ha : EE X Γ a R p) (hm : X.mg "isinstance" = none) (hmT : X.mg "bool" = none) (hty : HasTy R t := by infer_instance) (hb : kitB t "bool" = some bb := by rfl) (hg : Gl X "isinstance" := by rfl) (hgT : Gl X "bool" := by rfl) (ns : NS X a := by intro _; rfl) : EV X Γ (.Call (.Name "isinstance" p1) [a, .Name "bool" p2] [] pos) rB bb :=
  dv_isi ha hm hmT hb (by decide +kernel) hg hgT ns (by decide) (by decide)
theorem isi_str (ha : EE X Γ a R p) (hm : X.mg "isinstance" = none) (hmT : X.mg "str" = none) (hty : HasTy R t := by infer_instance) (hb : kitB t "str" = some bb := by rfl) (hg : Gl X "isinstance" := by rfl) (hgT : Gl X "str" := by rfl) (ns : NS X a := by intro _; rfl) : EV X Γ (.Call (.Name "isinstance" p1) [a, .Name "str" p2] [] pos) rB bb :=
  dv_isi ha hm hmT hb (by decide +kernel) hg hgT ns (by decide) (by decide)
theorem isi_tuple (ha : EE X Γ a R p) (hm : X.mg "isinstance" = none) (hmT : X.mg "tuple" = none) (hty : HasTy R t := by infer_instance) (hb : kitB t "tuple" = some bb := by rfl) (hg : Gl X "isinstance" := by rfl) (hgT : Gl X "tuple" := by rfl) (ns : NS X a := by intro _; rfl) : EV X Γ (.Call (.Name "isinstance" p1) [a, .Name "tuple" p2] [] pos) rB bb :=
  dv_isi ha hm hmT hb (by decide +kernel) hg hgT ns (by decide) (by decide)
theorem isi_dict (ha : EE X Γ a R p) (hm : X.mg "isinstance" = none) (hmT : X.mg "dict" = none) (hty : HasTy R t := by infer_instance) (hb : kitB t "dict" = some bb := by rfl) (hg : Gl X "isinstance" := by rfl) (hgT : Gl X "dict" := by rfl) (ns : NS X a := by intro _; rfl) : EV X Γ (.Call (.Name "isinstance" p1) [a, .Name "dict" p2] [] pos) rB bb :=
  dv_isi ha hm hmT hb (by decide +kernel) hg hgT ns (by decide) (by decide)
theorem isi_lt {bb2 : Bool} {kk : Nat} (ha : EE X Γ a R p) (hm : X.mg "isinstance" = none) (hm1 : X.mg "list" = none) (hm2 : X.mg "tuple" = none) (hty : HasTy R t := by infer_instance) (hb1 : kitB t "list" = some bb := by rfl) (hb2 : kitB t "tuple" = some bb2 := by rfl) (hg : Gl X "isinstance" := by rfl) (hg1 : Gl X "list" := by rfl) (hg2 : Gl X "tuple" := by rfl) (ns : NS X a := by intro _; rfl) : EV X Γ (.Call (.Name "isinstance" p1) [a, .Tuple [.Name "list" p2, .Name "tuple" p3] kk p4] [] pos) rB (bb || bb2) :=
  dv_isi2 ha hm hm1 hm2 hb1 hb2 (by decide +kernel) (by decide +kernel) hg hg1 hg2 ns (by decide) (by decide) (by decide) (by decide)
/-- a text, or None -/
theorem tyO (K : PySem.W.Frag) (H : Hp) (o : Option Str) : TyX K H (oV o) (.type (if o.isSome then "str" else "NoneType")) := by
  cases o with
  | none => exact .base .non
  | some s => exact .base (.str s)
theorem isi_strO {o : Option Str} (ha : EV X Γ a rO o) (hm : X.mg "isinstance" = none) (hmT : X.mg "str" = none) (hg : Gl X "isinstance" := by rfl) (hgT : Gl X "str" := by rfl) (ns : NS X a := by intro _; rfl) : EV X Γ (.Call (.Name "isinstance" p1) [a, .Name "str" p2] [] pos) rB o.isSome := by
  cases o with
  | none => exact ee_isi (bb := false) (t := "NoneType") (T := "str") (fun W H v x _ px r => by subst px; cases r; exact tyO X.K H none) ha hm hmT (by decide +kernel) (by decide +kernel) hg hgT ns (by decide) (by decide)
  | some s => exact ee_isi (bb := true) (t := "str") (T := "str") (fun W H v x _ px r => by subst px; cases r; exact tyO X.K H (some s)) ha hm hmT (by decide +kernel) (by decide +kernel) hg hgT ns (by decide) (by decide)
/-! ### calls of built-ins, by name -/
theorem dv_lenL {RL : RepT (List α)} {xs : List α} (ha : EV X Γ a RL xs) (hm : X.mg "len" = none) (lk : LikeL RL R := by infer_instance) (hg : Gl X "len" := by rfl) (ns : NS X a := by intro _; rfl) : EV X Γ (.Call (.Name "len" pp) [a] [] pos) rI (xs.length : Int) := ee_cb c_lenL ha (fun x px => ⟨by first | trivial | (rw [px]; assumption), fun y hy => by first | exact hy | (rw [hy, px])⟩) hm (by decide +kernel) hg ns (by decide) (by decide)
theorem dv_lenT [Plain R] {xs : List α} (ha : EV X Γ a (rT R) xs) (hm : X.mg "len" = none) (hg : Gl X "len" := by rfl) (ns : NS X a := by intro _; rfl) : EV X Γ (.Call (.Name "len" pp) [a] [] pos) rI (xs.length : Int) := ee_cb c_lenT ha (fun x px => ⟨by first | trivial | (rw [px]; assumption), fun y hy => by first | exact hy | (rw [hy, px])⟩) hm (by decide +kernel) hg ns (by decide) (by decide)
theorem dv_lenP [Plain R] [Plain S] {x : α × β} (ha : EV X Γ a (rP R S) x) (hm : X.mg "len" = none) (hg : Gl X "len" := by rfl) (ns : NS X a := by intro _; rfl) : EV X Γ (.Call (.Name "len" pp) [a] [] pos) rI 2 := ee_cb c_lenP ha (fun x px => ⟨by first | trivial | (rw [px]; assumption), fun y hy => by first | exact hy | (rw [hy, px])⟩) hm (by decide +kernel) hg ns (by decide) (by decide)
theorem dv_lenQ [Plain R] [Plain S] [Plain T] {x : α × β × γ} (ha : EV X Γ a (rQ R S T) x) (hm : X.mg "len" = none) (hg : Gl X "len" := by rfl) (ns : NS X a := by intro _; rfl) : EV X Γ (.Call (.Name "len" pp) [a] [] pos) rI 3 := ee_cb c_lenQ ha (fun x px => ⟨by first | trivial | (rw [px]; assumption), fun y hy => by first | exact hy | (rw [hy, px])⟩) hm (by decide +kernel) hg ns (by decide) (by decide)
theorem dv_lenS {z : Str} (ha : EV X Γ a rS z) (hm : X.mg "len" = none) (hz : z.length ≤ sizeLine) (hg : Gl X "len" := by rfl) (ns : NS X a := by intro _; rfl) : EV X Γ (.Call (.Name "len" pp) [a] [] pos) rI (z.length : Int) := ee_cb c_lenS ha (fun x px => ⟨by first | trivial | (rw [px]; assumption), fun y hy => by first | exact hy | (rw [hy, px])⟩) hm (by decide +kernel) hg ns (by decide) (by decide)
theorem dv_lenD {RD : RepT (List (Str × α))} {xs : List (Str × α)} (ha : EV X Γ a RD xs) (hm : X.mg "len" = none) (lk : LikeD RD R := by infer_instance) (hg : Gl X "len" := by rfl) (ns : NS X a := by intro _; rfl) : EV X Γ (.Call (.Name "len" pp) [a] [] pos) rI (xs.length : Int) := ee_cb c_lenD ha (fun x px => ⟨by first | trivial | (rw [px]; assumption), fun y hy => by first | exact hy | (rw [hy, px])⟩) hm (by decide +kernel) hg ns (by decide) (by decide)
/-- all([..]), any([..]) -/
theorem ee_all {p : List Bool → Prop} {q : Bool → Prop} (hc : X.calm = true) (ha : EN X Γ a rB p) (hm : X.mg "all" = none) (k : ∀ xs, p xs → q (xs.all id)) (hg : Gl X "all" := by rfl) (ns : NS X a := by intro _; rfl) : EE X Γ (.Call (.Name "all" pp) [a] [] pos) rB q :=
  ee_cb (c_all hc) ha.ee (fun x px => ⟨trivial, fun y hy => by rw [hy]; exact k x px⟩) hm (by decide +kernel) hg ns (by decide) (by decide)
theorem ee_any {p : List Bool → Prop} {q : Bool → Prop} (hc : X.calm = true) (ha : EN X Γ a rB p) (hm : X.mg "any" = none) (k : ∀ xs, p xs → q (xs.any id)) (hg : Gl X "any" := by rfl) (ns : NS X a := by intro _; rfl) : EE X Γ (.Call (.Name "any" pp) [a] [] pos) rB q :=
  ee_cb (c_any hc) ha.ee (fun x px => ⟨trivial, fun y hy => by rw [hy]; exact k x px⟩) hm (by decide +kernel) hg ns (by decide) (by decide)
theorem paired_map {f : α → β} : ∀ {xs : List α} {ys : List β}, Paired (fun x y => y = f x) xs ys → ys = xs.map f
  | _, _, .nil => rfl
  | _, _, .cons h t => by rw [h, paired_map t]; rfl
theorem dv_intB {b : Bool} (ha : EV X Γ a rB b) (hm : X.mg "int" = none) (hg : Gl X "int" := by rfl) (ns : NS X a := by intro _; rfl) : EV X Γ (.Call (.Name "int" pp) [a] [] pos) rI (if b then 1 else 0) := ee_ct c_intB ha (fun x px => ⟨trivial, fun y hy => by rw [hy, px]⟩) hm (by decide +kernel) hg ns (by decide) (by decide)
theorem dv_intI {b : Int} (ha : EV X Γ a rI b) (hm : X.mg "int" = none) (hg : Gl X "int" := by rfl) (ns : NS X a := by intro _; rfl) : EV X Γ (.Call (.Name "int" pp) [a] [] pos) rI b := ee_ct c_intI ha (fun x px => ⟨trivial, fun y hy => by rw [hy, px]⟩) hm (by decide +kernel) hg ns (by decide) (by decide)
theorem ee_tupL {RL : RepT (List α)} {p : List α → Prop} [Plain R] (ha : EE X Γ a RL p) (hm : X.mg "tuple" = none) (lk : LikeL RL R := by infer_instance) (hg : Gl X "tuple" := by rfl) (ns : NS X a := by intro _; rfl) : EE X Γ (.Call (.Name "tuple" pp) [a] [] pos) (rT R) p :=
  ee_ct c_tupL ha (fun x px => ⟨trivial, fun y hy => by rw [hy]; exact px⟩) hm (by decide +kernel) hg ns (by decide) (by decide)
theorem dv_tupT [Plain R] {xs : List α} (ha : EV X Γ a (rT R) xs) (hm : X.mg "tuple" = none) (hg : Gl X "tuple" := by rfl) (ns : NS X a := by intro _; rfl) : EV X Γ (.Call (.Name "tuple" pp) [a] [] pos) (rT R) xs := ee_ct c_tupT ha (fun x px => ⟨trivial, fun y hy => by rw [hy, px]⟩) hm (by decide +kernel) hg ns (by decide) (by decide)
theorem en_lstL {RL : RepT (List α)} {p : List α → Prop} [Plain R] (ha : EE X Γ a RL p) (hm : X.mg "list" = none) (lk : LikeL RL R := by infer_instance) (hg : Gl X "list" := by rfl) (ns : NS X a := by intro _; rfl) : EN X Γ (.Call (.Name "list" pp) [a] [] pos) R p :=
  en_ct c_lstL ha (fun x px => ⟨trivial, fun y hy => by rw [hy]; exact px⟩) hm (by decide +kernel) hg ns (by decide) (by decide)
theorem en_lstT {p : List α → Prop} [Plain R] (ha : EE X Γ a (rT R) p) (hm : X.mg "list" = none) (hg : Gl X "list" := by rfl) (ns : NS X a := by intro _; rfl) : EN X Γ (.Call (.Name "list" pp) [a] [] pos) R p :=
  en_ct c_lstT ha (fun x px => ⟨trivial, fun y hy => by rw [hy]; exact px⟩) hm (by decide +kernel) hg ns (by decide) (by decide)
theorem en_lstD {RD : RepT (List (Str × α))} {d : List (Str × α)} (hc : X.calm = true) (ha : EV X Γ a RD d) (hm : X.mg "list" = none) (lk : LikeD RD R := by infer_instance) (hg : Gl X "list" := by rfl) (ns : NS X a := by intro _; rfl) : EN X Γ (.Call (.Name "list" pp) [a] [] pos) rS (· = d.map (·.1)) :=
  en_ct (c_lstD hc) ha (fun x px => ⟨trivial, fun y hy => by rw [hy, px]⟩) hm (by decide +kernel) hg ns (by decide) (by decide)
theorem en_sortS {RL : RepT (List Str)} {p q : List Str → Prop} (ha : EE X Γ a RL p) (hm : X.mg "sorted" = none) (k : ∀ xs, p xs → xs.length < 64 ∧ ∀ ys, ys.Perm xs → sortedS ys = true → q ys) (lk : LikeL RL rS := by infer_instance) (hg : Gl X "sorted" := by rfl) (ns : NS X a := by intro _; rfl) : EN X Γ (.Call (.Name "sorted" pp) [a] [] pos) rS q :=
  en_cb c_sortS ha (fun x px => ⟨(k x px).1, fun y hy => (k x px).2 y hy.1 hy.2⟩) hm (by decide +kernel) hg ns (by decide) (by decide)
theorem en_sortD {RD : RepT (List (Str × α))} {d : List (Str × α)} {q : List Str → Prop} (hc : X.calm = true) (ha : EV X Γ a RD d) (hm : X.mg "sorted" = none) (h64 : d.length < 64) (k : ∀ ys, ys.Perm (d.map (·.1)) → sortedS ys = true → q ys) (lk : LikeD RD R := by infer_instance) (hg : Gl X "sorted" := by rfl) (ns : NS X a := by intro _; rfl) : EN X Γ (.Call (.Name "sorted" pp) [a] [] pos) rS q :=
  en_cb (c_sortD hc) ha (fun x px => ⟨by rw [px]; exact h64, fun y hy => k y (by rw [← px]; exact hy.1) hy.2⟩) hm (by decide +kernel) hg ns (by decide) (by decide)
theorem dv_tupD {d : List (Str × α)} (hc : X.calm = true) {RD : RepT (List (Str × α))} (ha : EV X Γ a RD d) (hm : X.mg "tuple" = none) (lk : LikeD RD R := by infer_instance) (hg : Gl X "tuple" := by rfl) (ns : NS X a := by intro _; rfl) : EV X Γ (.Call (.Name "tuple" pp) [a] [] pos) (rT rS) (d.map (·.1)) :=
  EE.of (pe_callTy (call_tupleD hc) hg hm (by decide +kernel) (pa_cons pe_te pa_nil (ns _)) (by decide) (by decide) (ns _) rfl) fun W σ H Q hi hh f => ha.te hi hh fun u H1 x e1 px rx => by
    subst px
    obtain ⟨l, us, rfl, hd, pr⟩ := LikeD.rd e1.inv rx
    refine ⟨l, us, rfl, rd_dK hd, fun t ht => ?_⟩
    obtain ⟨e3, n3, d3⟩ := new_tup (us := us.map fun kv => kV kv.1) e1.inv ht
    refine f _ _ _ (e1.trans e3) rfl ⟨t, _, rfl, n3, d3, ?_⟩
    have ek : us.map (fun kv => kV kv.1) = (x.map (·.1)).map V.str := by
      have e2 := congrArg (List.map kV) (keys_paired pr)
      rw [List.map_map, List.map_map] at e2
      exact e2
    rw [ek]; exact map_flat _
theorem ee_minD {d : List (Str × α)} (hc : X.calm = true) {RD : RepT (List (Str × α))} (ha : EV X Γ a RD d) (hm : X.mg "min" = none) (hne : d ≠ []) (lk : LikeD RD R := by infer_instance) (hg : Gl X "min" := by rfl) (ns : NS X a := by intro _; rfl) : EE X Γ (.Call (.Name "min" pp) [a] [] pos) rS (fun k => k ∈ d.map (·.1)) :=
  EE.of (pe_callB (cr_minS hc) hg hm (by decide +kernel) (pa_cons pe_te pa_nil (ns _)) (by decide) (by decide) (ns _) rfl) fun W σ H Q hi hh f => ha.te hi hh fun u H1 x e1 px rx => by
    subst px
    obtain ⟨l, us, rfl, hd, pr⟩ := LikeD.rd e1.inv rx
    exact ⟨l, us, x.map (·.1), rfl, rd_dK hd, keys_paired pr, by simpa using hne, fun m hm => f _ H1 m e1 hm rfl⟩
theorem dv_lenSet {RL : RepT (List Str)} {xs : List Str} {p1 p2 q : Pos} (hc : X.calm = true) (ha : EV X Γ a RL xs) (hm : X.mg "len" = none) (hm2 : X.mg "set" = none) (hnd : xs.Nodup) (h64 : xs.length < 64) (lk : LikeL RL rS := by infer_instance) (hg : Gl X "len" := by rfl) (hg2 : Gl X "set" := by rfl)
    (na : starEach [a] X.env = (false, eval a X.env) :: starEach [] X.env := by rfl) : EV X Γ (.Call (.Name "len" p1) [.Call (.Name "set" p2) [a] [] q] [] pos) rI (xs.length : Int) :=
  EE.of (pe_lenSetN hc hg hm hg2 hm2 pe_te na) fun W σ H Q hi hh f => ha.te hi hh fun u H1 x e1 px rx => by
    subst px
    obtain ⟨l, us, rfl, hd, pr⟩ := LikeL.rd e1.inv rx
    rw [flat_map pr] at hd
    exact ⟨l, x, rfl, sqL_of hd, hnd, h64, f _ H1 _ e1 rfl rfl⟩
/-- (*part, node) -/
theorem dv_starT [Plain R] {xs : List α} {x : α} {k} {sp : Pos} (ha : EV X Γ a (rT R) xs) (hb : EV X Γ b R x) (hz : xs.length + 1 ≤ sizeLine) (hs : starEach (.Starred a sp :: [b]) X.env = (true, eval a X.env) :: starEach [b] X.env := by rfl) (nb : NS X b := by intro _; rfl) :
    EV X Γ (.Tuple [.Starred a sp, b] k pos) (rT R) (xs ++ [x]) :=
  EE.of (pe_tup (StX.pa_star pe_te (pa_cons pe_te pa_nil (nb _)) hs)) fun W σ H Q hi hh f => ha.te hi hh fun u H1 y e1 px rx => by
    subst px
    obtain ⟨l, us, rfl, n, hd, pr⟩ := rx
    refine ⟨l, us, rfl, .inl (sqT_of hd), hb.te e1.inv (hh.mono e1) fun v H2 z e2 pz rz => ?_⟩
    subst pz
    refine ⟨by rw [List.length_append, pr.length]; exact hz, fun t ht => ?_⟩
    obtain ⟨e3, n3, d3⟩ := new_tup (us := us ++ [v]) e2.inv ht
    exact f _ _ _ ((e1.trans e2).trans e3) rfl ⟨t, _, rfl, n3, d3, prMono e3 (Paired.app (prMono e2 pr) (.cons rz .nil))⟩
/-- is / is not, two truth values -/
theorem o_isntB : OpE X (compareOp .IsNot) rB rB rB CT (fun x y => !decide (x = y)) := ⟨_, op_isnot_bl, fun W H x y u v Q hi hu hv hc k => by cases hu; cases hv; exact ⟨x, y, rfl, rfl, k _ H (Ext.refl hi) rfl⟩⟩
/-- ''.join(xs) -/
theorem ee_join {RL : RepT (List Str)} {z : Str} {p q : _} {apos cpos : Pos} (hb : EV X Γ b rS z) (ha : EE X Γ a RL p) (k : ∀ xs, p xs → (xs.map (·.length)).sum + xs.length * z.length ≤ 16777216 ∧ q (Txt.join z xs)) (lk : LikeL RL rS := by infer_instance)
    (hbase : attributeBase b "join" X.env (eval b X.env) = eval b X.env := by rfl)
    (hfew : ((backTo cpos (starEach [a] X.env)).all (fun x => !x.1) && (backToKw cpos (keywordEach [] X.env)).all (fun x => x.1.isSome)
      && decide ([a].length + ([] : List Keyword).length + (if ([] : List Keyword).isEmpty then 0 else 1) < 30)) = true := by rfl)
    (hline : (apos.endLine == cpos.line) = true := by rfl) (hs : starEach [a] X.env = (false, eval a X.env) :: starEach [] X.env := by rfl) (hplain : (backTo cpos (starEach [] X.env)).any (·.1) = false := by rfl) :
    EE X Γ (.Call (.Attribute b "join" apos) [a] [] cpos) rS q :=
  EE.of (pe_bm PySem.F.plainAttrs_str PySem.F.slot_str_join PySem.F.type_str_join mt_join pe_te (pa_cons pe_te pa_nil hs) hbase hfew hline hs hplain) fun W σ H Q hi hh f => hb.te hi hh fun u H1 y e1 py ry => by
    subst py
    cases ry
    refine ⟨rfl, ha.te e1.inv (hh.mono e1) fun v H2 xs e2 px rx => ?_⟩
    obtain ⟨l, us, rfl, hd, pr⟩ := LikeL.rd e2.inv rx
    rw [flat_map pr] at hd
    exact ⟨_, l, xs, rfl, rfl, .inl (sqL_of hd), (k xs px).1, f _ H2 _ (e1.trans e2) (k xs px).2 rfl⟩
/-! ### extend -/
section
open PySem PySem.Builtin
theorem extend_list_tup (l : Addr) (items : Array Value) (n : Nat) (b : Addr) (items2 : Array Value) (n2 : Nat) (dd : Option Addr) (sl : Array (Option Value)) (hs0 : ¬(!items.isEmpty && Builtin.List.listTooLong (items.size + items2.size)) = true) (hs1 : items.size ≤ sizeLine) (hs2 : items.size + items2.size ≤ sizeLine + 1) :
    Meets (Builtin.«list.extend» ⟨[.ref l, .ref b], []⟩) (fun _ R s => s.heap.get? l = some { cls := .type "list", dict := none, data := .seq items n, slots := #[] } ∧ s.heap.get? b = some { cls := .type "tuple", dict := dd, data := .seq items2 n2, slots := sl } ∧ R (.ok (.ret Value.none)) { s with heap := s.heap.update l (Obj.mapSeq fun x => x ++ items2), toks := s.toks }) :=
  .of_wp fun prog w A R s h => by
    obtain ⟨hp, g, d, tk, os⟩ := s; obtain ⟨hl, hb, h⟩ := h; have f1 := AutoSeq1.idx_int; have f2 := AutoSeq1.sub_tuple_tuple; have f3 := AutoSeq1.sub_list_list; have f4 := AutoSeq1.sub_tuple_list; have f5 := AutoSeq1.sub_list_tuple;
    have hz' : (items ++ items2).size ≤ sizeLine + 1 := by rw [Array.size_append]; exact hs2
    wp_walk using (wpAny_updateSeq hl rfl (hz := hs1) (_hz' := hz')), AutoSeq1.wpAny_loadPart' hl, AutoSeq1.wpAny_loadPart' hb; exact ⟨_, rfl, h⟩
end
def rExtT (K : PySem.W.Frag) : V → List V → Hp → VK → Prop := fun x vs H Q => ∃ l b xs zs, x = .ref l ∧ vs = [.ref b] ∧ H l = some (.lst xs) ∧ SqT K H b zs ∧ xs.length + zs.length ≤ sizeLine ∧ Q .non (upd H l (.lst (xs ++ zs)))
theorem mt_extT : MtR X "list.extend" (rExtT X.K) := by
  intro pins s σ H x vs v us Q I rx rv h
  obtain ⟨l, b, xs, zs, rfl, rfl, hH, hB, hz, q⟩ := h
  cases rx
  obtain ⟨u, rfl, ru⟩ := vals1 rv
  cases ru
  obtain ⟨z, its, n, r, hl, e⟩ := I.lstM hH
  obtain ⟨its2, r2, pl, z2⟩ := I.tuple hB
  have hl2 := r2.length
  obtain ⟨⟨cls, dd, dt, sl⟩, ho, hc, n2, hd⟩ := pl
  simp only at hc hd
  subst hc
  subst hd
  have hsz : its.toArray.size + its2.toArray.size ≤ sizeLine := by rw [List.size_toArray, List.size_toArray]; omega
  have hlong : ¬ (!its.toArray.isEmpty && Builtin.List.listTooLong (its.toArray.size + its2.toArray.size)) = true := by
    rw [notLongL hsz, Bool.and_false]
    exact Bool.false_ne_true
  refine call_meets PySem.F.slot_list_extend ⟨_, e, rfl⟩ PySem.F.entry_list_extend (PySem.F.args_list_extend_2 _ _)
    (extend_list_tup l its.toArray n b its2.toArray n2 dd sl hlong (by rw [List.size_toArray]; omega) (by omega)) ⟨e, ho, ?_⟩
  refine ⟨.non, _, I.lset (its' := its ++ its2) hH e (by simp) (r.append r2) ?_, rfl, q⟩
  rw [List.length_append]
  omega
/-- xs.extend(t) -/
theorem sq_extT (v : Nat) {x : Str} {k : Nat} {xs : List α} {zs : List α} [Plain R] (he : EV X C.E e (rT R) zs) (hv : C.Γ[v]? = some (.own k)) (hO : C.O[k]? = some (.lst R xs)) (hz : xs.length + zs.length ≤ sizeLine) (kk : SS X ⟨C.Γ, C.O.set k (.lst R (xs ++ zs))⟩ rest nx T r)
    (hN : X.N[v]? = some x := by rfl) (hx : Vis X.env.scope x := by first | exact Or.inl rfl | exact Or.inr (Or.inl rfl) | exact Or.inr (Or.inr rfl))
    (hd : (x == ("__debug__" : Str)) = false := by decide) (hcd : (x == ("__classdict__" : Str)) = false := by decide)
    (hbase : attributeBase (.Name x p1) "extend" X.env (eval (.Name x p1) X.env) = eval (.Name x p1) X.env := by rfl)
    (hfew : ((backTo p3 (starEach [e] X.env)).all (fun x => !x.1) && (backToKw p3 (keywordEach [] X.env)).all (fun x => x.1.isSome)
      && decide ([e].length + ([] : List Keyword).length + (if ([] : List Keyword).isEmpty then 0 else 1) < 30)) = true := by rfl)
    (hline : (p2.endLine == p3.line) = true := by rfl) (hs : starEach [e] X.env = (false, eval e X.env) :: starEach [] X.env := by rfl) (hplain : (backTo p3 (starEach [] X.env)).any (·.1) = false := by rfl)
    (hsw : swapsWith (.Call (.Attribute (.Name x p1) "extend" p2) [e] [] p3) none pos.line X.env = pure false := by rfl) :
    SS X C (.Expr (.Call (.Attribute (.Name x p1) "extend" p2) [e] [] p3) pos :: rest) nx T r :=
  SS.of (pss_cons (ps_expr (pe_bm PySem.F.plainAttrs_list PySem.F.slot_list_extend PySem.F.type_list_extend mt_extT (pe_var hN hx hd hcd) (pa_cons pe_te pa_nil hs) hbase hfew hline hs hplain) hsw) pss_tss) fun W H0 ow σ H D hh f => by
    obtain ⟨⟨l, o⟩, e1, e2, e3, pl, us, e4, pr⟩ := own_at hh hv hO
    have e4 : o = .lst us := e4
    subst e4
    refine ⟨_, e2, .inl ⟨rfl, us, sqL_of (rd_l e3)⟩, he.te hh.I hh.E fun w H1 y ee py ry => ?_⟩
    subst py
    have h1 := hh.mono ee
    obtain ⟨⟨l', o'⟩, e1', e2', e3', pl', us', e4', pr'⟩ := own_at h1 hv hO
    rw [e1] at e1'
    cases e1'
    cases e4'
    obtain ⟨lt, ws, rfl, n, hdT, prT⟩ := ry
    refine ⟨l, lt, us, ws, rfl, rfl, e3', sqT_of hdT, by rw [pr'.length, prT.length]; exact hz, ?_⟩
    obtain ⟨h2, ag⟩ := h1.wrO (o' := .lst (us ++ ws)) (os := .lst R (xs ++ y)) e1 fun ow' ag => ⟨pl, us ++ ws, rfl, Paired.app (Paired.mp pr' fun _ _ q => pl.pl ag q) (Paired.mp prT fun _ _ q => pl.pl ag q)⟩
    exact kk.tss h2 (f.step (ee.agrX.trans ag))
/-- xs.extend([..]) -/
theorem sq_extL (v : Nat) {x : Str} {k : Nat} {xs : List α} {pz : List α → Prop} (he : EN X C.E e R pz) (hv : C.Γ[v]? = some (.own k)) (hO : C.O[k]? = some (.lst R xs)) (hz : ∀ zs, pz zs → xs.length + zs.length ≤ sizeLine) (kk : ∀ zs, pz zs → SS X ⟨C.Γ, C.O.set k (.lst R (xs ++ zs))⟩ rest nx T r)
    (hN : X.N[v]? = some x := by rfl) (hx : Vis X.env.scope x := by first | exact Or.inl rfl | exact Or.inr (Or.inl rfl) | exact Or.inr (Or.inr rfl))
    (hd : (x == ("__debug__" : Str)) = false := by decide) (hcd : (x == ("__classdict__" : Str)) = false := by decide)
    (hbase : attributeBase (.Name x p1) "extend" X.env (eval (.Name x p1) X.env) = eval (.Name x p1) X.env := by rfl)
    (hfew : ((backTo p3 (starEach [e] X.env)).all (fun x => !x.1) && (backToKw p3 (keywordEach [] X.env)).all (fun x => x.1.isSome)
      && decide ([e].length + ([] : List Keyword).length + (if ([] : List Keyword).isEmpty then 0 else 1) < 30)) = true := by rfl)
    (hline : (p2.endLine == p3.line) = true := by rfl) (hs : starEach [e] X.env = (false, eval e X.env) :: starEach [] X.env := by rfl) (hplain : (backTo p3 (starEach [] X.env)).any (·.1) = false := by rfl)
    (hsw : swapsWith (.Call (.Attribute (.Name x p1) "extend" p2) [e] [] p3) none pos.line X.env = pure false := by rfl) :
    SS X C (.Expr (.Call (.Attribute (.Name x p1) "extend" p2) [e] [] p3) pos :: rest) nx T r :=
  SS.of (pss_cons (ps_expr (pe_bm PySem.F.plainAttrs_list PySem.F.slot_list_extend PySem.F.type_list_extend mt_extend (pe_var hN hx hd hcd) (pa_cons pe_te pa_nil hs) hbase hfew hline hs hplain) hsw) pss_tss) fun W H0 ow σ H D hh f => by
    obtain ⟨⟨l, o⟩, e1, e2, e3, pl, us, e4, pr⟩ := own_at hh hv hO
    have e4 : o = .lst us := e4
    subst e4
    refine ⟨_, e2, .inl ⟨rfl, us, sqL_of (rd_l e3)⟩, fun pins s I => he _ σ H pins s _ hh.I hh.E I fun lz H1 ws zs hlz ee hdz pzs prz => ?_⟩
    have h1 := hh.mono ee
    obtain ⟨⟨l', o'⟩, e1', e2', e3', pl', us', e4', pr'⟩ := own_at h1 hv hO
    rw [e1] at e1'
    cases e1'
    cases e4'
    refine ⟨l, lz, us, ws, rfl, rfl, e3', hdz, by rw [pr'.length, prz.length]; exact hz zs pzs, ?_⟩
    obtain ⟨h2, ag⟩ := h1.wrO (o' := .lst (us ++ ws)) (os := .lst R (xs ++ zs)) e1 fun ow' ag => ⟨pl, us ++ ws, rfl, Paired.app (Paired.mp pr' fun _ _ q => pl.pl ag q) (Paired.mp prz fun _ _ q => pl.pl (Agr.out.trans ag) q)⟩
    exact (kk zs pzs).tss h2 (f.step (ee.agrX.trans ag))
end
/-! ### the net -/
abbrev Tab := List (Str × Option Str)
abbrev Tabs := List (Str × (Tab × Tab))
abbrev rTab : RepT Tab := rD rO
abbrev rTabs : RepT Tabs := rD (rP rTab rTab)
structure NetD where
  tabs : Tabs
  goals : List Str
  nodes : List Str
  sources : List Str
  posts : List Str
  changing : List Str
def FldR {α : Type} (W : Wd) (H : Hp) (fs : List (Str × V)) (f : Str) (R : RepT α) (x : α) : Prop := ∃ v, fs.lookup f = some v ∧ R.r W H v x
def NetR (W : Wd) (H : Hp) (fs : List (Str × V)) (n : NetD) : Prop :=
  FldR W H fs "own_tables" rTabs n.tabs ∧ FldR W H fs "own_goals" (rT rS) n.goals ∧ FldR W H fs "own_nodes" (rT rS) n.nodes ∧ FldR W H fs "own_sources" (rT rS) n.sources ∧ FldR W H fs "own_posts" (rT rS) n.posts ∧ FldR W H fs "own_changing" (rT rS) n.changing
theorem FldR.pl {α : Type} {R : RepT α} [Plain R] {W1 W2 : Wd} {H1 H2 : Hp} {fs : List (Str × V)} {f : Str} {x : α} (ag : Agr W1 H1 W2 H2) (h : FldR W1 H1 fs f R x) : FldR W2 H2 fs f R x := let ⟨v, e, r⟩ := h; ⟨v, e, Plain.pl ag r⟩
theorem NetR.pl {W1 W2 : Wd} {H1 H2 : Hp} {fs : List (Str × V)} {n : NetD} (ag : Agr W1 H1 W2 H2) (h : NetR W1 H1 fs n) : NetR W2 H2 fs n :=
  let ⟨a, b, c, d, e, f⟩ := h; ⟨a.pl ag, b.pl ag, c.pl ag, d.pl ag, e.pl ag, f.pl ag⟩
def rNet (Cn : Addr) : RepT NetD := RepT.ofPl (fun W H v n => ∃ a dx fs, v = .ref a ∧ ¬ W.M a ∧ rd H a = some (.ins Cn dx fs) ∧ NetR W H fs n)
  fun {_ _ _ _ _ _} ag ⟨a, dx, fs, e, n, h, p⟩ => let ⟨n2, h2⟩ := ag a _ h n; ⟨a, dx, fs, e, n2, h2, p.pl ag⟩
instance {Cn : Addr} : Plain (rNet Cn) := ⟨fun {_ _ _ _ _ _} ag ⟨a, dx, fs, e, n, h, p⟩ => let ⟨n2, h2⟩ := ag a _ h n; ⟨a, dx, fs, e, n2, h2, p.pl ag⟩⟩
section
variable {X : Cx} {Γ : ECtx} {e a b : Expr} {α β : Type} {R : RepT α} {pos pp p1 p2 : Pos} {Cn : Addr} {n : NetD}
theorem dv_fldG {RN : RepT β} {y : β} {x : α} {f : Str} (hsel : ∀ (W : Wd) H v, W.I H → RN.r W H v y → ∃ a dx fs, v = .ref a ∧ H a = some (.ins Cn dx fs) ∧ FldR W H fs f R x) (hc : Cls X.K Cn) (hn : NoAttr X.K Cn f) (ha : EV X Γ e RN y)
    (hb : attributeBase e f X.env (eval e X.env) = eval e X.env := by rfl) : EV X Γ (.Attribute e f pos) R x :=
  EE.of (pe_fld pe_te hb) fun W σ H Q hi hh k => ha.te hi hh fun u H1 z e1 pz rz => by
    subst pz
    obtain ⟨a, dx, fs, ev, hd, v, hl, rv⟩ := hsel W H1 u e1.inv rz
    exact ⟨a, Cn, dx, fs, v, ev, hd, hc, hn, hl, k v H1 x e1 rfl rv⟩
theorem net_at {W : Wd} {H : Hp} {v : V} (h : (rNet Cn).r W H v n) : ∃ a dx fs, v = .ref a ∧ H a = some (.ins Cn dx fs) ∧ NetR W H fs n := let ⟨a, dx, fs, e, _, hd, p⟩ := h; ⟨a, dx, fs, e, rd_ins hd, p⟩
theorem f_tables (hc : Cls X.K Cn) (hn : NoAttr X.K Cn "own_tables") (ha : EV X Γ e (rNet Cn) n) (hb : attributeBase e "own_tables" X.env (eval e X.env) = eval e X.env := by rfl) : EV X Γ (.Attribute e "own_tables" pos) rTabs n.tabs := dv_fldG (fun W H v _ r => let ⟨a, dx, fs, e, hd, p⟩ := net_at r; ⟨a, dx, fs, e, hd, p.1⟩) hc hn ha hb
theorem f_goals (hc : Cls X.K Cn) (hn : NoAttr X.K Cn "own_goals") (ha : EV X Γ e (rNet Cn) n) (hb : attributeBase e "own_goals" X.env (eval e X.env) = eval e X.env := by rfl) : EV X Γ (.Attribute e "own_goals" pos) (rT rS) n.goals := dv_fldG (fun W H v _ r => let ⟨a, dx, fs, e, hd, p⟩ := net_at r; ⟨a, dx, fs, e, hd, p.2.1⟩) hc hn ha hb
theorem f_nodes (hc : Cls X.K Cn) (hn : NoAttr X.K Cn "own_nodes") (ha : EV X Γ e (rNet Cn) n) (hb : attributeBase e "own_nodes" X.env (eval e X.env) = eval e X.env := by rfl) : EV X Γ (.Attribute e "own_nodes" pos) (rT rS) n.nodes := dv_fldG (fun W H v _ r => let ⟨a, dx, fs, e, hd, p⟩ := net_at r; ⟨a, dx, fs, e, hd, p.2.2.1⟩) hc hn ha hb
theorem f_changing (hc : Cls X.K Cn) (hn : NoAttr X.K Cn "own_changing") (ha : EV X Γ e (rNet Cn) n) (hb : attributeBase e "own_changing" X.env (eval e X.env) = eval e X.env := by rfl) : EV X Γ (.Attribute e "own_changing" pos) (rT rS) n.changing := dv_fldG (fun W H v _ r => let ⟨a, dx, fs, e, hd, p⟩ := net_at r; ⟨a, dx, fs, e, hd, p.2.2.2.2.2⟩) hc hn ha hb
end
end K62

end

section
set_option Elab.async false
set_option linter.all false
set_option maxRecDepth 100000
set_option maxHeartbeats 4000000
/-! comprehensions with one name -/
namespace K62
open PySem PySem.Spec PyProof.Rows L2
section
variable {X : Cx} {Γ : ECtx} {C : Ctx} {e a b c tg iter elt : Expr} {es ifs : List Expr} {rest : List Stmt} {α β γ δ : Type} {R : RepT α} {S : RepT β} {T : RepT γ} {U : RepT δ} {p : α → Prop} {q : β → Prop} {r : γ → Prop} {pos pp p1 p2 p3 p4 : Pos} {scope : Scope}
theorem paired_mapf {f : α → Bool} {g : α → β} {xs : List α} {ys : List β} (h : Paired (fun x y => y = g x) (xs.filter f) ys) : ys = (xs.filter f).map g := paired_map h
/-- [elt for x in iter if c] -/
theorem lc_if [Plain S] (i : Nat) {x : Str} {xp : Pos} {ps : List α → Prop} {f : α → Bool} {qe : α → β → Prop} (hc : X.calm = true) (hN : X.N.Nodup) (hi : ES X Γ (.Name x xp) iter R ps) (hz : ∀ xs, ps xs → xs.length < sizeLine)
    (ht : ∀ xs, ps xs → ∀ y ∈ xs, Blk X scope fun B => TV B ((wipeC Γ [i]).set i (some ⟨R, y⟩)) c (f y))
    (he : ∀ xs, ps xs → ∀ y ∈ xs, f y = true → Blk X scope fun B => EE B ((wipeC Γ [i]).set i (some ⟨R, y⟩)) elt S (qe y))
    (ok : blkC X.N X.env.scope scope [(x, i)] = true := by rfl) (hx : X.N[i]? = some x := by rfl) (hl : Blk X scope fun B => Loc B.env.scope x := by intro _ _ _ _ _; first | exact Or.inl rfl | exact Or.inr rfl) (hf : Blk X scope fun B => (B.fn x = true ∨ B.env.scope.names.lookup x = some .local) := by intro _ _ _ _ _; first | exact Or.inl rfl | exact Or.inr rfl) (hs : ∀ x, foldedSetIterable iter X.env x = pure x := by intro _; rfl) :
    EN X Γ (.ListComp elt [⟨.Name x xp, iter, [c], 0⟩] scope pos) S (fun ys => ∃ xs, ps xs ∧ Paired qe (xs.filter f) ys) :=
  en_lc (own := [(x, i)]) (ups := fun y => [(i, ⟨R, y⟩)]) (g := gName i) hc hN hi (blkOk_by ok) (fun s0 H0 Cc cl fp => pg_name hN hx (hl s0 H0 Cc cl fp) (hf s0 H0 Cc cl fp)) (fun y => g_name) (fun y u hu => by rw [List.mem_singleton.mp hu]; exact List.mem_singleton.mpr rfl) hz
    (fun xs px y hy => fun s0 H0 Cc cl fp => ets_one (ht xs px y hy s0 H0 Cc cl fp)) he hs
/-- [elt for x in iter] -/
theorem lc_all [Plain S] (i : Nat) {x : Str} {xp : Pos} {ps : List α → Prop} {qe : α → β → Prop} (hc : X.calm = true) (hN : X.N.Nodup) (hi : ES X Γ (.Name x xp) iter R ps) (hz : ∀ xs, ps xs → xs.length < sizeLine)
    (he : ∀ xs, ps xs → ∀ y ∈ xs, Blk X scope fun B => EE B ((wipeC Γ [i]).set i (some ⟨R, y⟩)) elt S (qe y))
    (ok : blkC X.N X.env.scope scope [(x, i)] = true := by rfl) (hx : X.N[i]? = some x := by rfl) (hl : Blk X scope fun B => Loc B.env.scope x := by intro _ _ _ _ _; first | exact Or.inl rfl | exact Or.inr rfl) (hf : Blk X scope fun B => (B.fn x = true ∨ B.env.scope.names.lookup x = some .local) := by intro _ _ _ _ _; first | exact Or.inl rfl | exact Or.inr rfl) (hs : ∀ x, foldedSetIterable iter X.env x = pure x := by intro _; rfl) :
    EN X Γ (.ListComp elt [⟨.Name x xp, iter, [], 0⟩] scope pos) S (fun ys => ∃ xs, ps xs ∧ Paired qe xs ys) :=
  (en_lc (own := [(x, i)]) (ups := fun y => [(i, ⟨R, y⟩)]) (g := gName i) (f := fun _ => true) hc hN hi (blkOk_by ok) (fun s0 H0 Cc cl fp => pg_name hN hx (hl s0 H0 Cc cl fp) (hf s0 H0 Cc cl fp)) (fun y => g_name) (fun y u hu => by rw [List.mem_singleton.mp hu]; exact List.mem_singleton.mpr rfl) hz
    (fun xs px y hy => fun s0 H0 Cc cl fp => ets_nil) (fun xs px y hy _ => he xs px y hy) hs).imp fun ys ⟨xs, px, h⟩ => ⟨xs, px, by rw [List.filter_eq_self.mpr (fun _ _ => rfl)] at h; exact h⟩
/-- .. told -/
theorem lc_map [Plain S] (i : Nat) {x : Str} {xp : Pos} {xs : List α} {g : α → β} (hc : X.calm = true) (hN : X.N.Nodup) (hi : ES X Γ (.Name x xp) iter R (· = xs)) (hz : xs.length < sizeLine)
    (he : ∀ y ∈ xs, Blk X scope fun B => EV B ((wipeC Γ [i]).set i (some ⟨R, y⟩)) elt S (g y))
    (ok : blkC X.N X.env.scope scope [(x, i)] = true := by rfl) (hx : X.N[i]? = some x := by rfl) (hl : Blk X scope fun B => Loc B.env.scope x := by intro _ _ _ _ _; first | exact Or.inl rfl | exact Or.inr rfl) (hf : Blk X scope fun B => (B.fn x = true ∨ B.env.scope.names.lookup x = some .local) := by intro _ _ _ _ _; first | exact Or.inl rfl | exact Or.inr rfl) (hs : ∀ x, foldedSetIterable iter X.env x = pure x := by intro _; rfl) :
    EN X Γ (.ListComp elt [⟨.Name x xp, iter, [], 0⟩] scope pos) S (· = xs.map g) :=
  (lc_all i hc hN hi (fun ys e => by rw [e]; exact hz) (fun ys e y hy => he y (by rw [← e]; exact hy)) ok hx hl hf hs).imp fun ys ⟨zs, e, h⟩ => by rw [← e]; exact paired_map h
theorem lc_mapf [Plain S] (i : Nat) {x : Str} {xp : Pos} {xs : List α} {f : α → Bool} {g : α → β} (hc : X.calm = true) (hN : X.N.Nodup) (hi : ES X Γ (.Name x xp) iter R (· = xs)) (hz : xs.length < sizeLine)
    (ht : ∀ y ∈ xs, Blk X scope fun B => TV B ((wipeC Γ [i]).set i (some ⟨R, y⟩)) c (f y))
    (he : ∀ y ∈ xs, f y = true → Blk X scope fun B => EV B ((wipeC Γ [i]).set i (some ⟨R, y⟩)) elt S (g y))
    (ok : blkC X.N X.env.scope scope [(x, i)] = true := by rfl) (hx : X.N[i]? = some x := by rfl) (hl : Blk X scope fun B => Loc B.env.scope x := by intro _ _ _ _ _; first | exact Or.inl rfl | exact Or.inr rfl) (hf : Blk X scope fun B => (B.fn x = true ∨ B.env.scope.names.lookup x = some .local) := by intro _ _ _ _ _; first | exact Or.inl rfl | exact Or.inr rfl) (hs : ∀ x, foldedSetIterable iter X.env x = pure x := by intro _; rfl) :
    EN X Γ (.ListComp elt [⟨.Name x xp, iter, [c], 0⟩] scope pos) S (· = (xs.filter f).map g) :=
  (lc_if i hc hN hi (fun ys e => by rw [e]; exact hz) (fun ys e y hy => ht y (by rw [← e]; exact hy)) (fun ys e y hy => he y (by rw [← e]; exact hy)) ok hx hl hf hs).imp fun ys ⟨zs, e, h⟩ => by rw [← e]; exact paired_map h
/-- over the keys of a dict -/
theorem lc_keys [Plain S] [Plain R] (i : Nat) {x : Str} {xp : Pos} {d : List (Str × α)} {g : Str → β} (hc : X.calm = true) (hN : X.N.Nodup) (hp : EP1 X Γ iter (rD R) d) (hz : d.length < sizeLine)
    (he : ∀ y ∈ d.map (·.1), Blk X scope fun B => EV B ((wipeC Γ [i]).set i (some ⟨rS, y⟩)) elt S (g y))
    (ok : blkC X.N X.env.scope scope [(x, i)] = true := by rfl) (hx : X.N[i]? = some x := by rfl) (hl : Blk X scope fun B => Loc B.env.scope x := by intro _ _ _ _ _; first | exact Or.inl rfl | exact Or.inr rfl) (hf : Blk X scope fun B => (B.fn x = true ∨ B.env.scope.names.lookup x = some .local) := by intro _ _ _ _ _; first | exact Or.inl rfl | exact Or.inr rfl) (hs : ∀ x, foldedSetIterable iter X.env x = pure x := by intro _; rfl) :
    EN X Γ (.ListComp elt [⟨.Name x xp, iter, [], 0⟩] scope pos) S (· = (d.map (·.1)).map g) :=
  (en_lcK (own := [(x, i)]) (ups := fun y => [(i, ⟨rS, y⟩)]) (g := gName i) (f := fun _ => true) hc hN hp (blkOk_by ok) (fun s0 H0 Cc cl fp => pg_name hN hx (hl s0 H0 Cc cl fp) (hf s0 H0 Cc cl fp)) (fun y => g_name) (fun y u hu => by rw [List.mem_singleton.mp hu]; exact List.mem_singleton.mpr rfl) hz
    (fun y hy => fun s0 H0 Cc cl fp => ets_nil) (fun y hy _ => he y hy) hs).imp fun ys h => by rw [List.filter_eq_self.mpr (fun _ _ => rfl)] at h; exact paired_map h
/-- over its values -/
theorem lc_vals [Plain S] [Plain R] (i : Nat) {x : Str} {xp apos cpos : Pos} {d : List (Str × α)} {g : α → β} (hc : X.calm = true) (hN : X.N.Nodup) (hp : EP1 X Γ iter (rD R) d) (hz : d.length < sizeLine)
    (he : ∀ y ∈ d.map (·.2), Blk X scope fun B => EV B ((wipeC Γ [i]).set i (some ⟨R, y⟩)) elt S (g y))
    (ok : blkC X.N X.env.scope scope [(x, i)] = true := by rfl) (hx : X.N[i]? = some x := by rfl) (hl : Blk X scope fun B => Loc B.env.scope x := by intro _ _ _ _ _; first | exact Or.inl rfl | exact Or.inr rfl) (hf : Blk X scope fun B => (B.fn x = true ∨ B.env.scope.names.lookup x = some .local) := by intro _ _ _ _ _; first | exact Or.inl rfl | exact Or.inr rfl) (hbase : attributeBase iter "values" X.env (eval iter X.env) = eval iter X.env := by rfl) (hline : (apos.endLine == cpos.line) = true := by rfl)
    (hs : ∀ x, foldedSetIterable (.Call (.Attribute iter "values" apos) [] [] cpos) X.env x = pure x := by intro _; rfl) :
    EN X Γ (.ListComp elt [⟨.Name x xp, .Call (.Attribute iter "values" apos) [] [] cpos, [], 0⟩] scope pos) S (· = (d.map (·.2)).map g) :=
  (en_lcV (own := [(x, i)]) (ups := fun y => [(i, ⟨R, y⟩)]) (g := gName i) (f := fun _ => true) hc hN hp (blkOk_by ok) (fun s0 H0 Cc cl fp => pg_name hN hx (hl s0 H0 Cc cl fp) (hf s0 H0 Cc cl fp)) (fun y => g_name) (fun y u hu => by rw [List.mem_singleton.mp hu]; exact List.mem_singleton.mpr rfl) hz
    (fun y hy => fun s0 H0 Cc cl fp => ets_nil) (fun y hy _ => he y hy) hbase hline hs).imp fun ys h => by rw [List.filter_eq_self.mpr (fun _ _ => rfl)] at h; exact paired_map h
theorem gI {x : Str} {i : Int} (hm : ∃ t, X.mg x = some (.int i t)) (hg : Gl X x := by rfl) (hd : (x == ("__debug__" : Str)) = false := by decide) : EV X Γ (.Name x pos) rI i := ee_globI hg hm hd
theorem gS {x : Str} {i : Str} (hm : ∃ t, X.mg x = some (.str i t)) (hg : Gl X x := by rfl) (hd : (x == ("__debug__" : Str)) = false := by decide) : EV X Γ (.Name x pos) rS i := ee_globS hg hm hd
theorem et_or3 {pa pb pc pr : Bool → Prop} (h1 : ET X Γ a pa) (h2 : ET X Γ b pb) (h3 : ET X Γ c pc) (kf : ∀ x, pc x → pr x := by intro x h; exact h) (n1 : ¬ pa true := by intro h; exact Bool.noConfusion h) (n2 : ¬ pb true := by intro h; exact Bool.noConfusion h) : ET X Γ (.BoolOp .Or [a, b, c] pos) pr :=
  ET.of (PW.pt (pw_or pt_tt (pw_or pt_tt (pw_or1 pt_tt)))) fun W σ H Q hi hh f => h1.tt hi hh fun v H1 e1 px => by
    cases v with
    | true => exact absurd px n1
    | false =>
      show tOr (tt X b) (tt X c) σ H1 Q
      refine h2.tt e1.inv (hh.mono e1) fun v H2 e2 py => ?_
      cases v with
      | true => exact absurd py n2
      | false =>
        show tt X c σ H2 Q
        exact h3.tt e2.inv (hh.mono (e1.trans e2)) fun v H3 e3 pz => f v H3 ((e1.trans e2).trans e3) (kf v pz)
theorem et_or2 {pa pb pr : Bool → Prop} (h1 : ET X Γ a pa) (h2 : ET X Γ b pb) (kf : ∀ x, pb x → pr x := by intro x h; exact h) (n1 : ¬ pa true := by intro h; exact Bool.noConfusion h) : ET X Γ (.BoolOp .Or [a, b] pos) pr :=
  et_or h1 (fun _ => h2) (fun h => absurd h n1) (fun x _ h => kf x h)
end
theorem Room.u1 {k : Nat} {A : Around} (r : Room k A) : A.units + 1 < cLine := by have := r.units; omega
theorem Room.u16 {k : Nat} {A : Around} (r : Room k A) : A.units + 16 < cLine := by have := r.units; omega
theorem Room.u64 {k : Nat} {A : Around} (r : Room k A) : A.units + 64 < cLine := r.units
theorem Room.u65 {k : Nat} {A : Around} (r : Room k A) : A.units + 65 < cLine := by have := r.un; omega
end K62

end

section
set_option Elab.async false
set_option linter.all false
set_option maxRecDepth 100000
set_option maxHeartbeats 4000000
/-! comprehensions with two names; assignments of pairs -/
namespace K62
open PySem PySem.Spec PyProof.Rows L2
section
variable {X : Cx} {Γ : ECtx} {C : Ctx} {e a b c tg iter elt kx vx : Expr} {es ifs : List Expr} {rest : List Stmt} {α β γ δ : Type} {R : RepT α} {S : RepT β} {T : RepT γ} {U : RepT δ} {p : α → Prop} {q : β → Prop} {r : γ → Prop} {pos pp p1 p2 p3 p4 : Pos} {scope : Scope} {nx : Ctx → Prop}
abbrev pr2 (K : PySem.W.Frag) (i j : Nat) : TG := gTup K 2 (gCons (gName i) (gCons (gName j) gNil))
theorem pg_two {i j : Nat} {x y : Str} {kt : Nat} (hc : X.calm = true) (hN : X.N.Nodup) (hx : X.N[i]? = some x) (hy : X.N[j]? = some y) (lx : Loc X.env.scope x) (ly : Loc X.env.scope y) (fx : X.fn x = true ∨ X.env.scope.names.lookup x = some .local) (fy : X.fn y = true ∨ X.env.scope.names.lookup y = some .local) :
    PG X (.Tuple [.Name x p1, .Name y p2] kt pos) (pr2 X.K i j) := pg_tup hc (pgs_cons (pg_name hN hx lx fx) (pgs_cons (pg_name hN hy ly fy) pgs_nil))
/-- [elt for x, y in iter if c] -/
theorem lp_if [Plain R] [Plain S] [Plain T] (i j : Nat) {x y : Str} {xp yp tp : Pos} {kt : Nat} {ps : List (α × β) → Prop} {f : α × β → Bool} {qe : α × β → γ → Prop} (hc : X.calm = true) (hN : X.N.Nodup) (hi : ES X Γ (.Tuple [.Name x xp, .Name y yp] kt tp) iter (rP R S) ps) (hz : ∀ xs, ps xs → xs.length < sizeLine)
    (ht : ∀ xs, ps xs → ∀ z ∈ xs, Blk X scope fun B => ETs B (((wipeC Γ [i, j]).set i (some ⟨R, z.1⟩)).set j (some ⟨S, z.2⟩)) ifs (f z))
    (he : ∀ xs, ps xs → ∀ z ∈ xs, f z = true → Blk X scope fun B => EE B (((wipeC Γ [i, j]).set i (some ⟨R, z.1⟩)).set j (some ⟨S, z.2⟩)) elt T (qe z))
    (ok : blkC X.N X.env.scope scope [(x, i), (y, j)] = true := by rfl) (hx : X.N[i]? = some x := by rfl) (hy : X.N[j]? = some y := by rfl) (lx : Blk X scope fun B => Loc B.env.scope x := by intro _ _ _ _ _; first | exact Or.inl rfl | exact Or.inr rfl) (ly : Blk X scope fun B => Loc B.env.scope y := by intro _ _ _ _ _; first | exact Or.inl rfl | exact Or.inr rfl)
    (fx : Blk X scope fun B => (B.fn x = true ∨ B.env.scope.names.lookup x = some .local) := by intro _ _ _ _ _; first | exact Or.inl rfl | exact Or.inr rfl) (fy : Blk X scope fun B => (B.fn y = true ∨ B.env.scope.names.lookup y = some .local) := by intro _ _ _ _ _; first | exact Or.inl rfl | exact Or.inr rfl)
    (hs : ∀ x, foldedSetIterable iter X.env x = pure x := by intro _; rfl) :
    EN X Γ (.ListComp elt [⟨.Tuple [.Name x xp, .Name y yp] kt tp, iter, ifs, 0⟩] scope pos) T (fun ys => ∃ xs, ps xs ∧ Paired qe (xs.filter f) ys) :=
  en_lc (own := [(x, i), (y, j)]) (ups := fun z : α × β => [(i, ⟨R, z.1⟩), (j, ⟨S, z.2⟩)]) (g := pr2 X.K i j) hc hN hi (blkOk_by ok) (fun s0 H0 Cc cl fp => pg_two hc hN hx hy (lx s0 H0 Cc cl fp) (ly s0 H0 Cc cl fp) (fx s0 H0 Cc cl fp) (fy s0 H0 Cc cl fp)) (fun z => g_pair)
    (fun z u hu => (List.mem_cons.mp hu).elim (fun e => by rw [e]; exact List.mem_cons_self) fun hu => by rw [List.mem_singleton.mp hu]; exact List.mem_cons_of_mem _ (List.mem_singleton.mpr rfl)) hz (fun xs px z hz => ht xs px z hz) (fun xs px z hz hf => he xs px z hz hf) hs
theorem lp_all [Plain R] [Plain S] [Plain T] (i j : Nat) {x y : Str} {xp yp tp : Pos} {kt : Nat} {ps : List (α × β) → Prop} {qe : α × β → γ → Prop} (hc : X.calm = true) (hN : X.N.Nodup) (hi : ES X Γ (.Tuple [.Name x xp, .Name y yp] kt tp) iter (rP R S) ps) (hz : ∀ xs, ps xs → xs.length < sizeLine)
    (he : ∀ xs, ps xs → ∀ z ∈ xs, Blk X scope fun B => EE B (((wipeC Γ [i, j]).set i (some ⟨R, z.1⟩)).set j (some ⟨S, z.2⟩)) elt T (qe z))
    (ok : blkC X.N X.env.scope scope [(x, i), (y, j)] = true := by rfl) (hx : X.N[i]? = some x := by rfl) (hy : X.N[j]? = some y := by rfl) (lx : Blk X scope fun B => Loc B.env.scope x := by intro _ _ _ _ _; first | exact Or.inl rfl | exact Or.inr rfl) (ly : Blk X scope fun B => Loc B.env.scope y := by intro _ _ _ _ _; first | exact Or.inl rfl | exact Or.inr rfl)
    (fx : Blk X scope fun B => (B.fn x = true ∨ B.env.scope.names.lookup x = some .local) := by intro _ _ _ _ _; first | exact Or.inl rfl | exact Or.inr rfl) (fy : Blk X scope fun B => (B.fn y = true ∨ B.env.scope.names.lookup y = some .local) := by intro _ _ _ _ _; first | exact Or.inl rfl | exact Or.inr rfl)
    (hs : ∀ x, foldedSetIterable iter X.env x = pure x := by intro _; rfl) :
    EN X Γ (.ListComp elt [⟨.Tuple [.Name x xp, .Name y yp] kt tp, iter, [], 0⟩] scope pos) T (fun ys => ∃ xs, ps xs ∧ Paired qe xs ys) :=
  (lp_if i j (f := fun _ => true) hc hN hi hz (fun xs px z hz => fun s0 H0 Cc cl fp => ets_nil) (fun xs px z hz _ => he xs px z hz) ok hx hy lx ly fx fy hs).imp fun ys ⟨xs, px, h⟩ => ⟨xs, px, by rw [List.filter_eq_self.mpr (fun _ _ => rfl)] at h; exact h⟩
/-- a, b = x, y with plain local names -/
theorem sq_par (i j : Nat) {x y : Str} {px py pt : Pos} {kt k2 : Nat} {pt2 : Pos} [Plain R] [Plain S] {u : α} {v : β} (hc : X.calm = true) (hN : X.N.Nodup) (ha : EV X C.E a R u) (hb : EV X C.E b S v) (k : SS X ((C.put i ⟨R, u⟩).put j ⟨S, v⟩) rest nx T r) (hij : i ≠ j := by decide) (hi : X.N[i]? = some x := by rfl) (hj : X.N[j]? = some y := by rfl)
    (hx : X.env.scope.names.lookup x = some .local := by rfl) (hy : X.env.scope.names.lookup y = some .local := by rfl) (na : NS X a := by intro _; rfl) (nb : NS X b := by intro _; rfl)
    (hw : swappedStores [.Tuple [.Name x px, .Name y py] kt pt] (.Tuple [a, b] k2 pt2) X.env = pure (some [x, y]) := by rfl)
    (hs : swapsWithSole [.Tuple [.Name x px, .Name y py] kt pt] (.Tuple [a, b] k2 pt2) pos.line X.env = pure false := by rfl) :
    SS X C (.Assign [.Tuple [.Name x px, .Name y py] kt pt] (.Tuple [a, b] k2 pt2) pos :: rest) nx T r :=
  SS.of (pss_cons (ps_par hc hN hi hj hij hx hy (pa_cons pe_te (pa_cons pe_te pa_nil (nb _)) (na _)) hw hs) pss_tss) fun W H0 ow σ H D hh f => ha.te hh.I hh.E fun z H1 y1 e1 p1 r1 => hb.te e1.inv (hh.E.mono e1) fun z2 H2 y2 e2 p2 r2 => by
    subst p1 p2
    refine ⟨z, z2, rfl, ?_⟩
    have h1 := hh.mono (e1.trans e2)
    exact k.tss ((h1.put (g := ⟨R, y1⟩) ‹_› (R.mono e2 r1)).put (g := ⟨S, y2⟩) ‹_› r2) (f.step (e1.trans e2).agrX)
/-- a, b = a pair (names captured or not) -/
theorem sq_two (i j : Nat) {x y : Str} {px py pt : Pos} {kt : Nat} [Plain R] [Plain S] {ph : α × β → Prop} (hc : X.calm = true) (hN : X.N.Nodup) (he : EE X C.E e (rP R S) ph) (k : ∀ z, ph z → SS X ((C.put i ⟨R, z.1⟩).put j ⟨S, z.2⟩) rest nx T r) (hi : X.N[i]? = some x := by rfl) (hj : X.N[j]? = some y := by rfl)
    (lx : Loc X.env.scope x := by first | exact Or.inl rfl | exact Or.inr rfl) (ly : Loc X.env.scope y := by first | exact Or.inl rfl | exact Or.inr rfl) (fx : X.fn x = true ∨ X.env.scope.names.lookup x = some .local := by first | exact Or.inl rfl | exact Or.inr rfl) (fy : X.fn y = true ∨ X.env.scope.names.lookup y = some .local := by first | exact Or.inl rfl | exact Or.inr rfl)
    (hs : swapsWithSole [.Tuple [.Name x px, .Name y py] kt pt] e pos.line X.env = pure false := by rfl) (hw : swappedStores [.Tuple [.Name x px, .Name y py] kt pt] e X.env = pure none := by rfl)
    (h1 : (assignEach [.Tuple [.Name x px, .Name y py] kt pt] X.env).map (·.2) = [assign (.Tuple [.Name x px, .Name y py] kt pt) X.env] := by rfl) :
    SS X C (.Assign [.Tuple [.Name x px, .Name y py] kt pt] e pos :: rest) nx T r :=
  SS.of (pss_cons (ps_asg pe_te (pg_two hc hN hi hj lx ly fx fy) hs hw h1) pss_tss) fun W H0 ow σ H D hh f => he.te hh.I hh.E fun z H1 y1 e1 p1 r1 => by
    obtain ⟨l, u1, u2, e, n, hd, ra, rb⟩ := r1
    refine ⟨l, _, e, sqT_of hd, rfl, u1, [u2], rfl, u2, [], rfl, rfl, ?_⟩
    exact (k y1 p1).tss (((hh.mono e1).put (g := ⟨R, y1.1⟩) ‹_› ra).put (g := ⟨S, y1.2⟩) ‹_› rb) (f.step e1.agrX)
/-- a, b, c = a triple -/
theorem sq_trip (i j l : Nat) {x y z : Str} {px py pz pt : Pos} {kt : Nat} [Plain R] [Plain S] [Plain U] {w : α × β × δ} (hc : X.calm = true) (hN : X.N.Nodup) (he : EV X C.E e (rQ R S U) w) (k : SS X (((C.put i ⟨R, w.1⟩).put j ⟨S, w.2.1⟩).put l ⟨U, w.2.2⟩) rest nx T r) (hi : X.N[i]? = some x := by rfl) (hj : X.N[j]? = some y := by rfl) (hl : X.N[l]? = some z := by rfl)
    (lx : Loc X.env.scope x := by first | exact Or.inl rfl | exact Or.inr rfl) (ly : Loc X.env.scope y := by first | exact Or.inl rfl | exact Or.inr rfl) (lz : Loc X.env.scope z := by first | exact Or.inl rfl | exact Or.inr rfl) (fx : X.fn x = true ∨ X.env.scope.names.lookup x = some .local := by first | exact Or.inl rfl | exact Or.inr rfl) (fy : X.fn y = true ∨ X.env.scope.names.lookup y = some .local := by first | exact Or.inl rfl | exact Or.inr rfl) (fz : X.fn z = true ∨ X.env.scope.names.lookup z = some .local := by first | exact Or.inl rfl | exact Or.inr rfl)
    (hs : swapsWithSole [.Tuple [.Name x px, .Name y py, .Name z pz] kt pt] e pos.line X.env = pure false := by rfl) (hw : swappedStores [.Tuple [.Name x px, .Name y py, .Name z pz] kt pt] e X.env = pure none := by rfl)
    (h1 : (assignEach [.Tuple [.Name x px, .Name y py, .Name z pz] kt pt] X.env).map (·.2) = [assign (.Tuple [.Name x px, .Name y py, .Name z pz] kt pt) X.env] := by rfl) :
    SS X C (.Assign [.Tuple [.Name x px, .Name y py, .Name z pz] kt pt] e pos :: rest) nx T r :=
  SS.of (pss_cons (ps_asg pe_te (pg_tup hc (pgs_cons (pg_name hN hi lx fx) (pgs_cons (pg_name hN hj ly fy) (pgs_cons (pg_name hN hl lz fz) pgs_nil)))) hs hw h1) pss_tss) fun W H0 ow σ H D hh f => he.te hh.I hh.E fun z H1 y1 e1 p1 r1 => by
    subst p1
    obtain ⟨a, u1, u2, u3, e, n, hd, ra, rb, rc⟩ := r1
    refine ⟨a, _, e, sqT_of hd, rfl, u1, [u2, u3], rfl, u2, [u3], rfl, u3, [], rfl, rfl, ?_⟩
    exact k.tss ((((hh.mono e1).put (g := ⟨R, _⟩) ‹_› ra).put (g := ⟨S, _⟩) ‹_› rb).put (g := ⟨U, _⟩) ‹_› rc) (f.step e1.agrX)
/-- for x in iter -/
theorem sq_for1 {iter : Expr} {body : List Stmt} {x : Str} {xp : Pos} {pl : List α → Prop} {inv : List α → Nat → Ctx → Prop} (i : Nat) [Plain R] (hc : X.calm = true) (hp : PassesOwn (model X.prog X.w) X.A X.env X.xe) (hN : X.N.Nodup) (hi : ES X C.E (.Name x xp) iter R pl)
    (start : ∀ xs, pl xs → inv xs 0 C) (hb : ∀ xs (j : Nat) y C', pl xs → xs[j]? = some y → inv xs j C' → SS X (C'.put i ⟨R, y⟩) body (fun C2 => ∃ C3, inv xs (j + 1) C3 ∧ Weak C2 C3) T r)
    (k : ∀ xs C', pl xs → inv xs xs.length C' → SS X C' rest nx T r) (hx : X.N[i]? = some x := by rfl) (hl : Loc X.env.scope x := by first | exact Or.inl rfl | exact Or.inr rfl) (hf : X.fn x = true ∨ X.env.scope.names.lookup x = some .local := by first | exact Or.inl rfl | exact Or.inr rfl)
    (hs : ∀ x, foldedSetIterable iter X.env x = pure x := by intro _; rfl) : SS X C (.For (.Name x xp) iter body [] pos :: rest) nx T r :=
  sq_for (g := gName i) (ups := fun y => [(i, ⟨R, y⟩)]) hc hp hi (pg_name hN hx hl hf) (fun y => g_name) (fun y u hu => by rw [List.mem_singleton.mp hu]; exact ‹Plain R›) start hb k hs
/-- for x, y in iter -/
theorem sq_for2 {iter : Expr} {body : List Stmt} {x y : Str} {xp yp tp : Pos} {kt : Nat} {pl : List (α × β) → Prop} {inv : List (α × β) → Nat → Ctx → Prop} (i j : Nat) [Plain R] [Plain S] (hc : X.calm = true) (hp : PassesOwn (model X.prog X.w) X.A X.env X.xe) (hN : X.N.Nodup) (hi : ES X C.E (.Tuple [.Name x xp, .Name y yp] kt tp) iter (rP R S) pl)
    (start : ∀ xs, pl xs → inv xs 0 C) (hb : ∀ xs (m : Nat) z C', pl xs → xs[m]? = some z → inv xs m C' → SS X ((C'.put i ⟨R, z.1⟩).put j ⟨S, z.2⟩) body (fun C2 => ∃ C3, inv xs (m + 1) C3 ∧ Weak C2 C3) T r)
    (k : ∀ xs C', pl xs → inv xs xs.length C' → SS X C' rest nx T r) (hx : X.N[i]? = some x := by rfl) (hy : X.N[j]? = some y := by rfl) (lx : Loc X.env.scope x := by first | exact Or.inl rfl | exact Or.inr rfl) (ly : Loc X.env.scope y := by first | exact Or.inl rfl | exact Or.inr rfl)
    (fx : X.fn x = true ∨ X.env.scope.names.lookup x = some .local := by first | exact Or.inl rfl | exact Or.inr rfl) (fy : X.fn y = true ∨ X.env.scope.names.lookup y = some .local := by first | exact Or.inl rfl | exact Or.inr rfl)
    (hs : ∀ x, foldedSetIterable iter X.env x = pure x := by intro _; rfl) : SS X C (.For (.Tuple [.Name x xp, .Name y yp] kt tp) iter body [] pos :: rest) nx T r :=
  sq_for (g := pr2 X.K i j) (ups := fun z : α × β => [(i, ⟨R, z.1⟩), (j, ⟨S, z.2⟩)]) hc hp hi (pg_two hc hN hx hy lx ly fx fy) (fun z => g_pair) (fun z u hu => (List.mem_cons.mp hu).elim (fun e => by rw [e]; exact ‹Plain R›) fun hu => by rw [List.mem_singleton.mp hu]; exact ‹Plain S›) start hb k hs
theorem ES.imp' {tg iter : Expr} {ps ps' : List α → Prop} (h : ES X Γ tg iter R ps) (k : ∀ xs, ps xs → ps' xs) : ES X Γ tg iter R ps' := fun W σ H pins s Q hi hh I f => h W σ H pins s Q hi hh I fun J H1 xs e px wk => f J H1 xs e (k xs px) wk
end
end K62

end

section
set_option Elab.async false
set_option linter.all false
set_option maxRecDepth 100000
set_option maxHeartbeats 4000000
namespace K62
open PySem PySem.Spec PyProof.Rows L2
section
variable {X : Cx} {Γ : ECtx} {a b c e tg : Expr} {α β : Type} {R : RepT α} {pos pp : Pos}
theorem dv_neg {x : Int} (ha : EV X Γ a rI x) : EV X Γ (.UnaryOp .USub a pos) rI (-x) := EE.of (pe_un un_neg pe_te) fun W σ H Q hi hh f => ha.te hi hh fun u H1 y e1 py ry => ⟨y, ry, f _ H1 (-y) e1 (by rw [py]) rfl⟩
theorem atI_last {xs : List α} {d : α} (h : 0 < xs.length) : atI xs (-1) = some (xs.getLastD d) := by
  unfold atI ixN
  rw [if_neg (by omega), if_pos (by omega)]
  show xs[((-1 : Int) + xs.length).toNat]? = _
  have e : ((-1 : Int) + xs.length).toNat = xs.length - 1 := by omega
  rw [e]
  cases xs with
  | nil => simp at h
  | cons a l =>
    rw [← List.getLast?_eq_getElem?]
    simp [List.getLast?_cons]
/-- range(z, -1, -1): down -/
theorem es_down2 {z : Int} (ha : EV X Γ a rI z) (hb : EV X Γ b rI (-1)) (hc : EV X Γ c rI (-1)) (hz : z < 2 ^ 60) (hz2 : -(2 ^ 60) < z) (hm : X.mg "range" = none) (hg : Gl X "range" := by rfl) (na : NS X a := by intro _; rfl) (nb : NS X b := by intro _; rfl) (nc : NS X c := by intro _; rfl)
    (hpl : (backTo pos (starEach [b, c] X.env)).any (·.1) = false := by rfl) : ES X Γ tg (.Call (.Name "range" pp) [a, b, c] [] pos) rNat (fun xs => xs = (List.range (z + 1).toNat).reverse) :=
  ES.of (pi_range3 hg hm (pa_cons pe_te (pa_cons pe_te (pa_cons pe_te pa_nil (nc _)) (nb _)) (na _)) (na _) hpl) fun W σ H Q hi hh f => ha.te hi hh fun u H1 y e1 px r => hb.te e1.inv (hh.mono e1) fun v H2 y2 e2 py r2 => hc.te e2.inv (hh.mono (e1.trans e2)) fun w H3 t e3 pt r3 => by
    subst px py pt
    refine ⟨_, _, _, (y - (-1)).toNat, by cases r; cases r2; cases r3; rfl, RgC.neg (by omega) (by omega) (by omega) (by omega), f _ H3 _ ((e1.trans e2).trans e3) rfl fun W2 H2 ag hi i => ?_⟩
    have en : (y - (-1)).toNat = (y + 1).toNat := by omega
    rw [en]
    refine ⟨fun x h => ?_, fun h => ?_⟩
    · have hlt := (List.getElem?_eq_some_iff.mp h).1
      simp at hlt
      have hlt' : i < (y + 1).toNat := by omega
      refine ⟨hlt', fun v H' ⟨e, hv⟩ => ?_⟩
      subst e hv
      refine ⟨Ext.refl hi, ?_⟩
      rw [List.getElem?_reverse (by simpa using hlt')] at h
      have h2 := (List.getElem?_eq_some_iff.mp h).2
      simp at h2
      show V.int _ = V.int _
      congr 1
      omega
    · have := List.getElem?_eq_none_iff.mp h
      show (y + 1).toNat ≤ i
      simpa using this
class NotNon (R : RepT α) : Prop where
  nn : ∀ (W : Wd) H v x, R.r W H v x → v ≠ .non
instance [Plain R] : NotNon (rL R) := ⟨fun W H v x ⟨l, us, e, _⟩ => by rw [e]; intro z; cases z⟩
instance {S : RepT β} [Plain R] [Plain S] : NotNon (rP R S) := ⟨fun W H v x ⟨l, u1, u2, e, _⟩ => by rw [e]; intro z; cases z⟩
theorem EE.someU [Plain R] [NotNon R] {p : α → Prop} {q : Option α → Prop} (h : EE X Γ e R p) (k : ∀ x, p x → q (some x)) : EE X Γ e (rU R) q := h.as _ _ fun W H v x _ px r => ⟨some x, k x px, NotNon.nn W H v x r, r⟩
theorem EE.noneU [Plain R] {q : Option α → Prop} {j} (h : q none) : EE X Γ (.Constant .none j pos) (rU R) q := ee_non.as _ _ fun W H v x _ px r => ⟨none, h, r⟩
/-- what is not None -/
theorem EE.getU [Plain R] {p : Option α → Prop} {q : α → Prop} (h : EE X Γ e (rU R) p) (hn : ¬ p none) (k : ∀ x, p (some x) → q x) : EE X Γ e R q := h.as _ _ fun W H v x _ px r => match x, px, r with
  | none, px, _ => absurd px hn
  | some x, px, r => ⟨x, k x px, r.2⟩
/-- [x for x in iter if c] -/
theorem lc_filt {elt iter : Expr} {scope : Scope} [Plain R] (i : Nat) {x : Str} {xp : Pos} {xs : List α} {f : α → Bool} (hc : X.calm = true) (hN : X.N.Nodup) (hi : ES X Γ (.Name x xp) iter R (· = xs)) (hz : xs.length < sizeLine)
    (ht : ∀ y ∈ xs, Blk X scope fun B => TV B ((wipeC Γ [i]).set i (some ⟨R, y⟩)) c (f y))
    (he : ∀ y ∈ xs, Blk X scope fun B => EV B ((wipeC Γ [i]).set i (some ⟨R, y⟩)) elt R y)
    (ok : blkC X.N X.env.scope scope [(x, i)] = true := by rfl) (hx : X.N[i]? = some x := by rfl) (hl : Blk X scope fun B => Loc B.env.scope x := by intro _ _ _ _ _; first | exact Or.inl rfl | exact Or.inr rfl) (hf : Blk X scope fun B => (B.fn x = true ∨ B.env.scope.names.lookup x = some .local) := by intro _ _ _ _ _; first | exact Or.inl rfl | exact Or.inr rfl) (hs : ∀ x, foldedSetIterable iter X.env x = pure x := by intro _; rfl) :
    EN X Γ (.ListComp elt [⟨.Name x xp, iter, [c], 0⟩] scope pos) R (· = xs.filter f) :=
  (lc_mapf i (g := fun y => y) hc hN hi hz ht (fun y hy _ => he y hy) ok hx hl hf hs).imp fun ys e => by rw [e]; simp
end
section
variable {X : Cx} {C : Ctx} {elt iter c : Expr} {ifs : List Expr} {rest : List Stmt} {α β γ : Type} {R : RepT α} {S : RepT β} {T : RepT γ} {r : γ → Prop} {pos spos py : Pos} {nx : Ctx → Prop} {scope : Scope}
/-- name = [elt for x in iter if ..], a value -/
theorem sq_lcV [Plain S] (v i : Nat) {y x : Str} {xp : Pos} {ps : List α → Prop} {f : α → Bool} {qe : α → β → Prop} (hc : X.calm = true) (hN : X.N.Nodup) (hi : ES X C.E (.Name x xp) iter R ps) (hz : ∀ xs, ps xs → xs.length < sizeLine)
    (ht : ∀ xs, ps xs → ∀ z ∈ xs, Blk X scope fun B => ETs B ((wipeC C.E [i]).set i (some ⟨R, z⟩)) ifs (f z))
    (he : ∀ xs, ps xs → ∀ z ∈ xs, f z = true → Blk X scope fun B => EE B ((wipeC C.E [i]).set i (some ⟨R, z⟩)) elt S (qe z))
    (k : ∀ xs ys, ps xs → Paired qe (xs.filter f) ys → SS X (C.put v ⟨rL S, ys⟩) rest nx T r)
    (hy : X.N[v]? = some y := by rfl) (hyl : X.env.scope.names.lookup y = some .local := by rfl) (ok : blkC X.N X.env.scope scope [(x, i)] = true := by rfl) (hx : X.N[i]? = some x := by rfl) (hl : Blk X scope fun B => Loc B.env.scope x := by intro _ _ _ _ _; first | exact Or.inl rfl | exact Or.inr rfl) (hf : Blk X scope fun B => (B.fn x = true ∨ B.env.scope.names.lookup x = some .local) := by intro _ _ _ _ _; first | exact Or.inl rfl | exact Or.inr rfl)
    (hs : ∀ x, foldedSetIterable iter X.env x = pure x := by intro _; rfl) (hsw : swapsWith (.ListComp elt [⟨.Name x xp, iter, ifs, 0⟩] scope pos) (some (.Name y py)) spos.line X.env = pure true := by rfl) :
    SS X C (.Assign [.Name y py] (.ListComp elt [⟨.Name x xp, iter, ifs, 0⟩] scope pos) spos :: rest) nx T r := by
  refine SS.of (pss_cons (ps_setLc (own := [(x, i)]) (tt := ttB X scope ifs) (te := teB X scope elt) hc hN hy hyl hsw pi_ti (blkOk_by ok) (fun s0 H0 Cc cl fp => pg_name hN hx (hl s0 H0 Cc cl fp) (hf s0 H0 Cc cl fp)) (fun _ _ _ _ _ => pt_ttB) (fun _ _ _ _ _ => pe_teB) hs) pss_tss) fun W H0 ow σ H D hh f' => ?_
  refine hi.ti hh.I hh.E fun J Hs xs e1 px wk => ?_
  refine lc_go (Q := fun w H' => tss X rest D (σ.set v (some w)) H') (own := [(x, i)]) (ups := fun z => [(i, ⟨R, z⟩)]) (f := f) (qe := qe) (S := S) e1.inv (hh.E.mono e1) wk (fun z => g_name) (fun z u hu => by rw [List.mem_singleton.mp hu]; exact List.mem_singleton.mpr rfl) (hz xs px) (ht xs px) (he xs px) fun Dd H1 us ys hD eH hDl pq pS => ?_
  refine (k xs ys px pq).tss ((hh.mono (e1.trans eH)).put (g := ⟨rL S, ys⟩) inferInstance ⟨Dd, us, rfl, Wd.fresh e1.inv hD, rd_l hDl, prPl Agr.out pS⟩) (f'.step (e1.trans eH).agrX)
/-- .. a list of one's own -/
theorem sq_lcO [Plain S] (v i : Nat) {y x : Str} {xp : Pos} {ps : List α → Prop} {f : α → Bool} {qe : α → β → Prop} (hc : X.calm = true) (hN : X.N.Nodup) (hi : ES X C.E (.Name x xp) iter R ps) (hz : ∀ xs, ps xs → xs.length < sizeLine)
    (ht : ∀ xs, ps xs → ∀ z ∈ xs, Blk X scope fun B => ETs B ((wipeC C.E [i]).set i (some ⟨R, z⟩)) ifs (f z))
    (he : ∀ xs, ps xs → ∀ z ∈ xs, f z = true → Blk X scope fun B => EE B ((wipeC C.E [i]).set i (some ⟨R, z⟩)) elt S (qe z))
    (k : ∀ xs ys, ps xs → Paired qe (xs.filter f) ys → SS X ⟨C.Γ.set v (.own C.O.length), C.O ++ [.lst S ys]⟩ rest nx T r)
    (hy : X.N[v]? = some y := by rfl) (hyl : X.env.scope.names.lookup y = some .local := by rfl) (ok : blkC X.N X.env.scope scope [(x, i)] = true := by rfl) (hx : X.N[i]? = some x := by rfl) (hl : Blk X scope fun B => Loc B.env.scope x := by intro _ _ _ _ _; first | exact Or.inl rfl | exact Or.inr rfl) (hf : Blk X scope fun B => (B.fn x = true ∨ B.env.scope.names.lookup x = some .local) := by intro _ _ _ _ _; first | exact Or.inl rfl | exact Or.inr rfl)
    (hs : ∀ x, foldedSetIterable iter X.env x = pure x := by intro _; rfl) (hsw : swapsWith (.ListComp elt [⟨.Name x xp, iter, ifs, 0⟩] scope pos) (some (.Name y py)) spos.line X.env = pure true := by rfl) :
    SS X C (.Assign [.Name y py] (.ListComp elt [⟨.Name x xp, iter, ifs, 0⟩] scope pos) spos :: rest) nx T r := by
  refine SS.of (pss_cons (ps_setLc (own := [(x, i)]) (tt := ttB X scope ifs) (te := teB X scope elt) hc hN hy hyl hsw pi_ti (blkOk_by ok) (fun s0 H0 Cc cl fp => pg_name hN hx (hl s0 H0 Cc cl fp) (hf s0 H0 Cc cl fp)) (fun _ _ _ _ _ => pt_ttB) (fun _ _ _ _ _ => pe_teB) hs) pss_tss) fun W H0 ow σ H D hh f' => ?_
  refine hi.ti hh.I hh.E fun J Hs xs e1 px wk => ?_
  refine lc_go (Q := fun w H' => tss X rest D (σ.set v (some w)) H') (own := [(x, i)]) (ups := fun z => [(i, ⟨R, z⟩)]) (f := f) (qe := qe) (S := S) e1.inv (hh.E.mono e1) wk (fun z => g_name) (fun z u hu => by rw [List.mem_singleton.mp hu]; exact List.mem_singleton.mpr rfl) (hz xs px) (ht xs px) (he xs px) fun Dd H1 us ys hD eH hDl pq pS => ?_
  obtain ⟨h2, ag⟩ := hh.newO (os := .lst S ys) (e1.free Dd hD) (e1.trans eH) hDl ⟨‹_›, us, rfl, pS⟩
  refine (k xs ys px pq).tss (h2.setK (k := .own C.O.length) ⟨(Dd, .lst us), ?_, rfl⟩) (f'.step ag)
  have hl2 := hh.prO.length
  rw [← hl2]; simp
/-- name = [x for x in iter if c] -/
theorem sq_filt [Plain R] (v i : Nat) {y x : Str} {xp : Pos} {xs : List α} {f : α → Bool} (hc : X.calm = true) (hN : X.N.Nodup) (hi : ES X C.E (.Name x xp) iter R (· = xs)) (hz : xs.length < sizeLine)
    (ht : ∀ z ∈ xs, Blk X scope fun B => TV B ((wipeC C.E [i]).set i (some ⟨R, z⟩)) c (f z))
    (he : ∀ z ∈ xs, Blk X scope fun B => EV B ((wipeC C.E [i]).set i (some ⟨R, z⟩)) elt R z)
    (k : SS X (C.put v ⟨rL R, xs.filter f⟩) rest nx T r)
    (hy : X.N[v]? = some y := by rfl) (hyl : X.env.scope.names.lookup y = some .local := by rfl) (ok : blkC X.N X.env.scope scope [(x, i)] = true := by rfl) (hx : X.N[i]? = some x := by rfl) (hl : Blk X scope fun B => Loc B.env.scope x := by intro _ _ _ _ _; first | exact Or.inl rfl | exact Or.inr rfl) (hf : Blk X scope fun B => (B.fn x = true ∨ B.env.scope.names.lookup x = some .local) := by intro _ _ _ _ _; first | exact Or.inl rfl | exact Or.inr rfl)
    (hs : ∀ x, foldedSetIterable iter X.env x = pure x := by intro _; rfl) (hsw : swapsWith (.ListComp elt [⟨.Name x xp, iter, [c], 0⟩] scope pos) (some (.Name y py)) spos.line X.env = pure true := by rfl) :
    SS X C (.Assign [.Name y py] (.ListComp elt [⟨.Name x xp, iter, [c], 0⟩] scope pos) spos :: rest) nx T r :=
  sq_lcV (f := f) (qe := fun z w => w = z) v i hc hN hi (fun ys e => by rw [e]; exact hz) (fun ys e z hz s0 H0 Cc cl fp => ets_one (ht z (by rw [← e]; exact hz) s0 H0 Cc cl fp)) (fun ys e z hz _ => he z (by rw [← e]; exact hz)) (fun zs ys e hp => by
    have : ys = xs.filter f := by rw [← e, paired_map (f := fun x => x) hp]; simp
    rw [this]; exact k) hy hyl ok hx hl hf hs hsw
end
end K62

end

section
set_option Elab.async false
set_option linter.all false
set_option maxRecDepth 100000
set_option maxHeartbeats 4000000
/-! for over a dict that is locked meanwhile -/
namespace K62
open PySem PySem.Spec PyProof.Rows L2
def slotV : Option Slot → SK
  | none => .non
  | some g => .val g
def valC (E : ECtx) : Ctx := ⟨E.map slotV, []⟩
theorem holds_valC {W : Wd} {H : Hp} {σ : L2.St} {E : ECtx} (hi : W.I H) (h : HoldsE W H σ E) (hpl : ∀ g, some g ∈ E → Plain g.R) : Holds W H [] H σ (valC E) where
  i0 := hi
  new := by simp
  nd := by simp
  ext := Ext.refl hi
  own := by simp
  prO := PO.nil
  len := by show _ = (E.map slotV).length; rw [List.length_map]; exact h.len
  sl := fun i k q => by
    have q : (E.map slotV)[i]? = some k := q
    rw [List.getElem?_map] at q
    obtain ⟨o, e1, e2⟩ := Option.map_eq_some_iff.mp q
    subst e2
    cases o with
    | none => trivial
    | some g =>
      have pl := hpl g (List.mem_of_getElem? e1)
      obtain ⟨v, e3, r⟩ := h.sl i g e1
      exact ⟨pl, v, e3, pl.pl (fun a o ha hn => ⟨fun m => m.elim hn fun ⟨p, hp, _⟩ => absurd hp (by simp), ha⟩) r⟩
theorem SOk.plv2 {W W1 : Wd} {H0 H1 H H' : Hp} {E : ECtx} {v : Option (Option V)} {i : Nat} {k : SK} (ag : Agr (W1.adds []) H (W.adds []) H') (q : (valC E).Γ[i]? = some k) (r : SOk W1 H1 [] H v k) : SOk W H0 [] H' v k := by
  have q : (E.map slotV)[i]? = some k := q
  rw [List.getElem?_map] at q
  obtain ⟨o, e1, e2⟩ := Option.map_eq_some_iff.mp q
  subst e2
  cases o with
  | none => trivial
  | some g => obtain ⟨pl, u, e, r⟩ := r; exact ⟨pl, u, e, pl.pl ag r⟩
theorem Holds.mv {W W1 : Wd} {H0 H1 H H' : Hp} {σ : L2.St} {E : ECtx} (h : Holds W1 H1 [] H σ (valC E)) (i0 : W.I H0) (e : Ext W H0 H') (ag : Agr (W1.adds []) H (W.adds []) H') : Holds W H0 [] H' σ (valC E) where
  i0 := i0
  new := by simp
  nd := by simp
  ext := e
  own := by simp
  prO := PO.nil
  len := h.len
  sl := fun i k q => SOk.plv2 ag q (h.sl i k q)
section
variable {X : Cx} {C : Ctx} {tg iter : Expr} {rest body : List Stmt} {α γ : Type} {R : RepT α} {T : RepT γ} {r : γ → Prop} {pos : Pos} {nx : Ctx → Prop}
theorem forK_go [Plain R] {W : Wd} {Hs : Hp} {σ : L2.St} {E : ECtx} {d : List (Str × α)} {l : Addr} {us : List (Key × V)} {od : Obj} {i : Nat} {D : Ends} (hIs : W.I Hs) (hh : HoldsE W Hs σ E) (hpl : ∀ g, some g ∈ E → Plain g.R)
    (n : ¬ W.M l) (hd : Hs l = some (.frz od (.dK us))) (pr : Paired (DEnt R W Hs) us d) (hb : ∀ key ∈ d.map (·.1), SS X ((valC E).put i ⟨rS, key⟩) body (fun C2 => Weak C2 (valC E)) rN (fun _ => False))
    (k : ∀ σ' H', Ext W Hs H' → Holds W Hs [] H' σ' (valC E) → D.nx σ' H') : tFor (fun _ H R => R (Itk l od us) H) (gName i) (tss X body) D σ Hs := by
  have wk := walk_keys (R := R) n hd pr
  refine ⟨fun j m σ' H' => m = (d.map (·.1)).length - j ∧ j ≤ (d.map (·.1)).length ∧ Holds W Hs [] H' σ' (valC E), ⟨_, by simp; rfl, Nat.zero_le _, holds_valC hIs hh hpl⟩, ?_⟩
  rintro j m σ' H' ⟨rfl, hjl, h'⟩
  obtain ⟨w1, w2⟩ := wk W H' h'.ext.agrX h'.ext.inv j
  by_cases hlt : j < (d.map (·.1)).length
  · have hx : (d.map (·.1))[j]? = some (d.map (·.1))[j] := List.getElem?_eq_getElem hlt
    obtain ⟨go, yl⟩ := w1 _ hx
    refine .inr ⟨go, fun σ2 H2 => j + 1 ≤ (d.map (·.1)).length ∧ Holds W Hs [] H2 σ2 (valC E), fun σ2 H2 ⟨a, b⟩ => ⟨(d.map (·.1)).length - (j + 1), by omega, rfl, a, b⟩, fun v H2 hy => ?_⟩
    obtain ⟨eY, rv⟩ := yl v H2 hy
    have h2 : Holds W Hs [] H2 σ' (valC E) := h'.mono ⟨fun a o ha hn => eY.keep a o ha (fun m => hn (.inl m)), eY.free, eY.inv, by simp⟩
    exact (hb _ (List.getElem_mem hlt)).tss (h2.put (g := ⟨rS, _⟩) inferInstance rv) ⟨fun C2 ow2 σ2 H3 w3 h3 _ => by
      have h4 := h3.weak w3
      have e : ow2 = [] := List.eq_nil_of_length_eq_zero h4.prO.length
      subst e
      exact ⟨hlt, h4⟩, fun _ _ _ _ f _ => f.elim⟩
  · have e : j = (d.map (·.1)).length := by omega
    subst e
    exact .inl ⟨w2 (List.getElem?_eq_none (Nat.le_refl _)), k σ' H' h'.ext h'⟩
/-- for key in d: body; nothing is carried from turn to turn, nothing is returned -/
theorem sq_forK [Plain R] {d : List (Str × α)} {x : Str} {xp : Pos} (i : Nat) (E : ECtx) (hc : X.calm = true) (hp : PassesOwn (model X.prog X.w) X.A X.env X.xe) (hN : X.N.Nodup) (hO : C.O = []) (hE : ∀ (W : Wd) H σ, HoldsE W H σ C.E → HoldsE W H σ E) (hd : EP1 X C.E iter (rD R) d) (hpl : ∀ g, some g ∈ E → Plain g.R)
    (hb : ∀ key ∈ d.map (·.1), SS X ((valC E).put i ⟨rS, key⟩) body (fun C2 => Weak C2 (valC E)) rN (fun _ => False))
    (k : SS X (valC E) rest nx T r) (hx : X.N[i]? = some x := by rfl) (hl : Loc X.env.scope x := by first | exact Or.inl rfl | exact Or.inr rfl) (hf : X.fn x = true ∨ X.env.scope.names.lookup x = some .local := by first | exact Or.inl rfl | exact Or.inr rfl)
    (hs : ∀ x, foldedSetIterable iter X.env x = pure x := by intro _; rfl) : SS X C (.For (.Name x xp) iter body [] pos :: rest) nx T r := by
  intro W H0 ow σ H pins s D hh I f
  have ho : ow = [] := List.eq_nil_of_length_eq_zero (by rw [hh.prO.length, hO]; rfl)
  subst ho
  obtain ⟨v, ⟨l, us, rfl, n, hrd, pr⟩, ev⟩ := hd (W.adds []) σ H hh.I hh.E
  have P := ps_for (pos := pos) hp hc (pi_keys (tg := .Name x xp) (pe_te (e := iter))) (pg_name (pos := xp) hN hx hl hf) (pss_tss (X := X) (sts := body)) hs
  have agA : ∀ H', Agr (W.adds []) H' W H' := fun H' => agr_adds fun a m => .inl m
  have agB : ∀ H', Agr ((W.adds []).adds []) H' (W.adds []) H' := fun H' => agr_adds fun a m => .inl m
  rcases rd_dK hrd with hx | ⟨od, hx⟩
  · refine (pss_cons (ps_lock P) pss_tss).run pins s σ H D I ⟨l, .dK us, hx, trivial, fun od => ?_⟩
    have sr := sameR_lock (o := od) hx
    have hIL : (W.adds []).I (upd H l (.frz od (.dK us))) := (W.adds []).fp (fun a m => upd_ne (fun z => by subst z; exact n m)) hh.I
    refine ev _ _ sr ⟨l, od, rfl, .inl ⟨us, upd_same, ?_⟩⟩
    refine forK_go (R := R) (W := W.adds []) hIL (hE _ _ _ (hh.E.lock sr)) hpl n upd_same (Paired.mp pr fun _ _ q => ⟨q.1, R.lock sr q.2⟩) hb fun σ' H' eH h' => ?_
    have hl : H' l = some (.frz od (.dK us)) := eH.keep l _ upd_same n
    have eU := unlock_ext hx n eH
    have ag : AgrX (W.adds []) H (W.adds []) (upd H' l (.dK us)) := eU.agrX
    refine ⟨hl, k.tss (h'.mv hh.i0 (hh.ext.weak' (by simp) eU) ?_) (f.step ag)⟩
    exact (agB H').trans (sameR_unlock hl).agr
  · refine (pss_cons P pss_tss).run pins s σ H D I (ev H _ (fun _ => rfl) ⟨l, od, rfl, .inl ⟨us, hx, ?_⟩⟩)
    refine forK_go (R := R) (W := W.adds []) hh.I (hE _ _ _ hh.E) hpl n hx pr hb fun σ' H' eH h' => ?_
    exact k.tss (h'.mv hh.i0 (hh.ext.weak' (by simp) eH) (agB H')) (f.step eH.agrX)
end
end K62

end

section
set_option Elab.async false
set_option linter.all false
set_option maxRecDepth 100000
set_option maxHeartbeats 4000000
/-! a, b, .. = x, y, .. where some of the values are new containers of one's own -/
namespace K62
open PySem PySem.Spec PyProof.Rows L2
def Same1 (ow ow1 : List (Addr × HO)) : Prop := ∀ (j : Nat) (p : Addr × HO), ow[j]? = some p → ∃ p' : Addr × HO, ow1[j]? = some p' ∧ p'.1 = p.1
theorem Same1.refl {ow : List (Addr × HO)} : Same1 ow ow := fun j p h => ⟨p, h, rfl⟩
theorem Same1.trans {a b c : List (Addr × HO)} (h : Same1 a b) (k : Same1 b c) : Same1 a c := fun j p e => let ⟨q, e1, e2⟩ := h j p e; let ⟨r, e3, e4⟩ := k j q e1; ⟨r, e3, e4.trans e2⟩
def EI (X : Cx) (C : Ctx) (e : Expr) (post : Ctx → SK → Prop) : Prop :=
  ∀ (W : Wd) (H0 : Hp) (ow : List (Addr × HO)) (σ : L2.St) (H : Hp) (pins : List (Addr × Obj)) (s : Shared) (Q : VK), Holds W H0 ow H σ C → Inv X pins σ H s →
    (∀ v H1 ow1 C1 κ, post C1 κ → Holds W H0 ow1 H1 σ C1 → AgrX (W.adds ow) H (W.adds ow1) H1 → Same1 ow ow1 → SOk W H0 ow1 H1 (some (some v)) κ → Q v H1) → wpAny (model X.prog X.w) X.A (eval e X.env) (EP X pins σ Q) X.xe s
inductive SOks (W : Wd) (H0 : Hp) (ow : List (Addr × HO)) (H : Hp) : List V → List SK → Prop
  | nil : SOks W H0 ow H [] []
  | cons {v : V} {vs : List V} {k : SK} {ks : List SK} : SOk W H0 ow H (some (some v)) k → SOks W H0 ow H vs ks → SOks W H0 ow H (v :: vs) (k :: ks)
def EIs (X : Cx) (C : Ctx) (es : List Expr) (post : Ctx → List SK → Prop) : Prop :=
  ∀ (W : Wd) (H0 : Hp) (ow : List (Addr × HO)) (σ : L2.St) (H : Hp) (pos : Pos) (pins : List (Addr × Obj)) (s : Shared) (Q : List V → Hp → Prop), Holds W H0 ow H σ C → Inv X pins σ H s →
    (∀ vs H1 ow1 C1 κs, post C1 κs → Holds W H0 ow1 H1 σ C1 → AgrX (W.adds ow) H (W.adds ow1) H1 → Same1 ow ow1 → SOks W H0 ow1 H1 vs κs → Q vs H1) → wpAny (model X.prog X.w) X.A (spliced (backTo pos (starEach es X.env))) (AP X pins σ Q) X.xe s
def setKs (C : Ctx) : List Nat → List SK → Ctx
  | i :: is, k :: ks => setKs (C.set i k) is ks
  | _, _ => C
def gNames : List Nat → TGs
  | [] => gNil
  | i :: is => gCons (gName i) (gNames is)
theorem SOks.plv {W : Wd} {H0 H H1 : Hp} {ow ow2 : List (Addr × HO)} (ag : Agr (W.adds ow) H (W.adds ow2) H1) (hk : Same1 ow ow2) : ∀ {vs : List V} {ks : List SK}, SOks W H0 ow H vs ks → SOks W H0 ow2 H1 vs ks
  | _, _, .nil => .nil
  | _, _, .cons a t => .cons (SOk.plv ag hk a) (SOks.plv ag hk t)
theorem SOks.len {W : Wd} {H0 H : Hp} {ow : List (Addr × HO)} : ∀ {vs : List V} {ks : List SK}, SOks W H0 ow H vs ks → vs.length = ks.length
  | _, _, .nil => rfl
  | _, _, .cons _ t => congrArg Nat.succ t.len
theorem Holds.setKs {W : Wd} {H0 H : Hp} {ow : List (Addr × HO)} : ∀ {is : List Nat} {vs : List V} {ks : List SK} {σ : L2.St} {C : Ctx}, Holds W H0 ow H σ C → SOks W H0 ow H vs ks → is.length = ks.length → Holds W H0 ow H (setA σ is vs) (setKs C is ks)
  | [], _, _, σ, C, h, .nil, _ => h
  | i :: is, v :: vs, k :: ks, σ, C, h, .cons a t, hl => Holds.setKs (is := is) (h.setK a) t (Nat.succ.inj hl)
  | [], _ :: _, _ :: _, _, _, _, .cons _ _, hl => by simp at hl
  | _ :: _, [], [], _, _, _, .nil, hl => by simp at hl
theorem gNames_ok : ∀ {is : List Nat} {vs : List V} {σ : L2.St} {H : Hp} {Q : L2.St → Hp → Prop}, is.length = vs.length → Q (setA σ is vs) H → gNames is vs σ H Q
  | [], [], σ, H, Q, _, q => ⟨rfl, q⟩
  | i :: is, v :: vs, σ, H, Q, hl, q => ⟨v, vs, rfl, gNames_ok (is := is) (Nat.succ.inj hl) q⟩
  | [], _ :: _, _, _, _, hl, _ => by simp at hl
  | _ :: _, [], _, _, _, hl, _ => by simp at hl
section
variable {X : Cx} {C : Ctx} {e a b : Expr} {es ns : List Expr} {rest : List Stmt} {α β γ : Type} {R : RepT α} {T : RepT γ} {r : γ → Prop} {pos : Pos} {nx : Ctx → Prop}
theorem EI.ee [Plain R] {p : α → Prop} (h : EE X C.E e R p) : EI X C e (fun C1 κ => C1 = C ∧ ∃ y, p y ∧ κ = .val ⟨R, y⟩) := fun W H0 ow σ H pins s Q hh I k =>
  h (W.adds ow) σ H pins s Q hh.I hh.E I fun v H1 y e1 py ry => k v H1 ow C _ ⟨rfl, y, py, rfl⟩ (hh.mono e1) e1.agrX Same1.refl ⟨‹_›, v, rfl, ry⟩
theorem EI.dv [Plain R] {y : α} (h : EV X C.E e R y) : EI X C e (fun C1 κ => C1 = C ∧ κ = .val ⟨R, y⟩) := fun W H0 ow σ H pins s Q hh I k =>
  EI.ee h W H0 ow σ H pins s Q hh I fun v H1 ow1 C1 κ ⟨e1, z, pz, e2⟩ => k v H1 ow1 C1 κ ⟨e1, by rw [e2, pz]⟩
theorem EI.en [Plain R] {p : List α → Prop} (h : EN X C.E e R p) : EI X C e (fun C1 κ => ∃ y, p y ∧ C1 = ⟨C.Γ, C.O ++ [.lst R y]⟩ ∧ κ = .own C.O.length) := fun W H0 ow σ H pins s Q hh I k =>
  h (W.adds ow) σ H pins s Q hh.I hh.E I fun l H1 us ys hl e1 hd py pr => by
    obtain ⟨h2, ag⟩ := hh.newO (os := .lst R ys) hl e1 hd ⟨‹_›, us, rfl, pr⟩
    refine k _ H1 _ _ _ ⟨ys, py, rfl, rfl⟩ h2 ag (fun j p hp => ⟨p, ?_, rfl⟩) ⟨(l, .lst us), ?_, rfl⟩
    · rw [List.getElem?_append_left (List.getElem?_eq_some_iff.mp hp).1]; exact hp
    · have hl2 := hh.prO.length
      rw [← hl2]; simp
theorem EI.ed [Plain R] {p : List (Str × α) → Prop} (h : ED X C.E e R p) : EI X C e (fun C1 κ => ∃ y, p y ∧ C1 = ⟨C.Γ, C.O ++ [.dct R y]⟩ ∧ κ = .own C.O.length) := fun W H0 ow σ H pins s Q hh I k =>
  h (W.adds ow) σ H pins s Q hh.I hh.E I fun l H1 us ys hl e1 hd py pr => by
    obtain ⟨h2, ag⟩ := hh.newO (os := .dct R ys) hl e1 hd ⟨‹_›, us, rfl, pr⟩
    refine k _ H1 _ _ _ ⟨ys, py, rfl, rfl⟩ h2 ag (fun j p hp => ⟨p, ?_, rfl⟩) ⟨(l, .dK us), ?_, rfl⟩
    · rw [List.getElem?_append_left (List.getElem?_eq_some_iff.mp hp).1]; exact hp
    · have hl2 := hh.prO.length
      rw [← hl2]; simp
theorem eis_nil {post : Ctx → List SK → Prop} (h : post C []) : EIs X C [] post := fun W H0 ow σ H pos pins s Q hh I k =>
  pa_nil.run pos pins s σ H Q I (k [] H ow C [] h hh AgrX.refl Same1.refl .nil)
theorem eis_cons {p1 : Ctx → SK → Prop} {post : Ctx → List SK → Prop} (h : EI X C e p1) (k2 : ∀ C1 κ, p1 C1 κ → EIs X C1 es fun C2 κs => post C2 (κ :: κs)) (ns : NS X e := by intro _; rfl) : EIs X C (e :: es) post := fun W H0 ow σ H pos pins s Q hh I k => by
  refine (pa_cons pe_te pa_ta (ns _)).run pos pins s σ H Q I fun pins s I => h W H0 ow σ H pins s _ hh I fun v H1 ow1 C1 κ p1 h1 a1 s1 r1 => ?_
  intro pos pins s I
  refine k2 C1 κ p1 W H0 ow1 σ H1 pos pins s _ h1 I fun vs H2 ow2 C2 κs p2 h2 a2 s2 r2 => ?_
  exact k (v :: vs) H2 ow2 C2 (κ :: κs) p2 h2 (a1.trans a2) (s1.trans s2) (.cons (SOk.plv a2.agr s2 r1) r2)
/-- a, b = x, y with plain local names -/
theorem si_par (i j : Nat) {x y : Str} {px py pt : Pos} {kt k2 : Nat} {pt2 : Pos} {post : Ctx → List SK → Prop} (hc : X.calm = true) (hN : X.N.Nodup) (h : EIs X C [a, b] post) (k : ∀ C1 κs, post C1 κs → κs.length = 2 ∧ SS X (setKs C1 [i, j] κs) rest nx T r) (hij : i ≠ j := by decide) (hi : X.N[i]? = some x := by rfl) (hj : X.N[j]? = some y := by rfl)
    (hx : X.env.scope.names.lookup x = some .local := by rfl) (hy : X.env.scope.names.lookup y = some .local := by rfl)
    (hw : swappedStores [.Tuple [.Name x px, .Name y py] kt pt] (.Tuple [a, b] k2 pt2) X.env = pure (some [x, y]) := by rfl)
    (hs : swapsWithSole [.Tuple [.Name x px, .Name y py] kt pt] (.Tuple [a, b] k2 pt2) pos.line X.env = pure false := by rfl) :
    SS X C (.Assign [.Tuple [.Name x px, .Name y py] kt pt] (.Tuple [a, b] k2 pt2) pos :: rest) nx T r :=
  SS.of (pss_cons (ps_par hc hN hi hj hij hx hy pa_ta hw hs) pss_tss) fun W H0 ow σ H D hh f => fun pos pins s I => h W H0 ow σ H pos pins s _ hh I fun vs H1 ow1 C1 κs p1 h1 a1 s1 r1 => by
    obtain ⟨hl, kk⟩ := k C1 κs p1
    have hv := r1.len.trans hl
    match vs, hv with
    | [v, w], _ => exact ⟨v, w, rfl, kk.tss (h1.setKs (is := [i, j]) r1 hl.symm) (f.step a1)⟩
/-- a, b, .. = x, y, .. by way of a tuple -/
theorem si_tup (is : List Nat) {pt pt2 : Pos} {kt k2 : Nat} {post : Ctx → List SK → Prop} (hc : X.calm = true) (hg : PGs X ns (gNames is)) (h : EIs X C es post) (k : ∀ C1 κs, post C1 κs → κs.length = is.length ∧ SS X (setKs C1 is κs) rest nx T r) (hz : is.length ≤ sizeLine := by decide)
    (hn : (assignEach ns X.env).length = is.length := by rfl) (hst : (assignEach ns X.env).findIdx? (·.1) = none := by rfl)
    (hs : swapsWithSole [.Tuple ns kt pt] (.Tuple es k2 pt2) pos.line X.env = pure false := by rfl) (hw : swappedStores [.Tuple ns kt pt] (.Tuple es k2 pt2) X.env = pure none := by rfl)
    (h1 : (assignEach [.Tuple ns kt pt] X.env).map (·.2) = [assign (.Tuple ns kt pt) X.env] := by rfl) :
    SS X C (.Assign [.Tuple ns kt pt] (.Tuple es k2 pt2) pos :: rest) nx T r :=
  SS.of (pss_cons (ps_asg (pe_tup pa_ta) (pg_tup hc hg hn hst) hs hw h1) pss_tss) fun W H0 ow σ H D hh f => fun pos pins s I => h W H0 ow σ H pos pins s _ hh I fun vs H1 ow1 C1 κs p1 h1 a1 s1 r1 => by
    obtain ⟨hl, kk⟩ := k C1 κs p1
    have hv := r1.len.trans hl
    refine ⟨by rw [hv]; exact hz, fun t ht => ?_⟩
    obtain ⟨e3, n3, d3⟩ := new_tup (us := vs) h1.I ht
    refine ⟨t, vs, rfl, sqT_of d3, hv, gNames_ok hv.symm ?_⟩
    exact kk.tss ((h1.mono e3).setKs (SOks.plv e3.agr Same1.refl r1) hl.symm) (f.step (a1.trans e3.agrX))
end
end K62

end

section
set_option Elab.async false
set_option linter.all false
set_option maxRecDepth 100000
set_option maxHeartbeats 4000000
/-! the draw: a dict that changes from call to call -/
namespace K62
open PySem PySem.Spec PyProof.Rows L2
def drawL (g c : Addr) (r t : Int) : List (Key × V) := [(.inr "great", .ref g), (.inr "rest", .int r), (.inr "cells", .ref c), (.inr "turn", .int t)]
def DrawH (d g c : Addr) (H : Hp) : Prop := ∃ (r t : Int) (gs : List Int), H d = some (.dK (drawL g c r t)) ∧ H g = some (.lst (gs.map V.int))
structure DrawIn (W : Wd) (H : Hp) (d g c : Addr) (cs : List Int) : Prop where
  md : W.M d
  mg : W.M g
  ne : d ≠ g
  has : ∀ H', W.I H' → DrawH d g c H'
  clo : ∀ H' H'', W.I H' → DrawH d g c H'' → (∀ a, W.M a → a ≠ d → a ≠ g → H'' a = H' a) → W.I H''
  nc : ¬ W.M c
  rc : rd H c = some (.lst (cs.map V.int))
  few : cs.length < 1024
def rDraw : RepT Unit where
  r := fun W H v _ => ∃ d g c cs, v = .ref d ∧ DrawIn W H d g c cs
  mono := fun {_ _ _ _ _} e ⟨d, g, c, cs, ev, h⟩ => ⟨d, g, c, cs, ev, { h with rc := (e.agr c _ h.rc h.nc).2 }⟩
  into := fun {W H H1 ow v _} hi h0 e hi2 ⟨d, g, c, cs, ev, h⟩ => by
    have hd := h.has H hi
    obtain ⟨r, t, gs, a1, a2⟩ := hd
    have no : ∀ b, H b ≠ none → ¬ ∃ p ∈ ow, p.1 = b := fun b hb => nin_ow h0 hb
    refine ⟨d, g, c, cs, ev, ⟨.inl h.md, .inl h.mg, h.ne, fun H' i => h.has H' i.1, fun H' H'' i dh eq => ⟨h.clo H' H'' i.1 dh fun a m => eq a (.inl m), fun p hp => ?_⟩, fun m => m.elim h.nc (no c (rd_some h.rc)), (e.agr c _ h.rc h.nc).2, h.few⟩⟩
    have n1 : p.1 ≠ d := fun z => no d (by rw [a1]; intro q; cases q) ⟨p, hp, z⟩
    have n2 : p.1 ≠ g := fun z => no g (by rw [a2]; intro q; cases q) ⟨p, hp, z⟩
    rw [eq p.1 (.inr ⟨p, hp, rfl⟩) n1 n2]
    exact i.2 p hp
  lock := fun {_ _ _ _ _} s ⟨d, g, c, cs, ev, h⟩ => ⟨d, g, c, cs, ev, { h with rc := by rw [s c]; exact h.rc }⟩
theorem draw_val (g c : Addr) (r t : Int) : valV (drawL g c r t) (.inr "rest") = some (.int r) ∧ valV (drawL g c r t) (.inr "turn") = some (.int t) ∧ valV (drawL g c r t) (.inr "great") = some (.ref g) ∧ valV (drawL g c r t) (.inr "cells") = some (.ref c) := by
  have a1 : ¬ (Sum.inr ("great" : Str) : Key) = Sum.inr ("rest" : Str) := by decide
  have a2 : ¬ (Sum.inr ("great" : Str) : Key) = Sum.inr ("turn" : Str) := by decide
  have a3 : ¬ (Sum.inr ("rest" : Str) : Key) = Sum.inr ("turn" : Str) := by decide
  have a4 : ¬ (Sum.inr ("cells" : Str) : Key) = Sum.inr ("turn" : Str) := by decide
  have a5 : ¬ (Sum.inr ("great" : Str) : Key) = Sum.inr ("cells" : Str) := by decide
  have a6 : ¬ (Sum.inr ("rest" : Str) : Key) = Sum.inr ("cells" : Str) := by decide
  exact ⟨(valV_neg a1).trans (valV_pos rfl), (valV_neg a2).trans ((valV_neg a3).trans ((valV_neg a4).trans (valV_pos rfl))), valV_pos rfl, (valV_neg a5).trans ((valV_neg a6).trans (valV_pos rfl))⟩
theorem draw_put (g c : Addr) (r t x : Int) : putK (drawL g c r t) (.inr "rest") (.int x) = drawL g c x t ∧ putK (drawL g c r t) (.inr "turn") (.int x) = drawL g c r x := ⟨by rfl, by rfl⟩
section
variable {X : Cx} {Γ : ECtx} {C : Ctx} {a e : Expr} {rest : List Stmt} {γ : Type} {T : RepT γ} {r : γ → Prop} {pos pp p1 p2 p3 : Pos} {nx : Ctx → Prop}
theorem ee_rest {j ps} (hu : X.A.units + 1 < cLine) (ha : EV X Γ a rDraw ()) : EE X Γ (.Subscript a (.Constant (.str "rest") j ps) pos) rI (fun _ => True) :=
  EE.of (pe_dget hu pe_te pe_str (fun _ _ => rfl)) fun W σ H Q hi hh f => ha.te hi hh fun u H1 _ e1 _ ⟨d, g, c, cs, ev, h⟩ => by
    obtain ⟨r, t, gs, a1, a2⟩ := h.has H1 e1.inv
    subst ev
    exact ⟨d, .int r, rfl, .inl ⟨_, .inr "rest", .inl a1, rfl, (draw_val g c r t).1.symm⟩, f _ H1 r e1 trivial rfl⟩
theorem ee_turn {j ps} (hu : X.A.units + 1 < cLine) (ha : EV X Γ a rDraw ()) : EE X Γ (.Subscript a (.Constant (.str "turn") j ps) pos) rI (fun _ => True) :=
  EE.of (pe_dget hu pe_te pe_str (fun _ _ => rfl)) fun W σ H Q hi hh f => ha.te hi hh fun u H1 _ e1 _ ⟨d, g, c, cs, ev, h⟩ => by
    obtain ⟨r, t, gs, a1, a2⟩ := h.has H1 e1.inv
    subst ev
    exact ⟨d, .int t, rfl, .inl ⟨_, .inr "turn", .inl a1, rfl, (draw_val g c r t).2.1.symm⟩, f _ H1 t e1 trivial rfl⟩
theorem ee_cells {j ps} (hu : X.A.units + 1 < cLine) (ha : EV X Γ a rDraw ()) : EE X Γ (.Subscript a (.Constant (.str "cells") j ps) pos) (rL rI) (fun cs => cs.length < 1024) :=
  EE.of (pe_dget hu pe_te pe_str (fun _ _ => rfl)) fun W σ H Q hi hh f => ha.te hi hh fun u H1 _ e1 _ ⟨d, g, c, cs, ev, h⟩ => by
    obtain ⟨r, t, gs, a1, a2⟩ := h.has H1 e1.inv
    subst ev
    exact ⟨d, .ref c, rfl, .inl ⟨_, .inr "cells", .inl a1, rfl, (draw_val g c r t).2.2.2.symm⟩, f _ H1 cs e1 h.few ⟨c, _, rfl, h.nc, h.rc, map_flat cs⟩⟩
/-- the draw written -/
theorem Holds.draw {W : Wd} {H0 H H' : Hp} {ow : List (Addr × HO)} {σ : L2.St} {d g c : Addr} {cs : List Int} (hh : Holds W H0 ow H σ C) (h : DrawIn W H0 d g c cs) (dh : DrawH d g c H') (eq : ∀ a, a ≠ d → a ≠ g → H a ≠ none → H' a = H a) (fr : ∀ a, H' a = none → H a = none) : Holds W H0 ow H' σ C ∧ AgrX (W.adds ow) H (W.adds ow) H' := by
  obtain ⟨r0, t0, gs0, b1, b2⟩ := h.has H0 hh.i0
  have nd : ∀ p ∈ ow, p.1 ≠ d := fun p hp z => by have := hh.new p hp; rw [z, b1] at this; cases this
  have ng : ∀ p ∈ ow, p.1 ≠ g := fun p hp z => by have := hh.new p hp; rw [z, b2] at this; cases this
  have hI : W.I H' := h.clo H H' hh.ext.inv dh fun a m n1 n2 => eq a n1 n2 (W.al hh.ext.inv m)
  have ax : ∀ a u, H a = some u → ¬ (W.adds ow).M a → H' a = some u := fun a u ha hn => by
    rw [eq a (fun z => hn (.inl (by rw [z]; exact h.md))) (fun z => hn (.inl (by rw [z]; exact h.mg))) (by rw [ha]; intro q; cases q)]; exact ha
  have e : Ext (W.adds ow) H H' := ⟨ax, fr, hI, fun p hp => by rw [eq p.1 (nd p hp) (ng p hp) (by rw [hh.own p hp]; intro q; cases q)]; exact hh.own p hp⟩
  exact ⟨hh.mono e, e.agrX⟩
/-- draw['rest'] = e -/
theorem sq_rest (v : Nat) {x : Str} {p : Int → Prop} {j ps} (hu : X.A.units + 1 < cLine) (he : EE X C.E e rI p) (hv : C.Γ[v]? = some (.base ⟨rDraw, ()⟩)) (k : SS X C rest nx T r)
    (hN : X.N[v]? = some x := by rfl) (hx : Vis X.env.scope x := by first | exact Or.inl rfl | exact Or.inr (Or.inl rfl) | exact Or.inr (Or.inr rfl)) (hd : (x == ("__debug__" : Str)) = false := by decide) (hcd : (x == ("__classdict__" : Str)) = false := by decide)
    (hs : swapsWith e (some (.Subscript (.Name x p1) (.Constant (.str "rest") j ps) pp)) pos.line X.env = pure false := by rfl) : SS X C (.Assign [.Subscript (.Name x p1) (.Constant (.str "rest") j ps) pp] e pos :: rest) nx T r :=
  SS.of (pss_cons (ps_dput hu (pe_var hN hx hd hcd) pe_str pe_te hs) pss_tss) fun W H0 ow σ H D hh f => he.te hh.I hh.E fun w H1 y e1 py ry => by
    have h1 := hh.mono e1
    obtain ⟨u, a1, d, g, c, cs, ev, h⟩ := h1.sl v _ hv
    have ev : u = .ref d := ev
    subst ev
    obtain ⟨r0, t0, gs, b1, b2⟩ := h.has H1 e1.inv.1
    cases ry
    refine ⟨_, a1, d, upd H1 d (.dK (drawL g c y t0)), rfl, .inl ⟨_, .inr "rest", b1, rfl, by show 4 < sizeLine; decide, by rw [(draw_put g c r0 t0 y).1]⟩, ?_⟩
    obtain ⟨h2, ag⟩ := h1.draw h (H' := upd H1 d (.dK (drawL g c y t0))) ⟨y, t0, gs, upd_same, by rw [upd_ne (Ne.symm h.ne)]; exact b2⟩ (fun a n1 _ _ => upd_ne n1) (fun a ha => by
      by_cases z : a = d
      · rw [z, upd_same] at ha; cases ha
      · rw [upd_ne z] at ha; exact ha)
    exact k.tss h2 (f.step (e1.agrX.trans ag))
/-- draw['turn'] = e -/
theorem sq_turn (v : Nat) {x : Str} {p : Int → Prop} {j ps} (hu : X.A.units + 1 < cLine) (he : EE X C.E e rI p) (hv : C.Γ[v]? = some (.base ⟨rDraw, ()⟩)) (k : SS X C rest nx T r)
    (hN : X.N[v]? = some x := by rfl) (hx : Vis X.env.scope x := by first | exact Or.inl rfl | exact Or.inr (Or.inl rfl) | exact Or.inr (Or.inr rfl)) (hd : (x == ("__debug__" : Str)) = false := by decide) (hcd : (x == ("__classdict__" : Str)) = false := by decide)
    (hs : swapsWith e (some (.Subscript (.Name x p1) (.Constant (.str "turn") j ps) pp)) pos.line X.env = pure false := by rfl) : SS X C (.Assign [.Subscript (.Name x p1) (.Constant (.str "turn") j ps) pp] e pos :: rest) nx T r :=
  SS.of (pss_cons (ps_dput hu (pe_var hN hx hd hcd) pe_str pe_te hs) pss_tss) fun W H0 ow σ H D hh f => he.te hh.I hh.E fun w H1 y e1 py ry => by
    have h1 := hh.mono e1
    obtain ⟨u, a1, d, g, c, cs, ev, h⟩ := h1.sl v _ hv
    have ev : u = .ref d := ev
    subst ev
    obtain ⟨r0, t0, gs, b1, b2⟩ := h.has H1 e1.inv.1
    cases ry
    refine ⟨_, a1, d, upd H1 d (.dK (drawL g c r0 y)), rfl, .inl ⟨_, .inr "turn", b1, rfl, by show 4 < sizeLine; decide, by rw [(draw_put g c r0 t0 y).2]⟩, ?_⟩
    obtain ⟨h2, ag⟩ := h1.draw h (H' := upd H1 d (.dK (drawL g c r0 y))) ⟨r0, y, gs, upd_same, by rw [upd_ne (Ne.symm h.ne)]; exact b2⟩ (fun a n1 _ _ => upd_ne n1) (fun a ha => by
      by_cases z : a = d
      · rw [z, upd_same] at ha; cases ha
      · rw [upd_ne z] at ha; exact ha)
    exact k.tss h2 (f.step (e1.agrX.trans ag))
/-- if draw['rest'] == 0 and draw['great'] != []: draw['rest'] = draw['great'].pop(0) -/
theorem sq_great (v : Nat) {x : Str} {q1 q2 q3 q4 q5 q6 q7 q8 q9 q10 q11 q12 q13 q14 q15 q16 q17 q18 : Pos} {j1 j2 j3 j4 j5 j6} (hu : X.A.units + 64 < cLine) (hv : C.Γ[v]? = some (.base ⟨rDraw, ()⟩)) (k : SS X C rest nx T r)
    (hN : X.N[v]? = some x := by rfl) (hx : Vis X.env.scope x := by first | exact Or.inl rfl | exact Or.inr (Or.inl rfl) | exact Or.inr (Or.inr rfl)) (hd : (x == ("__debug__" : Str)) = false := by decide) (hcd : (x == ("__classdict__" : Str)) = false := by decide)
    (hs : swapsWith (.Call (.Attribute (.Subscript (.Name x q12) (.Constant (.str "great") j5 q13) q14) "pop" q15) [.Constant (.int 0) j6 q16] [] q17) (some (.Subscript (.Name x q9) (.Constant (.str "rest") j4 q10) q11)) q18.line X.env = pure false := by rfl)
    (hbase : attributeBase (.Subscript (.Name x q12) (.Constant (.str "great") j5 q13) q14) "pop" X.env (eval (.Subscript (.Name x q12) (.Constant (.str "great") j5 q13) q14) X.env) = eval (.Subscript (.Name x q12) (.Constant (.str "great") j5 q13) q14) X.env := by rfl)
    (hfew : ((backTo q17 (starEach [.Constant (.int 0) j6 q16] X.env)).all (fun x => !x.1) && (backToKw q17 (keywordEach [] X.env)).all (fun x => x.1.isSome)
      && decide (([.Constant (.int 0) j6 q16] : List Expr).length + ([] : List Keyword).length + (if ([] : List Keyword).isEmpty then 0 else 1) < 30)) = true := by rfl)
    (hline : (q15.endLine == q17.line) = true := by rfl) :
    SS X C (.If (.BoolOp .And [.Compare (.Subscript (.Name x q1) (.Constant (.str "rest") j1 q2) q3) [.Eq] [.Constant (.int 0) j2 q4] q5, .Compare (.Subscript (.Name x q6) (.Constant (.str "great") j3 q7) q8) [.NotEq] [.List [] p1] p2] p3)
      [.Assign [.Subscript (.Name x q9) (.Constant (.str "rest") j4 q10) q11] (.Call (.Attribute (.Subscript (.Name x q12) (.Constant (.str "great") j5 q13) q14) "pop" q15) [.Constant (.int 0) j6 q16] [] q17) q18] [] pos :: rest) nx T r := by
  have hu1 : X.A.units + 1 < cLine := by omega
  have pv := pe_var (pos := q1) hN hx hd hcd
  refine SS.of (pss_cons (ps_if (PW.pt (pw_and (pt_cmpR op_eq (pe_dget hu1 (pe_var hN hx hd hcd) pe_str (fun _ _ => rfl)) pe_int (nomark _)) (pw_and1 (pt_cmpR (op_neD hu) (pe_dget hu1 (pe_var hN hx hd hcd) pe_str (fun _ _ => rfl)) (pe_lst pa_nil) (nomark _)))))
    (pss_one (ps_dput hu1 (pe_var hN hx hd hcd) pe_str (pe_bm PySem.F.plainAttrs_list PySem.F.slot_list_pop PySem.F.type_list_pop mt_popAt (pe_dget hu1 (pe_var hN hx hd hcd) pe_str (fun _ _ => rfl)) (pa_cons pe_int pa_nil) hbase hfew hline) hs)) pss_nil) pss_tss) fun W H0 ow σ H D hh f => ?_
  obtain ⟨u, a1, d, g, c, cs, ev, h⟩ := hh.sl v _ hv
  have ev : u = .ref d := ev
  subst ev
  obtain ⟨r0, t0, gs, b1, b2⟩ := h.has H hh.ext.inv
  obtain ⟨v1, v2, v3, v4⟩ := draw_val g c r0 t0
  refine ⟨_, a1, d, .int r0, rfl, .inl ⟨_, .inr "rest", .inl b1, rfl, v1.symm⟩, rfl, _, rfl, ?_⟩
  cases hr : decide (V.int r0 = V.int 0) with
  | false => exact k.tss hh f
  | true =>
    rw [if_pos rfl]
    refine ⟨_, a1, d, .ref g, rfl, .inl ⟨_, .inr "great", .inl b1, rfl, v3.symm⟩, Nat.zero_le _, fun t ht => ?_⟩
    obtain ⟨e3, n3, d3⟩ := new_lst (us := []) hh.I ht
    have hh3 := hh.mono e3
    have td : t ≠ d := fun z => by rw [z, b1] at ht; cases ht
    have tg : t ≠ g := fun z => by rw [z, b2] at ht; cases ht
    have c1 : upd H t (.lst []) d = some (.dK (drawL g c r0 t0)) := by rw [upd_ne (Ne.symm td)]; exact b1
    have c2 : upd H t (.lst []) g = some (.lst (gs.map V.int)) := by rw [upd_ne (Ne.symm tg)]; exact b2
    refine ⟨.list (gs.map .int), .list [], .lst (sqL_of (rd_l c2)) ?_, .lst (sqL_of (rd_l upd_same)) .nil, shaped_list (n := 0) (fun z hz => by obtain ⟨i, _, rfl⟩ := List.mem_map.mp hz; exact ⟨rfl, Nat.le_refl _⟩) (by decide), by decide, _, rfl, ?_⟩
    · clear c2 b2
      induction gs with
      | nil => exact .nil
      | cons x xs ih => exact .cons (.int x) ih
    · cases gs with
      | nil => exact k.tss hh3 (f.step e3.agrX)
      | cons y ys =>
        refine ⟨_, a1, d, .ref g, rfl, .inl ⟨_, .inr "great", .inl c1, rfl, v3.symm⟩, .inl ⟨rfl, _, sqL_of (rd_l c2)⟩, ⟨g, _, 0, 0, .int y, rfl, rfl, c2, by decide, by decide, (ixN_seq (show ixN _ 0 = some 0 by unfold ixN; rw [if_pos (by decide), if_pos (by simp)]; rfl)).1, rfl, ?_⟩⟩
        have m2 : upd (upd H t (.lst [])) g (.lst (ys.map V.int)) d = some (.dK (drawL g c r0 t0)) := by rw [upd_ne h.ne]; exact c1
        refine ⟨_, a1, d, upd (upd (upd H t (.lst [])) g (.lst (ys.map V.int))) d (.dK (drawL g c y t0)), rfl, .inl ⟨_, .inr "rest", m2, rfl, by show 4 < sizeLine; decide, by rw [(draw_put g c r0 t0 y).1]; rfl⟩, ?_⟩
        obtain ⟨h2, ag⟩ := hh3.draw h (H' := upd (upd (upd H t (.lst [])) g (.lst (ys.map V.int))) d (.dK (drawL g c y t0))) ⟨y, t0, ys, upd_same, by rw [upd_ne (Ne.symm h.ne), upd_same]⟩ (fun a n1 n2 _ => by rw [upd_ne n1, upd_ne n2]) (fun a ha => by
          by_cases z : a = d
          · rw [z, upd_same] at ha; cases ha
          · rw [upd_ne z] at ha
            by_cases z2 : a = g
            · rw [z2, upd_same] at ha; cases ha
            · rw [upd_ne z2] at ha; exact ha)
        exact k.tss h2 (f.step (e3.agrX.trans ag))
end
end K62

end

section
set_option Elab.async false
set_option linter.all false
set_option maxRecDepth 100000
set_option maxHeartbeats 4000000
namespace K62
open PySem PySem.Spec PyProof.Rows L2
theorem atI_in {α : Type} {xs : List α} {i : Int} (h0 : 0 ≤ i) (h1 : i < xs.length) : ∃ x, atI xs i = some x ∧ x ∈ xs ∧ xs[i.toNat]? = some x := by
  have hl : i.toNat < xs.length := by omega
  have e : atI xs i = xs[i.toNat]? := by
    unfold atI ixN
    rw [if_pos h0, if_pos h1]; rfl
  exact ⟨xs[i.toNat], e.trans (List.getElem?_eq_getElem hl), List.getElem_mem hl, List.getElem?_eq_getElem hl⟩
section
variable {X : Cx} {C : Ctx} {e : Expr} {rest : List Stmt} {α γ : Type} {R : RepT α} {T : RepT γ} {r : γ → Prop} {pos : Pos} {nx : Ctx → Prop}
/-- f.append(l.pop(e)) -/
theorem sq_move (vf vl : Nat) {xf xl : Str} {kf kl : Nat} {fs ls : List α} {pi : Int → Prop} {q1 q2 q3 q4 q5 q6 : Pos} (he : EE X C.E e rI pi) (hi : ∀ i, pi i → 0 ≤ i ∧ i < ls.length) (hvf : C.Γ[vf]? = some (.own kf)) (hvl : C.Γ[vl]? = some (.own kl)) (hOf : C.O[kf]? = some (.lst R fs)) (hOl : C.O[kl]? = some (.lst R ls)) (hne : kf ≠ kl) (hz : fs.length < sizeLine) (hz2 : ls.length < 2 ^ 60)
    (k : ∀ (i : Nat) x, ls[i]? = some x → SS X ⟨C.Γ, (C.O.set kl (.lst R (ls.eraseIdx i))).set kf (.lst R (fs ++ [x]))⟩ rest nx T r)
    (hNf : X.N[vf]? = some xf := by rfl) (hNl : X.N[vl]? = some xl := by rfl) (hxf : Vis X.env.scope xf := by first | exact Or.inl rfl | exact Or.inr (Or.inl rfl) | exact Or.inr (Or.inr rfl)) (hxl : Vis X.env.scope xl := by first | exact Or.inl rfl | exact Or.inr (Or.inl rfl) | exact Or.inr (Or.inr rfl))
    (d1 : (xf == ("__debug__" : Str)) = false := by decide) (c1 : (xf == ("__classdict__" : Str)) = false := by decide) (d2 : (xl == ("__debug__" : Str)) = false := by decide) (c2 : (xl == ("__classdict__" : Str)) = false := by decide)
    (b1 : attributeBase (.Name xf q1) "append" X.env (eval (.Name xf q1) X.env) = eval (.Name xf q1) X.env := by rfl) (b2 : attributeBase (.Name xl q3) "pop" X.env (eval (.Name xl q3) X.env) = eval (.Name xl q3) X.env := by rfl)
    (few1 : ((backTo q6 (starEach [.Call (.Attribute (.Name xl q3) "pop" q4) [e] [] q5] X.env)).all (fun x => !x.1) && (backToKw q6 (keywordEach [] X.env)).all (fun x => x.1.isSome)
      && decide (([.Call (.Attribute (.Name xl q3) "pop" q4) [e] [] q5] : List Expr).length + ([] : List Keyword).length + (if ([] : List Keyword).isEmpty then 0 else 1) < 30)) = true := by rfl)
    (few2 : ((backTo q5 (starEach [e] X.env)).all (fun x => !x.1) && (backToKw q5 (keywordEach [] X.env)).all (fun x => x.1.isSome)
      && decide ([e].length + ([] : List Keyword).length + (if ([] : List Keyword).isEmpty then 0 else 1) < 30)) = true := by rfl)
    (l1 : (q2.endLine == q6.line) = true := by rfl) (l2 : (q4.endLine == q5.line) = true := by rfl) (hs : starEach [e] X.env = (false, eval e X.env) :: starEach [] X.env := by rfl)
    (hsw : swapsWith (.Call (.Attribute (.Name xf q1) "append" q2) [.Call (.Attribute (.Name xl q3) "pop" q4) [e] [] q5] [] q6) none pos.line X.env = pure false := by rfl) :
    SS X C (.Expr (.Call (.Attribute (.Name xf q1) "append" q2) [.Call (.Attribute (.Name xl q3) "pop" q4) [e] [] q5] [] q6) pos :: rest) nx T r :=
  SS.of (pss_cons (ps_expr (pe_bm PySem.F.plainAttrs_list PySem.F.slot_list_append PySem.F.type_list_append mt_append (pe_var hNf hxf d1 c1) (pa_cons (pe_bm PySem.F.plainAttrs_list PySem.F.slot_list_pop PySem.F.type_list_pop mt_popAt (pe_var hNl hxl d2 c2) (pa_cons pe_te pa_nil hs) b2 few2 l2 hs) pa_nil) b1 few1 l1) hsw) pss_tss) fun W H0 ow σ H D hh f => by
    obtain ⟨⟨lf, of⟩, f1, f2, f3, plf, uf, f4, prf⟩ := own_at hh hvf hOf
    obtain ⟨⟨ll, ol⟩, g1, g2, g3, pll, ul, g4, prl⟩ := own_at hh hvl hOl
    have f4 : of = .lst uf := f4
    have g4 : ol = .lst ul := g4
    subst f4 g4
    refine ⟨_, f2, .inl ⟨rfl, uf, sqL_of (rd_l f3)⟩, ⟨_, g2, .inl ⟨rfl, ul, sqL_of (rd_l g3)⟩, he.te hh.I hh.E fun w H1 i e1 pi ri => ?_⟩⟩
    cases ri
    obtain ⟨i0, i1⟩ := hi i pi
    have h1 := hh.mono e1
    obtain ⟨⟨lf', of'⟩, f1', f2', f3', _, uf', f4', prf'⟩ := own_at h1 hvf hOf
    obtain ⟨⟨ll', ol'⟩, g1', g2', g3', _, ul', g4', prl'⟩ := own_at h1 hvl hOl
    rw [f1] at f1'; cases f1'
    rw [g1] at g1'; cases g1'
    cases f4'; cases g4'
    obtain ⟨x, _, _, hx⟩ := atI_in i0 i1
    obtain ⟨u, hu, ru⟩ := Paired.at2 prl' hx
    have hix : ixN ul.length i = some i.toNat := by unfold ixN; rw [if_pos i0, if_pos (by rw [prl'.length]; exact i1)]
    refine ⟨ll, ul, i, i.toNat, u, rfl, rfl, g3', by omega, by omega, (ixN_seq hix).1, hu, ?_⟩
    obtain ⟨h2, ag2⟩ := h1.wrO (o' := .lst (ul.eraseIdx i.toNat)) (os := .lst R (ls.eraseIdx i.toNat)) g1 fun ow' ag => ⟨pll, _, rfl, Paired.ers _ (Paired.mp prl' fun _ _ q => pll.pl ag q)⟩
    have hOf2 : (C.O.set kl (.lst R (ls.eraseIdx i.toNat)))[kf]? = some (.lst R fs) := by rw [List.getElem?_set_ne (Ne.symm hne)]; exact hOf
    obtain ⟨⟨lf2, of2⟩, f1b, f2b, f3b, plb, ub, f4b, prb⟩ := own_at (C := ⟨C.Γ, C.O.set kl (.lst R (ls.eraseIdx i.toNat))⟩) h2 hvf hOf2
    have f4b : of2 = .lst ub := f4b
    subst f4b
    have elf : lf2 = lf ∧ ub = uf := by
      rw [List.getElem?_set_ne (Ne.symm hne), f1] at f1b
      cases f1b
      exact ⟨rfl, rfl⟩
    obtain ⟨rfl, rfl⟩ := elf
    refine ⟨lf2, ub, u, rfl, rfl, f3b, by rw [prb.length]; exact hz, ?_⟩
    have ruf := pll.pl ag2.agr ru
    obtain ⟨h3, ag3⟩ := h2.wrO (o' := .lst (ub ++ [u])) (os := .lst R (fs ++ [x])) f1b fun ow' ag => ⟨plb, _, rfl, Paired.app (Paired.mp prb fun _ _ q => plb.pl ag q) (.cons (plb.pl ag ruf) .nil)⟩
    exact (k i.toNat x hx).tss h3 (f.step ((e1.agrX.trans ag2).trans ag3))
/-- a text is a text or None -/
theorem EE.optE {Γ : ECtx} {p : Str → Prop} {q : Option Str → Prop} (h : EE X Γ e rS p) (k : ∀ s, p s → q (some s)) : EE X Γ e rO q := h.as _ _ fun W H v x _ px r => ⟨some x, k x px, r⟩
theorem paired_opt {W : Wd} {H : Hp} : ∀ {us : List V} {xs : List Str}, Paired (rS.r W H) us xs → Paired (rO.r W H) us (xs.map some)
  | _, _, .nil => .nil
  | _, _, .cons a t => .cons a (paired_opt t)
theorem EE.optL {Γ : ECtx} {p : List Str → Prop} {q : List (Option Str) → Prop} (h : EE X Γ e (rL rS) p) (k : ∀ xs, p xs → q (xs.map some)) : EE X Γ e (rL rO) q := h.as _ _ fun W H v x _ px ⟨a, us, ev, n, hd, pr⟩ => ⟨x.map some, k x px, a, us, ev, n, hd, paired_opt pr⟩
end
end K62

end

section
set_option Elab.async false
set_option linter.all false
set_option maxRecDepth 100000
set_option maxHeartbeats 4000000
/-! sorted(t), t a tuple of texts: after the road of the library's sorted of a list -/
namespace K62
open PySem PySem.Spec PyProof.Rows L2
section
variable {prog : Program} {w : World} {A : Around} {E : Value → Shared → Prop} {s : Shared}
theorem sorted_tup_strs {l : Addr} {vs : List Value} {ss : List Str} {Q : Value → Shared → Prop} (hl : IsTup s.heap l vs.toArray) (hS : StrsAre vs ss) (h64 : vs.length < 64)
    (h : ∀ (h1 h' : Heap) (out : Array Value) (ss' : List Str), StrsAre out.toList ss' → ss'.Perm ss → sortedS ss' = true → (∀ b o, s.heap.get? b = some o → h1.get? b = some o) → (∀ b o, h1.get? b = some o → h'.get? b = some o) → (∃ n, h'.get? h1.objs.size = some (seqObj "list" out n)) → Q (.ref h1.objs.size) { s with heap := h' }) :
    wpAny (model prog w) A (call (.builtin "sorted") [.ref l]) Q E s := by
  obtain ⟨o, ho, hc, n, hd⟩ := hl
  refine Calls.call_function_entry kind_sorted plain_sorted entry_sorted (args_sorted1 _) ?_
  unfold Builtin.«sorted»
  refine wpAny_bind (m := checkCount "sorted" 1 1 _) (wpAny_pure ?_)
  refine wpAny_bind (wpAny_collect_seq l (T := "tuple") (.inr rfl) ho hc hd (fun h1 hk => ?_) (by rw [List.size_toArray]; exact Nat.le_of_lt (Nat.lt_trans h64 (by decide))))
  have e0 : vs.toArray.toList = vs := by simp
  rw [e0]
  refine wpAny_bind (wpAny_newList ?_)
  have hoL : (h1.push (seqObj "list" vs.toArray 0)).get? h1.objs.size = some (seqObj "list" vs.toArray 0) := Heap.get?_push_size _ rfl
  have hkp : ∀ b o, s.heap.get? b = some o → (h1.push (seqObj "list" vs.toArray 0)).get? b = some o := fun b o e => Heap.get?_push_of_some _ (hk b o e)
  refine wpAny_bind (wpAny_holding (wpAny_call_entry slot_list_sort ⟨_, hoL, rfl⟩ entry_list_sort (list_sort_treeK strKind_oneLt hoL hS.keysOf (fun v₁ v₂ rest e => keyKind_strs (by rw [← e]; exact hS)) h64 fun st' hp hs => ⟨_, rfl, ?_⟩) (args_list_sort _)))
  obtain ⟨ss', a1, a2, a3⟩ := sorted_out_str hS hp hs
  refine wpAny_pure ⟨_, rfl, h h1 _ _ ss' a1 a2 a3 hk (fun b o e => ?_) ?_⟩
  · have hlt := Heap.lt_size e
    rw [sortedHeap_old (Nat.ne_of_lt hlt) (by rw [size_push']; exact Nat.lt_succ_of_lt hlt)]
    exact Heap.get?_push_of_some _ e
  · exact sortedHeap_at (n := 0) hoL
end
section
variable {X : Cx} {Γ : ECtx} {a b : Expr} {α : Type} {R : RepT α} {pos pp : Pos}
theorem cr_sortedTS : CallR X (.builtin "sorted") (fun vs H Q => ∃ (a : Addr) (xs : List Str), vs = [V.ref a] ∧ SqT X.K H a (xs.map V.str) ∧ xs.length < 64 ∧ ∀ (ys : List Str) (p : Addr), ys.Perm xs → sortedS ys = true → H p = none → Q (.ref p) (upd H p (.lst (ys.map V.str)))) := by
  intro pins s σ H vs us Q I r h
  obtain ⟨a, xs, rfl, hs, h64, q⟩ := h
  obtain ⟨its, rv, hl, hz⟩ := I.tuple hs
  rw [Vals.ref1 r]
  have hlen0 := rv.length
  rw [List.length_map] at hlen0
  refine sorted_tup_strs hl rv.strs (by rw [← hlen0]; exact h64) fun h1 h' out ys k1 k2 k3 k4 k5 ⟨n, k6⟩ => ?_
  have I1 : Inv X pins σ H { s with heap := h1 } := I.kept (t' := s.toks) k4
  have hlen : (ys.map V.str).length ≤ sizeLine := by rw [List.length_map, k2.length_eq]; exact Nat.le_of_lt (Nat.lt_trans h64 (by decide))
  have I2 : Inv X pins σ (upd H h1.objs.size (.lst (ys.map V.str))) { s with heap := h' } := I1.laid (t' := s.toks) k5 (Nat.le_refl _) (show ObjOk X.prog X.w _ _ _ (.lst (ys.map V.str)) from ⟨hlen, out.toList, n, vals_of_strs k1, by rw [Array.toArray_toList]; exact k6⟩)
  exact ⟨.ref _, _, I2, rfl, q ys _ k2 k3 (I1.hok.fresh (Nat.le_refl _))⟩
theorem en_sortT {p q : List Str → Prop} (ha : EE X Γ a (rT rS) p) (hm : X.mg "sorted" = none) (k : ∀ xs, p xs → xs.length < 64 ∧ ∀ ys, ys.Perm xs → sortedS ys = true → q ys) (hg : Gl X "sorted" := by rfl) (ns : NS X a := by intro _; rfl) : EN X Γ (.Call (.Name "sorted" pp) [a] [] pos) rS q :=
  EN.of (pe_callB cr_sortedTS hg hm (by decide +kernel) (pa_cons pe_te pa_nil (ns _)) (by decide) (by decide) (ns _) rfl) fun W σ H Q hi hh f => ha.te hi hh fun u H1 x e1 px ⟨l, us, e, n, hd, pr⟩ => by
    subst e
    rw [flat_map pr] at hd
    exact ⟨l, x, rfl, sqT_of hd, (k x px).1, fun ys t hp hs ht => f t _ _ ys (e1.free t ht) (e1.trans (Ext.new e1.inv ht)) upd_same ((k x px).2 ys hp hs) (into1 e1.inv ht (map_flat ys))⟩
/-- t + u -/
theorem ee_catT [Plain R] {p q r : List α → Prop} (ha : EE X Γ a (rT R) p) (hb : EE X Γ b (rT R) q) (k : ∀ xs ys, p xs → q ys → xs.length + ys.length ≤ sizeLine ∧ r (xs ++ ys)) : EE X Γ (.BinOp a .Add b pos) (rT R) r :=
  EE.of (pe_op op_catA pe_te pe_te) fun W σ H Q hi hh f => ha.te hi hh fun u H1 xs e1 px rx => hb.te e1.inv (hh.mono e1) fun v H2 ys e2 py ry => by
    obtain ⟨a, us, rfl, n, hd, pa⟩ := (rT R).mono e2 rx
    obtain ⟨b, vs, rfl, n', hd', pb⟩ := ry
    obtain ⟨hz, hr⟩ := k xs ys px py
    refine ⟨a, b, us, vs, rfl, rfl, sqT_of hd, sqT_of hd', by rw [pa.length, pb.length]; exact hz, fun hu => ?_, fun hu hv => ?_, fun hu hv t ht => ?_⟩
    · subst hu; cases pa
      exact f _ H2 _ (e1.trans e2) hr ⟨b, vs, rfl, n', hd', pb⟩
    · subst hv; cases pb
      rw [List.append_nil] at hr
      exact f _ H2 _ (e1.trans e2) hr ⟨a, us, rfl, n, hd, pa⟩
    · obtain ⟨e3, n3, d3⟩ := new_tup (us := us ++ vs) e2.inv ht
      exact f _ _ _ ((e1.trans e2).trans e3) hr ⟨t, _, rfl, n3, d3, prMono e3 (Paired.app pa pb)⟩
/-- (a,) -/
theorem ee_tup1 [Plain R] {kk} {p : α → Prop} (ha : EE X Γ a R p) (ns : NS X a := by intro _; rfl) : EE X Γ (.Tuple [a] kk pos) (rT R) (fun xs => ∃ x, p x ∧ xs = [x]) :=
  EE.of (pe_tup (pa_cons pe_te pa_nil (ns _))) fun W σ H Q hi hh f => ha.te hi hh fun u H1 x e1 px rx => ⟨by show 1 ≤ sizeLine; decide, fun t ht => by
    obtain ⟨e3, n3, d3⟩ := new_tup (us := [u]) e1.inv ht
    exact f _ _ [x] (e1.trans e3) ⟨x, px, rfl⟩ ⟨t, _, rfl, n3, d3, .cons (R.mono e3 rx) .nil⟩⟩
end
end K62

end

section
set_option Elab.async false
set_option linter.all false
set_option maxRecDepth 100000
set_option maxHeartbeats 4000000
namespace K62
open PySem PySem.Spec PyProof.Rows L2
/-- what the head tells of the free names -/
structure Fr (mg : Str → Option Value) : Prop where
  isi : mg "isinstance" = none
  int : mg "int" = none
  bool : mg "bool" = none
  list : mg "list" = none
  tuple : mg "tuple" = none
  str : mg "str" = none
  len : mg "len" = none
  all : mg "all" = none
  any : mg "any" = none
  dict : mg "dict" = none
  sorted : mg "sorted" = none
  min : mg "min" = none
  set : mg "set" = none
  range : mg "range" = none
  zip : mg "zip" = none
  enumerate : mg "enumerate" = none
  abs : mg "abs" = none
  longest : ∃ t, mg "LONGEST" = some (.int 6 t)
  mgoals : ∃ t, mg "MOST_GOALS" = some (.int 2 t)
  mnodes : ∃ t, mg "MOST_NODES" = some (.int 6 t)
  mposts : ∃ t, mg "MOST_POSTS" = some (.int 2 t)
  msights : ∃ t, mg "MOST_SIGHTS" = some (.int 12 t)
  letters : ∃ t, mg "LETTERS" = some (.str "abcdefghijklmnopqrstuvwxyz" t)
section
variable {P : Program} {w : World} {K : PySem.W.Frag} {mg : Str → Option Value} {base : Heap}
theorem c_is_number (fr : Fr mg) (D : DefOk K mg d_is_number) (k : Nat) : C8.Cal P w K mg base (k + 1) "is_number" (spOf (fun n : Nat => [⟨rNat, n⟩]) (fun _ => True) rB (fun _ b => b = true)) [] := by
  have S : FnScope ["thing"] ["thing"] d_is_number.scope := C8.fnScope_by (by decide +kernel)
  refine fn_ok ["thing"] ["thing"] D S (fun _ _ _ _ _ _ us hl => match us, hl with | [_], _ => rfl) (fun _ => rfl) fun n f cdv A outer s H E _ hr => ?_
  refine sq_ret' (dv_and (isi_int (vv 0) fr.isi fr.int) fun _ => dv_not (isi_bool (vv 0) fr.isi fr.bool)) (by intro _ h; exact h)
theorem c_is_list {α : Type} (R : RepT α) [Plain R] (fr : Fr mg) (D : DefOk K mg d_is_list) (k : Nat) : C8.Cal P w K mg base (k + 1) "is_list" (spOf (fun n : List α => [⟨rL R, n⟩]) (fun _ => True) rB (fun _ b => b = true)) [] := by
  have S : FnScope ["thing"] ["thing"] d_is_list.scope := C8.fnScope_by (by decide +kernel)
  refine fn_ok ["thing"] ["thing"] D S (fun _ _ _ _ _ _ us hl => match us, hl with | [_], _ => rfl) (fun _ => rfl) fun n f cdv A outer s H E _ hr => ?_
  refine sq_ret' (isi_lt (vv 0) fr.isi fr.list fr.tuple) (by intro _ h; exact h)
/-- a valid name -/
def letters : Str := "abcdefghijklmnopqrstuvwxyz"
def okN (z : Str) : Prop := 1 ≤ z.length ∧ z.length ≤ 6 ∧ ∀ c ∈ z.cps.toList, c ∈ letters.cps.toList
theorem okN.le {z : Str} (h : okN z) : z.length ≤ sizeLine := Nat.le_trans h.2.1 (by decide)
theorem c_is_name (fr : Fr mg) (D : DefOk K mg d_is_name) (k : Nat) : C8.Cal P w K mg base (k + 1) "is_name" (spOf (fun z : Str => [⟨rS, z⟩]) okN rB (fun _ b => b = true)) [] := by
  have S : FnScope ["thing", "sign"] ["thing"] d_is_name.scope := C8.fnScope_by (by decide +kernel)
  refine fn_ok ["thing", "sign"] ["thing"] D S (fun _ _ _ _ _ _ us hl => match us, hl with | [_], _ => rfl) (fun _ => rfl) fun z f cdv A outer s H E hz hr => ?_
  refine sq_ret' (dv_and3 (isi_str (vv 0) fr.isi fr.str) (fun _ => dv_chain o_le o_le ee_int (dv_lenS (vv 0) fr.len hz.le) (gI fr.longest)) fun _ _ =>
    ee_all (q := (· = true)) rfl (lc_map (g := fun s => decide (s.cps.getD 0 0 ∈ letters.cps.toList)) 1 rfl S.nd (es_str (vv 0)) ?_ fun y hy s0 H0 Cc cl fp => (dv_cmp o_inSg (vv 1) (gS fr.letters) ?_).is (by rfl)) fr.all ?_) ?_
  · simp; exact Nat.lt_of_le_of_lt hz.2.1 (by decide)
  · obtain ⟨c, _, rfl⟩ := List.mem_map.mp hy
    exact ⟨c, rfl⟩
  · rintro xs rfl
    rw [List.all_eq_true]
    intro b hb
    rw [List.map_map] at hb
    obtain ⟨c, hc, rfl⟩ := List.mem_map.mp hb
    show decide _ = true
    exact decide_eq_true (hz.2.2 c hc)
  · intro b hb
    rw [hb]
    have h1 := hz.1
    have h2 := hz.2.1
    simp
    omega
end
end K62

end

section
set_option Elab.async false
set_option linter.all false
set_option maxRecDepth 100000
set_option maxHeartbeats 4000000
namespace K62
open PySem PySem.Spec PyProof.Rows L2
theorem EE.txt {X : Cx} {Γ : ECtx} {e : Expr} {s : Str} (h : EV X Γ e rO (some s)) : EV X Γ e rS s := h.as _ _ fun W H v x _ px r => ⟨s, rfl, by rw [px] at r; exact r⟩
theorem EE.opt {X : Cx} {Γ : ECtx} {e : Expr} {s : Str} (h : EV X Γ e rS s) : EV X Γ e rO (some s) := h.as _ _ fun W H v x _ px r => ⟨some s, rfl, by rw [px] at r; exact r⟩
def placeOk (nodes : List Str) (g n : Str) (p : Option Str) : Prop := ∀ s, p = some s → s = g ∨ (s ∈ nodes ∧ s ≠ n)
def tabOk (nodes : List Str) (g : Str) (t : Tab) : Prop := (t.map (·.1)).Perm nodes ∧ ∀ n ∈ nodes, ∃ p, lk t n = some p ∧ placeOk nodes g n p
theorem tabOk.perm {nodes nodes' : List Str} {g : Str} {t : Tab} (h : tabOk nodes g t) (p : nodes'.Perm nodes) : tabOk nodes' g t :=
  ⟨h.1.trans p.symm, fun n hn => let ⟨q, e, k⟩ := h.2 n (p.mem_iff.mp hn); ⟨q, e, fun s hs => (k s hs).imp id fun z => ⟨p.mem_iff.mpr z.1, z.2⟩⟩⟩
structure TabsOk (tabs : Tabs) (nodes : List Str) : Prop where
  g1 : 1 ≤ tabs.length
  g2 : tabs.length ≤ 2
  gn : ∀ g ∈ tabs.map (·.1), okN g
  gd : (tabs.map (·.1)).Nodup
  n1 : 1 ≤ nodes.length
  n2 : nodes.length ≤ 6
  nn : ∀ n ∈ nodes, okN n
  nd : nodes.Nodup
  dis : ∀ n ∈ nodes, n ∉ tabs.map (·.1)
  each : ∀ g o n, (g, (o, n)) ∈ tabs → tabOk nodes g o ∧ tabOk nodes g n
theorem lk_mem {α : Type} {d : List (Str × α)} {k : Str} {x : α} (h : lk d k = some x) : (k, x) ∈ d := by
  unfold lk at h
  obtain ⟨p, hp, e⟩ := Option.map_eq_some_iff.mp h
  have h1 := List.mem_of_find?_eq_some hp
  have h2 := List.find?_some hp
  have h3 : p.1 = k := of_decide_eq_true h2
  rw [← h3, ← e]; exact h1
theorem lk_some {α : Type} {d : List (Str × α)} {k : Str} (h : k ∈ d.map (·.1)) : ∃ x, lk d k = some x := by
  obtain ⟨p, hp, e⟩ := List.mem_map.mp h
  unfold lk
  cases q : d.find? fun kv => decide (kv.1 = k) with
  | none =>
    have := List.find?_eq_none.mp q p hp
    simp [e] at this
  | some z => exact ⟨z.2, rfl⟩
theorem lk_isSome {α : Type} {d : List (Str × α)} {k : Str} : (lk d k).isSome = decide (k ∈ d.map (·.1)) := by
  by_cases h : k ∈ d.map (·.1)
  · obtain ⟨x, e⟩ := lk_some h
    rw [e, decide_eq_true h]; rfl
  · rw [decide_eq_false h]
    cases e : lk d k with
    | none => rfl
    | some x => exact absurd (List.mem_map.mpr ⟨_, lk_mem e, rfl⟩) h
section
variable {P : Program} {w : World} {K : PySem.W.Frag} {mg : Str → Option Value} {base : Heap}
theorem c_are_names {α : Type} (R : RepT α) [Plain R] (fr : Fr mg) (D : DefOk K mg d_are_names) (k : Nat) (cN : C8.Cal P w K mg base (k + 1) "is_name" (spOf (fun z : Str => [⟨rS, z⟩]) okN rB (fun _ b => b = true)) []) :
    C8.Cal P w K mg base (k + 2) "are_names" (spOf (fun a : List (Str × α) × Int => [⟨rD R, a.1⟩, ⟨rI, a.2⟩]) (fun a => 1 ≤ a.1.length ∧ (a.1.length : Int) ≤ a.2 ∧ a.1.length < 64 ∧ ∀ z ∈ a.1.map (·.1), okN z) rB (fun _ b => b = true)) [] := by
  have S : FnScope ["thing", "most", "key"] ["thing", "most"] d_are_names.scope := C8.fnScope_by (by decide +kernel)
  refine fn_ok ["thing", "most", "key"] ["thing", "most"] D S (fun _ _ _ _ _ _ us hl => match us, hl with | [_, _], _ => rfl) (fun _ => rfl) fun ⟨d, m⟩ f cdv A outer s H E ⟨h1, h2, h3, h4⟩ hr => ?_
  refine sq_ret' (dv_and3 (isi_dict (vv 0) fr.isi fr.dict) (fun _ => dv_chain o_le o_le ee_int (dv_lenD (vv 0) fr.len) (vv 1)) fun _ _ =>
    ee_all (q := (· = true)) rfl (lc_keys (g := fun _ => true) 2 rfl S.nd (ep_name 0) ?_ fun y hy s0 H0 Cc cl fp => ee_call cN hr (Nat.le_refl _) (ed_cons (vv 2) (ea_nil ⟨y, h4 y hy, rfl, fun b hb => hb⟩))) fr.all ?_) ?_
  · exact Nat.lt_trans h3 (by decide)
  · rintro xs rfl
    rw [List.all_eq_true]
    intro b hb
    obtain ⟨c, hc, rfl⟩ := List.mem_map.mp hb
    rfl
  · intro b hb
    rw [hb]
    have h1' : 1 ≤ d.length := h1
    have h2' : (d.length : Int) ≤ m := h2
    simp
    omega
theorem c_is_place (fr : Fr mg) (D : DefOk K mg d_is_place) (k : Nat) :
    C8.Cal P w K mg base (k + 1) "is_place" (spOf (fun a : List Str × Str × Str × Option Str => [⟨rL rS, a.1⟩, ⟨rS, a.2.1⟩, ⟨rS, a.2.2.1⟩, ⟨rO, a.2.2.2⟩]) (fun a => placeOk a.1 a.2.1 a.2.2.1 a.2.2.2) rB (fun _ b => b = true)) [] := by
  have S : FnScope ["nodes", "goal", "node", "thing"] ["nodes", "goal", "node", "thing"] d_is_place.scope := C8.fnScope_by (by decide +kernel)
  refine fn_ok ["nodes", "goal", "node", "thing"] ["nodes", "goal", "node", "thing"] D S (fun _ _ _ _ _ _ us hl => match us, hl with | [_, _, _, _], _ => rfl) (fun _ => rfl) fun ⟨ns, g, n, t⟩ f cdv A outer s H E h hr => ?_
  refine dq_ifr (dt_cmp (o_isN isnO) (vv 3) ee_non trivial) (fun _ => sq_ret' ee_bl (by intro _ h; exact h)) fun hn => ?_
  have hn : t ≠ none := of_decide_eq_false hn
  obtain ⟨z, rfl⟩ := Option.ne_none_iff_exists'.mp hn
  refine sq_ret' (dv_and (isi_strO (vv 3) fr.isi fr.str) fun _ => dv_or (dv_cmp o_eqS (EE.txt (vv 3)) (vv 1) trivial) fun _ => dv_and (dv_cmp o_inSL (EE.txt (vv 3)) (vv 0) trivial) fun _ => dv_cmp o_neS (EE.txt (vv 3)) (vv 2) trivial) ?_
  intro b hb
  rw [hb]
  rcases h z rfl with h | ⟨h1, h2⟩
  · simp [h]
  · simp [h1, h2]
theorem c_is_table (fr : Fr mg) (D : DefOk K mg d_is_table) (k : Nat)
    (cP : C8.Cal P w K mg base (k + 1) "is_place" (spOf (fun a : List Str × Str × Str × Option Str => [⟨rL rS, a.1⟩, ⟨rS, a.2.1⟩, ⟨rS, a.2.2.1⟩, ⟨rO, a.2.2.2⟩]) (fun a => placeOk a.1 a.2.1 a.2.2.1 a.2.2.2) rB (fun _ b => b = true)) []) :
    C8.Cal P w K mg base (k + 2) "is_table" (spOf (fun a : List Str × Str × Tab => [⟨rL rS, a.1⟩, ⟨rS, a.2.1⟩, ⟨rTab, a.2.2⟩]) (fun a => tabOk a.1 a.2.1 a.2.2 ∧ a.1.length < 64) rB (fun _ b => b = true)) [] := by
  have S : FnScope ["nodes", "goal", "thing", "node"] ["nodes", "goal", "thing"] d_is_table.scope := C8.fnScope_by (by decide +kernel)
  refine fn_ok ["nodes", "goal", "thing", "node"] ["nodes", "goal", "thing"] D S (fun _ _ _ _ _ _ us hl => match us, hl with | [_, _, _], _ => rfl) (fun _ => rfl) fun ⟨ns, g, t⟩ f cdv A outer s H E ⟨h, h64⟩ hr => ?_
  have hz : ns.length < sizeLine := Nat.lt_trans h64 (by decide)
  refine sq_ifr (et_or3 (pa := (· = false)) (pb := (· = false)) (pc := (· = false)) (pr := (· = false)) ?_ ?_ ?_) (fun h => Bool.noConfusion h) fun _ => ?_
  · exact et_not (et_val ((isi_dict (vv 2) fr.isi fr.dict).imp (by intro b hb; rw [hb]; rfl)))
  · refine (dt_cmp o_neI (dv_lenD (vv 2) fr.len) (dv_lenL (vv 0) fr.len) trivial).imp ?_
    intro b hb
    rw [hb]
    have := h.1.length_eq
    rw [List.length_map] at this
    simp [this]
  · refine et_not (et_val (ee_all rfl (lc_map (g := fun _ => true) 3 rfl S.nd (es_list (vv 0)) hz fun y hy s0 H0 Cc cl fp => (dv_din (by exact Room.u1 hr) (vv 3) (vv 2)).is ?_) fr.all ?_))
    · obtain ⟨p, e, _⟩ := h.2 y hy
      rw [e]; rfl
    · rintro xs rfl
      have : (ns.map fun _ => true).all id = true := by simp
      rw [this]; rfl
  · refine sq_ret' (ee_all (q := (· = true)) rfl (lc_map (g := fun _ => true) 3 rfl S.nd (es_list (vv 0)) hz fun y hy s0 H0 Cc cl fp => ?_) fr.all ?_) (by intro _ h; exact h)
    · obtain ⟨p, e, hp⟩ := h.2 y hy
      exact ee_call cP hr (Nat.le_refl _) (ed_cons (vv 0) (ed_cons (vv 1) (ed_cons (vv 3) (ed_cons (dv_dget (by exact Room.u1 hr) (vv 2) (vv 3) e) (ea_nil ⟨(ns, g, y, p), hp, rfl, fun b hb => hb⟩)))))
    · rintro xs rfl
      simp
end
end K62

end

section
set_option Elab.async false
set_option linter.all false
set_option maxRecDepth 100000
set_option maxHeartbeats 4000000
namespace K62
open PySem PySem.Spec PyProof.Rows L2
section
variable {P : Program} {w : World} {K : PySem.W.Frag} {mg : Str → Option Value} {base : Heap}
abbrev SpNames {α : Type} (R : RepT α) [Plain R] : Sp := spOf (fun a : List (Str × α) × Int => [⟨rD R, a.1⟩, ⟨rI, a.2⟩]) (fun a => 1 ≤ a.1.length ∧ (a.1.length : Int) ≤ a.2 ∧ a.1.length < 64 ∧ ∀ z ∈ a.1.map (·.1), okN z) rB (fun _ b => b = true)
abbrev SpTable : Sp := spOf (fun a : List Str × Str × Tab => [⟨rL rS, a.1⟩, ⟨rS, a.2.1⟩, ⟨rTab, a.2.2⟩]) (fun a => tabOk a.1 a.2.1 a.2.2 ∧ a.1.length < 64) rB (fun _ b => b = true)
abbrev SpNodesOf : Sp := spOf (fun a : Tabs × List Str => [⟨rTabs, a.1⟩]) (fun a => TabsOk a.1 a.2) (rL rS) (fun a y => y.Perm a.2 ∧ sortedS y = true)
theorem c_nodes_of (fr : Fr mg) (D : DefOk K mg d_nodes_of) (k : Nat) (cN : C8.Cal P w K mg base (k + 2) "are_names" (SpNames rO) []) : C8.Cal P w K mg base (k + 3) "nodes_of" SpNodesOf [] := by
  have S : FnScope ["tables", "pair"] ["tables"] d_nodes_of.scope := C8.fnScope_by (by decide +kernel)
  refine fn_ok ["tables", "pair"] ["tables"] D S (fun _ _ _ _ _ _ us hl => match us, hl with | [_], _ => rfl) (fun _ => rfl) fun ⟨ts, ns⟩ f cdv A outer s H E h hr => ?_
  have h : TabsOk ts ns := h
  refine sq_set 1 (ee_dget (p := fun pr : Tab × Tab => ∃ g, tabOk ns g pr.1) (by exact Room.u1 hr) (vv 0) (ee_minD rfl (vv 0) fr.min ?_) ?_) (fun pr ⟨g, hp⟩ => ?_) S.nd
  · intro e
    have := h.g1
    have e : ts = [] := e
    rw [e] at this
    simp at this
  · rintro d z rfl hz
    obtain ⟨x, e⟩ := lk_some hz
    exact ⟨x, e, z, (h.each z x.1 x.2 (lk_mem e)).1⟩
  have hlen : pr.1.length = ns.length := by
    have := hp.1.length_eq
    rw [List.length_map] at this; exact this
  refine sq_ifr (et_or3 (pa := (· = false)) (pb := (· = false)) (pc := (· = false)) (pr := (· = false)) ?_ ?_ ?_) (fun h => Bool.noConfusion h) fun _ => ?_
  · exact et_not (et_val ((isi_tuple (vv 1) fr.isi fr.tuple).imp (by intro b hb; rw [hb]; rfl)))
  · exact (dt_cmp o_neI (dv_lenP (vv 1) fr.len) ee_int trivial).imp (by intro b hb; rw [hb]; rfl)
  · refine et_not (et_val (ee_call cN hr (Nat.le_refl _) (ed_cons (dv_fst (vv 1)) (ed_cons (gI fr.mnodes) (ea_nil ⟨(pr.1, 6), ⟨?_, ?_, ?_, ?_⟩, by rfl, fun b hb => by rw [hb]; rfl⟩)))))
    · show 1 ≤ pr.1.length; rw [hlen]; exact h.n1
    · show (pr.1.length : Int) ≤ 6; rw [hlen]; have := h.n2; omega
    · show pr.1.length < 64; rw [hlen]; have := h.n2; omega
    · intro z hz; exact h.nn z (hp.1.mem_iff.mp hz)
  · refine sq_ret' (en_sortD (q := fun y : List Str => y.Perm ns ∧ sortedS y = true) rfl (dv_fst (vv 1)) fr.sorted ?_ fun ys h1 h2 => ⟨h1.trans hp.1, h2⟩).ee (by intro _ h; exact h)
    rw [hlen]; have := h.n2; omega
theorem isnL {α : Type} {R : RepT α} [Plain R] (W : Wd) (H : Hp) (v : V) (x : List α) (h : (rL R).r W H v x) : (v = .non ↔ False) := by
  obtain ⟨l, us, e, _⟩ := h
  rw [e]
  exact ⟨fun z => V.noConfusion z, fun z => False.elim z⟩
abbrev SpTables : Sp := spOf (fun a : Tabs × List Str => [⟨rTabs, a.1⟩]) (fun a => TabsOk a.1 a.2) rB (fun _ b => b = true)
theorem c_are_tables (fr : Fr mg) (D : DefOk K mg d_are_tables) (k : Nat) (cN : C8.Cal P w K mg base (k + 2) "are_names" (SpNames (rP rTab rTab)) []) (cO : C8.Cal P w K mg base (k + 3) "nodes_of" SpNodesOf []) (cT : C8.Cal P w K mg base (k + 2) "is_table" SpTable []) :
    C8.Cal P w K mg base (k + 4) "are_tables" SpTables [] := by
  have S : FnScope ["thing", "nodes", "goal", "pair", "node"] ["thing"] d_are_tables.scope := C8.fnScope_by (by decide +kernel)
  refine fn_ok ["thing", "nodes", "goal", "pair", "node"] ["thing"] D S (fun _ _ _ _ _ _ us hl => match us, hl with | [_], _ => rfl) (fun _ => rfl) fun ⟨ts, ns⟩ f cdv A outer s H E h hr => ?_
  have h : TabsOk ts ns := h
  have g2 : ts.length ≤ 2 := h.g2
  refine sq_ifr (pb := (· = false)) (et_not (et_val (ee_call cN hr (by omega) (ed_cons (vv 0) (ed_cons (gI fr.mgoals) (ea_nil ⟨(ts, 2), ⟨h.g1, by show (ts.length : Int) ≤ 2; omega, by show ts.length < 64; omega, h.gn⟩, by rfl, fun b hb => by rw [hb]; rfl⟩)))))) (fun h => Bool.noConfusion h) fun _ => ?_
  refine sq_set 1 (ee_call (q := fun y : List Str => y.Perm ns ∧ sortedS y = true) cO hr (by omega) (ed_cons (vv 0) (ea_nil ⟨(ts, ns), h, by rfl, fun y hy => hy⟩))) (fun ys ⟨hp, hs⟩ => ?_) S.nd
  have hlen : ys.length < 64 := by rw [hp.length_eq]; have := h.n2; omega
  refine sq_ifr (et_or2 (pa := (· = false)) (pb := (· = false)) (pr := (· = false)) ?_ ?_) (fun h => Bool.noConfusion h) fun _ => ?_
  · exact (dt_cmp (o_isN (R := rL rS) (p := fun _ : List Str => False) isnL) (vv 1) ee_non trivial).imp (by intro b hb; rw [hb]; exact decide_eq_false (fun z => z))
  · refine et_val (ee_any rfl (lc_map (g := fun _ => false) 4 rfl S.nd (es_list (vv 1)) (Nat.lt_trans hlen (by decide)) fun y hy s0 H0 Cc cl fp => (dv_din (by exact Room.u1 hr) (vv 4) (vv 0)).is ?_) fr.any ?_)
    · rw [lk_isSome]; exact decide_eq_false (h.dis y (hp.mem_iff.mp hy))
    · rintro xs rfl
      simp
  refine sq_forK 2 [some ⟨rTabs, ts⟩, some ⟨rL rS, ys⟩, none, none, none] rfl PassesOwn.never S.nd rfl (fun W H σ z => z) (ep_name 0) (fun g hg => ?_) (fun key hk => ?_) (sq_ret' ee_bl (by intro _ h; exact h))
  · simp at hg
    rcases hg with rfl | rfl <;> infer_instance
  obtain ⟨pr, e⟩ := lk_some hk
  obtain ⟨t1, t2⟩ := h.each key pr.1 pr.2 (lk_mem e)
  refine dq_set 3 (dv_dget (by exact Room.u1 hr) (vv 0) (vv 2) e) ?_ S.nd
  refine sq_ifr (et_or2 (pa := (· = false)) (pb := (· = false)) (pr := (· = false)) ?_ ?_) (fun h => Bool.noConfusion h) fun _ => ?_
  · exact et_not (et_val ((isi_tuple (vv 3) fr.isi fr.tuple).imp (by intro b hb; rw [hb]; rfl)))
  · exact (dt_cmp o_neI (dv_lenP (vv 3) fr.len) ee_int trivial).imp (by intro b hb; rw [hb]; rfl)
  refine sq_ifr (et_or2 (pa := (· = false)) (pb := (· = false)) (pr := (· = false)) ?_ ?_) (fun h => Bool.noConfusion h) fun _ => ?_
  · exact et_not (et_val (ee_call cT hr (by omega) (ed_cons (vv 1) (ed_cons (vv 2) (ed_cons (dv_fst (vv 3)) (ea_nil ⟨(ys, key, pr.1), ⟨t1.perm hp, hlen⟩, by rfl, fun b hb => by rw [hb]; rfl⟩))))))
  · exact et_not (et_val (ee_call cT hr (by omega) (ed_cons (vv 1) (ed_cons (vv 2) (ed_cons (dv_snd (vv 3)) (ea_nil ⟨(ys, key, pr.2), ⟨t2.perm hp, hlen⟩, by rfl, fun b hb => by rw [hb]; rfl⟩))))))
  exact sq_nil Weak.refl (weak_by (.keep (.keep (.drop (.drop (.keep .nil))))))
abbrev SpNodes : Sp := spOf (fun a : List Str × List Str => [⟨rL rS, a.1⟩, ⟨rL rS, a.2⟩]) (fun a => a.2.Nodup ∧ a.2.length < 64 ∧ ∀ z ∈ a.2, z ∈ a.1) rB (fun _ b => b = true)
theorem c_are_nodes (fr : Fr mg) (D : DefOk K mg d_are_nodes) (k : Nat) (cL : C8.Cal P w K mg base (k + 1) "is_list" (spOf (fun n : List Str => [⟨rL rS, n⟩]) (fun _ => True) rB (fun _ b => b = true)) []) :
    C8.Cal P w K mg base (k + 2) "are_nodes" SpNodes [] := by
  have S : FnScope ["nodes", "thing", "node"] ["nodes", "thing"] d_are_nodes.scope := C8.fnScope_by (by decide +kernel)
  refine fn_ok ["nodes", "thing", "node"] ["nodes", "thing"] D S (fun _ _ _ _ _ _ us hl => match us, hl with | [_, _], _ => rfl) (fun _ => rfl) fun ⟨ns, ts⟩ f cdv A outer s H E ⟨hnd, h64, hmem⟩ hr => ?_
  refine sq_ifr (et_or2 (pa := (· = false)) (pb := (· = false)) (pr := (· = false)) ?_ ?_) (fun h => Bool.noConfusion h) fun _ => ?_
  · exact et_not (et_val (ee_call cL hr (by omega) (ed_cons (vv 1) (ea_nil ⟨ts, trivial, by rfl, fun b hb => by rw [hb]; rfl⟩))))
  · refine et_not (et_val (ee_all rfl (lc_map (g := fun _ => true) 2 rfl S.nd (es_list (vv 1)) (Nat.lt_trans h64 (by decide)) fun y hy s0 H0 Cc cl fp => (dv_and (isi_str (vv 2) fr.isi fr.str) fun _ => dv_cmp o_inSL (vv 2) (vv 0) trivial).is ?_) fr.all ?_))
    · rw [decide_eq_true (hmem y hy)]; rfl
    · rintro xs rfl
      have : (ts.map fun _ => true).all id = true := by simp
      rw [this]; rfl
  · exact sq_ret' (dv_cmp o_eqI (dv_lenSet rfl (vv 1) fr.len fr.set hnd h64) (dv_lenL (vv 1) fr.len) trivial) (by intro b hb; rw [hb]; exact decide_eq_true rfl)
end
end K62

end

section
set_option Elab.async false
set_option linter.all false
set_option maxRecDepth 100000
set_option maxHeartbeats 4000000
namespace K62
open PySem PySem.Spec PyProof.Rows L2
abbrev Pr := Nat × List Str
abbrev rPr : RepT Pr := rP rNat (rT rS)
abbrev Plan := List (List Str)
abbrev rPlan : RepT Plan := rL (rT rS)
abbrev Sight := Str × Str × Option Str
abbrev rSight : RepT Sight := rQ rS rS rO
/-- the class and its facts -/
structure NetF (K : PySem.W.Frag) (mg : Str → Option Value) (Cn : Addr) : Prop where
  cls : Cls K Cn
  ins : C8.InsC K Cn
  mgN : mg "Net" = some (.ref Cn)
  kp : PySem.W.keepIn K (.ref Cn) = true
  tb : NoAttr K Cn "own_tables"
  go : NoAttr K Cn "own_goals"
  no : NoAttr K Cn "own_nodes"
  ch : NoAttr K Cn "own_changing"
  so : NoAttr K Cn "own_sources"
  po : NoAttr K Cn "own_posts"
def sltS (a b : Str) : Prop := a.cps.toList < b.cps.toList
structure LotOk (n : NetD) (lot : List Str) : Prop where
  mem : ∀ x ∈ lot, x ∈ n.changing
  asc : lot.Pairwise sltS
  few : lot.length ≤ 6
def fol (p q : Pr) : Bool := if p.1 ≠ q.1 then decide (p.1 < q.1) else p.2.all fun x => decide (x ∈ q.2)
def subs : List Str → List (List Str) → List (List Str)
  | [], f => f
  | n :: r, f => subs r (f ++ f.map (· ++ [n]))
theorem subs_snoc : ∀ (l : List Str) (n : Str) (f : List (List Str)), subs (l ++ [n]) f = (subs l f) ++ (subs l f).map (· ++ [n])
  | [], n, f => rfl
  | m :: r, n, f => subs_snoc r n _
theorem subs_len : ∀ (l : List Str) (f : List (List Str)), (subs l f).length = f.length * 2 ^ l.length
  | [], f => by simp [subs]
  | n :: r, f => by
    show (subs r _).length = _
    rw [subs_len r, List.length_append, List.length_map, List.length_cons, Nat.pow_succ, ← Nat.mul_two, Nat.mul_assoc, Nat.mul_comm 2]
theorem subs_each : ∀ (l : List Str) (f : List (List Str)) (m : Nat), (∀ x ∈ f, x.length ≤ m) → ∀ x ∈ subs l f, x.length ≤ m + l.length
  | [], f, m, h, x, hx => h x hx
  | n :: r, f, m, h, x, hx => by
    have := subs_each r (f ++ f.map (· ++ [n])) (m + 1) (fun y hy => by
      rcases List.mem_append.mp hy with hy | hy
      · exact Nat.le_succ_of_le (h y hy)
      · obtain ⟨z, hz, rfl⟩ := List.mem_map.mp hy
        rw [List.length_append]
        exact Nat.succ_le_succ (h z hz)) x hx
    rw [List.length_cons]; omega
/-- the parts of a lot -/
def parts (lot : List Str) : List (List Str) := subs lot [[]]
section
variable {P : Program} {w : World} {K : PySem.W.Frag} {mg : Str → Option Value} {base : Heap}
abbrev SpParts : Sp := spOf (fun l : List Str => [⟨rT rS, l⟩]) (fun l => l.length ≤ 6) (rL (rT rS)) (fun l y => y.Perm (parts l))
theorem alike_strs : ∀ (x y : List Str), PySem.W.alikeAll (x.map .str) (y.map .str) = true
  | [], _ => by unfold PySem.W.alikeAll; rfl
  | _ :: _, [] => by unfold PySem.W.alikeAll; rfl
  | a :: x, b :: y => by
    show (PySem.W.alike (.str a) (.str b) && PySem.W.alikeAll (x.map .str) (y.map .str)) = true
    rw [alike_strs x y]; rfl
theorem alike_pr (b b' : Nat × List Str) : PySem.W.alike (PyData.tuple [.int b.1, .tuple (b.2.map .str)]) (PyData.tuple [.int b'.1, .tuple (b'.2.map .str)]) = true := by
  show (PySem.W.alike (.int b.1) (.int b'.1) && (PySem.W.alikeAll (b.2.map .str) (b'.2.map .str) && PySem.W.alikeAll [] [])) = true
  rw [alike_strs]; rfl
theorem depth_strs (x : List Str) : PyData.depthAll (x.map .str) = 0 := by
  induction x with
  | nil => rfl
  | cons a x ih =>
    show max 0 (PyData.depthAll (x.map .str)) = 0
    rw [ih]; rfl
theorem depth_pr (x : Nat × List Str) : (PyData.tuple [.int x.1, .tuple (x.2.map .str)]).depth ≤ 8 := by
  show max 0 (max (PyData.depthAll (x.2.map .str) + 1) 0) + 1 ≤ 8
  rw [depth_strs]; decide
theorem ltS_chain {l : List Str} (h : l.Pairwise sltS) : ∀ p ∈ l.zip (l.drop 1), sltS p.1 p.2 := by
  intro p hp
  obtain ⟨i, hi⟩ := List.mem_iff_getElem?.mp hp
  obtain ⟨h1, h2⟩ := List.getElem?_zip_eq_some.mp hi
  rw [List.getElem?_drop] at h2
  obtain ⟨a1, b1⟩ := List.getElem?_eq_some_iff.mp h1
  obtain ⟨a2, b2⟩ := List.getElem?_eq_some_iff.mp h2
  rw [← b1, ← b2]
  exact List.pairwise_iff_getElem.mp h i (1 + i) a1 a2 (by omega)
theorem cutL_1 {α : Type} (xs : List α) : cutL xs (some 1) none = xs.drop 1 := by
  unfold cutL
  have e1 : HT.sIx xs.length xs.length none = xs.length := rfl
  rw [e1]
  cases xs with
  | nil => rfl
  | cons x xs =>
    have e2 : HT.sIx (x :: xs).length 0 (some 1) = 1 := by
      unfold HT.sIx
      simp
    rw [e2]
    simp
theorem c_follows (fr : Fr mg) (D : DefOk K mg d_follows) (k : Nat) : C8.Cal P w K mg base (k + 1) "follows" (spOf (fun a : Pr × Pr => [⟨rPr, a.1⟩, ⟨rPr, a.2⟩]) (fun a => a.1.2.length ≤ 6) rB (fun a b => b = fol a.1 a.2)) [] := by
  have S : FnScope ["pair", "later", "node"] ["pair", "later"] d_follows.scope := C8.fnScope_by (by decide +kernel)
  refine fn_ok ["pair", "later", "node"] ["pair", "later"] D S (fun _ _ _ _ _ _ us hl => match us, hl with | [_, _], _ => rfl) (fun _ => rfl) fun ⟨x, y⟩ f cdv A outer s H E h6 hr => ?_
  refine dq_ifr (dt_cmp o_neI (EE.int (dv_fst (vv 0))) (EE.int (dv_fst (vv 1))) trivial) (fun hn => ?_) fun hn => ?_
  · refine sq_ret' (dv_cmp o_lt (EE.int (dv_fst (vv 0))) (EE.int (dv_fst (vv 1))) trivial) ?_
    intro b hb
    rw [hb]
    have hne : x.1 ≠ y.1 := by simp at hn; omega
    show _ = fol x y
    unfold fol
    rw [if_pos hne]; simp
  · refine sq_ret' (ee_all (q := fun b => b = fol x y) rfl (lc_map (g := fun z => decide (z ∈ y.2)) 2 rfl S.nd (es_tup (dv_snd (vv 0))) (Nat.lt_of_le_of_lt h6 (by decide)) fun z hz s0 H0 Cc cl fp => (dv_cmp o_inST (vv 2) (dv_snd (vv 1)) trivial).is (by rfl)) fr.all ?_) (by intro _ h; exact h)
    rintro xs rfl
    have he : x.1 = y.1 := by simp at hn; omega
    show _ = fol x y
    unfold fol
    rw [if_neg (by simp [he]), List.all_map]; rfl
theorem c_parts_of (fr : Fr mg) (D : DefOk K mg d_parts_of) (k : Nat) : C8.Cal P w K mg base (k + 1) "parts_of" SpParts [] := by
  have S : FnScope ["lot", "found", "node", "part", "many"] ["lot"] d_parts_of.scope := C8.fnScope_by (by decide +kernel)
  refine fn_ok ["lot", "found", "node", "part", "many"] ["lot"] D S (fun _ _ _ _ _ _ us hl => match us, hl with | [_], _ => rfl) (fun _ => rfl) fun lot f cdv A outer s H E h6 hr => ?_
  have h6 : lot.length ≤ 6 := h6
  have hsz : (256 : Nat) < sizeLine := by decide
  have hlen : ∀ i, (subs (lot.take i) [[]]).length ≤ 64 := fun i => by
    rw [subs_len]
    have h1 : (lot.take i).length ≤ 6 := by rw [List.length_take]; omega
    have h2 : 2 ^ (lot.take i).length ≤ 2 ^ 6 := Nat.pow_le_pow_right (by decide) h1
    simp at h2 ⊢
    exact h2
  have heach : ∀ i, ∀ x ∈ subs (lot.take i) [[]], x.length ≤ 6 := fun i x hx => by
    have := subs_each (lot.take i) [[]] 0 (by simp) x hx
    rw [List.length_take] at this
    omega
  refine sq_own 1 (en_lst (R := rT rS) (xs := [[]]) (el_cons (dv_tup el_nil (Nat.zero_le _)) el_nil) (by show 1 ≤ sizeLine; decide)) (fun y hy => ?_) S.nd
  subst hy
  refine sq_for1 2 (inv := fun xs i C' => xs = lot ∧ C' = ⟨[.base ⟨rT rS, lot⟩, .own 0, .non, .non, .non], [.lst (rT rS) (subs (lot.take i) [[]])]⟩) rfl PassesOwn.never S.nd (es_tup (vv 0))
    (fun xs e => ⟨e, rfl⟩) (fun xs i x C' e hx ⟨e1, e2⟩ => ?_) (fun xs C' e ⟨e1, e2⟩ => ?_)
  · subst e1 e2
    refine sq_extL 1 (lc_map (g := fun p => p ++ [x]) 3 rfl S.nd (es_list (en_lstL (vv 1) fr.list).ee) (Nat.lt_of_le_of_lt (Nat.le_trans (hlen i) (by decide)) hsz) fun y hy s0 H0 Cc cl fp => dv_starT (vv 3) (vv 2) (by have := heach i y hy; omega)) rfl rfl (fun zs e => ?_) fun zs e => ?_
    · rw [e, List.length_map]; have := hlen i; omega
    · subst e
      refine sq_nil ⟨_, ⟨rfl, rfl⟩, ?_⟩
      have e3 : subs (xs.take (i + 1)) [[]] = subs (xs.take i) [[]] ++ (subs (xs.take i) [[]]).map fun p => p ++ [x] := by
        rw [List.take_add_one, hx]; exact subs_snoc _ _ _
      rw [e3]
      exact weak_by (.keep (.keep (.drop (.keep (.keep .nil)))))
  · subst e1 e2
    have hpl := hlen xs.length
    have hpe := heach xs.length
    rw [List.take_length] at hpl hpe ⊢
    refine sq_seal (.base (.lst inferInstance rfl (.non (.non (.non .nil))))) ?_
    refine sq_ret' (lp_all (ps := fun zs => zs.Perm ((parts xs).map fun p => (p.length, p))) (qe := fun z y => y = z.2) 4 3 rfl S.nd (es_list (EN.ee (en_cb (c_sortDp (by exact Room.u16 hr)) (EN.ee (lc_map (S := rP rNat (rT rS)) (g := fun p => (p.length, p)) 3 rfl S.nd (es_list (vv 1)) (Nat.lt_of_le_of_lt (Nat.le_trans hpl (by decide)) hsz) fun y hy s0 H0 Cc cl fp => dv_pair (EE.nat (dv_lenT (vv 3) fr.len)) (vv 3))) (fun zs e => ⟨⟨?_, ?_, ?_⟩, fun ys hy => ?_⟩) fr.sorted))) (fun zs hz => ?_) fun zs hz z hzz s0 H0 Cc cl fp => vv 3).ee ?_
    · exact PySem.W.AllAlike.of (enc := fun x : Nat × List Str => PyData.tuple [.int x.1, .tuple (x.2.map .str)]) fun b b' => alike_pr b b'
    · exact PySem.W.Sortable.tuples (enc := fun x : Nat × List Str => PyData.tuple [.int x.1, .tuple (x.2.map .str)]) fun b => ⟨_, _, rfl⟩
    · intro x hx
      exact depth_pr x
    · rw [e] at hy; exact hy
    · rw [hz.length_eq, List.length_map]; exact Nat.lt_of_le_of_lt (Nat.le_trans hpl (by decide)) hsz
    · rintro ys ⟨zs, hz, hp⟩
      rw [paired_map hp]
      have := hz.map (·.2)
      rw [List.map_map] at this
      simpa [Function.comp_def] using this
end
end K62

end

section
set_option Elab.async false
set_option linter.all false
set_option maxRecDepth 100000
set_option maxHeartbeats 4000000
namespace K62
open PySem PySem.Spec PyProof.Rows L2
theorem atI_nat {α : Type} (xs : List α) (i : Nat) : atI xs (i : Int) = xs[i]? := by
  unfold atI ixN
  rw [if_pos (by omega)]
  by_cases h : i < xs.length
  · rw [if_pos (by omega)]; rfl
  · rw [if_neg (by omega), List.getElem?_eq_none (by omega)]; rfl
theorem cutL_to {α : Type} (xs : List α) (n : Nat) : cutL xs none (some (n : Int)) = xs.take n := by
  unfold cutL
  have e1 : HT.sIx xs.length 0 none = 0 := rfl
  have e2 : HT.sIx xs.length xs.length (some (n : Int)) = min n xs.length := HT.sIx_nat _ _ _
  rw [e1, e2]
  simp
theorem lk_cons {α : Type} {d : List (Str × α)} {a k' : Str} {b : α} : lk ((a, b) :: d) k' = if a = k' then some b else lk d k' := by
  by_cases h : a = k' <;> simp [lk, List.find?_cons, h]
theorem lk_pt {α : Type} {d : List (Str × α)} {k k' : Str} {v : α} : lk (pt d k v) k' = if k' = k then some v else lk d k' := by
  have hmap : ∀ d : List (Str × α), lk (d.map fun kv => if kv.1 = k then (kv.1, v) else kv) k' = if k' = k ∧ k ∈ d.map (·.1) then some v else lk d k' := by
    intro d
    induction d with
    | nil => simp [lk]
    | cons p d ih =>
      obtain ⟨a, b⟩ := p
      by_cases h : a = k
      · subst h
        have e : ((a, b) :: d).map (fun kv => if kv.1 = a then (kv.1, v) else kv) = (a, v) :: d.map (fun kv => if kv.1 = a then (kv.1, v) else kv) := by simp
        rw [e, lk_cons, lk_cons, ih]
        by_cases h2 : k' = a
        · subst h2; simp
        · have h3 : ¬ a = k' := fun z => h2 z.symm
          rw [if_neg h3, if_neg h3, if_neg (fun z => h2 z.1), if_neg (fun z => h2 z.1)]
      · have e : ((a, b) :: d).map (fun kv => if kv.1 = k then (kv.1, v) else kv) = (a, b) :: d.map (fun kv => if kv.1 = k then (kv.1, v) else kv) := by simp [h]
        have hm : (k ∈ ((a, b) :: d).map (·.1)) ↔ k ∈ d.map (·.1) := by
          rw [List.map_cons, List.mem_cons]
          exact ⟨fun z => z.resolve_left fun y => h y.symm, .inr⟩
        rw [e, lk_cons, lk_cons, ih]
        by_cases h2 : a = k'
        · have h3 : ¬ k' = k := fun z => h (h2.trans z)
          rw [if_pos h2, if_pos h2, if_neg (fun z => h3 z.1)]
        · rw [if_neg h2, if_neg h2]
          by_cases h3 : k' = k ∧ k ∈ d.map (·.1)
          · rw [if_pos h3, if_pos ⟨h3.1, hm.mpr h3.2⟩]
          · rw [if_neg h3, if_neg fun z => h3 ⟨z.1, hm.mp z.2⟩]
  unfold pt
  by_cases ha : (d.any fun kv => decide (kv.1 = k)) = true
  · rw [if_pos ha, hmap]
    have hm : k ∈ d.map (·.1) := by
      obtain ⟨p, hp, e⟩ := List.any_eq_true.mp ha
      exact List.mem_map.mpr ⟨p, hp, of_decide_eq_true e⟩
    simp [hm]
  · rw [if_neg ha]
    have hn : ∀ p ∈ d, p.1 ≠ k := fun p hp e => ha (List.any_eq_true.mpr ⟨p, hp, decide_eq_true e⟩)
    by_cases h : k' = k
    · subst h
      rw [if_pos rfl]
      have : d.find? (fun kv => decide (kv.1 = k')) = none := List.find?_eq_none.mpr fun p hp => by simpa using hn p hp
      simp [lk, List.find?_append, this]
    · rw [if_neg h]
      have h' : ¬ k = k' := fun z => h z.symm
      unfold lk
      rw [List.find?_append]
      cases d.find? (fun kv => decide (kv.1 = k')) with
      | none => simp [h']
      | some z => rfl
structure NetOk (n : NetD) : Prop where
  t : TabsOk n.tabs n.nodes
  go : n.goals = n.tabs.map (·.1)
  ch : ∀ x ∈ n.changing, x ∈ n.nodes
def wayN (n : NetD) (g : Str) (b : Bool) (x : Str) : Option Str := ((lk n.tabs g).bind fun pr => lk (if b then pr.2 else pr.1) x).getD none
theorem way_at {n : NetD} (h : NetOk n) {g x : Str} (hg : g ∈ n.goals) (hx : x ∈ n.nodes) : ∃ pr, lk n.tabs g = some pr ∧ ∀ b : Bool, lk (if b then pr.2 else pr.1) x = some (wayN n g b x) := by
  rw [h.go] at hg
  obtain ⟨pr, e⟩ := lk_some hg
  refine ⟨pr, e, fun b => ?_⟩
  obtain ⟨t1, t2⟩ := h.t.each g pr.1 pr.2 (lk_mem e)
  have hb : ∃ p, lk (if b then pr.2 else pr.1) x = some p := by
    cases b
    · obtain ⟨p, e, _⟩ := t1.2 x hx; exact ⟨p, e⟩
    · obtain ⟨p, e, _⟩ := t2.2 x hx; exact ⟨p, e⟩
  obtain ⟨p, ep⟩ := hb
  rw [ep]
  unfold wayN
  rw [e]
  show some p = some ((lk (if b then pr.2 else pr.1) x).getD none)
  rw [ep]; rfl
structure SightOk (n : NetD) (s : Sight) : Prop where
  g : s.1 ∈ n.goals
  x : s.2.1 ∈ n.nodes
  p : ∀ z, s.2.2 = some z → z ≠ s.2.1 ∧ (z = s.1 ∨ z ∈ n.nodes)
structure PlanOk (n : NetD) (plan : Plan) : Prop where
  lot : ∀ l ∈ plan, LotOk n l ∧ l ≠ []
  nd : plan.flatten.Nodup
  few : plan.flatten.length ≤ 6
theorem PlanOk.len {n : NetD} {plan : Plan} (h : PlanOk n plan) : plan.length ≤ 6 := by
  have key : ∀ l : Plan, (∀ x ∈ l, x ≠ []) → l.length ≤ l.flatten.length := by
    intro l
    induction l with
    | nil => intro _; exact Nat.le_refl _
    | cons a l ih =>
      intro hl
      have h1 := ih fun x hx => hl x (List.mem_cons_of_mem _ hx)
      have h2 : 1 ≤ a.length := List.length_pos_iff.mpr (hl a List.mem_cons_self)
      rw [List.flatten_cons, List.length_append, List.length_cons]; omega
  exact Nat.le_trans (key plan fun x hx => (h.lot x hx).2) h.few
theorem PlanOk.take {n : NetD} {plan : Plan} (h : PlanOk n plan) (i : Nat) : (plan.take i).flatten.length ≤ 6 := by
  have e := congrArg (fun l : Plan => l.flatten.length) (List.take_append_drop i plan)
  simp only [List.flatten_append, List.length_append] at e
  have := h.few
  omega
def isNew (plan : Plan) (x : Str) (p : Pr) : Bool := decide (x ∈ (plan.take p.1).flatten) || decide (x ∈ p.2)
def agr (n : NetD) (plan : Plan) (s : Sight) (p : Pr) : Bool := decide (wayN n s.1 (isNew plan s.2.1 p) s.2.1 = s.2.2)
section
variable {P : Program} {w : World} {K : PySem.W.Frag} {mg : Str → Option Value} {base : Heap} {Cn : Addr}
abbrev SpDone : Sp := spOf (fun a : Plan × Nat => [⟨rPlan, a.1⟩, ⟨rNat, a.2⟩]) (fun a => a.1.length < 64 ∧ ∀ i, (a.1.take i).flatten.length < 64) (rT rS) (fun a y => y.Perm (a.1.take a.2).flatten ∧ sortedS y = true)
theorem c_done_at (fr : Fr mg) (D : DefOk K mg d_done_at) (k : Nat) : C8.Cal P w K mg base (k + 1) "done_at" SpDone [] := by
  have S : FnScope ["plan", "stage", "found", "lot"] ["plan", "stage"] d_done_at.scope := C8.fnScope_by (by decide +kernel)
  refine fn_ok ["plan", "stage", "found", "lot"] ["plan", "stage"] D S (fun _ _ _ _ _ _ us hl => match us, hl with | [_, _], _ => rfl) (fun _ => rfl) fun ⟨pl, st⟩ f cdv A outer s H E ⟨h1, h2⟩ hr => ?_
  refine sq_own 2 (en_lst (R := rS) (xs := []) el_nil (Nat.zero_le _)) (fun y hy => ?_) S.nd
  subst hy
  refine sq_for1 3 (R := rT rS) (inv := fun xs i C' => xs = pl.take st ∧ C' = ⟨[.base ⟨rPlan, pl⟩, .base ⟨rNat, st⟩, .own 0, .non], [.lst rS ((pl.take st).take i).flatten]⟩) rfl PassesOwn.never S.nd (es_list (en_slL (pr := (· = pl.take st)) (vv 0) eo_none (eo_some (EE.int (vv 1))) ?_).ee) (fun xs e => ⟨e, rfl⟩) (fun xs i x C' e hx ⟨e1, e2⟩ => ?_) (fun xs C' e ⟨e1, e2⟩ => ?_)
  · rintro xs l u rfl rfl ⟨i, rfl, rfl⟩
    exact cutL_to _ _
  · subst e1 e2
    have hl : ((pl.take st).take i).flatten ++ x = ((pl.take st).take (i + 1)).flatten := by
      rw [List.take_add_one, hx]; simp
    have hz : (((pl.take st).take i).flatten ++ x).length < 64 := by
      rw [hl, List.take_take]; exact h2 _
    refine sq_extT 2 (vv 3) rfl rfl (by rw [List.length_append] at hz; exact Nat.le_trans (Nat.le_of_lt hz) (by decide)) (sq_nil ⟨_, ⟨rfl, rfl⟩, ?_⟩)
    rw [← hl]
    exact weak_by (.keep (.keep (.keep (.drop .nil))))
  · subst e1 e2
    refine sq_ret' (ee_tupL (en_sortS (q := fun y : List Str => y.Perm (pl.take st).flatten ∧ sortedS y = true) (vv 2) fr.sorted fun zs e => ⟨?_, fun ys hp hs => ⟨?_, hs⟩⟩).ee fr.tuple) (by intro _ h; exact h)
    · rw [e, List.take_take]; exact h2 _
    · rw [e, List.take_length] at hp; exact hp
theorem c_round_at (fr : Fr mg) (D : DefOk K mg d_round_at) (k : Nat) : C8.Cal P w K mg base (k + 1) "round_at" (spOf (fun a : Plan × Nat => [⟨rPlan, a.1⟩, ⟨rNat, a.2⟩]) (fun _ => True) (rT rS) (fun a y => y = a.1.getD a.2 [])) [] := by
  have S : FnScope ["plan", "stage"] ["plan", "stage"] d_round_at.scope := C8.fnScope_by (by decide +kernel)
  refine fn_ok ["plan", "stage"] ["plan", "stage"] D S (fun _ _ _ _ _ _ us hl => match us, hl with | [_, _], _ => rfl) (fun _ => rfl) fun ⟨pl, st⟩ f cdv A outer s H E h hr => ?_
  refine sq_ret (ee_if (dt_cmp o_lt (EE.int (vv 1)) (dv_lenL (vv 0) fr.len) trivial) (fun ht => ?_) fun hf => ?_)
  · have hlt : st < pl.length := by simp at ht; exact ht
    have hx : atI pl (st : Int) = some (pl.getD st []) := by rw [atI_nat, List.getD_eq_getElem?_getD, List.getElem?_eq_getElem hlt]; rfl
    exact dv_tupT (dv_ixL (vv 0) (EE.int (vv 1)) hx) fr.tuple
  · have hlt : ¬ st < pl.length := by simp at hf; omega
    refine (dv_tup (xs := []) el_nil (Nat.zero_le _)).is ?_
    show [] = pl.getD st []
    rw [List.getD_eq_getElem?_getD, List.getElem?_eq_none (by omega)]; rfl
abbrev SpIsNew : Sp := spOf (fun a : Plan × Str × Pr => [⟨rPlan, a.1⟩, ⟨rS, a.2.1⟩, ⟨rPr, a.2.2⟩]) (fun a => a.1.length < 64 ∧ ∀ i, (a.1.take i).flatten.length < 64) rB (fun a b => b = isNew a.1 a.2.1 a.2.2)
theorem c_is_new (fr : Fr mg) (D : DefOk K mg d_is_new) (k : Nat) (cD : C8.Cal P w K mg base (k + 1) "done_at" SpDone []) : C8.Cal P w K mg base (k + 2) "is_new" SpIsNew [] := by
  have S : FnScope ["plan", "node", "pair"] ["plan", "node", "pair"] d_is_new.scope := C8.fnScope_by (by decide +kernel)
  refine fn_ok ["plan", "node", "pair"] ["plan", "node", "pair"] D S (fun _ _ _ _ _ _ us hl => match us, hl with | [_, _, _], _ => rfl) (fun _ => rfl) fun ⟨pl, x, p⟩ f cdv A outer s H E h hr => ?_
  refine sq_ret' (dv_or (x := decide (x ∈ (pl.take p.1).flatten)) (y := decide (x ∈ p.2)) (ee_cmp o_inST (vv 1) (ee_call (q := fun y : List Str => y.Perm (pl.take p.1).flatten) cD hr (by omega) (ed_cons (vv 0) (ed_cons (dv_fst (vv 2)) (ea_nil ⟨(pl, p.1), h, by rfl, fun y hy => hy.1⟩)))) ?_) fun _ => (dv_cmp o_inST (vv 1) (dv_snd (vv 2)) trivial).is (by rfl)) (by intro _ h; exact h)
  rintro z y rfl hy
  refine ⟨trivial, ?_⟩
  show decide _ = decide _
  exact decide_eq_decide.mpr hy.mem_iff
abbrev SpAgrees (Cn : Addr) : Sp := spOf (fun a : NetD × Plan × Sight × Pr => [⟨rNet Cn, a.1⟩, ⟨rPlan, a.2.1⟩, ⟨rSight, a.2.2.1⟩, ⟨rPr, a.2.2.2⟩]) (fun a => NetOk a.1 ∧ PlanOk a.1 a.2.1 ∧ SightOk a.1 a.2.2.1) rB (fun a b => b = agr a.1 a.2.1 a.2.2.1 a.2.2.2)
theorem c_agrees (fr : Fr mg) (nf : NetF K mg Cn) (D : DefOk K mg d_agrees) (k : Nat) (cI : C8.Cal P w K mg base (k + 2) "is_new" SpIsNew []) : C8.Cal P w K mg base (k + 3) "agrees" (SpAgrees Cn) [] := by
  have S : FnScope ["net", "plan", "sight", "pair", "goal", "node", "place"] ["net", "plan", "sight", "pair"] d_agrees.scope := C8.fnScope_by (by decide +kernel)
  refine fn_ok ["net", "plan", "sight", "pair", "goal", "node", "place"] ["net", "plan", "sight", "pair"] D S (fun _ _ _ _ _ _ us hl => match us, hl with | [_, _, _, _], _ => rfl) (fun _ => rfl) fun ⟨n, pl, sg, p⟩ f cdv A outer s H E ⟨hn, hp, hs⟩ hr => ?_
  have hn : NetOk n := hn
  obtain ⟨pr, e1, e2⟩ := way_at hn hs.g hs.x
  have e2 := e2 (isNew pl sg.2.1 p)
  refine sq_trip 4 5 6 rfl S.nd (vv 2) ?_
  refine sq_ret' (dv_cmp o_eqO (dv_dget (by exact Room.u1 hr) (dv_pick (dv_dget (by exact Room.u1 hr) (f_tables nf.cls nf.tb (vv 0)) (vv 4) e1) (dv_intB (ee_call (q := fun b => b = isNew pl sg.2.1 p) cI hr (by omega) (ed_cons (vv 1) (ed_cons (vv 5) (ed_cons (vv 3) (ea_nil ⟨(pl, sg.2.1, p), ⟨Nat.lt_of_le_of_lt (PlanOk.len hp) (by decide), fun i => Nat.lt_of_le_of_lt (PlanOk.take hp i) (by decide)⟩, by rfl, fun b hb => hb⟩))))) fr.int)) (vv 5) e2) (vv 6) trivial) (by intro _ h; exact h)
end
end K62

end

section
set_option Elab.async false
set_option linter.all false
set_option maxRecDepth 100000
set_option maxHeartbeats 4000000
namespace K62
open PySem PySem.Spec PyProof.Rows L2
section
variable {X : Cx} {Γ : ECtx} {a : Expr} {pos p1 p2 : Pos} {Cn : Addr} {n : NetD}
theorem dv_isNet (c : C8.InsC X.K Cn) (ha : EV X Γ a (rNet Cn) n) (hm : X.mg "isinstance" = none) (hN : X.mg "Net" = some (.ref Cn)) (hg : Gl X "isinstance" := by rfl) (hgN : Gl X "Net" := by rfl) (ns : NS X a := by intro _; rfl) : EV X Γ (.Call (.Name "isinstance" p1) [a, .Name "Net" p2] [] pos) rB true :=
  EE.of (pe_callB (C8.call_isC c) hg hm (by decide +kernel) (pa_cons pe_te (pa_cons (pe_glob (v := .ref Cn) hgN hN rfl (by decide)) pa_nil rfl) (ns _)) (by decide) (by decide) (ns _) rfl) fun W σ H Q hi hh f => ha.te hi hh fun u H1 x e1 px rx => by
    obtain ⟨l, dx, fs, e, hd, _⟩ := net_at rx
    subst e
    exact ⟨l, dx, fs, rfl, hd, f _ H1 true e1 rfl rfl⟩
end
section
variable {P : Program} {w : World} {K : PySem.W.Frag} {mg : Str → Option Value} {base : Heap} {Cn : Addr}
abbrev SpNeedNet (Cn : Addr) : Sp := spOf (fun n : NetD => [⟨rNet Cn, n⟩]) (fun _ => True) rN (fun _ _ => True)
theorem c_need_net (fr : Fr mg) (nf : NetF K mg Cn) (D : DefOk K mg d_need_net) (k : Nat) : C8.Cal P w K mg base (k + 1) "need_net" (SpNeedNet Cn) [] := by
  have S : FnScope ["net"] ["net"] d_need_net.scope := C8.fnScope_by (by decide +kernel)
  refine fn_okN ["net"] ["net"] D S (fun _ _ _ _ _ _ us hl => match us, hl with | [_], _ => rfl) (fun _ => rfl) fun n f cdv A outer s H E h hr => ?_
  exact sq_ifr (pb := (· = false)) (et_not (et_val ((dv_isNet nf.ins (vv 0) fr.isi nf.mgN).imp (by intro b hb; rw [hb]; rfl)))) (fun h => Bool.noConfusion h) fun _ => sq_nil trivial
abbrev SpNeedGoal (Cn : Addr) : Sp := spOf (fun a : NetD × Str => [⟨rNet Cn, a.1⟩, ⟨rS, a.2⟩]) (fun a => a.2 ∈ a.1.goals) rN (fun _ _ => True)
theorem c_need_goal (fr : Fr mg) (nf : NetF K mg Cn) (D : DefOk K mg d_need_goal) (k : Nat) : C8.Cal P w K mg base (k + 1) "need_goal" (SpNeedGoal Cn) [] := by
  have S : FnScope ["net", "goal"] ["net", "goal"] d_need_goal.scope := C8.fnScope_by (by decide +kernel)
  refine fn_okN ["net", "goal"] ["net", "goal"] D S (fun _ _ _ _ _ _ us hl => match us, hl with | [_, _], _ => rfl) (fun _ => rfl) fun ⟨n, g⟩ f cdv A outer s H E h hr => ?_
  refine sq_ifr (et_or2 (pa := (· = false)) (pb := (· = false)) (pr := (· = false)) ?_ ?_) (fun h => Bool.noConfusion h) fun _ => sq_nil trivial
  · exact et_not (et_val ((isi_str (vv 1) fr.isi fr.str).imp (by intro b hb; rw [hb]; rfl)))
  · exact (dt_cmp o_ninST (vv 1) (f_goals nf.cls nf.go (vv 0)) trivial).imp (by intro b hb; rw [hb, decide_eq_true h]; rfl)
abbrev SpIsLot (Cn : Addr) : Sp := spOf (fun a : NetD × List Str => [⟨rNet Cn, a.1⟩, ⟨rT rS, a.2⟩]) (fun a => LotOk a.1 a.2) rB (fun _ b => b = true)
theorem c_is_lot (fr : Fr mg) (nf : NetF K mg Cn) (D : DefOk K mg d_is_lot) (k : Nat) : C8.Cal P w K mg base (k + 1) "is_lot" (SpIsLot Cn) [] := by
  have S : FnScope ["net", "thing", "node", "one", "other"] ["net", "thing"] d_is_lot.scope := C8.fnScope_by (by decide +kernel)
  refine fn_ok ["net", "thing", "node", "one", "other"] ["net", "thing"] D S (fun _ _ _ _ _ _ us hl => match us, hl with | [_, _], _ => rfl) (fun _ => rfl) fun ⟨n, t⟩ f cdv A outer s H E h hr => ?_
  have h : LotOk n t := h
  have hz : t.length < sizeLine := Nat.lt_of_le_of_lt h.few (by decide)
  refine sq_ifr (et_or2 (pa := (· = false)) (pb := (· = false)) (pr := (· = false)) ?_ ?_) (fun h => Bool.noConfusion h) fun _ => ?_
  · exact et_not (et_val ((isi_tuple (vv 1) fr.isi fr.tuple).imp (by intro b hb; rw [hb]; rfl)))
  · refine et_not (et_val (ee_all rfl (lc_map (g := fun _ => true) 2 rfl S.nd (es_tup (vv 1)) hz fun y hy s0 H0 Cc cl fp => (dv_and (isi_str (vv 2) fr.isi fr.str) fun _ => dv_cmp o_inST (vv 2) (f_changing nf.cls nf.ch (vv 0)) trivial).is ?_) fr.all ?_))
    · rw [decide_eq_true (h.mem y hy)]; rfl
    · rintro xs rfl
      have : (t.map fun _ => true).all id = true := by simp
      rw [this]; rfl
  · refine sq_ret' (ee_all (q := (· = true)) rfl (lp_all (ps := (· = t.zip (t.drop 1))) (qe := fun _ b => b = true) 3 4 rfl S.nd ((es_zipT (vv 1) (ee_slT (pr := (· = t.drop 1)) (vv 1) (eo_some ee_int) eo_none ?_) fr.zip).imp' ?_) ?_ fun xs e z hzz s0 H0 Cc cl fp => (dv_cmp o_ltS (vv 3) (vv 4) trivial).is ?_) fr.all ?_) (by intro _ h; exact h)
    · rintro l u ⟨i, rfl, rfl⟩ rfl
      exact cutL_1 _
    · rintro zs ⟨xs, ys, rfl, rfl, rfl⟩; rfl
    · rintro xs rfl
      rw [List.length_zip]; omega
    · rw [e] at hzz
      exact decide_eq_true (ltS_chain h.asc z hzz)
    · rintro ys ⟨xs, e, hp⟩
      rw [List.all_eq_true]
      intro b hb
      obtain ⟨i, hi⟩ := List.mem_iff_getElem?.mp hb
      obtain ⟨z, _, e⟩ := Paired.at2 hp hi
      exact e
abbrev SpNeedDone (Cn : Addr) : Sp := spOf (fun a : NetD × List Str => [⟨rNet Cn, a.1⟩, ⟨rT rS, a.2⟩]) (fun a => LotOk a.1 a.2) rN (fun _ _ => True)
theorem c_need_done (D : DefOk K mg d_need_done) (k : Nat) (cL : C8.Cal P w K mg base (k + 1) "is_lot" (SpIsLot Cn) []) : C8.Cal P w K mg base (k + 2) "need_done" (SpNeedDone Cn) [] := by
  have S : FnScope ["net", "done"] ["net", "done"] d_need_done.scope := C8.fnScope_by (by decide +kernel)
  refine fn_okN ["net", "done"] ["net", "done"] D S (fun _ _ _ _ _ _ us hl => match us, hl with | [_, _], _ => rfl) (fun _ => rfl) fun ⟨n, t⟩ f cdv A outer s H E h hr => ?_
  exact sq_ifr (pb := (· = false)) (et_not (et_val (ee_call cL hr (by omega) (ed_cons (vv 0) (ed_cons (vv 1) (ea_nil ⟨(n, t), h, by rfl, fun b hb => by rw [hb]; rfl⟩)))))) (fun h => Bool.noConfusion h) fun _ => sq_nil trivial
abbrev SpNeedRound (Cn : Addr) : Sp := spOf (fun a : NetD × List Str × List Str => [⟨rNet Cn, a.1⟩, ⟨rT rS, a.2.1⟩, ⟨rT rS, a.2.2⟩]) (fun a => LotOk a.1 a.2.1 ∧ LotOk a.1 a.2.2 ∧ ∀ x ∈ a.2.2, x ∉ a.2.1) rN (fun _ _ => True)
theorem c_need_round (fr : Fr mg) (D : DefOk K mg d_need_round) (k : Nat) (cL : C8.Cal P w K mg base (k + 1) "is_lot" (SpIsLot Cn) []) (cN : C8.Cal P w K mg base (k + 1) "need_net" (SpNeedNet Cn) []) (cD : C8.Cal P w K mg base (k + 2) "need_done" (SpNeedDone Cn) []) : C8.Cal P w K mg base (k + 3) "need_round" (SpNeedRound Cn) [] := by
  have S : FnScope ["net", "done", "lot", "node"] ["net", "done", "lot"] d_need_round.scope := C8.fnScope_by (by decide +kernel)
  refine fn_okN ["net", "done", "lot", "node"] ["net", "done", "lot"] D S (fun _ _ _ _ _ _ us hl => match us, hl with | [_, _, _], _ => rfl) (fun _ => rfl) fun ⟨n, d, l⟩ f cdv A outer s H E ⟨hd, hl, hx⟩ hr => ?_
  refine sq_expr (p := fun _ => True) (ee_call cN hr (by omega) (ed_cons (vv 0) (ea_nil ⟨n, trivial, by rfl, fun b hb => hb⟩))) ?_
  refine sq_expr (p := fun _ => True) (ee_call cD hr (by omega) (ed_cons (vv 0) (ed_cons (vv 1) (ea_nil ⟨(n, d), hd, by rfl, fun b hb => hb⟩)))) ?_
  refine sq_ifr (et_or2 (pa := (· = false)) (pb := (· = false)) (pr := (· = false)) ?_ ?_) (fun h => Bool.noConfusion h) fun _ => sq_nil trivial
  · exact et_not (et_val (ee_call cL hr (by omega) (ed_cons (vv 0) (ed_cons (vv 2) (ea_nil ⟨(n, l), hl, by rfl, fun b hb => by rw [hb]; rfl⟩)))))
  · refine et_val (ee_any rfl (lc_map (g := fun _ => false) 3 rfl S.nd (es_tup (vv 2)) (Nat.lt_of_le_of_lt hl.few (by decide)) fun y hy s0 H0 Cc cl fp => (dv_cmp o_inST (vv 3) (vv 1) trivial).is ?_) fr.any ?_)
    · exact decide_eq_false (hx y hy)
    · rintro xs rfl
      simp
def mixV (n : NetD) (done lot : List Str) (g x : Str) : List (Option Str) :=
  if x ∈ done then [wayN n g true x] else if x ∈ lot ∧ wayN n g true x ≠ wayN n g false x then [wayN n g false x, wayN n g true x] else [wayN n g false x]
abbrev SpMix (Cn : Addr) : Sp := spOf (fun a : NetD × List Str × List Str × Str => [⟨rNet Cn, a.1⟩, ⟨rT rS, a.2.1⟩, ⟨rT rS, a.2.2.1⟩, ⟨rS, a.2.2.2⟩]) (fun a => NetOk a.1 ∧ a.2.2.2 ∈ a.1.goals) (rD (rL rO)) (fun a y => ∀ x ∈ a.1.nodes, lk y x = some (mixV a.1 a.2.1 a.2.2.1 a.2.2.2 x))
theorem c_mixture (fr : Fr mg) (nf : NetF K mg Cn) (D : DefOk K mg d_mixture) (k : Nat) : C8.Cal P w K mg base (k + 1) "mixture" (SpMix Cn) [] := by
  have S : FnScope ["net", "done", "lot", "goal", "old", "new", "found", "node"] ["net", "done", "lot", "goal"] d_mixture.scope := C8.fnScope_by (by decide +kernel)
  refine fn_ok ["net", "done", "lot", "goal", "old", "new", "found", "node"] ["net", "done", "lot", "goal"] D S (fun _ _ _ _ _ _ us hl => match us, hl with | [_, _, _, _], _ => rfl) (fun _ => rfl) fun ⟨n, d, l, g⟩ f cdv A outer s H E ⟨hn, hg⟩ hr => ?_
  have hn : NetOk n := hn
  have hg : g ∈ n.goals := hg
  obtain ⟨pr, e1, _⟩ : ∃ pr, lk n.tabs g = some pr ∧ True := by
    rw [hn.go] at hg
    obtain ⟨pr, e⟩ := lk_some hg; exact ⟨pr, e, trivial⟩
  have at2 : ∀ x ∈ n.nodes, ∀ b : Bool, lk (if b then pr.2 else pr.1) x = some (wayN n g b x) := fun x hx => by
    obtain ⟨pr', e1', h⟩ := way_at hn hg hx
    rw [e1] at e1'; cases e1'; exact h
  refine sq_two 4 5 rfl S.nd (dv_dget (by exact Room.u1 hr) (f_tables nf.cls nf.tb (vv 0)) (vv 3) e1) (fun z hz => ?_)
  subst hz
  refine sq_ownD 6 (R := rL rO) ed_new (fun y hy => ?_) S.nd
  subst hy
  refine sq_for1 7 (R := rS) (inv := fun xs i C' => xs = n.nodes ∧ ∃ kvs : List (Str × List (Option Str)), (∀ x ∈ xs.take i, lk kvs x = some (mixV n d l g x)) ∧ kvs.length ≤ i ∧ C' = ⟨[.base ⟨rNet Cn, n⟩, .base ⟨rT rS, d⟩, .base ⟨rT rS, l⟩, .base ⟨rS, g⟩, .val ⟨rTab, z.1⟩, .val ⟨rTab, z.2⟩, .own 0, .non], [.dct (rL rO) kvs]⟩) rfl PassesOwn.never S.nd (es_tup (f_nodes nf.cls nf.no (vv 0))) (fun xs e => ⟨e, [], by simp, Nat.zero_le _, rfl⟩) (fun xs i x C' e hx ⟨e2, kvs, hk, hl, e3⟩ => ?_) (fun xs C' e ⟨e2, kvs, hk, hl, e3⟩ => ?_)
  · subst e2 e3
    have hxm : x ∈ n.nodes := List.mem_of_getElem? hx
    have en := at2 x hxm true
    have eo := at2 x hxm false
    have hlt := (List.getElem?_eq_some_iff.mp hx).1
    have hn2 := hn.t.n2
    have hz : kvs.length < sizeLine := Nat.lt_of_le_of_lt (show kvs.length ≤ 6 by omega) (by decide)
    have next : ∀ v, v = mixV n d l g x → ∃ C3, (n.nodes = n.nodes ∧ ∃ kvs' : List (Str × List (Option Str)), (∀ x ∈ n.nodes.take (i + 1), lk kvs' x = some (mixV n d l g x)) ∧ kvs'.length ≤ i + 1 ∧ C3 = ⟨[.base ⟨rNet Cn, n⟩, .base ⟨rT rS, d⟩, .base ⟨rT rS, l⟩, .base ⟨rS, g⟩, .val ⟨rTab, z.1⟩, .val ⟨rTab, z.2⟩, .own 0, .non], [.dct (rL rO) kvs']⟩) ∧
        Weak ⟨[.base ⟨rNet Cn, n⟩, .base ⟨rT rS, d⟩, .base ⟨rT rS, l⟩, .base ⟨rS, g⟩, .val ⟨rTab, z.1⟩, .val ⟨rTab, z.2⟩, .own 0, .val ⟨rS, x⟩], [.dct (rL rO) (pt kvs x v)]⟩ C3 := fun v hv => by
      refine ⟨_, ⟨rfl, pt kvs x v, fun y hy => ?_, ?_, rfl⟩, weak_by (.keep (.keep (.keep (.keep (.keep (.keep (.keep (.drop .nil))))))))⟩
      · rw [lk_pt]
        by_cases h : y = x
        · rw [if_pos h, hv, h]
        · rw [if_neg h]
          rw [List.take_add_one, hx] at hy
          rcases List.mem_append.mp hy with hy | hy
          · exact hk y hy
          · exact absurd (by simpa using hy) h
      · exact Nat.le_trans pt_len (by omega)
    refine sq_if (nx1 := fun C2 => C2 = ⟨[.base ⟨rNet Cn, n⟩, .base ⟨rT rS, d⟩, .base ⟨rT rS, l⟩, .base ⟨rS, g⟩, .val ⟨rTab, z.1⟩, .val ⟨rTab, z.2⟩, .own 0, .val ⟨rS, x⟩], [.dct (rL rO) (pt kvs x (mixV n d l g x))]⟩) (dt_cmp o_inST (vv 7) (vv 1) trivial) (fun ht => ?_) (fun hf => ?_) (fun C2 e4 => by rw [e4]; exact sq_nil (next _ rfl))
    · have hd : x ∈ d := of_decide_eq_true ht.symm
      refine sq_dput 6 (by exact Room.u1 hr) (dv_lst (xs := [wayN n g true x]) (el_cons (dv_dget (by exact Room.u1 hr) (vv 5) (vv 7) en) el_nil) (by show 1 ≤ sizeLine; decide)) (vv 7) rfl rfl hz fun zk zv e5 e6 => ?_
      subst e5 e6
      refine sq_nil (C' := ⟨[.base ⟨rNet Cn, n⟩, .base ⟨rT rS, d⟩, .base ⟨rT rS, l⟩, .base ⟨rS, g⟩, .val ⟨rTab, z.1⟩, .val ⟨rTab, z.2⟩, .own 0, .val ⟨rS, zk⟩], [.dct (rL rO) (pt kvs zk [wayN n g true zk])]⟩) ?_ Weak.refl
      unfold mixV; rw [if_pos hd]
    · have hd : x ∉ d := of_decide_eq_false hf.symm
      refine sq_if (nx1 := fun C2 => C2 = ⟨[.base ⟨rNet Cn, n⟩, .base ⟨rT rS, d⟩, .base ⟨rT rS, l⟩, .base ⟨rS, g⟩, .val ⟨rTab, z.1⟩, .val ⟨rTab, z.2⟩, .own 0, .val ⟨rS, x⟩], [.dct (rL rO) (pt kvs x (mixV n d l g x))]⟩) (dt_and (dt_cmp o_inST (vv 7) (vv 2) trivial) fun _ => dt_cmp o_neO (dv_dget (by exact Room.u1 hr) (vv 5) (vv 7) en) (dv_dget (by exact Room.u1 hr) (vv 4) (vv 7) eo) trivial) (fun ht => ?_) (fun hf => ?_) (fun C2 e4 => by rw [e4]; exact sq_nil rfl)
      · refine sq_dput 6 (by exact Room.u1 hr) (dv_lst (xs := [wayN n g false x, wayN n g true x]) (el_cons (dv_dget (by exact Room.u1 hr) (vv 4) (vv 7) eo) (el_cons (dv_dget (by exact Room.u1 hr) (vv 5) (vv 7) en) el_nil)) (by show 2 ≤ sizeLine; decide)) (vv 7) rfl rfl hz fun zk zv e5 e6 => ?_
        subst e5 e6
        refine sq_nil (C' := ⟨[.base ⟨rNet Cn, n⟩, .base ⟨rT rS, d⟩, .base ⟨rT rS, l⟩, .base ⟨rS, g⟩, .val ⟨rTab, z.1⟩, .val ⟨rTab, z.2⟩, .own 0, .val ⟨rS, zk⟩], [.dct (rL rO) (pt kvs zk [wayN n g false zk, wayN n g true zk])]⟩) ?_ Weak.refl
        have ht : zk ∈ l ∧ wayN n g true zk ≠ wayN n g false zk := by simpa using ht
        unfold mixV; rw [if_neg hd, if_pos ht]
      · refine sq_dput 6 (by exact Room.u1 hr) (dv_lst (xs := [wayN n g false x]) (el_cons (dv_dget (by exact Room.u1 hr) (vv 4) (vv 7) eo) el_nil) (by show 1 ≤ sizeLine; decide)) (vv 7) rfl rfl hz fun zk zv e5 e6 => ?_
        subst e5 e6
        refine sq_nil (C' := ⟨[.base ⟨rNet Cn, n⟩, .base ⟨rT rS, d⟩, .base ⟨rT rS, l⟩, .base ⟨rS, g⟩, .val ⟨rTab, z.1⟩, .val ⟨rTab, z.2⟩, .own 0, .val ⟨rS, zk⟩], [.dct (rL rO) (pt kvs zk [wayN n g false zk])]⟩) ?_ Weak.refl
        have hf : ¬ (zk ∈ l ∧ wayN n g true zk ≠ wayN n g false zk) := by intro z; simp [z.1, z.2] at hf
        unfold mixV; rw [if_neg hd, if_neg hf]
  · subst e2 e3
    rw [List.take_length] at hk
    exact sq_seal (.base (.base (.base (.base (.val (.val (.dct inferInstance rfl (.non .nil)))))))) (sq_ret' (vv 6) (by intro y hy; rw [hy]; exact hk))
abbrev SpWays (Cn : Addr) : Sp := spOf (fun a : NetD × List Str × List Str × Str => [⟨rNet Cn, a.1⟩, ⟨rT rS, a.2.1⟩, ⟨rT rS, a.2.2.1⟩, ⟨rS, a.2.2.2⟩]) (fun a => NetOk a.1 ∧ a.2.2.2 ∈ a.1.goals ∧ LotOk a.1 a.2.1 ∧ LotOk a.1 a.2.2.1 ∧ ∀ x ∈ a.2.2.1, x ∉ a.2.1) (rD (rL rO)) (fun a y => ∀ x ∈ a.1.nodes, lk y x = some (mixV a.1 a.2.1 a.2.2.1 a.2.2.2 x))
theorem c_ways (D : DefOk K mg d_ways) (k : Nat) (cR : C8.Cal P w K mg base (k + 3) "need_round" (SpNeedRound Cn) []) (cG : C8.Cal P w K mg base (k + 1) "need_goal" (SpNeedGoal Cn) []) (cM : C8.Cal P w K mg base (k + 1) "mixture" (SpMix Cn) []) : C8.Cal P w K mg base (k + 4) "ways" (SpWays Cn) [] := by
  have S : FnScope ["net", "done", "lot", "goal"] ["net", "done", "lot", "goal"] d_ways.scope := C8.fnScope_by (by decide +kernel)
  refine fn_ok ["net", "done", "lot", "goal"] ["net", "done", "lot", "goal"] D S (fun _ _ _ _ _ _ us hl => match us, hl with | [_, _, _, _], _ => rfl) (fun _ => rfl) fun ⟨n, d, l, g⟩ f cdv A outer s H E ⟨hn, hg, hd, hl, hx⟩ hr => ?_
  refine sq_expr (p := fun _ => True) (ee_call cR hr (by omega) (ed_cons (vv 0) (ed_cons (vv 1) (ed_cons (vv 2) (ea_nil ⟨(n, d, l), ⟨hd, hl, hx⟩, by rfl, fun b hb => hb⟩))))) ?_
  refine sq_expr (p := fun _ => True) (ee_call cG hr (by omega) (ed_cons (vv 0) (ed_cons (vv 3) (ea_nil ⟨(n, g), hg, by rfl, fun b hb => hb⟩)))) ?_
  exact sq_ret (ee_call cM hr (by omega) (ed_cons (vv 0) (ed_cons (vv 1) (ed_cons (vv 2) (ed_cons (vv 3) (ea_nil ⟨(n, d, l, g), ⟨hn, hg⟩, by rfl, fun b hb => hb⟩))))))
end
end K62

end

section
set_option Elab.async false
set_option linter.all false
set_option maxRecDepth 100000
set_option maxHeartbeats 4000000
namespace K62
open PySem PySem.Spec PyProof.Rows L2
def isPair (plan : Plan) (p : Pr) : Prop := p.1 ≤ plan.length ∧ p.2 ∈ parts (plan.getD p.1 [])
structure PairsOk (plan : Plan) (every : List Pr) : Prop where
  mem : ∀ p, p ∈ every ↔ isPair plan p
  few : every.length ≤ 4096
theorem parts_each {l : List Str} {x : List Str} (h : x ∈ parts l) : x.length ≤ l.length := by
  have := subs_each l [[]] 0 (by simp) x h
  omega
theorem parts_len {l : List Str} : (parts l).length = 2 ^ l.length := by
  unfold parts
  rw [subs_len]; simp
theorem subs_sub : ∀ (l : List Str) (f : List (List Str)), ∀ x ∈ subs l f, ∃ y ∈ f, ∃ z, z.Sublist l ∧ x = y ++ z
  | [], f, x, hx => ⟨x, hx, [], List.Sublist.refl _, by simp⟩
  | n :: r, f, x, hx => by
    obtain ⟨y, hy, z, hz, e⟩ := subs_sub r (f ++ f.map (· ++ [n])) x hx
    rcases List.mem_append.mp hy with hy | hy
    · exact ⟨y, hy, z, hz.cons n, e⟩
    · obtain ⟨u, hu, rfl⟩ := List.mem_map.mp hy
      exact ⟨u, hu, n :: z, hz.cons_cons n, by rw [e]; simp⟩
theorem sub_subs : ∀ (l : List Str) (f : List (List Str)) (y : List Str) (z : List Str), y ∈ f → z.Sublist l → y ++ z ∈ subs l f
  | [], f, y, z, hy, hz => by
    have : z = [] := List.sublist_nil.mp hz
    subst this
    simpa [subs] using hy
  | n :: r, f, y, z, hy, hz => by
    cases hz with
    | cons _ h => exact sub_subs r _ y z (List.mem_append_left _ hy) h
    | cons_cons _ h =>
      rename_i z'
      have := sub_subs r (f ++ f.map (· ++ [n])) (y ++ [n]) z' (List.mem_append_right _ (List.mem_map.mpr ⟨y, hy, rfl⟩)) h
      show _ ∈ subs r _
      simpa using this
theorem parts_iff {l x : List Str} : x ∈ parts l ↔ x.Sublist l := by
  constructor
  · intro h
    obtain ⟨y, hy, z, hz, e⟩ := subs_sub l [[]] x h
    have : y = [] := by simpa using hy
    subst this
    rw [e]; simpa using hz
  · intro h
    have := sub_subs l [[]] [] x (by simp) h
    unfold parts
    simpa using this
section
variable {X : Cx} {Γ : ECtx} {a b c d : Expr} {pos : Pos}
theorem et_or4 {pa pb pc pd pr : Bool → Prop} (h1 : ET X Γ a pa) (h2 : ET X Γ b pb) (h3 : ET X Γ c pc) (h4 : ET X Γ d pd) (kf : ∀ x, pd x → pr x := by intro x h; exact h) (n1 : ¬ pa true := by intro h; exact Bool.noConfusion h) (n2 : ¬ pb true := by intro h; exact Bool.noConfusion h) (n3 : ¬ pc true := by intro h; exact Bool.noConfusion h) : ET X Γ (.BoolOp .Or [a, b, c, d] pos) pr :=
  ET.of (PW.pt (pw_or pt_tt (pw_or pt_tt (pw_or pt_tt (pw_or1 pt_tt))))) fun W σ H Q hi hh f => h1.tt hi hh fun v H1 e1 px => by
    cases v with
    | true => exact absurd px n1
    | false =>
      show tOr (tt X b) (tOr (tt X c) (tt X d)) σ H1 Q
      refine h2.tt e1.inv (hh.mono e1) fun v H2 e2 py => ?_
      cases v with
      | true => exact absurd py n2
      | false =>
        show tOr (tt X c) (tt X d) σ H2 Q
        refine h3.tt e2.inv (hh.mono (e1.trans e2)) fun v H3 e3 pz => ?_
        cases v with
        | true => exact absurd pz n3
        | false =>
          show tt X d σ H3 Q
          exact h4.tt e3.inv (hh.mono ((e1.trans e2).trans e3)) fun v H4 e4 pw => f v H4 (((e1.trans e2).trans e3).trans e4) (kf v pw)
end
section
variable {P : Program} {w : World} {K : PySem.W.Frag} {mg : Str → Option Value} {base : Heap} {Cn : Addr}
abbrev SpList {α : Type} (R : RepT α) [Plain R] : Sp := spOf (fun n : List α => [⟨rL R, n⟩]) (fun _ => True) rB (fun _ b => b = true)
abbrev SpNeedPlan (Cn : Addr) : Sp := spOf (fun a : NetD × Plan => [⟨rNet Cn, a.1⟩, ⟨rPlan, a.2⟩]) (fun a => PlanOk a.1 a.2) rN (fun _ _ => True)
theorem c_need_plan (fr : Fr mg) (D : DefOk K mg d_need_plan) (k : Nat) (cI : C8.Cal P w K mg base (k + 1) "is_list" (SpList (rT rS)) []) (cL : C8.Cal P w K mg base (k + 1) "is_lot" (SpIsLot Cn) []) : C8.Cal P w K mg base (k + 2) "need_plan" (SpNeedPlan Cn) [] := by
  have S : FnScope ["net", "plan", "before", "at", "lot", "node"] ["net", "plan"] d_need_plan.scope := C8.fnScope_by (by decide +kernel)
  refine fn_okN ["net", "plan", "before", "at", "lot", "node"] ["net", "plan"] D S (fun _ _ _ _ _ _ us hl => match us, hl with | [_, _], _ => rfl) (fun _ => rfl) fun ⟨n, pl⟩ f cdv A outer s H E h hr => ?_
  have h : PlanOk n pl := h
  refine sq_ifr (pb := (· = false)) (et_not (et_val (ee_call cI hr (by omega) (ed_cons (vv 1) (ea_nil ⟨pl, trivial, by rfl, fun b hb => by rw [hb]; rfl⟩))))) (fun h => Bool.noConfusion h) fun _ => ?_
  refine sq_own 2 (en_lst (R := rS) (xs := []) el_nil (Nat.zero_le _)) (fun y hy => ?_) S.nd
  subst hy
  refine sq_for2 3 4 (R := rNat) (S := rT rS) (inv := fun xs i C' => xs = (List.range pl.length).zip pl ∧ C' = ⟨[.base ⟨rNet Cn, n⟩, .base ⟨rPlan, pl⟩, .own 0, .non, .non, .non], [.lst rS (pl.take i).flatten]⟩) rfl PassesOwn.never S.nd (es_enum (vv 1) fr.enumerate) (fun xs e => by obtain ⟨ys, e1, e2⟩ := e; exact ⟨by rw [e2, e1], rfl⟩) (fun xs i z C' _ hx ⟨e1, e2⟩ => ?_) (fun xs C' e ⟨e1, e2⟩ => sq_nil trivial)
  subst e1 e2
  obtain ⟨_, hz⟩ := List.getElem?_zip_eq_some.mp hx
  have hm : z.2 ∈ pl := List.mem_of_getElem? hz
  obtain ⟨hlot, hne⟩ := h.lot _ hm
  have hfl : (pl.take (i + 1)).flatten = (pl.take i).flatten ++ z.2 := by rw [List.take_add_one, hz]; simp
  have hnew : ∀ x ∈ z.2, x ∉ (pl.take i).flatten := by
    have e := List.take_append_drop (i + 1) pl
    have nd := h.nd
    rw [← e, List.flatten_append, hfl] at nd
    have nd2 := (List.nodup_append.mp (List.nodup_append.mp nd).1).2.2
    intro x hx hx2
    exact nd2 x hx2 x hx rfl
  refine sq_ifr (et_or3 (pa := (· = false)) (pb := (· = false)) (pc := (· = false)) (pr := (· = false)) ?_ ?_ ?_) (fun h => Bool.noConfusion h) fun _ => ?_
  · exact et_not (et_val (ee_call cL hr (by omega) (ed_cons (vv 0) (ed_cons (vv 4) (ea_nil ⟨(n, z.2), hlot, by rfl, fun b hb => by rw [hb]; rfl⟩)))))
  · refine (dt_cmp o_eqI (dv_lenT (vv 4) fr.len) ee_int trivial).imp ?_
    intro b hb
    rw [hb]
    have : 0 < z.2.length := List.length_pos_iff.mpr hne
    exact decide_eq_false (by omega)
  · refine et_val (ee_any rfl (lc_map (g := fun _ => false) 5 rfl S.nd (es_tup (vv 4)) (Nat.lt_of_le_of_lt hlot.few (by decide)) fun y hy s0 H0 Cc cl fp => (dv_cmp o_inSL (vv 5) (vv 2) trivial).is ?_) fr.any ?_)
    · exact decide_eq_false (hnew y hy)
    · rintro xs rfl
      simp
  · have h1 := PlanOk.take h (i + 1)
    rw [hfl, List.length_append] at h1
    refine sq_extT 2 (vv 4) rfl rfl (Nat.le_trans h1 (by decide)) (sq_nil ⟨_, ⟨rfl, rfl⟩, ?_⟩)
    rw [hfl]
    exact weak_by (.keep (.keep (.keep (.drop (.drop (.keep .nil))))))
abbrev SpIsSight (Cn : Addr) : Sp := spOf (fun a : NetD × Sight => [⟨rNet Cn, a.1⟩, ⟨rSight, a.2⟩]) (fun a => SightOk a.1 a.2) rB (fun _ b => b = true)
theorem c_is_sight (fr : Fr mg) (nf : NetF K mg Cn) (D : DefOk K mg d_is_sight) (k : Nat) : C8.Cal P w K mg base (k + 1) "is_sight" (SpIsSight Cn) [] := by
  have S : FnScope ["net", "thing", "goal", "node", "place"] ["net", "thing"] d_is_sight.scope := C8.fnScope_by (by decide +kernel)
  refine fn_ok ["net", "thing", "goal", "node", "place"] ["net", "thing"] D S (fun _ _ _ _ _ _ us hl => match us, hl with | [_, _], _ => rfl) (fun _ => rfl) fun ⟨n, g, x, p⟩ f cdv A outer s H E h hr => ?_
  have h : SightOk n (g, x, p) := h
  refine sq_ifr (et_or2 (pa := (· = false)) (pb := (· = false)) (pr := (· = false)) ?_ ?_) (fun h => Bool.noConfusion h) fun _ => ?_
  · exact et_not (et_val ((isi_tuple (vv 1) fr.isi fr.tuple).imp (by intro b hb; rw [hb]; rfl)))
  · exact (dt_cmp o_neI (dv_lenQ (vv 1) fr.len) ee_int trivial).imp (by intro b hb; rw [hb]; rfl)
  refine sq_ifr (et_or2 (pa := (· = false)) (pb := (· = false)) (pr := (· = false)) ?_ ?_) (fun h => Bool.noConfusion h) fun _ => ?_
  · exact et_not (et_val ((isi_str (dv_q0 (vv 1)) fr.isi fr.str).imp (by intro b hb; rw [hb]; rfl)))
  · exact et_not (et_val ((isi_str (dv_q1 (vv 1)) fr.isi fr.str).imp (by intro b hb; rw [hb]; rfl)))
  refine sq_trip 2 3 4 rfl S.nd (vv 1) ?_
  refine sq_ifr (et_or2 (pa := (· = false)) (pb := (· = false)) (pr := (· = false)) ?_ ?_) (fun h => Bool.noConfusion h) fun _ => ?_
  · exact (dt_cmp o_ninST (vv 2) (f_goals nf.cls nf.go (vv 0)) trivial).imp (by intro b hb; rw [hb, decide_eq_true h.g]; rfl)
  · exact (dt_cmp o_ninST (vv 3) (f_nodes nf.cls nf.no (vv 0)) trivial).imp (by intro b hb; rw [hb, decide_eq_true h.x]; rfl)
  cases p with
  | none => exact sq_ret' (dv_or (x := true) (y := true) ((dv_cmp (o_isN isnO) (vv 4) ee_non trivial).is (by rfl)) fun h => Bool.noConfusion h) (by intro b hb; exact hb)
  | some z =>
    obtain ⟨h1, h2⟩ := h.p z rfl
    refine sq_ret' (dv_or ((dv_cmp (o_isN isnO) (vv 4) ee_non trivial).is (show _ = false by rfl)) fun _ => dv_and3 (isi_strO (vv 4) fr.isi fr.str) (fun _ => dv_cmp o_neS (EE.txt (vv 4)) (vv 3) trivial) fun _ _ => dv_or (dv_cmp o_eqS (EE.txt (vv 4)) (vv 2) trivial) fun _ => dv_cmp o_inST (EE.txt (vv 4)) (f_nodes nf.cls nf.no (vv 0)) trivial) ?_
    intro b hb
    rw [hb]
    have h1 : z ≠ x := h1
    rcases h2 with h2 | h2
    · have h2 : z = g := h2
      simp [h1, h2]
      rw [← h2]; exact h1
    · simp [h1, h2]
abbrev SpNeedSights (Cn : Addr) : Sp := spOf (fun a : NetD × List Sight => [⟨rNet Cn, a.1⟩, ⟨rL rSight, a.2⟩]) (fun a => a.2.length ≤ 12 ∧ ∀ x ∈ a.2, SightOk a.1 x) rN (fun _ _ => True)
theorem c_need_sights (fr : Fr mg) (D : DefOk K mg d_need_sights) (k : Nat) (cI : C8.Cal P w K mg base (k + 1) "is_list" (SpList rSight) []) (cS : C8.Cal P w K mg base (k + 1) "is_sight" (SpIsSight Cn) []) : C8.Cal P w K mg base (k + 2) "need_sights" (SpNeedSights Cn) [] := by
  have S : FnScope ["net", "sights", "at", "sight"] ["net", "sights"] d_need_sights.scope := C8.fnScope_by (by decide +kernel)
  refine fn_okN ["net", "sights", "at", "sight"] ["net", "sights"] D S (fun _ _ _ _ _ _ us hl => match us, hl with | [_, _], _ => rfl) (fun _ => rfl) fun ⟨n, ss⟩ f cdv A outer s H E ⟨h12, h⟩ hr => ?_
  refine sq_ifr (et_or2 (pa := (· = false)) (pb := (· = false)) (pr := (· = false)) ?_ ?_) (fun h => Bool.noConfusion h) fun _ => ?_
  · exact et_not (et_val (ee_call cI hr (by omega) (ed_cons (vv 1) (ea_nil ⟨ss, trivial, by rfl, fun b hb => by rw [hb]; rfl⟩))))
  · exact (dt_cmp o_gt (dv_lenL (vv 1) fr.len) (gI fr.msights) trivial).imp (by intro b hb; rw [hb]; exact decide_eq_false (by have h12 : ss.length ≤ 12 := h12; omega))
  refine sq_for2 2 3 (R := rNat) (S := rSight) (inv := fun xs i C' => xs = (List.range ss.length).zip ss ∧ C' = ⟨[.base ⟨rNet Cn, n⟩, .base ⟨rL rSight, ss⟩, .non, .non], []⟩) rfl PassesOwn.never S.nd (es_enum (vv 1) fr.enumerate) (fun xs e => by obtain ⟨ys, e1, e2⟩ := e; exact ⟨by rw [e2, e1], rfl⟩) (fun xs i z C' _ hx ⟨e1, e2⟩ => ?_) (fun xs C' e ⟨e1, e2⟩ => sq_nil trivial)
  subst e1 e2
  obtain ⟨_, hz⟩ := List.getElem?_zip_eq_some.mp hx
  have hm : z.2 ∈ ss := List.mem_of_getElem? hz
  refine sq_ifr (pb := (· = false)) (et_not (et_val (ee_call cS hr (by omega) (ed_cons (vv 0) (ed_cons (vv 3) (ea_nil ⟨(n, z.2), h _ hm, by rfl, fun b hb => by rw [hb]; rfl⟩)))))) (fun h => Bool.noConfusion h) fun _ => ?_
  exact sq_nil ⟨_, ⟨rfl, rfl⟩, weak_by (.keep (.keep (.drop (.drop .nil))))⟩
structure AllOk (n : NetD) (plan : Plan) (ss : List Sight) : Prop where
  nk : NetOk n
  pk : PlanOk n plan
  s12 : ss.length ≤ 12
  sk : ∀ x ∈ ss, SightOk n x
abbrev GaAll (Cn : Addr) : NetD × Plan × List Sight → List Slot := fun a => [⟨rNet Cn, a.1⟩, ⟨rPlan, a.2.1⟩, ⟨rL rSight, a.2.2⟩]
abbrev SpNeedAll (Cn : Addr) : Sp := spOf (GaAll Cn) (fun a => AllOk a.1 a.2.1 a.2.2) rN (fun _ _ => True)
theorem c_need_all (D : DefOk K mg d_need_all) (k : Nat) (cN : C8.Cal P w K mg base (k + 1) "need_net" (SpNeedNet Cn) []) (cP : C8.Cal P w K mg base (k + 2) "need_plan" (SpNeedPlan Cn) []) (cS : C8.Cal P w K mg base (k + 2) "need_sights" (SpNeedSights Cn) []) : C8.Cal P w K mg base (k + 3) "need_all" (SpNeedAll Cn) [] := by
  have S : FnScope ["net", "plan", "sights"] ["net", "plan", "sights"] d_need_all.scope := C8.fnScope_by (by decide +kernel)
  refine fn_okN ["net", "plan", "sights"] ["net", "plan", "sights"] D S (fun _ _ _ _ _ _ us hl => match us, hl with | [_, _, _], _ => rfl) (fun _ => rfl) fun ⟨n, pl, ss⟩ f cdv A outer s H E h hr => ?_
  refine sq_expr (p := fun _ => True) (ee_call cN hr (by omega) (ed_cons (vv 0) (ea_nil ⟨n, trivial, by rfl, fun b hb => hb⟩))) ?_
  refine sq_expr (p := fun _ => True) (ee_call cP hr (by omega) (ed_cons (vv 0) (ed_cons (vv 1) (ea_nil ⟨(n, pl), h.pk, by rfl, fun b hb => hb⟩)))) ?_
  refine sq_expr (p := fun _ => True) (ee_call cS hr (by omega) (ed_cons (vv 0) (ed_cons (vv 2) (ea_nil ⟨(n, ss), ⟨h.s12, h.sk⟩, by rfl, fun b hb => hb⟩)))) ?_
  exact sq_nil trivial
abbrev SpRound : Sp := spOf (fun a : Plan × Nat => [⟨rPlan, a.1⟩, ⟨rNat, a.2⟩]) (fun _ => True) (rT rS) (fun a y => y = a.1.getD a.2 [])
theorem PlanOk.at6 {n : NetD} {plan : Plan} (h : PlanOk n plan) (i : Nat) : (plan.getD i []).length ≤ 6 := by
  rw [List.getD_eq_getElem?_getD]
  cases e : plan[i]? with
  | none => exact Nat.zero_le _
  | some l => exact (h.lot l (List.mem_of_getElem? e)).1.few
theorem flat2_mem {α β : Type} {xs : List α} {yss : List (List β)} {F : α → List β → Prop} (h : Paired F xs yss) {p : α × β} : p ∈ flat2 xs yss ↔ ∃ (i : Nat) (ys : List β), xs[i]? = some p.1 ∧ yss[i]? = some ys ∧ p.2 ∈ ys := by
  unfold flat2
  rw [List.mem_flatMap]
  constructor
  · rintro ⟨q, hq, hp⟩
    obtain ⟨i, hi⟩ := List.mem_iff_getElem?.mp hq
    obtain ⟨h1, h2⟩ := List.getElem?_zip_eq_some.mp hi
    obtain ⟨y, hy, rfl⟩ := List.mem_map.mp hp
    exact ⟨i, q.2, h1, h2, hy⟩
  · rintro ⟨i, ys, h1, h2, h3⟩
    exact ⟨(p.1, ys), List.mem_iff_getElem?.mpr ⟨i, List.getElem?_zip_eq_some.mpr ⟨h1, h2⟩⟩, List.mem_map.mpr ⟨p.2, h3, rfl⟩⟩
theorem flat2_len {α β : Type} {b : Nat} : ∀ {xs : List α} {yss : List (List β)}, (∀ ys ∈ yss, ys.length ≤ b) → (flat2 xs yss).length ≤ xs.length * b
  | [], yss, _ => by simp [flat2]
  | x :: xs, [], _ => by simp [flat2]
  | x :: xs, ys :: yss, h => by
    have ih := flat2_len (xs := xs) (yss := yss) fun z hz => h z (List.mem_cons_of_mem _ hz)
    have e : flat2 (x :: xs) (ys :: yss) = ys.map (fun y => (x, y)) ++ flat2 xs yss := by simp [flat2]
    rw [e, List.length_append, List.length_map, List.length_cons, Nat.add_mul, Nat.one_mul]
    have := h ys List.mem_cons_self
    omega
abbrev SpPairs : Sp := spOf (fun a : Plan => [⟨rPlan, a⟩]) (fun a => a.length ≤ 6 ∧ ∀ i, (a.getD i []).length ≤ 6) (rL rPr) (fun a y => PairsOk a y)
theorem c_all_pairs (fr : Fr mg) (D : DefOk K mg d_all_pairs) (k : Nat) (cR : C8.Cal P w K mg base (k + 1) "round_at" SpRound []) (cP : C8.Cal P w K mg base (k + 1) "parts_of" SpParts []) : C8.Cal P w K mg base (k + 2) "all_pairs" SpPairs [] := by
  have S : FnScope ["plan", "stage", "lot"] ["plan"] d_all_pairs.scope := C8.fnScope_by (by decide +kernel)
  refine fn_ok ["plan", "stage", "lot"] ["plan"] D S (fun _ _ _ _ _ _ us hl => match us, hl with | [_], _ => rfl) (fun _ => rfl) fun pl f cdv A outer s H E ⟨h1, h2⟩ hr => ?_
  refine sq_ret' (EN.ee (en_lc2 (own := [("stage", 1), ("lot", 2)]) (vs1 := [2]) (R := rNat) (T := rT rS) (S := rPr) (ups := fun x => [(1, ⟨rNat, x⟩)]) (ups1 := fun y => [(2, ⟨rT rS, y⟩)]) (g := gName 1) (g1 := gName 2) (ps := fun xs => xs = List.range (pl.length + 1)) (ps1 := fun x ys => ys.Perm (parts (pl.getD x []))) (qe := fun x y z => z = (x, y)) (bnd := 64) rfl S.nd
    ((es_range (pn := fun n => n = pl.length + 1) ((dv_bin o_add (dv_lenL (vv 0) fr.len) ee_int trivial).imp ?_) fr.range).imp' ?_) (blkOk_by (by rfl)) (by decide) (fun s0 H0 Cc cl fp => pg_name S.nd rfl (by first | exact Or.inl rfl | exact Or.inr rfl)) (fun x => g_name) (fun x u hu => by rw [List.mem_singleton.mp hu]; infer_instance) (fun x u hu => by rw [List.mem_singleton.mp hu]; show 1 ∈ [1, 2]; decide)
    (fun s0 H0 Cc cl fp => pg_name S.nd rfl (by first | exact Or.inl rfl | exact Or.inr rfl)) (fun x => g_name) (fun x u hu => by rw [List.mem_singleton.mp hu]; show 2 ∈ [2]; decide) ?_ ?_ (by decide) (fun xs e x hx s0 H0 Cc cl fp => es_list (ee_call cP hr (by omega) (ea_cons (p := fun y => y = pl.getD x []) (ee_call cR hr (by omega) (ed_cons (vv 0) (ed_cons (vv 1) (ea_nil ⟨(pl, x), trivial, by rfl, fun b hb => hb⟩)))) fun y hy => ea_nil ⟨y, ?_, by rfl, fun z hz => ?_⟩)))
    (fun xs e x hx ys hys y hy s0 H0 Cc cl fp => dv_pair (vv 1) (vv 2)))) ?_
  · intro z hz
    exact ⟨pl.length + 1, hz, rfl, by omega⟩
  · rintro xs ⟨n, rfl, rfl⟩; rfl
  · rintro xs rfl; rw [List.length_range]; omega
  · intro x ys hys
    rw [hys.length_eq, parts_len]
    have : 2 ^ (pl.getD x []).length ≤ 2 ^ 6 := Nat.pow_le_pow_right (by decide) (h2 x)
    omega
  · rw [hy]; exact h2 x
  · rw [hy] at hz; exact hz
  · rintro zs ⟨xs, yss, rfl, hp, hq⟩
    have ez : zs = flat2 (List.range (pl.length + 1)) yss := by rw [paired_map (f := id) (Paired.mp hq fun a b h => h)]; simp
    subst ez
    refine ⟨fun p => ?_, ?_⟩
    · rw [flat2_mem hp]
      constructor
      · rintro ⟨i, ys, e1, e2, e3⟩
        obtain ⟨h1', h2'⟩ := List.getElem?_eq_some_iff.mp e1
        rw [List.length_range] at h1'
        rw [List.getElem_range] at h2'
        obtain ⟨ys', e4, e5⟩ := Paired.at1 hp e1
        rw [e2] at e4; cases e4
        exact ⟨by omega, e5.mem_iff.mp e3⟩
      · rintro ⟨e1, e2⟩
        have e3 : (List.range (pl.length + 1))[p.1]? = some p.1 := by rw [List.getElem?_range (by omega)]
        obtain ⟨ys, e4, e5⟩ := Paired.at1 hp e3
        exact ⟨p.1, ys, e3, e4, e5.mem_iff.mpr e2⟩
    · have := flat2_len (b := 64) (xs := List.range (pl.length + 1)) (yss := yss) fun ys hys => by
        obtain ⟨i, hi⟩ := List.mem_iff_getElem?.mp hys
        obtain ⟨x, _, e5⟩ := Paired.at2 hp hi
        rw [e5.length_eq, parts_len]
        have : 2 ^ (pl.getD x []).length ≤ 2 ^ 6 := Nat.pow_le_pow_right (by decide) (h2 x)
        omega
      rw [List.length_range] at this
      omega
end
end K62

end

section
set_option Elab.async false
set_option linter.all false
set_option maxRecDepth 100000
set_option maxHeartbeats 4000000
/-! plain: rows and stories -/
namespace K62
open PySem PySem.Spec PyProof.Rows L2
structure StoryOk (n : NetD) (plan : Plan) (ss : List Sight) (tale : List Pr) : Prop where
  len : tale.length = ss.length
  pr : ∀ p ∈ tale, isPair plan p
  ag : ∀ (i : Nat) s p, ss[i]? = some s → tale[i]? = some p → agr n plan s p = true
  ch : ∀ (i : Nat) p q, tale[i]? = some p → tale[i + 1]? = some q → fol p q = true
def storyable (n : NetD) (plan : Plan) (ss : List Sight) : Prop := ∃ tale, StoryOk n plan ss tale
structure RowsGood (n : NetD) (plan : Plan) (ss : List Sight) (rows : List (List Pr)) : Prop where
  len : rows.length = ss.length
  ne : ∀ (i : Nat) row, rows[i]? = some row → row ≠ []
  few : ∀ row ∈ rows, row.length ≤ 4096
  el : ∀ (i : Nat) row s, rows[i]? = some row → ss[i]? = some s → ∀ p ∈ row, isPair plan p ∧ agr n plan s p = true
  lnk : ∀ (i : Nat) row row', rows[i]? = some row → rows[i + 1]? = some row' → ∀ p ∈ row, ∃ q ∈ row', fol p q = true
  tl : ∀ tale, StoryOk n plan ss tale → ∀ (i : Nat) p row, tale[i]? = some p → rows[i]? = some row → p ∈ row
def RowsRes (n : NetD) (plan : Plan) (ss : List Sight) : Option (List (List Pr)) → Prop
  | none => ¬ storyable n plan ss
  | some rows => RowsGood n plan ss rows
def stepF (n : NetD) (plan : Plan) (every : List Pr) (rows : List (List Pr)) (s : Sight) : List Pr :=
  if 0 < rows.length then (every.filter (agr n plan s)).filter (fun later => (rows.getLastD []).any fun p => fol p later) else every.filter (agr n plan s)
def fwd (n : NetD) (plan : Plan) (every : List Pr) (ss : List Sight) : List (List Pr) := ss.foldl (fun rows s => rows ++ [stepF n plan every rows s]) []
def back1 (rows : List (List Pr)) (at_ : Nat) : List (List Pr) := rows.set at_ ((rows.getD at_ []).filter fun p => (rows.getD (at_ + 1) []).any fun q => fol p q)
def backs (rows : List (List Pr)) : List (List Pr) := ((List.range (rows.length - 1)).reverse).foldl back1 rows
theorem fwd_snoc {n : NetD} {plan : Plan} {every : List Pr} {ss : List Sight} {s : Sight} : fwd n plan every (ss ++ [s]) = fwd n plan every ss ++ [stepF n plan every (fwd n plan every ss) s] := by unfold fwd; rw [List.foldl_append]; rfl
theorem fwd_len {n : NetD} {plan : Plan} {every : List Pr} (ss : List Sight) : (fwd n plan every ss).length = ss.length := by
  have key : ∀ (l : List Sight) (r : List (List Pr)), (l.foldl (fun rows s => rows ++ [stepF n plan every rows s]) r).length = r.length + l.length := by
    intro l
    induction l with
    | nil => intro r; rfl
    | cons a l ih => intro r; rw [List.foldl_cons, ih, List.length_append, List.length_cons]; simp; omega
  have := key ss []
  simpa [fwd] using this
structure FInv (n : NetD) (plan : Plan) (ss : List Sight) (rows : List (List Pr)) (k : Nat) : Prop where
  len : rows.length = ss.length
  few : ∀ row ∈ rows, row.length ≤ 4096
  el : ∀ (i : Nat) row s, rows[i]? = some row → ss[i]? = some s → ∀ p ∈ row, isPair plan p ∧ agr n plan s p = true
  lnk : ∀ (i : Nat) row row', k ≤ i → rows[i]? = some row → rows[i + 1]? = some row' → ∀ p ∈ row, ∃ q ∈ row', fol p q = true
  tl : ∀ tale, StoryOk n plan ss tale → ∀ (i : Nat) p row, tale[i]? = some p → rows[i]? = some row → p ∈ row
theorem StoryOk.pre {n : NetD} {plan : Plan} {ss : List Sight} {s : Sight} {tale : List Pr} (h : StoryOk n plan (ss ++ [s]) tale) : StoryOk n plan ss (tale.take ss.length) where
  len := by
    rw [List.length_take, h.len, List.length_append]; simp
  pr := fun p hp => h.pr p (List.mem_of_mem_take hp)
  ag := fun i s' p h1 h2 => by
    have hi := (List.getElem?_eq_some_iff.mp h1).1
    rw [List.getElem?_take_of_lt hi] at h2
    exact h.ag i s' p (by rw [List.getElem?_append_left hi]; exact h1) h2
  ch := fun i p q h1 h2 => by
    have hi := (List.getElem?_eq_some_iff.mp h2).1
    rw [List.length_take] at hi
    rw [List.getElem?_take_of_lt (by omega)] at h1 h2
    exact h.ch i p q h1 h2
theorem getLastD_at {α : Type} {l : List α} {d : α} (h : 0 < l.length) : l[l.length - 1]? = some (l.getLastD d) := by
  cases l with
  | nil => simp at h
  | cons a l =>
    rw [← List.getLast?_eq_getElem?]
    simp [List.getLast?_cons]
theorem fwd_inv {n : NetD} {plan : Plan} {every : List Pr} (he : PairsOk plan every) : ∀ (m : Nat) (ss : List Sight), ss.length = m → FInv n plan ss (fwd n plan every ss) m := by
  intro m
  induction m with
  | zero =>
    intro ss hs
    have : ss = [] := List.eq_nil_of_length_eq_zero hs
    subst this
    exact ⟨rfl, fun row h => by simp [fwd] at h, fun i row s h => by simp [fwd] at h, fun i row row' _ h => by simp [fwd] at h, fun tale _ i p row _ h => by simp [fwd] at h⟩
  | succ m ih =>
    intro ss hs
    have hne : ss ≠ [] := fun e => by rw [e] at hs; simp at hs
    obtain ⟨ss', s, rfl⟩ : ∃ ss' s, ss = ss' ++ [s] := ⟨ss.dropLast, ss.getLast hne, (List.dropLast_concat_getLast hne).symm⟩
    have hs' : ss'.length = m := by rw [List.length_append] at hs; simpa using hs
    have I := ih ss' hs'
    have hl := fwd_len (n := n) (plan := plan) (every := every) ss'
    rw [fwd_snoc]
    have hstep : ∀ p ∈ stepF n plan every (fwd n plan every ss') s, p ∈ every ∧ agr n plan s p = true := by
      intro p hp
      unfold stepF at hp
      split at hp
      · have := List.mem_filter.mp (List.mem_filter.mp hp).1; exact this
      · exact List.mem_filter.mp hp
    have hcase : ∀ (i : Nat) row, (fwd n plan every ss' ++ [stepF n plan every (fwd n plan every ss') s])[i]? = some row → ((fwd n plan every ss')[i]? = some row ∧ i < m) ∨ (i = m ∧ row = stepF n plan every (fwd n plan every ss') s) := by
      intro i row h
      by_cases hi : i < m
      · rw [List.getElem?_append_left (by rw [hl, hs']; exact hi)] at h; exact .inl ⟨h, hi⟩
      · rw [List.getElem?_append_right (by rw [hl, hs']; omega), hl, hs'] at h
        by_cases hz : i = m
        · subst hz
          simp at h
          exact .inr ⟨rfl, h.symm⟩
        · have : i - m ≠ 0 := by omega
          obtain ⟨j, hj⟩ := Nat.exists_eq_succ_of_ne_zero this
          rw [hj] at h; simp at h
    refine ⟨by rw [List.length_append, List.length_append, hl]; rfl, fun row h => ?_, fun i row s' h1 h2 p hp => ?_, fun i row row' hk h1 h2 => ?_, fun tale ht i p row h1 h2 => ?_⟩
    · rcases List.mem_append.mp h with h | h
      · exact I.few row h
      · rw [List.mem_singleton.mp h]
        unfold stepF
        split
        · exact Nat.le_trans (List.length_filter_le _ _) (Nat.le_trans (List.length_filter_le _ _) he.few)
        · exact Nat.le_trans (List.length_filter_le _ _) he.few
    · rcases hcase i row h1 with ⟨h, hi⟩ | ⟨rfl, rfl⟩
      · rw [List.getElem?_append_left (by omega)] at h2
        exact I.el i row s' h h2 p hp
      · rw [List.getElem?_append_right (by omega), hs'] at h2
        simp at h2
        subst h2
        obtain ⟨a, b⟩ := hstep p hp
        exact ⟨(he.mem p).mp a, b⟩
    · have := (List.getElem?_eq_some_iff.mp h2).1
      rw [List.length_append, hl, hs'] at this
      simp at this
      omega
    · have hp := ht.pre
      rcases hcase i row h2 with ⟨h, hi⟩ | ⟨rfl, rfl⟩
      · exact I.tl _ hp i p row (by rw [List.getElem?_take_of_lt (by omega)]; exact h1) h
      · have hag : agr n plan s p = true := ht.ag i s p (by rw [List.getElem?_append_right (by omega), hs']; simp) h1
        have hev : p ∈ every.filter (agr n plan s) := List.mem_filter.mpr ⟨(he.mem p).mpr (ht.pr p (List.mem_of_getElem? h1)), hag⟩
        unfold stepF
        split
        · rename_i hpos
          rw [hl, hs'] at hpos
          refine List.mem_filter.mpr ⟨hev, List.any_eq_true.mpr ?_⟩
          have hlt : i - 1 < tale.length := by have := (List.getElem?_eq_some_iff.mp h1).1; omega
          have hq : tale[i - 1]? = some tale[i - 1] := List.getElem?_eq_getElem hlt
          have hrow : (fwd n plan every ss')[i - 1]? = some ((fwd n plan every ss').getLastD []) := by
            have := getLastD_at (l := fwd n plan every ss') (d := []) (by rw [hl, hs']; exact hpos)
            rw [hl, hs'] at this; exact this
          refine ⟨tale[i - 1], I.tl _ hp (i - 1) _ _ (by rw [List.getElem?_take_of_lt (by omega)]; exact hq) hrow, ?_⟩
          exact ht.ch (i - 1) _ p hq (by rw [Nat.sub_add_cancel hpos]; exact h1)
        · exact hev
theorem back_inv {n : NetD} {plan : Plan} {ss : List Sight} : ∀ (k : Nat) (rows : List (List Pr)), k + 1 ≤ rows.length → FInv n plan ss rows k → FInv n plan ss (((List.range k).reverse).foldl back1 rows) 0 := by
  intro k
  induction k with
  | zero => intro rows _ h; exact h
  | succ k ih =>
    intro rows hk h
    rw [List.range_succ, List.reverse_append, List.reverse_singleton, List.singleton_append, List.foldl_cons]
    have hlk : k < rows.length := by omega
    have hset : ∀ (i : Nat) row, (back1 rows k)[i]? = some row → (i ≠ k ∧ rows[i]? = some row) ∨ (i = k ∧ row = (rows.getD k []).filter fun p => (rows.getD (k + 1) []).any fun q => fol p q) := by
      intro i row hr
      unfold back1 at hr
      by_cases e : k = i
      · subst e
        rw [List.getElem?_set_self hlk] at hr
        cases hr
        exact .inr ⟨rfl, rfl⟩
      · rw [List.getElem?_set_ne e] at hr
        exact .inl ⟨fun z => e z.symm, hr⟩
    have hgk : rows[k]? = some (rows.getD k []) := by rw [List.getD_eq_getElem?_getD, List.getElem?_eq_getElem hlk]; rfl
    have hgk1 : rows[k + 1]? = some (rows.getD (k + 1) []) := by rw [List.getD_eq_getElem?_getD, List.getElem?_eq_getElem (by omega : k + 1 < rows.length)]; rfl
    refine ih _ (by unfold back1; rw [List.length_set]; omega) ⟨by unfold back1; rw [List.length_set]; exact h.len, fun row hr => ?_, fun i row s h1 h2 p hp => ?_, fun i row row' hi h1 h2 p hp => ?_, fun tale ht i p row h1 h2 => ?_⟩
    · obtain ⟨i, hi⟩ := List.mem_iff_getElem?.mp hr
      rcases hset i row hi with ⟨_, e⟩ | ⟨_, e⟩
      · exact h.few row (List.mem_of_getElem? e)
      · rw [e]; exact Nat.le_trans (List.length_filter_le _ _) (h.few _ (List.mem_of_getElem? hgk))
    · rcases hset i row h1 with ⟨_, e⟩ | ⟨rfl, e⟩
      · exact h.el i row s e h2 p hp
      · rw [e] at hp
        exact h.el i _ s hgk h2 p (List.mem_filter.mp hp).1
    · rcases hset (i + 1) row' h2 with ⟨_, e2⟩ | ⟨e2, _⟩
      · rcases hset i row h1 with ⟨hne, e1⟩ | ⟨rfl, e1⟩
        · exact h.lnk i row row' (by omega) e1 e2 p hp
        · rw [e1] at hp
          rw [hgk1] at e2
          cases e2
          exact List.any_eq_true.mp (List.mem_filter.mp hp).2
      · omega
    · rcases hset i row h2 with ⟨_, e⟩ | ⟨rfl, e⟩
      · exact h.tl tale ht i p row h1 e
      · rw [e]
        have hp := h.tl tale ht i p _ h1 hgk
        refine List.mem_filter.mpr ⟨hp, List.any_eq_true.mpr ?_⟩
        have hlt : i + 1 < tale.length := by rw [ht.len, ← h.len]; omega
        have hq : tale[i + 1]? = some tale[i + 1] := List.getElem?_eq_getElem hlt
        exact ⟨tale[i + 1], h.tl tale ht (i + 1) _ _ hq hgk1, ht.ch i p _ h1 hq⟩
theorem rows_res {n : NetD} {plan : Plan} {ss : List Sight} {every : List Pr} (he : PairsOk plan every) : RowsRes n plan ss (if ((backs (fwd n plan every ss)).all fun row => decide (0 < row.length)) = true then some (backs (fwd n plan every ss)) else none) := by
  have I0 := fwd_inv (n := n) he ss.length ss rfl
  have hl := fwd_len (n := n) (plan := plan) (every := every) ss
  have I : FInv n plan ss (backs (fwd n plan every ss)) 0 := by
    unfold backs
    by_cases hz : ss.length = 0
    · rw [hl, hz]
      have : FInv n plan ss (fwd n plan every ss) 0 := by rw [← hz]; exact I0
      exact this
    · refine back_inv _ _ (by rw [hl]; omega) ⟨I0.len, I0.few, I0.el, fun i row row' hi h1 h2 => ?_, I0.tl⟩
      have := (List.getElem?_eq_some_iff.mp h2).1
      omega
  split
  · rename_i h
    refine ⟨I.len, fun i row hr e => ?_, I.few, I.el, fun i row row' h1 h2 => I.lnk i row row' (Nat.zero_le _) h1 h2, I.tl⟩
    have := List.all_eq_true.mp h row (List.mem_of_getElem? hr)
    rw [e] at this
    simp at this
  · rename_i h
    rintro ⟨tale, ht⟩
    apply h
    rw [List.all_eq_true]
    intro row hr
    obtain ⟨i, hi⟩ := List.mem_iff_getElem?.mp hr
    have hlt : i < tale.length := by rw [ht.len, ← I.len]; exact (List.getElem?_eq_some_iff.mp hi).1
    have := I.tl tale ht i _ row (List.getElem?_eq_getElem hlt) hi
    exact decide_eq_true (List.length_pos_of_mem this)
/-- good rows hold a story -/
theorem rows_story {n : NetD} {plan : Plan} {ss : List Sight} {rows : List (List Pr)} (h : RowsGood n plan ss rows) : storyable n plan ss := by
  have key : ∀ m, m ≤ rows.length → ∃ acc : List Pr, acc.length = m ∧ (∀ (j : Nat) (p : Pr) (row : List Pr), acc[j]? = some p → rows[j]? = some row → p ∈ row) ∧ (∀ (j : Nat) (p q : Pr), acc[j]? = some p → acc[j + 1]? = some q → fol p q = true) := by
    intro m
    induction m with
    | zero => intro _; exact ⟨[], rfl, by simp, by simp⟩
    | succ m ih =>
      intro hm
      obtain ⟨acc, hl, ha, hc⟩ := ih (by omega)
      have hx : rows[m]? = some rows[m] := List.getElem?_eq_getElem hm
      have hq : ∃ q ∈ rows[m], ∀ p, acc[m - 1]? = some p → 0 < m → fol p q = true := by
        by_cases h0 : 0 < m
        · have hlt : m - 1 < acc.length := by omega
          have hp : acc[m - 1]? = some acc[m - 1] := List.getElem?_eq_getElem hlt
          have hr : rows[m - 1]? = some (rows[m - 1]'(by omega)) := List.getElem?_eq_getElem (by omega)
          obtain ⟨q, q1, q2⟩ := h.lnk (m - 1) _ _ hr (by rw [show m - 1 + 1 = m by omega]; exact hx) _ (ha _ _ _ hp hr)
          exact ⟨q, q1, fun p e _ => by rw [hp] at e; cases e; exact q2⟩
        · obtain ⟨q, q1⟩ := List.exists_mem_of_ne_nil _ (h.ne m _ hx)
          exact ⟨q, q1, fun _ _ z => absurd z h0⟩
      obtain ⟨q, q1, q2⟩ := hq
      refine ⟨acc ++ [q], by rw [List.length_append, hl]; rfl, fun j p r' h1 h2 => ?_, fun j p q' h1 h2 => ?_⟩
      · by_cases hj : j < acc.length
        · rw [List.getElem?_append_left hj] at h1; exact ha j p r' h1 h2
        · have hje : j = acc.length := by have := (List.getElem?_eq_some_iff.mp h1).1; rw [List.length_append] at this; simp at this; omega
          subst hje
          rw [List.getElem?_append_right (Nat.le_refl _)] at h1
          simp at h1
          rw [hl, hx] at h2
          cases h2
          rw [← h1]; exact q1
      · by_cases hj : j + 1 < acc.length
        · rw [List.getElem?_append_left hj] at h2
          rw [List.getElem?_append_left (by omega)] at h1
          exact hc j p q' h1 h2
        · have hje : j + 1 = acc.length := by have := (List.getElem?_eq_some_iff.mp h2).1; rw [List.length_append] at this; simp at this; omega
          rw [List.getElem?_append_right (by omega), hje] at h2
          simp at h2
          rw [List.getElem?_append_left (by omega)] at h1
          rw [← h2]
          exact q2 p (by rw [show m - 1 = j by omega]; exact h1) (by omega)
  obtain ⟨acc, hl, ha, hc⟩ := key rows.length (Nat.le_refl _)
  have hlen := h.len
  refine ⟨acc, by omega, fun p hp => ?_, fun i sg p h1 h2 => ?_, hc⟩
  · obtain ⟨i, hi⟩ := List.mem_iff_getElem?.mp hp
    have hlt := (List.getElem?_eq_some_iff.mp hi).1
    have h1 : rows[i]? = some (rows[i]'(by omega)) := List.getElem?_eq_getElem (by omega)
    have h2 : ss[i]? = some (ss[i]'(by omega)) := List.getElem?_eq_getElem (by omega)
    exact (h.el i _ _ h1 h2 p (ha i p _ hi h1)).1
  · have hlt := (List.getElem?_eq_some_iff.mp h2).1
    have h3 : rows[i]? = some (rows[i]'(by omega)) := List.getElem?_eq_getElem (by omega)
    exact (h.el i _ _ h3 h1 p (ha i p _ h2 h3)).2
/-! ### pairs of sights -/
theorem fol_refl (p : Pr) : fol p p = true := by
  unfold fol
  rw [if_neg (by simp)]
  simp
theorem fol_trans {p q r : Pr} (h1 : fol p q = true) (h2 : fol q r = true) : fol p r = true := by
  unfold fol at *
  by_cases a : p.1 ≠ q.1
  · rw [if_pos a] at h1
    have h1 := of_decide_eq_true h1
    by_cases b : q.1 ≠ r.1
    · rw [if_pos b] at h2
      have h2 := of_decide_eq_true h2
      rw [if_pos (by omega)]; exact decide_eq_true (by omega)
    · have b : q.1 = r.1 := by omega
      rw [if_pos (by omega)]; exact decide_eq_true (by omega)
  · have a' : p.1 = q.1 := by omega
    rw [if_neg a] at h1
    by_cases b : q.1 ≠ r.1
    · rw [if_pos b] at h2
      have h2 := of_decide_eq_true h2
      rw [if_pos (by omega)]; exact decide_eq_true (by omega)
    · rw [if_neg b] at h2
      rw [if_neg (by omega)]
      rw [List.all_eq_true] at *
      intro x hx
      exact h2 x (of_decide_eq_true (h1 x hx))
theorem fol_stage {p q : Pr} (h : fol p q = true) : p.1 ≤ q.1 := by
  unfold fol at h
  by_cases a : p.1 ≠ q.1
  · rw [if_pos a] at h
    have := of_decide_eq_true h
    omega
  · omega
theorem mem_take {plan : Plan} {k : Nat} {x : Str} : x ∈ (plan.take k).flatten ↔ ∃ (i : Nat) (l : List Str), i < k ∧ plan[i]? = some l ∧ x ∈ l := by
  rw [List.mem_flatten]
  constructor
  · rintro ⟨l, hl, hx⟩
    obtain ⟨i, hi⟩ := List.mem_iff_getElem?.mp hl
    have h1 := (List.getElem?_eq_some_iff.mp hi).1
    rw [List.length_take] at h1
    rw [List.getElem?_take_of_lt (by omega)] at hi
    exact ⟨i, l, by omega, hi, hx⟩
  · rintro ⟨i, l, h1, h2, h3⟩
    exact ⟨l, List.mem_iff_getElem?.mpr ⟨i, by rw [List.getElem?_take_of_lt h1]; exact h2⟩, h3⟩
theorem isNew_mono {plan : Plan} {x : Str} {p q : Pr} (hp : isPair plan p) (h : fol p q = true) (hn : isNew plan x p = true) : isNew plan x q = true := by
  unfold isNew at *
  rw [Bool.or_eq_true, decide_eq_true_eq, decide_eq_true_eq] at *
  have hst := fol_stage h
  rcases hn with hn | hn
  · obtain ⟨i, l, a, b, c⟩ := mem_take.mp hn
    exact .inl (mem_take.mpr ⟨i, l, by omega, b, c⟩)
  · by_cases e : p.1 = q.1
    · unfold fol at h
      rw [if_neg (by omega)] at h
      exact .inr (of_decide_eq_true (List.all_eq_true.mp h x hn))
    · have hs : x ∈ plan.getD p.1 [] := (parts_iff.mp hp.2).subset hn
      rw [List.getD_eq_getElem?_getD] at hs
      cases e2 : plan[p.1]? with
      | none => rw [e2] at hs; simp at hs
      | some l =>
        rw [e2] at hs
        exact .inl (mem_take.mpr ⟨p.1, l, by omega, e2, hs⟩)
def two (ss : List Sight) (i j : Nat) (a b : Sight) : List Sight := if i < j then [a, b] else [a]
theorem sub_story {n : NetD} {plan : Plan} {ss : List Sight} (h : storyable n plan ss) {i j : Nat} {a b : Sight} (hij : i ≤ j) (ha : ss[i]? = some a) (hb : ss[j]? = some b) : storyable n plan (two ss i j a b) := by
  obtain ⟨tale, t⟩ := h
  have li : i < tale.length := by rw [t.len]; exact (List.getElem?_eq_some_iff.mp ha).1
  have lj : j < tale.length := by rw [t.len]; exact (List.getElem?_eq_some_iff.mp hb).1
  have ti : tale[i]? = some tale[i] := List.getElem?_eq_getElem li
  have tj : tale[j]? = some tale[j] := List.getElem?_eq_getElem lj
  have chain : ∀ d i (hi : i + d < tale.length), fol (tale[i]'(by omega)) (tale[i + d]) = true := by
    intro d
    induction d with
    | zero => intro i hi; exact fol_refl _
    | succ d ih =>
      intro i hi
      exact fol_trans (ih i (by omega)) (t.ch (i + d) _ _ (List.getElem?_eq_getElem (by omega)) (List.getElem?_eq_getElem hi))
  unfold two
  by_cases h : i < j
  · rw [if_pos h]
    refine ⟨[tale[i], tale[j]], rfl, ?_, ?_, ?_⟩
    · intro p hp
      simp at hp
      rcases hp with rfl | rfl
      · exact t.pr _ (List.getElem_mem li)
      · exact t.pr _ (List.getElem_mem lj)
    · intro k s p h1 h2
      match k, h1, h2 with
      | 0, h1, h2 => simp at h1 h2; subst h1 h2; exact t.ag i _ _ ha ti
      | 1, h1, h2 => simp at h1 h2; subst h1 h2; exact t.ag j _ _ hb tj
      | k + 2, h1, h2 => simp at h1
    · intro k p q h1 h2
      match k, h1, h2 with
      | 0, h1, h2 =>
        simp at h1 h2; subst h1 h2
        have := chain (j - i) i (by omega)
        have e : i + (j - i) = j := by omega
        simpa [e] using this
      | k + 1, h1, h2 => simp at h2
  · rw [if_neg h]
    refine ⟨[tale[i]], rfl, ?_, ?_, ?_⟩
    · intro p hp
      simp at hp
      subst hp
      exact t.pr _ (List.getElem_mem li)
    · intro k s p h1 h2
      match k, h1, h2 with
      | 0, h1, h2 => simp at h1 h2; subst h1 h2; exact t.ag i _ _ ha ti
      | k + 1, h1, h2 => simp at h1
    · intro k p q h1 h2
      simp at h2
/-- sights that fit two by two fit all -/
theorem join_story {n : NetD} {plan : Plan} {ss : List Sight} (h : ∀ (i j : Nat) a b, i ≤ j → ss[i]? = some a → ss[j]? = some b → storyable n plan (two ss i j a b)) : storyable n plan ss := by
  -- the sights that call for the new way
  let up : Sight → Bool := fun s => decide (wayN n s.1 true s.2.1 = s.2.2 ∧ wayN n s.1 false s.2.1 ≠ s.2.2)
  let U : Nat → List Str := fun i => ((ss.take (i + 1)).filter up).map (·.2.1)
  let r : Str → Nat := fun x => plan.findIdx fun l => decide (x ∈ l)
  let st : Nat → Nat := fun i => ((U i).map r).foldl max 0
  let pt_ : Nat → Pr := fun i => (st i, (plan.getD (st i) []).filter fun x => decide (x ∈ U i))
  have hU : ∀ i x, x ∈ U i ↔ ∃ (j : Nat) (s : Sight), j ≤ i ∧ ss[j]? = some s ∧ up s = true ∧ s.2.1 = x := by
    intro i x
    show x ∈ ((ss.take (i + 1)).filter up).map (·.2.1) ↔ _
    rw [List.mem_map]
    constructor
    · rintro ⟨s, hs, e⟩
      obtain ⟨h1, h2⟩ := List.mem_filter.mp hs
      obtain ⟨j, hj⟩ := List.mem_iff_getElem?.mp h1
      have hl := (List.getElem?_eq_some_iff.mp hj).1
      rw [List.length_take] at hl
      rw [List.getElem?_take_of_lt (by omega)] at hj
      exact ⟨j, s, by omega, hj, h2, e⟩
    · rintro ⟨j, s, h1, h2, h3, h4⟩
      exact ⟨s, List.mem_filter.mpr ⟨List.mem_iff_getElem?.mpr ⟨j, by rw [List.getElem?_take_of_lt (by omega)]; exact h2⟩, h3⟩, h4⟩
  have fmax : ∀ (l : List Nat) (a : Nat), a ≤ l.foldl max a ∧ (∀ x ∈ l, x ≤ l.foldl max a) ∧ (l.foldl max a = a ∨ l.foldl max a ∈ l) := by
    intro l
    induction l with
    | nil => intro a; exact ⟨Nat.le_refl _, fun x hx => by simp at hx, .inl rfl⟩
    | cons b l ih =>
      intro a
      obtain ⟨h1, h2, h3⟩ := ih (max a b)
      rw [List.foldl_cons]
      refine ⟨by omega, fun x hx => ?_, ?_⟩
      · rcases List.mem_cons.mp hx with rfl | hx
        · omega
        · exact h2 x hx
      · rcases h3 with h3 | h3
        · by_cases hab : a ≤ b
          · right
            have : l.foldl max (max a b) = b := by rw [h3]; omega
            rw [this]; exact List.mem_cons_self
          · left; rw [h3]; omega
        · exact .inr (List.mem_cons_of_mem _ h3)
  have hr1 : ∀ x, x ∈ plan.flatten → r x < plan.length ∧ x ∈ plan.getD (r x) [] := by
    intro x hx
    obtain ⟨l, hl, hxl⟩ := List.mem_flatten.mp hx
    have hlt : r x < plan.length := List.findIdx_lt_length_of_exists ⟨l, hl, decide_eq_true hxl⟩
    refine ⟨hlt, ?_⟩
    have := List.findIdx_getElem (w := hlt)
    rw [List.getD_eq_getElem?_getD, List.getElem?_eq_getElem hlt]
    exact of_decide_eq_true this
  have hr2 : ∀ (x : Str) (k : Nat) l, plan[k]? = some l → x ∈ l → r x ≤ k := by
    intro x k l hk hx
    obtain ⟨h1, h2⟩ := List.getElem?_eq_some_iff.mp hk
    refine Nat.le_of_not_lt fun hlt => ?_
    have := List.not_of_lt_findIdx hlt
    rw [h2] at this
    simp [hx] at this
  have hrn : ∀ (x : Str) (p : Pr), isPair plan p → isNew plan x p = true → x ∈ plan.flatten ∧ r x ≤ p.1 := by
    intro x p hp hn
    unfold isNew at hn
    rw [Bool.or_eq_true, decide_eq_true_eq, decide_eq_true_eq] at hn
    rcases hn with hn | hn
    · obtain ⟨i, l, a, b, c⟩ := mem_take.mp hn
      exact ⟨List.mem_flatten.mpr ⟨l, List.mem_of_getElem? b, c⟩, Nat.le_trans (hr2 x i l b c) (by omega)⟩
    · have hs : x ∈ plan.getD p.1 [] := (parts_iff.mp hp.2).subset hn
      rw [List.getD_eq_getElem?_getD] at hs
      cases e2 : plan[p.1]? with
      | none => rw [e2] at hs; simp at hs
      | some l =>
        rw [e2] at hs
        exact ⟨List.mem_flatten.mpr ⟨l, List.mem_of_getElem? e2, hs⟩, hr2 x _ l e2 hs⟩
  -- an up sight is met when its node is new, in a story of the two
  have upNew : ∀ s p, up s = true → agr n plan s p = true → isNew plan s.2.1 p = true := by
    intro s p hu ha
    obtain ⟨h1, h2⟩ := of_decide_eq_true hu
    have ha := of_decide_eq_true ha
    cases hn : isNew plan s.2.1 p with
    | true => rfl
    | false => rw [hn] at ha; exact absurd ha h2
  have single : ∀ (i : Nat) s, ss[i]? = some s → ∃ p, isPair plan p ∧ agr n plan s p = true := by
    intro i s hs
    obtain ⟨tale, t⟩ := h i i s s (Nat.le_refl _) hs hs
    unfold two at t
    rw [if_neg (Nat.lt_irrefl i)] at t
    have hl : 0 < tale.length := by rw [t.len]; exact Nat.zero_lt_one
    exact ⟨tale[0], t.pr _ (List.getElem_mem hl), t.ag 0 s _ rfl (List.getElem?_eq_getElem hl)⟩
  have hUin : ∀ i x, x ∈ U i → x ∈ plan.flatten := by
    intro i x hx
    obtain ⟨j, s, _, hs, hu, rfl⟩ := (hU i x).mp hx
    obtain ⟨p, hp, ha⟩ := single j s hs
    exact (hrn _ p hp (upNew s p hu ha)).1
  have hst : ∀ i x, x ∈ U i → r x ≤ st i := by
    intro i x hx
    exact (fmax ((U i).map r) 0).2.1 _ (List.mem_map.mpr ⟨x, hx, rfl⟩)
  have hst2 : ∀ i, st i = 0 ∨ ∃ x ∈ U i, st i = r x := by
    intro i
    rcases (fmax ((U i).map r) 0).2.2 with e | e
    · exact .inl e
    · obtain ⟨x, hx, e⟩ := List.mem_map.mp e
      exact .inr ⟨x, hx, e.symm⟩
  have hpair : ∀ i, isPair plan (pt_ i) := by
    intro i
    refine ⟨?_, parts_iff.mpr List.filter_sublist⟩
    show st i ≤ plan.length
    rcases hst2 i with e | ⟨x, hx, e⟩
    · rw [e]; exact Nat.zero_le _
    · rw [e]; exact Nat.le_of_lt (hr1 x (hUin i x hx)).1
  have hUmono : ∀ i x, x ∈ U i → x ∈ U (i + 1) := by
    intro i x hx
    obtain ⟨j, s, h1, h2⟩ := (hU i x).mp hx
    exact (hU (i + 1) x).mpr ⟨j, s, by omega, h2⟩
  have hfol : ∀ i, fol (pt_ i) (pt_ (i + 1)) = true := by
    intro i
    have hle : st i ≤ st (i + 1) := by
      rcases hst2 i with e | ⟨x, hx, e⟩
      · rw [e]; exact Nat.zero_le _
      · rw [e]; exact hst (i + 1) x (hUmono i x hx)
    show fol (st i, _) (st (i + 1), _) = true
    unfold fol
    by_cases e : st i = st (i + 1)
    · rw [if_neg (by simpa using e)]
      rw [List.all_eq_true]
      intro x hx
      obtain ⟨a, b⟩ := List.mem_filter.mp hx
      exact decide_eq_true (List.mem_filter.mpr ⟨by rw [← e]; exact a, decide_eq_true (hUmono i x (of_decide_eq_true b))⟩)
    · rw [if_pos (by simpa using e)]
      exact decide_eq_true (by show st i < st (i + 1); omega)
  have hag : ∀ (i : Nat) s, ss[i]? = some s → agr n plan s (pt_ i) = true := by
    intro i s hs
    obtain ⟨p, hp, ha⟩ := single i s hs
    by_cases hu : up s = true
    · have hx : s.2.1 ∈ U i := (hU i _).mpr ⟨i, s, Nat.le_refl _, hs, hu, rfl⟩
      have hin := hUin i _ hx
      obtain ⟨h1, h2⟩ := hr1 _ hin
      have hle := hst i _ hx
      have hn : isNew plan s.2.1 (pt_ i) = true := by
        unfold isNew
        rw [Bool.or_eq_true, decide_eq_true_eq, decide_eq_true_eq]
        by_cases e : r s.2.1 = st i
        · right
          refine List.mem_filter.mpr ⟨?_, decide_eq_true hx⟩
          show s.2.1 ∈ plan.getD (st i) []
          rw [← e]; exact h2
        · left
          rw [List.getD_eq_getElem?_getD, List.getElem?_eq_getElem h1] at h2
          exact mem_take.mpr ⟨r s.2.1, _, by show r s.2.1 < st i; omega, List.getElem?_eq_getElem h1, h2⟩
      unfold agr
      rw [hn]
      exact decide_eq_true (of_decide_eq_true hu).1
    · -- either the way does not change, or the old one is called for
      have ha' := of_decide_eq_true ha
      by_cases hsame : wayN n s.1 true s.2.1 = wayN n s.1 false s.2.1
      · unfold agr
        refine decide_eq_true ?_
        have both : ∀ b c : Bool, wayN n s.1 b s.2.1 = wayN n s.1 c s.2.1 := by
          intro b c
          cases b <;> cases c <;> first | rfl | exact hsame | exact hsame.symm
        exact (both _ _).trans ha'
      · have hold : wayN n s.1 false s.2.1 = s.2.2 := by
          cases hn : isNew plan s.2.1 p with
          | false => rw [hn] at ha'; exact ha'
          | true =>
            rw [hn] at ha'
            exact absurd (decide_eq_true (p := wayN n s.1 true s.2.1 = s.2.2 ∧ wayN n s.1 false s.2.1 ≠ s.2.2) ⟨ha', fun z => hsame (ha'.trans z.symm)⟩) hu
        have hnotnew : ∀ q, agr n plan s q = true → isNew plan s.2.1 q = false := by
          intro q hq
          have hq := of_decide_eq_true hq
          cases hn : isNew plan s.2.1 q with
          | false => rfl
          | true => rw [hn] at hq; exact absurd (hq.trans hold.symm) hsame
        have pairwise : ∀ (j : Nat) t, j < i → ss[j]? = some t → up t = true → ∃ b, isPair plan b ∧ isNew plan s.2.1 b = false ∧ isNew plan t.2.1 b = true := by
          intro j t hj ht hut
          obtain ⟨tale, T⟩ := h j i t s (by omega) ht hs
          unfold two at T
          rw [if_pos hj] at T
          have hl : tale.length = 2 := T.len
          have h0 : tale[0]? = some (tale[0]'(by omega)) := List.getElem?_eq_getElem (by omega)
          have h1 : tale[1]? = some (tale[1]'(by omega)) := List.getElem?_eq_getElem (by omega)
          have p0 := T.pr _ (List.mem_of_getElem? h0)
          have p1 := T.pr _ (List.mem_of_getElem? h1)
          have a0 := upNew t _ hut (T.ag 0 t _ rfl h0)
          have a1 := T.ag 1 s _ rfl h1
          exact ⟨_, p1, hnotnew _ a1, isNew_mono p0 (T.ch 0 _ _ h0 h1) a0⟩
        have hn : isNew plan s.2.1 (pt_ i) = false := by
          cases hq : isNew plan s.2.1 (pt_ i) with
          | false => rfl
          | true =>
            exfalso
            have hUlt : ∀ x ∈ U i, ∃ (j : Nat) (t : Sight), j < i ∧ ss[j]? = some t ∧ up t = true ∧ t.2.1 = x := by
              intro x hx
              obtain ⟨j, t, h1, h2, h3, h4⟩ := (hU i x).mp hx
              refine ⟨j, t, ?_, h2, h3, h4⟩
              rcases Nat.lt_or_eq_of_le h1 with z | z
              · exact z
              · subst z; rw [hs] at h2; cases h2; exact absurd h3 hu
            unfold isNew at hq
            rw [Bool.or_eq_true, decide_eq_true_eq, decide_eq_true_eq] at hq
            rcases hq with hq | hq
            · have hq : s.2.1 ∈ (plan.take (st i)).flatten := hq
              rcases hst2 i with e | ⟨x, hx, e⟩
              · rw [e] at hq; simp at hq
              · obtain ⟨j, t, h1, h2, h3, h4⟩ := hUlt x hx
                obtain ⟨b, hb, hb1, hb2⟩ := pairwise j t h1 h2 h3
                have hle := (hrn _ b hb hb2).2
                rw [h4] at hle
                obtain ⟨k, l, k1, k2, k3⟩ := mem_take.mp hq
                have : isNew plan s.2.1 b = true := by
                  unfold isNew
                  rw [Bool.or_eq_true, decide_eq_true_eq]
                  exact .inl (mem_take.mpr ⟨k, l, by omega, k2, k3⟩)
                rw [hb1] at this; cases this
            · obtain ⟨_, hq⟩ := List.mem_filter.mp hq
              have hq := of_decide_eq_true hq
              obtain ⟨j, t, h1, h2, h3, h4⟩ := hUlt _ hq
              obtain ⟨b, hb, hb1, hb2⟩ := pairwise j t h1 h2 h3
              rw [h4, hb1] at hb2; cases hb2
        unfold agr
        rw [hn]
        exact decide_eq_true hold
  refine ⟨(List.range ss.length).map pt_, by simp, fun p hp => ?_, fun i s p h1 h2 => ?_, fun i p q h1 h2 => ?_⟩
  · obtain ⟨i, _, rfl⟩ := List.mem_map.mp hp
    exact hpair i
  · rw [List.getElem?_map] at h2
    obtain ⟨k, hk, rfl⟩ := Option.map_eq_some_iff.mp h2
    obtain ⟨a, b⟩ := List.getElem?_eq_some_iff.mp hk
    rw [List.getElem_range] at b
    subst b
    exact hag i s h1
  · rw [List.getElem?_map] at h1 h2
    obtain ⟨k, hk, rfl⟩ := Option.map_eq_some_iff.mp h1
    obtain ⟨k', hk', rfl⟩ := Option.map_eq_some_iff.mp h2
    obtain ⟨a, b⟩ := List.getElem?_eq_some_iff.mp hk
    obtain ⟨a', b'⟩ := List.getElem?_eq_some_iff.mp hk'
    rw [List.getElem_range] at b b'
    subst b b'
    exact hfol i
end K62

end

section
set_option Elab.async false
set_option linter.all false
set_option maxRecDepth 100000
set_option maxHeartbeats 4000000
namespace K62
open PySem PySem.Spec PyProof.Rows L2
section
variable {P : Program} {w : World} {K : PySem.W.Frag} {mg : Str → Option Value} {base : Heap} {Cn : Addr}
abbrev rRows : RepT (List (List Pr)) := rL (rL rPr)
abbrev SpFollows : Sp := spOf (fun a : Pr × Pr => [⟨rPr, a.1⟩, ⟨rPr, a.2⟩]) (fun a => a.1.2.length ≤ 6) rB (fun a b => b = fol a.1 a.2)
abbrev SpRows (Cn : Addr) : Sp := spOf (GaAll Cn) (fun a => AllOk a.1 a.2.1 a.2.2) (rU rRows) (fun a y => RowsRes a.1 a.2.1 a.2.2 y)
theorem stepF_mem {n : NetD} {plan : Plan} {every : List Pr} {rows : List (List Pr)} {s : Sight} {p : Pr} (h : p ∈ stepF n plan every rows s) : p ∈ every := by
  unfold stepF at h
  split at h
  · exact (List.mem_filter.mp (List.mem_filter.mp h).1).1
  · exact (List.mem_filter.mp h).1
theorem fwd_mem {n : NetD} {plan : Plan} {every : List Pr} : ∀ (ss : List Sight), ∀ row ∈ fwd n plan every ss, (∀ p ∈ row, p ∈ every) ∧ row.length ≤ every.length := by
  intro ss
  have key : ∀ (l : List Sight) (r : List (List Pr)), (∀ row ∈ r, (∀ p ∈ row, p ∈ every) ∧ row.length ≤ every.length) → ∀ row ∈ l.foldl (fun rows s => rows ++ [stepF n plan every rows s]) r, (∀ p ∈ row, p ∈ every) ∧ row.length ≤ every.length := by
    intro l
    induction l with
    | nil => intro r h; exact h
    | cons a l ih =>
      intro r h
      rw [List.foldl_cons]
      apply ih
      intro row hr
      rcases List.mem_append.mp hr with hr | hr
      · exact h row hr
      · rw [List.mem_singleton.mp hr]
        refine ⟨fun p hp => stepF_mem hp, ?_⟩
        unfold stepF
        split
        · exact Nat.le_trans (List.length_filter_le _ _) (List.length_filter_le _ _)
        · exact List.length_filter_le _ _
  exact key ss [] (by simp)
theorem back_mem {every : List Pr} : ∀ (l : List Nat) (rows : List (List Pr)), (∀ row ∈ rows, (∀ p ∈ row, p ∈ every) ∧ row.length ≤ every.length) → (∀ row ∈ l.foldl back1 rows, (∀ p ∈ row, p ∈ every) ∧ row.length ≤ every.length) ∧ (l.foldl back1 rows).length = rows.length := by
  intro l
  induction l with
  | nil => intro rows h; exact ⟨h, rfl⟩
  | cons a l ih =>
    intro rows h
    rw [List.foldl_cons]
    have h2 : ∀ row ∈ back1 rows a, (∀ p ∈ row, p ∈ every) ∧ row.length ≤ every.length := by
      intro row hr
      unfold back1 at hr
      rcases List.mem_or_eq_of_mem_set hr with hr | hr
      · exact h row hr
      · rw [hr]
        by_cases hl : a < rows.length
        · have e : rows.getD a [] = rows[a] := by rw [List.getD_eq_getElem?_getD, List.getElem?_eq_getElem hl]; rfl
          have := h _ (List.getElem_mem hl)
          rw [e]
          exact ⟨fun p hp => this.1 p (List.mem_filter.mp hp).1, Nat.le_trans (List.length_filter_le _ _) this.2⟩
        · have e : rows.getD a [] = [] := by rw [List.getD_eq_getElem?_getD, List.getElem?_eq_none (by omega)]; rfl
          rw [e]
          exact ⟨fun p hp => by simp at hp, Nat.zero_le _⟩
    obtain ⟨h3, h4⟩ := ih _ h2
    refine ⟨h3, h4.trans ?_⟩
    unfold back1; rw [List.length_set]
theorem getD_row {every : List Pr} {rows : List (List Pr)} (h : ∀ row ∈ rows, (∀ p ∈ row, p ∈ every) ∧ row.length ≤ every.length) (i : Nat) : (∀ p ∈ rows.getD i [], p ∈ every) ∧ (rows.getD i []).length ≤ every.length := by
  by_cases hl : i < rows.length
  · have e : rows.getD i [] = rows[i] := by rw [List.getD_eq_getElem?_getD, List.getElem?_eq_getElem hl]; rfl
    rw [e]; exact h _ (List.getElem_mem hl)
  · have e : rows.getD i [] = [] := by rw [List.getD_eq_getElem?_getD, List.getElem?_eq_none (by omega)]; rfl
    rw [e]; exact ⟨fun p hp => by simp at hp, Nat.zero_le _⟩
theorem map_id' {α : Type} (l : List α) : l.map (fun x => x) = l := by simp
theorem isPair6 {n : NetD} {plan : Plan} (h : PlanOk n plan) {p : Pr} (hp : isPair plan p) : p.2.length ≤ 6 := Nat.le_trans (parts_each hp.2) (h.at6 _)
theorem c_rows_of (fr : Fr mg) (D : DefOk K mg d_rows_of) (k : Nat) (cA : C8.Cal P w K mg base (k + 2) "all_pairs" SpPairs []) (cG : C8.Cal P w K mg base (k + 3) "agrees" (SpAgrees Cn) []) (cF : C8.Cal P w K mg base (k + 1) "follows" SpFollows []) : C8.Cal P w K mg base (k + 4) "rows_of" (SpRows Cn) [] := by
  have S : FnScope ["net", "plan", "sights", "every", "rows", "sight", "some", "pair", "later", "at", "row"] ["net", "plan", "sights"] d_rows_of.scope := C8.fnScope_by (by decide +kernel)
  refine fn_ok ["net", "plan", "sights", "every", "rows", "sight", "some", "pair", "later", "at", "row"] ["net", "plan", "sights"] D S (fun _ _ _ _ _ _ us hl => match us, hl with | [_, _, _], _ => rfl) (fun _ => rfl) fun ⟨n, pl, ss⟩ f cdv A outer s H E h hr => ?_
  have h : AllOk n pl ss := h
  have big : (4096 : Nat) < sizeLine := by decide
  refine si_tup [3, 4] (post := fun C1 κs => ∃ every, PairsOk pl every ∧ C1 = ⟨[.base ⟨rNet Cn, n⟩, .base ⟨rPlan, pl⟩, .base ⟨rL rSight, ss⟩, .non, .non, .non, .non, .non, .non, .non, .non], [.lst (rL rPr) []]⟩ ∧ κs = [.val ⟨rL rPr, every⟩, .own 0]) rfl (pgs_cons (pg_name S.nd rfl (Or.inl rfl)) (pgs_cons (pg_name S.nd rfl (Or.inr rfl)) pgs_nil))
    (eis_cons (EI.ee (p := fun y => PairsOk pl y) (ee_call cA hr (by omega) (ed_cons (vv 1) (ea_nil ⟨pl, ⟨h.pk.len, h.pk.at6⟩, by rfl, fun y hy => hy⟩)))) fun C1 κ ⟨e1, y, py, e2⟩ => eis_cons (EI.en (R := rL rPr) (en_lst (xs := []) el_nil (Nat.zero_le _))) fun C2 κ2 ⟨z, hz, e3, e4⟩ => eis_nil ⟨y, py, by rw [e3, hz, e1]; rfl, by rw [e2, e4, e1]; rfl⟩) ?_
  rintro C1 κs ⟨every, he, e1, e2⟩
  subst e1 e2
  refine ⟨rfl, ?_⟩
  have h6 : ∀ p ∈ every, p.2.length ≤ 6 := fun p hp => isPair6 h.pk ((he.mem p).mp hp)
  refine sq_for1 5 (R := rSight) (inv := fun xs i C' => xs = ss ∧ C' = ⟨[.base ⟨rNet Cn, n⟩, .base ⟨rPlan, pl⟩, .base ⟨rL rSight, ss⟩, .val ⟨rL rPr, every⟩, .own 0, .non, .non, .non, .non, .non, .non], [.lst (rL rPr) (fwd n pl every (ss.take i))]⟩) rfl PassesOwn.never S.nd (es_list (vv 2)) (fun xs e => ⟨e, rfl⟩) (fun xs i s C' e hx ⟨e1, e2⟩ => ?_) (fun xs C' e ⟨e1, e2⟩ => ?_)
  · subst e1 e2
    have hs : SightOk n s := h.sk s (List.mem_of_getElem? hx)
    have hfl : (every.filter (agr n pl s)).length ≤ 4096 := Nat.le_trans (List.length_filter_le _ _) he.few
    refine sq_filt 6 7 (R := rPr) (f := agr n pl s) rfl S.nd (es_list (vv 3)) (Nat.lt_of_le_of_lt he.few big) (fun y hy s0 H0 Cc cl fp => et_val (ee_call cG hr (by omega) (ed_cons (vv 0) (ed_cons (vv 1) (ed_cons (vv 5) (ed_cons (vv 7) (ea_nil ⟨(n, pl, s, y), ⟨h.nk, h.pk, hs⟩, by rfl, fun b hb => hb⟩))))))) (fun y hy s0 H0 Cc cl fp => vv 7) ?_
    have hF := fwd_mem (n := n) (plan := pl) (every := every) (xs.take i)
    have hlF : (fwd n pl every (xs.take i)).length ≤ 12 := by rw [fwd_len, List.length_take]; have := h.s12; omega
    refine sq_if (nx1 := fun C2 => C2 = ⟨[.base ⟨rNet Cn, n⟩, .base ⟨rPlan, pl⟩, .base ⟨rL rSight, xs⟩, .val ⟨rL rPr, every⟩, .own 0, .val ⟨rSight, s⟩, .val ⟨rL rPr, stepF n pl every (fwd n pl every (xs.take i)) s⟩, .non, .non, .non, .non], [.lst (rL rPr) (fwd n pl every (xs.take i))]⟩) (dt_cmp o_gt (dv_lenL (vv 4) fr.len) ee_int trivial) (fun ht => ?_) (fun hf => ?_) (fun C2 e4 => ?_)
    · have hpos : 0 < (fwd n pl every (xs.take i)).length := by simp at ht; exact ht
      have hlast : atI (fwd n pl every (xs.take i)) (-1) = some ((fwd n pl every (xs.take i)).getLastD []) := atI_last hpos
      have hlm : (fwd n pl every (xs.take i)).getLastD [] ∈ fwd n pl every (xs.take i) := List.mem_of_getElem? (getLastD_at hpos)
      refine sq_filt 6 8 (R := rPr) (f := fun later => ((fwd n pl every (xs.take i)).getLastD []).any fun p => fol p later) rfl S.nd (es_list (vv 6)) (Nat.lt_of_le_of_lt hfl big)
        (fun y hy s0 H0 Cc cl fp => et_val (ee_any (q := fun b => b = ((fwd n pl every (xs.take i)).getLastD []).any fun p => fol p y) rfl (lc_map (R := rPr) (g := fun p => fol p y) 7 rfl S.nd (es_list (dv_ixL (vv 4) (dv_neg ee_int) hlast)) (Nat.lt_of_le_of_lt (Nat.le_trans (hF _ hlm).2 he.few) big) fun z hz s1 H1 Cd cm fq => ee_call cF hr (by omega) (ed_cons (vv 7) (ed_cons (vv 8) (ea_nil ⟨(z, y), h6 z ((hF _ hlm).1 z hz), by rfl, fun b hb => hb⟩)))) fr.any ?_))
        (fun y hy s0 H0 Cc cl fp => vv 8) (sq_nil ?_)
      · rintro zs rfl
        rw [List.any_map]; rfl
      · unfold stepF; rw [if_pos hpos]; rfl
    · have hpos : ¬ 0 < (fwd n pl every (xs.take i)).length := by
        have h0 := of_decide_eq_false hf.symm
        omega
      refine sq_nil ?_
      unfold stepF; rw [if_neg hpos]; rfl
    · subst e4
      refine sq_append 4 (vv 6) rfl rfl (Nat.lt_of_le_of_lt (Nat.le_trans hlF (by decide)) big) fun y hy => ?_
      subst hy
      refine sq_nil ⟨_, ⟨rfl, rfl⟩, ?_⟩
      have e5 : fwd n pl every (xs.take (i + 1)) = fwd n pl every (xs.take i) ++ [stepF n pl every (fwd n pl every (xs.take i)) s] := by
        rw [List.take_add_one, hx]; exact fwd_snoc
      rw [e5]
      exact weak_by (.keep (.keep (.keep (.keep (.keep (.drop (.drop (.keep (.keep (.keep (.keep .nil)))))))))))
  · subst e1 e2
    rw [List.take_length]
    have hF := fwd_mem (n := n) (plan := pl) (every := every) xs
    have hlF : (fwd n pl every xs).length = xs.length := fwd_len xs
    have h12 := h.s12
    have hz : ((xs.length : Int) - 2 + 1).toNat = (fwd n pl every xs).length - 1 := by rw [hlF]; omega
    refine sq_for1 9 (R := rNat) (inv := fun zs i C' => zs = (List.range ((fwd n pl every xs).length - 1)).reverse ∧ C' = ⟨[.base ⟨rNet Cn, n⟩, .base ⟨rPlan, pl⟩, .base ⟨rL rSight, xs⟩, .val ⟨rL rPr, every⟩, .own 0, .non, .non, .non, .non, .non, .non], [.lst (rL rPr) (((List.range ((fwd n pl every xs).length - 1)).reverse.take i).foldl back1 (fwd n pl every xs))]⟩) rfl PassesOwn.never S.nd
      (es_down2 (z := (xs.length : Int) - 2) ((dv_bin o_sub (dv_lenL (vv 4) fr.len) ee_int trivial).is (by rw [hlF])) (dv_neg ee_int) (dv_neg ee_int) (by omega) (by omega) fr.range) (fun zs e => ⟨by rw [e, hz], rfl⟩) (fun zs i at_ C' e hx ⟨e1, e2⟩ => ?_) (fun zs C' e ⟨e1, e2⟩ => ?_)
    · subst e1 e2
      obtain ⟨hB, hlB⟩ := back_mem (every := every) ((List.range ((fwd n pl every xs).length - 1)).reverse.take i) (fwd n pl every xs) hF
      generalize hcur : ((List.range ((fwd n pl every xs).length - 1)).reverse.take i).foldl back1 (fwd n pl every xs) = cur at *
      have hat : at_ < (fwd n pl every xs).length - 1 := by
        have := List.mem_of_getElem? hx
        rw [List.mem_reverse, List.mem_range] at this; exact this
      have g1 : atI cur (at_ : Int) = some (cur.getD at_ []) := by rw [atI_nat, List.getD_eq_getElem?_getD, List.getElem?_eq_getElem (by omega : at_ < cur.length)]; rfl
      have g2 : atI cur ((at_ : Int) + 1) = some (cur.getD (at_ + 1) []) := by
        have := atI_nat cur (at_ + 1)
        rw [Int.natCast_add] at this
        rw [List.getD_eq_getElem?_getD]
        refine this.trans ?_
        rw [List.getElem?_eq_getElem (by omega : at_ + 1 < cur.length)]; rfl
      have hix : ixN cur.length (at_ : Int) = some at_ := by
        unfold ixN
        rw [if_pos (by omega), if_pos (by omega)]; rfl
      have r1 := getD_row hB at_
      have r2 := getD_row hB (at_ + 1)
      refine sq_lput 4 (p := fun y => y = (cur.getD at_ []).filter fun p => (cur.getD (at_ + 1) []).any fun q => fol p q) rfl (EN.ee (lc_filt (R := rPr) (f := fun p => (cur.getD (at_ + 1) []).any fun q => fol p q) 7 rfl S.nd (es_list (dv_ixL (vv 4) (EE.int (vv 9)) g1)) (Nat.lt_of_le_of_lt (Nat.le_trans r1.2 he.few) big)
        (fun y hy s0 H0 Cc cl fp => et_val (ee_any (q := fun b => b = (cur.getD (at_ + 1) []).any fun q => fol y q) rfl (lc_map (R := rPr) (g := fun q => fol y q) 8 rfl S.nd (es_list (dv_ixL (vv 4) (dv_bin o_add (EE.int (vv 9)) ee_int trivial) g2)) (Nat.lt_of_le_of_lt (Nat.le_trans r2.2 he.few) big) fun z hz s1 H1 Cd cm fq => ee_call cF hr (by omega) (ed_cons (vv 7) (ed_cons (vv 8) (ea_nil ⟨(y, z), h6 y (r1.1 y hy), by rfl, fun b hb => hb⟩)))) fr.any ?_))
        fun y hy s0 H0 Cc cl fp => vv 7)) (EE.int (vv 9)) hix rfl rfl fun y hy => ?_
      · rintro zs rfl
        rw [List.any_map]; rfl
      · subst hy
        refine sq_nil ⟨_, ⟨rfl, rfl⟩, ?_⟩
        have e5 : ((List.range ((fwd n pl every xs).length - 1)).reverse.take (i + 1)).foldl back1 (fwd n pl every xs) = back1 cur at_ := by
          rw [List.take_add_one, hx, List.foldl_append, hcur]; rfl
        rw [e5]
        exact weak_by (.keep (.keep (.keep (.keep (.keep (.keep (.keep (.keep (.keep (.drop (.keep .nil)))))))))))
    · subst e1 e2
      rw [List.take_length]
      obtain ⟨hB, hlB⟩ := back_mem (every := every) ((List.range ((fwd n pl every xs).length - 1)).reverse) (fwd n pl every xs) hF
      have hres := rows_res (n := n) (ss := xs) he
      unfold backs at hres
      generalize hcur : ((List.range ((fwd n pl every xs).length - 1)).reverse).foldl back1 (fwd n pl every xs) = cur at *
      refine sq_seal (.base (.base (.base (.val (.lst inferInstance rfl (.non (.non (.non (.non (.non (.non .nil))))))))))) ?_
      refine sq_ret (ee_if (pb := fun b => b = cur.all fun row => decide (0 < row.length)) (et_val (ee_all rfl (lc_map (R := rL rPr) (g := fun row => decide (0 < row.length)) 10 rfl S.nd (es_list (vv 4)) (Nat.lt_of_le_of_lt (show cur.length ≤ 12 by omega) (by decide)) fun y hy s0 H0 Cc cl fp => (dv_cmp o_gt (dv_lenL (vv 10) fr.len) ee_int trivial).is ?_) fr.all ?_)) (fun ht => EE.someU (vv 4) ?_) fun hf => EE.noneU ?_)
      · show decide ((0 : Int) < (y.length : Int)) = decide (0 < y.length)
        exact decide_eq_decide.mpr (by omega)
      · rintro zs rfl
        rw [List.all_map]; rfl
      · intro x hx
        rw [hx]
        rw [if_pos ht.symm] at hres
        exact hres
      · rw [if_neg (by rw [← hf]; exact Bool.false_ne_true)] at hres
        exact hres
end
end K62

end

section
set_option Elab.async false
set_option linter.all false
set_option maxRecDepth 100000
set_option maxHeartbeats 4000000
namespace K62
open PySem PySem.Spec PyProof.Rows L2
theorem okN_str {z : Str} (h : okN z) : PyData.strOk z = true := by
  unfold PyData.strOk
  rw [← Array.all_toList, List.all_eq_true]
  intro c hc
  have h1 := h.2.2 c hc
  have h2 : ∀ c ∈ letters.cps.toList, c < 0x110000 := by decide +kernel
  exact decide_eq_true (h2 c h1)
theorem strs_shaped {l : List Str} (h : ∀ x ∈ l, PyData.strOk x = true) : (encT l).canLay0 = true ∧ (encT l).depth ≤ 1 := by
  refine ⟨canAll fun d hd => ?_, ?_⟩
  · obtain ⟨x, hx, rfl⟩ := List.mem_map.mp hd
    exact h x hx
  · show PyData.depthAll (l.map .str) + 1 ≤ 1
    rw [depth_strs]; decide
theorem encT_shaped {l : List Str} (h : ∀ x ∈ l, PyData.strOk x = true) : SeqAt.shaped (encT l) = true := shaped_tuple (n := 0) (fun d hd => by
  obtain ⟨x, hx, rfl⟩ := List.mem_map.mp hd
  exact ⟨h x hx, Nat.le_refl _⟩) (by decide)
theorem encTs_shaped {ls : List (List Str)} (h : ∀ l ∈ ls, ∀ x ∈ l, PyData.strOk x = true) : SeqAt.shaped (.list (ls.map encT)) = true := shaped_list (n := 1) (fun d hd => by
  obtain ⟨x, hx, rfl⟩ := List.mem_map.mp hd
  exact strs_shaped (h x hx)) (by decide)
theorem plan_str {n : NetD} {plan : Plan} (hn : NetOk n) (hp : PlanOk n plan) : ∀ l ∈ plan, ∀ x ∈ l, PyData.strOk x = true := fun l hl x hx => okN_str (hn.t.nn x (hn.ch x ((hp.lot l hl).1.mem x hx)))
section
variable {P : Program} {w : World} {K : PySem.W.Frag} {mg : Str → Option Value} {base : Heap} {Cn : Addr}
abbrev SpIsPair : Sp := spOf (fun a : Plan × Pr => [⟨rPlan, a.1⟩, ⟨rPr, a.2⟩]) (fun a => (∀ i, (a.1.getD i []).length ≤ 6) ∧ (∀ l ∈ a.1, ∀ x ∈ l, PyData.strOk x = true) ∧ isPair a.1 a.2) rB (fun _ b => b = true)
theorem c_is_pair (fr : Fr mg) (D : DefOk K mg d_is_pair) (k : Nat) (cI : C8.Cal P w K mg base (k + 1) "is_number" (spOf (fun n : Nat => [⟨rNat, n⟩]) (fun _ => True) rB (fun _ b => b = true)) []) (cR : C8.Cal P w K mg base (k + 1) "round_at" SpRound []) (cP : C8.Cal P w K mg base (k + 1) "parts_of" SpParts []) : C8.Cal P w K mg base (k + 2) "is_pair" SpIsPair [] := by
  have S : FnScope ["plan", "thing"] ["plan", "thing"] d_is_pair.scope := C8.fnScope_by (by decide +kernel)
  refine fn_ok ["plan", "thing"] ["plan", "thing"] D S (fun _ _ _ _ _ _ us hl => match us, hl with | [_, _], _ => rfl) (fun _ => rfl) fun ⟨pl, p⟩ f cdv A outer s H E ⟨h6, hst, h1, h2⟩ hr => ?_
  have h1 : p.1 ≤ pl.length := h1
  refine sq_ifr (et_or4 (pa := (· = false)) (pb := (· = false)) (pc := (· = false)) (pd := (· = false)) (pr := (· = false)) ?_ ?_ ?_ ?_) (fun h => Bool.noConfusion h) fun _ => ?_
  · exact et_not (et_val ((isi_tuple (vv 1) fr.isi fr.tuple).imp (by intro b hb; rw [hb]; rfl)))
  · exact (dt_cmp o_neI (dv_lenP (vv 1) fr.len) ee_int trivial).imp (by intro b hb; rw [hb]; rfl)
  · exact et_not (et_val (ee_call cI hr (by omega) (ed_cons (dv_fst (vv 1)) (ea_nil ⟨p.1, trivial, by rfl, fun b hb => by rw [hb]; rfl⟩))))
  · refine et_not ((dt_chain o_le o_le ee_int (EE.int (dv_fst (vv 1))) (dv_lenL (vv 0) fr.len)).imp ?_)
    intro b hb
    rw [hb]
    simp
    omega
  · refine sq_ret' (dv_and (y := true) (isi_tuple (dv_snd (vv 1)) fr.isi fr.tuple) fun _ => ee_cmp (o_inTL (by exact Room.u65 hr)) (dv_snd (vv 1)) (ee_call (q := fun y : List (List Str) => y.Perm (parts (pl.getD p.1 []))) cP hr (by omega) (ea_cons (p := fun y => y = pl.getD p.1 []) (ee_call cR hr (by omega) (ed_cons (vv 0) (ed_cons (dv_fst (vv 1)) (ea_nil ⟨(pl, p.1), trivial, by rfl, fun b hb => hb⟩)))) fun y hy => ea_nil ⟨y, by rw [hy]; exact h6 _, by rfl, fun z hz => by rw [hy] at hz; exact hz⟩)) ?_) (by intro b hb; rw [hb]; rfl)
    rintro x y rfl hy
    have hlot : ∀ x ∈ pl.getD p.1 [], PyData.strOk x = true := by
      intro x hx
      rw [List.getD_eq_getElem?_getD] at hx
      cases e : pl[p.1]? with
      | none => rw [e] at hx; simp at hx
      | some l => rw [e] at hx; exact hst l (List.mem_of_getElem? e) x hx
    refine ⟨⟨encT_shaped fun z hz => hlot z ((parts_iff.mp h2).subset hz), encTs_shaped fun l hl z hz => hlot z ((parts_iff.mp (hy.mem_iff.mp hl)).subset hz)⟩, ?_⟩
    exact decide_eq_true (hy.mem_iff.mpr h2)
abbrev GaTale (Cn : Addr) : NetD × Plan × List Sight × List Pr → List Slot := fun a => [⟨rNet Cn, a.1⟩, ⟨rPlan, a.2.1⟩, ⟨rL rSight, a.2.2.1⟩, ⟨rL rPr, a.2.2.2⟩]
abbrev SpIsStory (Cn : Addr) : Sp := spOf (GaTale Cn) (fun a => AllOk a.1 a.2.1 a.2.2.1 ∧ StoryOk a.1 a.2.1 a.2.2.1 a.2.2.2) rB (fun _ b => b = true)
theorem all_true {α : Type} {F : α → Bool → Prop} {xs : List α} {ys : List Bool} (h : Paired F xs ys) (hF : ∀ x b, x ∈ xs → F x b → b = true) : ys.all id = true := by
  rw [List.all_eq_true]
  intro b hb
  obtain ⟨i, hi⟩ := List.mem_iff_getElem?.mp hb
  obtain ⟨z, hz, e⟩ := Paired.at2 h hi
  exact hF z b (List.mem_of_getElem? hz) e
theorem c_is_story (fr : Fr mg) (D : DefOk K mg d_is_story) (k : Nat) (cN : C8.Cal P w K mg base (k + 3) "need_all" (SpNeedAll Cn) []) (cL : C8.Cal P w K mg base (k + 1) "is_list" (SpList rPr) []) (cP : C8.Cal P w K mg base (k + 2) "is_pair" SpIsPair []) (cG : C8.Cal P w K mg base (k + 3) "agrees" (SpAgrees Cn) []) (cF : C8.Cal P w K mg base (k + 1) "follows" SpFollows []) : C8.Cal P w K mg base (k + 4) "is_story" (SpIsStory Cn) [] := by
  have S : FnScope ["net", "plan", "sights", "thing", "pair", "sight", "later"] ["net", "plan", "sights", "thing"] d_is_story.scope := C8.fnScope_by (by decide +kernel)
  refine fn_ok ["net", "plan", "sights", "thing", "pair", "sight", "later"] ["net", "plan", "sights", "thing"] D S (fun _ _ _ _ _ _ us hl => match us, hl with | [_, _, _, _], _ => rfl) (fun _ => rfl) fun ⟨n, pl, ss, t⟩ f cdv A outer s H E ⟨h, ht⟩ hr => ?_
  have h : AllOk n pl ss := h
  have ht : StoryOk n pl ss t := ht
  have hz : t.length < sizeLine := by rw [ht.len]; exact Nat.lt_of_le_of_lt h.s12 (by decide)
  refine sq_expr (p := fun _ => True) (ee_call cN hr (by omega) (ed_cons (vv 0) (ed_cons (vv 1) (ed_cons (vv 2) (ea_nil ⟨(n, pl, ss), h, by rfl, fun b hb => hb⟩))))) ?_
  refine sq_ifr (et_or3 (pa := (· = false)) (pb := (· = false)) (pc := (· = false)) (pr := (· = false)) ?_ ?_ ?_) (fun h => Bool.noConfusion h) fun _ => ?_
  · exact et_not (et_val (ee_call cL hr (by omega) (ed_cons (vv 3) (ea_nil ⟨t, trivial, by rfl, fun b hb => by rw [hb]; rfl⟩))))
  · exact (dt_cmp o_neI (dv_lenL (vv 3) fr.len) (dv_lenL (vv 2) fr.len) trivial).imp (by intro b hb; rw [hb, ht.len]; simp)
  · refine et_not (et_val (ee_all rfl (lc_map (R := rPr) (g := fun _ => true) 4 rfl S.nd (es_list (vv 3)) hz fun y hy s0 H0 Cc cl fp => ee_call cP hr (by omega) (ed_cons (vv 1) (ed_cons (vv 4) (ea_nil ⟨(pl, y), ⟨h.pk.at6, plan_str h.nk h.pk, ht.pr y hy⟩, by rfl, fun b hb => hb⟩)))) fr.all ?_))
    rintro xs rfl
    have : (t.map fun _ => true).all id = true := by simp
    rw [this]; rfl
  refine sq_ifr (pb := (· = false)) (et_not (et_val (ee_all rfl (lp_all (R := rSight) (S := rPr) (T := rB) (ps := fun zs => zs = ss.zip t) (qe := fun z b => b = agr n pl z.1 z.2) 5 4 rfl S.nd (ES.imp' (es_zip (vv 2) (vv 3) fr.zip) ?_) ?_ fun xs e z hzz s0 H0 Cc cl fp => ee_call cG hr (by omega) (ed_cons (vv 0) (ed_cons (vv 1) (ed_cons (vv 5) (ed_cons (vv 4) (ea_nil ⟨(n, pl, z.1, z.2), ⟨h.nk, h.pk, ?_⟩, by rfl, fun b hb => hb⟩)))))) fr.all ?_))) (fun h => Bool.noConfusion h) fun _ => ?_
  · rintro zs ⟨xs, ys, rfl, rfl, rfl⟩; rfl
  · rintro xs rfl; rw [List.length_zip]; omega
  · rw [e] at hzz; exact h.sk _ (List.of_mem_zip hzz).1
  · rintro ys ⟨xs, rfl, hp⟩
    have : ys.all id = true := all_true hp fun z b hzz hb => by
      rw [hb]
      obtain ⟨i, hi⟩ := List.mem_iff_getElem?.mp hzz
      obtain ⟨a1, a2⟩ := List.getElem?_zip_eq_some.mp hi
      exact ht.ag i _ _ a1 a2
    rw [this]; rfl
  refine sq_ret' (ee_all (q := (· = true)) rfl (lp_all (R := rPr) (S := rPr) (T := rB) (ps := fun zs => zs = t.zip (t.drop 1)) (qe := fun z b => b = fol z.1 z.2) 4 6 rfl S.nd (ES.imp' (es_zip (vv 3) (EN.ee (en_slL (pr := (· = t.drop 1)) (vv 3) (eo_some ee_int) eo_none ?_)) fr.zip) ?_) ?_ fun xs e z hzz s0 H0 Cc cl fp => ee_call cF hr (by omega) (ed_cons (vv 4) (ed_cons (vv 6) (ea_nil ⟨(z.1, z.2), ?_, by rfl, fun b hb => hb⟩)))) fr.all ?_) (by intro _ h; exact h)
  · rintro xs l u rfl ⟨i, rfl, rfl⟩ rfl
    exact cutL_1 _
  · rintro zs ⟨xs, ys, rfl, rfl, rfl⟩; rfl
  · rintro xs rfl; rw [List.length_zip]; omega
  · rw [e] at hzz
    exact isPair6 h.pk (ht.pr _ (List.of_mem_zip hzz).1)
  · rintro ys ⟨xs, rfl, hp⟩
    exact all_true hp fun z b hzz hb => by
      rw [hb]
      obtain ⟨i, hi⟩ := List.mem_iff_getElem?.mp hzz
      obtain ⟨a1, a2⟩ := List.getElem?_zip_eq_some.mp hi
      rw [List.getElem?_drop] at a2
      exact ht.ch i _ _ a1 (by rw [Nat.add_comm]; exact a2)
def StoryRes (n : NetD) (plan : Plan) (ss : List Sight) : Option (List Pr) → Prop
  | none => ¬ storyable n plan ss
  | some t => StoryOk n plan ss t
abbrev SpStory (Cn : Addr) : Sp := spOf (GaAll Cn) (fun a => AllOk a.1 a.2.1 a.2.2) (rU (rL rPr)) (fun a y => StoryRes a.1 a.2.1 a.2.2 y)
theorem c_story (fr : Fr mg) (D : DefOk K mg d_story) (k : Nat) (cN : C8.Cal P w K mg base (k + 3) "need_all" (SpNeedAll Cn) []) (cR : C8.Cal P w K mg base (k + 4) "rows_of" (SpRows Cn) []) (cF : C8.Cal P w K mg base (k + 1) "follows" SpFollows []) : C8.Cal P w K mg base (k + 5) "story" (SpStory Cn) [] := by
  have S : FnScope ["net", "plan", "sights", "rows", "found", "row", "pair"] ["net", "plan", "sights"] d_story.scope := C8.fnScope_by (by decide +kernel)
  refine fn_ok ["net", "plan", "sights", "rows", "found", "row", "pair"] ["net", "plan", "sights"] D S (fun _ _ _ _ _ _ us hl => match us, hl with | [_, _, _], _ => rfl) (fun _ => rfl) fun ⟨n, pl, ss⟩ f cdv A outer s H E h hr => ?_
  have h : AllOk n pl ss := h
  have big : (4096 : Nat) < sizeLine := by decide
  refine sq_expr (p := fun _ => True) (ee_call cN hr (by omega) (ed_cons (vv 0) (ed_cons (vv 1) (ed_cons (vv 2) (ea_nil ⟨(n, pl, ss), h, by rfl, fun b hb => hb⟩))))) ?_
  refine sq_set 3 (ee_call (q := fun y => RowsRes n pl ss y) cR hr (by omega) (ed_cons (vv 0) (ed_cons (vv 1) (ed_cons (vv 2) (ea_nil ⟨(n, pl, ss), h, by rfl, fun b hb => hb⟩))))) (fun y hy => ?_) S.nd
  refine dq_ifr (dt_cmp (o_isN isnU) (vv 3) ee_non trivial) (fun ht => sq_ret' (EE.noneU (q := fun y => StoryRes n pl ss y) ?_) (by intro _ h; exact h)) fun hn => ?_
  · have : y = none := of_decide_eq_true ht
    rw [this] at hy; exact hy
  have hn : y ≠ none := of_decide_eq_false hn
  obtain ⟨rows, rfl⟩ := Option.ne_none_iff_exists'.mp hn
  have hy : RowsGood n pl ss rows := hy
  refine sq_own 4 (en_lst (R := rPr) (xs := []) el_nil (Nat.zero_le _)) (fun z hz => ?_) S.nd
  subst hz
  refine sq_for1 5 (R := rL rPr) (inv := fun xs i C' => xs = rows ∧ ∃ acc : List Pr, acc.length = i ∧ (∀ (j : Nat) (p : Pr) (row : List Pr), acc[j]? = some p → rows[j]? = some row → p ∈ row) ∧ (∀ (j : Nat) (p q : Pr), acc[j]? = some p → acc[j + 1]? = some q → fol p q = true) ∧ C' = ⟨[.base ⟨rNet Cn, n⟩, .base ⟨rPlan, pl⟩, .base ⟨rL rSight, ss⟩, .val ⟨rU rRows, some rows⟩, .own 0, .non, .non], [.lst rPr acc]⟩) rfl PassesOwn.never S.nd
    (es_list (EE.getU (p := (· = some rows)) (q := (· = rows)) (vv 3) (by simp) (fun x hx => Option.some.inj hx))) (fun xs e => ⟨e, [], rfl, by simp, by simp, rfl⟩) (fun xs i row C' e hx ⟨e1, acc, hl, ha, hc, e2⟩ => ?_) (fun xs C' e ⟨e1, acc, hl, ha, hc, e2⟩ => ?_)
  · subst e1 e2
    have hrow : row.length ≤ 4096 := hy.few row (List.mem_of_getElem? hx)
    have hiss : i < ss.length := by rw [← hy.len]; exact (List.getElem?_eq_some_iff.mp hx).1
    have hsi : ss[i]? = some ss[i] := List.getElem?_eq_getElem hiss
    have hl12 : acc.length ≤ 12 := by have := h.s12; omega
    have hlast : 0 < acc.length → atI acc (-1) = some (acc.getLastD (0, [])) := fun hp => atI_last hp
    have hlastat : 0 < acc.length → acc[i - 1]? = some (acc.getLastD (0, [])) := fun hp => by
      have := getLastD_at (d := (0, [])) hp
      rw [hl] at this; exact this
    have hrprev : 0 < acc.length → ∃ r', xs[i - 1]? = some r' := fun hp => ⟨_, List.getElem?_eq_getElem (by have := (List.getElem?_eq_some_iff.mp hx).1; omega)⟩
    have hlast6 : 0 < acc.length → (acc.getLastD (0, [])).2.length ≤ 6 := fun hp => by
      obtain ⟨r', hr'⟩ := hrprev hp
      have hm := ha (i - 1) _ r' (hlastat hp) hr'
      have : i - 1 < ss.length := by omega
      exact isPair6 h.pk (hy.el (i - 1) r' _ hr' (List.getElem?_eq_getElem this) _ hm).1
    refine sq_append 4 (p := fun x => x ∈ row ∧ (0 < acc.length → fol (acc.getLastD (0, [])) x = true)) (ee_ixL (p := fun x => x ∈ row ∧ (0 < acc.length → fol (acc.getLastD (0, [])) x = true)) (EN.ee (lc_filt (R := rPr) (f := fun x => decide ((acc.length : Int) = 0) || fol (acc.getLastD (0, [])) x) 6 rfl S.nd (es_list (vv 5)) (Nat.lt_of_le_of_lt hrow big)
      (fun y hy' s0 H0 Cc cl fp => dt_or (ET.is (dt_cmp o_eqI (dv_lenL (vv 4) fr.len) ee_int trivial) (by rfl)) fun hz => et_val (ee_call cF hr (by omega) (ed_cons (dv_ixL (vv 4) (dv_neg ee_int) (hlast ?_)) (ed_cons (vv 6) (ea_nil ⟨(acc.getLastD (0, []), y), hlast6 ?_, by rfl, fun b hb => hb⟩))))) fun y hy' s0 H0 Cc cl fp => vv 6)) ee_int ?_) rfl rfl (Nat.lt_of_le_of_lt (Nat.le_trans hl12 (by decide)) big) fun x ⟨hx1, hx2⟩ => ?_
    · have := of_decide_eq_false hz; omega
    · have := of_decide_eq_false hz; omega
    · rintro zs z rfl rfl
      have hne : ∃ x ∈ row, (decide ((acc.length : Int) = 0) || fol (acc.getLastD (0, [])) x) = true := by
        by_cases hp : 0 < acc.length
        · obtain ⟨r', hr'⟩ := hrprev hp
          have hm := ha (i - 1) _ r' (hlastat hp) hr'
          obtain ⟨q, hq, hq2⟩ := hy.lnk (i - 1) r' row hr' (by rw [show i - 1 + 1 = i by omega]; exact hx) _ hm
          exact ⟨q, hq, by rw [hq2]; simp⟩
        · obtain ⟨x, hx'⟩ := List.exists_mem_of_ne_nil row (hy.ne i row hx)
          exact ⟨x, hx', by rw [decide_eq_true (by omega)]; rfl⟩
      obtain ⟨x, hx1, hx2⟩ := hne
      have hpos : 0 < (row.filter fun x => decide ((acc.length : Int) = 0) || fol (acc.getLastD (0, [])) x).length := List.length_pos_of_mem (List.mem_filter.mpr ⟨hx1, hx2⟩)
      refine ⟨_, (atI_nat _ 0).trans (List.getElem?_eq_getElem hpos), ?_⟩
      obtain ⟨b1, b2⟩ := List.mem_filter.mp (List.getElem_mem hpos)
      refine ⟨b1, fun hp => ?_⟩
      rcases Bool.or_eq_true_iff.mp b2 with b2 | b2
      · have := of_decide_eq_true b2; omega
      · exact b2
    · refine sq_nil ⟨_, ⟨rfl, acc ++ [x], by rw [List.length_append, hl]; rfl, fun j p r' h1 h2 => ?_, fun j p q h1 h2 => ?_, rfl⟩, weak_by (.keep (.keep (.keep (.keep (.keep (.drop (.keep .nil)))))))⟩
      · by_cases hj : j < acc.length
        · rw [List.getElem?_append_left hj] at h1; exact ha j p r' h1 h2
        · have hje : j = acc.length := by have := (List.getElem?_eq_some_iff.mp h1).1; rw [List.length_append] at this; simp at this; omega
          subst hje
          rw [List.getElem?_append_right (Nat.le_refl _)] at h1
          simp at h1
          rw [hl, hx] at h2
          cases h2
          rw [← h1]; exact hx1
      · by_cases hj : j + 1 < acc.length
        · rw [List.getElem?_append_left hj] at h2
          rw [List.getElem?_append_left (by omega)] at h1
          exact hc j p q h1 h2
        · have hje : j + 1 = acc.length := by have := (List.getElem?_eq_some_iff.mp h2).1; rw [List.length_append] at this; simp at this; omega
          rw [List.getElem?_append_right (by omega), hje] at h2
          simp at h2
          rw [List.getElem?_append_left (by omega)] at h1
          have hp : 0 < acc.length := by omega
          have := hlastat hp
          rw [show i - 1 = j by omega, h1] at this
          cases this
          rw [← h2]; exact hx2 hp
  · subst e1 e2
    refine sq_seal (.base (.base (.base (.val (.lst inferInstance rfl (.non (.non .nil))))))) (sq_ret (EE.someU (vv 4) ?_))
    rintro x rfl
    refine ⟨by rw [hl, hy.len], fun p hp => ?_, fun i sg p h1 h2 => ?_, hc⟩
    · obtain ⟨i, hi⟩ := List.mem_iff_getElem?.mp hp
      have hlt := (List.getElem?_eq_some_iff.mp hi).1
      have hlen := hy.len
      have h1 : xs[i]? = some (xs[i]'(by omega)) := List.getElem?_eq_getElem (by omega)
      have h2 : ss[i]? = some (ss[i]'(by omega)) := List.getElem?_eq_getElem (by omega)
      exact (hy.el i _ _ h1 h2 p (ha i p _ hi h1)).1
    · have hlt := (List.getElem?_eq_some_iff.mp h2).1
      have h3 : xs[i]? = some (xs[i]'(by omega)) := List.getElem?_eq_getElem (by omega)
      exact (hy.el i _ _ h3 h1 p (ha i p _ h2 h3)).2
end
end K62

end

section
set_option Elab.async false
set_option linter.all false
set_option maxRecDepth 100000
set_option maxHeartbeats 4000000
namespace K62
open PySem PySem.Spec PyProof.Rows L2
theorem ins_mem (l : List Nat) : ∀ (a : List Nat) (k : Nat), (k ∈ l.foldl ins1 a ↔ k ∈ a ∨ k ∈ l) := by
  induction l with
  | nil => intro a k; simp
  | cons b l ih =>
    intro a k
    rw [List.foldl_cons, ih]
    unfold ins1
    split
    · rename_i h
      constructor
      · rintro (h1 | h1)
        · exact .inl h1
        · exact .inr (List.mem_cons_of_mem _ h1)
      · rintro (h1 | h1)
        · exact .inl h1
        · rcases List.mem_cons.mp h1 with rfl | h1
          · exact .inl h
          · exact .inr h1
    · rw [List.mem_append, List.mem_singleton, List.mem_cons]
      constructor
      · rintro ((h1 | h1) | h1)
        · exact .inl h1
        · exact .inr (.inl h1)
        · exact .inr (.inr h1)
      · rintro (h1 | h1 | h1)
        · exact .inl (.inl h1)
        · exact .inl (.inr h1)
        · exact .inr h1
theorem ins_nd (l : List Nat) : ∀ (a : List Nat), a.Nodup → (l.foldl ins1 a).Nodup := by
  induction l with
  | nil => intro a h; exact h
  | cons b l ih =>
    intro a h
    rw [List.foldl_cons]
    apply ih
    unfold ins1
    split
    · exact h
    · rename_i hb
      rw [List.nodup_append]
      refine ⟨h, by simp, fun x hx y hy => ?_⟩
      rw [List.mem_singleton] at hy
      subst hy
      intro e
      subst e
      exact hb hx
theorem nodup_le : ∀ {n : Nat} {l : List Nat}, l.Nodup → (∀ x ∈ l, x < n) → l.length ≤ n
  | 0, [], _, _ => Nat.le_refl _
  | 0, x :: l, _, hb => absurd (hb x List.mem_cons_self) (Nat.not_lt_zero _)
  | n + 1, l, h, hb => by
    by_cases hn : n ∈ l
    · have h1 := nodup_le (n := n) (l := l.erase n) (h.erase n) fun x hx => by
        have h2 := hb x (List.mem_of_mem_erase hx)
        have h3 : x ≠ n := fun e => by
          subst e
          exact (List.Nodup.not_mem_erase h) hx
        omega
      rw [List.length_erase_of_mem hn] at h1
      omega
    · have := nodup_le (n := n) (l := l) h fun x hx => by
        have h2 := hb x hx
        have h3 : x ≠ n := fun e => by subst e; exact hn hx
        omega
      omega
section
variable {X : Cx} {Γ : ECtx} {iter kx vx : Expr} {α β γ : Type} {R : RepT α} {S : RepT β} {T : RepT γ} {pos : Pos} {scope : Scope}
/-- {k: v for x, y in iter}: the keys, natural numbers -/
theorem dp_N [Plain R] [Plain S] (i j : Nat) {x y : Str} {xp yp tp : Pos} {kt : Nat} {ps : List (α × β) → Prop} {kf : α × β → Nat} {qe : α × β → γ → Prop} (hc : X.calm = true) (hN : X.N.Nodup) (hi : ES X Γ (.Tuple [.Name x xp, .Name y yp] kt tp) iter (rP R S) ps) (hz : ∀ xs, ps xs → xs.length < sizeLine)
    (hk : ∀ xs, ps xs → ∀ z ∈ xs, Blk X scope fun B => EV B (((wipeC Γ [i, j]).set i (some ⟨R, z.1⟩)).set j (some ⟨S, z.2⟩)) kx rNat (kf z))
    (he : ∀ xs, ps xs → ∀ z ∈ xs, Blk X scope fun B => EE B (((wipeC Γ [i, j]).set i (some ⟨R, z.1⟩)).set j (some ⟨S, z.2⟩)) vx T (qe z))
    (ok : blkC X.N X.env.scope scope [(x, i), (y, j)] = true := by rfl) (hx : X.N[i]? = some x := by rfl) (hy : X.N[j]? = some y := by rfl) (lx : Blk X scope fun B => Loc B.env.scope x := by intro _ _ _ _ _; first | exact Or.inl rfl | exact Or.inr rfl) (ly : Blk X scope fun B => Loc B.env.scope y := by intro _ _ _ _ _; first | exact Or.inl rfl | exact Or.inr rfl)
    (fx : Blk X scope fun B => (B.fn x = true ∨ B.env.scope.names.lookup x = some .local) := by intro _ _ _ _ _; first | exact Or.inl rfl | exact Or.inr rfl) (fy : Blk X scope fun B => (B.fn y = true ∨ B.env.scope.names.lookup y = some .local) := by intro _ _ _ _ _; first | exact Or.inl rfl | exact Or.inr rfl)
    (hs : ∀ x, foldedSetIterable iter X.env x = pure x := by intro _; rfl) :
    EE X Γ (.DictComp kx vx [⟨.Tuple [.Name x xp, .Name y yp] kt tp, iter, [], 0⟩] scope pos) rKN (fun ks => ∃ xs, ps xs ∧ ks = (xs.map kf).foldl ins1 []) :=
  ee_dcN (own := [(x, i), (y, j)]) (ups := fun z : α × β => [(i, ⟨R, z.1⟩), (j, ⟨S, z.2⟩)]) (g := pr2 X.K i j) hc hN hi (blkOk_by ok) (fun s0 H0 Cc cl fp => pg_two hc hN hx hy (lx s0 H0 Cc cl fp) (ly s0 H0 Cc cl fp) (fx s0 H0 Cc cl fp) (fy s0 H0 Cc cl fp)) (fun z => g_pair)
    (fun z u hu => (List.mem_cons.mp hu).elim (fun e => by rw [e]; exact List.mem_cons_self) fun hu => by rw [List.mem_singleton.mp hu]; exact List.mem_cons_of_mem _ (List.mem_singleton.mpr rfl)) hz (fun xs px z hz => hk xs px z hz) (fun xs px z hz => he xs px z hz) hs
end
section
variable {P : Program} {w : World} {K : PySem.W.Frag} {mg : Str → Option Value} {base : Heap} {Cn : Addr}
/-- the stages told -/
def StagesRes (n : NetD) (plan : Plan) (ss : List Sight) : Option (List (List Nat)) → Prop
  | none => ¬ storyable n plan ss
  | some sts => ∃ rows, RowsGood n plan ss rows ∧ Paired (fun (row : List Pr) (st : List Nat) => ∀ k, k ∈ st ↔ ∃ p ∈ row, p.1 = k) rows sts
abbrev SpStages (Cn : Addr) : Sp := spOf (GaAll Cn) (fun a => AllOk a.1 a.2.1 a.2.2) (rU (rL (rT rNat))) (fun a y => StagesRes a.1 a.2.1 a.2.2 y)
theorem c_stages (fr : Fr mg) (D : DefOk K mg d_stages) (k : Nat) (cN : C8.Cal P w K mg base (k + 3) "need_all" (SpNeedAll Cn) []) (cR : C8.Cal P w K mg base (k + 4) "rows_of" (SpRows Cn) []) : C8.Cal P w K mg base (k + 5) "stages" (SpStages Cn) [] := by
  have S : FnScope ["net", "plan", "sights", "rows", "row", "stage", "changed"] ["net", "plan", "sights"] d_stages.scope := C8.fnScope_by (by decide +kernel)
  refine fn_ok ["net", "plan", "sights", "rows", "row", "stage", "changed"] ["net", "plan", "sights"] D S (fun _ _ _ _ _ _ us hl => match us, hl with | [_, _, _], _ => rfl) (fun _ => rfl) fun ⟨n, pl, ss⟩ f cdv A outer s H E h hr => ?_
  have h : AllOk n pl ss := h
  have big : (4096 : Nat) < sizeLine := by decide
  refine sq_expr (p := fun _ => True) (ee_call cN hr (by omega) (ed_cons (vv 0) (ed_cons (vv 1) (ed_cons (vv 2) (ea_nil ⟨(n, pl, ss), h, by rfl, fun b hb => hb⟩))))) ?_
  refine sq_set 3 (ee_call (q := fun y => RowsRes n pl ss y) cR hr (by omega) (ed_cons (vv 0) (ed_cons (vv 1) (ed_cons (vv 2) (ea_nil ⟨(n, pl, ss), h, by rfl, fun b hb => hb⟩))))) (fun y hy => ?_) S.nd
  refine dq_ifr (dt_cmp (o_isN isnU) (vv 3) ee_non trivial) (fun ht => sq_ret' (EE.noneU (q := fun y => StagesRes n pl ss y) ?_) (by intro _ h; exact h)) fun hn => ?_
  · have : y = none := of_decide_eq_true ht
    rw [this] at hy; exact hy
  have hn : y ≠ none := of_decide_eq_false hn
  obtain ⟨rows, rfl⟩ := Option.ne_none_iff_exists'.mp hn
  have hy : RowsGood n pl ss rows := hy
  have hrl : rows.length ≤ 12 := by rw [hy.len]; exact h.s12
  have hb : ∀ row ∈ rows, ∀ p ∈ row, p.1 < 7 := by
    intro row hr p hp
    obtain ⟨i, hi⟩ := List.mem_iff_getElem?.mp hr
    have hlt := (List.getElem?_eq_some_iff.mp hi).1
    have hlen := hy.len
    have h2 : ss[i]? = some (ss[i]'(by omega)) := List.getElem?_eq_getElem (by omega)
    have := (hy.el i _ _ hi h2 p hp).1.1
    have := h.pk.len
    omega
  refine sq_ret (EE.someU (R := rL (rT rNat)) (p := fun sts => Paired (fun (row : List Pr) (st : List Nat) => ∀ k, k ∈ st ↔ ∃ p ∈ row, p.1 = k) rows sts) (EE.imp (EN.ee (lc_all (R := rL rPr) (S := rT rNat) (ps := fun xs => xs = rows) (qe := fun row st => ∀ k, k ∈ st ↔ ∃ p ∈ row, p.1 = k) 4 rfl S.nd (es_list (EE.getU (p := (· = some rows)) (q := (· = rows)) (vv 3) (by simp) (fun x hx => Option.some.inj hx))) ?_
    fun xs e row hrow s0 H0 Cc cl fp => ee_tupL (EN.ee (en_cb (c_sortKN rfl) (dp_N (R := rNat) (S := rT rS) (T := rB) (ps := fun zs => zs = row) (kf := fun z => z.1) (qe := fun _ b => b = true) 5 6 rfl S.nd (es_list (vv 4)) ?_ (fun zs e z hz s1 H1 Cd cm fq => vv 5) fun zs e z hz s1 H1 Cd cm fq => ee_bl) (fun ks hks => ⟨?_, fun ys hys => ?_⟩) fr.sorted)) fr.tuple)) ?_) ?_)
  · rintro xs rfl; exact Nat.lt_of_le_of_lt (Nat.le_trans hrl (by decide)) big
  · rintro zs rfl
    rw [e] at hrow
    exact Nat.lt_of_le_of_lt (hy.few _ hrow) big
  · obtain ⟨zs, rfl, rfl⟩ := hks
    rw [e] at hrow
    have := nodup_le (n := 7) (ins_nd (zs.map fun z => z.1) [] (by simp)) fun x hx => by
      rcases (ins_mem _ _ _).mp hx with hx | hx
      · simp at hx
      · obtain ⟨p, hp, rfl⟩ := List.mem_map.mp hx
        exact hb zs hrow p hp
    omega
  · obtain ⟨zs, rfl, rfl⟩ := hks
    intro k
    rw [hys.1.mem_iff, ins_mem]
    constructor
    · rintro (hx | hx)
      · simp at hx
      · obtain ⟨p, hp, e⟩ := List.mem_map.mp hx; exact ⟨p, hp, e⟩
    · rintro ⟨p, hp, e⟩; exact .inr (List.mem_map.mpr ⟨p, hp, e⟩)
  · rintro ys ⟨xs, rfl, hp⟩; exact hp
  · intro x hx
    exact ⟨rows, hy, hx⟩
abbrev SpKnown (Cn : Addr) : Sp := spOf (GaAll Cn) (fun a => AllOk a.1 a.2.1 a.2.2 ∧ storyable a.1 a.2.1 a.2.2) (rP (rT rS) (rT rS)) (fun a y => ∀ x ∈ y.1, ∀ tale, StoryOk a.1 a.2.1 a.2.2 tale → ∀ p, tale[a.2.2.length - 1]? = some p → isNew a.2.1 x p = true)
theorem c_known (fr : Fr mg) (D : DefOk K mg d_known) (k : Nat) (cN : C8.Cal P w K mg base (k + 3) "need_all" (SpNeedAll Cn) []) (cR : C8.Cal P w K mg base (k + 4) "rows_of" (SpRows Cn) []) (cI : C8.Cal P w K mg base (k + 2) "is_new" SpIsNew []) : C8.Cal P w K mg base (k + 5) "known" (SpKnown Cn) [] := by
  have S : FnScope ["net", "plan", "sights", "rows", "every", "surely", "node", "lot", "pair"] ["net", "plan", "sights"] d_known.scope := C8.fnScope_by (by decide +kernel)
  refine fn_ok ["net", "plan", "sights", "rows", "every", "surely", "node", "lot", "pair"] ["net", "plan", "sights"] D S (fun _ _ _ _ _ _ us hl => match us, hl with | [_, _, _], _ => rfl) (fun _ => rfl) fun ⟨n, pl, ss⟩ f cdv A outer s H E ⟨h, hst⟩ hr => ?_
  have h : AllOk n pl ss := h
  have big : (4096 : Nat) < sizeLine := by decide
  refine sq_expr (p := fun _ => True) (ee_call cN hr (by omega) (ed_cons (vv 0) (ed_cons (vv 1) (ed_cons (vv 2) (ea_nil ⟨(n, pl, ss), h, by rfl, fun b hb => hb⟩))))) ?_
  refine sq_set 3 (ee_call (q := fun y => RowsRes n pl ss y) cR hr (by omega) (ed_cons (vv 0) (ed_cons (vv 1) (ed_cons (vv 2) (ea_nil ⟨(n, pl, ss), h, by rfl, fun b hb => hb⟩))))) (fun y hy => ?_) S.nd
  have hn : y ≠ none := fun e => by rw [e] at hy; exact hy hst
  obtain ⟨rows, rfl⟩ := Option.ne_none_iff_exists'.mp hn
  have hy : RowsGood n pl ss rows := hy
  have hrl : rows.length ≤ 12 := by rw [hy.len]; exact h.s12
  refine dq_ifr ((dt_cmp (o_isN isnU) (vv 3) ee_non trivial).is (by rfl)) (fun ht => Bool.noConfusion (show false = true from ht)) fun _ => ?_
  have fl2 : ∀ (yss : List (List Str)), Paired (fun (x ys : List Str) => ys = x) pl yss → yss = pl := fun yss hp => by rw [paired_map (f := fun x => x) hp]; simp
  refine sq_set 4 (p := fun ev : List Str => ev.length < 64) (EN.ee (en_sortS (q := fun ev : List Str => ev.length < 64) (EN.ee (en_lc2 (own := [("lot", 7), ("node", 6)]) (vs1 := [6]) (R := rT rS) (T := rS) (S := rS) (ups := fun x => [(7, ⟨rT rS, x⟩)]) (ups1 := fun y => [(6, ⟨rS, y⟩)]) (g := gName 7) (g1 := gName 6) (ps := fun xs => xs = pl) (ps1 := fun x ys => ys = x ∧ x.length ≤ 6) (qe := fun x y z => z = y) (bnd := 6) rfl S.nd
    (es_list (vv 1)) (blkOk_by (by rfl)) (by decide) (fun s0 H0 Cc cl fp => pg_name S.nd rfl (by first | exact Or.inl rfl | exact Or.inr rfl)) (fun x => g_name) (fun x u hu => by rw [List.mem_singleton.mp hu]; infer_instance) (fun x u hu => by rw [List.mem_singleton.mp hu]; show 7 ∈ [7, 6]; decide)
    (fun s0 H0 Cc cl fp => pg_name S.nd rfl (by first | exact Or.inl rfl | exact Or.inr rfl)) (fun x => g_name) (fun x u hu => by rw [List.mem_singleton.mp hu]; show 6 ∈ [6]; decide) (fun xs e => by rw [e]; exact h.pk.len) (fun x ys hys => by rw [hys.1]; exact hys.2) (by decide) (fun xs e x hx s0 H0 Cc cl fp => ES.imp' (es_tup (vv 7)) ?_)
    (fun xs e x hx ys hys y hy s0 H0 Cc cl fp => vv 6))) fr.sorted ?_)) (fun ev hev => ?_) S.nd
  · intro ys hys
    rw [e] at hx
    exact ⟨hys, (h.pk.lot x hx).1.few⟩
  · rintro zs ⟨xs, yss, rfl, hp, hq⟩
    have hz : zs.length ≤ 6 * 6 := by
      rw [← hq.length]
      refine Nat.le_trans (flat2_len (b := 6) fun ys hys => ?_) (Nat.mul_le_mul h.pk.len (Nat.le_refl _))
      obtain ⟨i, hi⟩ := List.mem_iff_getElem?.mp hys
      obtain ⟨x, _, e5⟩ := Paired.at2 hp hi
      rw [e5.1]; exact e5.2
    exact ⟨by omega, fun ys hys _ => by rw [hys.length_eq]; omega⟩
  have hevz : ev.length < sizeLine := Nat.lt_trans hev (by decide)
  refine sq_ifr (pb := fun b => b = decide (rows = [])) (ET.imp (dt_cmp o_eqI (dv_lenL (EE.getU (p := (· = some rows)) (q := (· = rows)) (vv 3) (by simp) (fun x hx => Option.some.inj hx)) fr.len) ee_int trivial) ?_) (fun ht => ?_) fun hf => ?_
  · intro b hb
    rw [hb]
    cases rows <;> simp
    omega
  · exact sq_ret' (ee_pair (p := fun z => z = []) (q := fun _ => True) (dv_tup (xs := []) el_nil (Nat.zero_le _)) (EE.imp (ee_tupL (vv 4) fr.tuple) fun _ _ => trivial)) (by intro z hz x hx; rw [hz.1] at hx; simp at hx)
  have hne : rows ≠ [] := of_decide_eq_false hf.symm
  have hpos : 0 < rows.length := List.length_pos_iff.mpr hne
  have hlast : atI rows (-1) = some (rows.getLastD []) := atI_last hpos
  have hlat : rows[ss.length - 1]? = some (rows.getLastD []) := by rw [← hy.len]; exact getLastD_at hpos
  have hlm : rows.getLastD [] ∈ rows := List.mem_of_getElem? hlat
  have hlz : (rows.getLastD []).length < sizeLine := Nat.lt_of_le_of_lt (hy.few _ hlm) big
  have hdone : pl.length < 64 ∧ ∀ i, (pl.take i).flatten.length < 64 := ⟨Nat.lt_of_le_of_lt h.pk.len (by decide), fun i => Nat.lt_of_le_of_lt (h.pk.take i) (by decide)⟩
  refine sq_filt 5 6 (R := rS) (f := fun x => (rows.getLastD []).all fun p => isNew pl x p) rfl S.nd (es_list (vv 4)) hevz
    (fun x hx s0 H0 Cc cl fp => et_val (ee_all (q := fun b => b = (rows.getLastD []).all fun p => isNew pl x p) rfl (lc_map (R := rPr) (g := fun p => isNew pl x p) 8 rfl S.nd (es_list (dv_ixL (EE.getU (p := (· = some rows)) (q := (· = rows)) (vv 3) (by simp) (fun x hx => Option.some.inj hx)) (dv_neg ee_int) hlast)) hlz fun p hp s1 H1 Cd cm fq => ee_call cI hr (by omega) (ed_cons (vv 1) (ed_cons (vv 6) (ed_cons (vv 8) (ea_nil ⟨(pl, x, p), hdone, by rfl, fun b hb => hb⟩))))) fr.all ?_)) (fun x hx s0 H0 Cc cl fp => vv 6) ?_
  · rintro zs rfl
    rw [List.all_map]; rfl
  refine sq_ret' (ee_pair (q := fun _ => True) (ee_tupL (vv 5) fr.tuple) (EE.imp (ee_tupL (EN.ee (lc_filt (R := rS) (f := fun x => (rows.getLastD []).any fun p => isNew pl x p) 6 rfl S.nd (es_list (vv 4)) hevz
    (fun x hx s0 H0 Cc cl fp => et_val (ee_any (q := fun b => b = (rows.getLastD []).any fun p => isNew pl x p) rfl (lc_map (R := rPr) (g := fun p => isNew pl x p) 8 rfl S.nd (es_list (dv_ixL (EE.getU (p := (· = some rows)) (q := (· = rows)) (vv 3) (by simp) (fun x hx => Option.some.inj hx)) (dv_neg ee_int) hlast)) hlz fun p hp s1 H1 Cd cm fq => ee_call cI hr (by omega) (ed_cons (vv 1) (ed_cons (vv 6) (ed_cons (vv 8) (ea_nil ⟨(pl, x, p), hdone, by rfl, fun b hb => hb⟩))))) fr.any ?_)) (fun x hx s0 H0 Cc cl fp => vv 6))) fr.tuple) fun _ _ => trivial)) ?_
  · rintro zs rfl
    rw [List.any_map]; rfl
  · rintro z ⟨hz, _⟩ x hx tale ht p hp
    rw [hz] at hx
    exact List.all_eq_true.mp (List.mem_filter.mp hx).2 p (hy.tl tale ht _ p _ hp hlat)
def ClashRes (n : NetD) (plan : Plan) (ss : List Sight) : Option (Nat × Nat) → Prop
  | none => ∀ (i j : Nat) a b, i ≤ j → ss[i]? = some a → ss[j]? = some b → storyable n plan (two ss i j a b)
  | some _ => ∃ (i j : Nat) (a b : Sight), i ≤ j ∧ ss[i]? = some a ∧ ss[j]? = some b ∧ ¬ storyable n plan (two ss i j a b)
abbrev SpClash (Cn : Addr) : Sp := spOf (GaAll Cn) (fun a => AllOk a.1 a.2.1 a.2.2) (rU (rP rNat rNat)) (fun a y => ClashRes a.1 a.2.1 a.2.2 y)
theorem c_clash (fr : Fr mg) (D : DefOk K mg d_clash) (k : Nat) (cN : C8.Cal P w K mg base (k + 3) "need_all" (SpNeedAll Cn) []) (cR : C8.Cal P w K mg base (k + 4) "rows_of" (SpRows Cn) []) : C8.Cal P w K mg base (k + 5) "clash" (SpClash Cn) [] := by
  have S : FnScope ["net", "plan", "sights", "first", "second", "some"] ["net", "plan", "sights"] d_clash.scope := C8.fnScope_by (by decide +kernel)
  refine fn_ok ["net", "plan", "sights", "first", "second", "some"] ["net", "plan", "sights"] D S (fun _ _ _ _ _ _ us hl => match us, hl with | [_, _, _], _ => rfl) (fun _ => rfl) fun ⟨n, pl, ss⟩ f cdv A outer s H E h hr => ?_
  have h : AllOk n pl ss := h
  have h12 := h.s12
  refine sq_expr (p := fun _ => True) (ee_call cN hr (by omega) (ed_cons (vv 0) (ed_cons (vv 1) (ed_cons (vv 2) (ea_nil ⟨(n, pl, ss), h, by rfl, fun b hb => hb⟩))))) ?_
  refine sq_for1 3 (R := rNat) (inv := fun xs i C' => xs = List.range ss.length ∧ (∀ (i' j : Nat) a b, i' < i → i' ≤ j → ss[i']? = some a → ss[j]? = some b → storyable n pl (two ss i' j a b)) ∧ C' = ⟨[.base ⟨rNet Cn, n⟩, .base ⟨rPlan, pl⟩, .base ⟨rL rSight, ss⟩, .non, .non, .non], []⟩) rfl PassesOwn.never S.nd (ES.imp' (es_range (pn := fun m => m = ss.length) ((dv_lenL (vv 2) fr.len).imp ?_) fr.range) ?_) (fun xs e => ⟨e, by omega, rfl⟩) (fun xs i x C' e hx ⟨e1, hI, e2⟩ => ?_) (fun xs C' e ⟨e1, hI, e2⟩ => ?_)
  · intro z hz; exact ⟨ss.length, hz, rfl, by omega⟩
  · rintro xs ⟨m, rfl, rfl⟩; rfl
  · subst e1 e2
    obtain ⟨hil, hxi⟩ := List.getElem?_eq_some_iff.mp hx
    rw [List.length_range] at hil
    rw [List.getElem_range] at hxi
    subst hxi
    have hsi : ss[i]? = some ss[i] := List.getElem?_eq_getElem hil
    refine sq_for1 4 (R := rNat) (inv := fun ys j C' => ys = (List.range (ss.length - i)).map (i + ·) ∧ (∀ (j' : Nat) b, i ≤ j' → j' < i + j → ss[j']? = some b → storyable n pl (two ss i j' ss[i] b)) ∧ C' = ⟨[.base ⟨rNet Cn, n⟩, .base ⟨rPlan, pl⟩, .base ⟨rL rSight, ss⟩, .val ⟨rNat, i⟩, .non, .non], []⟩) rfl PassesOwn.never S.nd (es_range2 (lo := i) (n := ss.length) (EE.int (vv 3)) (dv_lenL (vv 2) fr.len) (by omega) (by omega) fr.range) (fun ys e => ⟨e, by omega, rfl⟩) (fun ys j y C' e hy ⟨e1, hJ, e2⟩ => ?_) (fun ys C' e ⟨e1, hJ, e2⟩ => ?_)
    · subst e1 e2
      rw [List.getElem?_map] at hy
      obtain ⟨j2, hj2, rfl⟩ := Option.map_eq_some_iff.mp hy
      obtain ⟨hjl, hxj⟩ := List.getElem?_eq_some_iff.mp hj2
      rw [List.length_range] at hjl
      rw [List.getElem_range] at hxj
      subst hxj
      have hlt : i + j < ss.length := by omega
      have hsj : ss[i + j]? = some ss[i + j] := List.getElem?_eq_getElem hlt
      have g1 : atI ss (i : Int) = some ss[i] := (atI_nat _ _).trans hsi
      have g2 : atI ss ((i + j : Nat) : Int) = some ss[i + j] := (atI_nat _ _).trans hsj
      have ok2 : AllOk n pl (two ss i (i + j) ss[i] ss[i + j]) := by
        refine ⟨h.nk, h.pk, ?_, fun x hx => ?_⟩
        · unfold two; split <;> (show _ ≤ 12) <;> simp
        · unfold two at hx
          split at hx
          · simp at hx
            rcases hx with rfl | rfl
            · exact h.sk _ (List.getElem_mem _)
            · exact h.sk _ (List.getElem_mem _)
          · simp at hx
            subst hx
            exact h.sk _ (List.getElem_mem _)
      refine sq_set 5 (p := fun y => y = two ss i (i + j) ss[i] ss[i + j]) (EN.ee (en_slL (R := rSight) (dv_lst (R := rSight) (xs := [ss[i], ss[i + j]]) (el_cons (dv_ixL (vv 2) (EE.int (vv 3)) g1) (el_cons (dv_ixL (vv 2) (EE.int (vv 4)) g2) el_nil)) (by show 2 ≤ sizeLine; decide)) eo_none (eo_some (dv_bin o_add ee_int (dv_intB (dv_cmp o_gt (EE.int (vv 4)) (EE.int (vv 3)) trivial) fr.int) trivial)) ?_)) (fun z hz => ?_) S.nd
      · rintro xs l u rfl rfl ⟨m, rfl, rfl⟩
        unfold two
        by_cases hh : i < i + j
        · rw [if_pos hh]
          have : decide ((i : Int) < ((i + j : Nat) : Int)) = true := decide_eq_true (by omega)
          rw [this]; rfl
        · rw [if_neg hh]
          have : decide ((i : Int) < ((i + j : Nat) : Int)) = false := decide_eq_false (by omega)
          rw [this]; rfl
      · subst hz
        refine sq_ifr (pb := fun b => if b = true then ¬ storyable n pl (two ss i (i + j) ss[i] ss[i + j]) else storyable n pl (two ss i (i + j) ss[i] ss[i + j])) (et_cmp (o_isN isnU) (ee_call (q := fun y => RowsRes n pl (two ss i (i + j) ss[i] ss[i + j]) y) cR hr (by omega) (ed_cons (vv 0) (ed_cons (vv 1) (ed_cons (vv 5) (ea_nil ⟨(n, pl, two ss i (i + j) ss[i] ss[i + j]), ok2, by rfl, fun b hb => hb⟩))))) ee_non ?_) (fun ht => ?_) fun hf => ?_
        · rintro x y hx _
          refine ⟨trivial, ?_⟩
          cases x with
          | none => exact hx
          | some rows =>
            have hx : RowsGood n pl _ rows := hx
            show storyable n pl _
            exact rows_story hx
        · refine sq_ret (EE.someU (p := fun _ => True) (EE.imp (dv_pair (vv 3) (vv 4)) fun _ _ => trivial) fun _ _ => ?_)
          exact ⟨i, i + j, _, _, by omega, hsi, hsj, ht⟩
        · refine sq_nil ⟨_, ⟨rfl, fun j' b h1 h2 h3 => ?_, rfl⟩, weak_by (.keep (.keep (.keep (.keep (.drop (.drop .nil))))))⟩
          by_cases hj : j' = i + j
          · subst hj
            rw [hsj] at h3
            cases h3
            exact hf
          · exact hJ j' b h1 (by omega) h3
    · subst e1 e2
      refine sq_nil ⟨_, ⟨rfl, fun i' j a b h1 h2 h3 h4 => ?_, rfl⟩, weak_by (.keep (.keep (.keep (.drop (.keep (.keep .nil))))))⟩
      by_cases hi : i' = i
      · subst hi
        rw [hsi] at h3
        cases h3
        have hjl := (List.getElem?_eq_some_iff.mp h4).1
        refine hJ j b h2 ?_ h4
        rw [List.length_map, List.length_range]; omega
      · exact hI i' j a b (by omega) h2 h3 h4
  · subst e1 e2
    refine sq_ret (EE.noneU ?_)
    intro i j a b h1 h2 h3
    refine hI i j a b ?_ h1 h2 h3
    rw [List.length_range]
    exact (List.getElem?_eq_some_iff.mp h2).1
end
end K62

end

section
set_option Elab.async false
set_option linter.all false
set_option maxRecDepth 100000
set_option maxHeartbeats 4000000
namespace K62
open PySem PySem.Spec PyProof.Rows L2
section
variable {P : Program} {w : World} {K : PySem.W.Frag} {mg : Str → Option Value} {base : Heap}
abbrev SpBlend : Sp := spOf (fun _ : Unit => [⟨rDraw, ()⟩]) (fun _ => True) rI (fun _ _ => True)
theorem c_law_blend (fr : Fr mg) (D : DefOk K mg d__law_blend) (k : Nat) : C8.Cal P w K mg base (k + 1) "_law_blend" SpBlend [] := by
  have S : FnScope ["draw", "turn", "found", "prime", "blend", "cell"] ["draw"] d__law_blend.scope := C8.fnScope_by (by decide +kernel)
  refine fn_ok ["draw", "turn", "found", "prime", "blend", "cell"] ["draw"] D S (fun _ _ _ _ _ _ us hl => match us, hl with | [_], _ => rfl) (fun _ => rfl) fun _ f cdv A outer s H E _ hr => ?_
  refine sq_set 1 (p := fun _ => True) (ee_bin o_add (ee_turn (by exact Room.u1 hr) (vv 0)) ee_int fun _ _ _ _ => ⟨trivial, trivial⟩) (fun t _ => ?_) S.nd
  refine sq_turn 0 (by exact Room.u1 hr) (vv 1) rfl ?_
  refine dq_set 2 (R := rI) ee_int ?_ S.nd
  refine sq_for1 3 (R := rI) (inv := fun xs i C' => (∀ x ∈ xs, 0 < x ∧ x < 2 ^ 31) ∧ ∃ fo : Int, C' = ⟨[.base ⟨rDraw, ()⟩, .val ⟨rI, t⟩, .val ⟨rI, fo⟩, .non, .non, .non], []⟩) rfl PassesOwn.never S.nd (es_list (dv_lst (R := rI) (xs := [2147483629, 2147483587, 2147483579, 2147483563]) (el_cons ee_int (el_cons ee_int (el_cons ee_int (el_cons ee_int el_nil)))) (by show 4 ≤ sizeLine; decide))) (fun xs e => ⟨by subst e; decide, 0, rfl⟩) (fun xs i pm C' e hx ⟨e1, fo, e2⟩ => ?_) (fun xs C' e ⟨e1, fo, e2⟩ => ?_)
  · subst e2
    obtain ⟨hp1, hp2⟩ := e1 pm (List.mem_of_getElem? hx)
    refine sq_set 4 (p := fun b : Int => 0 ≤ b ∧ b < 2 ^ 31) (ee_bin o_mod (dv_intI (dv_bin o_add (dv_bin o_mul (vv 1) ee_int (.inr (by decide))) (dv_bin o_fdiv (vv 3) ee_int ⟨by decide, by decide⟩) trivial) fr.int) (vv 3) ?_) (fun b hb => ?_) S.nd
    · rintro x y rfl rfl
      exact ⟨hp1, Int.emod_nonneg _ (by omega), Int.lt_trans (Int.emod_lt_of_pos _ hp1) hp2⟩
    refine sq_for1 5 (R := rI) (inv := fun ys j C' => ∃ b : Int, (0 ≤ b ∧ b < 2 ^ 31) ∧ C' = ⟨[.base ⟨rDraw, ()⟩, .val ⟨rI, t⟩, .val ⟨rI, fo⟩, .val ⟨rI, pm⟩, .val ⟨rI, b⟩, .non], []⟩) rfl PassesOwn.never S.nd (es_list (ee_cells (by exact Room.u1 hr) (vv 0))) (fun ys e => ⟨b, hb, rfl⟩) (fun ys j c C' e hy ⟨b2, hb2, e2⟩ => ?_) (fun ys C' e ⟨b2, hb2, e2⟩ => ?_)
    · subst e2
      refine sq_set 4 (p := fun b : Int => 0 ≤ b ∧ b < 2 ^ 31) (ee_bin o_mod (dv_intI (dv_bin o_add (dv_bin o_mul (vv 4) ee_int (.inr (by decide))) (vv 5) trivial) fr.int) (vv 3) ?_) (fun b3 hb3 => ?_) S.nd
      · rintro x y rfl rfl
        exact ⟨hp1, Int.emod_nonneg _ (by omega), Int.lt_trans (Int.emod_lt_of_pos _ hp1) hp2⟩
      · exact sq_nil ⟨_, ⟨b3, hb3, rfl⟩, weak_by (.keep (.keep (.keep (.keep (.keep (.drop .nil))))))⟩
    · subst e2
      refine sq_set 2 (p := fun _ => True) (ee_bin o_add (dv_bin o_mul (vv 2) ee_int (.inr (by decide))) (dv_bin o_mod (dv_intI (dv_bin o_pow (vv 4) ee_int ⟨by decide, by decide, by omega⟩) fr.int) (vv 3) hp1) fun _ _ _ _ => ⟨trivial, trivial⟩) (fun fo2 _ => ?_) S.nd
      exact sq_nil ⟨_, ⟨e1, fo2, rfl⟩, weak_by (.keep (.keep (.keep (.drop (.drop (.drop .nil))))))⟩
  · subst e2
    exact sq_ret' (vv 2) (by intro _ _; trivial)
abbrev SpTake : Sp := spOf (fun n : Int => [⟨rDraw, ()⟩, ⟨rI, n⟩]) (fun n => 0 < n ∧ n < 2 ^ 30) rI (fun n y => 0 ≤ y ∧ y < n)
theorem c_law_take (fr : Fr mg) (D : DefOk K mg d__law_take) (k : Nat) (cB : C8.Cal P w K mg base (k + 1) "_law_blend" SpBlend []) : C8.Cal P w K mg base (k + 2) "_law_take" SpTake [] := by
  have S : FnScope ["draw", "size", "found"] ["draw", "size"] d__law_take.scope := C8.fnScope_by (by decide +kernel)
  refine fn_ok ["draw", "size", "found"] ["draw", "size"] D S (fun _ _ _ _ _ _ us hl => match us, hl with | [_, _], _ => rfl) (fun _ => rfl) fun n f cdv A outer s H E ⟨hn, hn2⟩ hr => ?_
  have hn : 0 < n := hn
  have hn2 : n < 2 ^ 30 := hn2
  refine sq_great 0 (by exact Room.u64 hr) rfl ?_
  refine sq_if (pb := fun _ => True) (nx1 := fun C1 => C1 = C0 ["draw", "size", "found"] [⟨rDraw, ()⟩, ⟨rI, n⟩]) (et_cmp o_eqI (ee_rest (by exact Room.u1 hr) (vv 0)) ee_int fun _ _ _ _ => ⟨trivial, trivial⟩) (fun _ => ?_) (fun _ => sq_nil rfl) (fun C1 e => ?_)
  · exact sq_rest 0 (p := fun _ => True) (by exact Room.u1 hr) (ee_call cB hr (by omega) (ed_cons (vv 0) (ea_nil ⟨(), trivial, by rfl, fun _ _ => trivial⟩))) rfl (sq_nil rfl)
  · subst e
    refine sq_set 2 (p := fun b : Int => 0 ≤ b ∧ b < n) (ee_bin o_mod (ee_ct c_intI (ee_rest (by exact Room.u1 hr) (vv 0)) (fun x px => ⟨trivial, fun y hy => (trivial : True)⟩) fr.int (by decide +kernel)) (vv 1) ?_) (fun b hb => ?_) S.nd
    · rintro x y _ rfl
      exact ⟨hn, Int.emod_nonneg _ (by omega), Int.emod_lt_of_pos _ hn⟩
    refine sq_rest 0 (p := fun _ => True) (by exact Room.u1 hr) (ee_bin o_fdiv (ee_rest (by exact Room.u1 hr) (vv 0)) (vv 1) fun x y _ hy => ⟨by rw [hy]; exact ⟨hn, hn2⟩, trivial⟩) rfl ?_
    exact sq_ret' (vv 2) (by intro y hy; rw [hy]; exact hb)
end
end K62

end

section
set_option Elab.async false
set_option linter.all false
set_option maxRecDepth 100000
set_option maxHeartbeats 4000000
namespace K62
open PySem PySem.Spec PyProof.Rows L2
theorem pt_new {α : Type} {d : List (Str × α)} {k : Str} {v : α} (h : k ∉ d.map (·.1)) : pt d k v = d ++ [(k, v)] := by
  unfold pt
  rw [if_neg]
  intro ha
  obtain ⟨p, hp, e⟩ := List.any_eq_true.mp ha
  exact h (List.mem_map.mpr ⟨p, hp, of_decide_eq_true e⟩)
theorem pt_keys {α : Type} {d : List (Str × α)} {k : Str} {v : α} (h : k ∈ d.map (·.1)) : (pt d k v).map (·.1) = d.map (·.1) := by
  obtain ⟨p, hp, e⟩ := List.mem_map.mp h
  unfold pt
  rw [if_pos (List.any_eq_true.mpr ⟨p, hp, decide_eq_true e⟩), List.map_map]
  apply List.map_congr_left
  intro kv _
  show (if kv.1 = k then (kv.1, v) else kv).1 = kv.1
  split <;> rfl
theorem erase_perm {α : Type} {x : α} : ∀ {l : List α} {i : Nat}, l[i]? = some x → (x :: l.eraseIdx i).Perm l
  | [], _, h => by simp at h
  | a :: l, 0, h => by simp at h; subst h; exact List.Perm.refl _
  | a :: l, i + 1, h => (List.Perm.swap _ _ _).trans ((erase_perm (l := l) (i := i) (by simpa using h)).cons a)
/-- the dots of a model -/
structure DotsOk (dots : List Str) : Prop where
  nd : dots.Nodup
  few : dots.length ≤ 4
  ok : ∀ x ∈ dots, okN x
section
variable {P : Program} {w : World} {K : PySem.W.Frag} {mg : Str → Option Value} {base : Heap}
abbrev SpPick {α : Type} (RL : RepT (List α)) (R : RepT α) : Sp := spOf (fun xs : List α => [⟨rDraw, ()⟩, ⟨RL, xs⟩]) (fun xs => 0 < xs.length ∧ xs.length < 2 ^ 30) R (fun xs y => y ∈ xs)
theorem c_law_pick {α : Type} (RL : RepT (List α)) (R : RepT α) [LikeL RL R] [Plain R] (fr : Fr mg) (D : DefOk K mg d__law_pick) (k : Nat) (cT : C8.Cal P w K mg base (k + 2) "_law_take" SpTake []) : C8.Cal P w K mg base (k + 3) "_law_pick" (SpPick RL R) [] := by
  have S : FnScope ["draw", "some"] ["draw", "some"] d__law_pick.scope := C8.fnScope_by (by decide +kernel)
  refine fn_ok ["draw", "some"] ["draw", "some"] D S (fun _ _ _ _ _ _ us hl => match us, hl with | [_, _], _ => rfl) (fun _ => rfl) fun xs f cdv A outer s H E ⟨h1, h2⟩ hr => ?_
  refine sq_ret (ee_ixL (pl := (· = xs)) (pi := fun i : Int => 0 ≤ i ∧ i < (xs.length : Int)) (vv 1) (ee_call cT hr (by omega) (ed_cons (vv 0) (ed_cons (dv_lenL (vv 1) fr.len) (ea_nil ⟨(xs.length : Int), ⟨by omega, by omega⟩, by rfl, fun y hy => hy⟩)))) ?_)
  rintro ys i rfl ⟨h3, h4⟩
  obtain ⟨x, e1, e2, _⟩ := atI_in h3 h4
  exact ⟨x, e1, e2⟩
abbrev SpPickS : Sp := spOf (fun z : Str => [⟨rDraw, ()⟩, ⟨rS, z⟩]) (fun z => 0 < z.length ∧ z.length < 2 ^ 20) rS (fun z y => ∃ c ∈ z.cps.toList, y = ⟨#[c]⟩)
theorem c_law_pickS (fr : Fr mg) (D : DefOk K mg d__law_pick) (k : Nat) (cT : C8.Cal P w K mg base (k + 2) "_law_take" SpTake []) : C8.Cal P w K mg base (k + 3) "_law_pick" SpPickS [] := by
  have S : FnScope ["draw", "some"] ["draw", "some"] d__law_pick.scope := C8.fnScope_by (by decide +kernel)
  refine fn_ok ["draw", "some"] ["draw", "some"] D S (fun _ _ _ _ _ _ us hl => match us, hl with | [_, _], _ => rfl) (fun _ => rfl) fun z f cdv A outer s H E ⟨h1, h2⟩ hr => ?_
  have h1 : 0 < z.length := h1
  have h2 : z.length < 2 ^ 20 := h2
  have hz : z.length ≤ sizeLine := Nat.le_trans (Nat.le_of_lt h2) (by decide)
  refine sq_ret (ee_ixS (ps := (· = z)) (pi := fun i : Int => 0 ≤ i ∧ i < (z.length : Int)) (vv 1) (ee_call cT hr (by omega) (ed_cons (vv 0) (ed_cons (dv_lenS (vv 1) fr.len hz) (ea_nil ⟨(z.length : Int), ⟨by omega, by omega⟩, by rfl, fun y hy => hy⟩)))) ?_)
  rintro ys i rfl ⟨h3, h4⟩
  obtain ⟨x, e1, e2, _⟩ := atI_in (xs := ys.cps.toList) h3 (by show i < (ys.cps.toList.length : Int); rw [Array.length_toList]; exact h4)
  exact ⟨hz, x, e1, x, e2, rfl⟩
abbrev SpMixed : Sp := spOf (fun xs : List Str => [⟨rDraw, ()⟩, ⟨rL rS, xs⟩]) (fun xs => xs.length < 64 ∧ ∀ x ∈ xs, PyData.strOk x = true) (rL rS) (fun xs y => y.Perm xs)
theorem c_law_mixed (fr : Fr mg) (D : DefOk K mg d__law_mixed) (k : Nat) (cT : C8.Cal P w K mg base (k + 2) "_law_take" SpTake []) : C8.Cal P w K mg base (k + 3) "_law_mixed" SpMixed [] := by
  have S : FnScope ["draw", "some", "left", "found"] ["draw", "some"] d__law_mixed.scope := C8.fnScope_by (by decide +kernel)
  refine fn_ok ["draw", "some", "left", "found"] ["draw", "some"] D S (fun _ _ _ _ _ _ us hl => match us, hl with | [_, _], _ => rfl) (fun _ => rfl) fun xs f cdv A outer s H E ⟨h1, h2⟩ hr => ?_
  have h1 : xs.length < 64 := h1
  refine si_par 2 3 (post := fun C1 κs => C1 = ⟨[.base ⟨rDraw, ()⟩, .base ⟨rL rS, xs⟩, .non, .non], [.lst rS xs, .lst rS []]⟩ ∧ κs = [.own 0, .own 1]) rfl S.nd
    (eis_cons (EI.en (R := rS) (en_lstL (vv 1) fr.list)) fun C1 κ hc => by
      obtain ⟨y, py, e1, e2⟩ := hc
      subst py e1 e2
      exact eis_cons (EI.en (R := rS) (en_lst (xs := []) el_nil (Nat.zero_le _))) fun C2 κ2 ⟨z, hz, e3, e4⟩ => eis_nil ⟨by rw [e3, hz]; rfl, by rw [e4]; rfl⟩) ?_
  rintro C1 κs ⟨e1, e2⟩
  subst e1 e2
  refine ⟨rfl, ?_⟩
  refine sq_while (m0 := xs.length) (inv := fun m C' => ∃ l fo : List Str, l.length = m ∧ (fo ++ l).Perm xs ∧ C' = ⟨[.base ⟨rDraw, ()⟩, .base ⟨rL rS, xs⟩, .own 0, .own 1], [.lst rS l, .lst rS fo]⟩) (pt := fun C' b => ∀ l fo : List Str, C' = ⟨[.base ⟨rDraw, ()⟩, .base ⟨rL rS, xs⟩, .own 0, .own 1], [.lst rS l, .lst rS fo]⟩ → b = !l.isEmpty) PassesOwn.never ⟨xs, [], rfl, by simp, rfl⟩ (fun m C' ⟨l, fo, hl, hp, e⟩ => ?_) (fun m C' ⟨l, fo, hl, hp, e⟩ ht => ?_) (fun m C' ⟨l, fo, hl, hp, e⟩ hf => ?_)
  · subst e
    have hm : ∀ x ∈ l, PyData.strOk x = true := fun x hx => h2 x (hp.mem_iff.mp (List.mem_append_right _ hx))
    refine ET.imp (dt_cmp (o_neNil (RL := rOL rS) (S := rS) (by exact Room.u64 hr)) (vv 2) (dv_lst (R := rS) (xs := []) el_nil (Nat.zero_le _)) ⟨rfl, shaped_list (n := 0) (fun d hd => by obtain ⟨x, hx, rfl⟩ := List.mem_map.mp hd; exact ⟨hm x hx, Nat.le_refl _⟩) (by decide)⟩) ?_
    intro b hb l' fo' e
    have e3 : l = l' := by
      have := congrArg (fun C : Ctx => match C.O with | .lst (α := α) _ xs :: _ => (⟨α, xs⟩ : (α : Type) × List α) | _ => ⟨Unit, []⟩) e
      simpa using this
    rw [hb, e3]
  · subst e
    have hne : (!l.isEmpty) = true := (ht l fo rfl).symm
    have hpos : 0 < l.length := by cases l <;> simp at hne ⊢
    have hle : (fo ++ l).length = xs.length := hp.length_eq
    rw [List.length_append] at hle
    refine sq_move 3 2 (kf := 1) (kl := 0) (R := rS) (fs := fo) (ls := l) (pi := fun i : Int => 0 ≤ i ∧ i < (l.length : Int)) (ee_call cT hr (by omega) (ed_cons (vv 0) (ed_cons (dv_lenL (vv 2) fr.len) (ea_nil ⟨(l.length : Int), ⟨by omega, by omega⟩, by rfl, fun y hy => hy⟩)))) (fun i hi => hi) rfl rfl rfl rfl (by decide) (Nat.lt_of_le_of_lt (show fo.length ≤ 64 by omega) (by decide)) (Nat.lt_of_le_of_lt (show l.length ≤ 64 by omega) (by decide)) fun i x hx => ?_
    have hi := (List.getElem?_eq_some_iff.mp hx).1
    refine sq_nil ⟨(l.eraseIdx i).length, _, by rw [List.length_eraseIdx_of_lt hi]; omega, ⟨l.eraseIdx i, fo ++ [x], rfl, ?_, rfl⟩, Weak.refl⟩
    have p1 : (x :: l.eraseIdx i).Perm l := erase_perm hx
    refine List.Perm.trans ?_ hp
    rw [List.append_assoc]
    exact p1.append_left fo
  · subst e
    have hne : (!l.isEmpty) = false := (hf l fo rfl).symm
    have : l = [] := by cases l <;> simp at hne ⊢
    subst this
    rw [List.append_nil] at hp
    exact sq_seal (.base (.base (.lst inferInstance rfl (.lst inferInstance rfl .nil)))) (sq_ret' (vv 3) (by intro y hy; rw [hy]; exact hp))
end
end K62

end

section
set_option Elab.async false
set_option linter.all false
set_option maxRecDepth 100000
set_option maxHeartbeats 4000000
namespace K62
open PySem PySem.Spec PyProof.Rows L2
section
variable {X : Cx} {Γ : ECtx} {a : Expr} {α : Type} {R : RepT α} {pos pp : Pos}
theorem pairs_split [Plain R] {K : PySem.W.Frag} {W : Wd} {H : Hp} : ∀ {us : List V} {xs : List (Str × α)}, Paired ((rP rS R).r W H) us xs → ∃ (ps : List Addr) (kvs : List (Key × V)), us = ps.map V.ref ∧ Paired (fun p (kv : Key × V) => SqT K H p [kV kv.1, kv.2]) ps kvs ∧ Paired (DEnt R W H) kvs xs
  | _, _, .nil => ⟨[], [], rfl, .nil, .nil⟩
  | _, _, .cons ⟨l, u1, u2, e, n, hd, r1, r2⟩ t => by
    obtain ⟨ps, kvs, e1, e2, e3⟩ := pairs_split (K := K) t
    cases r1
    exact ⟨l :: ps, (.inr _, u2) :: kvs, by rw [e, e1]; rfl, .cons (sqT_of hd) e2, .cons ⟨rfl, r2⟩ e3⟩
theorem merge_paired {W : Wd} {H : Hp} : ∀ {kvs : List (Key × V)} {xs : List (Str × α)} {acc : List (Key × V)} {d : List (Str × α)}, Paired (DEnt R W H) kvs xs → Paired (DEnt R W H) acc d → Paired (DEnt R W H) (mergeK acc kvs) (xs.foldl (fun d p => pt d p.1 p.2) d)
  | _, _, _, _, .nil, h => h
  | (k, v) :: kvs, (y, x) :: xs, acc, d, .cons ⟨e, r⟩ t, h => by
    have e : k = Sum.inr y := e
    subst e
    exact merge_paired (kvs := kvs) (xs := xs) t (put_paired r h)
theorem ed_dictP {RL : RepT (List (Str × α))} [Plain R] {p : List (Str × α) → Prop} (hc : X.calm = true) (ha : EE X Γ a RL p) (hm : X.mg "dict" = none) (lk : LikeL RL (rP rS R) := by infer_instance) (hg : Gl X "dict" := by rfl) (ns : NS X a := by intro _; rfl) : ED X Γ (.Call (.Name "dict" pp) [a] [] pos) R (fun d => ∃ xs, p xs ∧ d = xs.foldl (fun d p => pt d p.1 p.2) []) :=
  ED.of (pe_callTy (call_dictP hc) hg hm (by decide +kernel) (pa_cons pe_te pa_nil (ns _)) (by decide) (by decide) (ns _) rfl) fun W σ H Q hi hh f => ha.te hi hh fun u H1 x e1 px rx => by
    obtain ⟨l, us, rfl, hd, pr⟩ := LikeL.rd e1.inv rx
    obtain ⟨ps, kvs, e2, e3, e4⟩ := pairs_split (K := X.K) pr
    subst e2
    refine ⟨l, ps, kvs, rfl, sqL_of hd, e3, fun t ht => ?_⟩
    exact f t _ _ _ (e1.free t ht) (e1.trans (Ext.new e1.inv ht)) upd_same ⟨x, px, rfl⟩ (into1D e1.inv ht (merge_paired e4 .nil))
end
theorem foldl_pt {α : Type} : ∀ {xs d : List (Str × α)}, ((d ++ xs).map (·.1)).Nodup → xs.foldl (fun d p => pt d p.1 p.2) d = d ++ xs
  | [], d, _ => by simp
  | x :: xs, d, h => by
    rw [List.foldl_cons, pt_new, foldl_pt]
    · simp
    · simpa using h
    · rw [List.map_append, List.nodup_append] at h
      intro hm
      exact h.2.2 _ hm _ (by simp) rfl
theorem lk_nd {α : Type} : ∀ {d : List (Str × α)} {k : Str} {v : α}, (d.map (·.1)).Nodup → (k, v) ∈ d → lk d k = some v
  | (a, b) :: d, k, v, h, hm => by
    rw [lk_cons]
    rw [List.map_cons, List.nodup_cons] at h
    rcases List.mem_cons.mp hm with e | hm
    · cases e; rw [if_pos rfl]
    · rw [if_neg, lk_nd h.2 hm]
      intro e
      exact h.1 (by rw [e]; exact List.mem_map.mpr ⟨_, hm, rfl⟩)
theorem tabOk_of {dots : List Str} {g : Str} {t : Tab} (hnd : dots.Nodup) (h1 : (t.map (·.1)).Perm dots) (h2 : ∀ n p, (n, p) ∈ t → placeOk dots g n p) : tabOk dots g t := by
  refine ⟨h1, fun n hn => ?_⟩
  obtain ⟨p, e⟩ := lk_some (h1.mem_iff.mpr hn)
  exact ⟨p, e, h2 n p (lk_mem e)⟩
section
variable {P : Program} {w : World} {K : PySem.W.Frag} {mg : Str → Option Value} {base : Heap}
abbrev GaTab : List Str × Str → List Slot := fun a => [⟨rDraw, ()⟩, ⟨rL rS, a.1⟩, ⟨rS, a.2⟩]
abbrev SpTab : Sp := spOf GaTab (fun a => DotsOk a.1 ∧ 0 < a.1.length) rTab (fun a y => tabOk a.1 a.2 y)
theorem DotsOk.str {dots : List Str} (h : DotsOk dots) : dots.length < 64 ∧ ∀ x ∈ dots, PyData.strOk x = true := ⟨Nat.lt_of_le_of_lt h.few (by decide), fun x hx => okN_str (h.ok x hx)⟩
theorem c_law_tree (fr : Fr mg) (D : DefOk K mg d__law_tree) (k : Nat) (cM : C8.Cal P w K mg base (k + 3) "_law_mixed" SpMixed []) (cP : C8.Cal P w K mg base (k + 3) "_law_pick" (SpPick (rOL rS) rS) []) : C8.Cal P w K mg base (k + 4) "_law_tree" SpTab [] := by
  have S : FnScope ["draw", "some", "end", "found", "ahead", "dot"] ["draw", "some", "end"] d__law_tree.scope := C8.fnScope_by (by decide +kernel)
  refine fn_ok ["draw", "some", "end", "found", "ahead", "dot"] ["draw", "some", "end"] D S (fun _ _ _ _ _ _ us hl => match us, hl with | [_, _, _], _ => rfl) (fun _ => rfl) fun ⟨dots, g⟩ f cdv A outer s H E ⟨h, hpos⟩ hr => ?_
  have h : DotsOk dots := h
  refine si_par 3 4 (post := fun C1 κs => C1 = ⟨[.base ⟨rDraw, ()⟩, .base ⟨rL rS, dots⟩, .base ⟨rS, g⟩, .non, .non, .non], [.dct rO [], .lst rS [g]]⟩ ∧ κs = [.own 0, .own 1]) rfl S.nd
    (eis_cons (EI.ed (R := rO) ed_new) fun C1 κ hc => by
      obtain ⟨y, py, e1, e2⟩ := hc
      subst py e1 e2
      exact eis_cons (EI.en (R := rS) (en_lst (xs := [g]) (el_cons (vv 2) el_nil) (by show 1 ≤ sizeLine; decide))) fun C2 κ2 hc2 => by
        obtain ⟨z, hz, e3, e4⟩ := hc2
        exact eis_nil ⟨by rw [e3, hz]; rfl, by rw [e4]; rfl⟩) ?_
  rintro C1 κs ⟨e1, e2⟩
  subst e1 e2
  refine ⟨rfl, ?_⟩
  refine sq_for1 5 (R := rS) (inv := fun xs i C' => xs.Perm dots ∧ ∃ kvs : Tab, kvs.map (·.1) = xs.take i ∧ (∀ n p, (n, p) ∈ kvs → placeOk dots g n p) ∧ C' = ⟨[.base ⟨rDraw, ()⟩, .base ⟨rL rS, dots⟩, .base ⟨rS, g⟩, .own 0, .own 1, .non], [.dct rO kvs, .lst rS (g :: xs.take i)]⟩) rfl PassesOwn.never S.nd (es_list (ee_call (q := fun y : List Str => y.Perm dots) cM hr (by omega) (ed_cons (vv 0) (ed_cons (vv 1) (ea_nil ⟨dots, h.str, by rfl, fun y hy => hy⟩))))) (fun xs e => ⟨e, [], by simp, by simp, rfl⟩) (fun xs i x C' _ hx ⟨e1, kvs, hk, hpl, e2⟩ => ?_) (fun xs C' _ ⟨e1, kvs, hk, hpl, e2⟩ => ?_)
  · subst e2
    have hnd : xs.Nodup := e1.nodup_iff.mpr h.nd
    have hlt := (List.getElem?_eq_some_iff.mp hx).1
    have hl4 : xs.length ≤ 4 := by rw [e1.length_eq]; exact h.few
    have hnew : x ∉ xs.take i := by
      intro hm
      obtain ⟨j, hj⟩ := List.mem_iff_getElem?.mp hm
      have hjl := (List.getElem?_eq_some_iff.mp hj).1
      rw [List.length_take] at hjl
      rw [List.getElem?_take_of_lt (by omega)] at hj
      have := nodup_at hnd hj hx
      omega
    have hkl : kvs.length ≤ 4 := by
      have := congrArg List.length hk
      rw [List.length_map, List.length_take] at this
      omega
    refine sq_dput 3 (R := rO) (p := fun o => ∃ s, o = some s ∧ s ∈ g :: xs.take i) (pk := (· = x)) (by exact Room.u1 hr) (EE.optE (ee_call (q := fun y : Str => y ∈ g :: xs.take i) cP hr (by omega) (ed_cons (vv 0) (ed_cons (vv 4) (ea_nil ⟨g :: xs.take i, ⟨by simp, by rw [List.length_cons, List.length_take]; omega⟩, by rfl, fun y hy => hy⟩)))) fun s hs => ⟨s, rfl, hs⟩) (vv 5) rfl rfl (Nat.lt_of_le_of_lt hkl (by decide)) fun z o hz ho => ?_
    subst hz
    obtain ⟨s, rfl, hs⟩ := ho
    refine sq_append 4 (vv 5) rfl rfl (by rw [List.length_cons, List.length_take]; exact Nat.lt_of_le_of_lt (show min i xs.length + 1 ≤ 5 by omega) (by decide)) fun y hy => ?_
    subst hy
    have e5 : xs.take (i + 1) = xs.take i ++ [y] := by rw [List.take_add_one, hx]; rfl
    have hkn : y ∉ kvs.map (·.1) := by rw [hk]; exact hnew
    refine sq_nil ⟨_, ⟨e1, pt kvs y (some s), ?_, fun n p hp => ?_, rfl⟩, ?_⟩
    · rw [pt_new hkn, List.map_append, hk, e5]; rfl
    · rw [pt_new hkn] at hp
      rcases List.mem_append.mp hp with hp | hp
      · exact hpl n p hp
      · have e6 := List.mem_singleton.mp hp
        cases e6
        rintro s' e7
        cases e7
        rcases List.mem_cons.mp hs with e8 | hs
        · exact .inl e8
        · exact .inr ⟨e1.mem_iff.mp (List.mem_of_mem_take hs), fun e9 => hnew (by rw [← e9]; exact hs)⟩
    · rw [e5]
      exact weak_by (.keep (.keep (.keep (.keep (.keep (.drop .nil))))))
  · subst e2
    rw [List.take_length] at hk
    exact sq_seal (.base (.base (.base (.dct inferInstance rfl (.lst inferInstance rfl (.non .nil)))))) (sq_ret' (vv 3) (by intro y hy; rw [hy]; exact tabOk_of h.nd (by rw [hk]; exact e1) hpl))
theorem c_law_wild (fr : Fr mg) (D : DefOk K mg d__law_wild) (k : Nat) (cP : C8.Cal P w K mg base (k + 3) "_law_pick" (SpPick (rL rO) rO) []) : C8.Cal P w K mg base (k + 4) "_law_wild" SpTab [] := by
  have S : FnScope ["draw", "some", "end", "found", "dot", "spots", "spot"] ["draw", "some", "end"] d__law_wild.scope := C8.fnScope_by (by decide +kernel)
  refine fn_ok ["draw", "some", "end", "found", "dot", "spots", "spot"] ["draw", "some", "end"] D S (fun _ _ _ _ _ _ us hl => match us, hl with | [_, _, _], _ => rfl) (fun _ => rfl) fun ⟨dots, g⟩ f cdv A outer s H E ⟨h, hpos⟩ hr => ?_
  have h : DotsOk dots := h
  have hfew := h.few
  refine sq_ownD 3 (R := rO) ed_new (fun y hy => ?_) S.nd
  subst hy
  refine sq_for1 4 (R := rS) (inv := fun xs i C' => xs = dots ∧ ∃ kvs : Tab, kvs.map (·.1) = xs.take i ∧ (∀ n p, (n, p) ∈ kvs → placeOk dots g n p) ∧ C' = ⟨[.base ⟨rDraw, ()⟩, .base ⟨rL rS, dots⟩, .base ⟨rS, g⟩, .own 0, .non, .non, .non], [.dct rO kvs]⟩) rfl PassesOwn.never S.nd (es_list (vv 1)) (fun xs e => ⟨e, [], by simp, by simp, rfl⟩) (fun xs i x C' _ hx ⟨e1, kvs, hk, hpl, e2⟩ => ?_) (fun xs C' _ ⟨e1, kvs, hk, hpl, e2⟩ => ?_)
  · subst e1 e2
    have hnew : x ∉ xs.take i := by
      intro hm
      obtain ⟨j, hj⟩ := List.mem_iff_getElem?.mp hm
      have hjl := (List.getElem?_eq_some_iff.mp hj).1
      rw [List.length_take] at hjl
      rw [List.getElem?_take_of_lt (by omega)] at hj
      have := nodup_at h.nd hj hx
      omega
    have hkl : kvs.length ≤ 4 := by
      have := congrArg List.length hk
      rw [List.length_map, List.length_take] at this
      omega
    have big : (64 : Nat) < sizeLine := by decide
    refine sq_filt 5 6 (R := rS) (f := fun z => !decide (z = x)) rfl S.nd (es_list (vv 1)) (Nat.lt_of_le_of_lt (Nat.le_trans hfew (by decide)) big) (fun z hz s0 H0 Cc cl fp => ET.is (dt_cmp o_neS (vv 6) (vv 4) trivial) (by rfl)) (fun z hz s0 H0 Cc cl fp => vv 6) ?_
    have hsl : (xs.filter fun z => !decide (z = x)).length ≤ 4 := Nat.le_trans (List.length_filter_le _ _) hfew
    refine sq_dput 3 (R := rO) (p := fun o => placeOk xs g x o) (pk := (· = x)) (by exact Room.u1 hr) (ee_call (q := fun o => placeOk xs g x o) cP hr (by omega) (ed_cons (vv 0) (ea_cons (p := fun ys => ys = ((xs.filter fun z => !decide (z = x)) ++ (xs.filter fun z => !decide (z = x))).map some ++ [some g, some g, none])
      (EN.ee (en_cat (RL := rL rO) (RL' := rL rO) (EE.optL (q := fun ys => ys = ((xs.filter fun z => !decide (z = x)) ++ (xs.filter fun z => !decide (z = x))).map some) (EN.ee (en_cat (RL := rL rS) (RL' := rL rS) (pr := fun ys => ys = (xs.filter fun z => !decide (z = x)) ++ (xs.filter fun z => !decide (z = x))) (vv 5) (vv 5) ?_)) ?_) (dv_lst (R := rO) (xs := [some g, some g, none]) (el_cons (EE.opt (vv 2)) (el_cons (EE.opt (vv 2)) (el_cons ee_nonO el_nil))) (by show 3 ≤ sizeLine; decide)) ?_))
      fun ys hys => ea_nil ⟨ys, ?_, by rfl, fun o ho => ?_⟩))) (vv 4) rfl rfl (Nat.lt_of_le_of_lt (Nat.le_trans hkl (by decide)) big) fun z o hz ho => ?_
    · rintro a b rfl rfl
      exact ⟨Nat.le_of_lt (Nat.lt_of_le_of_lt (show _ ≤ 64 by omega) big), rfl⟩
    · rintro ys rfl; rfl
    · rintro a b rfl rfl
      exact ⟨Nat.le_of_lt (Nat.lt_of_le_of_lt (show _ ≤ 64 by rw [List.length_map, List.length_append]; simp; omega) big), rfl⟩
    · rw [hys]
      refine ⟨?_, ?_⟩
      · show 0 < (_ ++ [some g, some g, none]).length
        rw [List.length_append]
        exact Nat.lt_of_lt_of_le (show 0 < 3 by decide) (Nat.le_add_left 3 _)
      · show (List.map some (_ ++ _) ++ [some g, some g, none]).length < 2 ^ 30
        rw [List.length_append, List.length_map, List.length_append]
        show _ + _ + 3 < 2 ^ 30
        omega
    · rw [hys] at ho
      rintro s rfl
      rcases List.mem_append.mp ho with ho | ho
      · obtain ⟨z, hz, e⟩ := List.mem_map.mp ho
        cases e
        have hz : s ∈ xs.filter fun z => !decide (z = x) := (List.mem_append.mp hz).elim id id
        obtain ⟨h1, h2⟩ := List.mem_filter.mp hz
        exact .inr ⟨h1, by simpa using h2⟩
      · simp at ho
        exact .inl ho
    · subst hz
      have e5 : xs.take (i + 1) = xs.take i ++ [z] := by rw [List.take_add_one, hx]; rfl
      have hkn : z ∉ kvs.map (·.1) := by rw [hk]; exact hnew
      refine sq_nil ⟨_, ⟨rfl, pt kvs z o, ?_, fun n p hp => ?_, rfl⟩, weak_by (.keep (.keep (.keep (.keep (.drop (.drop (.keep .nil)))))))⟩
      · rw [pt_new hkn, List.map_append, hk, e5]; rfl
      · rw [pt_new hkn] at hp
        rcases List.mem_append.mp hp with hp | hp
        · exact hpl n p hp
        · have e6 := List.mem_singleton.mp hp
          cases e6
          exact ho
  · subst e1 e2
    rw [List.take_length] at hk
    exact sq_seal (.base (.base (.base (.dct inferInstance rfl (.non (.non (.non .nil))))))) (sq_ret' (vv 3) (by intro y hy; rw [hy]; exact tabOk_of h.nd (by rw [hk]) hpl))
theorem cutL_init {α : Type} (xs : List α) : cutL xs none (some (-1)) = xs.dropLast := by
  unfold cutL
  have e1 : HT.sIx xs.length 0 none = 0 := rfl
  have e2 : HT.sIx xs.length xs.length (some (-1)) = xs.length - 1 := by
    show (if (-1 : Int) < 0 then ((-1 : Int) + (xs.length : Int)).toNat else min (-1 : Int).toNat xs.length) = _
    rw [if_pos (by decide)]; omega
  rw [e1, e2]
  simp [List.dropLast_eq_take]
theorem c_law_path (fr : Fr mg) (D : DefOk K mg d__law_path) (k : Nat) (cM : C8.Cal P w K mg base (k + 3) "_law_mixed" SpMixed []) : C8.Cal P w K mg base (k + 4) "_law_path" SpTab [] := by
  have S : FnScope ["draw", "some", "end", "row", "k", "dot"] ["draw", "some", "end"] d__law_path.scope := C8.fnScope_by (by decide +kernel)
  refine fn_ok ["draw", "some", "end", "row", "k", "dot"] ["draw", "some", "end"] D S (fun _ _ _ _ _ _ us hl => match us, hl with | [_, _, _], _ => rfl) (fun _ => rfl) fun ⟨dots, g⟩ f cdv A outer s H E ⟨h, hpos⟩ hr => ?_
  have h : DotsOk dots := h
  have hfew := h.few
  have big : (64 : Nat) < sizeLine := by decide
  refine sq_set 3 (p := fun row => ∃ xs : List Str, xs.Perm dots ∧ row = xs ++ [g]) (EN.ee (en_cat (RL := rL rS) (RL' := rL rS) (ee_call (q := fun y : List Str => y.Perm dots) cM hr (by omega) (ed_cons (vv 0) (ed_cons (vv 1) (ea_nil ⟨dots, h.str, by rfl, fun y hy => hy⟩)))) (dv_lst (R := rS) (xs := [g]) (el_cons (vv 2) el_nil) (by show 1 ≤ sizeLine; decide)) ?_)) (fun row hrow => ?_) S.nd
  · rintro a b ha rfl
    have := ha.length_eq
    exact ⟨Nat.le_of_lt (Nat.lt_of_le_of_lt (show _ ≤ 64 by simp; omega) big), a, ha, rfl⟩
  obtain ⟨xs, hp, rfl⟩ := hrow
  have hl4 : xs.length ≤ 4 := by rw [hp.length_eq]; exact hfew
  have hnd : xs.Nodup := hp.nodup_iff.mpr h.nd
  refine sq_ret' (ED.ee (ed_dictP (R := rO) rfl (EN.ee (lp_all (R := rNat) (S := rS) (T := rP rS rO) (ps := fun zs => zs = (List.range xs.length).zip xs) (qe := fun z y => y = (z.2, some ((xs ++ [g]).getD (z.1 + 1) g))) 4 5 rfl S.nd (ES.imp' (es_enum (EN.ee (en_slL (R := rS) (pr := (· = xs)) (vv 3) eo_none (eo_some (dv_neg ee_int)) ?_)) fr.enumerate) ?_) ?_
    fun zs e z hz s0 H0 Cc cl fp => dv_pair (vv 5) (EE.opt (dv_ixL (vv 3) (dv_bin o_add (EE.int (vv 4)) ee_int trivial) ?_)))) fr.dict)) ?_
  · rintro ys l u rfl rfl ⟨i, rfl, rfl⟩
    rw [cutL_init, List.dropLast_concat]
  · rintro zs ⟨ys, rfl, rfl⟩; rfl
  · rintro zs rfl; rw [List.length_zip, List.length_range]; exact Nat.lt_of_le_of_lt (show _ ≤ 64 by omega) big
  · rw [e] at hz
    obtain ⟨i, hi⟩ := List.mem_iff_getElem?.mp hz
    obtain ⟨h1, h2⟩ := List.getElem?_zip_eq_some.mp hi
    obtain ⟨h3, h4⟩ := List.getElem?_eq_some_iff.mp h1
    rw [List.length_range] at h3
    rw [List.getElem_range] at h4
    have := atI_nat (xs ++ [g]) (z.1 + 1)
    rw [Int.natCast_add] at this
    refine this.trans ?_
    have hlt : z.1 + 1 < (xs ++ [g]).length := by rw [List.length_append]; simp; omega
    rw [List.getElem?_eq_getElem hlt, List.getD_eq_getElem?_getD, List.getElem?_eq_getElem hlt]; rfl
  · rintro y ⟨ps, ⟨zs, rfl, hps⟩, rfl⟩
    have eps : ps = ((List.range xs.length).zip xs).map fun z => (z.2, some ((xs ++ [g]).getD (z.1 + 1) g)) := paired_map hps
    have ekeys : ps.map (·.1) = xs := by
      rw [eps, List.map_map]
      show ((List.range xs.length).zip xs).map (fun z => z.2) = xs
      exact zip_snd (by rw [List.length_range])
    rw [foldl_pt (d := []) (by rw [List.nil_append, ekeys]; exact hnd), List.nil_append]
    refine tabOk_of h.nd (by rw [ekeys]; exact hp) fun n p hm => ?_
    rw [eps] at hm
    obtain ⟨z, hz, e⟩ := List.mem_map.mp hm
    cases e
    obtain ⟨i, hi⟩ := List.mem_iff_getElem?.mp hz
    obtain ⟨h1, h2⟩ := List.getElem?_zip_eq_some.mp hi
    obtain ⟨h3, h4⟩ := List.getElem?_eq_some_iff.mp h1
    rw [List.length_range] at h3
    rw [List.getElem_range] at h4
    rintro s e
    cases e
    by_cases hlast : z.1 + 1 < xs.length
    · right
      have e2 : (xs ++ [g]).getD (z.1 + 1) g = xs[z.1 + 1] := by
        rw [List.getD_eq_getElem?_getD, List.getElem?_append_left hlast, List.getElem?_eq_getElem hlast]; rfl
      rw [e2]
      refine ⟨hp.mem_iff.mp (List.getElem_mem hlast), fun e3 => ?_⟩
      have := nodup_at hnd (List.getElem?_eq_getElem hlast) (by rw [e3]; exact h2)
      omega
    · left
      have e2 : z.1 + 1 = xs.length := by omega
      rw [List.getD_eq_getElem?_getD, List.getElem?_append_right (by omega), e2]; simp
end
end K62

end

section
set_option Elab.async false
set_option linter.all false
set_option maxRecDepth 100000
set_option maxHeartbeats 4000000
namespace K62
open PySem PySem.Spec PyProof.Rows L2
theorem tabOk_pt {dots : List Str} {g x s : Str} {t : Tab} (h : tabOk dots g t) (hx : x ∈ dots) (hs : s = g ∨ (s ∈ dots ∧ s ≠ x)) : tabOk dots g (pt t x (some s)) := by
  refine ⟨by rw [pt_keys (h.1.mem_iff.mpr hx)]; exact h.1, fun n hn => ?_⟩
  rw [lk_pt]
  by_cases e : n = x
  · rw [if_pos e]
    refine ⟨_, rfl, ?_⟩
    rintro s' e'
    cases e'
    rw [e]; exact hs
  · rw [if_neg e]; exact h.2 n hn
section
variable {P : Program} {w : World} {K : PySem.W.Frag} {mg : Str → Option Value} {base : Heap}
abbrev SpNear : Sp := spOf (fun a : Tab × Str × List Str => [⟨rDraw, ()⟩, ⟨rTab, a.1⟩, ⟨rS, a.2.1⟩]) (fun a => DotsOk a.2.2 ∧ 0 < a.2.2.length ∧ tabOk a.2.2 a.2.1 a.1) rTab (fun a y => tabOk a.2.2 a.2.1 y)
theorem c_law_near (fr : Fr mg) (D : DefOk K mg d__law_near) (k : Nat) (cT : C8.Cal P w K mg base (k + 2) "_law_take" SpTake []) (cP : C8.Cal P w K mg base (k + 3) "_law_pick" (SpPick (rL rS) rS) []) : C8.Cal P w K mg base (k + 4) "_law_near" SpNear [] := by
  have S : FnScope ["draw", "table", "end", "found", "some", "turn", "dot", "spot"] ["draw", "table", "end"] d__law_near.scope := C8.fnScope_by (by decide +kernel)
  refine fn_ok ["draw", "table", "end", "found", "some", "turn", "dot", "spot"] ["draw", "table", "end"] D S (fun _ _ _ _ _ _ us hl => match us, hl with | [_, _, _], _ => rfl) (fun _ => rfl) fun ⟨t, g, dots⟩ f cdv A outer s H E ⟨h, hpos, ht⟩ hr => ?_
  have h : DotsOk dots := h
  have ht : tabOk dots g t := ht
  have hpos : 0 < dots.length := hpos
  have hfew := h.few
  have big : (64 : Nat) < sizeLine := by decide
  have hlen : ∀ {t : Tab}, tabOk dots g t → t.length ≤ 4 := fun {t} h2 => by
    have := h2.1.length_eq
    rw [List.length_map] at this; omega
  refine si_par 3 4 (post := fun C1 κs => ∃ so : List Str, so.Perm dots ∧ C1 = ⟨[.base ⟨rDraw, ()⟩, .base ⟨rTab, t⟩, .base ⟨rS, g⟩, .non, .non, .non, .non, .non], [.dct rO t]⟩ ∧ κs = [.own 0, .val ⟨rL rS, so⟩]) rfl S.nd
    (eis_cons (EI.ed (R := rO) (ed_dict (vv 1) fr.dict)) fun C1 κ hc => by
      obtain ⟨y, py, e1, e2⟩ := hc
      subst py e1 e2
      exact eis_cons (EI.ee (R := rL rS) (p := fun so : List Str => so.Perm dots) (EN.ee (en_sortD rfl (vv 1) fr.sorted (Nat.lt_of_le_of_lt (hlen ht) (by decide)) fun ys hp _ => hp.trans ht.1))) fun C2 κ2 hc2 => by
        obtain ⟨e3, z, hz, e4⟩ := hc2
        exact eis_nil ⟨z, hz, by rw [e3]; rfl, by rw [e4]; rfl⟩) ?_
  rintro C1 κs ⟨so, hso, e1, e2⟩
  subst e1 e2
  refine ⟨rfl, ?_⟩
  refine sq_for1 5 (R := rNat) (inv := fun xs i C' => ∃ kvs : Tab, tabOk dots g kvs ∧ C' = ⟨[.base ⟨rDraw, ()⟩, .base ⟨rTab, t⟩, .base ⟨rS, g⟩, .own 0, .val ⟨rL rS, so⟩, .non, .non, .non], [.dct rO kvs]⟩) rfl PassesOwn.never S.nd
    (es_range (pn := fun n => n ≤ 4) (ee_bin o_add ee_int (ee_call (q := fun y : Int => 0 ≤ y ∧ y < 2) cT hr (by omega) (ed_cons (vv 0) (ed_cons ee_int (ea_nil ⟨2, ⟨by decide, by decide⟩, by rfl, fun y hy => hy⟩)))) ?_) fr.range) (fun xs e => ⟨t, ht, rfl⟩) (fun xs i x C' _ hx ⟨kvs, hk, e2⟩ => ?_) (fun xs C' _ ⟨kvs, hk, e2⟩ => ?_)
  · rintro x y rfl ⟨h1, h2⟩
    exact ⟨trivial, (1 + y).toNat, by omega, by omega, by omega⟩
  · subst e2
    have hsl : so.length = dots.length := hso.length_eq
    refine sq_set 6 (p := fun y : Str => y ∈ so) (ee_call (q := fun y : Str => y ∈ so) cP hr (by omega) (ed_cons (vv 0) (ed_cons (vv 4) (ea_nil ⟨so, ⟨by omega, by omega⟩, by rfl, fun y hy => hy⟩)))) (fun dt hdt => ?_) S.nd
    have hdots : dt ∈ dots := hso.mem_iff.mp hdt
    have hfl : (so.filter fun z => !decide (z = dt)).length ≤ 4 := Nat.le_trans (List.length_filter_le _ _) (by omega)
    refine sq_dput 3 (R := rO) (p := fun o => ∃ s, o = some s ∧ (s = g ∨ (s ∈ dots ∧ s ≠ dt))) (pk := (· = dt)) (by exact Room.u1 hr) (EE.optE (ee_call (q := fun s : Str => s = g ∨ (s ∈ dots ∧ s ≠ dt)) cP hr (by omega) (ed_cons (vv 0) (ea_cons (p := fun ys => ys = (so.filter fun z => !decide (z = dt)) ++ [g]) (EN.ee (en_cat (RL := rL rS) (RL' := rL rS) (EN.ee (lc_filt (R := rS) (f := fun z => !decide (z = dt)) 7 rfl S.nd (es_list (vv 4)) (Nat.lt_of_le_of_lt (show so.length ≤ 64 by omega) big) (fun z hz s0 H0 Cc cl fp => ET.is (dt_cmp o_neS (vv 7) (vv 6) trivial) (by rfl)) fun z hz s0 H0 Cc cl fp => vv 7)) (dv_lst (R := rS) (xs := [g]) (el_cons (vv 2) el_nil) (by show 1 ≤ sizeLine; decide)) ?_))
      fun ys hys => ea_nil ⟨ys, ?_, by rfl, fun o ho => ?_⟩))) fun s hs => ⟨s, rfl, hs⟩) (vv 6) rfl rfl (Nat.lt_of_le_of_lt (Nat.le_trans (hlen hk) (by decide)) big) fun z o hz ho => ?_
    · rintro a b rfl rfl
      refine ⟨?_, rfl⟩
      show _ + 1 ≤ sizeLine
      exact Nat.le_of_lt (Nat.lt_of_le_of_lt (show _ ≤ 64 by omega) big)
    · rw [hys]
      refine ⟨?_, ?_⟩
      · show 0 < (_ ++ [g]).length
        rw [List.length_append]; exact Nat.lt_of_lt_of_le (show 0 < 1 by decide) (Nat.le_add_left 1 _)
      · show (_ ++ [g]).length < 2 ^ 30
        rw [List.length_append]
        show _ + 1 < 2 ^ 30
        omega
    · rw [hys] at ho
      rcases List.mem_append.mp ho with ho | ho
      · obtain ⟨h1, h2⟩ := List.mem_filter.mp ho
        exact .inr ⟨hso.mem_iff.mp h1, by simpa using h2⟩
      · exact .inl (List.mem_singleton.mp ho)
    · subst hz
      obtain ⟨s, rfl, hs⟩ := ho
      exact sq_nil ⟨_, ⟨pt kvs z (some s), tabOk_pt hk hdots hs, rfl⟩, weak_by (.keep (.keep (.keep (.keep (.keep (.drop (.drop (.keep .nil))))))))⟩
  · subst e2
    exact sq_seal (.base (.base (.base (.dct inferInstance rfl (.val (.non (.non (.non .nil)))))))) (sq_ret' (vv 3) (by intro y hy; rw [hy]; exact hk))
abbrev SpPairT : Sp := spOf GaTab (fun a => DotsOk a.1 ∧ 0 < a.1.length) (rP rTab rTab) (fun a y => tabOk a.1 a.2 y.1 ∧ tabOk a.1 a.2 y.2)
theorem c_law_pair (fr : Fr mg) (D : DefOk K mg d__law_pair) (k : Nat) (cT : C8.Cal P w K mg base (k + 2) "_law_take" SpTake []) (cTr : C8.Cal P w K mg base (k + 4) "_law_tree" SpTab []) (cPa : C8.Cal P w K mg base (k + 4) "_law_path" SpTab []) (cWi : C8.Cal P w K mg base (k + 4) "_law_wild" SpTab []) (cNe : C8.Cal P w K mg base (k + 4) "_law_near" SpNear []) : C8.Cal P w K mg base (k + 5) "_law_pair" SpPairT [] := by
  have S : FnScope ["draw", "some", "end", "sort", "old"] ["draw", "some", "end"] d__law_pair.scope := C8.fnScope_by (by decide +kernel)
  refine fn_ok ["draw", "some", "end", "sort", "old"] ["draw", "some", "end"] D S (fun _ _ _ _ _ _ us hl => match us, hl with | [_, _, _], _ => rfl) (fun _ => rfl) fun ⟨dots, g⟩ f cdv A outer s H E ⟨h, hpos⟩ hr => ?_
  refine sq_set 3 (p := fun _ : Int => True) (ee_call (q := fun _ : Int => True) cT hr (by omega) (ed_cons (vv 0) (ed_cons ee_int (ea_nil ⟨6, ⟨by decide, by decide⟩, by rfl, fun y hy => trivial⟩)))) (fun so _ => ?_) S.nd
  refine sq_ifr (pb := fun _ => True) (ET.imp (dt_cmp o_lt (vv 3) ee_int trivial) fun _ _ => trivial) (fun _ => sq_ret (ee_pair (p := fun y => tabOk dots g y) (q := fun y => tabOk dots g y) (ee_call cTr hr (by omega) (ed_cons (vv 0) (ed_cons (vv 1) (ed_cons (vv 2) (ea_nil ⟨(dots, g), ⟨h, hpos⟩, by rfl, fun y hy => hy⟩))))) (ee_call cTr hr (by omega) (ed_cons (vv 0) (ed_cons (vv 1) (ed_cons (vv 2) (ea_nil ⟨(dots, g), ⟨h, hpos⟩, by rfl, fun y hy => hy⟩))))))) fun _ => ?_
  refine sq_ifr (pb := fun _ => True) (ET.imp (dt_cmp o_eqI (vv 3) ee_int trivial) fun _ _ => trivial) (fun _ => sq_ret (ee_pair (p := fun y => tabOk dots g y) (q := fun y => tabOk dots g y) (ee_call cPa hr (by omega) (ed_cons (vv 0) (ed_cons (vv 1) (ed_cons (vv 2) (ea_nil ⟨(dots, g), ⟨h, hpos⟩, by rfl, fun y hy => hy⟩))))) (ee_call cPa hr (by omega) (ed_cons (vv 0) (ed_cons (vv 1) (ed_cons (vv 2) (ea_nil ⟨(dots, g), ⟨h, hpos⟩, by rfl, fun y hy => hy⟩))))))) fun _ => ?_
  refine sq_set 4 (p := fun y => tabOk dots g y) (ee_if (pb := fun _ => True) (ET.imp (dt_cmp o_eqI (vv 3) ee_int trivial) fun _ _ => trivial) (fun _ => ee_call cTr hr (by omega) (ed_cons (vv 0) (ed_cons (vv 1) (ed_cons (vv 2) (ea_nil ⟨(dots, g), ⟨h, hpos⟩, by rfl, fun y hy => hy⟩))))) fun _ => ee_call cWi hr (by omega) (ed_cons (vv 0) (ed_cons (vv 1) (ed_cons (vv 2) (ea_nil ⟨(dots, g), ⟨h, hpos⟩, by rfl, fun y hy => hy⟩))))) (fun old ho => ?_) S.nd
  exact sq_ret' (ee_pair (p := fun y => y = old) (q := fun y => tabOk dots g y) (vv 4) (ee_if (pb := fun _ => True) (ET.imp (dt_cmp o_eqI (vv 3) ee_int trivial) fun _ _ => trivial) (fun _ => ee_call cNe hr (by omega) (ed_cons (vv 0) (ed_cons (vv 4) (ed_cons (vv 2) (ea_nil ⟨(old, g, dots), ⟨h, hpos, ho⟩, by rfl, fun y hy => hy⟩))))) fun _ => ee_call cWi hr (by omega) (ed_cons (vv 0) (ed_cons (vv 1) (ed_cons (vv 2) (ea_nil ⟨(dots, g), ⟨h, hpos⟩, by rfl, fun y hy => hy⟩)))))) (by rintro y ⟨h1, h2⟩; exact ⟨by rw [h1]; exact ho, h2⟩)
end
end K62

end

section
set_option Elab.async false
set_option linter.all false
set_option maxRecDepth 100000
set_option maxHeartbeats 4000000
namespace K62
open PySem PySem.Spec PyProof.Rows L2
theorem letters26 : letters.cps.toList.length = 26 := by decide +kernel
theorem letters_nd : letters.cps.toList.Nodup := by decide +kernel
theorem letters_sz : letters.length = 26 := by rw [← letters26]; exact (Array.length_toList (xs := letters.cps)).symm
theorem okN_of {z : Str} (h1 : 1 ≤ z.cps.toList.length) (h2 : z.cps.toList.length ≤ 6) (h3 : ∀ c ∈ z.cps.toList, c ∈ letters.cps.toList) : okN z := ⟨by show 1 ≤ z.cps.size; rw [← Array.length_toList]; exact h1, by show z.cps.size ≤ 6; rw [← Array.length_toList]; exact h2, h3⟩
theorem fold_join : ∀ (rest : List Str) (acc : Array Nat), (rest.foldl (fun acc p => acc ++ (Str.ofString "").cps ++ p.cps) acc).toList = acc.toList ++ rest.flatMap fun p => p.cps.toList
  | [], acc => by simp
  | p :: rest, acc => by
    rw [List.foldl_cons, fold_join rest]
    have e : (Str.ofString "").cps = #[] := by rfl
    rw [e]
    simp
theorem join_list (y : Str) (ys : List Str) : (Txt.join (Str.ofString "") (y :: ys)).cps.toList = (y :: ys).flatMap fun p => p.cps.toList := by
  show (List.foldl _ y.cps ys).toList = _
  rw [fold_join]
  simp
theorem join_ok {ys : List Str} (h1 : 1 ≤ ys.length) (h2 : ys.length ≤ 6) (h3 : ∀ y ∈ ys, ∃ c ∈ letters.cps.toList, y = ⟨#[c]⟩) : okN (Txt.join (Str.ofString "") ys) := by
  cases ys with
  | nil => simp at h1
  | cons y ys =>
    have hl : ∀ l : List Str, (∀ y ∈ l, ∃ c ∈ letters.cps.toList, y = ⟨#[c]⟩) → (l.flatMap fun p => p.cps.toList).length = l.length := by
      intro l
      induction l with
      | nil => intro _; rfl
      | cons a l ih =>
        intro h
        obtain ⟨c, _, rfl⟩ := h a List.mem_cons_self
        rw [List.flatMap_cons, List.length_append, ih fun z hz => h z (List.mem_cons_of_mem _ hz)]
        simp; omega
    refine okN_of ?_ ?_ ?_
    · rw [join_list, hl _ h3]; exact h1
    · rw [join_list, hl _ h3]; exact h2
    · intro c hc
      rw [join_list] at hc
      obtain ⟨z, hz, hcz⟩ := List.mem_flatMap.mp hc
      obtain ⟨d, hd, rfl⟩ := h3 z hz
      have : c = d := by simpa using hcz
      rw [this]; exact hd
def w5 (z : Str) : Str := cutS z none (some 5)
theorem w5_list (z : Str) : (w5 z).cps.toList = z.cps.toList.take 5 := by
  unfold w5 cutS
  have e1 : HT.sIx z.length 0 none = 0 := rfl
  have e2 : HT.sIx z.length z.length (some 5) = min 5 z.length := HT.sIx_nat _ _ 5
  rw [e1, e2]
  simp
  show min 5 (min z.cps.size z.cps.size) = min 5 z.cps.size
  omega
theorem app_list (a b : Str) : (a ++ b).cps.toList = a.cps.toList ++ b.cps.toList := by
  show (a.cps ++ b.cps).toList = _
  simp
theorem near_ok {z : Str} (h : okN z) {c : Nat} (hc : c ∈ letters.cps.toList) : okN (w5 z ++ ⟨#[c]⟩) := by
  refine okN_of ?_ ?_ ?_
  · rw [app_list, List.length_append]; simp
  · rw [app_list, List.length_append, w5_list, List.length_take]; simp; omega
  · intro d hd
    rw [app_list, w5_list] at hd
    rcases List.mem_append.mp hd with hd | hd
    · exact h.2.2 d (List.mem_of_mem_take hd)
    · have : d = c := by simpa using hd
      rw [this]; exact hc
theorem nodup_sub {α : Type} [DecidableEq α] : ∀ {l m : List α}, l.Nodup → (∀ x ∈ l, x ∈ m) → l.length ≤ m.length
  | [], m, _, _ => Nat.zero_le _
  | a :: l, m, h, hm => by
    rw [List.nodup_cons] at h
    have ha := hm a List.mem_cons_self
    have := nodup_sub (l := l) (m := m.erase a) h.2 fun x hx => (List.mem_erase_of_ne (fun e => h.1 (by rw [← e]; exact hx))).mpr (hm x (List.mem_cons_of_mem _ hx))
    rw [List.length_erase_of_mem ha] at this
    have hp := List.length_pos_of_mem ha
    rw [List.length_cons]; omega
def nears (z : Str) : List Str := [z] ++ (letters.cps.toList.map fun c => (⟨#[c]⟩ : Str)).map fun l => w5 z ++ l
theorem near_new {z : Str} {fs : List Str} (hf : fs.length ≤ 5) : ∃ u ∈ nears z, u ∉ fs := by
  refine Classical.byContradiction fun hno => ?_
  have hall : ∀ u ∈ nears z, u ∈ fs := fun u hu => Classical.byContradiction fun hn => hno ⟨u, hu, hn⟩
  have hnd : (letters.cps.toList.map fun c => w5 z ++ (⟨#[c]⟩ : Str)).Nodup := by
    rw [List.nodup_iff_pairwise_ne, List.pairwise_map]
    have h0 := letters_nd
    refine (List.nodup_iff_pairwise_ne.mp h0).imp fun {a b} hab e => hab ?_
    have := congrArg (fun s : Str => s.cps.toList) e
    rw [app_list, app_list] at this
    simpa using List.append_cancel_left this
  have := nodup_sub hnd fun u hu => hall u (List.mem_append_right _ (by rw [List.map_map]; exact hu))
  rw [List.length_map] at this
  have h26 := letters26
  omega
theorem nears_ok {z : Str} (h : okN z) : ∀ u ∈ nears z, okN u := by
  intro u hu
  rcases List.mem_append.mp hu with hu | hu
  · rw [List.mem_singleton.mp hu]; exact h
  · rw [List.map_map] at hu
    obtain ⟨c, hc, rfl⟩ := List.mem_map.mp hu
    exact near_ok h hc
def words : List Str := ["a", "b", "goal", "home", "lost", "rings", "posts", "done", "way", "zzzzzz"]
theorem words_ok : ∀ z ∈ words, okN z := by
  have h : ∀ z ∈ words, (1 ≤ z.cps.toList.length ∧ z.cps.toList.length ≤ 6) ∧ ∀ c ∈ z.cps.toList, c ∈ letters.cps.toList := by decide +kernel
  exact fun z hz => okN_of (h z hz).1.1 (h z hz).1.2 (h z hz).2
section
variable {P : Program} {w : World} {K : PySem.W.Frag} {mg : Str → Option Value} {base : Heap}
abbrev SpWords : Sp := spOf (fun c : Int => [⟨rDraw, ()⟩, ⟨rI, c⟩]) (fun c => 0 ≤ c ∧ c ≤ 6) (rL rS) (fun c y => y.length = c.toNat ∧ y.Nodup ∧ ∀ z ∈ y, okN z)
theorem c_law_words (fr : Fr mg) (D : DefOk K mg d__law_words) (k : Nat) (cT : C8.Cal P w K mg base (k + 2) "_law_take" SpTake []) (cP : C8.Cal P w K mg base (k + 3) "_law_pick" (SpPick (rL rS) rS) []) (cI : C8.Cal P w K mg base (k + 3) "_law_pick" (SpPick (rL rI) rI) []) (cC : C8.Cal P w K mg base (k + 3) "_law_pick" SpPickS []) : C8.Cal P w K mg base (k + 4) "_law_words" SpWords [] := by
  have S : FnScope ["draw", "count", "letters", "found", "some", "k", "word", "span", "near", "j", "letter", "uno"] ["draw", "count"] d__law_words.scope := C8.fnScope_by (by decide +kernel)
  refine fn_ok ["draw", "count", "letters", "found", "some", "k", "word", "span", "near", "j", "letter", "uno"] ["draw", "count"] D S (fun _ _ _ _ _ _ us hl => match us, hl with | [_, _], _ => rfl) (fun _ => rfl) fun cnt f cdv A outer s H E ⟨h0, h6⟩ hr => ?_
  have h0 : 0 ≤ cnt := h0
  have h6 : cnt ≤ 6 := h6
  have big : (64 : Nat) < sizeLine := by decide
  refine si_tup [2, 3] (post := fun C1 κs => C1 = ⟨[.base ⟨rDraw, ()⟩, .base ⟨rI, cnt⟩, .non, .non, .non, .non, .non, .non, .non, .non, .non, .non], [.lst rS []]⟩ ∧ κs = [.val ⟨rS, letters⟩, .own 0]) rfl (pgs_cons (pg_name S.nd rfl (Or.inr rfl)) (pgs_cons (pg_name S.nd rfl (Or.inr rfl)) pgs_nil))
    (eis_cons (EI.dv (R := rS) (y := letters) ee_str) fun C1 κ hc => by
      obtain ⟨e1, e2⟩ := hc
      subst e1 e2
      exact eis_cons (EI.en (R := rS) (en_lst (xs := []) el_nil (Nat.zero_le _))) fun C2 κ2 hc2 => by
        obtain ⟨z, hz, e3, e4⟩ := hc2
        exact eis_nil ⟨by rw [e3, hz]; rfl, by rw [e4]; rfl⟩) ?_
  rintro C1 κs ⟨e1, e2⟩
  subst e1 e2
  refine ⟨rfl, ?_⟩
  refine dq_set 4 (R := rL rS) (dv_lst (R := rS) (xs := words) (el_cons ee_str (el_cons ee_str (el_cons ee_str (el_cons ee_str (el_cons ee_str (el_cons ee_str (el_cons ee_str (el_cons ee_str (el_cons ee_str (el_cons ee_str el_nil)))))))))) (by show 10 ≤ sizeLine; decide)) ?_ S.nd
  refine sq_for1 5 (R := rNat) (inv := fun xs i C' => xs = List.range cnt.toNat ∧ ∃ fs : List Str, fs.length = i ∧ fs.Nodup ∧ (∀ z ∈ fs, okN z) ∧ C' = ⟨[.base ⟨rDraw, ()⟩, .base ⟨rI, cnt⟩, .val ⟨rS, letters⟩, .own 0, .val ⟨rL rS, words⟩, .non, .non, .non, .non, .non, .non, .non], [.lst rS fs]⟩) rfl PassesOwn.never S.nd
    (ES.imp' (es_range (pn := fun n => n = cnt.toNat) ((vv 1 : EV _ _ _ rI cnt).imp ?_) fr.range) ?_) (fun xs e => ⟨e, [], rfl, by simp, by simp, rfl⟩) (fun xs i x C' _ hx ⟨e1, fs, hl, hnd, hok, e2⟩ => ?_) (fun xs C' _ ⟨e1, fs, hl, hnd, hok, e2⟩ => ?_)
  · rintro z rfl
    exact ⟨z.toNat, by omega, rfl, by omega⟩
  · rintro xs ⟨n, rfl, rfl⟩; rfl
  · subst e1 e2
    have hi := (List.getElem?_eq_some_iff.mp hx).1
    rw [List.length_range] at hi
    have hi5 : fs.length ≤ 5 := by omega
    refine sq_set 6 (p := fun z : Str => okN z) (ee_call (q := fun z : Str => okN z) cP hr (by omega) (ed_cons (vv 0) (ed_cons (vv 4) (ea_nil ⟨words, ⟨by decide, by decide⟩, by rfl, fun y hy => words_ok y hy⟩)))) (fun wd hwd => ?_) S.nd
    refine sq_if (pb := fun _ => True) (nx1 := fun C2 => ∃ wd : Str, okN wd ∧ C2 = ⟨[.base ⟨rDraw, ()⟩, .base ⟨rI, cnt⟩, .val ⟨rS, letters⟩, .own 0, .val ⟨rL rS, words⟩, .val ⟨rNat, x⟩, .val ⟨rS, wd⟩, .non, .non, .non, .non, .non], [.lst rS fs]⟩) (et_cmp o_gt (ee_call (q := fun _ : Int => True) cT hr (by omega) (ed_cons (vv 0) (ed_cons ee_int (ea_nil ⟨3, ⟨by decide, by decide⟩, by rfl, fun y hy => trivial⟩)))) ee_int fun _ _ _ _ => ⟨trivial, trivial⟩) (fun _ => ?_) (fun _ => sq_nil ⟨wd, hwd, rfl⟩) (fun C2 ⟨wd, hwd, e4⟩ => ?_)
    · refine sq_set 7 (p := fun z : Int => 1 ≤ z ∧ z ≤ 6) (ee_bin o_add ee_int (ee_call (q := fun z : Int => 0 ≤ z ∧ z < 6) cT hr (by omega) (ed_cons (vv 0) (ea_cons (p := fun m : Int => m ∈ [1, 2, 6]) (ee_call (q := fun m : Int => m ∈ [1, 2, 6]) cI hr (by omega) (ed_cons (vv 0) (ed_cons (dv_lst (R := rI) (xs := [1, 2, 6]) (el_cons ee_int (el_cons ee_int (el_cons ee_int el_nil))) (by show 3 ≤ sizeLine; decide)) (ea_nil ⟨[1, 2, 6], ⟨by decide, by decide⟩, by rfl, fun y hy => hy⟩)))) fun m hm => ea_nil ⟨m, ?_, by rfl, fun y hy => ?_⟩))) ?_) (fun sp hsp => ?_) S.nd
      · simp at hm
        rcases hm with rfl | rfl | rfl <;> exact ⟨by decide, by decide⟩
      · obtain ⟨h1, h2⟩ := hy
        simp at hm
        rcases hm with rfl | rfl | rfl <;> exact ⟨h1, by omega⟩
      · rintro a b rfl ⟨h1, h2⟩
        exact ⟨trivial, by omega, by omega⟩
      · obtain ⟨s1, s2⟩ := hsp
        refine sq_set 6 (p := fun z : Str => okN z) (ee_join (q := fun z : Str => okN z) (z := Str.ofString "") ee_str (EN.ee (lc_all (R := rNat) (S := rS) (ps := fun xs => xs = List.range sp.toNat) (qe := fun _ y => ∃ c ∈ letters.cps.toList, y = ⟨#[c]⟩) 9 rfl S.nd (ES.imp' (es_range (pn := fun n => n = sp.toNat) ((vv 7 : EV _ _ _ rI sp).imp ?_) fr.range) ?_) ?_ fun xs e y hy s0 H0 Cc cl fp => ee_call cC hr (by omega) (ed_cons (vv 0) (ed_cons (vv 2) (ea_nil ⟨letters, ⟨by rw [letters_sz]; decide, by rw [letters_sz]; decide⟩, by rfl, fun y hy => hy⟩))))) ?_) (fun wd2 hwd2 => sq_nil ⟨wd2, hwd2, rfl⟩ (weak_by (.keep (.keep (.keep (.keep (.keep (.keep (.keep (.drop (.keep (.keep (.keep (.keep .nil)))))))))))))) S.nd
        · rintro z rfl
          exact ⟨z.toNat, by omega, rfl, by omega⟩
        · rintro xs ⟨n, rfl, rfl⟩; rfl
        · rintro xs rfl; rw [List.length_range]; exact Nat.lt_of_le_of_lt (show _ ≤ 64 by omega) big
        · rintro ys ⟨xs, rfl, hp⟩
          have hl2 := hp.length
          rw [List.length_range] at hl2
          have hel : ∀ y ∈ ys, ∃ c ∈ letters.cps.toList, y = (⟨#[c]⟩ : Str) := fun y hy => by
            obtain ⟨i, hi⟩ := List.mem_iff_getElem?.mp hy
            obtain ⟨_, _, e5⟩ := Paired.at2 hp hi
            exact e5
          refine ⟨?_, join_ok (by omega) (by omega) hel⟩
          have hsum : ∀ l : List Str, (∀ y ∈ l, ∃ c ∈ letters.cps.toList, y = (⟨#[c]⟩ : Str)) → (l.map (·.length)).sum = l.length := by
            intro l
            induction l with
            | nil => intro _; rfl
            | cons a l ih =>
              intro h
              obtain ⟨c, _, rfl⟩ := h a List.mem_cons_self
              rw [List.map_cons, List.sum_cons, ih fun z hz => h z (List.mem_cons_of_mem _ hz), List.length_cons]
              show 1 + _ = _
              omega
          rw [hsum ys hel]
          have e0 : (Str.ofString "").length = 0 := by rfl
          rw [e0]; omega
    · subst e4
      refine dq_set 8 (R := rL rS) (y := nears wd) (EN.ee (en_cat (RL := rL rS) (RL' := rL rS) (pl := fun a => a = [wd]) (pl' := fun b => b = (letters.cps.toList.map fun c => (⟨#[c]⟩ : Str)).map fun l => w5 wd ++ l) (dv_lst (R := rS) (xs := [wd]) (el_cons (vv 6) el_nil) (by show 1 ≤ sizeLine; decide)) (EN.ee (lc_map (R := rS) (S := rS) (g := fun l => w5 wd ++ l) 10 rfl S.nd (es_str (vv 2)) ?_ fun y hy s0 H0 Cc cl fp => EE.is (dv_bin o_catS (x := w5 wd) (y := y) (dv_slS (pr := (· = w5 wd)) (vv 6) eo_none (eo_some ee_int) hwd.le ?_) (vv 10) ?_) (by rfl))) ?_)) ?_ S.nd
      · rw [List.length_map]; exact Nat.lt_of_le_of_lt (show _ ≤ 64 by rw [letters26]; decide) big
      · rintro l u rfl ⟨i, rfl, rfl⟩; rfl
      · obtain ⟨c, _, rfl⟩ := List.mem_map.mp hy
        show (w5 wd).cps.size + 1 ≤ sizeLine
        have := congrArg List.length (w5_list wd)
        rw [Array.length_toList, List.length_take] at this
        exact Nat.le_of_lt (Nat.lt_of_le_of_lt (show _ ≤ 64 by omega) big)
      · rintro a b rfl rfl
        refine ⟨?_, rfl⟩
        rw [List.length_map, List.length_map]
        have := letters26
        show 1 + _ ≤ sizeLine
        exact Nat.le_of_lt (Nat.lt_of_le_of_lt (show _ ≤ 64 by omega) big)
      · have hnl : (nears wd).length = 27 := by
          unfold nears
          rw [List.length_append, List.length_map, List.length_map]
          have := letters26
          show 1 + _ = 27
          omega
        refine sq_append 3 (p := fun u : Str => u ∈ nears wd ∧ u ∉ fs) (ee_ixL (p := fun u : Str => u ∈ nears wd ∧ u ∉ fs) (EN.ee (lc_filt (R := rS) (f := fun u => !decide (u ∈ fs)) 11 rfl S.nd (es_list (vv 8)) (Nat.lt_of_le_of_lt (show _ ≤ 64 by omega) big) (fun u hu s0 H0 Cc cl fp => ET.is (dt_cmp o_ninSL (vv 11) (vv 3) trivial) (by rfl)) fun u hu s0 H0 Cc cl fp => vv 11)) ee_int ?_) rfl rfl (Nat.lt_of_le_of_lt (show _ ≤ 64 by omega) big) fun u hu => ?_
        · rintro zs z rfl rfl
          obtain ⟨u, hu1, hu2⟩ := near_new (z := wd) hi5
          have hpos : 0 < ((nears wd).filter fun u => !decide (u ∈ fs)).length := List.length_pos_of_mem (List.mem_filter.mpr ⟨hu1, by simpa using hu2⟩)
          refine ⟨_, (atI_nat _ 0).trans (List.getElem?_eq_getElem hpos), ?_⟩
          obtain ⟨b1, b2⟩ := List.mem_filter.mp (List.getElem_mem hpos)
          exact ⟨b1, by simpa using b2⟩
        · refine sq_nil ⟨_, ⟨rfl, fs ++ [u], by rw [List.length_append, hl]; rfl, ?_, fun z hz => ?_, rfl⟩, weak_by (.keep (.keep (.keep (.keep (.keep (.drop (.drop (.keep (.drop (.keep (.keep (.keep .nil))))))))))))⟩
          · rw [List.nodup_append]
            refine ⟨hnd, by simp, fun a ha b hb => ?_⟩
            rw [List.mem_singleton] at hb
            subst hb
            intro e; subst e; exact hu.2 ha
          · rcases List.mem_append.mp hz with hz | hz
            · exact hok z hz
            · rw [List.mem_singleton.mp hz]; exact nears_ok hwd u hu.1
  · subst e1 e2
    rw [List.length_range] at hl
    exact sq_seal (.base (.base (.val (.lst inferInstance rfl (.val (.non (.non (.non (.non (.non (.non (.non .nil)))))))))))) (sq_ret' (vv 3) (by intro y hy; rw [hy]; exact ⟨hl, hnd, hok⟩))
end
end K62

end

section
set_option Elab.async false
set_option linter.all false
set_option maxRecDepth 100000
set_option maxHeartbeats 4000000
namespace K62
open PySem PySem.Spec PyProof.Rows L2
/-- a model of the law -/
structure ModelD where
  tabs : Tabs
  dots : List Str
  src : List Str
  posts : List Str
structure ModelOk (m : ModelD) : Prop where
  t : TabsOk m.tabs m.dots
  d : DotsOk m.dots
  s1 : m.src.Nodup
  s2 : ∀ x ∈ m.src, x ∈ m.dots
  p1 : m.posts.Nodup
  p2 : ∀ x ∈ m.posts, x ∈ m.dots
  p3 : m.posts.length ≤ 2
def modelL (v1 v2 v3 v4 : V) : List (Key × V) := [(.inr "tables", v1), (.inr "dots", v2), (.inr "sources", v3), (.inr "posts", v4)]
def ModelR (W : Wd) (H : Hp) (v1 v2 v3 v4 : V) (m : ModelD) : Prop := rTabs.r W H v1 m.tabs ∧ (rL rS).r W H v2 m.dots ∧ (rL rS).r W H v3 m.src ∧ (rL rS).r W H v4 m.posts
theorem ModelR.pl {W1 W2 : Wd} {H1 H2 : Hp} {v1 v2 v3 v4 : V} {m : ModelD} (ag : Agr W1 H1 W2 H2) (h : ModelR W1 H1 v1 v2 v3 v4 m) : ModelR W2 H2 v1 v2 v3 v4 m := ⟨Plain.pl ag h.1, Plain.pl ag h.2.1, Plain.pl ag h.2.2.1, Plain.pl ag h.2.2.2⟩
def rModel : RepT ModelD := RepT.ofPl (fun W H v m => ∃ a v1 v2 v3 v4, v = .ref a ∧ ¬ W.M a ∧ rd H a = some (.dK (modelL v1 v2 v3 v4)) ∧ ModelR W H v1 v2 v3 v4 m)
  fun {_ _ _ _ _ _} ag ⟨a, v1, v2, v3, v4, e, n, h, p⟩ => let ⟨n2, h2⟩ := ag a _ h n; ⟨a, v1, v2, v3, v4, e, n2, h2, p.pl ag⟩
instance : Plain rModel := ⟨fun {_ _ _ _ _ _} ag ⟨a, v1, v2, v3, v4, e, n, h, p⟩ => let ⟨n2, h2⟩ := ag a _ h n; ⟨a, v1, v2, v3, v4, e, n2, h2, p.pl ag⟩⟩
theorem model_val (v1 v2 v3 v4 : V) : valV (modelL v1 v2 v3 v4) (.inr "tables") = some v1 ∧ valV (modelL v1 v2 v3 v4) (.inr "dots") = some v2 ∧ valV (modelL v1 v2 v3 v4) (.inr "sources") = some v3 ∧ valV (modelL v1 v2 v3 v4) (.inr "posts") = some v4 := by
  have a1 : ¬ (Sum.inr ("tables" : Str) : Key) = Sum.inr ("dots" : Str) := by decide
  have a2 : ¬ (Sum.inr ("tables" : Str) : Key) = Sum.inr ("sources" : Str) := by decide
  have a3 : ¬ (Sum.inr ("dots" : Str) : Key) = Sum.inr ("sources" : Str) := by decide
  have a4 : ¬ (Sum.inr ("tables" : Str) : Key) = Sum.inr ("posts" : Str) := by decide
  have a5 : ¬ (Sum.inr ("dots" : Str) : Key) = Sum.inr ("posts" : Str) := by decide
  have a6 : ¬ (Sum.inr ("sources" : Str) : Key) = Sum.inr ("posts" : Str) := by decide
  exact ⟨valV_pos rfl, (valV_neg a1).trans (valV_pos rfl), (valV_neg a2).trans ((valV_neg a3).trans (valV_pos rfl)), (valV_neg a4).trans ((valV_neg a5).trans ((valV_neg a6).trans (valV_pos rfl)))⟩
section
variable {X : Cx} {Γ : ECtx} {a e1 e2 e3 e4 : Expr} {m : ModelD} {pos p1 p2 p3 p4 p5 : Pos} {j j1 j2 j3 j4 : Nat}
theorem m_tables (hu : X.A.units + 1 < cLine) (ha : EV X Γ a rModel m) {ps} : EV X Γ (.Subscript a (.Constant (.str "tables") j ps) pos) rTabs m.tabs :=
  EE.of (pe_dget hu pe_te pe_str (fun _ _ => rfl)) fun W σ H Q hi hh f => ha.te hi hh fun u H1 y e1 py ⟨l, v1, v2, v3, v4, e, n, hd, p⟩ => by
    subst py e
    exact ⟨l, v1, rfl, .inl ⟨_, .inr "tables", rd_dK hd, rfl, (model_val v1 v2 v3 v4).1.symm⟩, f _ H1 _ e1 rfl p.1⟩
theorem m_dots (hu : X.A.units + 1 < cLine) (ha : EV X Γ a rModel m) {ps} : EV X Γ (.Subscript a (.Constant (.str "dots") j ps) pos) (rL rS) m.dots :=
  EE.of (pe_dget hu pe_te pe_str (fun _ _ => rfl)) fun W σ H Q hi hh f => ha.te hi hh fun u H1 y e1 py ⟨l, v1, v2, v3, v4, e, n, hd, p⟩ => by
    subst py e
    exact ⟨l, v2, rfl, .inl ⟨_, .inr "dots", rd_dK hd, rfl, (model_val v1 v2 v3 v4).2.1.symm⟩, f _ H1 _ e1 rfl p.2.1⟩
theorem m_src (hu : X.A.units + 1 < cLine) (ha : EV X Γ a rModel m) {ps} : EV X Γ (.Subscript a (.Constant (.str "sources") j ps) pos) (rL rS) m.src :=
  EE.of (pe_dget hu pe_te pe_str (fun _ _ => rfl)) fun W σ H Q hi hh f => ha.te hi hh fun u H1 y e1 py ⟨l, v1, v2, v3, v4, e, n, hd, p⟩ => by
    subst py e
    exact ⟨l, v3, rfl, .inl ⟨_, .inr "sources", rd_dK hd, rfl, (model_val v1 v2 v3 v4).2.2.1.symm⟩, f _ H1 _ e1 rfl p.2.2.1⟩
theorem m_posts (hu : X.A.units + 1 < cLine) (ha : EV X Γ a rModel m) {ps} : EV X Γ (.Subscript a (.Constant (.str "posts") j ps) pos) (rL rS) m.posts :=
  EE.of (pe_dget hu pe_te pe_str (fun _ _ => rfl)) fun W σ H Q hi hh f => ha.te hi hh fun u H1 y e1 py ⟨l, v1, v2, v3, v4, e, n, hd, p⟩ => by
    subst py e
    exact ⟨l, v4, rfl, .inl ⟨_, .inr "posts", rd_dK hd, rfl, (model_val v1 v2 v3 v4).2.2.2.symm⟩, f _ H1 _ e1 rfl p.2.2.2⟩
theorem ep_tables (i : Nat) {x : Str} (hu : X.A.units + 1 < cLine) {ps} (hN : X.N[i]? = some x := by rfl) (hv : Vis X.env.scope x := by first | exact Or.inl rfl | exact Or.inr (Or.inl rfl) | exact Or.inr (Or.inr rfl)) (hG : Γ[i]? = some (some ⟨rModel, m⟩) := by rfl)
    (hd : (x == ("__debug__" : Str)) = false := by decide) (hcd : (x == ("__classdict__" : Str)) = false := by decide) : EP1 X Γ (.Subscript (.Name x p1) (.Constant (.str "tables") j ps) pos) rTabs m.tabs := fun W σ H hi hh => by
  obtain ⟨v, r, ev⟩ := ep_name (pos := p1) i hN hv hG hd hcd W σ H hi hh
  obtain ⟨l, v1, v2, v3, v4, rfl, n, hrd, p⟩ := r
  exact ⟨v1, p.1, fun H' Q sr q pins s I => (pe_dget hu pe_te pe_str (fun _ _ => rfl)).run pins s σ H' Q I (ev H' _ sr ⟨l, v1, rfl, .inl ⟨_, .inr "tables", rd_dK (by rw [sr l]; exact hrd), rfl, (model_val v1 v2 v3 v4).1.symm⟩, q⟩)⟩
/-- {'tables': .., 'dots': .., 'sources': .., 'posts': ..} -/
theorem ee_model {t : Tabs} {d sr po : List Str} (h1 : EV X Γ e1 rTabs t) (h2 : EV X Γ e2 (rL rS) d) (h3 : EV X Γ e3 (rL rS) sr) (h4 : EV X Γ e4 (rL rS) po) :
    EV X Γ (.Dict [some (.Constant (.str "tables") j1 p1), some (.Constant (.str "dots") j2 p2), some (.Constant (.str "sources") j3 p3), some (.Constant (.str "posts") j4 p4)] [e1, e2, e3, e4] pos) rModel ⟨t, d, sr, po⟩ :=
  EE.of (pe_disp (pps_cons pe_str pe_te (pps_cons pe_str pe_te (pps_cons pe_str pe_te (pps_cons pe_str pe_te pps_nil)))) rfl rfl (by simp) (by show 4 ≤ 15; decide)) fun W σ H Q hi hh f => fun p hp => by
    have h0 : ∀ q ∈ ([(p, HO.dK [])] : List (Addr × HO)), H q.1 = none := fun q hq => by rw [List.mem_singleton.mp hq]; exact hp
    have en : Ext W H (upd H p (.dK [])) := Ext.new hi hp
    have hi1 : (W.adds [(p, .dK [])]).I (upd H p (.dK [])) := adds1_I en.inv upd_same
    have hh1 := hh.into hi h0 en hi1
    refine h1.te hi1 hh1 fun u1 H1 y1 a1 b1 r1 => h2.te a1.inv (hh1.mono a1) fun u2 H2 y2 a2 b2 r2 => h3.te a2.inv (hh1.mono (a1.trans a2)) fun u3 H3 y3 a3 b3 r3 => h4.te a3.inv (hh1.mono ((a1.trans a2).trans a3)) fun u4 H4 y4 a4 b4 r4 => ?_
    subst b1 b2 b3 b4
    refine ⟨adds1_get a4.inv, modelL u1 u2 u3 u4, rfl, by show 4 ≤ 15; decide, ?_⟩
    have em : mergeK [] (modelL u1 u2 u3 u4) = modelL u1 u2 u3 u4 := by rfl
    rw [em]
    have eW : Ext W H (upd H4 p (.dK (modelL u1 u2 u3 u4))) := (en.weak' h0 (((a1.trans a2).trans a3).trans a4)).own hi hp
    have ag : Agr (W.adds [(p, .dK [])]) H4 W (upd H4 p (.dK (modelL u1 u2 u3 u4))) := Agr.upd (fun a m => .inl m) adds1_D
    exact f _ _ _ eW rfl ⟨p, u1, u2, u3, u4, rfl, Wd.fresh hi hp, rd_d upd_same, Plain.pl ag (rTabs.mono ((a2.trans a3).trans a4) r1), Plain.pl ag ((rL rS).mono (a3.trans a4) r2), Plain.pl ag ((rL rS).mono a4 r3), Plain.pl ag r4⟩
end
section
variable {P : Program} {w : World} {K : PySem.W.Frag} {mg : Str → Option Value} {base : Heap}
theorem cutL_from {α : Type} (xs : List α) (n : Nat) : cutL xs (some (n : Int)) none = xs.drop n := by
  unfold cutL
  have e1 : HT.sIx xs.length xs.length none = xs.length := rfl
  have e2 : HT.sIx xs.length 0 (some (n : Int)) = min n xs.length := HT.sIx_nat _ _ _
  rw [e1, e2]
  by_cases h : n ≤ xs.length
  · rw [Nat.min_eq_left h, List.take_of_length_le (by rw [List.length_drop]; exact Nat.le_refl _)]
  · rw [Nat.min_eq_right (by omega), List.drop_of_length_le (Nat.le_refl _), List.drop_of_length_le (by omega)]; simp
theorem c_min2 {X : Cx} {Γ : ECtx} {a b : Expr} {pos pp : Pos} {p q r : Int → Prop} (hc : X.calm = true) (ha : EE X Γ a rI p) (hb : EE X Γ b rI q) (k : ∀ x y, p x → q y → r (if y < x then y else x)) (hm : X.mg "min" = none) (hg : Gl X "min" := by rfl) (na : NS X a := by intro _; rfl) (nb : NS X b := by intro _; rfl)
    (hpl : (backTo pos (starEach [b] X.env)).any (·.1) = false := by rfl) : EE X Γ (.Call (.Name "min" pp) [a, b] [] pos) rI r :=
  EE.of (pe_callB (call_min2 hc) hg hm (by decide +kernel) (pa_cons pe_te (pa_cons pe_te pa_nil (nb _)) (na _)) (by decide) (by decide) (na _) hpl) fun W σ H Q hi hh f => ha.te hi hh fun u H1 x e1 px rx => hb.te e1.inv (hh.mono e1) fun v H2 y e2 py ry => by
    cases rx; cases ry
    exact ⟨x, y, rfl, f _ H2 _ (e1.trans e2) (k x y px py) rfl⟩
abbrev SpModel : Sp := spOf (fun a : Int × Int => [⟨rDraw, ()⟩, ⟨rI, a.1⟩, ⟨rI, a.2⟩]) (fun a => a.1 = 2 ∧ a.2 = 4) rModel (fun _ m => ModelOk m)
theorem c_law_model (fr : Fr mg) (D : DefOk K mg d__law_model) (k : Nat) (cT : C8.Cal P w K mg base (k + 2) "_law_take" SpTake []) (cW : C8.Cal P w K mg base (k + 4) "_law_words" SpWords []) (cP : C8.Cal P w K mg base (k + 5) "_law_pair" SpPairT []) (cM : C8.Cal P w K mg base (k + 3) "_law_mixed" SpMixed []) (cI : C8.Cal P w K mg base (k + 3) "_law_pick" (SpPick (rL rI) rI) []) : C8.Cal P w K mg base (k + 6) "_law_model" SpModel [] := by
  have S : FnScope ["draw", "ends", "most", "many", "size", "names", "dots", "rows", "end", "begins", "stops"] ["draw", "ends", "most"] d__law_model.scope := C8.fnScope_by (by decide +kernel)
  refine fn_ok ["draw", "ends", "most", "many", "size", "names", "dots", "rows", "end", "begins", "stops"] ["draw", "ends", "most"] D S (fun _ _ _ _ _ _ us hl => match us, hl with | [_, _, _], _ => rfl) (fun _ => rfl) fun ⟨en, mo⟩ f cdv A outer s H E ⟨he, hm⟩ hr => ?_
  have he : en = 2 := he
  have hm : mo = 4 := hm
  subst he hm
  have big : (64 : Nat) < sizeLine := by decide
  refine si_par 3 4 (post := fun C1 κs => ∃ a b : Int, (1 ≤ a ∧ a ≤ 2) ∧ (1 ≤ b ∧ b ≤ 4) ∧ C1 = C0 ["draw", "ends", "most", "many", "size", "names", "dots", "rows", "end", "begins", "stops"] [⟨rDraw, ()⟩, ⟨rI, 2⟩, ⟨rI, 4⟩] ∧ κs = [.val ⟨rI, a⟩, .val ⟨rI, b⟩]) rfl S.nd
    (eis_cons (EI.ee (R := rI) (p := fun a : Int => 1 ≤ a ∧ a ≤ 2) (ee_bin o_add ee_int (ee_call (q := fun y : Int => 0 ≤ y ∧ y < 2) cT hr (by omega) (ed_cons (vv 0) (ed_cons (vv 1) (ea_nil ⟨2, ⟨by decide, by decide⟩, by rfl, fun y hy => hy⟩)))) fun x y hx hy => ⟨trivial, by rw [hx]; omega, by rw [hx]; omega⟩)) fun C1 κ hc => by
      obtain ⟨e1, y, py, e2⟩ := hc
      subst e1
      exact eis_cons (EI.ee (R := rI) (p := fun b : Int => 1 ≤ b ∧ b ≤ 4) (ee_bin o_add ee_int (ee_call (q := fun y : Int => 0 ≤ y ∧ y < 4) cT hr (by omega) (ed_cons (vv 0) (ed_cons (vv 2) (ea_nil ⟨4, ⟨by decide, by decide⟩, by rfl, fun y hy => hy⟩)))) fun x y hx hy => ⟨trivial, by rw [hx]; omega, by rw [hx]; omega⟩)) fun C2 κ2 hc2 => by
        obtain ⟨e3, z, hz, e4⟩ := hc2
        exact eis_nil ⟨y, z, py, hz, e3, by rw [e2, e4]⟩) ?_
  rintro C1 κs ⟨ma, si, ⟨m1, m2⟩, ⟨s1, s2⟩, e1, e2⟩
  subst e1 e2
  refine ⟨rfl, ?_⟩
  refine sq_set 5 (p := fun y : List Str => y.length = (ma + si).toNat ∧ y.Nodup ∧ ∀ z ∈ y, okN z) (ee_call (q := fun y : List Str => y.length = (ma + si).toNat ∧ y.Nodup ∧ ∀ z ∈ y, okN z) cW hr (by omega) (ed_cons (vv 0) (ed_cons (dv_bin o_add (vv 3) (vv 4) trivial) (ea_nil ⟨ma + si, ⟨by omega, by omega⟩, by rfl, fun y hy => hy⟩)))) (fun ns ⟨hnl, hnd, hok⟩ => ?_) S.nd
  obtain ⟨mn, rfl⟩ : ∃ mn : Nat, ma = (mn : Int) := ⟨ma.toNat, by omega⟩
  obtain ⟨sn, rfl⟩ : ∃ sn : Nat, si = (sn : Int) := ⟨si.toNat, by omega⟩
  have hnl : ns.length = mn + sn := by omega
  have htd := List.take_append_drop mn ns
  have hnd2 := hnd
  rw [← htd, List.nodup_append] at hnd2
  obtain ⟨nd1, nd2, ndx⟩ := hnd2
  have dl : (ns.drop mn).length = sn := by rw [List.length_drop]; omega
  have tl : (ns.take mn).length = mn := by rw [List.length_take]; omega
  refine si_par 6 7 (post := fun C1 κs => ∃ ds : List Str, ds.Perm (ns.drop mn) ∧ C1 = ⟨[.base ⟨rDraw, ()⟩, .base ⟨rI, 2⟩, .base ⟨rI, 4⟩, .val ⟨rI, (mn : Int)⟩, .val ⟨rI, (sn : Int)⟩, .val ⟨rL rS, ns⟩, .non, .non, .non, .non, .non], [.dct (rP rTab rTab) []]⟩ ∧ κs = [.val ⟨rL rS, ds⟩, .own 0]) rfl S.nd
    (eis_cons (EI.ee (R := rL rS) (p := fun y : List Str => y.Perm (ns.drop mn)) (EN.ee (en_sortS (EN.ee (en_slL (R := rS) (pr := (· = ns.drop mn)) (vv 5) (eo_some (vv 3)) eo_none ?_)) fr.sorted fun xs e => ⟨by rw [e, dl]; omega, fun ys hp _ => by rw [e] at hp; exact hp⟩))) fun C1 κ hc => by
      obtain ⟨e1, y, py, e2⟩ := hc
      subst e1 e2
      exact eis_cons (EI.ed (R := rP rTab rTab) ed_new) fun C2 κ2 hc2 => by
        obtain ⟨z, hz, e3, e4⟩ := hc2
        exact eis_nil ⟨y, py, by rw [e3, hz]; rfl, by rw [e4]; rfl⟩) ?_
  · rintro xs l u rfl ⟨i, rfl, rfl⟩ rfl
    exact cutL_from _ _
  rintro C1 κs ⟨ds, hds, e1, e2⟩
  subst e1 e2
  refine ⟨rfl, ?_⟩
  have dok : DotsOk ds := ⟨hds.nodup_iff.mpr nd2, by rw [hds.length_eq, dl]; omega, fun x hx => hok x (List.mem_of_mem_drop (hds.mem_iff.mp hx))⟩
  have dlen : ds.length = sn := by rw [hds.length_eq, dl]
  have dpos : 0 < ds.length := by omega
  refine sq_for1 8 (R := rS) (inv := fun xs i C' => xs.Perm (ns.take mn) ∧ ∃ kvs : Tabs, kvs.map (·.1) = xs.take i ∧ (∀ g o n, (g, (o, n)) ∈ kvs → tabOk ds g o ∧ tabOk ds g n) ∧ C' = ⟨[.base ⟨rDraw, ()⟩, .base ⟨rI, 2⟩, .base ⟨rI, 4⟩, .val ⟨rI, (mn : Int)⟩, .val ⟨rI, (sn : Int)⟩, .val ⟨rL rS, ns⟩, .val ⟨rL rS, ds⟩, .own 0, .non, .non, .non], [.dct (rP rTab rTab) kvs]⟩) rfl PassesOwn.never S.nd
    (es_list (EN.ee (en_sortS (q := fun y : List Str => y.Perm (ns.take mn)) (EN.ee (en_slL (R := rS) (pr := (· = ns.take mn)) (vv 5) eo_none (eo_some (vv 3)) ?_)) fr.sorted fun xs e => ⟨by rw [e, tl]; omega, fun ys hp _ => by rw [e] at hp; exact hp⟩))) (fun xs e => ⟨e, [], by simp, by simp, rfl⟩) (fun xs i x C' _ hx ⟨e1, kvs, hk, hpl, e2⟩ => ?_) (fun xs C' _ ⟨e1, kvs, hk, hpl, e2⟩ => ?_)
  · rintro xs l u rfl rfl ⟨i, rfl, rfl⟩
    exact cutL_to _ _
  · subst e2
    have hnd : xs.Nodup := e1.nodup_iff.mpr nd1
    have hlt := (List.getElem?_eq_some_iff.mp hx).1
    have hxl : xs.length = mn := by rw [e1.length_eq, tl]
    have hnew : x ∉ xs.take i := by
      intro hm
      obtain ⟨j, hj⟩ := List.mem_iff_getElem?.mp hm
      have hjl := (List.getElem?_eq_some_iff.mp hj).1
      rw [List.length_take] at hjl
      rw [List.getElem?_take_of_lt (by omega)] at hj
      have := nodup_at hnd hj hx
      omega
    have hkn : x ∉ kvs.map (·.1) := by rw [hk]; exact hnew
    have hkl : kvs.length ≤ 4 := by
      have := congrArg List.length hk
      rw [List.length_map, List.length_take] at this
      omega
    refine sq_dput 7 (R := rP rTab rTab) (p := fun y : Tab × Tab => tabOk ds x y.1 ∧ tabOk ds x y.2) (pk := (· = x)) (by exact Room.u1 hr) (ee_call (q := fun y : Tab × Tab => tabOk ds x y.1 ∧ tabOk ds x y.2) cP hr (by omega) (ed_cons (vv 0) (ed_cons (vv 6) (ed_cons (vv 8) (ea_nil ⟨(ds, x), ⟨dok, dpos⟩, by rfl, fun y hy => hy⟩))))) (vv 8) rfl rfl (Nat.lt_of_le_of_lt (Nat.le_trans hkl (by decide)) big) fun z y hz hy => ?_
    subst hz
    have e5 : xs.take (i + 1) = xs.take i ++ [z] := by rw [List.take_add_one, hx]; rfl
    refine sq_nil ⟨_, ⟨e1, pt kvs z y, ?_, fun g o n hm => ?_, rfl⟩, weak_by (.keep (.keep (.keep (.keep (.keep (.keep (.keep (.keep (.drop (.keep (.keep .nil)))))))))))⟩
    · rw [pt_new hkn, List.map_append, hk, e5]; rfl
    · rw [pt_new hkn] at hm
      rcases List.mem_append.mp hm with hm | hm
      · exact hpl g o n hm
      · have e6 := List.mem_singleton.mp hm
        cases e6
        exact hy
  · subst e2
    rw [List.take_length] at hk
    have hxl : xs.length = mn := by rw [e1.length_eq, tl]
    have hkl : kvs.length = mn := by rw [← hxl, ← hk, List.length_map]
    have tok : TabsOk kvs ds := by
      refine ⟨by omega, by omega, fun g hg => ?_, by rw [hk]; exact e1.nodup_iff.mpr nd1, by omega, by omega, dok.ok, dok.nd, fun n hn hg => ?_, hpl⟩
      · rw [hk] at hg; exact hok g (List.mem_of_mem_take (e1.mem_iff.mp hg))
      · rw [hk] at hg
        exact ndx n (e1.mem_iff.mp hg) n (hds.mem_iff.mp hn) rfl
    refine sq_set 9 (p := fun y : List Str => y.Nodup ∧ ∀ x ∈ y, x ∈ ds) (EN.ee (en_sortS (q := fun y : List Str => y.Nodup ∧ ∀ x ∈ y, x ∈ ds) (EN.ee (en_slL (R := rS) (pl := fun y : List Str => y.Perm ds) (pr := fun y : List Str => (y.Nodup ∧ ∀ x ∈ y, x ∈ ds) ∧ y.length ≤ 4) (ee_call (q := fun y : List Str => y.Perm ds) cM hr (by omega) (ed_cons (vv 0) (ed_cons (vv 6) (ea_nil ⟨ds, dok.str, by rfl, fun y hy => hy⟩)))) eo_none (eo_some (ee_call (q := fun y : Int => 0 ≤ y) cT hr (by omega) (ed_cons (vv 0) (ea_cons (p := fun z : Int => 0 < z ∧ z < 2 ^ 30) (ee_bin o_add (c_min2 (r := fun z : Int => 0 ≤ z ∧ z ≤ 4) rfl ee_int (vv 4) ?_ fr.min) ee_int ?_) fun z hz => ea_nil ⟨z, hz, by rfl, fun y hy => hy.1⟩)))) ?_)) fr.sorted ?_)) (fun bg hbg => ?_) S.nd
    · rintro x y rfl rfl
      split <;> omega
    · rintro x y hx rfl
      exact ⟨trivial, by omega, by omega⟩
    · rintro ys l u hy rfl ⟨i, rfl, hi⟩
      obtain ⟨n, rfl⟩ : ∃ n : Nat, i = (n : Int) := ⟨i.toNat, by omega⟩
      rw [cutL_to]
      exact ⟨⟨(hy.nodup_iff.mpr dok.nd).sublist (List.take_sublist _ _), fun x hx => hy.mem_iff.mp (List.mem_of_mem_take hx)⟩, by rw [List.length_take, hy.length_eq]; omega⟩
    · rintro ys ⟨⟨h1, h2⟩, h3⟩
      exact ⟨by omega, fun zs hp _ => ⟨hp.nodup_iff.mpr h1, fun x hx => h2 x (hp.mem_iff.mp hx)⟩⟩
    refine sq_set 10 (p := fun y : List Str => y.Nodup ∧ (∀ x ∈ y, x ∈ ds) ∧ y.length ≤ 2) (EN.ee (en_slL (R := rS) (pl := fun y : List Str => y.Perm ds) (pr := fun y : List Str => y.Nodup ∧ (∀ x ∈ y, x ∈ ds) ∧ y.length ≤ 2) (ee_call (q := fun y : List Str => y.Perm ds) cM hr (by omega) (ed_cons (vv 0) (ed_cons (vv 6) (ea_nil ⟨ds, dok.str, by rfl, fun y hy => hy⟩)))) eo_none (eo_some (ee_call (q := fun y : Int => y ∈ [0, 0, 1, 1, 2]) cI hr (by omega) (ed_cons (vv 0) (ed_cons (dv_lst (R := rI) (xs := [0, 0, 1, 1, 2]) (el_cons ee_int (el_cons ee_int (el_cons ee_int (el_cons ee_int (el_cons ee_int el_nil))))) (by show 5 ≤ sizeLine; decide)) (ea_nil ⟨[0, 0, 1, 1, 2], ⟨by decide, by decide⟩, by rfl, fun y hy => hy⟩))))) ?_)) (fun st hst => ?_) S.nd
    · rintro ys l u hy rfl ⟨i, rfl, hi⟩
      have hi2 : 0 ≤ i ∧ i ≤ 2 := by
        simp at hi
        rcases hi with rfl | rfl | rfl <;> decide
      obtain ⟨n, rfl⟩ : ∃ n : Nat, i = (n : Int) := ⟨i.toNat, by omega⟩
      rw [cutL_to]
      exact ⟨(hy.nodup_iff.mpr dok.nd).sublist (List.take_sublist _ _), fun x hx => hy.mem_iff.mp (List.mem_of_mem_take hx), by rw [List.length_take]; omega⟩
    refine sq_seal (.base (.base (.base (.val (.val (.val (.val (.dct inferInstance rfl (.non (.val (.val .nil))))))))))) ?_
    exact sq_ret' (ee_model (vv 7) (vv 6) (vv 9) (vv 10)) (by intro y hy; rw [hy]; exact ⟨tok, dok, hbg.1, hbg.2, hst.1, hst.2.1, hst.2.2⟩)
end
end K62

end

section
set_option Elab.async false
set_option linter.all false
set_option maxRecDepth 100000
set_option maxHeartbeats 4000000
namespace K62
open PySem PySem.Spec PyProof.Rows L2
def wayT (t : Tabs) (g : Str) (b : Bool) (x : Str) : Option Str := ((lk t g).bind fun pr => lk (if b then pr.2 else pr.1) x).getD none
theorem way_atT {t : Tabs} {ns : List Str} (h : TabsOk t ns) {g x : Str} (hg : g ∈ t.map (·.1)) (hx : x ∈ ns) : ∃ pr, lk t g = some pr ∧ ∀ b : Bool, lk (if b then pr.2 else pr.1) x = some (wayT t g b x) := by
  obtain ⟨pr, e⟩ := lk_some hg
  refine ⟨pr, e, fun b => ?_⟩
  obtain ⟨t1, t2⟩ := h.each g pr.1 pr.2 (lk_mem e)
  have hb : ∃ p, lk (if b then pr.2 else pr.1) x = some p := by
    cases b
    · obtain ⟨p, e, _⟩ := t1.2 x hx; exact ⟨p, e⟩
    · obtain ⟨p, e, _⟩ := t2.2 x hx; exact ⟨p, e⟩
  obtain ⟨p, ep⟩ := hb
  rw [ep]
  unfold wayT
  rw [e]
  show some p = some ((lk (if b then pr.2 else pr.1) x).getD none)
  rw [ep]; rfl
/-- the two tables of an end point another way? -/
def pairN (x : Str) (pr : Tab × Tab) : Bool := !decide ((lk pr.1 x).getD none = (lk pr.2 x).getD none)
def chM (t : Tabs) (x : Str) : Bool := t.any fun kv => pairN x kv.2
section
variable {X : Cx} {Γ : ECtx} {elt iter a e : Expr} {ifs : List Expr} {scope : Scope} {α β γ δ : Type} {R : RepT α} {S : RepT β} {T : RepT γ} {pos : Pos}
/-- [elt for x, y in d.values() if c] -/
theorem lp_vals [Plain R] [Plain S] [Plain T] (i j : Nat) {x y : Str} {xp yp tp apos cpos : Pos} {kt : Nat} {d : List (Str × (α × β))} {f : α × β → Bool} {qe : α × β → γ → Prop} (hc : X.calm = true) (hN : X.N.Nodup) (hp : EP1 X Γ iter (rD (rP R S)) d) (hz : d.length < sizeLine)
    (ht : ∀ z ∈ d.map (·.2), Blk X scope fun B => ETs B (((wipeC Γ [i, j]).set i (some ⟨R, z.1⟩)).set j (some ⟨S, z.2⟩)) ifs (f z))
    (he : ∀ z ∈ d.map (·.2), f z = true → Blk X scope fun B => EE B (((wipeC Γ [i, j]).set i (some ⟨R, z.1⟩)).set j (some ⟨S, z.2⟩)) elt T (qe z))
    (ok : blkC X.N X.env.scope scope [(x, i), (y, j)] = true := by rfl) (hx : X.N[i]? = some x := by rfl) (hy : X.N[j]? = some y := by rfl) (lx : Blk X scope fun B => Loc B.env.scope x := by intro _ _ _ _ _; first | exact Or.inl rfl | exact Or.inr rfl) (ly : Blk X scope fun B => Loc B.env.scope y := by intro _ _ _ _ _; first | exact Or.inl rfl | exact Or.inr rfl)
    (fx : Blk X scope fun B => (B.fn x = true ∨ B.env.scope.names.lookup x = some .local) := by intro _ _ _ _ _; first | exact Or.inl rfl | exact Or.inr rfl) (fy : Blk X scope fun B => (B.fn y = true ∨ B.env.scope.names.lookup y = some .local) := by intro _ _ _ _ _; first | exact Or.inl rfl | exact Or.inr rfl) (hbase : attributeBase iter "values" X.env (eval iter X.env) = eval iter X.env := by rfl) (hline : (apos.endLine == cpos.line) = true := by rfl)
    (hs : ∀ x, foldedSetIterable (.Call (.Attribute iter "values" apos) [] [] cpos) X.env x = pure x := by intro _; rfl) :
    EN X Γ (.ListComp elt [⟨.Tuple [.Name x xp, .Name y yp] kt tp, .Call (.Attribute iter "values" apos) [] [] cpos, ifs, 0⟩] scope pos) T (fun ys => Paired qe ((d.map (·.2)).filter f) ys) :=
  en_lcV (own := [(x, i), (y, j)]) (ups := fun z : α × β => [(i, ⟨R, z.1⟩), (j, ⟨S, z.2⟩)]) (g := pr2 X.K i j) hc hN hp (blkOk_by ok) (fun s0 H0 Cc cl fp => pg_two hc hN hx hy (lx s0 H0 Cc cl fp) (ly s0 H0 Cc cl fp) (fx s0 H0 Cc cl fp) (fy s0 H0 Cc cl fp)) (fun z => g_pair)
    (fun z u hu => (List.mem_cons.mp hu).elim (fun e => by rw [e]; exact List.mem_cons_self) fun hu => by rw [List.mem_singleton.mp hu]; exact List.mem_cons_of_mem _ (List.mem_singleton.mpr rfl)) hz ht he hbase hline hs
end
section
variable {P : Program} {w : World} {K : PySem.W.Frag} {mg : Str → Option Value} {base : Heap}
abbrev SpMoving : Sp := spOf (fun m : ModelD => [⟨rModel, m⟩]) ModelOk (rL rS) (fun m y => y = m.dots.filter (chM m.tabs))
theorem c_law_moving_dots (fr : Fr mg) (D : DefOk K mg d__law_moving_dots) (k : Nat) : C8.Cal P w K mg base (k + 1) "_law_moving_dots" SpMoving [] := by
  have S : FnScope ["model", "found", "dot", "old", "new"] ["model"] d__law_moving_dots.scope := C8.fnScope_by (by decide +kernel)
  refine fn_ok ["model", "found", "dot", "old", "new"] ["model"] D S (fun _ _ _ _ _ _ us hl => match us, hl with | [_], _ => rfl) (fun _ => rfl) fun m f cdv A outer s H E hm hr => ?_
  have hm : ModelOk m := hm
  have big : (64 : Nat) < sizeLine := by decide
  have hdl := hm.d.few
  have htl := hm.t.g2
  refine sq_own 1 (en_lst (R := rS) (xs := []) el_nil (Nat.zero_le _)) (fun y hy => ?_) S.nd
  subst hy
  refine sq_for1 2 (R := rS) (inv := fun xs i C' => xs = m.dots ∧ C' = ⟨[.base ⟨rModel, m⟩, .own 0, .non, .non, .non], [.lst rS ((xs.take i).filter (chM m.tabs))]⟩) rfl PassesOwn.never S.nd (es_list (m_dots (by exact Room.u1 hr) (vv 0))) (fun xs e => ⟨e, rfl⟩) (fun xs i x C' _ hx ⟨e1, e2⟩ => ?_) (fun xs C' _ ⟨e1, e2⟩ => ?_)
  · subst e1 e2
    have hxm : x ∈ m.dots := List.mem_of_getElem? hx
    have e5 : (m.dots.take (i + 1)).filter (chM m.tabs) = (m.dots.take i).filter (chM m.tabs) ++ (if chM m.tabs x then [x] else []) := by
      rw [List.take_add_one, hx, List.filter_append]
      cases h : chM m.tabs x <;> simp [List.filter, h]
    have hl4 : ((m.dots.take i).filter (chM m.tabs)).length ≤ 4 := by
      have := List.length_filter_le (chM m.tabs) (m.dots.take i)
      rw [List.length_take] at this
      omega
    refine sq_if (pb := fun b => b = chM m.tabs x) (nx1 := fun C1 => C1 = ⟨[.base ⟨rModel, m⟩, .own 0, .val ⟨rS, x⟩, .non, .non], [.lst rS ((m.dots.take (i + 1)).filter (chM m.tabs))]⟩) ?_ (fun hb => ?_) (fun hb => ?_) (fun C1 e => ?_)
    · refine ET.imp (et_cmp (o_neNil (RL := rL rI) (S := rS) (by exact Room.u64 hr)) (EN.ee (lp_vals (R := rTab) (S := rTab) (T := rI) (f := pairN x) (qe := fun _ y => y = 1) 3 4 rfl S.nd (ep_tables 0 (by exact Room.u1 hr)) (Nat.lt_of_le_of_lt (Nat.le_trans htl (by decide)) big) (fun z hz s0 H0 Cc cl fp => ?_) (fun z hz _ s0 H0 Cc cl fp => ee_int))) (dv_lst (R := rS) (xs := []) el_nil (Nat.zero_le _)) fun xs ys px py => ⟨⟨py, shaped_list (n := 0) (fun d hd => by obtain ⟨x, hx, rfl⟩ := List.mem_map.mp hd; exact ⟨rfl, Nat.le_refl _⟩) (by decide)⟩, (?_ : (!xs.isEmpty) = chM m.tabs x)⟩) (fun b hb => hb)
      · obtain ⟨kv, hkv, rfl⟩ := List.mem_map.mp hz
        obtain ⟨t1, t2⟩ := hm.t.each kv.1 kv.2.1 kv.2.2 hkv
        obtain ⟨p1, h1, _⟩ := t1.2 x hxm
        obtain ⟨p2, h2, _⟩ := t2.2 x hxm
        refine ets_one (ET.is (dt_cmp o_neO (dv_dget (by exact Room.u1 hr) (vv 3) (vv 2) h1) (dv_dget (by exact Room.u1 hr) (vv 4) (vv 2) h2) trivial) ?_)
        show _ = !decide ((lk kv.2.1 x).getD none = (lk kv.2.2 x).getD none)
        rw [h1, h2]; rfl
      · have hlen : xs.length = ((m.tabs.map (·.2)).filter (pairN x)).length := (Paired.length px).symm
        show (!xs.isEmpty) = m.tabs.any (pairN x ∘ fun kv : Str × (Tab × Tab) => kv.2)
        rw [← List.any_map]
        cases hx2 : (m.tabs.map (·.2)).any (pairN x)
        · have : (m.tabs.map (·.2)).filter (pairN x) = [] := List.filter_eq_nil_iff.mpr fun z hz hp => by
            have := List.any_eq_false.mp hx2 z hz; exact this hp
          rw [this] at hlen
          cases xs with
          | nil => rfl
          | cons a b => simp at hlen
        · obtain ⟨z, hz, hp⟩ := List.any_eq_true.mp hx2
          have : 0 < ((m.tabs.map (·.2)).filter (pairN x)).length := List.length_pos_of_mem (List.mem_filter.mpr ⟨hz, hp⟩)
          cases xs with
          | nil => simp at hlen; omega
          | cons a b => rfl
    · rw [e5, ← hb]
      refine sq_append 1 (R := rS) (vv 2) rfl rfl (Nat.lt_of_le_of_lt (Nat.le_trans hl4 (by decide)) big) fun y hy => ?_
      subst hy
      exact sq_nil rfl
    · rw [e5, ← hb]
      refine sq_nil ?_
      simp
      rfl
    · subst e
      exact sq_nil ⟨_, ⟨rfl, rfl⟩, weak_by (.keep (.keep (.drop (.keep (.keep .nil)))))⟩
  · subst e1 e2
    rw [List.take_length]
    exact sq_seal (.base (.lst inferInstance rfl (.non (.non (.non .nil))))) (sq_ret' (vv 1) (by intro y hy; exact hy))
abbrev SpDoneIn : Sp := spOf (fun a : Plan × Nat => [⟨rPlan, a.1⟩, ⟨rNat, a.2⟩]) (fun a => a.1.length < 64 ∧ ∀ i, (a.1.take i).flatten.length < 64) (rL rS) (fun a y => y = (a.1.take a.2).flatten)
theorem c_law_done_in (fr : Fr mg) (D : DefOk K mg d__law_done_in) (k : Nat) : C8.Cal P w K mg base (k + 1) "_law_done_in" SpDoneIn [] := by
  have S : FnScope ["trail", "stage", "found", "lot_here"] ["trail", "stage"] d__law_done_in.scope := C8.fnScope_by (by decide +kernel)
  refine fn_ok ["trail", "stage", "found", "lot_here"] ["trail", "stage"] D S (fun _ _ _ _ _ _ us hl => match us, hl with | [_, _], _ => rfl) (fun _ => rfl) fun ⟨pl, st⟩ f cdv A outer s H E ⟨h1, h2⟩ hr => ?_
  refine dq_set 2 (dv_lst (R := rS) (xs := []) el_nil (Nat.zero_le _)) ?_ S.nd
  refine sq_for1 3 (R := rT rS) (inv := fun xs i C' => xs = pl.take st ∧ C' = ⟨[.base ⟨rPlan, pl⟩, .base ⟨rNat, st⟩, .val ⟨rL rS, ((pl.take st).take i).flatten⟩, .non], []⟩) rfl PassesOwn.never S.nd (es_list (en_slL (pr := (· = pl.take st)) (vv 0) eo_none (eo_some (EE.int (vv 1))) ?_).ee) (fun xs e => ⟨e, rfl⟩) (fun xs i x C' e hx ⟨e1, e2⟩ => ?_) (fun xs C' e ⟨e1, e2⟩ => ?_)
  · rintro xs l u rfl rfl ⟨i, rfl, rfl⟩
    exact cutL_to _ _
  · subst e1 e2
    have hl : ((pl.take st).take i).flatten ++ x = ((pl.take st).take (i + 1)).flatten := by
      rw [List.take_add_one, hx]; simp
    have hz : (((pl.take st).take i).flatten ++ x).length < 64 := by
      rw [hl, List.take_take]; exact h2 _
    refine dq_set 2 (y := ((pl.take st).take (i + 1)).flatten) (EN.ee (en_cat (RL := rL rS) (RL' := rL rS) (pr := (· = ((pl.take st).take (i + 1)).flatten)) (vv 2) (EN.ee (en_lstT (vv 3) fr.list)) ?_)) (sq_nil ⟨_, ⟨rfl, rfl⟩, ?_⟩) S.nd
    · rintro a b rfl rfl
      rw [List.length_append] at hz
      exact ⟨Nat.le_trans (Nat.le_of_lt hz) (by decide), hl⟩
    · exact weak_by (.keep (.keep (.keep (.drop .nil))))
  · subst e1 e2
    refine sq_ret' (vv 2) (by intro y hy; rw [hy, List.take_length])
abbrev SpHop : Sp := spOf (fun a : ModelD × Plan × Str × Str × Pr => [⟨rModel, a.1⟩, ⟨rPlan, a.2.1⟩, ⟨rS, a.2.2.1⟩, ⟨rS, a.2.2.2.1⟩, ⟨rNat, a.2.2.2.2.1⟩, ⟨rT rS, a.2.2.2.2.2⟩]) (fun a => ModelOk a.1 ∧ (a.2.1.length < 64 ∧ ∀ i, (a.2.1.take i).flatten.length < 64) ∧ a.2.2.1 ∈ a.1.tabs.map (·.1) ∧ a.2.2.2.1 ∈ a.1.dots) rO (fun a y => y = wayT a.1.tabs a.2.2.1 (isNew a.2.1 a.2.2.2.1 a.2.2.2.2) a.2.2.2.1)
theorem c_law_hop (fr : Fr mg) (D : DefOk K mg d__law_hop) (k : Nat) (cD : C8.Cal P w K mg base (k + 1) "_law_done_in" SpDoneIn []) : C8.Cal P w K mg base (k + 2) "_law_hop" SpHop [] := by
  have S : FnScope ["model", "trail", "end", "dot", "stage", "on"] ["model", "trail", "end", "dot", "stage", "on"] d__law_hop.scope := C8.fnScope_by (by decide +kernel)
  refine fn_ok ["model", "trail", "end", "dot", "stage", "on"] ["model", "trail", "end", "dot", "stage", "on"] D S (fun _ _ _ _ _ _ us hl => match us, hl with | [_, _, _, _, _, _], _ => rfl) (fun _ => rfl) fun ⟨m, pl, g, x, st, on⟩ f cdv A outer s H E ⟨hm, hp, hg, hx⟩ hr => ?_
  have hm : ModelOk m := hm
  have hg : g ∈ m.tabs.map (·.1) := hg
  have hx : x ∈ m.dots := hx
  obtain ⟨pr, e1, e2⟩ := way_atT hm.t hg hx
  have e2 := e2 (isNew pl x (st, on))
  refine sq_ret' (dv_dget (by exact Room.u1 hr) (dv_pick (k := isNew pl x (st, on)) (dv_dget (by exact Room.u1 hr) (m_tables (by exact Room.u1 hr) (vv 0)) (vv 2) e1) (dv_intB (dv_or (x := decide (x ∈ (pl.take st).flatten)) (y := decide (x ∈ on)) (EE.is (dv_cmp (x := x) (y := (pl.take st).flatten) o_inSL (vv 3) (ee_call (q := fun y : List Str => y = (pl.take st).flatten) cD hr (by omega) (ed_cons (vv 1) (ed_cons (vv 4) (ea_nil ⟨(pl, st), hp, by rfl, fun y hy => hy⟩)))) trivial) (by rfl)) fun _ => (dv_cmp o_inST (vv 3) (vv 5) trivial).is (by rfl)) fr.int)) (vv 3) e2) (by intro _ h; exact h)
end
end K62

end

section
set_option Elab.async false
set_option linter.all false
set_option maxRecDepth 100000
set_option maxHeartbeats 4000000
namespace K62
open PySem PySem.Spec PyProof.Rows L2
theorem slt_irrefl (a : Str) : ¬ sltS a a := List.lt_irrefl _
theorem slt_trans {a b c : Str} (h : sltS a b) (k : sltS b c) : sltS a c := List.lt_trans h k
theorem slt_tri {a b : Str} (h : ¬ sltS b a) (hn : a ≠ b) : sltS a b := by
  unfold sltS at *
  rcases Classical.em (a.cps.toList < b.cps.toList) with h1 | h1
  · exact h1
  · exfalso
    apply hn
    have h2 : a.cps.toList ≤ b.cps.toList := List.not_lt.mp h
    have h3 : b.cps.toList ≤ a.cps.toList := List.not_lt.mp h1
    have h4 := List.le_antisymm h2 h3
    cases a; cases b
    exact congrArg _ (Array.toList_inj.mp h4)
theorem rising_asc : ∀ (l : List Str) (p : Str), risingS p l = true → (p :: l).Nodup → (p :: l).Pairwise sltS
  | [], p, _, _ => by simp
  | x :: l, p, h, hn => by
    unfold risingS at h
    rw [Bool.and_eq_true] at h
    obtain ⟨h1, h2⟩ := h
    rw [ltCps_eq] at h1
    have h1 : ¬ sltS x p := by simpa [sltS] using h1
    have hn2 := List.nodup_cons.mp hn
    have ih := rising_asc l x h2 hn2.2
    have hlt : sltS p x := slt_tri h1 fun e => hn2.1 (e ▸ List.mem_cons_self)
    refine List.pairwise_cons.mpr ⟨fun y hy => ?_, ih⟩
    rcases List.mem_cons.mp hy with e | hy
    · rw [e]; exact hlt
    · exact slt_trans hlt ((List.pairwise_cons.mp ih).1 y hy)
theorem sorted_asc {l : List Str} (h : sortedS l = true) (hn : l.Nodup) : l.Pairwise sltS := by
  cases l with
  | nil => exact List.Pairwise.nil
  | cons p l => exact rising_asc l p h hn
theorem asc_nodup {l : List Str} (h : l.Pairwise sltS) : l.Nodup := by
  unfold List.Nodup
  exact h.imp fun {a b} (hl : sltS a b) (e : a = b) => slt_irrefl b (by rw [e] at hl; exact hl)
theorem asc_sub : ∀ {l2 l1 : List Str}, l1.Pairwise sltS → l2.Pairwise sltS → (∀ x ∈ l1, x ∈ l2) → l1.Sublist l2
  | [], l1, _, _, h => by
    cases l1 with
    | nil => exact List.Sublist.refl _
    | cons a l => exact absurd (h a List.mem_cons_self) (by simp)
  | b :: t, [], _, _, _ => List.nil_sublist _
  | b :: t, a :: s, h1, h2, h => by
    have g1 := List.pairwise_cons.mp h1
    have g2 := List.pairwise_cons.mp h2
    by_cases e : a = b
    · subst e
      refine List.Sublist.cons₂ _ (asc_sub g1.2 g2.2 fun x hx => ?_)
      rcases List.mem_cons.mp (h x (List.mem_cons_of_mem _ hx)) with e | hm
      · exact absurd (g1.1 x hx) (by rw [e]; exact slt_irrefl _)
      · exact hm
    · refine List.Sublist.cons _ (asc_sub h1 g2.2 fun x hx => ?_)
      have ha : a ∈ t := (List.mem_cons.mp (h a List.mem_cons_self)).resolve_left e
      have hb := g2.1 a ha
      rcases List.mem_cons.mp (h x hx) with e2 | hm
      · subst e2
        rcases List.mem_cons.mp hx with e3 | hx
        · exact absurd e3.symm e
        · exact absurd (slt_trans hb (g1.1 x hx)) (slt_irrefl _)
      · exact hm
/-- the plan of a law: lots of changing dots -/
structure LPlan (ch : List Str) (plan : Plan) : Prop where
  lot : ∀ l ∈ plan, l ≠ [] ∧ (∀ x ∈ l, x ∈ ch) ∧ l.Pairwise sltS
  nd : plan.flatten.Nodup
  few : plan.flatten.length ≤ 4
theorem LPlan.len {ch : List Str} {plan : Plan} (h : LPlan ch plan) : plan.length ≤ 4 := by
  have key : ∀ l : Plan, (∀ x ∈ l, x ≠ []) → l.length ≤ l.flatten.length := by
    intro l
    induction l with
    | nil => intro _; exact Nat.le_refl _
    | cons a l ih =>
      intro hl
      have h1 := ih fun x hx => hl x (List.mem_cons_of_mem _ hx)
      have h2 : 1 ≤ a.length := List.length_pos_iff.mpr (hl a List.mem_cons_self)
      rw [List.flatten_cons, List.length_append, List.length_cons]; omega
  exact Nat.le_trans (key plan fun x hx => (h.lot x hx).1) h.few
theorem LPlan.take {ch : List Str} {plan : Plan} (h : LPlan ch plan) (i : Nat) : (plan.take i).flatten.length ≤ 4 := by
  have e := congrArg (fun l : Plan => l.flatten.length) (List.take_append_drop i plan)
  simp only [List.flatten_append, List.length_append] at e
  have := h.few
  omega
theorem lot_few {plan : Plan} {l : List Str} (h : l ∈ plan) : l.length ≤ plan.flatten.length := by
  induction plan with
  | nil => simp at h
  | cons a p ih =>
    rw [List.flatten_cons, List.length_append]
    rcases List.mem_cons.mp h with e | h
    · rw [e]; omega
    · have := ih h; omega
theorem LPlan.ok {ch : List Str} {plan : Plan} {n : NetD} (h : LPlan ch plan) (hc : ∀ x ∈ ch, x ∈ n.changing) : PlanOk n plan where
  lot l hl := ⟨⟨fun x hx => hc x ((h.lot l hl).2.1 x hx), (h.lot l hl).2.2, by have := lot_few hl; have := h.few; omega⟩, (h.lot l hl).1⟩
  nd := h.nd
  few := Nat.le_trans h.few (by decide)
/-- adding one dot of the lot to a part of it -/
theorem on_more {lot on on2 : List Str} {x : Str} (hl : lot.Pairwise sltS) (ho : on.Sublist lot) (hx : x ∈ lot) (hn : x ∉ on) (hp : on2.Perm (on ++ [x])) (hs : sortedS on2 = true) : on2.Sublist lot := by
  have nd1 : on.Nodup := (asc_nodup hl).sublist ho
  have nd2 : on2.Nodup := hp.nodup_iff.mpr (by
    rw [List.nodup_append]
    exact ⟨nd1, by simp, fun a ha b hb e => by rw [List.mem_singleton.mp hb] at e; exact hn (e ▸ ha)⟩)
  refine asc_sub (sorted_asc hs nd2) hl fun y hy => ?_
  rcases List.mem_append.mp (hp.mem_iff.mp hy) with h | h
  · exact ho.subset h
  · rw [List.mem_singleton.mp h]; exact hx
end K62

end

section
set_option Elab.async false
set_option linter.all false
set_option maxRecDepth 100000
set_option maxHeartbeats 4000000
namespace K62
open PySem PySem.Spec PyProof.Rows L2
section
variable {P : Program} {w : World} {K : PySem.W.Frag} {mg : Str → Option Value} {base : Heap}
/-- what is left to be put into lots, and the lots so far -/
structure PInv (ch l : List Str) (fo : Plan) : Prop where
  lot : ∀ x ∈ fo, x ≠ [] ∧ (∀ z ∈ x, z ∈ ch) ∧ x.Pairwise sltS
  nd : (fo.flatten ++ l).Nodup
  few : (fo.flatten ++ l).length ≤ 4
  mem : ∀ z ∈ l, z ∈ ch
abbrev SpPlan : Sp := spOf (fun m : ModelD => [⟨rDraw, ()⟩, ⟨rModel, m⟩]) ModelOk rPlan (fun m y => LPlan (m.dots.filter (chM m.tabs)) y)
theorem c_law_plan (fr : Fr mg) (D : DefOk K mg d__law_plan) (k : Nat) (cT : C8.Cal P w K mg base (k + 2) "_law_take" SpTake []) (cM : C8.Cal P w K mg base (k + 3) "_law_mixed" SpMixed []) (cV : C8.Cal P w K mg base (k + 1) "_law_moving_dots" SpMoving []) : C8.Cal P w K mg base (k + 4) "_law_plan" SpPlan [] := by
  have S : FnScope ["draw", "model", "left", "found", "size"] ["draw", "model"] d__law_plan.scope := C8.fnScope_by (by decide +kernel)
  refine fn_ok ["draw", "model", "left", "found", "size"] ["draw", "model"] D S (fun _ _ _ _ _ _ us hl => match us, hl with | [_, _], _ => rfl) (fun _ => rfl) fun m f cdv A outer s H E hm hr => ?_
  have hm : ModelOk m := hm
  have big : (64 : Nat) < sizeLine := by decide
  have hdl := hm.d.few
  have hcl : (m.dots.filter (chM m.tabs)).length ≤ 4 := Nat.le_trans (List.length_filter_le _ _) hdl
  have hcn : (m.dots.filter (chM m.tabs)).Nodup := hm.d.nd.sublist List.filter_sublist
  have hcs : ∀ x ∈ m.dots.filter (chM m.tabs), PyData.strOk x = true := fun x hx => hm.d.str.2 x (List.mem_filter.mp hx).1
  have hstr : ∀ {l : List Str}, (∀ z ∈ l, z ∈ m.dots.filter (chM m.tabs)) → SeqAt.shaped (.list (l.map PyData.str)) = true := fun h => shaped_list (n := 0) (fun d hd => by obtain ⟨x, hx, rfl⟩ := List.mem_map.mp hd; exact ⟨hcs x (h x hx), Nat.le_refl _⟩) (by decide)
  generalize hch : m.dots.filter (chM m.tabs) = ch at *
  refine si_par 2 3 (post := fun C1 κs => ∃ l : List Str, l.Perm ch ∧ C1 = ⟨[.base ⟨rDraw, ()⟩, .base ⟨rModel, m⟩, .non, .non, .non], [.lst (rT rS) []]⟩ ∧ κs = [.val ⟨rL rS, l⟩, .own 0]) rfl S.nd
    (eis_cons (EI.ee (R := rL rS) (p := fun y : List Str => y.Perm ch) (ee_call (q := fun y : List Str => y.Perm ch) cM hr (by omega) (ed_cons (vv 0) (ed_cons (x := ch) (ee_call (q := fun y : List Str => y = ch) cV hr (by omega) (ed_cons (vv 1) (ea_nil ⟨m, hm, by rfl, fun y hy => by rw [hy, hch]⟩))) (ea_nil ⟨ch, ⟨by omega, hcs⟩, by rfl, fun y hy => hy⟩))))) fun C1 κ hc => by
      obtain ⟨e1, y, py, e2⟩ := hc
      subst e1 e2
      exact eis_cons (EI.en (R := rT rS) (en_lst (xs := []) el_nil (Nat.zero_le _))) fun C2 κ2 ⟨z, hz, e3, e4⟩ => eis_nil ⟨y, py, by rw [e3, hz]; rfl, by rw [e4]; rfl⟩) ?_
  rintro C1 κs ⟨l0, hl0, e1, e2⟩
  subst e1 e2
  refine ⟨rfl, ?_⟩
  refine sq_if (pb := fun _ => True) (nx1 := fun C1 => ∃ l : List Str, PInv ch l [] ∧ C1 = ⟨[.base ⟨rDraw, ()⟩, .base ⟨rModel, m⟩, .val ⟨rL rS, l⟩, .own 0, .non], [.lst (rT rS) []]⟩) (et_cmp o_eqI (ee_call (q := fun y : Int => True) cT hr (by omega) (ed_cons (vv 0) (ed_cons ee_int (ea_nil ⟨4, ⟨by decide, by decide⟩, by rfl, fun y hy => trivial⟩)))) ee_int fun _ _ _ _ => ⟨trivial, trivial⟩) (fun _ => ?_) (fun _ => ?_) ?_
  · refine dq_set 2 (y := l0.drop 1) (EN.ee (en_slL (R := rS) (pr := (· = l0.drop 1)) (vv 2) (eo_some ee_int) eo_none ?_)) (sq_nil ⟨_, ⟨by simp, ?_, ?_, ?_⟩, rfl⟩) S.nd
    · rintro ys l u rfl ⟨i, rfl, rfl⟩ rfl
      exact cutL_from _ 1
    · exact (hl0.nodup_iff.mpr hcn).sublist (List.drop_sublist _ _)
    · show (l0.drop 1).length ≤ 4
      rw [List.length_drop, hl0.length_eq]; omega
    · exact fun z hz => hl0.mem_iff.mp (List.mem_of_mem_drop hz)
  · exact sq_nil ⟨l0, ⟨by simp, hl0.nodup_iff.mpr hcn, by show l0.length ≤ 4; rw [hl0.length_eq]; exact hcl, fun z hz => hl0.mem_iff.mp hz⟩, rfl⟩
  rintro C1 ⟨l1, hl1, e⟩
  subst e
  refine sq_while (m0 := l1.length) (inv := fun mm C' => ∃ (l : List Str) (fo : Plan), l.length = mm ∧ PInv ch l fo ∧ C' = ⟨[.base ⟨rDraw, ()⟩, .base ⟨rModel, m⟩, .val ⟨rL rS, l⟩, .own 0, .non], [.lst (rT rS) fo]⟩) (pt := fun C' b => ∀ (l : List Str) (fo : Plan), C' = ⟨[.base ⟨rDraw, ()⟩, .base ⟨rModel, m⟩, .val ⟨rL rS, l⟩, .own 0, .non], [.lst (rT rS) fo]⟩ → b = !l.isEmpty) PassesOwn.never ⟨l1, [], rfl, hl1, rfl⟩ (fun mm C' ⟨l, fo, hl, hp, e⟩ => ?_) (fun mm C' ⟨l, fo, hl, hp, e⟩ ht => ?_) (fun mm C' ⟨l, fo, hl, hp, e⟩ hf => ?_)
  · subst e
    refine ET.imp (dt_cmp (o_neNil (RL := rL rS) (S := rS) (by exact Room.u64 hr)) (vv 2) (dv_lst (R := rS) (xs := []) el_nil (Nat.zero_le _)) ⟨rfl, hstr hp.mem⟩) ?_
    intro b hb l' fo' e
    have e3 : l = l' := by
      have := congrArg (fun C : Ctx => match C.Γ with | _ :: _ :: .val g :: _ => (⟨g.α, g.x⟩ : (α : Type) × α) | _ => ⟨Unit, ()⟩) e
      simpa using this
    rw [hb, e3]
  · subst e
    have hne : (!l.isEmpty) = true := (ht l fo rfl).symm
    have hpos : 0 < l.length := by cases l <;> simp at hne ⊢
    have hle := hp.few
    rw [List.length_append] at hle
    refine sq_set 4 (p := fun z : Int => 1 ≤ z ∧ z ≤ (l.length : Int)) (ee_bin o_add ee_int (ee_call (q := fun y : Int => 0 ≤ y ∧ y < (l.length : Int)) cT hr (by omega) (ed_cons (vv 0) (ed_cons (dv_lenL (vv 2) fr.len) (ea_nil ⟨(l.length : Int), ⟨by omega, by omega⟩, by rfl, fun y hy => hy⟩)))) fun x y hx hy => ⟨trivial, by rw [hx]; omega, by rw [hx]; omega⟩) (fun z hz => ?_) S.nd
    obtain ⟨sn, rfl⟩ : ∃ sn : Nat, z = (sn : Int) := ⟨z.toNat, by omega⟩
    have hs1 : 1 ≤ sn := by omega
    have hs2 : sn ≤ l.length := by omega
    have hfl : fo.length ≤ 4 := by
      have h5 : LPlan ch fo := ⟨hp.lot, (List.nodup_append.mp hp.nd).1, by omega⟩
      exact h5.len
    refine sq_append 3 (R := rT rS) (p := fun y : List Str => y.Perm (l.take sn) ∧ sortedS y = true) (ee_tupL (EN.ee (en_sortS (q := fun y : List Str => y.Perm (l.take sn) ∧ sortedS y = true) (EN.ee (en_slL (R := rS) (pr := (· = l.take sn)) (vv 2) eo_none (eo_some (vv 4)) ?_)) fr.sorted fun xs e => ⟨by rw [e, List.length_take]; omega, fun ys hp hs => ⟨by rw [e] at hp; exact hp, hs⟩⟩)) fr.tuple) rfl rfl (Nat.lt_of_le_of_lt (Nat.le_trans hfl (by decide)) big) fun y hy => ?_
    · rintro ys l u rfl rfl ⟨i, rfl, rfl⟩
      exact cutL_to _ _
    refine dq_set 2 (y := l.drop sn) (EN.ee (en_slL (R := rS) (pr := (· = l.drop sn)) (vv 2) (eo_some (vv 4)) eo_none ?_)) ?_ S.nd
    · rintro ys l u rfl ⟨i, rfl, rfl⟩ rfl
      exact cutL_from _ _
    have hperm : ((fo ++ [y]).flatten ++ l.drop sn).Perm (fo.flatten ++ l) := by
      rw [List.flatten_append, List.append_assoc]
      refine List.Perm.append_left _ ?_
      have e6 : ([y] : Plan).flatten = y := by simp
      rw [e6]
      refine (hy.1.append_right _).trans ?_
      rw [List.take_append_drop]
    refine sq_nil ⟨(l.drop sn).length, _, by rw [List.length_drop]; omega, ⟨l.drop sn, fo ++ [y], rfl, ⟨fun x hx => ?_, hperm.nodup_iff.mpr hp.nd, by rw [hperm.length_eq]; exact hp.few, fun z hz => hp.mem z (List.mem_of_mem_drop hz)⟩, rfl⟩, weak_by (.keep (.keep (.keep (.keep (.drop .nil)))))⟩
    rcases List.mem_append.mp hx with hx | hx
    · exact hp.lot x hx
    · have e7 := List.mem_singleton.mp hx
      subst e7
      refine ⟨fun e8 => ?_, fun z hz => hp.mem z (List.mem_of_mem_take (hy.1.mem_iff.mp hz)), sorted_asc hy.2 (hy.1.nodup_iff.mpr ((List.nodup_append.mp hp.nd).2.1.sublist (List.take_sublist _ _)))⟩
      have := hy.1.length_eq
      rw [e8, List.length_take] at this
      simp at this
      omega
  · subst e
    have hne : (!l.isEmpty) = false := (hf l fo rfl).symm
    have : l = [] := by cases l <;> simp at hne ⊢
    subst this
    have nd := hp.nd
    have few := hp.few
    rw [List.append_nil] at nd few
    exact sq_seal (.base (.base (.val (.lst inferInstance rfl (.non .nil))))) (sq_ret' (vv 3) (by intro y hy; rw [hy]; exact ⟨hp.lot, nd, few⟩))
end
end K62

end

section
set_option Elab.async false
set_option linter.all false
set_option maxRecDepth 100000
set_option maxHeartbeats 4000000
namespace K62
open PySem PySem.Spec PyProof.Rows L2
section
variable {X : Cx} {Γ : ECtx} {α β : Type} {R : RepT α}
/-- xs == [] -/
theorem o_eqNil {S : RepT β} [Plain S] {RL : RepT (List α)} {enc : α → PyData} [LikeL RL R] [HasDp R enc] (hu : X.A.units + 64 < cLine) : OpE X (compareOp .Eq) RL (rL S) rB (fun xs ys => ys = [] ∧ SeqAt.shaped (.list (xs.map enc)) = true) (fun xs _ => xs.isEmpty) :=
  ⟨_, op_eqD hu, fun W H xs ys u v Q hi hu hv ⟨hy, hs⟩ k => by
    subst hy
    obtain ⟨l, us, e, n, hd, pr⟩ := hv
    cases pr
    subst e
    refine ⟨.list (xs.map enc), .list [], dp_list hi hu, .lst (sqL_of hd) .nil, hs, by decide, k _ H (Ext.refl hi) ?_⟩
    show V.bl _ = V.bl _
    cases xs with
    | nil => rfl
    | cons x xs => rfl⟩
end
def CurOk (pl : Plan) (p : Pr) : Prop := p.1 ≤ pl.length ∧ p.2.Sublist (pl.getD p.1 [])
structure TaleOk (t : Tabs) (ds : List Str) (pl : Plan) (ss : List Sight) (ta : List Pr) (cur : Pr) : Prop where
  len : ta.length = ss.length
  pr : ∀ p ∈ ta, CurOk pl p
  ag : ∀ (i : Nat) s p, ss[i]? = some s → ta[i]? = some p → s.1 ∈ t.map (·.1) ∧ s.2.1 ∈ ds ∧ s.2.2 = wayT t s.1 (isNew pl s.2.1 p) s.2.1
  ch : ∀ (i : Nat) p q, ta[i]? = some p → ta[i + 1]? = some q → fol p q = true
  last : ∀ p ∈ ta, fol p cur = true
theorem TaleOk.nil {t : Tabs} {ds : List Str} {pl : Plan} {cur : Pr} : TaleOk t ds pl [] [] cur := ⟨rfl, by simp, by simp, by simp, by simp⟩
theorem TaleOk.move {t : Tabs} {ds : List Str} {pl : Plan} {ss : List Sight} {ta : List Pr} {cur c2 : Pr} (h : TaleOk t ds pl ss ta cur) (hf : fol cur c2 = true) : TaleOk t ds pl ss ta c2 := ⟨h.len, h.pr, h.ag, h.ch, fun p hp => fol_trans (h.last p hp) hf⟩
theorem snoc_at {α : Type} {l : List α} {a b : α} {i : Nat} (h : (l ++ [a])[i]? = some b) : l[i]? = some b ∨ (i = l.length ∧ b = a) := by
  rw [List.getElem?_append] at h
  split at h
  · exact .inl h
  · right
    have h1 := (List.getElem?_eq_some_iff.mp h).1
    simp at h1
    have e : i - l.length = 0 := by omega
    rw [e] at h
    simp at h
    exact ⟨by omega, h.symm⟩
theorem TaleOk.snoc {t : Tabs} {ds : List Str} {pl : Plan} {ss : List Sight} {ta : List Pr} {cur : Pr} {s : Sight} (h : TaleOk t ds pl ss ta cur) (hc : CurOk pl cur) (hs : s.1 ∈ t.map (·.1) ∧ s.2.1 ∈ ds ∧ s.2.2 = wayT t s.1 (isNew pl s.2.1 cur) s.2.1) : TaleOk t ds pl (ss ++ [s]) (ta ++ [cur]) cur where
  len := by rw [List.length_append, List.length_append, h.len]; rfl
  pr p hp := (List.mem_append.mp hp).elim (h.pr p) fun hp => by rw [List.mem_singleton.mp hp]; exact hc
  ag i s' p h1 h2 := by
    rcases snoc_at h1 with h1 | ⟨e1, e2⟩
    · rcases snoc_at h2 with h2 | ⟨e3, e4⟩
      · exact h.ag i s' p h1 h2
      · have := (List.getElem?_eq_some_iff.mp h1).1
        have := h.len
        omega
    · rcases snoc_at h2 with h2 | ⟨e3, e4⟩
      · have := (List.getElem?_eq_some_iff.mp h2).1
        have := h.len
        omega
      · rw [e2, e4]; exact hs
  ch i p q h1 h2 := by
    rcases snoc_at h2 with h2 | ⟨e3, e4⟩
    · have hl := (List.getElem?_eq_some_iff.mp h2).1
      rw [List.getElem?_append_left (by omega)] at h1
      exact h.ch i p q h1 h2
    · have hm : p ∈ ta := by
        rcases snoc_at h1 with h1 | ⟨e5, e6⟩
        · exact List.mem_of_getElem? h1
        · omega
      rw [e4]; exact h.last p hm
  last p hp := (List.mem_append.mp hp).elim (h.last p) fun hp => by rw [List.mem_singleton.mp hp]; exact fol_refl _
theorem fol_more {st : Nat} {on on2 : List Str} (h : ∀ x ∈ on, x ∈ on2) : fol (st, on) (st, on2) = true := by
  unfold fol
  rw [if_neg (by simp), List.all_eq_true]
  exact fun x hx => decide_eq_true (h x hx)
theorem fol_next {st : Nat} {on : List Str} : fol (st, on) (st + 1, []) = true := by
  unfold fol
  rw [if_pos (by show st ≠ st + 1; omega)]
  exact decide_eq_true (by show st < st + 1; omega)
section
variable {P : Program} {w : World} {K : PySem.W.Frag} {mg : Str → Option Value} {base : Heap}
abbrev MC (m : ModelD) (pl : Plan) (ends : List Str) (st : Nat) (on : List Str) (ss : List Sight) (ta : List Pr) (sp : List (Str × Option Str)) (sK sT sR sD sE : SK) : Ctx :=
  ⟨[.base ⟨rDraw, ()⟩, .base ⟨rModel, m⟩, .base ⟨rPlan, pl⟩, .val ⟨rL rS, ends⟩, .own 0, .own 1, .val ⟨rNat, st⟩, .val ⟨rT rS, on⟩, .own 2, sK, sT, sR, sD, sE], [.lst rSight ss, .lst rPr ta, .lst (rP rS rO) sp]⟩
abbrev SpMoved : Sp := spOf (fun a : ModelD × Plan => [⟨rDraw, ()⟩, ⟨rModel, a.1⟩, ⟨rPlan, a.2⟩]) (fun a => ModelOk a.1 ∧ LPlan (a.1.dots.filter (chM a.1.tabs)) a.2) (rP (rL rSight) (rL rPr)) (fun a y => y.1.length ≤ 12 ∧ ∃ cur, TaleOk a.1.tabs a.1.dots a.2 y.1 y.2 cur)
theorem c_law_moved (fr : Fr mg) (D : DefOk K mg d__law_moved) (k : Nat) (cT : C8.Cal P w K mg base (k + 2) "_law_take" SpTake []) (cI : C8.Cal P w K mg base (k + 3) "_law_pick" (SpPick (rL rS) rS) []) (cH : C8.Cal P w K mg base (k + 2) "_law_hop" SpHop []) : C8.Cal P w K mg base (k + 4) "_law_moved" SpMoved [] := by
  have S : FnScope ["draw", "model", "plan", "ends", "found", "tale", "stage", "on", "spots", "k", "turn", "rest", "dot", "end"] ["draw", "model", "plan"] d__law_moved.scope := C8.fnScope_by (by decide +kernel)
  refine fn_ok ["draw", "model", "plan", "ends", "found", "tale", "stage", "on", "spots", "k", "turn", "rest", "dot", "end"] ["draw", "model", "plan"] D S (fun _ _ _ _ _ _ us hl => match us, hl with | [_, _, _], _ => rfl) (fun _ => rfl) fun ⟨m, pl⟩ f cdv A outer s H E ⟨hm, hpl⟩ hr => ?_
  have hm : ModelOk m := hm
  have hpl : LPlan (m.dots.filter (chM m.tabs)) pl := hpl
  have big : (64 : Nat) < sizeLine := by decide
  have hdl := hm.d.few
  have htl := hm.t.g2
  have htl1 := hm.t.g1
  have hdl1 := hm.t.n1
  have hstr : ∀ x ∈ m.dots, PyData.strOk x = true := hm.d.str.2
  have hkeys : (m.tabs.map (·.1)).length = m.tabs.length := List.length_map ..
  have hdone : pl.length < 64 ∧ ∀ i, (pl.take i).flatten.length < 64 := ⟨Nat.lt_of_le_of_lt hpl.len (by decide), fun i => Nat.lt_of_le_of_lt (hpl.take i) (by decide)⟩
  have hlot : ∀ st, (pl.getD st []).Pairwise sltS ∧ (∀ x ∈ pl.getD st [], x ∈ m.dots) ∧ (pl.getD st []).length ≤ 4 := fun st => by
    rw [List.getD_eq_getElem?_getD]
    cases hx : pl[st]? with
    | none => exact ⟨List.Pairwise.nil, by simp, by simp⟩
    | some l =>
      have hl := List.mem_of_getElem? hx
      have h1 := hpl.lot l hl
      exact ⟨h1.2.2, fun x hx => (List.mem_filter.mp (h1.2.1 x hx)).1, Nat.le_trans (lot_few hl) hpl.few⟩
  refine si_tup [3, 4, 5, 6, 7] (post := fun C1 κs => C1 = ⟨[.base ⟨rDraw, ()⟩, .base ⟨rModel, m⟩, .base ⟨rPlan, pl⟩, .non, .non, .non, .non, .non, .non, .non, .non, .non, .non, .non], [.lst rSight [], .lst rPr []]⟩ ∧ κs = [.val ⟨rL rS, m.tabs.map (·.1)⟩, .own 0, .own 1, .val ⟨rNat, 0⟩, .val ⟨rT rS, []⟩]) rfl (pgs_cons (pg_name S.nd rfl (by first | exact Or.inl rfl | exact Or.inr rfl)) (pgs_cons (pg_name S.nd rfl (by first | exact Or.inl rfl | exact Or.inr rfl)) (pgs_cons (pg_name S.nd rfl (by first | exact Or.inl rfl | exact Or.inr rfl)) (pgs_cons (pg_name S.nd rfl (by first | exact Or.inl rfl | exact Or.inr rfl)) (pgs_cons (pg_name S.nd rfl (by first | exact Or.inl rfl | exact Or.inr rfl)) pgs_nil)))))
    (eis_cons (EI.dv (R := rL rS) (y := m.tabs.map (·.1)) (EN.ee (en_lstD rfl (m_tables (by exact Room.u1 hr) (vv 1)) fr.list))) fun C1 κ hc => by
      obtain ⟨e1, e2⟩ := hc
      subst e1 e2
      exact eis_cons (EI.en (R := rSight) (en_lst (xs := []) el_nil (Nat.zero_le _))) fun C2 κ2 ⟨z, hz, e3, e4⟩ => by
        subst hz e3 e4
        exact eis_cons (EI.en (R := rPr) (en_lst (xs := []) el_nil (Nat.zero_le _))) fun C3 κ3 ⟨z, hz, e3, e4⟩ => by
          subst hz e3 e4
          exact eis_cons (EI.dv (R := rNat) (y := 0) (EE.nat (n := 0) ee_int)) fun C4 κ4 ⟨e5, e6⟩ => by
            subst e5 e6
            exact eis_cons (EI.dv (R := rT rS) (y := []) (dv_tup (xs := []) el_nil (Nat.zero_le _))) fun C5 κ5 ⟨e5, e6⟩ => by
              subst e5 e6
              exact eis_nil ⟨rfl, rfl⟩) ?_
  rintro C1 κs ⟨e1, e2⟩
  subst e1 e2
  refine ⟨rfl, ?_⟩
  refine sq_lcO 8 9 (R := rNat) (S := rP rS rO) (f := fun _ => true) (ps := fun xs => ∃ n, (1 ≤ n ∧ n ≤ 2) ∧ xs = List.range n) (qe := fun _ y => y.1 ∈ m.tabs.map (·.1)) rfl S.nd
    (es_range (pn := fun n => 1 ≤ n ∧ n ≤ 2) (ee_bin o_add ee_int (ee_call (q := fun y : Int => 0 ≤ y ∧ y < 2) cT hr (by omega) (ed_cons (vv 0) (ed_cons ee_int (ea_nil ⟨2, ⟨by decide, by decide⟩, by rfl, fun y hy => hy⟩)))) fun x y hx hy => ⟨trivial, (x + y).toNat, by rw [hx]; omega, by rw [hx]; omega, Nat.lt_of_le_of_lt (show _ ≤ 2 by rw [hx]; omega) (by decide)⟩) fr.range)
    (fun xs ⟨n, hn, e⟩ => by rw [e, List.length_range]; exact Nat.lt_of_le_of_lt (show n ≤ 64 by omega) big)
    (fun xs px z hz s0 H0 Cc cl fp => ets_nil)
    (fun xs px z hz _ s0 H0 Cc cl fp => EE.imp (ee_pair (p := fun y : Str => y ∈ m.tabs.map (·.1)) (q := fun _ => True) (ee_call cI hr (by omega) (ed_cons (vv 0) (ed_cons (vv 3) (ea_nil ⟨m.tabs.map (·.1), ⟨by omega, Nat.lt_of_le_of_lt (show _ ≤ 64 by omega) (by decide)⟩, by rfl, fun y hy => hy⟩)))) (EE.optE (p := fun _ => True) (ee_call cI hr (by omega) (ed_cons (vv 0) (ed_cons (m_dots (by exact Room.u1 hr) (vv 1)) (ea_nil ⟨m.dots, ⟨by omega, Nat.lt_of_le_of_lt (show _ ≤ 64 by omega) (by decide)⟩, by rfl, fun y hy => trivial⟩)))) fun _ _ => trivial)) fun y hy => hy.1)
    (fun xs sp ⟨n, hn, e⟩ hp => ?_)
  have hsp1 : 1 ≤ sp.length ∧ sp.length ≤ 2 := by
    have := hp.length
    rw [List.filter_eq_self.mpr (fun _ _ => rfl), e, List.length_range] at this
    omega
  have hsp2 : ∀ y ∈ sp, y.1 ∈ m.tabs.map (·.1) := fun y hy => by
    obtain ⟨i, hi⟩ := List.mem_iff_getElem?.mp hy
    obtain ⟨x, _, hq⟩ := Paired.at2 hp hi
    exact hq
  refine sq_for1 10 (R := rNat) (inv := fun xs i C' => xs.length = 12 ∧ ∃ (st : Nat) (on : List Str) (ss : List Sight) (ta : List Pr) (sp : List (Str × Option Str)), CurOk pl (st, on) ∧ TaleOk m.tabs m.dots pl ss ta (st, on) ∧ ss.length ≤ i ∧ (1 ≤ sp.length ∧ sp.length ≤ 2) ∧ (∀ y ∈ sp, y.1 ∈ m.tabs.map (·.1)) ∧ C' = MC m pl (m.tabs.map (·.1)) st on ss ta sp .non .non .non .non .non) rfl PassesOwn.never S.nd
    (es_range (pn := fun n => n = 12) (ee_int.imp fun z hz => ⟨12, hz, rfl, by decide⟩) fr.range) (fun xs ⟨n, hn, e⟩ => ⟨by rw [e, List.length_range, hn], 0, [], [], [], sp, ⟨Nat.zero_le _, List.nil_sublist _⟩, TaleOk.nil, Nat.le_refl _, hsp1, hsp2, rfl⟩) (fun xs i x C' _ hx ⟨hxl, st, on, ss, ta, sp, hc, ht, hss, hs1, hs2, e2⟩ => ?_) (fun xs C' _ ⟨hxl, st, on, ss, ta, sp, hc, ht, hss, hs1, hs2, e2⟩ => ?_)
  · subst e2
    have hi12 : i < 12 := by
      have := (List.getElem?_eq_some_iff.mp hx).1
      omega
    obtain ⟨l1, l2, l3⟩ := hlot st
    have hst : st ≤ pl.length := hc.1
    have hon : on.Sublist (pl.getD st []) := hc.2
    have hpll := hpl.len
    have hat : atI (pl ++ [[]]) (st : Int) = some (pl.getD st []) := by
      rw [atI_nat, List.getElem?_append, List.getD_eq_getElem?_getD]
      split
      · rename_i h; rw [List.getElem?_eq_getElem h]; rfl
      · rename_i h
        have e : st - pl.length = 0 := by omega
        have e2 : pl[st]? = none := List.getElem?_eq_none (by omega)
        rw [e2, e]; rfl
    refine sq_filt 11 12 (R := rS) (f := fun z => !decide (z ∈ on)) rfl S.nd (es_tup (dv_ixL (xs := pl ++ [[]]) (EN.ee (en_cat (RL := rL (rT rS)) (RL' := rL (rT rS)) (pr := (· = pl ++ [[]])) (EN.ee (en_lstL (vv 2) fr.list)) (dv_lst (R := rT rS) (xs := [[]]) (el_cons (dv_tup (xs := []) el_nil (Nat.zero_le _)) el_nil) (by show 1 ≤ sizeLine; decide)) ?_)) (EE.int (vv 6)) hat)) (Nat.lt_of_le_of_lt (Nat.le_trans l3 (by decide)) big) (fun z hz s0 H0 Cc cl fp => ET.is (dt_cmp o_ninST (vv 12) (vv 7) trivial) (by rfl)) (fun z hz s0 H0 Cc cl fp => vv 12) ?_
    · intro a b ha hb
      rw [ha, hb]
      exact ⟨Nat.le_of_lt (Nat.lt_of_le_of_lt (show pl.length + 1 ≤ 64 by omega) big), rfl⟩
    have hrl : ((pl.getD st []).filter fun z => !decide (z ∈ on)).length ≤ 4 := Nat.le_trans (List.length_filter_le _ _) l3
    have hrm : ∀ z ∈ (pl.getD st []).filter fun z => !decide (z ∈ on), z ∈ pl.getD st [] ∧ z ∉ on := fun z hz => by
      obtain ⟨h1, h2⟩ := List.mem_filter.mp hz
      exact ⟨h1, by simpa using h2⟩
    generalize hrest : ((pl.getD st []).filter fun z => !decide (z ∈ on)) = rest at *
    have hshape : SeqAt.shaped (.list (rest.map PyData.str)) = true := shaped_list (n := 0) (fun d hd => by obtain ⟨x, hx, rfl⟩ := List.mem_map.mp hd; exact ⟨hstr x (l2 x (hrm x hx).1), Nat.le_refl _⟩) (by decide)
    have honl : on.length ≤ 4 := Nat.le_trans hon.length_le l3
    refine sq_if (pb := fun b => b = true → rest ≠ []) (nx1 := fun C1 => ∃ (st' : Nat) (on' : List Str), CurOk pl (st', on') ∧ TaleOk m.tabs m.dots pl ss ta (st', on') ∧ C1 = MC m pl (m.tabs.map (·.1)) st' on' ss ta sp .non (.val ⟨rNat, x⟩) (.val ⟨rL rS, rest⟩) .non .non)
      (et_and (pa := fun b => b = !rest.isEmpty) (pb := fun _ => True) (ET.is (dt_cmp (x := rest) (y := ([] : List Str)) (o_neNil (RL := rL rS) (S := rS) (by exact Room.u64 hr)) (vv 11) (dv_lst (R := rS) (xs := []) el_nil (Nat.zero_le _)) ⟨rfl, hshape⟩) (by rfl)) (fun _ => et_cmp o_eqI (ee_call (q := fun y : Int => True) cT hr (by omega) (ed_cons (vv 0) (ed_cons ee_int (ea_nil ⟨2, ⟨by decide, by decide⟩, by rfl, fun y hy => trivial⟩)))) ee_int fun _ _ _ _ => ⟨trivial, trivial⟩) (fun _ h => Bool.noConfusion h) (fun b h _ _ e => by rw [e] at h; simp at h))
      (fun hb => ?_) (fun _ => ?_) ?_
    · have hne : rest ≠ [] := hb rfl
      have hpos : 0 < rest.length := List.length_pos_iff.mpr hne
      refine sq_set 7 (p := fun y : List Str => y.Sublist (pl.getD st []) ∧ ∀ z ∈ on, z ∈ y) (ee_tupL (EN.ee (en_sortT (p := fun ys : List Str => ∃ x ∈ rest, ys = on ++ [x]) (q := fun y : List Str => y.Sublist (pl.getD st []) ∧ ∀ z ∈ on, z ∈ y) (ee_catT (vv 7) (ee_tup1 (R := rS) (p := fun y : Str => y ∈ rest) (ee_call cI hr (by omega) (ed_cons (vv 0) (ed_cons (vv 11) (ea_nil ⟨rest, ⟨hpos, Nat.lt_of_le_of_lt (Nat.le_trans hrl (show 4 ≤ 64 by decide)) (by decide)⟩, by rfl, fun y hy => hy⟩))))) ?_) fr.sorted ?_)) fr.tuple) (fun on2 hon2 => ?_) S.nd
      · rintro xs ys e1 ⟨x, hx, e2⟩
        rw [e1, e2]
        exact ⟨Nat.le_of_lt (Nat.lt_of_le_of_lt (show on.length + 1 ≤ 64 by omega) big), x, hx, rfl⟩
      · rintro xs ⟨x, hx, e⟩
        subst e
        refine ⟨by rw [List.length_append]; show on.length + 1 < 64; omega, fun ys hp hs => ⟨on_more l1 hon (hrm x hx).1 (hrm x hx).2 hp hs, fun z hz => hp.mem_iff.mpr (List.mem_append_left _ hz)⟩⟩
      · exact sq_nil ⟨st, on2, ⟨hst, hon2.1⟩, ht.move (fol_more hon2.2), rfl⟩
    · refine sq_if (pb := fun b => b = true → st < pl.length) (nx1 := fun C1 => ∃ (st' : Nat) (on' : List Str), CurOk pl (st', on') ∧ TaleOk m.tabs m.dots pl ss ta (st', on') ∧ C1 = MC m pl (m.tabs.map (·.1)) st' on' ss ta sp .non (.val ⟨rNat, x⟩) (.val ⟨rL rS, rest⟩) .non .non)
        (et_and (pa := fun b => b = rest.isEmpty) (pb := fun b => b = decide ((st : Int) < (pl.length : Int))) (ET.is (dt_cmp (x := rest) (y := ([] : List Str)) (o_eqNil (RL := rL rS) (S := rS) (by exact Room.u64 hr)) (vv 11) (dv_lst (R := rS) (xs := []) el_nil (Nat.zero_le _)) ⟨rfl, hshape⟩) (by rfl)) (fun _ => ET.is (dt_cmp o_lt (EE.int (vv 6)) (dv_lenL (vv 2) fr.len) trivial) (by rfl)) (fun _ h => Bool.noConfusion h) (fun b _ h e => by rw [e] at h; have := of_decide_eq_true h.symm; omega))
        (fun hb => ?_) (fun _ => sq_nil ⟨st, on, hc, ht, rfl⟩) (fun C1 h => sq_nil h)
      have hlt : st < pl.length := hb rfl
      refine si_tup [6, 7] (post := fun C1 κs => C1 = MC m pl (m.tabs.map (·.1)) st on ss ta sp .non (.val ⟨rNat, x⟩) (.val ⟨rL rS, rest⟩) .non .non ∧ κs = [.val ⟨rNat, st + 1⟩, .val ⟨rT rS, []⟩]) rfl (pgs_cons (pg_name S.nd rfl (by first | exact Or.inl rfl | exact Or.inr rfl)) (pgs_cons (pg_name S.nd rfl (by first | exact Or.inl rfl | exact Or.inr rfl)) pgs_nil))
        (eis_cons (EI.dv (R := rNat) (y := st + 1) (EE.nat (n := st + 1) (EE.is (dv_bin o_add (EE.int (vv 6)) ee_int trivial) (by rfl)))) fun C4 κ4 ⟨e5, e6⟩ => by
            subst e5 e6
            exact eis_cons (EI.dv (R := rT rS) (y := []) (dv_tup (xs := []) el_nil (Nat.zero_le _))) fun C5 κ5 ⟨e5, e6⟩ => by
              subst e5 e6
              exact eis_nil ⟨rfl, rfl⟩) ?_
      rintro C1 κs ⟨e1, e2⟩
      subst e1 e2
      exact ⟨rfl, sq_nil ⟨st + 1, [], ⟨hlt, List.nil_sublist _⟩, ht.move fol_next, rfl⟩⟩
    · rintro C1 ⟨st', on', hc', ht', e⟩
      subst e
      clear ht hc hst hon l1 l2 l3 hat hrl hrm hshape honl
      refine sq_set 9 (p := fun z : Int => 0 ≤ z ∧ z < (sp.length : Int)) (ee_call cT hr (by omega) (ed_cons (vv 0) (ed_cons (dv_lenL (vv 8) fr.len) (ea_nil ⟨(sp.length : Int), ⟨by omega, by show (sp.length : Int) < 2 ^ 30; omega⟩, by rfl, fun y hy => hy⟩)))) (fun z hz => ?_) S.nd
      obtain ⟨j, rfl⟩ : ∃ j : Nat, z = (j : Int) := ⟨z.toNat, by omega⟩
      have hj : j < sp.length := by omega
      have hatj : atI sp (j : Int) = some sp[j] := by rw [atI_nat, List.getElem?_eq_getElem hj]
      have hix : ixN sp.length (j : Int) = some j := by
        unfold ixN
        rw [if_pos (by omega), if_pos (by omega)]; rfl
      refine sq_two 13 12 (ph := (· = sp[j])) rfl S.nd (dv_ixL (vv 8) (vv 9) hatj) (fun y hy => ?_)
      subst hy
      have hkey : sp[j].1 ∈ m.tabs.map (·.1) := hs2 _ (List.getElem_mem hj)
      refine sq_if (pb := fun b => b = decide (∃ y ∈ m.dots, sp[j].2 = some y)) (nx1 := fun C1 => ∃ (ss' : List Sight) (ta' : List Pr) (sp' : List (Str × Option Str)), TaleOk m.tabs m.dots pl ss' ta' (st', on') ∧ ss'.length ≤ i + 1 ∧ (1 ≤ sp'.length ∧ sp'.length ≤ 2) ∧ (∀ y ∈ sp', y.1 ∈ m.tabs.map (·.1)) ∧ C1 = MC m pl (m.tabs.map (·.1)) st' on' ss' ta' sp' (.val ⟨rI, (j : Int)⟩) (.val ⟨rNat, x⟩) (.val ⟨rL rS, rest⟩) (.val ⟨rO, sp[j].2⟩) (.val ⟨rS, sp[j].1⟩))
        (ET.imp (dt_cmp o_inOL (vv 12) (m_dots (by exact Room.u1 hr) (vv 1)) trivial) fun b hb => hb) (fun hb => ?_) (fun _ => sq_nil ⟨ss, ta, sp, ht', by omega, hs1, hs2, rfl⟩) ?_
      · obtain ⟨y, hy, ey⟩ := of_decide_eq_true hb.symm
        generalize sp[j].1 = g at *
        rw [ey]
        refine sq_lput 8 (p := fun z : Str × Option Str => z = (g, wayT m.tabs g (isNew pl y (st', on')) y)) rfl (dv_pair (vv 13) (ee_call (q := fun z : Option Str => z = wayT m.tabs g (isNew pl y (st', on')) y) cH hr (by omega) (ed_cons (vv 1) (ed_cons (vv 2) (ed_cons (vv 13) (ed_cons (x := y) (EE.txt (vv 12)) (ed_cons (vv 6) (ed_cons (vv 7) (ea_nil ⟨(m, pl, g, y, st', on'), ⟨hm, hdone, hkey, hy⟩, by rfl, fun z hz => hz⟩)))))))) ) (vv 9) hix rfl rfl fun z hz => ?_
        subst hz
        have hat2 : atI (sp.set j (g, wayT m.tabs g (isNew pl y (st', on')) y)) (j : Int) = some (g, wayT m.tabs g (isNew pl y (st', on')) y) := by
          rw [atI_nat, List.getElem?_set_self hj]
        refine sq_append 4 (R := rSight) (p := fun s : Sight => s = (g, y, wayT m.tabs g (isNew pl y (st', on')) y)) (dv_trip (vv 13) (EE.txt (vv 12)) (dv_snd (dv_ixL (vv 8) (vv 9) hat2))) rfl rfl (Nat.lt_of_le_of_lt (show _ ≤ 64 by omega) big) fun s1 hs1' => ?_
        subst hs1'
        have htl' := ht'.len
        refine sq_append 5 (R := rPr) (p := fun s : Pr => s = (st', on')) (dv_pair (vv 6) (vv 7)) rfl rfl (Nat.lt_of_le_of_lt (show _ ≤ 64 by omega) big) fun s1 hs1' => ?_
        subst hs1'
        refine sq_nil ⟨ss ++ [(g, y, wayT m.tabs g (isNew pl y (st', on')) y)], ta ++ [(st', on')], sp.set j (g, wayT m.tabs g (isNew pl y (st', on')) y), TaleOk.snoc (s := (g, y, wayT m.tabs g (isNew pl y (st', on')) y)) ht' hc' ⟨hkey, hy, rfl⟩, by rw [List.length_append]; show ss.length + 1 ≤ i + 1; omega, by rw [List.length_set]; exact hs1, fun y hy => ?_, rfl⟩
        rcases List.mem_or_eq_of_mem_set hy with hy | hy
        · exact hs2 y hy
        · rw [hy]; exact hkey
      · rintro C1 ⟨ss', ta', sp', h1, h2, h3, h4, e⟩
        subst e
        exact sq_nil ⟨_, ⟨hxl, st', on', ss', ta', sp', hc', h1, h2, h3, h4, rfl⟩, weak_by (.keep (.keep (.keep (.keep (.keep (.keep (.keep (.keep (.keep (.drop (.drop (.drop (.drop (.drop .nil))))))))))))))⟩
  · subst e2
    exact sq_seal (.base (.base (.base (.val (.lst inferInstance rfl (.lst inferInstance rfl (.val (.val (.lst inferInstance rfl (.non (.non (.non (.non (.non .nil)))))))))))))) (sq_ret' (dv_pair (vv 4) (vv 5)) (by intro y hy; rw [hy]; exact ⟨by show ss.length ≤ 12; omega, _, ht⟩))
end
end K62

end

section
set_option Elab.async false
set_option linter.all false
set_option maxRecDepth 100000
set_option maxHeartbeats 4000000
namespace K62
open PySem PySem.Spec PyProof.Rows L2
/-! ### an object while it is made: its fields so far -/
structure SfR (Cn : Addr) (L : List (Str × Slot)) (W : Wd) (H : Hp) (a dx : Addr) (fs : List (Str × V)) : Prop where
  m : W.M a
  i : ∀ H', W.I H' → H' a = some (.ins Cn dx fs)
  len : fs.length ≤ L.length
  dc : fs.lookup ("does_change" : Str) = none
  fld : ∀ p ∈ L, ∃ v, fs.lookup p.1 = some v ∧ p.2.R.r W H v p.2.x
def rSf (Cn : Addr) (L : List (Str × Slot)) : RepT Unit where
  r := fun W H v _ => ∃ a dx fs, v = .ref a ∧ SfR Cn L W H a dx fs
  mono := fun {_ _ _ _ _} e ⟨a, dx, fs, ev, h⟩ => ⟨a, dx, fs, ev, h.m, h.i, h.len, h.dc, fun p hp => let ⟨v, e1, r⟩ := h.fld p hp; ⟨v, e1, p.2.R.mono e r⟩⟩
  into := fun {_ _ _ _ _ _} hi h0 e hi2 ⟨a, dx, fs, ev, h⟩ => ⟨a, dx, fs, ev, .inl h.m, fun H' q => h.i H' q.1, h.len, h.dc, fun p hp => let ⟨v, e1, r⟩ := h.fld p hp; ⟨v, e1, p.2.R.into hi h0 e hi2 r⟩⟩
  lock := fun {_ _ _ _ _} s ⟨a, dx, fs, ev, h⟩ => ⟨a, dx, fs, ev, h.m, h.i, h.len, h.dc, fun p hp => let ⟨v, e1, r⟩ := h.fld p hp; ⟨v, e1, p.2.R.lock s r⟩⟩
/-- a method of the class -/
def MetOk (K : PySem.W.Frag) (Cn : Addr) (d : He.DefD) : Prop := ∃ f fd, FunD K d.name d.qual d.params d.body d.scope [] [] f fd ∧ Meth K Cn d.name f
section
variable {P : Program} {w : World} {K : PySem.W.Frag} {mg : Str → Option Value} {base : Heap} {A β : Type} {k : Nat} {Ga : A → List Slot} {pre : A → Prop} {R : RepT β} {post : A → β → Prop} {Cn : Addr}
theorem fn_okM {d : He.DefD} (N ps : List Str) (hc : Cls K Cn) (D : MetOk K Cn d) (S : FnScope N ps d.scope)
    (b : ∀ (kV doc pm : Value) (an : Option Addr) (cdv ct : Value) (us : List Value), us.length = ps.length → bindArgs (PySem.W.fnOf d.name d.qual d.params d.body d.scope .none kV doc pm an cdv ct) ⟨us, []⟩ = pure (ps.zip us))
    (hl : ∀ a, (Ga a).length = ps.length)
    (hb : ∀ (a : A) (f : Addr) (cdv : Value) (A : Around) (outer : List Env) (s : Shared) (H : Hp) (E : XK), pre a → Room k (fx P w K mg base N d f cdv A outer s H E).A → SS (fx P w K mg base N d f cdv A outer s H E) (C0 N (Ga a)) d.body (fun _ => False) R (post a)) :
    C8.Met P w K mg base (k + 1) Cn d.name (spOf Ga pre R post) [] := by
  obtain ⟨f, fd, F, hm⟩ := D
  refine ⟨f, fd, ps, [], hc, hm, F.ok S (fun vs H Q E ⟨a, W, h1, h2, h3, h4⟩ => by rw [h3.length]; exact hl a) ?_, F.bindsN b, .nil⟩
  intro cdv A outer s H vs Q E hr ⟨a, W, hp, hi, sk, q⟩
  refine ⟨tss _ d.body, PSs.nox pss_tss, (hb a f cdv A outer s H E hp hr).tss (holds_start hi sk) ⟨fun _ _ _ _ n => n.elim, fun v H1 y e py r => q v H1 y e py r⟩⟩
end
section
variable {X : Cx} {Γ : ECtx} {a e : Expr} {es : List Expr} {α β : Type} {R : RepT α} {S : RepT β} {q : β → Prop} {pos pp p1 apos : Pos} {Cn : Addr} {L : List (Str × Slot)}
/-- self.f, read -/
theorem sf_fld {x : α} {f : Str} (hf : (f, (⟨R, x⟩ : Slot)) ∈ L) (hc : Cls X.K Cn) (hn : NoAttr X.K Cn f) (ha : EV X Γ a (rSf Cn L) ()) (hb : attributeBase a f X.env (eval a X.env) = eval a X.env := by rfl) : EV X Γ (.Attribute a f pos) R x :=
  dv_fldG (RN := rSf Cn L) (y := ()) (fun W H v hi r => let ⟨a, dx, fs, e, h⟩ := r; ⟨a, dx, fs, e, h.i H hi, h.fld _ hf⟩) hc hn ha hb
theorem ep_sf (i : Nat) {xn : Str} {x : α} {f : Str} (hf : (f, (⟨R, x⟩ : Slot)) ∈ L) (hc : Cls X.K Cn) (hna : NoAttr X.K Cn f) (hb : attributeBase (.Name xn p1) f X.env (eval (.Name xn p1) X.env) = eval (.Name xn p1) X.env := by rfl)
    (hN : X.N[i]? = some xn := by rfl) (hv : Vis X.env.scope xn := by first | exact Or.inl rfl | exact Or.inr (Or.inl rfl) | exact Or.inr (Or.inr rfl)) (hG : Γ[i]? = some (some ⟨rSf Cn L, ()⟩) := by rfl)
    (hd : (xn == ("__debug__" : Str)) = false := by decide) (hcd : (xn == ("__classdict__" : Str)) = false := by decide) : EP1 X Γ (.Attribute (.Name xn p1) f pos) R x := fun W σ H hi hh => by
  obtain ⟨v, r, ev⟩ := ep_name (pos := p1) i hN hv hG hd hcd W σ H hi hh
  obtain ⟨l, dx, fs, rfl, h⟩ := r
  obtain ⟨u, e1, ru⟩ := h.fld _ hf
  have hx := h.i H hi
  refine ⟨u, ru, fun H' Q sr qq pins s I => (pe_fld pe_te hb).run pins s σ H' Q I (ev H' _ sr ⟨l, Cn, dx, fs, u, rfl, ?_, hc, hna, e1, qq⟩)⟩
  refine rd_ins ?_
  rw [sr l]; exact rd_of hx
/-- self.m(e, ..) -/
theorem ee_met {A : Type} {Ga : A → List Slot} {pre : A → Prop} {post : A → β → Prop} {k j : Nat} (c : C8.Met X.prog X.w X.K X.mg X.base k Cn "does_change" (spOf Ga pre S post) []) (hr : Room j X.A) (hk : k ≤ j) (ho : EV X Γ a (rSf Cn L) ())
    (ha : EA X Γ (e :: es) fun gs => ∃ z, pre z ∧ ⟨rSf Cn L, ()⟩ :: gs = Ga z ∧ ∀ y, post z y → q y) (ns : NS X e := by intro _; rfl) (hpl : (backTo pos (starEach es X.env)).any (·.1) = false := by rfl) {pl : Sem Bool}
    (ht : eval (.Call (.Attribute a "does_change" apos) (e :: es) [] pos) X.env = (do
      let ov ← eval a X.env
      standAt apos.atName
      let (f, first) ← holding [ov] (getMethod ov "does_change" pl)
      callWith pos f first (backTo pos (starEach (e :: es) X.env)) (backToKw pos (keywordEach [] X.env))) := by rfl) : EE X Γ (.Call (.Attribute a "does_change" apos) (e :: es) [] pos) S q :=
  EE.of (C8.pe_mt c hr hk pe_te pa_ta (ns _) hpl ht) fun W σ H Q hi hh f => ho.te hi hh fun u H1 x e1 px rx => by
    obtain ⟨l, dx, fs, rfl, h⟩ := id rx
    refine ⟨l, dx, fs, rfl, h.i _ e1.inv, h.dc, ha.ta e1.inv (hh.mono e1) fun vs H2 gs e2 ⟨z, hpre, hgs, hpost⟩ sk => ?_⟩
    rw [List.append_nil]
    refine ⟨z, W, hpre, e2.inv, by rw [← hgs]; exact .cons ((rSf Cn L).mono e2 rx) sk, fun v H3 y e3 py r => f v H3 y ((e1.trans e2).trans e3) (hpost y py) r⟩
end
section
variable {P : Program} {w : World} {K : PySem.W.Frag} {mg : Str → Option Value} {base : Heap} {Cn : Addr}
abbrev SpDoes (Cn : Addr) (L : List (Str × Slot)) (t : Tabs) (ns : List Str) : Sp := spOf (fun x : Str => [⟨rSf Cn L, ()⟩, ⟨rS, x⟩]) (fun x => x ∈ ns) rB (fun x b => b = chM t x)
theorem c_does_change (fr : Fr mg) (nf : NetF K mg Cn) (D : MetOk K Cn d_does_change) (k : Nat) {L : List (Str × Slot)} {t : Tabs} {ns : List Str} (hL : (("own_tables" : Str), (⟨rTabs, t⟩ : Slot)) ∈ L) (ht : TabsOk t ns) : C8.Met P w K mg base (k + 1) Cn "does_change" (SpDoes Cn L t ns) [] := by
  have S : FnScope ["self", "node", "pair"] ["self", "node"] d_does_change.scope := C8.fnScope_by (by decide +kernel)
  refine fn_okM (d := d_does_change) ["self", "node", "pair"] ["self", "node"] nf.cls D S (fun _ _ _ _ _ _ us hl => match us, hl with | [_, _], _ => rfl) (fun _ => rfl) fun x f cdv A outer s H E hx hr => ?_
  have hx : x ∈ ns := hx
  have big : (64 : Nat) < sizeLine := by decide
  refine sq_ret' (ee_any (q := fun b => b = chM t x) rfl (lc_vals (R := rP rTab rTab) (S := rB) (g := pairN x) 2 rfl S.nd (ep_sf 0 hL nf.cls nf.tb) (Nat.lt_of_le_of_lt (Nat.le_trans ht.g2 (by decide)) big) fun z hz s0 H0 Cc cl fp => ?_) fr.any ?_) (by intro y hy; exact hy)
  · obtain ⟨kv, hkv, rfl⟩ := List.mem_map.mp hz
    obtain ⟨t1, t2⟩ := ht.each kv.1 kv.2.1 kv.2.2 hkv
    obtain ⟨p1, h1, _⟩ := t1.2 x hx
    obtain ⟨p2, h2, _⟩ := t2.2 x hx
    refine EE.is (dv_cmp o_neO (dv_dget (by exact Room.u1 hr) (dv_fst (vv 2)) (vv 1) h1) (dv_dget (by exact Room.u1 hr) (dv_snd (vv 2)) (vv 1) h2) trivial) ?_
    show _ = !decide ((lk kv.2.1 x).getD none = (lk kv.2.2 x).getD none)
    rw [h1, h2]; rfl
  · rintro xs rfl
    rw [List.any_map, List.any_map]; rfl
abbrev SpOrd : Sp := spOf (fun t : Tab => [⟨rTab, t⟩]) (fun t => t.length < 64 ∧ (t.map (·.1)).Nodup) rTab (fun t y => (y.map (·.1)).Perm (t.map (·.1)) ∧ ∀ z, lk y z = lk t z)
theorem lk_none {α : Type} {d : List (Str × α)} {k : Str} (h : k ∉ d.map (·.1)) : lk d k = none := by
  unfold lk
  rw [List.find?_eq_none.mpr]
  · rfl
  · intro p hp e
    exact h (List.mem_map.mpr ⟨p, hp, of_decide_eq_true e⟩)
theorem puts_zip {α : Type} {xs : List Str} {ys : List α} (h : xs.Nodup) (hl : xs.length = ys.length) : puts (fun z : Str => z) (xs.zip ys) = xs.zip ys := by
  have e : ((xs.zip ys).map (·.1)) = xs := by
    rw [List.map_fst_zip]; omega
  have := foldl_pt (xs := xs.zip ys) (d := []) (by rw [List.nil_append, e]; exact h)
  rw [List.nil_append] at this
  exact this
theorem lk_same {α : Type} {d y : List (Str × α)} (hd : (d.map (·.1)).Nodup) (hp : (y.map (·.1)).Perm (d.map (·.1))) (h : ∀ k v, (k, v) ∈ y → lk d k = some v) (z : Str) : lk y z = lk d z := by
  by_cases hz : z ∈ y.map (·.1)
  · obtain ⟨v, e⟩ := lk_some hz
    rw [e, h z v (lk_mem e)]
  · rw [lk_none hz, lk_none fun hm => hz (hp.mem_iff.mpr hm)]
theorem zip_at {α β : Type} {F : α → β → Prop} : ∀ {xs : List α} {ys : List β} {x : α} {y : β}, Paired F xs ys → (x, y) ∈ xs.zip ys → F x y ∧ x ∈ xs
  | _, _, _, _, .nil, h => by simp at h
  | _, _, x, y, .cons q t, h => by
    rw [List.zip_cons_cons] at h
    rcases List.mem_cons.mp h with e | h
    · cases e; exact ⟨q, List.mem_cons_self⟩
    · obtain ⟨a, b⟩ := zip_at t h
      exact ⟨a, List.mem_cons_of_mem _ b⟩
theorem c_ordered (fr : Fr mg) (D : DefOk K mg d_ordered) (k : Nat) : C8.Cal P w K mg base (k + 1) "ordered" SpOrd [] := by
  have S : FnScope ["table", "key"] ["table"] d_ordered.scope := C8.fnScope_by (by decide +kernel)
  refine fn_ok ["table", "key"] ["table"] D S (fun _ _ _ _ _ _ us hl => match us, hl with | [_], _ => rfl) (fun _ => rfl) fun t f cdv A outer s H E ⟨h1, h2⟩ hr => ?_
  have big : (64 : Nat) < sizeLine := by decide
  refine sq_ret' (ED.ee (ed_dc (R := rS) (S := rO) (own := [("key", 1)]) (ups := fun z => [(1, ⟨rS, z⟩)]) (g := gName 1) (kf := fun z : Str => z) (qe := fun z o => lk t z = some o) (ps := fun xs : List Str => xs.Perm (t.map (·.1))) rfl S.nd (es_list (EN.ee (en_sortD rfl (vv 0) fr.sorted h1 fun ys hp _ => hp))) (blkOk_by (by rfl)) (fun s0 H0 Cc cl fp => pg_name S.nd rfl (by first | exact Or.inl rfl | exact Or.inr rfl)) (fun z => g_name) (fun z u hu => by rw [List.mem_singleton.mp hu]; exact List.mem_singleton.mpr rfl) (fun xs hp => Nat.lt_of_le_of_lt (show _ ≤ 64 by rw [hp.length_eq, List.length_map]; omega) big)
    (fun xs hp z hz s0 H0 Cc cl fp => vv 1) (fun xs hp z hz s0 H0 Cc cl fp => ?_))) ?_
  · obtain ⟨o, e⟩ := lk_some (hp.mem_iff.mp hz)
    exact (dv_dget (by exact Room.u1 hr) (vv 0) (vv 1) e).imp fun y hy => by rw [hy]; exact e
  · rintro y ⟨xs, ys, hp, hq, rfl⟩
    have hn : xs.Nodup := hp.nodup_iff.mpr h2
    rw [puts_zip hn hq.length]
    have e : ((xs.zip ys).map (·.1)) = xs := by
      rw [List.map_fst_zip]; have := hq.length; omega
    refine ⟨by rw [e]; exact hp, lk_same h2 (by rw [e]; exact hp) fun z v hm => (zip_at hq hm).1⟩
end
end K62

end

section
set_option Elab.async false
set_option linter.all false
set_option maxRecDepth 100000
set_option maxHeartbeats 4000000
namespace K62
open PySem PySem.Spec PyProof.Rows L2
/-- statements of __init__, from a heap where the object at x has the fields L -/
def JJ (X : Cx) (Cn : Addr) (W0 : Wd) (H0 : Hp) (x : Addr) (D : Ends) (L : List (Str × Slot)) (Γ' : ECtx) (sts : List Stmt) : Prop :=
  ∀ (dx : Addr) (fs : List (Str × V)) (σ : L2.St) (H : Hp), H0 x = none → W0.I H0 → Ext W0 H0 H → (W0.adds [(x, .ins Cn dx fs)]).I H → σ[0]? = some (some (.ref x)) → HoldsE (W0.adds [(x, .ins Cn dx fs)]) H σ (some ⟨rSf Cn L, ()⟩ :: Γ') → (∀ g, some g ∈ Γ' → Plain g.R) → (∀ p ∈ L, Plain p.2.R) → tss X sts D σ H
theorem putF_len {f : Str} {v : V} : ∀ {fs : List (Str × V)}, (putF f v fs).length ≤ fs.length + 1
  | [] => Nat.le_refl _
  | (g, x) :: r => by
    unfold putF
    split
    · simp
    · have := putF_len (f := f) (v := v) (fs := r)
      simp; omega
section
variable {X : Cx} {Cn x : Addr} {W0 : Wd} {H0 : Hp} {D : Ends} {L : List (Str × Slot)} {Γ' : ECtx} {α : Type} {R : RepT α} {p : α → Prop} {e c : Expr} {rest th : List Stmt} {pos p1 p2 : Pos}
theorem jj_nil (h : ∀ (dx : Addr) (fs : List (Str × V)) (σ : L2.St) (H : Hp), Ext W0 H0 H → H x = some (.ins Cn dx fs) → SfR Cn L (W0.adds [(x, .ins Cn dx fs)]) H x dx fs → (∀ p ∈ L, Plain p.2.R) → D.nx σ H) : JJ X Cn W0 H0 x D L Γ' [] := by
  intro dx fs σ H hx hi ext hI hs hh hp hL pins s I
  refine pss_nil.run pins s σ H D I (h dx fs σ H ext (adds1_get hI) ?_ hL)
  obtain ⟨v, e1, a, dx', fs', ev, hS⟩ := hh.sl 0 _ rfl
  rw [hs] at e1
  cases e1
  cases ev
  have h1 := hS.i H hI
  rw [adds1_get hI] at h1
  cases h1
  exact hS
theorem jj_if (ht : ET X (some ⟨rSf Cn L, ()⟩ :: Γ') c (· = false)) (k : JJ X Cn W0 H0 x D L Γ' rest) : JJ X Cn W0 H0 x D L Γ' (.If c th [] pos :: rest) := by
  intro dx fs σ H hx hi ext hI hs hh hp hL pins s I
  refine (pss_cons (ps_if (pos := pos) pt_tt (pss_tss (sts := th)) pss_nil) pss_tss).run pins s σ H D I (ht.tt hI hh fun v H1 e1 pv => ?_)
  subst pv
  exact k dx fs σ H1 hx hi (Ext.weak' ext (fun q hq => by rw [List.mem_singleton.mp hq]; exact hx) e1) e1.inv hs (hh.mono e1) hp hL
theorem jj_set (i : Nat) {y : Str} {pos' : Pos} [Plain R] (he : EE X (some ⟨rSf Cn L, ()⟩ :: Γ') e R p) (k : ∀ z, p z → JJ X Cn W0 H0 x D L (Γ'.set i (some ⟨R, z⟩)) rest) (hN : X.N.Nodup) (hi : X.N[i + 1]? = some y := by rfl) (hx : Loc X.env.scope y := by first | exact Or.inl rfl | exact Or.inr rfl)
    (hs : swapsWith e (some (.Name y pos')) pos.line X.env = pure false := by rfl) (hf : X.fn y = true := by rfl) : JJ X Cn W0 H0 x D L Γ' (.Assign [.Name y pos'] e pos :: rest) := by
  intro dx fs σ H hx0 hi0 ext hI hs0 hh hp hL pins s I
  refine (pss_cons (ps_set hN hi hx pe_te hs (.inl hf)) pss_tss).run pins s σ H D I (he.te hI hh fun v H1 z e1 pz rz => ?_)
  have hm := hh.mono e1
  refine k z pz dx fs _ H1 hx0 hi0 (Ext.weak' ext (fun q hq => by rw [List.mem_singleton.mp hq]; exact hx0) e1) e1.inv ?_ ⟨?_, fun j g ej => ?_⟩ (fun g hg => ?_) hL
  · rw [List.getElem?_set_ne (by omega)]; exact hs0
  · have := hm.len; simp at this ⊢; exact this
  · by_cases hj : j = i + 1
    · subst hj
      have hlt : i < Γ'.length := by
        have := (List.getElem?_eq_some_iff.mp ej).1
        simp at this; exact this
      have e5 : (Γ'.set i (some ⟨R, z⟩))[i]? = some (some g) := by simpa using ej
      rw [List.getElem?_set_self hlt] at e5
      cases e5
      refine ⟨v, ?_, rz⟩
      rw [List.getElem?_set_self]
      have := hm.len; simp at this; omega
    · have e6 : (some ⟨rSf Cn L, ()⟩ :: Γ')[j]? = some (some g) := by
        cases j with
        | zero => exact ej
        | succ j =>
          have e5 : (Γ'.set i (some ⟨R, z⟩))[j]? = some (some g) := by simpa using ej
          rw [List.getElem?_set_ne (by omega)] at e5
          simpa using e5
      obtain ⟨u, e7, ru⟩ := hm.sl j g e6
      exact ⟨u, by rw [List.getElem?_set_ne (by omega)]; exact e7, ru⟩
  · rcases List.mem_or_eq_of_mem_set hg with hg | hg
    · exact hp g hg
    · cases hg; assumption
theorem jj_fld {f y : Str} {pos' : Pos} [Plain R] (he : EE X (some ⟨rSf Cn L, ()⟩ :: Γ') e R p) (k : ∀ z, p z → JJ X Cn W0 H0 x D ((f, ⟨R, z⟩) :: L) Γ' rest) (hc : Cls X.K Cn) (hn : NoAttr X.K Cn f) (hl : L.length < 100) (hf : ∀ q ∈ L, q.1 ≠ f) (hd : ("does_change" : Str) ≠ f)
    (hN : X.N[0]? = some y := by rfl) (hv : Vis X.env.scope y := by first | exact Or.inl rfl | exact Or.inr (Or.inl rfl) | exact Or.inr (Or.inr rfl)) (hs : swapsWith e (some (.Attribute (.Name y p1) f pos')) pos.line X.env = pure false := by rfl)
    (hdb : (y == ("__debug__" : Str)) = false := by decide) (hcd : (y == ("__classdict__" : Str)) = false := by decide) : JJ X Cn W0 H0 x D L Γ' (.Assign [.Attribute (.Name y p1) f pos'] e pos :: rest) := by
  intro dx fs σ H hx0 hi0 ext hI hs0 hh hp hL pins s I
  refine (pss_cons (ps_fld (pe_var hN hv hdb hcd) pe_te hs) pss_tss).run pins s σ H D I (he.te hI hh fun v H1 z e1 pz rz => ?_)
  have hm := hh.mono e1
  have hx1 := adds1_get e1.inv
  have ext1 := Ext.weak' ext (fun q hq => by rw [List.mem_singleton.mp hq]; exact hx0) e1
  obtain ⟨u, e2, a, dx', fs', ev, hS⟩ := hm.sl 0 _ rfl
  rw [hs0] at e2
  cases e2
  cases ev
  have h1 := hS.i H1 e1.inv
  rw [hx1] at h1
  cases h1
  have hlen := hS.len
  have ext2 : Ext W0 H0 (upd H1 x (.ins Cn dx (putF f v fs))) := ext1.own hi0 hx0
  have ag : Agr (W0.adds [(x, .ins Cn dx fs)]) H1 (W0.adds [(x, .ins Cn dx (putF f v fs))]) (upd H1 x (.ins Cn dx (putF f v fs))) := Agr.upd adds1_M adds1_D
  refine ⟨.ref x, hs0, x, Cn, dx, fs, rfl, hx1, hc, hn, by omega, ?_⟩
  refine k z pz dx (putF f v fs) σ _ hx0 hi0 ext2 (adds1_I ext2.inv upd_same) hs0 ⟨by have := hm.len; simpa using this, fun j g ej => ?_⟩ hp (fun q hq => ?_)
  · cases j with
    | zero =>
      cases ej
      refine ⟨.ref x, hs0, x, dx, _, rfl, adds1_D, fun H' q => adds1_get q, ?_, ?_, fun q hq => ?_⟩
      · have := putF_len (f := f) (v := v) (fs := fs); simp; omega
      · rw [lookup_putF, if_neg hd]; exact hS.dc
      · rcases List.mem_cons.mp hq with e | hq
        · subst e
          refine ⟨v, by rw [lookup_putF, if_pos rfl], Plain.pl ag rz⟩
        · obtain ⟨u, e5, ru⟩ := hS.fld q hq
          refine ⟨u, by rw [lookup_putF, if_neg (hf q hq)]; exact e5, (hL q hq).pl ag ru⟩
    | succ j =>
      have e6 : (some ⟨rSf Cn L, ()⟩ :: Γ')[j + 1]? = some (some g) := by simpa using ej
      obtain ⟨u, e7, ru⟩ := hm.sl (j + 1) g e6
      exact ⟨u, e7, (hp g (List.mem_of_getElem? (by simpa using e6))).pl ag ru⟩
  · rcases List.mem_cons.mp hq with e | hq
    · rw [e]; assumption
    · exact hL q hq
end
/-! ### the net of a model -/
def ordP (t y : Tab) : Prop := (y.map (·.1)).Perm (t.map (·.1)) ∧ ∀ z, lk y z = lk t z
structure OrdT (t y : Tabs) : Prop where
  keys : (y.map (·.1)).Perm (t.map (·.1))
  each : ∀ g pr, (g, pr) ∈ y → ∃ pr0, lk t g = some pr0 ∧ ordP pr0.1 pr.1 ∧ ordP pr0.2 pr.2
theorem OrdT.way {t y : Tabs} (h : OrdT t y) (g : Str) (b : Bool) (z : Str) : wayT y g b z = wayT t g b z := by
  unfold wayT
  by_cases hg : g ∈ y.map (·.1)
  · obtain ⟨pr, e⟩ := lk_some hg
    obtain ⟨pr0, e0, h1, h2⟩ := h.each g pr (lk_mem e)
    rw [e, e0]
    show (lk (if b then pr.2 else pr.1) z).getD none = (lk (if b then pr0.2 else pr0.1) z).getD none
    cases b
    · exact congrArg (fun o : Option (Option Str) => o.getD none) (h1.2 z)
    · exact congrArg (fun o : Option (Option Str) => o.getD none) (h2.2 z)
  · rw [lk_none hg, lk_none fun hm => hg (h.keys.mem_iff.mpr hm)]
theorem OrdT.pair {pr0 pr : Tab × Tab} {z : Str} (h1 : ordP pr0.1 pr.1) (h2 : ordP pr0.2 pr.2) : pairN z pr = pairN z pr0 := by
  unfold pairN
  rw [h1.2, h2.2]
theorem OrdT.ch {t y : Tabs} (h : OrdT t y) (hd : (t.map (·.1)).Nodup) (z : Str) : chM y z = chM t z := by
  have key : chM y z = true ↔ chM t z = true := by
    unfold chM
    rw [List.any_eq_true, List.any_eq_true]
    constructor
    · rintro ⟨⟨g, pr⟩, hm, hp⟩
      obtain ⟨pr0, e0, h1, h2⟩ := h.each g pr hm
      exact ⟨(g, pr0), lk_mem e0, by rw [← OrdT.pair (z := z) h1 h2]; exact hp⟩
    · rintro ⟨⟨g, pr0⟩, hm, hp⟩
      have hg : g ∈ y.map (·.1) := h.keys.mem_iff.mpr (List.mem_map.mpr ⟨_, hm, rfl⟩)
      obtain ⟨pr, e⟩ := lk_some hg
      obtain ⟨pr1, e1, h1, h2⟩ := h.each g pr (lk_mem e)
      rw [lk_nd hd hm] at e1
      cases e1
      exact ⟨(g, pr), lk_mem e, by show pairN z pr = true; rw [OrdT.pair (z := z) h1 h2]; exact hp⟩
  cases h1 : chM y z <;> cases h2 : chM t z
  · rfl
  · rw [h1, h2] at key; simp at key
  · rw [h1, h2] at key; simp at key
  · rfl
theorem OrdT.ok {t y : Tabs} {ds ns : List Str} (h : OrdT t y) (ht : TabsOk t ds) (hp : ns.Perm ds) : TabsOk y ns where
  g1 := by have := h.keys.length_eq; rw [List.length_map, List.length_map] at this; have := ht.g1; omega
  g2 := by have := h.keys.length_eq; rw [List.length_map, List.length_map] at this; have := ht.g2; omega
  gn g hg := ht.gn g (h.keys.mem_iff.mp hg)
  gd := h.keys.nodup_iff.mpr ht.gd
  n1 := by rw [hp.length_eq]; exact ht.n1
  n2 := by rw [hp.length_eq]; exact ht.n2
  nn n hn := ht.nn n (hp.mem_iff.mp hn)
  nd := hp.nodup_iff.mpr ht.nd
  dis n hn hg := ht.dis n (hp.mem_iff.mp hn) (h.keys.mem_iff.mp hg)
  each g o n hm := by
    obtain ⟨pr0, e0, h1, h2⟩ := h.each g (o, n) hm
    obtain ⟨t1, t2⟩ := ht.each g pr0.1 pr0.2 (lk_mem e0)
    have key : ∀ {a b : Tab}, tabOk ds g a → ordP a b → tabOk ds g b := fun h1 h2 => ⟨h2.1.trans h1.1, fun n hn => by rw [h2.2]; exact h1.2 n hn⟩
    exact ⟨(key t1 h1).perm hp, (key t2 h2).perm hp⟩
theorem holdsE_start {W : Wd} {H : Hp} {vs : List V} {gs : List Slot} {N : List Str} (sk : SlotsOk W H vs gs) : HoldsE W H (L2.start N vs) (gs.map some ++ List.replicate (N.length - gs.length) none) where
  len := by simp [L2.start, sk.length]
  sl := fun i g q => by
    have hl := sk.length
    by_cases h : i < gs.length
    · rw [List.getElem?_append_left (by simpa using h), List.getElem?_map] at q
      obtain ⟨g', e1, e2⟩ := Option.map_eq_some_iff.mp q
      cases e2
      obtain ⟨v, e3, r⟩ := slots_at sk e1
      refine ⟨v, ?_, r⟩
      unfold L2.start
      rw [List.getElem?_append_left (by rw [List.length_map, hl]; exact h), List.getElem?_map, e3]; rfl
    · rw [List.getElem?_append_right (by simpa using h), List.getElem?_replicate] at q
      split at q
      · cases q
      · cases q
structure NetGood (m : ModelD) (n : NetD) : Prop where
  ok : NetOk n
  go : ∀ g, g ∈ n.goals ↔ g ∈ m.tabs.map (·.1)
  no : ∀ z, z ∈ n.nodes ↔ z ∈ m.dots
  way : ∀ g b z, wayN n g b z = wayT m.tabs g b z
  ch : ∀ z, z ∈ m.dots.filter (chM m.tabs) → z ∈ n.changing
/-- a def with defaults, all arguments given -/
def IniOk (K : PySem.W.Frag) (Cn : Addr) (d : He.DefD) : Prop := ∃ f fd dvs, dvs.length = 2 ∧ FunD K d.name d.qual d.params d.body d.scope dvs [] f fd ∧ Mk K Cn f
section
variable {P : Program} {w : World} {K : PySem.W.Frag} {mg : Str → Option Value} {base : Heap} {Cn : Addr}
def SpInit (Cn : Addr) : Sp := fun vs H Q _ => ∃ (m : ModelD) (W0 : Wd) (H0 : Hp) (x dx : Addr) (vs' : List V), ModelOk m ∧ H0 x = none ∧ H0 dx = none ∧ dx ≠ x ∧ W0.I H0 ∧ H = upd (upd H0 dx (.own x)) x (.ins Cn dx []) ∧ vs = .ref x :: vs' ∧ SlotsOk W0 H0 vs' [⟨rTabs, m.tabs⟩, ⟨rL rS, m.src⟩, ⟨rL rS, m.posts⟩] ∧
  ∀ H2 n, Ext W0 H0 H2 → NetGood m n → (rNet Cn).r W0 H2 (.ref x) n → Q .non H2
end
end K62

end

section
set_option Elab.async false
set_option linter.all false
set_option maxRecDepth 100000
set_option maxHeartbeats 4000000
namespace K62
open PySem PySem.Spec PyProof.Rows L2
theorem nq01 : ("own_tables" : Str) ≠ ("own_goals" : Str) := by decide
theorem nq02 : ("own_tables" : Str) ≠ ("own_nodes" : Str) := by decide
theorem nq12 : ("own_goals" : Str) ≠ ("own_nodes" : Str) := by decide
theorem nq03 : ("own_tables" : Str) ≠ ("own_sources" : Str) := by decide
theorem nq13 : ("own_goals" : Str) ≠ ("own_sources" : Str) := by decide
theorem nq23 : ("own_nodes" : Str) ≠ ("own_sources" : Str) := by decide
theorem nq04 : ("own_tables" : Str) ≠ ("own_posts" : Str) := by decide
theorem nq14 : ("own_goals" : Str) ≠ ("own_posts" : Str) := by decide
theorem nq24 : ("own_nodes" : Str) ≠ ("own_posts" : Str) := by decide
theorem nq34 : ("own_sources" : Str) ≠ ("own_posts" : Str) := by decide
theorem nq05 : ("own_tables" : Str) ≠ ("own_changing" : Str) := by decide
theorem nq15 : ("own_goals" : Str) ≠ ("own_changing" : Str) := by decide
theorem nq25 : ("own_nodes" : Str) ≠ ("own_changing" : Str) := by decide
theorem nq35 : ("own_sources" : Str) ≠ ("own_changing" : Str) := by decide
theorem nq45 : ("own_posts" : Str) ≠ ("own_changing" : Str) := by decide
theorem nodup_subN : ∀ {l m : List Str}, l.Nodup → (∀ x ∈ l, x ∈ m) → l.length ≤ m.length
  | [], m, _, _ => Nat.zero_le _
  | a :: l, m, h, hs => by
    have h2 := List.nodup_cons.mp h
    have ha := hs a List.mem_cons_self
    have ih := nodup_subN (l := l) (m := m.erase a) h2.2 fun x hx => (List.mem_erase_of_ne (fun e => h2.1 (by rw [← e]; exact hx))).mpr (hs x (List.mem_cons_of_mem _ hx))
    have hpos := List.length_pos_of_mem ha
    rw [List.length_erase_of_mem ha] at ih
    rw [List.length_cons]; omega
section
variable {P : Program} {w : World} {K : PySem.W.Frag} {mg : Str → Option Value} {base : Heap} {Cn : Addr}
theorem c_init (fr : Fr mg) (nf : NetF K mg Cn) (D : IniOk K Cn d_init) (DM : MetOk K Cn d_does_change) (k : Nat) (cT : C8.Cal P w K mg base (k + 4) "are_tables" SpTables []) (cO : C8.Cal P w K mg base (k + 3) "nodes_of" SpNodesOf []) (cN : C8.Cal P w K mg base (k + 2) "are_nodes" SpNodes []) (cR : C8.Cal P w K mg base (k + 1) "ordered" SpOrd []) : C8.Mak P w K mg base (k + 5) "Net" Cn (SpInit Cn) [] := by
  have S : FnScope ["self", "tables", "sources", "posts", "nodes", "goal", "node"] ["self", "tables", "sources", "posts"] d_init.scope := C8.fnScope_by (by decide +kernel)
  obtain ⟨f, fd, dvs, hdv, F, M⟩ := D
  have hne : dvs ≠ [] := by intro e; rw [e] at hdv; cases hdv
  obtain ⟨ds, hvs, hb⟩ := F.binds1 (ps := ["self", "tables", "sources", "posts"]) 4 2 hne (by rw [hdv]; rfl) fun T kV doc pm an cdv ct us its hl hi => by
    match us, hl, its, hi.trans hdv with
    | [u1, u2, u3, u4], _, [i1, i2], _ => exact ⟨_, rfl, rfl⟩
  rw [List.drop_of_length_le (by omega)] at hvs
  refine ⟨f, fd, ["self", "tables", "sources", "posts"], ds, M, F.ok S (fun vs H Q E h => ?_) ?_, nf.mgN, hb, hvs⟩
  · obtain ⟨m, W0, H0, x, dx, vs', _, _, _, _, _, _, e, sk, _⟩ := h
    rw [e, List.length_cons, sk.length]; rfl
  intro cdv A outer s H vs Q E hr ⟨m, W0, H0, x, dx, vs', hm, hx0, hdx0, hdx, hi0, eH, evs, sk, q⟩
  refine ⟨tss _ d_init.body, PSs.nox pss_tss, ?_⟩
  have big : (64 : Nat) < sizeLine := by decide
  have hdl := hm.d.few
  have key : JJ (fx P w K mg base ["self", "tables", "sources", "posts", "nodes", "goal", "node"] d_init f cdv A outer s H E) Cn W0 H0 x { nx := fun _ H' => Q .non H', rt := Q } [] [some ⟨rTabs, m.tabs⟩, some ⟨rL rS, m.src⟩, some ⟨rL rS, m.posts⟩, none, none, none] d_init.body := by
    refine jj_if (et_not (et_val (ee_call cT hr (by omega) (ed_cons (vv 1) (ea_nil ⟨(m.tabs, m.dots), hm.t, by rfl, fun b hb => by rw [hb]; rfl⟩))))) ?_
    refine jj_set 3 (p := fun y : List Str => y.Perm m.dots) (ee_call cO hr (by omega) (ed_cons (vv 1) (ea_nil ⟨(m.tabs, m.dots), hm.t, by rfl, fun y hy => hy.1⟩))) (fun ns hns => ?_) S.nd
    have hnl : ns.length ≤ 4 := by rw [hns.length_eq]; exact hdl
    refine jj_if (et_not (et_val (ee_call cN hr (by omega) (ed_cons (vv 4) (ed_cons (vv 2) (ea_nil ⟨(ns, m.src), ⟨hm.s1, ?_, fun z hz => hns.mem_iff.mpr (hm.s2 z hz)⟩, by rfl, fun b hb => by rw [hb]; rfl⟩)))))) ?_
    · show m.src.length < 64
      have h5 : m.src.length ≤ m.dots.length := nodup_subN hm.s1 hm.s2
      omega
    refine jj_if (et_or2 (pa := (· = false)) (pb := (· = false)) (pr := (· = false)) (et_not (et_val (ee_call cN hr (by omega) (ed_cons (vv 4) (ed_cons (vv 3) (ea_nil ⟨(ns, m.posts), ⟨hm.p1, ?_, fun z hz => hns.mem_iff.mpr (hm.p2 z hz)⟩, by rfl, fun b hb => by rw [hb]; rfl⟩)))))) (ET.is (dt_cmp o_gt (dv_lenL (vv 3) fr.len) (gI fr.mposts) trivial) ?_)) ?_
    · show m.posts.length < 64
      have := hm.p3; omega
    · have := hm.p3
      exact decide_eq_false (by omega)
    refine jj_fld (R := rTabs) (p := fun y : Tabs => OrdT m.tabs y) (ED.ee (ED.imp (ed_dc (R := rS) (S := rP rTab rTab) (own := [("goal", 5)]) (ups := fun z => [(5, ⟨rS, z⟩)]) (g := gName 5) (kf := fun z : Str => z) (qe := fun g pr => ∃ pr0, lk m.tabs g = some pr0 ∧ ordP pr0.1 pr.1 ∧ ordP pr0.2 pr.2) (ps := fun xs : List Str => xs.Perm (m.tabs.map (·.1))) rfl S.nd (es_list (EN.ee (en_sortD rfl (vv 1) fr.sorted (Nat.lt_of_le_of_lt hm.t.g2 (by decide)) fun ys hp _ => hp))) (blkOk_by (by rfl)) (fun s0 H0 Cc cl fp => pg_name S.nd rfl (by first | exact Or.inl rfl | exact Or.inr rfl)) (fun z => g_name) (fun z u hu => by rw [List.mem_singleton.mp hu]; exact List.mem_singleton.mpr rfl) (fun xs hp => Nat.lt_of_le_of_lt (show _ ≤ 64 by rw [hp.length_eq, List.length_map]; have := hm.t.g2; omega) big)
      (fun xs hp z hz s0 H0 Cc cl fp => vv 5) (fun xs hp z hz s0 H0 Cc cl fp => ?_)) ?_)) (fun yT hyT => ?_) nf.cls nf.tb (by decide) (by simp) (by decide)
    · obtain ⟨pr, e⟩ := lk_some (hp.mem_iff.mp hz)
      obtain ⟨t1, t2⟩ := hm.t.each z pr.1 pr.2 (lk_mem e)
      have len : ∀ {t : Tab}, tabOk m.dots z t → t.length < 64 ∧ (t.map (·.1)).Nodup := fun h => ⟨by have := h.1.length_eq; rw [List.length_map] at this; omega, h.1.nodup_iff.mpr hm.d.nd⟩
      refine EE.imp (ee_pair (p := fun y => ordP pr.1 y) (q := fun y => ordP pr.2 y) (ee_call cR hr (by omega) (ed_cons (x := pr.1) (dv_fst (dv_dget (by exact Room.u1 hr) (vv 1) (vv 5) e)) (ea_nil ⟨pr.1, len t1, by rfl, fun y hy => hy⟩))) (ee_call cR hr (by omega) (ed_cons (x := pr.2) (dv_snd (dv_dget (by exact Room.u1 hr) (vv 1) (vv 5) e)) (ea_nil ⟨pr.2, len t2, by rfl, fun y hy => hy⟩)))) fun y hy => ⟨pr, e, hy.1, hy.2⟩
    · rintro y ⟨xs, ys, hp, hq, rfl⟩
      have hn : xs.Nodup := hp.nodup_iff.mpr hm.t.gd
      rw [puts_zip hn hq.length]
      have e : ((xs.zip ys).map (·.1)) = xs := by
        rw [List.map_fst_zip]; have := hq.length; omega
      exact ⟨by rw [e]; exact hp, fun g pr hgm => (zip_at hq hgm).1⟩
    refine jj_fld (R := rT rS) (p := fun y : List Str => y = yT.map (·.1)) (dv_tupD rfl (sf_fld (R := rTabs) (x := yT) (List.mem_cons_self) nf.cls nf.tb (vv 0)) fr.tuple) (fun y hy => ?_) nf.cls nf.go (by show 1 < 100; decide) (by intro q hq; simp at hq; rw [hq]; exact nq01) (by decide)
    subst hy
    refine jj_fld (R := rT rS) (p := fun y : List Str => y = ns) (ee_tupL (vv 4) fr.tuple) (fun y hy => ?_) nf.cls nf.no (by show 2 < 100; decide) (by intro q hq; simp at hq; rcases hq with rfl | rfl <;> (first | exact nq01 | exact nq02 | exact nq12 | exact nq03 | exact nq13 | exact nq23 | exact nq04 | exact nq14 | exact nq24 | exact nq34 | exact nq05 | exact nq15 | exact nq25 | exact nq35 | exact nq45)) (by decide)
    subst hy
    refine jj_fld (R := rT rS) (p := fun y : List Str => True) (ee_tupL (EN.ee (en_sortS (q := fun _ => True) (vv 2) fr.sorted fun xs e => ⟨?_, fun _ _ _ => trivial⟩)) fr.tuple) (fun sr _ => ?_) nf.cls nf.so (by show 3 < 100; decide) (by intro q hq; simp at hq; rcases hq with rfl | rfl | rfl <;> (first | exact nq01 | exact nq02 | exact nq12 | exact nq03 | exact nq13 | exact nq23 | exact nq04 | exact nq14 | exact nq24 | exact nq34 | exact nq05 | exact nq15 | exact nq25 | exact nq35 | exact nq45)) (by decide)
    · rw [e]
      have h5 : m.src.length ≤ m.dots.length := nodup_subN hm.s1 hm.s2
      omega
    refine jj_fld (R := rT rS) (p := fun y : List Str => y = m.posts) (ee_tupL (vv 3) fr.tuple) (fun y hy => ?_) nf.cls nf.po (by show 4 < 100; decide) (by intro q hq; simp at hq; rcases hq with rfl | rfl | rfl | rfl <;> (first | exact nq01 | exact nq02 | exact nq12 | exact nq03 | exact nq13 | exact nq23 | exact nq04 | exact nq14 | exact nq24 | exact nq34 | exact nq05 | exact nq15 | exact nq25 | exact nq35 | exact nq45)) (by decide)
    subst hy
    have tok : TabsOk yT y := hyT.ok hm.t hns
    refine jj_fld (R := rT rS) (p := fun z : List Str => z = y.filter (chM yT)) (ee_tupL (EN.ee (EN.imp (lc_filt (R := rS) (f := chM yT) 6 rfl S.nd (es_list (vv 4)) (Nat.lt_of_le_of_lt (show _ ≤ 64 by omega) big) (fun z hz s0 H0 Cc cl fp => et_val (ee_met (c_does_change fr nf DM k (L := _) (List.mem_cons_of_mem _ (List.mem_cons_of_mem _ (List.mem_cons_of_mem _ (List.mem_cons_of_mem _ List.mem_cons_self)))) tok) hr (by omega) (vv 0) (ed_cons (vv 6) (ea_nil ⟨z, hz, by rfl, fun b hb => hb⟩)))) fun z hz s0 H0 Cc cl fp => vv 6) fun zs hzs => hzs)) fr.tuple) (fun z hz => ?_) nf.cls nf.ch (by show 5 < 100; decide) (by intro q hq; simp at hq; rcases hq with rfl | rfl | rfl | rfl | rfl <;> (first | exact nq01 | exact nq02 | exact nq12 | exact nq03 | exact nq13 | exact nq23 | exact nq04 | exact nq14 | exact nq24 | exact nq34 | exact nq05 | exact nq15 | exact nq25 | exact nq35 | exact nq45)) (by decide)
    subst hz
    refine jj_nil fun dx fs σ H2 ext hxx hS hL => ?_
    have ag : Agr (W0.adds [(x, .ins Cn dx fs)]) H2 W0 H2 := Agr.out
    have fl : ∀ {α : Type} {R : RepT α} [Plain R] {z : α} {g : Str}, (g, (⟨R, z⟩ : Slot)) ∈ _ → FldR W0 H2 fs g R z := fun {α R _ z g} hmem => by
      obtain ⟨v, e, r⟩ := hS.fld _ hmem
      exact ⟨v, e, Plain.pl ag r⟩
    refine q H2 ⟨yT, yT.map (·.1), y, sr, m.posts, y.filter (chM yT)⟩ ext ⟨⟨tok, rfl, fun z hz => (List.mem_filter.mp hz).1⟩, fun g => hyT.keys.mem_iff, fun z => hns.mem_iff, fun g b z => hyT.way g b z, fun z hz => ?_⟩ ⟨x, dx, fs, rfl, Wd.fresh hi0 hx0, ?_, fl ?_, fl ?_, fl ?_, fl ?_, fl ?_, fl ?_⟩
    · obtain ⟨h1, h2⟩ := List.mem_filter.mp hz
      exact List.mem_filter.mpr ⟨hns.mem_iff.mpr h1, by rw [hyT.ch hm.t.gd]; exact h2⟩
    · exact rd_of hxx
    all_goals simp
  have ext1 : Ext W0 H0 (upd H0 dx (.own x)) := Ext.new hi0 hdx0
  have ext2 : Ext W0 H0 H := by rw [eH]; exact ext1.own hi0 hx0
  have hxH : H x = some (.ins Cn dx []) := by rw [eH]; exact upd_same
  have hI : (W0.adds [(x, .ins Cn dx [])]).I H := adds1_I ext2.inv hxH
  have h0 : ∀ q ∈ ([(x, HO.ins Cn dx [])] : List (Addr × HO)), H0 q.1 = none := fun q hq => by rw [List.mem_singleton.mp hq]; exact hx0
  subst evs
  match vs', sk with
  | [v1, v2, v3], .cons r1 (.cons r2 (.cons r3 .nil)) =>
    have r1 : rTabs.r W0 H0 v1 m.tabs := r1
    have r2 : (rL rS).r W0 H0 v2 m.src := r2
    have r3 : (rL rS).r W0 H0 v3 m.posts := r3
    refine key dx [] _ H hx0 hi0 ext2 hI rfl (holdsE_start (N := ["self", "tables", "sources", "posts", "nodes", "goal", "node"]) (gs := [⟨rSf Cn [], ()⟩, ⟨rTabs, m.tabs⟩, ⟨rL rS, m.src⟩, ⟨rL rS, m.posts⟩]) (.cons ⟨x, dx, [], rfl, adds1_D, fun H' q => adds1_get q, Nat.le_refl _, rfl, by simp⟩ (.cons (rTabs.into hi0 h0 ext2 hI r1) (.cons ((rL rS).into hi0 h0 ext2 hI r2) (.cons ((rL rS).into hi0 h0 ext2 hI r3) .nil))))) (fun g hg => ?_) (by simp)
    simp at hg
    rcases hg with rfl | rfl | rfl <;> infer_instance
abbrev SpNet (Cn : Addr) : Sp := spOf (fun m : ModelD => [⟨rModel, m⟩]) ModelOk (rNet Cn) NetGood
theorem ee_mk {X : Cx} {Γ : ECtx} {e : Expr} {es : List Expr} {k j : Nat} {m : ModelD} {pp pos : Pos} (c : C8.Mak X.prog X.w X.K X.mg X.base k "Net" Cn (SpInit Cn) []) (hr : Room j X.A) (hk : k + 1 ≤ j) (hm : ModelOk m)
    (ha : EA X Γ (e :: es) fun gs => gs = [⟨rTabs, m.tabs⟩, ⟨rL rS, m.src⟩, ⟨rL rS, m.posts⟩]) (hg : Gl X "Net" := by rfl) (ns : NS X e := by intro _; rfl) (hpl : (backTo pos (starEach es X.env)).any (·.1) = false := by rfl) : EE X Γ (.Call (.Name "Net" pp) (e :: es) [] pos) (rNet Cn) (NetGood m) :=
  EE.of (C8.pe_mk c hr hk hg pa_ta (by decide) (ns _) hpl) fun W σ H Q hi hh f => ha.ta hi hh fun vs H1 gs e1 hgs sk => by
    subst hgs
    intro x dx hx hdx hne
    rw [List.append_nil]
    exact ⟨m, W, H1, x, dx, vs, hm, hx, hdx, hne, e1.inv, rfl, rfl, sk, fun H2 n e2 hg hr => ⟨rfl, f _ H2 n (e1.trans e2) hg hr⟩⟩
theorem c_law_net (fr : Fr mg) (D : DefOk K mg d__law_net) (k : Nat) (cN : C8.Mak P w K mg base (k + 5) "Net" Cn (SpInit Cn) []) : C8.Cal P w K mg base (k + 7) "_law_net" (SpNet Cn) [] := by
  have S : FnScope ["model"] ["model"] d__law_net.scope := C8.fnScope_by (by decide +kernel)
  refine fn_ok ["model"] ["model"] D S (fun _ _ _ _ _ _ us hl => match us, hl with | [_], _ => rfl) (fun _ => rfl) fun m f cdv A outer s H E hm hr => ?_
  have hm : ModelOk m := hm
  exact sq_ret (ee_mk (m := m) cN hr (by omega) hm (ed_cons (m_tables (by exact Room.u1 hr) (vv 0)) (ed_cons (m_src (by exact Room.u1 hr) (vv 0)) (ed_cons (m_posts (by exact Room.u1 hr) (vv 0)) (ea_nil rfl)))))
end
end K62

end

section
set_option Elab.async false
set_option linter.all false
set_option maxRecDepth 100000
set_option maxHeartbeats 4000000
namespace K62
open PySem PySem.Spec PyProof.Rows L2
/-- what the law knows of its net, plan, sights and tale -/
structure LF (m : ModelD) (n : NetD) (pl : Plan) (ss : List Sight) (ta : List Pr) : Prop where
  mo : ModelOk m
  ng : NetGood m n
  lp : LPlan (m.dots.filter (chM m.tabs)) pl
  all : AllOk n pl ss
  st : StoryOk n pl ss ta
theorem lf_of {m : ModelD} {n : NetD} {pl : Plan} {ss : List Sight} {ta : List Pr} {cur : Pr} (mo : ModelOk m) (ng : NetGood m n) (lp : LPlan (m.dots.filter (chM m.tabs)) pl) (h12 : ss.length ≤ 12) (ht : TaleOk m.tabs m.dots pl ss ta cur) : LF m n pl ss ta := by
  have hag : ∀ (i : Nat) s, ss[i]? = some s → ∃ p, ta[i]? = some p ∧ s.1 ∈ m.tabs.map (·.1) ∧ s.2.1 ∈ m.dots ∧ s.2.2 = wayT m.tabs s.1 (isNew pl s.2.1 p) s.2.1 := fun i s hs => by
    have hl := (List.getElem?_eq_some_iff.mp hs).1
    have hi : i < ta.length := by rw [ht.len]; exact hl
    exact ⟨ta[i], List.getElem?_eq_getElem hi, ht.ag i s _ hs (List.getElem?_eq_getElem hi)⟩
  refine ⟨mo, ng, lp, ⟨ng.ok, lp.ok ng.ch, h12, fun s hs => ?_⟩, ⟨ht.len, fun p hp => ⟨(ht.pr p hp).1, parts_iff.mpr (ht.pr p hp).2⟩, fun i s p h1 h2 => ?_, ht.ch⟩⟩
  · obtain ⟨i, hi⟩ := List.mem_iff_getElem?.mp hs
    obtain ⟨p, _, h1, h2, h3⟩ := hag i s hi
    refine ⟨(ng.go _).mpr h1, (ng.no _).mpr h2, fun z hz => ?_⟩
    obtain ⟨pr, e1, e2⟩ := way_atT mo.t h1 h2
    have e2 := e2 (isNew pl s.2.1 p)
    rw [← h3, hz] at e2
    obtain ⟨t1, t2⟩ := mo.t.each s.1 pr.1 pr.2 (lk_mem e1)
    have hpl : placeOk m.dots s.1 s.2.1 (some z) := by
      cases hb : isNew pl s.2.1 p
      · rw [hb] at e2
        obtain ⟨q, e3, h4⟩ := t1.2 _ h2
        have e2 : lk pr.1 s.2.1 = some (some z) := e2
        rw [e2] at e3; cases e3; exact h4
      · rw [hb] at e2
        obtain ⟨q, e3, h4⟩ := t2.2 _ h2
        have e2 : lk pr.2 s.2.1 = some (some z) := e2
        rw [e2] at e3; cases e3; exact h4
    rcases hpl z rfl with h5 | ⟨h5, h6⟩
    · refine ⟨fun e => mo.t.dis _ h2 ?_, .inl h5⟩
      rw [← e, h5]; exact h1
    · exact ⟨h6, .inr ((ng.no _).mpr h5)⟩
  · obtain ⟨h3, h4, h5⟩ := ht.ag i s p h1 h2
    unfold agr
    rw [ng.way, h5]
    exact decide_eq_true rfl
theorem AllOk.rev {n : NetD} {pl : Plan} {ss : List Sight} (h : AllOk n pl ss) : AllOk n pl ss.reverse := ⟨h.nk, h.pk, by rw [List.length_reverse]; exact h.s12, fun x hx => h.sk x (List.mem_reverse.mp hx)⟩
/-- a place that a kept stage allows is one of the ways of that stage -/
theorem way_mix {n : NetD} {pl : Plan} {s : Sight} {p : Pr} {done : List Str} (hd : done.Perm (pl.take p.1).flatten) (hp : p.2 ∈ parts (pl.getD p.1 [])) (ha : agr n pl s p = true) : s.2.2 ∈ mixV n done (pl.getD p.1 []) s.1 s.2.1 := by
  have ha : wayN n s.1 (isNew pl s.2.1 p) s.2.1 = s.2.2 := of_decide_eq_true ha
  rw [← ha]
  unfold mixV isNew
  by_cases h1 : s.2.1 ∈ done
  · rw [if_pos h1, decide_eq_true (hd.mem_iff.mp h1)]
    exact List.mem_singleton.mpr rfl
  · rw [if_neg h1, decide_eq_false fun h => h1 (hd.mem_iff.mpr h)]
    by_cases h2 : s.2.1 ∈ p.2
    · rw [decide_eq_true h2]
      have h3 : s.2.1 ∈ pl.getD p.1 [] := (parts_iff.mp hp).subset h2
      show wayN n s.1 true s.2.1 ∈ _
      by_cases h4 : wayN n s.1 true s.2.1 ≠ wayN n s.1 false s.2.1
      · rw [if_pos ⟨h3, h4⟩]; simp
      · rw [if_neg fun h => h4 h.2]
        have h4 : wayN n s.1 true s.2.1 = wayN n s.1 false s.2.1 := by
          rcases Classical.em (wayN n s.1 true s.2.1 = wayN n s.1 false s.2.1) with h | h
          · exact h
          · exact absurd h h4
        rw [h4]; simp
    · rw [decide_eq_false h2]
      show wayN n s.1 false s.2.1 ∈ _
      split <;> simp
end K62

end

section
set_option Elab.async false
set_option linter.all false
set_option maxRecDepth 100000
set_option maxHeartbeats 4000000
namespace K62
open PySem PySem.Spec PyProof.Rows L2
section
variable {X : Cx} {C : Ctx} {iter e : Expr} {body rest : List Stmt} {α β δ ζ γ : Type} {R : RepT α} {S : RepT β} {U : RepT δ} {V' : RepT ζ} {T : RepT γ} {pos tp tp2 xp yp zp up : Pos} {nx : Ctx → Prop} {r : γ → Prop}
theorem o_isnotB : OpE X (compareOp .IsNot) rB rB rB CT (fun x y => !decide (x = y)) :=
  ⟨_, op_isnot_bl, fun W H x y u v Q hi hu hv hc k => by cases hu; cases hv; exact ⟨x, y, rfl, rfl, k _ H (Ext.refl hi) rfl⟩⟩
/-- for m, (x, y, z) in iter -/
theorem sq_forP (m i j l : Nat) {u x y z : Str} {kt kt2 : Nat} {pl : List (δ × α × β × ζ) → Prop} {inv : List (δ × α × β × ζ) → Nat → Ctx → Prop} [Plain R] [Plain S] [Plain U] [Plain V'] (hc : X.calm = true) (hp : PassesOwn (model X.prog X.w) X.A X.env X.xe) (hN : X.N.Nodup)
    (hi : ES X C.E (.Tuple [.Name u up, .Tuple [.Name x xp, .Name y yp, .Name z zp] kt tp] kt2 tp2) iter (rP U (rQ R S V')) pl)
    (start : ∀ xs, pl xs → inv xs 0 C) (hb : ∀ xs (n : Nat) w C', pl xs → xs[n]? = some w → inv xs n C' → SS X ((((C'.put m ⟨U, w.1⟩).put i ⟨R, w.2.1⟩).put j ⟨S, w.2.2.1⟩).put l ⟨V', w.2.2.2⟩) body (fun C2 => ∃ C3, inv xs (n + 1) C3 ∧ Weak C2 C3) T r)
    (k : ∀ xs C', pl xs → inv xs xs.length C' → SS X C' rest nx T r) (hu : X.N[m]? = some u := by rfl) (hx : X.N[i]? = some x := by rfl) (hy : X.N[j]? = some y := by rfl) (hz : X.N[l]? = some z := by rfl)
    (lu : Loc X.env.scope u := by first | exact Or.inl rfl | exact Or.inr rfl) (lx : Loc X.env.scope x := by first | exact Or.inl rfl | exact Or.inr rfl) (ly : Loc X.env.scope y := by first | exact Or.inl rfl | exact Or.inr rfl) (lz : Loc X.env.scope z := by first | exact Or.inl rfl | exact Or.inr rfl)
    (fu : X.fn u = true ∨ X.env.scope.names.lookup u = some .local := by first | exact Or.inl rfl | exact Or.inr rfl) (fx : X.fn x = true ∨ X.env.scope.names.lookup x = some .local := by first | exact Or.inl rfl | exact Or.inr rfl) (fy : X.fn y = true ∨ X.env.scope.names.lookup y = some .local := by first | exact Or.inl rfl | exact Or.inr rfl) (fz : X.fn z = true ∨ X.env.scope.names.lookup z = some .local := by first | exact Or.inl rfl | exact Or.inr rfl)
    (hs : ∀ x, foldedSetIterable iter X.env x = pure x := by intro _; rfl) : SS X C (.For (.Tuple [.Name u up, .Tuple [.Name x xp, .Name y yp, .Name z zp] kt tp] kt2 tp2) iter body [] pos :: rest) nx T r :=
  sq_for (g := gTup X.K 2 (gCons (gName m) (gCons (gTup X.K 3 (gCons (gName i) (gCons (gName j) (gCons (gName l) gNil)))) gNil))) (ups := fun w : δ × α × β × ζ => [(m, ⟨U, w.1⟩), (i, ⟨R, w.2.1⟩), (j, ⟨S, w.2.2.1⟩), (l, ⟨V', w.2.2.2⟩)]) hc hp hi
    (pg_tup hc (pgs_cons (pg_name hN hu lu fu) (pgs_cons (pg_tup hc (pgs_cons (pg_name hN hx lx fx) (pgs_cons (pg_name hN hy ly fy) (pgs_cons (pg_name hN hz lz fz) pgs_nil)))) pgs_nil))) (fun w => g_pair3)
    (fun w u hu => by
      simp at hu
      rcases hu with rfl | rfl | rfl | rfl <;> assumption) start hb k hs
end
theorem ee_fst {X : Cx} {Γ : ECtx} {a : Expr} {α β : Type} {R : RepT α} {S : RepT β} {pos ps : Pos} [Plain R] [Plain S] {p : α × β → Prop} {q : α → Prop} {j} (ha : EE X Γ a (rP R S) p) (k : ∀ x, p x → q x.1) : EE X Γ (.Subscript a (.Constant (.int 0) j ps) pos) R q := by
  exact EE.of (pe_ix ix_tup pe_te pe_int fun _ _ => rfl) fun W σ H Q hi hh f => ha.te hi hh fun u H1 xs e1 px rx => by
    obtain ⟨l, u1, u2, rfl, n, hd, r1, r2⟩ := rx
    exact ⟨l, _, 0, u1, rfl, rfl, sqT_of hd, rfl, f _ H1 _ e1 (k xs px) r1⟩
theorem lot_apart {pl : Plan} (h : pl.flatten.Nodup) {k : Nat} {z : Str} (hz : z ∈ pl.getD k []) : z ∉ (pl.take k).flatten := by
  intro hm
  have e := congrArg List.flatten (List.take_append_drop k pl)
  rw [List.flatten_append] at e
  rw [← e, List.nodup_append] at h
  rw [List.getD_eq_getElem?_getD] at hz
  cases hx : pl[k]? with
  | none => rw [hx] at hz; simp at hz
  | some l =>
    rw [hx] at hz
    have hz : z ∈ l := hz
    have hl : (pl.drop k)[0]? = some l := by rw [List.getElem?_drop]; simpa using hx
    exact h.2.2 z hm z (List.mem_flatten.mpr ⟨l, List.mem_of_getElem? hl, hz⟩) rfl
theorem lot_at {pl : Plan} {k : Nat} (hk : k ≤ pl.length) : atI (pl ++ [[]]) (k : Int) = some (pl.getD k []) := by
  rw [atI_nat, List.getElem?_append, List.getD_eq_getElem?_getD]
  split
  · rename_i h; rw [List.getElem?_eq_getElem h]; rfl
  · rename_i h
    have e : k - pl.length = 0 := by omega
    have e2 : pl[k]? = none := List.getElem?_eq_none (by omega)
    rw [e2, e]; rfl
section
variable {P : Program} {w : World} {K : PySem.W.Frag} {mg : Str → Option Value} {base : Heap} {Cn : Addr}
abbrev NLaw : List Str := ["script", "draw", "turn", "model", "made", "plan", "some", "tale", "told", "at", "end", "dot", "spot", "stage", "ready", "turned", "other"]
abbrev LC (sS sT : SK) (m : ModelD) (n : NetD) (Cn : Addr) (pl : Plan) (ss : List Sight) (ta : List Pr) (to : SK) (a b c d e f g h : SK) : Ctx :=
  ⟨[sS, .base ⟨rDraw, ()⟩, sT, .val ⟨rModel, m⟩, .val ⟨rNet Cn, n⟩, .val ⟨rPlan, pl⟩, .val ⟨rL rSight, ss⟩, .val ⟨rL rPr, ta⟩, to, a, b, c, d, e, f, g, h], []⟩
structure LawC (P : Program) (w : World) (K : PySem.W.Frag) (mg : Str → Option Value) (base : Heap) (Cn : Addr) (k : Nat) : Prop where
  model : C8.Cal P w K mg base (k + 6) "_law_model" SpModel []
  net : C8.Cal P w K mg base (k + 7) "_law_net" (SpNet Cn) []
  plan : C8.Cal P w K mg base (k + 4) "_law_plan" SpPlan []
  moved : C8.Cal P w K mg base (k + 4) "_law_moved" SpMoved []
  stages : C8.Cal P w K mg base (k + 5) "stages" (SpStages Cn) []
  isStory : C8.Cal P w K mg base (k + 4) "is_story" (SpIsStory Cn) []
  clash : C8.Cal P w K mg base (k + 5) "clash" (SpClash Cn) []
  doneIn : C8.Cal P w K mg base (k + 1) "_law_done_in" SpDoneIn []
  ways : C8.Cal P w K mg base (k + 4) "ways" (SpWays Cn) []
  known : C8.Cal P w K mg base (k + 5) "known" (SpKnown Cn) []
  story : C8.Cal P w K mg base (k + 5) "story" (SpStory Cn) []
abbrev LawX (P : Program) (w : World) (K : PySem.W.Frag) (mg : Str → Option Value) (base : Heap) (f : Addr) (cdv : Value) (A : Around) (outer : List Env) (s : Shared) (H : Hp) (E : XK) : Cx := fx P w K mg base NLaw d_law f cdv A outer s H E
def lawFor : Stmt := d_law.body.getD 1 (.Pass ⟨0, 0, 0, 0⟩)
def lawBody : List Stmt := match lawFor with | .For _ _ b _ _ => b | _ => []
theorem sq_lawBody (fr : Fr mg) (k : Nat) (c : LawC P w K mg base Cn k) (S : FnScope NLaw ["script"] d_law.scope) {f : Addr} {cdv : Value} {A : Around} {outer : List Env} {s : Shared} {H : Hp} {E : XK} (hr : Room (k + 7) (LawX P w K mg base f cdv A outer s H E).A) (sS sT : SK) :
    SS (LawX P w K mg base f cdv A outer s H E) ⟨[sS, .base ⟨rDraw, ()⟩, sT, .non, .non, .non, .non, .non, .non, .non, .non, .non, .non, .non, .non, .non, .non], []⟩ lawBody (fun C2 => Weak C2 ⟨[sS, .base ⟨rDraw, ()⟩, .non, .non, .non, .non, .non, .non, .non, .non, .non, .non, .non, .non, .non, .non, .non], []⟩) rB (fun b => b = true) := by
  have big : (64 : Nat) < sizeLine := by decide
  refine sq_set 3 (p := ModelOk) (ee_call (q := ModelOk) c.model hr (by omega) (ed_cons (vv 1) (ed_cons ee_int (ed_cons ee_int (ea_nil ⟨((2 : Int), (4 : Int)), ⟨rfl, rfl⟩, by rfl, fun y hy => hy⟩))))) (fun m hm => ?_) S.nd
  refine si_par 4 5 (post := fun C1 κs => ∃ (n : NetD) (pl : Plan), NetGood m n ∧ LPlan (m.dots.filter (chM m.tabs)) pl ∧ C1 = ⟨[sS, .base ⟨rDraw, ()⟩, sT, .val ⟨rModel, m⟩, .non, .non, .non, .non, .non, .non, .non, .non, .non, .non, .non, .non, .non], []⟩ ∧ κs = [.val ⟨rNet Cn, n⟩, .val ⟨rPlan, pl⟩]) rfl S.nd
    (eis_cons (EI.ee (R := rNet Cn) (p := NetGood m) (ee_call (q := NetGood m) c.net hr (by omega) (ed_cons (vv 3) (ea_nil ⟨m, hm, by rfl, fun y hy => hy⟩)))) fun C1 κ hc => by
      obtain ⟨e1, y, py, e2⟩ := hc
      subst e1
      exact eis_cons (EI.ee (R := rPlan) (p := LPlan (m.dots.filter (chM m.tabs))) (ee_call (q := LPlan (m.dots.filter (chM m.tabs))) c.plan hr (by omega) (ed_cons (vv 1) (ed_cons (vv 3) (ea_nil ⟨m, hm, by rfl, fun y hy => hy⟩))))) fun C2 κ2 hc2 => by
        obtain ⟨e3, z, hz, e4⟩ := hc2
        exact eis_nil ⟨y, z, py, hz, e3, by rw [e2, e4]⟩) ?_
  rintro C1 κs ⟨n, pl, ng, lp, e1, e2⟩
  subst e1 e2
  refine ⟨rfl, ?_⟩
  refine sq_two 6 7 (R := rL rSight) (S := rL rPr) (ph := fun y => LF m n pl y.1 y.2) rfl S.nd (ee_call (q := fun y : List Sight × List Pr => LF m n pl y.1 y.2) c.moved hr (by omega) (ed_cons (vv 1) (ed_cons (vv 3) (ed_cons (vv 5) (ea_nil ⟨(m, pl), ⟨hm, lp⟩, by rfl, fun y hy => hy.2.elim fun cur ht => lf_of hm ng lp hy.1 ht⟩))))) (fun z hz => ?_)
  obtain ⟨ss, ta⟩ := z
  have hz : LF m n pl ss ta := hz
  have hall := hz.all
  have hst : storyable n pl ss := ⟨ta, hz.st⟩
  have hdone : pl.length < 64 ∧ ∀ i, (pl.take i).flatten.length < 64 := ⟨Nat.lt_of_le_of_lt lp.len (by decide), fun i => Nat.lt_of_le_of_lt (lp.take i) (by decide)⟩
  refine sq_set 8 (R := rU (rL (rT rNat))) (p := fun y => StagesRes n pl ss y) (ee_call (q := fun y => StagesRes n pl ss y) c.stages hr (by omega) (ed_cons (vv 4) (ed_cons (vv 5) (ed_cons (vv 6) (ea_nil ⟨(n, pl, ss), hall, by rfl, fun y hy => hy⟩))))) (fun to hto => ?_) S.nd
  obtain ⟨sts, rfl⟩ : ∃ sts, to = some sts := by
    cases to with
    | none => exact absurd hst hto
    | some sts => exact ⟨sts, rfl⟩
  obtain ⟨rows, rg, hrows⟩ := hto
  refine sq_ifr (pb := (· = false)) (et_or3 (pa := (· = false)) (pb := (· = false)) (pc := (· = false)) (pr := (· = false))
    (et_cmp o_isnotB (ee_call (q := fun b : Bool => b = true) c.isStory hr (by omega) (ed_cons (vv 4) (ed_cons (vv 5) (ed_cons (vv 6) (ed_cons (vv 7) (ea_nil ⟨(n, pl, ss, ta), ⟨hall, hz.st⟩, by rfl, fun y hy => hy⟩)))))) ee_bl fun x y hx hy => ⟨trivial, by rw [hx, hy]; rfl⟩)
    (et_cmp (o_notN isnU) (ee_call (q := fun y : Option (Nat × Nat) => y = none) c.clash hr (by omega) (ed_cons (vv 4) (ed_cons (vv 5) (ed_cons (vv 6) (ea_nil ⟨(n, pl, ss), hall, by rfl, fun y hy => ?_⟩))))) ee_non fun x y hx hy => ⟨trivial, by rw [hx]; rfl⟩)
    (ET.is (dt_cmp (o_isN isnU) (vv 8) ee_non trivial) (by rfl))) (fun h => Bool.noConfusion h) fun _ => ?_
  · cases y with
    | none => rfl
    | some q =>
      obtain ⟨i, j, a, b, h1, h2, h3, h4⟩ := hy
      exact absurd (sub_story hst h1 h2 h3) h4
  have hnon : ∀ {C1 : Ctx}, True := trivial
  have hsl : sts.length = ss.length := by rw [← hrows.length, rg.len]
  refine sq_forP 9 10 11 12 (U := rNat) (R := rS) (S := rS) (V' := rO) (inv := fun zs i C' => zs = (List.range ss.length).zip ss ∧ C' = LC sS sT m n Cn pl ss ta (.val ⟨rU (rL (rT rNat)), some sts⟩) .non .non .non .non .non .non .non .non) rfl PassesOwn.never S.nd (ES.imp' (es_enum (p := (· = ss)) (vv 6) fr.enumerate) (fun zs ⟨xs, e1, e2⟩ => by rw [e2, e1])) (fun zs e => ⟨e, rfl⟩) (fun zs i w C' _ hw ⟨e1, e2⟩ => ?_) (fun zs C' _ ⟨e1, e2⟩ => ?_)
  · subst e1 e2
    obtain ⟨wi, g, x, sp⟩ := w
    obtain ⟨h1, h2⟩ := List.getElem?_zip_eq_some.mp hw
    obtain ⟨h3, h4⟩ := List.getElem?_eq_some_iff.mp h1
    rw [List.length_range] at h3
    rw [List.getElem_range] at h4
    have h4 : i = wi := h4
    subst h4
    have h2 : ss[i]? = some (g, x, sp) := h2
    have htl : i < ta.length := by rw [hz.st.len]; exact h3
    have hp : ta[i]? = some ta[i] := List.getElem?_eq_getElem htl
    generalize ta[i] = p at hp
    have hi2 : i < sts.length := by omega
    have hs : sts[i]? = some sts[i] := List.getElem?_eq_getElem hi2
    generalize sts[i] = st at hs
    obtain ⟨row, hrow, hk⟩ := Paired.at2 hrows hs
    have hat1 : atI ta (i : Int) = some p := by rw [atI_nat]; exact hp
    have hat2 : atI sts (i : Int) = some st := by rw [atI_nat]; exact hs
    have hmem : p.1 ∈ st := (hk p.1).mpr ⟨p, rg.tl ta hz.st i p row hp hrow, rfl⟩
    refine dq_ifr (ET.is (dt_cmp o_ninNT (dv_fst (dv_ixL (vv 7) (EE.int (vv 9)) hat1)) (dv_ixL (EE.getU (p := (· = some sts)) (q := (· = sts)) (vv 8) (by simp) (fun x hx => Option.some.inj hx)) (EE.int (vv 9)) hat2) trivial) (y := false) (by show (!decide (p.1 ∈ st)) = false; rw [decide_eq_true hmem]; rfl)) (fun h => Bool.noConfusion h) fun _ => ?_
    refine sq_for1 13 (R := rNat) (inv := fun xs j C' => xs = st ∧ C' = LC sS sT m n Cn pl ss ta (.val ⟨rU (rL (rT rNat)), some sts⟩) (.val ⟨rNat, i⟩) (.val ⟨rS, g⟩) (.val ⟨rS, x⟩) (.val ⟨rO, sp⟩) .non .non .non .non) rfl PassesOwn.never S.nd (es_tup (dv_ixL (EE.getU (p := (· = some sts)) (q := (· = sts)) (vv 8) (by simp) (fun x hx => Option.some.inj hx)) (EE.int (vv 9)) hat2)) (fun xs e => ⟨e, rfl⟩) (fun xs j kx C' _ hj ⟨e1, e2⟩ => ?_) (fun xs C' _ ⟨e1, e2⟩ => ?_)
    · subst e1 e2
      obtain ⟨q, hq, e⟩ := (hk kx).mp (List.mem_of_getElem? hj)
      subst e
      obtain ⟨hqp, hqa⟩ := rg.el i row _ hrow h2 q hq
      have hsk := hall.sk _ (List.mem_of_getElem? h2)
      have hpk := hall.pk
      refine sq_set 14 (R := rT rS) (p := fun y : List Str => y.Perm (pl.take q.1).flatten ∧ sortedS y = true) (ee_tupL (EN.ee (en_sortS (p := fun y : List Str => y = (pl.take q.1).flatten) (q := fun y : List Str => y.Perm (pl.take q.1).flatten ∧ sortedS y = true) (ee_call (q := fun y : List Str => y = (pl.take q.1).flatten) c.doneIn hr (by omega) (ed_cons (vv 5) (ed_cons (vv 13) (ea_nil ⟨(pl, q.1), hdone, by rfl, fun y hy => hy⟩)))) fr.sorted fun xs e => ⟨by rw [e]; exact hdone.2 _, fun ys hp hs => ⟨by rw [← e]; exact hp, hs⟩⟩)) fr.tuple) (fun rd hrd => ?_) S.nd
      have hnd : ((pl.take q.1).flatten).Nodup := by
        have e := congrArg List.flatten (List.take_append_drop q.1 pl)
        rw [List.flatten_append] at e
        have h := hpk.nd
        rw [← e, List.nodup_append] at h
        exact h.1
      have hrl : LotOk n rd := ⟨fun z hz2 => by
        obtain ⟨l, hl, hzl⟩ := List.mem_flatten.mp (hrd.1.mem_iff.mp hz2)
        exact (hpk.lot l (List.mem_of_mem_take hl)).1.mem z hzl, sorted_asc hrd.2 (hrd.1.nodup_iff.mpr hnd), by rw [hrd.1.length_eq]; exact PlanOk.take hpk _⟩
      have hlt : LotOk n (pl.getD q.1 []) := by
        rw [List.getD_eq_getElem?_getD]
        cases hx : pl[q.1]? with
        | none => exact ⟨by simp, List.Pairwise.nil, by simp⟩
        | some l => exact (hpk.lot l (List.mem_of_getElem? hx)).1
      refine sq_ifr (pb := (· = false)) (et_cmp o_ninOL (vv 12) (ee_dget (p := fun ys : List (Option Str) => ys = mixV n rd (pl.getD q.1 []) g x) (pd := fun d : List (Str × List (Option Str)) => ∀ z ∈ n.nodes, lk d z = some (mixV n rd (pl.getD q.1 []) g z)) (pk := (· = x)) (by exact Room.u1 hr) (ee_call (q := fun d : List (Str × List (Option Str)) => ∀ z ∈ n.nodes, lk d z = some (mixV n rd (pl.getD q.1 []) g z)) c.ways hr (by omega) (ed_cons (vv 4) (ed_cons (vv 14) (ed_cons (x := pl.getD q.1 []) (dv_ixL (xs := pl ++ [[]]) (EN.ee (en_cat (RL := rL (rT rS)) (RL' := rL (rT rS)) (pr := (· = pl ++ [[]])) (EN.ee (en_lstL (vv 5) fr.list)) (dv_lst (R := rT rS) (xs := [[]]) (el_cons (dv_tup (xs := []) el_nil (Nat.zero_le _)) el_nil) (by show 1 ≤ sizeLine; decide)) ?_)) (EE.int (vv 13)) (lot_at hqp.1)) (ed_cons (vv 10) (ea_nil ⟨(n, rd, pl.getD q.1 [], g), ⟨hall.nk, hsk.g, hrl, hlt, fun z hz2 hr2 => lot_apart hpk.nd hz2 (hrd.1.mem_iff.mp hr2)⟩, by rfl, fun y hy => hy⟩)))))) (vv 11) (fun d z hd hz2 => ⟨_, by rw [hz2]; exact hd x hsk.x, rfl⟩)) ?_) (fun h => Bool.noConfusion h) fun _ => ?_
      · intro a b ha hb
        rw [ha, hb]
        have := lp.len
        exact ⟨Nat.le_of_lt (Nat.lt_of_le_of_lt (show pl.length + 1 ≤ 64 by omega) big), rfl⟩
      · rintro a b rfl rfl
        refine ⟨trivial, ?_⟩
        show (!decide _) = false
        rw [decide_eq_true (way_mix (s := (g, x, a)) hrd.1 hqp.2 hqa)]; rfl
      · exact sq_nil ⟨_, ⟨rfl, rfl⟩, weak_by (.keep (.keep (.keep (.keep (.keep (.keep (.keep (.keep (.keep (.keep (.keep (.keep (.keep (.drop (.drop (.keep (.keep .nil)))))))))))))))))⟩
    · subst e1 e2
      exact sq_nil ⟨_, ⟨rfl, rfl⟩, weak_by (.keep (.keep (.keep (.keep (.keep (.keep (.keep (.keep (.keep (.drop (.drop (.drop (.drop (.keep (.keep (.keep (.keep .nil)))))))))))))))))⟩
  subst e1 e2
  have hshape : SeqAt.shaped (.list (ss.map fun x : Sight => PyData.tuple [PyData.str x.1, PyData.str x.2.1, encO x.2.2])) = true := shaped_list (n := 1) (fun d hd => by
    obtain ⟨s, hs, rfl⟩ := List.mem_map.mp hd
    have hsk := hall.sk s hs
    have a1 : PyData.strOk s.1 = true := okN_str (hall.nk.t.gn _ (by rw [← hall.nk.go]; exact hsk.g))
    have a2 : PyData.strOk s.2.1 = true := okN_str (hall.nk.t.nn _ hsk.x)
    have a3 : (encO s.2.2).canLay0 = true ∧ (encO s.2.2).depth = 0 := by
      cases h : s.2.2 with
      | none => exact ⟨rfl, rfl⟩
      | some z =>
        refine ⟨?_, rfl⟩
        rcases (hsk.p z h).2 with h1 | h1
        · show PyData.strOk z = true
          rw [h1]; exact a1
        · exact okN_str (hall.nk.t.nn _ h1)
    refine ⟨?_, ?_⟩
    · show PyData.canLayAll0 [PyData.str s.1, PyData.str s.2.1, encO s.2.2] = true
      exact canAll fun d hd => by
        simp at hd
        rcases hd with rfl | rfl | rfl
        · exact a1
        · exact a2
        · exact a3.1
    · show PyData.depthAll [PyData.str s.1, PyData.str s.2.1, encO s.2.2] + 1 ≤ 1
      have := depthAll_le (ds := [PyData.str s.1, PyData.str s.2.1, encO s.2.2]) (n := 0) fun d hd => by
        simp at hd
        rcases hd with rfl | rfl | rfl
        · exact Nat.le_refl 0
        · exact Nat.le_refl 0
        · rw [a3.2]; exact Nat.le_refl 0
      omega) (by decide)
  refine sq_if (pb := fun b => b = !ss.isEmpty) (nx1 := fun C1 => C1 = LC sS sT m n Cn pl ss ta (.val ⟨rU (rL (rT rNat)), some sts⟩) .non .non .non .non .non .non .non .non) (ET.is (dt_cmp (x := ss) (y := ([] : List Str)) (o_neNil (RL := rL rSight) (S := rS) (by exact Room.u64 hr)) (vv 6) (dv_lst (R := rS) (xs := []) el_nil (Nat.zero_le _)) ⟨rfl, hshape⟩) (by rfl)) (fun hb => ?_) (fun _ => sq_nil rfl) (fun C1 e => ?_)
  · have hpos : 0 < ss.length := by
      cases ss with
      | nil => simp at hb
      | cons a b => simp
    have hlast := getLastD_at (d := (("", "", none) : Sight)) hpos
    have hat := atI_last (d := (("", "", none) : Sight)) hpos
    generalize ss.getLastD ("", "", none) = s1 at hlast hat
    obtain ⟨g, x, sp⟩ := s1
    have htl : ss.length - 1 < ta.length := by rw [hz.st.len]; omega
    have hp : ta[ss.length - 1]? = some ta[ss.length - 1] := List.getElem?_eq_getElem htl
    generalize ta[ss.length - 1] = p at hp
    have hag : wayN n g (isNew pl x p) x = sp := of_decide_eq_true (hz.st.ag _ _ p hlast hp)
    have hsk := hall.sk _ (List.mem_of_getElem? hlast)
    obtain ⟨pr, e1, e2⟩ := way_atT hm.t ((ng.go _).mp hsk.g) ((ng.no _).mp hsk.x)
    have e2 := e2 true
    refine sq_trip 10 11 12 (w := (g, x, sp)) rfl S.nd (dv_ixL (vv 6) (dv_neg ee_int) hat) ?_
    refine sq_ifr (pb := (· = false)) (et_and (pa := fun b => b = true → isNew pl x p = true) (pb := fun b => b = !decide (sp = wayT m.tabs g true x)) (et_cmp o_inST (vv 11) (ee_fst (q := fun y : List Str => ∀ z ∈ y, isNew pl z p = true) (ee_call (q := fun y : List Str × List Str => ∀ z ∈ y.1, isNew pl z p = true) c.known hr (by omega) (ed_cons (vv 4) (ed_cons (vv 5) (ed_cons (vv 6) (ea_nil ⟨(n, pl, ss), ⟨hall, hst⟩, by rfl, fun y hy z hz2 => hy z hz2 ta hz.st p hp⟩))))) fun y hy => hy) fun a b ha hb => ⟨trivial, fun h => by rw [ha] at h; exact hb x (of_decide_eq_true h)⟩)
      (fun _ => ET.is (dt_cmp o_neO (vv 12) (dv_dget (by exact Room.u1 hr) (dv_snd (dv_dget (by exact Room.u1 hr) (m_tables (by exact Room.u1 hr) (vv 3)) (vv 10) e1)) (vv 11) e2) trivial) (by rfl)) (fun _ => rfl) (fun b h1 h2 => by rw [h2, ← hag, h1 rfl, ng.way]; simp)) (fun h => Bool.noConfusion h) fun _ => ?_
    exact sq_nil rfl (weak_by (.keep (.keep (.keep (.keep (.keep (.keep (.keep (.keep (.keep (.keep (.drop (.drop (.drop (.keep (.keep (.keep (.keep .nil))))))))))))))))))
  subst e
  have hrev := hall.rev
  refine sq_set 15 (R := rL rSight) (p := fun y => y = ss.reverse) (EN.ee (en_rev (vv 6))) (fun tu htu => ?_) S.nd
  subst htu
  refine sq_ifr (pb := (· = false)) (et_cmp o_neB (ee_cmp (r := fun b : Bool => b = true ↔ storyable n pl ss.reverse) (o_isN isnU) (ee_call (q := fun y => ClashRes n pl ss.reverse y) c.clash hr (by omega) (ed_cons (vv 4) (ed_cons (vv 5) (ed_cons (vv 15) (ea_nil ⟨(n, pl, ss.reverse), hrev, by rfl, fun y hy => hy⟩))))) ee_non ?_) (ee_cmp (r := fun b : Bool => b = true ↔ storyable n pl ss.reverse) (o_notN isnU) (ee_call (q := fun y => StagesRes n pl ss.reverse y) c.stages hr (by omega) (ed_cons (vv 4) (ed_cons (vv 5) (ed_cons (vv 15) (ea_nil ⟨(n, pl, ss.reverse), hrev, by rfl, fun y hy => hy⟩))))) ee_non ?_) ?_) (fun h => Bool.noConfusion h) fun _ => ?_
  · rintro y u hy _
    refine ⟨trivial, ?_⟩
    cases y with
    | none => exact ⟨fun _ => join_story hy, fun _ => rfl⟩
    | some q =>
      obtain ⟨i, j, a, b, h1, h2, h3, h4⟩ := hy
      exact ⟨fun h => by simp at h, fun h => absurd (sub_story h h1 h2 h3) h4⟩
  · rintro y u hy _
    refine ⟨trivial, ?_⟩
    cases y with
    | none => exact ⟨fun h => by simp at h, fun h => absurd h hy⟩
    | some q =>
      obtain ⟨rows, rg, _⟩ := hy
      exact ⟨fun _ => rows_story rg, fun _ => rfl⟩
  · rintro a b ha hb
    refine ⟨trivial, ?_⟩
    show (a != b) = false
    cases a <;> cases b
    · rfl
    · exact absurd (ha.mpr (hb.mp rfl)) (by decide)
    · exact absurd (hb.mpr (ha.mp rfl)) (by decide)
    · rfl
  refine sq_set 16 (R := rU (rL rPr)) (p := fun y => StoryRes n pl ss.reverse y) (ee_call (q := fun y => StoryRes n pl ss.reverse y) c.story hr (by omega) (ed_cons (vv 4) (ed_cons (vv 5) (ed_cons (vv 15) (ea_nil ⟨(n, pl, ss.reverse), hrev, by rfl, fun y hy => hy⟩))))) (fun ot hot => ?_) S.nd
  refine sq_ifr (pb := (· = false)) (et_and (pa := fun b => b = !decide (ot = none)) (pb := (· = false)) (ET.is (dt_cmp (o_notN isnU) (vv 16) ee_non trivial) (by rfl)) (fun h => ?_) (fun _ => rfl) (fun b _ h => h)) (fun h => Bool.noConfusion h) fun _ => ?_
  · cases ot with
    | none => simp at h
    | some t =>
      exact et_not (et_val (ee_call c.isStory hr (by omega) (ed_cons (vv 4) (ed_cons (vv 5) (ed_cons (vv 15) (ed_cons (x := t) (EE.getU (p := (· = some t)) (q := (· = t)) (vv 16) (by simp) (fun x hx => Option.some.inj hx)) (ea_nil ⟨(n, pl, ss.reverse, t), ⟨hrev, hot⟩, by rfl, fun b hb => by rw [hb]; rfl⟩)))))))
  · refine sq_nil ?_
    exact weak_by (.keep (.keep (.drop (.drop (.drop (.drop (.drop (.drop (.drop (.keep (.keep (.keep (.keep (.keep (.keep (.drop (.drop .nil)))))))))))))))))
end
end K62

end

section
set_option Elab.async false
set_option linter.all false
set_option maxRecDepth 100000
set_option maxHeartbeats 4000000
namespace K62
open PySem PySem.Spec PyProof.Rows L2
/-- the script: a list of ints of the heap, or of the written part -/
def ScrK (K : PySem.W.Frag) (a : Addr) (xs : List V) : Prop := ∃ (o : Obj) (its : Array Value) (n : Nat), K.lookup a = some o ∧ o.cls = .type "list" ∧ o.dict = none ∧ o.data = .seq its n ∧ its.size ≤ sizeLine ∧ Vals xs its.toList
def rScr (K : PySem.W.Frag) : RepT (List Int) := RepT.ofPl (fun W H v ns => ∃ a, v = .ref a ∧ ((¬ W.M a ∧ rd H a = some (.lst (ns.map V.int))) ∨ ScrK K a (ns.map V.int)))
  fun {_ _ _ _ _ _} ag ⟨a, e, h⟩ => ⟨a, e, h.imp (fun ⟨n, h⟩ => ag a _ h n) id⟩
instance {K : PySem.W.Frag} : Plain (rScr K) := ⟨fun {_ _ _ _ _ _} ag ⟨a, e, h⟩ => ⟨a, e, h.imp (fun ⟨n, h⟩ => ag a _ h n) id⟩⟩
theorem scr_sq {K : PySem.W.Frag} {W : Wd} {H : Hp} {v : V} {ns : List Int} (h : (rScr K).r W H v ns) : ∃ a, v = .ref a ∧ SqL K H a (ns.map V.int) := by
  obtain ⟨a, e, h | h⟩ := h
  · exact ⟨a, e, sqL_of h.2⟩
  · exact ⟨a, e, .inr h⟩
section
variable {X : Cx} {Γ : ECtx} {tg iter : Expr} {p : List Int → Prop}
theorem es_scr (ha : EE X Γ iter (rScr X.K) p) : ES X Γ tg iter rI p :=
  ES.of (pi_list pe_te) fun W σ H Q hi hh f => ha.te hi hh fun u H1 xs e1 px r => by
    obtain ⟨l, e, hs⟩ := scr_sq r
    refine ⟨l, e, ⟨_, hs⟩, f _ H1 xs e1 px fun W2 H2 ag hi i => ?_⟩
    have r2 : (rScr X.K).r W2 H2 u xs := Plain.pl ag.agr r
    obtain ⟨l2, e2, hs2⟩ := scr_sq r2
    rw [e] at e2
    cases e2
    refine ⟨fun x hx => ?_, fun hx => ⟨_, hs2, by rw [List.length_map]; exact List.getElem?_eq_none_iff.mp hx⟩⟩
    have hu : (xs.map V.int)[i]? = some (.int x) := by rw [List.getElem?_map, hx]; rfl
    refine ⟨⟨_, _, hs2, hu⟩, fun v H' ⟨e, hv⟩ => ?_⟩
    subst e
    have := hv _ hs2
    rw [hu] at this; cases this
    exact ⟨Ext.refl hi, rfl⟩
theorem c_lenScr : CallE X (.builtin "len") (rScr X.K) rI C1 (fun xs n => n = (xs.length : Int)) :=
  ⟨_, call_len, fun W H xs u Q hi r _ k => by
    obtain ⟨l, e, hs⟩ := scr_sq r
    exact ⟨u, (xs.map V.int).length, rfl, by rw [e]; exact .inl ⟨_, hs, rfl⟩, k _ H _ (Ext.refl hi) rfl (by rw [List.length_map]; rfl)⟩⟩
end
/-- what _law_begin makes -/
structure Begun (W : Wd) (H0 : Hp) (v : V) (H1 : Hp) : Prop where
  ex : ∃ (d g c : Addr) (gs cs : List Int), v = .ref d ∧ H0 d = none ∧ H0 g = none ∧ H0 c = none ∧ d ≠ g ∧ c ≠ d ∧ c ≠ g ∧ H1 d = some (.dK (drawL g c 0 0)) ∧ H1 g = some (.lst (gs.map V.int)) ∧ H1 c = some (.lst (cs.map V.int)) ∧ cs.length < 1024
  ext : Ext W H0 H1
def SSq (X : Cx) (C : Ctx) (sts : List Stmt) : Prop :=
  ∀ (W : Wd) (H0 : Hp) (ow : List (Addr × HO)) (σ : L2.St) (H : Hp) (D : Ends), Holds W H0 ow H σ C → (∀ v H1, Begun W H0 v H1 → D.rt v H1) → tss X sts D σ H
section
variable {X : Cx} {C : Ctx} {iter elt : Expr} {ifs : List Expr} {scope : Scope} {rest : List Stmt} {α β : Type} {R : RepT α} {S : RepT β} {pos spos py : Pos}
theorem qq_lcO [Plain S] (v i : Nat) {y x : Str} {xp : Pos} {ps : List α → Prop} {f : α → Bool} {qe : α → β → Prop} (hc : X.calm = true) (hN : X.N.Nodup) (hi : ES X C.E (.Name x xp) iter R ps) (hz : ∀ xs, ps xs → xs.length < sizeLine)
    (ht : ∀ xs, ps xs → ∀ z ∈ xs, Blk X scope fun B => ETs B ((wipeC C.E [i]).set i (some ⟨R, z⟩)) ifs (f z))
    (he : ∀ xs, ps xs → ∀ z ∈ xs, f z = true → Blk X scope fun B => EE B ((wipeC C.E [i]).set i (some ⟨R, z⟩)) elt S (qe z))
    (k : ∀ xs ys, ps xs → Paired qe (xs.filter f) ys → SSq X ⟨C.Γ.set v (.own C.O.length), C.O ++ [.lst S ys]⟩ rest)
    (hy : X.N[v]? = some y := by rfl) (hyl : X.env.scope.names.lookup y = some .local := by rfl) (ok : blkC X.N X.env.scope scope [(x, i)] = true := by rfl) (hx : X.N[i]? = some x := by rfl) (hl : Blk X scope fun B => Loc B.env.scope x := by intro _ _ _ _ _; first | exact Or.inl rfl | exact Or.inr rfl) (hf : Blk X scope fun B => (B.fn x = true ∨ B.env.scope.names.lookup x = some .local) := by intro _ _ _ _ _; first | exact Or.inl rfl | exact Or.inr rfl)
    (hs : ∀ x, foldedSetIterable iter X.env x = pure x := by intro _; rfl) (hsw : swapsWith (.ListComp elt [⟨.Name x xp, iter, ifs, 0⟩] scope pos) (some (.Name y py)) spos.line X.env = pure true := by rfl) :
    SSq X C (.Assign [.Name y py] (.ListComp elt [⟨.Name x xp, iter, ifs, 0⟩] scope pos) spos :: rest) := by
  intro W H0 ow σ H D hh f' pins s I
  refine (pss_cons (ps_setLc (own := [(x, i)]) (tt := ttB X scope ifs) (te := teB X scope elt) hc hN hy hyl hsw pi_ti (blkOk_by ok) (fun s0 H0 Cc cl fp => pg_name hN hx (hl s0 H0 Cc cl fp) (hf s0 H0 Cc cl fp)) (fun _ _ _ _ _ => pt_ttB) (fun _ _ _ _ _ => pe_teB) hs) pss_tss).run pins s σ H D I ?_
  refine hi.ti hh.I hh.E fun J Hs xs e1 px wk => ?_
  refine lc_go (Q := fun w H' => tss X rest D (σ.set v (some w)) H') (own := [(x, i)]) (ups := fun z => [(i, ⟨R, z⟩)]) (f := f) (qe := qe) (S := S) e1.inv (hh.E.mono e1) wk (fun z => g_name) (fun z u hu => by rw [List.mem_singleton.mp hu]; exact List.mem_singleton.mpr rfl) (hz xs px) (ht xs px) (he xs px) fun Dd H1 us ys hD eH hDl pq pS => ?_
  obtain ⟨h2, ag⟩ := hh.newO (os := .lst S ys) (e1.free Dd hD) (e1.trans eH) hDl ⟨‹_›, us, rfl, pS⟩
  refine k xs ys px pq W H0 _ _ _ D (h2.setK (k := .own C.O.length) ⟨(Dd, .lst us), ?_, rfl⟩) f'
  have hl2 := hh.prO.length
  rw [← hl2]; simp
end
section
variable {P : Program} {w : World} {K : PySem.W.Frag} {mg : Str → Option Value} {base : Heap}
def SpBegin (K : PySem.W.Frag) : Sp := fun vs H Q _ => ∃ (ns : List Int) (v : V), vs = [v] ∧ ns.length < 64 ∧ (rScr K).r w0 H v ns ∧ ∀ u H1, Begun w0 H u H1 → Q u H1
theorem c_law_begin (fr : Fr mg) (D : DefOk K mg d__law_begin) (k : Nat) : C8.Cal P w K mg base (k + 1) "_law_begin" (SpBegin K) [] := by
  have S : FnScope ["script", "great", "cell"] ["script"] d__law_begin.scope := C8.fnScope_by (by decide +kernel)
  obtain ⟨f, fd, F, hm⟩ := D
  refine ⟨f, fd, ["script"], [], F.ok S (fun vs H Q E ⟨ns, v, e, _⟩ => by rw [e]; rfl) ?_, hm, F.kp, F.bindsN (fun _ _ _ _ _ _ us hl => match us, hl with | [_], _ => rfl), .nil⟩
  intro cdv A outer s H vs Q E hr ⟨ns, v, ev, hns, hv, q⟩
  subst ev
  refine ⟨tss _ d__law_begin.body, PSs.nox pss_tss, ?_⟩
  have big : (64 : Nat) < sizeLine := by decide
  have key : SSq (fx P w K mg base ["script", "great", "cell"] d__law_begin f cdv A outer s H E) (C0 ["script", "great", "cell"] [⟨rScr K, ns⟩]) d__law_begin.body := by
    have hab : ∀ {X : Cx} {Γ : ECtx} {e : Expr} {pp pos : Pos} {z : Int}, X.mg = mg → EV X Γ e rI z → Gl X "abs" → NS X e → EV X Γ (.Call (.Name "abs" pp) [e] [] pos) rI (if z < 0 then -z else z) := fun hmg he hg hn => dv_cb (id := "abs") (C := C1) (g := fun z : Int => if z < 0 then -z else z) c_abs he (by rw [hmg]; exact fr.abs) trivial (by decide +kernel) hg hn (by decide) (by decide)
    refine qq_lcO 1 2 (R := rI) (S := rI) (ps := (· = ns)) (f := fun z => decide ((10 : Int) ^ (18 : Int).toNat ≤ if z < 0 then -z else z)) (qe := fun _ _ => True) rfl S.nd (es_scr (vv 0)) (fun xs e => by rw [e]; exact Nat.lt_trans hns big) (fun xs e z hz s0 H0 Cc cl fp => ets_one (ET.is (dt_cmp o_ge (hab rfl (vv 2) (by rfl) (by intro _; rfl)) (dv_bin o_pow ee_int ee_int ⟨by decide, by decide, by decide⟩) trivial) (by rfl))) (fun xs e z hz _ s0 H0 Cc cl fp => EE.imp (dv_bin o_sub (hab rfl (vv 2) (by rfl) (by intro _; rfl)) (dv_bin o_pow ee_int ee_int ⟨by decide, by decide, by decide⟩) trivial) fun _ _ => trivial) (fun xs gs e hp => ?_)
    intro W H0 ow σ H1 D hh f' pins s1 I
    refine (pss_one (ps_ret (pe_disp (pps_cons pe_str (pe_var (i := 1) rfl (by first | exact Or.inl rfl | exact Or.inr (Or.inl rfl) | exact Or.inr (Or.inr rfl)) (by decide) (by decide)) (pps_cons pe_str pe_int (pps_cons pe_str pe_te (pps_cons pe_str pe_int pps_nil)))) rfl rfl (by simp) (by show 4 ≤ 15; decide)))).run pins s1 σ H1 D I ?_
    obtain ⟨pg, hg1, hg2, hg3, _, us, hg4, hg5⟩ := own_at (v := 1) (k := 0) hh rfl rfl
    have eus := flat_map hg5
    have hgm : pg ∈ ow := List.mem_of_getElem? hg1
    intro p hp
    have h0 : ∀ q ∈ ([(p, HO.dK [])] : List (Addr × HO)), H1 q.1 = none := fun q hq => by rw [List.mem_singleton.mp hq]; exact hp
    have en : Ext (W.adds ow) H1 (upd H1 p (.dK [])) := Ext.new hh.I hp
    have hi1 : ((W.adds ow).adds [(p, .dK [])]).I (upd H1 p (.dK [])) := adds1_I en.inv upd_same
    have hh1 := hh.E.into hh.I h0 en hi1
    refine ⟨.ref pg.1, hg2, fun pins s I => (lc_map (R := rI) (S := rI) (xs := ns) (g := fun z : Int => if z < 0 then -z else z) 2 rfl S.nd (es_scr (vv 0)) (Nat.lt_trans hns big) (fun z hz s0 H0 Cc cl fp => hab rfl (vv 2) (by rfl) (by intro _; rfl))) _ σ _ pins s _ hi1 hh1 I fun l H3 us2 cs hl e3 hd pc pr => ?_⟩
    have eus2 := flat_map pr
    have hlp : l ≠ p := fun e => by rw [e, upd_same] at hl; cases hl
    rw [upd_ne hlp] at hl
    have hp0 : H0 p = none := hh.ext.free p hp
    have hl0 : H0 l = none := hh.ext.free l hl
    have hpg : p ≠ pg.1 := fun e => by rw [← e, hp] at hg3; cases hg3
    have hlg : l ≠ pg.1 := fun e => by rw [← e, hl] at hg3; cases hg3
    have e5 : Ext W H0 H3 := Ext.weak' hh.ext hh.new (Ext.weak' en h0 e3)
    refine ⟨adds1_get e3.inv, drawL pg.1 l 0 0, rfl, by show 4 ≤ 15; decide, ?_⟩
    have em : mergeK [] (drawL pg.1 l 0 0) = drawL pg.1 l 0 0 := by rfl
    rw [em]
    refine f' _ _ ⟨⟨p, pg.1, l, gs, cs, rfl, hp0, hh.new pg hgm, hl0, hpg, hlp, hlg, upd_same, ?_, ?_, ?_⟩, e5.own hh.i0 hp0⟩
    · rw [upd_ne (Ne.symm hpg), e3.inv.1.2 pg hgm, hg4, eus]
    · rw [upd_ne hlp, hd, eus2]
    · rw [pc, List.length_map]; exact Nat.lt_trans hns (by decide)
  exact key w0 H [] (L2.start ["script", "great", "cell"] [v]) H { nx := fun _ H' => Q .non H', rt := Q } (holds_start trivial (.cons hv .nil)) q
end
end K62

end

section
set_option Elab.async false
set_option linter.all false
set_option maxRecDepth 100000
set_option maxHeartbeats 4000000
namespace K62
open PySem PySem.Spec PyProof.Rows L2
def drawW (d g c : Addr) : Wd where
  M := fun a => a = d ∨ a = g
  I := fun H => DrawH d g c H
  al := fun {H a} ⟨r, t, gs, h1, h2⟩ m e => by
    rcases m with rfl | rfl
    · rw [h1] at e; cases e
    · rw [h2] at e; cases e
  fp := fun {H H1} h ⟨r, t, gs, h1, h2⟩ => ⟨r, t, gs, by rw [h d (.inl rfl)]; exact h1, by rw [h g (.inr rfl)]; exact h2⟩
theorem SS.nx {β : Type} {X : Cx} {C : Ctx} {sts : List Stmt} {nx nx' : Ctx → Prop} {R : RepT β} {p : β → Prop} (h : SS X C sts nx R p) (k : ∀ C, nx C → nx' C) : SS X C sts nx' R p := fun W H0 ow σ H pins s D hh I f => h W H0 ow σ H pins s D hh I ⟨fun C' ow' σ' H' n h a => f.n C' ow' σ' H' (k C' n) h a, f.r⟩
section
variable {P : Program} {w : World} {K : PySem.W.Frag} {mg : Str → Option Value} {base : Heap} {Cn : Addr}
def SpLaw (K : PySem.W.Frag) : Sp := fun vs H Q _ => ∃ (a : Addr) (ns : List Int), vs = [.ref a] ∧ ns.length ≤ 63 ∧ SqL K H a (ns.map V.int) ∧ ∀ H', Q (.bl true) H'
theorem ok_law (fr : Fr mg) {f : Addr} {fd : FuncData} (F : FunD K d_law.name d_law.qual d_law.params d_law.body d_law.scope [] [] f fd) (k : Nat) (c : LawC P w K mg base Cn k) (cB : C8.Cal P w K mg base (k + 1) "_law_begin" (SpBegin K) []) : FnOk P w K mg base C8.CX0 (k + 8) f fd ["script"] (SpLaw K) := by
  have S : FnScope NLaw ["script"] d_law.scope := C8.fnScope_by (by decide +kernel)
  refine F.ok S (fun vs H Q E ⟨a, ns, e, _⟩ => by rw [e]; rfl) ?_
  intro cdv A outer s H vs Q E hr ⟨a, ns, ev, hns, hsq, q⟩
  subst ev
  refine ⟨tss _ d_law.body, PSs.nox pss_tss, ?_⟩
  have big : (64 : Nat) < sizeLine := by decide
  have hscr : (rScr K).r w0 H (.ref a) ns := by
    refine ⟨a, rfl, ?_⟩
    rcases hsq with h | h
    · left
      refine ⟨fun z => z, ?_⟩
      rcases h with h | ⟨o, h⟩
      · exact rd_of h
      · unfold rd; rw [h]; rfl
    · exact .inr h
  have rest : ∀ (hr : Room (k + 7) (LawX P w K mg base f cdv A outer s H E).A), SS (LawX P w K mg base f cdv A outer s H E) ⟨[.base ⟨rScr K, ns⟩, .base ⟨rDraw, ()⟩, .non, .non, .non, .non, .non, .non, .non, .non, .non, .non, .non, .non, .non, .non, .non], []⟩ (d_law.body.drop 1) (fun _ => False) rB (fun b => b = true) := fun hr => by
    refine sq_for1 2 (R := rNat) (inv := fun xs i C' => C' = ⟨[.base ⟨rScr K, ns⟩, .base ⟨rDraw, ()⟩, .non, .non, .non, .non, .non, .non, .non, .non, .non, .non, .non, .non, .non, .non, .non], []⟩) rfl PassesOwn.never S.nd (es_range (pn := fun n => n ≤ 13) (ee_bin o_add ee_int (c_min2 (r := fun z : Int => 0 ≤ z ∧ z ≤ 10) rfl (ee_cb (q := fun z : Int => z = (ns.length : Int)) c_lenScr (vv 0) (fun x px => ⟨trivial, fun y hy => by rw [hy, px]⟩) fr.len (by decide +kernel)) ee_int ?_ fr.min) ?_) fr.range) (fun xs e => rfl) (fun xs i x C' e hx e2 => ?_) (fun xs C' e e2 => ?_)
    · rintro x y rfl rfl
      split <;> omega
    · rintro x y rfl hy
      exact ⟨trivial, (3 + y).toNat, by omega, by omega, Nat.lt_of_le_of_lt (show _ ≤ 13 by omega) (by decide)⟩
    · subst e2
      exact SS.nx (sq_lawBody fr k c S hr _ _) fun C2 h2 => ⟨_, rfl, h2⟩
    · subst e2
      exact sq_ret' ee_bl (by intro y hy; exact hy)
  intro pins s1 I
  refine (pss_cons (ps_set (i := 1) S.nd rfl (by first | exact Or.inl rfl | exact Or.inr rfl) (C8.pe_c cB hr (by omega) (by rfl) (pa_cons (pe_var (i := 0) rfl (by first | exact Or.inl rfl | exact Or.inr (Or.inl rfl) | exact Or.inr (Or.inr rfl)) (by decide) (by decide)) pa_nil)) (by rfl) (.inl rfl)) pss_tss).run pins s1 (L2.start NLaw [.ref a]) H _ I ?_
  refine ⟨.ref a, rfl, ?_⟩
  refine ⟨ns, .ref a, rfl, by omega, hscr, fun u H1 hB => ?_⟩
  obtain ⟨⟨d, g, c0, gs, cs, rfl, hd0, hg0, hc0, hdg, hcd, hcg, hd, hg, hcc, hfew⟩, ext⟩ := hB
  have hI : (drawW d g c0).I H1 := ⟨0, 0, gs, hd, hg⟩
  have ag : Agr w0 H (drawW d g c0) H1 := fun b o hb _ => ⟨fun m => by
    rcases m with rfl | rfl
    · exact rd_some hb hd0
    · exact rd_some hb hg0, (ext.agr b o hb (fun z => z)).2⟩
  have hdr : DrawIn (drawW d g c0) H1 d g c0 cs := ⟨.inl rfl, .inr rfl, hdg, fun H' h => h, fun _ _ _ h _ => h, fun m => m.elim hcd hcg, rd_l hcc, hfew⟩
  have h1 : Holds (drawW d g c0) H1 [] H1 (L2.start NLaw [.ref a]) (C0 NLaw [⟨rScr K, ns⟩]) := holds_start hI (.cons (Plain.pl ag hscr) .nil)
  have h2 := h1.setK (i := 1) (v := .ref d) (k := .base ⟨rDraw, ()⟩) ⟨_, rfl, d, g, c0, cs, rfl, hdr⟩
  exact (rest hr).tss h2 ⟨fun _ _ _ _ n => n.elim, fun v H2 y e py r => by
    have py : y = true := py
    subst py
    cases r
    exact q H2⟩
end
end K62

end

section
set_option Elab.async false
set_option linter.all false
set_option maxRecDepth 100000
set_option maxHeartbeats 4000000
namespace K62
open PySem PySem.Spec PyProof.Rows L2
section
variable {P : Program} {w : World} {K : PySem.W.Frag} {h : Heap} {mg : Str → Option Value} {base : Heap}
abbrev CnA (K : PySem.W.Frag) : Addr := He.ga K "Net"
theorem h_fr (X : K.In h) (G : h.Ns mainGlobals mg) (c : He.SaysX fa fn [] [] insB w h K) : Fr mg where
  isi := He.free_ok X G (c.t.d.fact 55 (f := .free "isinstance") rfl)
  int := He.free_ok X G (c.t.d.fact 56 (f := .free "int") rfl)
  bool := He.free_ok X G (c.t.d.fact 57 (f := .free "bool") rfl)
  list := He.free_ok X G (c.t.d.fact 58 (f := .free "list") rfl)
  tuple := He.free_ok X G (c.t.d.fact 59 (f := .free "tuple") rfl)
  str := He.free_ok X G (c.t.d.fact 60 (f := .free "str") rfl)
  len := He.free_ok X G (c.t.d.fact 61 (f := .free "len") rfl)
  all := He.free_ok X G (c.t.d.fact 62 (f := .free "all") rfl)
  any := He.free_ok X G (c.t.d.fact 63 (f := .free "any") rfl)
  dict := He.free_ok X G (c.t.d.fact 64 (f := .free "dict") rfl)
  sorted := He.free_ok X G (c.t.d.fact 65 (f := .free "sorted") rfl)
  min := He.free_ok X G (c.t.d.fact 66 (f := .free "min") rfl)
  set := He.free_ok X G (c.t.d.fact 67 (f := .free "set") rfl)
  range := He.free_ok X G (c.t.d.fact 68 (f := .free "range") rfl)
  zip := He.free_ok X G (c.t.d.fact 69 (f := .free "zip") rfl)
  enumerate := He.free_ok X G (c.t.d.fact 70 (f := .free "enumerate") rfl)
  abs := He.free_ok X G (c.t.d.fact 71 (f := .free "abs") rfl)
  longest := He.int_ok X G (c.t.d.fact 72 (f := .int "LONGEST" 6) rfl)
  mgoals := He.int_ok X G (c.t.d.fact 73 (f := .int "MOST_GOALS" 2) rfl)
  mnodes := He.int_ok X G (c.t.d.fact 74 (f := .int "MOST_NODES" 6) rfl)
  mposts := He.int_ok X G (c.t.d.fact 75 (f := .int "MOST_POSTS" 2) rfl)
  msights := He.int_ok X G (c.t.d.fact 76 (f := .int "MOST_SIGHTS" 12) rfl)
  letters := He.str_ok X G (c.t.d.fact 77 (f := .str "LETTERS" "abcdefghijklmnopqrstuvwxyz") rfl)
theorem h_net (X : K.In h) (G : h.Ns mainGlobals mg) (c : He.SaysX fa fn [] [] insB w h K) : NetF K mg (CnA K) where
  cls := He.cls_ok (c.t.d.fact 78 (f := .cls "Net") rfl)
  ins := by
    have m := c.more
    unfold insB at m
    obtain ⟨m1, m⟩ := Bool.and_eq_true_iff.mp m
    obtain ⟨m2, m⟩ := Bool.and_eq_true_iff.mp m
    obtain ⟨m3, m⟩ := Bool.and_eq_true_iff.mp m
    obtain ⟨m4, m5⟩ := Bool.and_eq_true_iff.mp m
    exact ⟨He.cls_ok (c.t.d.fact 78 (f := .cls "Net") rfl), He.eqO_ok m1, He.eqO_ok m2, of_decide_eq_true m3, of_decide_eq_true m4, of_decide_eq_true m5⟩
  mgN := He.glo_ok X G (c.t.d.fact 54 (f := .glo "Net") rfl)
  kp := (He.mkr_ok (c.t.d.fact 86 (f := .mkr "Net") rfl)).kp
  tb := He.noat_ok (c.t.d.fact 79 (f := .noat "Net" "own_tables") rfl)
  go := He.noat_ok (c.t.d.fact 80 (f := .noat "Net" "own_goals") rfl)
  no := He.noat_ok (c.t.d.fact 81 (f := .noat "Net" "own_nodes") rfl)
  ch := He.noat_ok (c.t.d.fact 84 (f := .noat "Net" "own_changing") rfl)
  so := He.noat_ok (c.t.d.fact 82 (f := .noat "Net" "own_sources") rfl)
  po := He.noat_ok (c.t.d.fact 83 (f := .noat "Net" "own_posts") rfl)
theorem h_met (X : K.In h) (G : h.Ns mainGlobals mg) (c : He.SaysX fa fn [] [] insB w h K) : MetOk K (CnA K) d_does_change := by
  obtain ⟨fd, F⟩ := c.t.d.def_ 55 (d := d_does_change) rfl
  exact ⟨_, fd, F, He.meth_ok (c.t.d.fact 85 (f := .meth "Net" "does_change") rfl)⟩
theorem h_ini (X : K.In h) (G : h.Ns mainGlobals mg) (c : He.SaysX fa fn [] [] insB w h K) : IniOk K (CnA K) d_init := by
  obtain ⟨fd, F⟩ := c.t.d.def_ 54 (d := d_init) rfl
  exact ⟨_, fd, _, rfl, F, He.mkr_ok (c.t.d.fact 86 (f := .mkr "Net") rfl)⟩
theorem h_is_number (X : K.In h) (G : h.Ns mainGlobals mg) (c : He.SaysX fa fn [] [] insB w h K) : DefOk K mg d_is_number := by
  obtain ⟨fd, F⟩ := c.t.d.def_ 0 (d := d_is_number) rfl
  exact ⟨_, fd, F, He.glo_ok X G (c.t.d.fact 0 (f := .glo "is_number") rfl)⟩
theorem h_is_list (X : K.In h) (G : h.Ns mainGlobals mg) (c : He.SaysX fa fn [] [] insB w h K) : DefOk K mg d_is_list := by
  obtain ⟨fd, F⟩ := c.t.d.def_ 1 (d := d_is_list) rfl
  exact ⟨_, fd, F, He.glo_ok X G (c.t.d.fact 1 (f := .glo "is_list") rfl)⟩
theorem h_is_name (X : K.In h) (G : h.Ns mainGlobals mg) (c : He.SaysX fa fn [] [] insB w h K) : DefOk K mg d_is_name := by
  obtain ⟨fd, F⟩ := c.t.d.def_ 2 (d := d_is_name) rfl
  exact ⟨_, fd, F, He.glo_ok X G (c.t.d.fact 2 (f := .glo "is_name") rfl)⟩
theorem h_are_names (X : K.In h) (G : h.Ns mainGlobals mg) (c : He.SaysX fa fn [] [] insB w h K) : DefOk K mg d_are_names := by
  obtain ⟨fd, F⟩ := c.t.d.def_ 3 (d := d_are_names) rfl
  exact ⟨_, fd, F, He.glo_ok X G (c.t.d.fact 3 (f := .glo "are_names") rfl)⟩
theorem h_is_place (X : K.In h) (G : h.Ns mainGlobals mg) (c : He.SaysX fa fn [] [] insB w h K) : DefOk K mg d_is_place := by
  obtain ⟨fd, F⟩ := c.t.d.def_ 4 (d := d_is_place) rfl
  exact ⟨_, fd, F, He.glo_ok X G (c.t.d.fact 4 (f := .glo "is_place") rfl)⟩
theorem h_is_table (X : K.In h) (G : h.Ns mainGlobals mg) (c : He.SaysX fa fn [] [] insB w h K) : DefOk K mg d_is_table := by
  obtain ⟨fd, F⟩ := c.t.d.def_ 5 (d := d_is_table) rfl
  exact ⟨_, fd, F, He.glo_ok X G (c.t.d.fact 5 (f := .glo "is_table") rfl)⟩
theorem h_nodes_of (X : K.In h) (G : h.Ns mainGlobals mg) (c : He.SaysX fa fn [] [] insB w h K) : DefOk K mg d_nodes_of := by
  obtain ⟨fd, F⟩ := c.t.d.def_ 6 (d := d_nodes_of) rfl
  exact ⟨_, fd, F, He.glo_ok X G (c.t.d.fact 6 (f := .glo "nodes_of") rfl)⟩
theorem h_are_tables (X : K.In h) (G : h.Ns mainGlobals mg) (c : He.SaysX fa fn [] [] insB w h K) : DefOk K mg d_are_tables := by
  obtain ⟨fd, F⟩ := c.t.d.def_ 7 (d := d_are_tables) rfl
  exact ⟨_, fd, F, He.glo_ok X G (c.t.d.fact 7 (f := .glo "are_tables") rfl)⟩
theorem h_are_nodes (X : K.In h) (G : h.Ns mainGlobals mg) (c : He.SaysX fa fn [] [] insB w h K) : DefOk K mg d_are_nodes := by
  obtain ⟨fd, F⟩ := c.t.d.def_ 8 (d := d_are_nodes) rfl
  exact ⟨_, fd, F, He.glo_ok X G (c.t.d.fact 8 (f := .glo "are_nodes") rfl)⟩
theorem h_ordered (X : K.In h) (G : h.Ns mainGlobals mg) (c : He.SaysX fa fn [] [] insB w h K) : DefOk K mg d_ordered := by
  obtain ⟨fd, F⟩ := c.t.d.def_ 9 (d := d_ordered) rfl
  exact ⟨_, fd, F, He.glo_ok X G (c.t.d.fact 9 (f := .glo "ordered") rfl)⟩
theorem h_need_net (X : K.In h) (G : h.Ns mainGlobals mg) (c : He.SaysX fa fn [] [] insB w h K) : DefOk K mg d_need_net := by
  obtain ⟨fd, F⟩ := c.t.d.def_ 10 (d := d_need_net) rfl
  exact ⟨_, fd, F, He.glo_ok X G (c.t.d.fact 10 (f := .glo "need_net") rfl)⟩
theorem h_need_goal (X : K.In h) (G : h.Ns mainGlobals mg) (c : He.SaysX fa fn [] [] insB w h K) : DefOk K mg d_need_goal := by
  obtain ⟨fd, F⟩ := c.t.d.def_ 11 (d := d_need_goal) rfl
  exact ⟨_, fd, F, He.glo_ok X G (c.t.d.fact 11 (f := .glo "need_goal") rfl)⟩
theorem h_is_lot (X : K.In h) (G : h.Ns mainGlobals mg) (c : He.SaysX fa fn [] [] insB w h K) : DefOk K mg d_is_lot := by
  obtain ⟨fd, F⟩ := c.t.d.def_ 12 (d := d_is_lot) rfl
  exact ⟨_, fd, F, He.glo_ok X G (c.t.d.fact 12 (f := .glo "is_lot") rfl)⟩
theorem h_need_done (X : K.In h) (G : h.Ns mainGlobals mg) (c : He.SaysX fa fn [] [] insB w h K) : DefOk K mg d_need_done := by
  obtain ⟨fd, F⟩ := c.t.d.def_ 13 (d := d_need_done) rfl
  exact ⟨_, fd, F, He.glo_ok X G (c.t.d.fact 13 (f := .glo "need_done") rfl)⟩
theorem h_need_round (X : K.In h) (G : h.Ns mainGlobals mg) (c : He.SaysX fa fn [] [] insB w h K) : DefOk K mg d_need_round := by
  obtain ⟨fd, F⟩ := c.t.d.def_ 14 (d := d_need_round) rfl
  exact ⟨_, fd, F, He.glo_ok X G (c.t.d.fact 14 (f := .glo "need_round") rfl)⟩
theorem h_mixture (X : K.In h) (G : h.Ns mainGlobals mg) (c : He.SaysX fa fn [] [] insB w h K) : DefOk K mg d_mixture := by
  obtain ⟨fd, F⟩ := c.t.d.def_ 15 (d := d_mixture) rfl
  exact ⟨_, fd, F, He.glo_ok X G (c.t.d.fact 15 (f := .glo "mixture") rfl)⟩
theorem h_ways (X : K.In h) (G : h.Ns mainGlobals mg) (c : He.SaysX fa fn [] [] insB w h K) : DefOk K mg d_ways := by
  obtain ⟨fd, F⟩ := c.t.d.def_ 16 (d := d_ways) rfl
  exact ⟨_, fd, F, He.glo_ok X G (c.t.d.fact 16 (f := .glo "ways") rfl)⟩
theorem h_parts_of (X : K.In h) (G : h.Ns mainGlobals mg) (c : He.SaysX fa fn [] [] insB w h K) : DefOk K mg d_parts_of := by
  obtain ⟨fd, F⟩ := c.t.d.def_ 17 (d := d_parts_of) rfl
  exact ⟨_, fd, F, He.glo_ok X G (c.t.d.fact 17 (f := .glo "parts_of") rfl)⟩
theorem h_need_plan (X : K.In h) (G : h.Ns mainGlobals mg) (c : He.SaysX fa fn [] [] insB w h K) : DefOk K mg d_need_plan := by
  obtain ⟨fd, F⟩ := c.t.d.def_ 18 (d := d_need_plan) rfl
  exact ⟨_, fd, F, He.glo_ok X G (c.t.d.fact 18 (f := .glo "need_plan") rfl)⟩
theorem h_done_at (X : K.In h) (G : h.Ns mainGlobals mg) (c : He.SaysX fa fn [] [] insB w h K) : DefOk K mg d_done_at := by
  obtain ⟨fd, F⟩ := c.t.d.def_ 19 (d := d_done_at) rfl
  exact ⟨_, fd, F, He.glo_ok X G (c.t.d.fact 19 (f := .glo "done_at") rfl)⟩
theorem h_round_at (X : K.In h) (G : h.Ns mainGlobals mg) (c : He.SaysX fa fn [] [] insB w h K) : DefOk K mg d_round_at := by
  obtain ⟨fd, F⟩ := c.t.d.def_ 20 (d := d_round_at) rfl
  exact ⟨_, fd, F, He.glo_ok X G (c.t.d.fact 20 (f := .glo "round_at") rfl)⟩
theorem h_is_sight (X : K.In h) (G : h.Ns mainGlobals mg) (c : He.SaysX fa fn [] [] insB w h K) : DefOk K mg d_is_sight := by
  obtain ⟨fd, F⟩ := c.t.d.def_ 21 (d := d_is_sight) rfl
  exact ⟨_, fd, F, He.glo_ok X G (c.t.d.fact 21 (f := .glo "is_sight") rfl)⟩
theorem h_need_sights (X : K.In h) (G : h.Ns mainGlobals mg) (c : He.SaysX fa fn [] [] insB w h K) : DefOk K mg d_need_sights := by
  obtain ⟨fd, F⟩ := c.t.d.def_ 22 (d := d_need_sights) rfl
  exact ⟨_, fd, F, He.glo_ok X G (c.t.d.fact 22 (f := .glo "need_sights") rfl)⟩
theorem h_need_all (X : K.In h) (G : h.Ns mainGlobals mg) (c : He.SaysX fa fn [] [] insB w h K) : DefOk K mg d_need_all := by
  obtain ⟨fd, F⟩ := c.t.d.def_ 23 (d := d_need_all) rfl
  exact ⟨_, fd, F, He.glo_ok X G (c.t.d.fact 23 (f := .glo "need_all") rfl)⟩
theorem h_is_new (X : K.In h) (G : h.Ns mainGlobals mg) (c : He.SaysX fa fn [] [] insB w h K) : DefOk K mg d_is_new := by
  obtain ⟨fd, F⟩ := c.t.d.def_ 24 (d := d_is_new) rfl
  exact ⟨_, fd, F, He.glo_ok X G (c.t.d.fact 24 (f := .glo "is_new") rfl)⟩
theorem h_agrees (X : K.In h) (G : h.Ns mainGlobals mg) (c : He.SaysX fa fn [] [] insB w h K) : DefOk K mg d_agrees := by
  obtain ⟨fd, F⟩ := c.t.d.def_ 25 (d := d_agrees) rfl
  exact ⟨_, fd, F, He.glo_ok X G (c.t.d.fact 25 (f := .glo "agrees") rfl)⟩
theorem h_follows (X : K.In h) (G : h.Ns mainGlobals mg) (c : He.SaysX fa fn [] [] insB w h K) : DefOk K mg d_follows := by
  obtain ⟨fd, F⟩ := c.t.d.def_ 26 (d := d_follows) rfl
  exact ⟨_, fd, F, He.glo_ok X G (c.t.d.fact 26 (f := .glo "follows") rfl)⟩
theorem h_all_pairs (X : K.In h) (G : h.Ns mainGlobals mg) (c : He.SaysX fa fn [] [] insB w h K) : DefOk K mg d_all_pairs := by
  obtain ⟨fd, F⟩ := c.t.d.def_ 27 (d := d_all_pairs) rfl
  exact ⟨_, fd, F, He.glo_ok X G (c.t.d.fact 27 (f := .glo "all_pairs") rfl)⟩
theorem h_rows_of (X : K.In h) (G : h.Ns mainGlobals mg) (c : He.SaysX fa fn [] [] insB w h K) : DefOk K mg d_rows_of := by
  obtain ⟨fd, F⟩ := c.t.d.def_ 28 (d := d_rows_of) rfl
  exact ⟨_, fd, F, He.glo_ok X G (c.t.d.fact 28 (f := .glo "rows_of") rfl)⟩
theorem h_is_pair (X : K.In h) (G : h.Ns mainGlobals mg) (c : He.SaysX fa fn [] [] insB w h K) : DefOk K mg d_is_pair := by
  obtain ⟨fd, F⟩ := c.t.d.def_ 29 (d := d_is_pair) rfl
  exact ⟨_, fd, F, He.glo_ok X G (c.t.d.fact 29 (f := .glo "is_pair") rfl)⟩
theorem h_is_story (X : K.In h) (G : h.Ns mainGlobals mg) (c : He.SaysX fa fn [] [] insB w h K) : DefOk K mg d_is_story := by
  obtain ⟨fd, F⟩ := c.t.d.def_ 30 (d := d_is_story) rfl
  exact ⟨_, fd, F, He.glo_ok X G (c.t.d.fact 30 (f := .glo "is_story") rfl)⟩
theorem h_story (X : K.In h) (G : h.Ns mainGlobals mg) (c : He.SaysX fa fn [] [] insB w h K) : DefOk K mg d_story := by
  obtain ⟨fd, F⟩ := c.t.d.def_ 31 (d := d_story) rfl
  exact ⟨_, fd, F, He.glo_ok X G (c.t.d.fact 31 (f := .glo "story") rfl)⟩
theorem h_stages (X : K.In h) (G : h.Ns mainGlobals mg) (c : He.SaysX fa fn [] [] insB w h K) : DefOk K mg d_stages := by
  obtain ⟨fd, F⟩ := c.t.d.def_ 32 (d := d_stages) rfl
  exact ⟨_, fd, F, He.glo_ok X G (c.t.d.fact 32 (f := .glo "stages") rfl)⟩
theorem h_known (X : K.In h) (G : h.Ns mainGlobals mg) (c : He.SaysX fa fn [] [] insB w h K) : DefOk K mg d_known := by
  obtain ⟨fd, F⟩ := c.t.d.def_ 33 (d := d_known) rfl
  exact ⟨_, fd, F, He.glo_ok X G (c.t.d.fact 33 (f := .glo "known") rfl)⟩
theorem h_clash (X : K.In h) (G : h.Ns mainGlobals mg) (c : He.SaysX fa fn [] [] insB w h K) : DefOk K mg d_clash := by
  obtain ⟨fd, F⟩ := c.t.d.def_ 34 (d := d_clash) rfl
  exact ⟨_, fd, F, He.glo_ok X G (c.t.d.fact 34 (f := .glo "clash") rfl)⟩
theorem h__law_begin (X : K.In h) (G : h.Ns mainGlobals mg) (c : He.SaysX fa fn [] [] insB w h K) : DefOk K mg d__law_begin := by
  obtain ⟨fd, F⟩ := c.t.d.def_ 35 (d := d__law_begin) rfl
  exact ⟨_, fd, F, He.glo_ok X G (c.t.d.fact 35 (f := .glo "_law_begin") rfl)⟩
theorem h__law_blend (X : K.In h) (G : h.Ns mainGlobals mg) (c : He.SaysX fa fn [] [] insB w h K) : DefOk K mg d__law_blend := by
  obtain ⟨fd, F⟩ := c.t.d.def_ 36 (d := d__law_blend) rfl
  exact ⟨_, fd, F, He.glo_ok X G (c.t.d.fact 36 (f := .glo "_law_blend") rfl)⟩
theorem h__law_pick (X : K.In h) (G : h.Ns mainGlobals mg) (c : He.SaysX fa fn [] [] insB w h K) : DefOk K mg d__law_pick := by
  obtain ⟨fd, F⟩ := c.t.d.def_ 37 (d := d__law_pick) rfl
  exact ⟨_, fd, F, He.glo_ok X G (c.t.d.fact 37 (f := .glo "_law_pick") rfl)⟩
theorem h__law_mixed (X : K.In h) (G : h.Ns mainGlobals mg) (c : He.SaysX fa fn [] [] insB w h K) : DefOk K mg d__law_mixed := by
  obtain ⟨fd, F⟩ := c.t.d.def_ 38 (d := d__law_mixed) rfl
  exact ⟨_, fd, F, He.glo_ok X G (c.t.d.fact 38 (f := .glo "_law_mixed") rfl)⟩
theorem h__law_take (X : K.In h) (G : h.Ns mainGlobals mg) (c : He.SaysX fa fn [] [] insB w h K) : DefOk K mg d__law_take := by
  obtain ⟨fd, F⟩ := c.t.d.def_ 39 (d := d__law_take) rfl
  exact ⟨_, fd, F, He.glo_ok X G (c.t.d.fact 39 (f := .glo "_law_take") rfl)⟩
theorem h__law_words (X : K.In h) (G : h.Ns mainGlobals mg) (c : He.SaysX fa fn [] [] insB w h K) : DefOk K mg d__law_words := by
  obtain ⟨fd, F⟩ := c.t.d.def_ 40 (d := d__law_words) rfl
  exact ⟨_, fd, F, He.glo_ok X G (c.t.d.fact 40 (f := .glo "_law_words") rfl)⟩
theorem h__law_tree (X : K.In h) (G : h.Ns mainGlobals mg) (c : He.SaysX fa fn [] [] insB w h K) : DefOk K mg d__law_tree := by
  obtain ⟨fd, F⟩ := c.t.d.def_ 41 (d := d__law_tree) rfl
  exact ⟨_, fd, F, He.glo_ok X G (c.t.d.fact 41 (f := .glo "_law_tree") rfl)⟩
theorem h__law_path (X : K.In h) (G : h.Ns mainGlobals mg) (c : He.SaysX fa fn [] [] insB w h K) : DefOk K mg d__law_path := by
  obtain ⟨fd, F⟩ := c.t.d.def_ 42 (d := d__law_path) rfl
  exact ⟨_, fd, F, He.glo_ok X G (c.t.d.fact 42 (f := .glo "_law_path") rfl)⟩
theorem h__law_wild (X : K.In h) (G : h.Ns mainGlobals mg) (c : He.SaysX fa fn [] [] insB w h K) : DefOk K mg d__law_wild := by
  obtain ⟨fd, F⟩ := c.t.d.def_ 43 (d := d__law_wild) rfl
  exact ⟨_, fd, F, He.glo_ok X G (c.t.d.fact 43 (f := .glo "_law_wild") rfl)⟩
theorem h__law_near (X : K.In h) (G : h.Ns mainGlobals mg) (c : He.SaysX fa fn [] [] insB w h K) : DefOk K mg d__law_near := by
  obtain ⟨fd, F⟩ := c.t.d.def_ 44 (d := d__law_near) rfl
  exact ⟨_, fd, F, He.glo_ok X G (c.t.d.fact 44 (f := .glo "_law_near") rfl)⟩
theorem h__law_pair (X : K.In h) (G : h.Ns mainGlobals mg) (c : He.SaysX fa fn [] [] insB w h K) : DefOk K mg d__law_pair := by
  obtain ⟨fd, F⟩ := c.t.d.def_ 45 (d := d__law_pair) rfl
  exact ⟨_, fd, F, He.glo_ok X G (c.t.d.fact 45 (f := .glo "_law_pair") rfl)⟩
theorem h__law_model (X : K.In h) (G : h.Ns mainGlobals mg) (c : He.SaysX fa fn [] [] insB w h K) : DefOk K mg d__law_model := by
  obtain ⟨fd, F⟩ := c.t.d.def_ 46 (d := d__law_model) rfl
  exact ⟨_, fd, F, He.glo_ok X G (c.t.d.fact 46 (f := .glo "_law_model") rfl)⟩
theorem h__law_net (X : K.In h) (G : h.Ns mainGlobals mg) (c : He.SaysX fa fn [] [] insB w h K) : DefOk K mg d__law_net := by
  obtain ⟨fd, F⟩ := c.t.d.def_ 47 (d := d__law_net) rfl
  exact ⟨_, fd, F, He.glo_ok X G (c.t.d.fact 47 (f := .glo "_law_net") rfl)⟩
theorem h__law_moving_dots (X : K.In h) (G : h.Ns mainGlobals mg) (c : He.SaysX fa fn [] [] insB w h K) : DefOk K mg d__law_moving_dots := by
  obtain ⟨fd, F⟩ := c.t.d.def_ 48 (d := d__law_moving_dots) rfl
  exact ⟨_, fd, F, He.glo_ok X G (c.t.d.fact 48 (f := .glo "_law_moving_dots") rfl)⟩
theorem h__law_plan (X : K.In h) (G : h.Ns mainGlobals mg) (c : He.SaysX fa fn [] [] insB w h K) : DefOk K mg d__law_plan := by
  obtain ⟨fd, F⟩ := c.t.d.def_ 49 (d := d__law_plan) rfl
  exact ⟨_, fd, F, He.glo_ok X G (c.t.d.fact 49 (f := .glo "_law_plan") rfl)⟩
theorem h__law_done_in (X : K.In h) (G : h.Ns mainGlobals mg) (c : He.SaysX fa fn [] [] insB w h K) : DefOk K mg d__law_done_in := by
  obtain ⟨fd, F⟩ := c.t.d.def_ 50 (d := d__law_done_in) rfl
  exact ⟨_, fd, F, He.glo_ok X G (c.t.d.fact 50 (f := .glo "_law_done_in") rfl)⟩
theorem h__law_hop (X : K.In h) (G : h.Ns mainGlobals mg) (c : He.SaysX fa fn [] [] insB w h K) : DefOk K mg d__law_hop := by
  obtain ⟨fd, F⟩ := c.t.d.def_ 51 (d := d__law_hop) rfl
  exact ⟨_, fd, F, He.glo_ok X G (c.t.d.fact 51 (f := .glo "_law_hop") rfl)⟩
theorem h__law_moved (X : K.In h) (G : h.Ns mainGlobals mg) (c : He.SaysX fa fn [] [] insB w h K) : DefOk K mg d__law_moved := by
  obtain ⟨fd, F⟩ := c.t.d.def_ 52 (d := d__law_moved) rfl
  exact ⟨_, fd, F, He.glo_ok X G (c.t.d.fact 52 (f := .glo "_law_moved") rfl)⟩
theorem h_lawC (X : K.In h) (G : h.Ns mainGlobals mg) (c : He.SaysX fa fn [] [] insB w h K) : LawC P w K mg base (CnA K) 0 ∧ C8.Cal P w K mg base 1 "_law_begin" (SpBegin K) [] := by
  have fr := h_fr X G c
  have nf := h_net X G c
  have is_number := c_is_number (P := P) (w := w) (base := base) fr (h_is_number X G c) 0
  have is_listS := c_is_list (P := P) (w := w) (base := base) rS fr (h_is_list X G c) 0
  have is_listT := c_is_list (P := P) (w := w) (base := base) (rT rS) fr (h_is_list X G c) 0
  have is_listG := c_is_list (P := P) (w := w) (base := base) rSight fr (h_is_list X G c) 0
  have is_listP := c_is_list (P := P) (w := w) (base := base) rPr fr (h_is_list X G c) 0
  have is_name := c_is_name (P := P) (w := w) (base := base) fr (h_is_name X G c) 0
  have names1 := c_are_names rO fr (h_are_names X G c) 0 is_name
  have names2 := c_are_names (rP rTab rTab) fr (h_are_names X G c) 0 is_name
  have is_place := c_is_place (P := P) (w := w) (base := base) fr (h_is_place X G c) 0
  have is_table := c_is_table fr (h_is_table X G c) 0 is_place
  have nodes_of := c_nodes_of fr (h_nodes_of X G c) 0 names1
  have are_tables := c_are_tables fr (h_are_tables X G c) 0 names2 nodes_of is_table
  have are_nodes := c_are_nodes fr (h_are_nodes X G c) 0 is_listS
  have follows := c_follows (P := P) (w := w) (base := base) fr (h_follows X G c) 0
  have parts_of := c_parts_of (P := P) (w := w) (base := base) fr (h_parts_of X G c) 0
  have done_at := c_done_at (P := P) (w := w) (base := base) fr (h_done_at X G c) 0
  have round_at := c_round_at (P := P) (w := w) (base := base) fr (h_round_at X G c) 0
  have is_new := c_is_new fr (h_is_new X G c) 0 done_at
  have agrees := c_agrees fr nf (h_agrees X G c) 0 is_new
  have need_net := c_need_net (P := P) (w := w) (base := base) fr nf (h_need_net X G c) 0
  have need_goal := c_need_goal (P := P) (w := w) (base := base) fr nf (h_need_goal X G c) 0
  have is_lot := c_is_lot (P := P) (w := w) (base := base) fr nf (h_is_lot X G c) 0
  have need_done := c_need_done (h_need_done X G c) 0 is_lot
  have need_round := c_need_round fr (h_need_round X G c) 0 is_lot need_net need_done
  have mixture := c_mixture (P := P) (w := w) (base := base) fr nf (h_mixture X G c) 0
  have ways := c_ways (h_ways X G c) 0 need_round need_goal mixture
  have need_plan := c_need_plan fr (h_need_plan X G c) 0 is_listT is_lot
  have is_sight := c_is_sight (P := P) (w := w) (base := base) fr nf (h_is_sight X G c) 0
  have need_sights := c_need_sights fr (h_need_sights X G c) 0 is_listG is_sight
  have need_all := c_need_all (h_need_all X G c) 0 need_net need_plan need_sights
  have all_pairs := c_all_pairs fr (h_all_pairs X G c) 0 round_at parts_of
  have rows_of := c_rows_of fr (h_rows_of X G c) 0 all_pairs agrees follows
  have is_pair := c_is_pair fr (h_is_pair X G c) 0 is_number round_at parts_of
  have is_story := c_is_story fr (h_is_story X G c) 0 need_all is_listP is_pair agrees follows
  have story := c_story fr (h_story X G c) 0 need_all rows_of follows
  have stages := c_stages fr (h_stages X G c) 0 need_all rows_of
  have known := c_known fr (h_known X G c) 0 need_all rows_of is_new
  have clash := c_clash fr (h_clash X G c) 0 need_all rows_of
  have blend := c_law_blend (P := P) (w := w) (base := base) fr (h__law_blend X G c) 0
  have take := c_law_take fr (h__law_take X G c) 0 blend
  have pickOS := c_law_pick (rOL rS) rS fr (h__law_pick X G c) 0 take
  have pickO := c_law_pick (rL rO) rO fr (h__law_pick X G c) 0 take
  have pickL := c_law_pick (rL rS) rS fr (h__law_pick X G c) 0 take
  have pickI := c_law_pick (rL rI) rI fr (h__law_pick X G c) 0 take
  have pickS := c_law_pickS fr (h__law_pick X G c) 0 take
  have mixed := c_law_mixed fr (h__law_mixed X G c) 0 take
  have tree := c_law_tree fr (h__law_tree X G c) 0 mixed pickOS
  have wild := c_law_wild fr (h__law_wild X G c) 0 pickO
  have path := c_law_path fr (h__law_path X G c) 0 mixed
  have near := c_law_near fr (h__law_near X G c) 0 take pickL
  have pair := c_law_pair fr (h__law_pair X G c) 0 take tree path wild near
  have words := c_law_words fr (h__law_words X G c) 0 take pickL pickI pickS
  have model := c_law_model fr (h__law_model X G c) 0 take words pair mixed pickI
  have moving := c_law_moving_dots (P := P) (w := w) (base := base) fr (h__law_moving_dots X G c) 0
  have donein := c_law_done_in (P := P) (w := w) (base := base) fr (h__law_done_in X G c) 0
  have hop := c_law_hop fr (h__law_hop X G c) 0 donein
  have plan := c_law_plan fr (h__law_plan X G c) 0 take mixed moving
  have moved := c_law_moved fr (h__law_moved X G c) 0 take pickL hop
  have ordered := c_ordered (P := P) (w := w) (base := base) fr (h_ordered X G c) 0
  have init := c_init fr nf (h_ini X G c) (h_met X G c) 0 are_tables nodes_of are_nodes ordered
  have net := c_law_net fr (h__law_net X G c) 0 init
  exact ⟨⟨model, net, plan, moved, stages, is_story, clash, donein, ways, known, story⟩, c_law_begin fr (h__law_begin X G c) 0⟩
theorem facts {f : Addr} (X : K.In h) (G : h.Ns mainGlobals mg) (hfa : mg ("law" : Str) = some (.ref f)) (c : He.SaysX fa fn [] [] insB w h K) :
    ∃ fd : FuncData, (∀ (s : Shared) (v : Value), BindsTo s fd ⟨[v], []⟩ [("script", v)]) ∧ ∀ base : Heap, K.In base → base.Ns mainGlobals mg → FnOk P w K mg base C8.CX0 8 f fd ["script"] (SpLaw K) := by
  obtain ⟨fd, F⟩ := c.t.d.def_ 53 (d := d_law) rfl
  have e := hfa.symm.trans (He.glo_ok X G (c.t.d.fact 53 (f := .glo "law") rfl))
  cases e
  have b := FunD.bindsA (ps := ["script"]) F fun _ _ _ _ _ _ us hl => match us, hl with | [_], _ => rfl
  refine ⟨fd, fun s v => b s [v] rfl, fun base _ _ => ?_⟩
  obtain ⟨lc, cb⟩ := h_lawC (P := P) (base := base) X G c
  exact ok_law (h_fr X G c) F 0 lc cb
end
end K62
open PySem PySem.W PySem.Calls PyProof.Rows
theorem PySem.Challenge.cw_roundways_k62_whole_sights_of_moving_pac_holds : PySem.Challenge.rw_roundways_k62_whole_sights_of_moving_pac.Holds := by
  w_on; o_law
  refine HandSHeadRun.head_any (r := OpenLaw.row PySem.Challenge.rw_roundways_k62_whole_sights_of_moving_pac) (q := view (OpenLaw.row PySem.Challenge.rw_roundways_k62_whole_sights_of_moving_pac).prog [76]) (H := K62.hk) (ob := K62.ob) (M := 12000) (loose := K62.nm) (d := HandSHeadRun.topDef (OpenLaw.row PySem.Challenge.rw_roundways_k62_whole_sights_of_moving_pac).prog 76) (kwd := []) K62.ob_eq
    (by kernel_rfl) (fun s => by kernel_rfl) K62.run (by kernel_rfl) (by kernel_rfl) (by kernel_rfl) (by rfl) (by first | assumption | decide +kernel) (by decide +kernel) ⟨rfl, rfl, rfl, rfl, rfl, by decide +kernel⟩ ?hw ?hc
  case hw => w_witness2
  case hc =>
    refine L2.walk_ofE (l := PySem.Challenge.rw_roundways_k62_whole_sights_of_moving_pac) (n := 63) (k := 8) (x := "script") (CX := C8.CX0) rfl (by decide) (by kernel_rfl) ⟨rfl, by decide, by decide⟩ ?F (fun _ _ _ _ z => z)
    intro w mg fa h Y G hmg0
    obtain ⟨K, KX, c⟩ := Y
    have hmg : mg ("law" : PySem.Str) = some (.ref fa) := by
      have e : (HandSHeadRun.topDef (OpenLaw.row PySem.Challenge.rw_roundways_k62_whole_sights_of_moving_pac).prog 76).name = ("law" : PySem.Str) := by kernel_rfl
      rw [← e]
      exact hmg0
    obtain ⟨fd, hb, hF⟩ := K62.facts (P := (PySem.Challenge.rw_roundways_k62_whole_sights_of_moving_pac).prog) (w := w) KX G hmg c
    exact ⟨K, fd, K62.SpLaw K, KX, hb, fun H a ns hl _ hS => ⟨a, ns, rfl, hl, hS, fun _ => rfl⟩, hF⟩

end
