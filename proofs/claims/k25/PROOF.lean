import PyProof.Rows.All
import Wide.All
import OpenK.AllK
import Wide.FinOn
import KE.KStateDown
import HandS.ForMost
import HandS.TupAny
import HandS.TupMul
import HandS.Zip
import HandS.Walk
import HandS.Style
import HandS.Wide
import HandS.Conv
import HandS.SortRule
import HandS.More
import HandS.WideMore
import KE.KTupSum
import HandS.HeadHook4
import HandS.Head2
import HandS.HeadWalk
import HandS.IsInst
import KE.KDictZip
import KE.KItemsList
import HandS.HeadEnd
import PySem.Challenge.RW_cutlinked_k25_whole_roads_that_go_on_apa
set_option Elab.async false
set_option linter.all false
set_option maxRecDepth 100000
set_option maxHeartbeats 0
/-! The head: what the top leaves, as facts. Printed by gen_head.py. -/
namespace G3
open PySem PySem.Spec PyProof.Rows L2
abbrev R : PySem.W.OpenRow := PySem.W.OpenLaw.row PySem.Challenge.rw_cutlinked_k25_whole_roads_that_go_on_apa
def top (i : Nat) : Stmt := PySem.Challenge.pw_cutlinked_k25_whole_roads_that_go_on_apa.main.body.getD i (.Pass ⟨0, 0, 0, 0⟩)
def dOf (p : Str × Option Str) (name qual : Str) (st : Stmt) : He.DefD := ⟨p, name, qual, defArgs st, defBody st, defScope st, [], []⟩
abbrev s_is_integer : Stmt := top 12
abbrev s_is_within : Stmt := top 13
abbrev s_is_below : Stmt := top 15
abbrev s_is_sized : Stmt := top 16
abbrev s_check_within : Stmt := top 17
abbrev s_replaced : Stmt := top 18
abbrev s_comes_to_none : Stmt := top 20
abbrev s_are_parents : Stmt := top 21
abbrev s_is_more : Stmt := top 39
abbrev s_has_form_asks : Stmt := top 40
abbrev s_place_of : Stmt := top 43
abbrev s_on_way : Stmt := top 44
abbrev s_has_form_deeds : Stmt := top 53
abbrev s_sons_of : Stmt := top 62
abbrev s_is_son : Stmt := top 63
abbrev s_order_from : Stmt := top 64
abbrev s_row_from : Stmt := top 65
abbrev s_all_rows : Stmt := top 66
abbrev s_told_value : Stmt := top 67
abbrev s_forest_of : Stmt := top 68
abbrev s_resting : Stmt := top 69
abbrev s_rank_of : Stmt := top 70
abbrev s_all_weights : Stmt := top 71
abbrev s_sum_of_ranks : Stmt := top 72
abbrev s_changed : Stmt := top 73
abbrev s_with_more : Stmt := top 74
abbrev s_after_handing : Stmt := top 75
abbrev s_side_of : Stmt := top 76
abbrev s_after_turn : Stmt := top 77
abbrev s_down_to : Stmt := top 82
abbrev s_after_step : Stmt := top 83
abbrev s_to_top : Stmt := top 84
abbrev s_met_from : Stmt := top 85
abbrev s_spliced : Stmt := top 86
abbrev s_after_reaching : Stmt := top 87
abbrev s_left_most : Stmt := top 88
abbrev s_kept_from : Stmt := top 92
abbrev s_rank_number : Stmt := top 100
abbrev s__law_draw : Stmt := top 103
abbrev s__law_weight : Stmt := top 104
abbrev s__law_parts_by : Stmt := top 105
abbrev s__law_least : Stmt := top 106
abbrev s__law_is : Stmt := top 107
abbrev s__law_hand : Stmt := top 108
abbrev s__law_size : Stmt := top 109
abbrev s__law_came : Stmt := top 110
abbrev s__law_right : Stmt := top 111
abbrev s_law : Stmt := top 112
abbrev s_Forest___init__ : Stmt := inClass (top 22) 0
abbrev s_Kept___init__ : Stmt := inClass (top 91) 0
abbrev s_Kept_begin_with : Stmt := inClass (top 91) 1
abbrev s_Kept_deed : Stmt := inClass (top 91) 2
abbrev s_Kept_ask : Stmt := inClass (top 91) 3
abbrev s_Kept_take_in : Stmt := inClass (top 91) 4
abbrev s_Kept_spent : Stmt := inClass (top 91) 9
abbrev s_Kept_copy : Stmt := inClass (top 91) 11
abbrev s_Work___init__ : Stmt := inClass (top 93) 0
abbrev s_Work_come_to : Stmt := inClass (top 93) 1
abbrev s_Work_found_root : Stmt := inClass (top 93) 2
abbrev s_Work_turn_about : Stmt := inClass (top 93) 3
abbrev s_Work_are_joined : Stmt := inClass (top 93) 4
abbrev s_Work_way_values : Stmt := inClass (top 93) 5
abbrev s_Work_does : Stmt := inClass (top 93) 6
abbrev s_Work_does_link : Stmt := inClass (top 93) 7
abbrev s_Work_does_cut : Stmt := inClass (top 93) 8
abbrev s_Work_answers : Stmt := inClass (top 93) 10
abbrev s_Work_answers_way : Stmt := inClass (top 93) 13
abbrev s_Roads___init__ : Stmt := inClass (top 101) 0
abbrev s_Roads_check_house : Stmt := inClass (top 101) 1
abbrev s_Roads_is_tied : Stmt := inClass (top 101) 2
abbrev s_Roads_greatest : Stmt := inClass (top 101) 3
abbrev s_Roads_tie_in : Stmt := inClass (top 101) 4
abbrev s_Roads_tie_out : Stmt := inClass (top 101) 5
abbrev s_Roads_settle_in : Stmt := inClass (top 101) 6
abbrev s_Roads_come : Stmt := inClass (top 101) 7
abbrev s_Roads_ties : Stmt := inClass (top 101) 8
abbrev s_Roads_kept : Stmt := inClass (top 101) 9
abbrev s_Roads_whole : Stmt := inClass (top 101) 10
abbrev s_Roads_spent : Stmt := inClass (top 101) 13
abbrev s_Roads_bound : Stmt := inClass (top 101) 14
abbrev s_Roads_copy : Stmt := inClass (top 101) 15
def fn : List He.DefD := [dOf ("is_integer", none) "is_integer" "is_integer" s_is_integer,
  dOf ("is_within", none) "is_within" "is_within" s_is_within,
  dOf ("is_below", none) "is_below" "is_below" s_is_below,
  dOf ("is_sized", none) "is_sized" "is_sized" s_is_sized,
  dOf ("check_within", none) "check_within" "check_within" s_check_within,
  dOf ("replaced", none) "replaced" "replaced" s_replaced,
  dOf ("comes_to_none", none) "comes_to_none" "comes_to_none" s_comes_to_none,
  dOf ("are_parents", none) "are_parents" "are_parents" s_are_parents,
  dOf ("is_more", none) "is_more" "is_more" s_is_more,
  dOf ("has_form_asks", none) "has_form" "has_form" s_has_form_asks,
  dOf ("place_of", none) "place_of" "place_of" s_place_of,
  dOf ("on_way", none) "on_way" "on_way" s_on_way,
  dOf ("has_form_deeds", none) "has_form" "has_form" s_has_form_deeds,
  dOf ("sons_of", none) "sons_of" "sons_of" s_sons_of,
  dOf ("is_son", none) "is_son" "is_son" s_is_son,
  dOf ("order_from", none) "order_from" "order_from" s_order_from,
  dOf ("row_from", none) "row_from" "row_from" s_row_from,
  dOf ("all_rows", none) "all_rows" "all_rows" s_all_rows,
  dOf ("told_value", none) "told_value" "told_value" s_told_value,
  dOf ("forest_of", none) "forest_of" "forest_of" s_forest_of,
  dOf ("resting", none) "resting" "resting" s_resting,
  dOf ("rank_of", none) "rank_of" "rank_of" s_rank_of,
  dOf ("all_weights", none) "all_weights" "all_weights" s_all_weights,
  dOf ("sum_of_ranks", none) "sum_of_ranks" "sum_of_ranks" s_sum_of_ranks,
  dOf ("changed", none) "changed" "changed" s_changed,
  dOf ("with_more", none) "with_more" "with_more" s_with_more,
  dOf ("after_handing", none) "after_handing" "after_handing" s_after_handing,
  dOf ("side_of", none) "side_of" "side_of" s_side_of,
  dOf ("after_turn", none) "after_turn" "after_turn" s_after_turn,
  dOf ("down_to", none) "down_to" "down_to" s_down_to,
  dOf ("after_step", none) "after_step" "after_step" s_after_step,
  dOf ("to_top", none) "to_top" "to_top" s_to_top,
  dOf ("met_from", none) "met_from" "met_from" s_met_from,
  dOf ("spliced", none) "spliced" "spliced" s_spliced,
  dOf ("after_reaching", none) "after_reaching" "after_reaching" s_after_reaching,
  dOf ("left_most", none) "left_most" "left_most" s_left_most,
  dOf ("kept_from", none) "kept_from" "kept_from" s_kept_from,
  dOf ("rank_number", none) "rank_number" "rank_number" s_rank_number,
  dOf ("_law_draw", none) "_law_draw" "_law_draw" s__law_draw,
  dOf ("_law_weight", none) "_law_weight" "_law_weight" s__law_weight,
  dOf ("_law_parts_by", none) "_law_parts_by" "_law_parts_by" s__law_parts_by,
  dOf ("_law_least", none) "_law_least" "_law_least" s__law_least,
  dOf ("_law_is", none) "_law_is" "_law_is" s__law_is,
  dOf ("_law_hand", none) "_law_hand" "_law_hand" s__law_hand,
  dOf ("_law_size", none) "_law_size" "_law_size" s__law_size,
  dOf ("_law_came", none) "_law_came" "_law_came" s__law_came,
  dOf ("_law_right", none) "_law_right" "_law_right" s__law_right,
  dOf ("law", none) "law" "law" s_law,
  dOf ("Forest", some "__init__") "__init__" "Forest.__init__" s_Forest___init__,
  dOf ("Kept", some "__init__") "__init__" "Kept.__init__" s_Kept___init__,
  dOf ("Kept", some "begin_with") "begin_with" "Kept.begin_with" s_Kept_begin_with,
  dOf ("Kept", some "deed") "deed" "Kept.deed" s_Kept_deed,
  dOf ("Kept", some "ask") "ask" "Kept.ask" s_Kept_ask,
  dOf ("Kept", some "take_in") "take_in" "Kept.take_in" s_Kept_take_in,
  dOf ("Kept", some "spent") "spent" "Kept.spent" s_Kept_spent,
  dOf ("Kept", some "copy") "copy" "Kept.copy" s_Kept_copy,
  dOf ("Work", some "__init__") "__init__" "Work.__init__" s_Work___init__,
  dOf ("Work", some "come_to") "come_to" "Work.come_to" s_Work_come_to,
  dOf ("Work", some "found_root") "found_root" "Work.found_root" s_Work_found_root,
  dOf ("Work", some "turn_about") "turn_about" "Work.turn_about" s_Work_turn_about,
  dOf ("Work", some "are_joined") "are_joined" "Work.are_joined" s_Work_are_joined,
  dOf ("Work", some "way_values") "way_values" "Work.way_values" s_Work_way_values,
  dOf ("Work", some "does") "does" "Work.does" s_Work_does,
  dOf ("Work", some "does_link") "does_link" "Work.does_link" s_Work_does_link,
  dOf ("Work", some "does_cut") "does_cut" "Work.does_cut" s_Work_does_cut,
  dOf ("Work", some "answers") "answers" "Work.answers" s_Work_answers,
  dOf ("Work", some "answers_way") "answers_way" "Work.answers_way" s_Work_answers_way,
  dOf ("Roads", some "__init__") "__init__" "Roads.__init__" s_Roads___init__,
  dOf ("Roads", some "check_house") "check_house" "Roads.check_house" s_Roads_check_house,
  dOf ("Roads", some "is_tied") "is_tied" "Roads.is_tied" s_Roads_is_tied,
  dOf ("Roads", some "greatest") "greatest" "Roads.greatest" s_Roads_greatest,
  dOf ("Roads", some "tie_in") "tie_in" "Roads.tie_in" s_Roads_tie_in,
  dOf ("Roads", some "tie_out") "tie_out" "Roads.tie_out" s_Roads_tie_out,
  dOf ("Roads", some "settle_in") "settle_in" "Roads.settle_in" s_Roads_settle_in,
  dOf ("Roads", some "come") "come" "Roads.come" s_Roads_come,
  dOf ("Roads", some "ties") "ties" "Roads.ties" s_Roads_ties,
  dOf ("Roads", some "kept") "kept" "Roads.kept" s_Roads_kept,
  dOf ("Roads", some "whole") "whole" "Roads.whole" s_Roads_whole,
  dOf ("Roads", some "spent") "spent" "Roads.spent" s_Roads_spent,
  dOf ("Roads", some "bound") "bound" "Roads.bound" s_Roads_bound,
  dOf ("Roads", some "copy") "copy" "Roads.copy" s_Roads_copy]
def fa : List He.Fa := [.glo "is_integer", .glo "is_within", .glo "is_below", .glo "is_sized", .glo "check_within", .glo "replaced", .glo "comes_to_none", .glo "are_parents", .glo "is_more", .glo "has_form_asks", .glo "place_of", .glo "on_way", .glo "has_form_deeds", .glo "sons_of", .glo "is_son", .glo "order_from", .glo "row_from", .glo "all_rows", .glo "told_value", .glo "forest_of", .glo "resting", .glo "rank_of", .glo "all_weights", .glo "sum_of_ranks", .glo "changed", .glo "with_more", .glo "after_handing", .glo "side_of", .glo "after_turn", .glo "down_to", .glo "after_step", .glo "to_top", .glo "met_from", .glo "spliced", .glo "after_reaching", .glo "left_most", .glo "kept_from", .glo "rank_number", .glo "_law_draw", .glo "_law_weight", .glo "_law_parts_by", .glo "_law_least", .glo "_law_is", .glo "_law_hand", .glo "_law_size", .glo "_law_came", .glo "_law_right", .glo "law", .glo "Forest", .cls "Forest", .mkr "Forest", .noat "Forest" "parents", .noat "Forest" "worths", .glo "Kept", .cls "Kept", .mkr "Kept", .meth "Kept" "begin_with", .meth "Kept" "deed", .meth "Kept" "ask", .meth "Kept" "take_in", .meth "Kept" "spent", .meth "Kept" "copy", .noat "Kept" "now", .noat "Kept" "first_sum", .noat "Kept" "told", .noat "Kept" "linked", .glo "Work", .cls "Work", .mkr "Work", .meth "Work" "come_to", .meth "Work" "found_root", .meth "Work" "turn_about", .meth "Work" "are_joined", .meth "Work" "way_values", .meth "Work" "does", .meth "Work" "does_link", .meth "Work" "does_cut", .meth "Work" "answers", .meth "Work" "answers_way", .noat "Work" "here", .noat "Work" "ranks", .noat "Work" "done", .noat "Work" "last_met", .glo "Roads", .cls "Roads", .mkr "Roads", .meth "Roads" "check_house", .meth "Roads" "is_tied", .meth "Roads" "greatest", .meth "Roads" "tie_in", .meth "Roads" "tie_out", .meth "Roads" "settle_in", .meth "Roads" "come", .meth "Roads" "ties", .meth "Roads" "kept", .meth "Roads" "whole", .meth "Roads" "spent", .meth "Roads" "bound", .meth "Roads" "copy", .noat "Roads" "size", .noat "Roads" "room", .noat "Roads" "rows", .noat "Roads" "left", .noat "Roads" "web", .noat "Roads" "calls", .int "MOST_HOUSES_checks" (64), .str "ROOT" "root", .str "DEPTH" "depth", .str "JOINED" "joined", .str "COMMON" "common", .str "BELOW" "below", .str "WHOLE" "whole", .str "WAY" "way", .str "WHERE" "where", .str "AT" "at", .str "REACH" "reach", .str "LEAST" "least", .str "GREATEST" "greatest", .glo "ONES", .glo "TWOS", .glo "MORES", .str "LINK" "link", .str "CUT" "cut", .str "TURN" "turn", .str "PUT" "put", .str "ADD" "add", .glo "SIZES", .glo "HOUSES", .int "UP" (0), .int "LEFT" (1), .int "RIGHT" (2), .int "TURNED" (3), .int "ADDED" (4), .int "VALUE" (5), .int "TIMES" (5), .int "MOST_BY_RANK" (30), .int "MOST_BESIDE" (7), .int "MOST_HOUSES_roads" (32), .int "MOST_ROOM" (64), .int "LEAST_VALUE" (-10000000000000000000000000000000000000000), .int "STEP" (1000), .int "FOR_EACH" (40), .free "isinstance", .free "int", .free "bool", .free "tuple", .free "list", .free "str", .free "len", .free "range", .free "all", .free "zip", .free "enumerate", .free "sum", .free "min", .free "max", .free "sorted", .free "dict", .free "abs"]
def ts : List He.Tab := [(fun K => He.ga K "SIZES", ["link", "cut", "turn", "put", "add"]), (fun K => He.ga K "HOUSES", ["link", "cut", "turn", "put", "add"])]
/-- what isinstance asks of the class of an instance -/
def insB (K : PySem.W.Frag) (C : Addr) : Bool := He.eqO (PySem.W.findIn K (.ref C) "__class__") (some (some (.builtin "object.__class__"))) && (He.eqO (PySem.W.specialIn K (.builtin "object.__class__") "__get__") (some (some (.builtin "getset_descriptor.__get__"))) &&
  (decide (PySem.W.takesIn K (.builtin "object.__class__") = some true) && decide (PySem.W.mroIn K C (.type "object") = some true)))
def ex (K : PySem.W.Frag) : Bool := He.tupB K "ONES" [.str "root", .str "depth", .str "below", .str "whole"] && (He.tupB K "TWOS" [.str "joined", .str "common", .str "way"] && (He.tupB K "MORES" [.str "where", .str "at", .str "reach"] && (He.valsB K (He.ga K "SIZES") [("link", .int 3), ("cut", .int 2), ("turn", .int 2), ("put", .int 3), ("add", .int 4)] && (He.valsB K (He.ga K "HOUSES") [("link", .int 2), ("cut", .int 1), ("turn", .int 1), ("put", .int 1), ("add", .int 2)] && (decide (PySem.W.kitOne K (.ref (He.ga K "Roads")) (.ref (He.ga K "Roads")) = some true) && insB K (He.ga K "Roads"))))))
def nm0 : List Str := ["_wall", "__name__", "ForestError", "BadForest", "NoHouse", "NoDeed", "NoNumber", "NoAsk", "NoWeight", "Full", "MOST_HOUSES_checks", "is_integer", "is_within", "is_number", "is_below", "is_sized", "check_within", "replaced", "comes_to_none", "are_parents", "Forest", "ROOT", "DEPTH", "JOINED", "COMMON"]
def nm1 : List Str := ["BELOW", "WHOLE", "WAY", "WHERE", "AT", "REACH", "LEAST", "GREATEST", "ONES", "TWOS", "MORES", "is_more", "has_form", "has_form_asks", "told_of", "place_of", "on_way", "LINK", "CUT", "TURN", "PUT", "ADD", "SIZES", "HOUSES", "has_form_deeds"]
def nm2 : List Str := ["UP", "LEFT", "RIGHT", "TURNED", "ADDED", "VALUE", "sons_of", "is_son", "order_from", "row_from", "all_rows", "told_value", "forest_of", "resting", "rank_of", "all_weights", "sum_of_ranks", "changed", "with_more", "after_handing", "side_of", "after_turn", "TIMES", "MOST_BY_RANK", "MOST_BESIDE"]
def nm3 : List Str := ["down_to", "after_step", "to_top", "met_from", "spliced", "after_reaching", "left_most", "most_of", "Kept", "kept_from", "Work", "MOST_HOUSES_roads", "MOST_ROOM", "LEAST_VALUE", "STEP", "FOR_EACH", "rank_number", "Roads", "_law_draw", "_law_weight", "_law_parts_by", "_law_least", "_law_is", "_law_hand", "_law_size"]
def nm4 : List Str := ["_law_came", "_law_right"]
def loose : List Str := nm0 ++ nm1 ++ nm2 ++ nm3 ++ nm4
/-! ### the part of the heap that is looked at: what the names stand for, the classes' dicts, the methods, the code objects -/
def refOf : Value → List Addr
  | .ref a => [a]
  | _ => []
def valsAt (g : Addr → Option Obj) (d : Addr) : List Addr := match g d with
  | some ⟨_, _, .dict es _, _⟩ => es.toList.flatMap fun e => refOf e.val
  | _ => []
def codesAt (g : Addr → Option Obj) (a : Addr) : List Addr := match g a with
  | some ⟨_, _, .func fd, _⟩ => refOf fd.code
  | _ => []
def dictsAt (g : Addr → Option Obj) (a : Addr) : List Addr := match g a with
  | some ⟨_, _, .cls cd, _⟩ => [cd.ns]
  | _ => []
def part (g : Addr → Option Obj) : List Addr :=
  let l1 := valsAt g mainGlobals
  let l2 := l1.flatMap (dictsAt g)
  let l3 := l2.flatMap (valsAt g)
  mainGlobals :: (l1 ++ (l1.flatMap (codesAt g) ++ (l2 ++ (l3 ++ l3.flatMap (codesAt g)))))
abbrev Al : Type := He.AlT × Bool
def obsK (K : PySem.W.Frag) : Al := (He.obsT fa fn ts K, ex K)
def Says (w : World) (K : PySem.W.Frag) : Prop := He.SaysT fa fn ts w K ∧ ex K = true
def hk : PySem.W.Hook where
  α := Al
  obs := fun s => obsK (He.frG s.heap.get? (part s.heap.get?))
  val := fun w => (He.valT fn ts w, true)
  says := fun w h => ∃ K : PySem.W.Frag, K.In h ∧ Says w K
  of := fun w s e => ⟨_, He.frG_in, congrArg Prod.fst e, congrArg Prod.snd e⟩
  keeps := fun w h h' ⟨K, inK, c⟩ k => ⟨K, PySem.W.Frag.In.keeps inK k, c⟩
def ob (s : PySem.W.SharedT) : Al := obsK (He.frG (HandSHeadRun.getT s) (part (HandSHeadRun.getT s)))
theorem ob_eq (s : PySem.W.SharedT) : ob s = hk.obs s.abs := by
  have e : HandSHeadRun.getT s = s.abs.heap.get? := funext fun a => HandSHeadRun.getT_eq s a
  unfold ob
  rw [e]
  rfl
abbrev qv : Program := PySem.W.view R.prog [112]
end G3
set_option Elab.async false
set_option linter.all false
set_option maxRecDepth 100000
set_option maxHeartbeats 0
namespace G3
open PySem PySem.Spec PyProof.Rows L2
theorem run_false (w : World) : HandSHeadRun.RunEq R qv hk ob 7000 loose (w.withFollow "special-get-raises" false) := by
  intro os
  kernel_rfl
theorem run_true (w : World) : HandSHeadRun.RunEq R qv hk ob 7000 loose (w.withFollow "special-get-raises" true) := by
  intro os
  kernel_rfl
theorem run (w : World) : HandSHeadRun.RunEq R qv hk ob 7000 loose w := PySem.W.byRow2 "special-get-raises" (P := fun w => HandSHeadRun.RunEq R qv hk ob 7000 loose w) run_false run_true w
end G3
set_option Elab.async false
set_option linter.all false
set_option maxRecDepth 100000
set_option maxHeartbeats 4000000
/-! list(zip(t, u)) of two tuples of one length: the pairs, new, in a new list. -/
namespace Lz
open PySem PySem.Calls PyProof.Rows PySem.Spec

theorem zNoLen : typeLookup (.type "zip") "__len__" = pure none := am_miss_of_fast (by decide +kernel)
theorem zNoHint : typeLookup (.type "zip") "__length_hint__" = pure none := am_miss_of_fast (by decide +kernel)
section
variable {prog : Program} {w : World} {A : Around} {E : Value → Shared → Prop} {s : Shared}
/-- the parts of a zip of two tuples, k turns gone; C: the list that grows -/
structure Zp (h : Heap) (z TI p q l m C : Addr) (us vs : Array Value) (k : Nat) : Prop where
  pair : IsPair h TI (.ref p) (.ref q)
  one : h.IsTupleIter p l k
  two : h.IsTupleIter q m k
  lo : h.IsTuple l us
  hi : h.IsTuple m vs
structure Far (z TI TO p q l m C : Addr) : Prop where
  D : ZipApart z TI TO p q l m
  cz : C ≠ z
  ct : C ≠ TI
  co : C ≠ TO
  cp : C ≠ p
  cq : C ≠ q
  cl : C ≠ l
  cm : C ≠ m
/-- the next pair while the one before is kept -/
theorem held_next {z TI TO T p q l m : Addr} {f : Bool} {oT : Obj} {k : Nat} {us vs : Array Value} {x y : Value} {Q : Value → Shared → Prop} (D : ZipApart z TI TO p q l m) (hz : IsZipHeld s.heap z TI TO T f) (hT : s.heap.get? T = some oT) (hP : IsPair s.heap TI (.ref p) (.ref q)) (hp : s.heap.IsTupleIter p l k) (hq : s.heap.IsTupleIter q m k) (hl : s.heap.IsTuple l us) (hm : s.heap.IsTuple m vs) (hx : us[k]? = some x) (hy : vs[k]? = some y)
    (fin : ∀ h', IsZipHeld h' z TI TO T true → h'.IsTupleIter p l (k + 1) → h'.IsTupleIter q m (k + 1) → IsPair h' s.heap.objs.size x y → h'.objs.size = s.heap.objs.size + 1 → (∀ c o, c ≠ z → c ≠ p → c ≠ q → s.heap.get? c = some o → h'.get? c = some o) → Q (.ref s.heap.objs.size) { s with heap := h' }) :
    wpAny (model prog w) A (Builtin.«zip.__next__» ⟨[.ref z], []⟩) (fun r s' => ∃ v, r = .done (.ret v) ∧ Q v s') E s := by
  show wpAny _ _ (field (.ref z) 2 >>= _) _ _ s
  refine wpAny_bind (wpAny_field hz rfl (x := .bool false) rfl ?_); show wpAny _ _ (field (.ref z) 3 >>= _) _ _ s
  refine wpAny_bind (wpAny_field hz rfl (x := .ref TI) rfl (wpAny_bind (wpAny_seqItems hP rfl ?_)))
  show wpAny _ _ (Builtin.SmallTypes.ownedTupleIsFree (.ref z) >>= _) _ _ s
  refine wpAny_bind (wpAny_tupleHeld_zip hz hT fun ha za sa => ?_)
  simp only [Bool.false_eq_true, if_false]; refine wpAny_bind ?_; rw [← Array.forIn_toList]
  simp only [List.forIn_cons, List.forIn_nil]; refine wpAny_bind (wpAny_bind (wpAny_holding ?_))
  show wpAny _ _ (Builtin.SmallTypes.nextOf (.ref p) >>= _) _ _ { s with heap := ha }
  refine wpAny_bind (RZ.nextOf_tuple_item (s := { s with heap := ha }) (hp.extBut sa.extBut D.i1z) (hl.extBut sa.extBut D.l1z) hx fun hb pb sb => wpAny_pure (wpAny_pure (wpAny_bind (wpAny_bind (wpAny_holding ?_)))))
  show wpAny _ _ (Builtin.SmallTypes.nextOf (.ref q) >>= _) _ _ { s with heap := hb }
  refine wpAny_bind (RZ.nextOf_tuple_item (s := { s with heap := hb }) ((hq.extBut sa.extBut D.i2z).extBut sb.extBut D.i12.symm) ((hm.extBut sa.extBut D.l2z).extBut sb.extBut D.l2i1) hy fun hc qc sc => wpAny_pure (wpAny_pure (wpAny_pure ?_)))
  show wpAny _ _ (newTuple [x, y] >>= _) _ _ { s with heap := hc }
  refine wpAny_bind (wpAny_newTuple ?_)
  have esz : hc.objs.size = s.heap.objs.size := by rw [sc.1, sb.1, sa.1]
  have kp : ∀ c o, c ≠ z → c ≠ p → c ≠ q → s.heap.get? c = some o → hc.get? c = some o := fun c o n1 n2 n3 e => sc.extBut _ _ n3 (sb.extBut _ _ n2 (sa.extBut _ _ n1 e))
  have zc : IsZipHeld hc z TI TO T true := sc.extBut _ _ D.i2z.symm (sb.extBut _ _ D.i1z.symm za)
  have pc : hc.IsTupleIter p l (k + 1) := pb.extBut sc.extBut D.i12
  refine wpAny_pure ⟨_, rfl, ?_⟩; show Q (.ref hc.objs.size) _
  have np : IsPair (hc.push { cls := .type "tuple", data := .seq #[x, y] }) hc.objs.size x y := Heap.get?_push_size _ rfl
  have ns : (hc.push { cls := .type "tuple", data := .seq #[x, y] }).objs.size = hc.objs.size + 1 := Heap.size_push ..
  rw [esz] at np ns ⊢
  exact fin _ (Heap.get?_push_of_some _ zc) (pc.at fun o e => Heap.get?_push_of_some _ e) (qc.at fun o e => Heap.get?_push_of_some _ e) np ns fun c o n1 n2 n3 e => Heap.get?_push_of_some _ (kp c o n1 n2 n3 e)
/-- no more -/
theorem held_end {z TI TO T p q l m : Addr} {f : Bool} {oT : Obj} {k : Nat} {us : Array Value} {Q : Fin → Shared → Prop} (hh : A.handled = none) (D : ZipApart z TI TO p q l m) (hz : IsZipHeld s.heap z TI TO T f) (hT : s.heap.get? T = some oT) (hP : IsPair s.heap TI (.ref p) (.ref q)) (hp : s.heap.IsTupleIter p l k) (hl : s.heap.IsTuple l us) (hx : us[k]? = none)
    (fin : ∀ h' e, (∀ c o, c ≠ z → c ≠ p → s.heap.get? c = some o → h'.get? c = some o) → (∃ o, h'.get? e = some o ∧ o.cls = .type "StopIteration") → E (.ref e) { s with heap := h' }) :
    wpAny (model prog w) A (Builtin.«zip.__next__» ⟨[.ref z], []⟩) Q E s := by
  show wpAny _ _ (field (.ref z) 2 >>= _) _ _ s
  refine wpAny_bind (wpAny_field hz rfl (x := .bool false) rfl ?_); show wpAny _ _ (field (.ref z) 3 >>= _) _ _ s
  refine wpAny_bind (wpAny_field hz rfl (x := .ref TI) rfl (wpAny_bind (wpAny_seqItems hP rfl ?_)))
  show wpAny _ _ (Builtin.SmallTypes.ownedTupleIsFree (.ref z) >>= _) _ _ s
  refine wpAny_bind (wpAny_tupleHeld_zip hz hT fun ha za sa => ?_)
  simp only [Bool.false_eq_true, if_false]; refine wpAny_bind ?_; rw [← Array.forIn_toList]
  simp only [List.forIn_cons, List.forIn_nil]; refine wpAny_bind (wpAny_bind (wpAny_holding ?_))
  show wpAny _ _ (Builtin.SmallTypes.nextOf (.ref p) >>= _) _ _ { s with heap := ha }
  refine wpAny_bind (RZ.nextOf_tuple_end (s := { s with heap := ha }) hh (hp.extBut sa.extBut D.i1z) (hl.extBut sa.extBut D.l1z) hx fun hb e sb he => ?_)
  exact fin hb e (fun c o n1 n2 g => sb _ _ n2 (sa.extBut _ _ n1 g)) he
theorem held_pyNext {z TI TO T p q l m : Addr} {f : Bool} {oT : Obj} {k : Nat} {us vs : Array Value} {x y : Value} {Q : Option Value → Shared → Prop} (D : ZipApart z TI TO p q l m) (hz : IsZipHeld s.heap z TI TO T f) (hT : s.heap.get? T = some oT) (hP : IsPair s.heap TI (.ref p) (.ref q)) (hp : s.heap.IsTupleIter p l k) (hq : s.heap.IsTupleIter q m k) (hl : s.heap.IsTuple l us) (hm : s.heap.IsTuple m vs) (hx : us[k]? = some x) (hy : vs[k]? = some y)
    (fin : ∀ h', IsZipHeld h' z TI TO T true → h'.IsTupleIter p l (k + 1) → h'.IsTupleIter q m (k + 1) → IsPair h' s.heap.objs.size x y → h'.objs.size = s.heap.objs.size + 1 → (∀ c o, c ≠ z → c ≠ p → c ≠ q → s.heap.get? c = some o → h'.get? c = some o) → Q (some (.ref s.heap.objs.size)) { s with heap := h' }) :
    wpAny (model prog w) A (pyNext (.ref z)) Q E s := by
  have ty : s.TypeIs (.ref z) "zip" := ⟨_, hz, rfl⟩
  unfold pyNext; refine wpAny_bind (wpAny_attempt (wpAny_callSpecial?_slot (name := Str.ofString "__next__") ty F.slot_zip_next ?_))
  exact wpAny_call_entry F.slot_zip_next ty F.entry_zip_next (held_next D hz hT hP hp hq hl hm hx hy fun h' a1 a2 a3 a4 a5 a6 => wpAny_pure (fin h' a1 a2 a3 a4 a5 a6)) (F.args_zip_next_1 _)
theorem held_pyEnd {z TI TO T p q l m : Addr} {f : Bool} {oT : Obj} {k : Nat} {us : Array Value} {Q : Option Value → Shared → Prop} (hh : A.handled = none) (D : ZipApart z TI TO p q l m) (hz : IsZipHeld s.heap z TI TO T f) (hT : s.heap.get? T = some oT) (hP : IsPair s.heap TI (.ref p) (.ref q)) (hp : s.heap.IsTupleIter p l k) (hl : s.heap.IsTuple l us) (hx : us[k]? = none)
    (fin : ∀ h', (∀ c o, c ≠ z → c ≠ p → s.heap.get? c = some o → h'.get? c = some o) → Q none { s with heap := h' }) : wpAny (model prog w) A (pyNext (.ref z)) Q E s := by
  have ty : s.TypeIs (.ref z) "zip" := ⟨_, hz, rfl⟩
  unfold pyNext; refine wpAny_bind (wpAny_attempt (wpAny_callSpecial?_slot (name := Str.ofString "__next__") ty F.slot_zip_next ?_))
  refine wpAny_call_entry F.slot_zip_next ty F.entry_zip_next (held_end hh D hz hT hP hp hl hx fun h' e kp he => ?_) (F.args_zip_next_1 _)
  obtain ⟨o, ho, hc⟩ := he
  refine wpAny_bind (wpAny_isInstance (T := "StopIteration") (b := true) ⟨o, ho, hc⟩ isSubtype_stop (wpAny_pure (fin _ kp)))
end
/-- the tuples told so far -/
structure Out (us vs : Array Value) (C : Addr) (h : Heap) (as : List Addr) : Prop where
  rise : as.Pairwise (· < ·)
  low : ∀ a ∈ as, C < a
  at_ : ∀ (j : Nat) (a : Addr), as[j]? = some a → ∃ x y, us[j]? = some x ∧ vs[j]? = some y ∧ IsPair h a x y
theorem Out.in_ {us vs : Array Value} {C : Addr} {h : Heap} {as : List Addr} (g : Out us vs C h as) {a : Addr} (ha : a ∈ as) : a < h.objs.size := by
  obtain ⟨j, hj⟩ := List.getElem?_of_mem ha
  obtain ⟨_, _, _, _, e⟩ := g.at_ j a hj
  exact Heap.lt_size e
def Zs (h : Heap) (z TI TO p q l m C : Addr) (us vs : Array Value) (i : Nat) : Prop := Zp h z TI p q l m C us vs i ∧
  ((i = 0 ∧ IsZip h z TI TO .none ∧ ∃ a b, IsPair h TO a b) ∨ ∃ (T : Addr) (f : Bool) (oT : Obj), IsZipHeld h z TI TO T f ∧ h.get? T = some oT ∧ T ≠ z ∧ T ≠ p ∧ T ≠ q ∧ T ≠ C)
section
variable {prog : Program} {w : World} {A : Around} {E : Value → Shared → Prop} {s : Shared} {z TI TO p q l m C : Addr} {us vs : Array Value}
theorem Zp.stay {h h' : Heap} {i : Nat} (a : Zp h z TI p q l m C us vs i) (F : Far z TI TO p q l m C) (k : ∀ b o, b ≠ C → h.get? b = some o → h'.get? b = some o) : Zp h' z TI p q l m C us vs i :=
  ⟨k _ _ F.ct.symm a.pair, a.one.at fun o e => k _ o F.cp.symm e, a.two.at fun o e => k _ o F.cq.symm e, a.lo.at fun o e => k _ o F.cl.symm e, a.hi.at fun o e => k _ o F.cm.symm e⟩
theorem Zs.stay {h h' : Heap} {i : Nat} (a : Zs h z TI TO p q l m C us vs i) (F : Far z TI TO p q l m C) (k : ∀ b o, b ≠ C → h.get? b = some o → h'.get? b = some o) : Zs h' z TI TO p q l m C us vs i := by
  refine ⟨a.1.stay F k, ?_⟩
  rcases a.2 with ⟨e, hz, x, y, ho⟩ | ⟨T, f, oT, h1, h2, n1, n2, n3, n4⟩
  · exact .inl ⟨e, k _ _ F.cz.symm hz, x, y, k _ _ F.co.symm ho⟩
  · exact .inr ⟨T, f, oT, k _ _ F.cz.symm h1, k _ _ n4 h2, n1, n2, n3, n4⟩
theorem step {i : Nat} {x y : Value} {Q : Option Value → Shared → Prop} (a : Zs s.heap z TI TO p q l m C us vs i) (F : Far z TI TO p q l m C) (hC : C < s.heap.objs.size) (hx : us[i]? = some x) (hy : vs[i]? = some y)
    (fin : ∀ h', Zs h' z TI TO p q l m C us vs (i + 1) → IsPair h' s.heap.objs.size x y → h'.objs.size = s.heap.objs.size + 1 → (∀ c o, c ≠ z → c ≠ TO → c ≠ p → c ≠ q → s.heap.get? c = some o → h'.get? c = some o) → Q (some (.ref s.heap.objs.size)) { s with heap := h' }) :
    wpAny (model prog w) A (pyNext (.ref z)) Q E s := by
  obtain ⟨⟨hP, hp, hq, hl, hm⟩, a⟩ := a
  have D := F.D
  have lp : p < s.heap.objs.size := by obtain ⟨_, e, _⟩ := id hp; exact Heap.lt_size e
  have lq : q < s.heap.objs.size := by obtain ⟨_, e, _⟩ := id hq; exact Heap.lt_size e
  rcases a with ⟨rfl, hz, a0, b0, ho⟩ | ⟨T, f, oT, hz, hT, n1, n2, n3, n4⟩
  · refine RZ.pyNext_zipT_item D hz hP ho hp hq hl hm hx hy fun h' c1 c2 c3 c4 c5 c6 c7 => fin h' ⟨⟨?_, c3, c4, ?_, ?_⟩, .inr ⟨_, false, _, c1, c5, ?_, ?_, ?_, ?_⟩⟩ c5 c6 c7
    · exact c7 _ _ D.TIz D.TITO D.TIi1 D.TIi2 hP
    · exact hl.at fun o e => c7 _ o D.l1z D.l1TO D.l1i1 D.l1i2 e
    · exact hm.at fun o e => c7 _ o D.l2z D.l2TO D.l2i1 D.l2i2 e
    · exact Nat.ne_of_gt (Heap.lt_size hz)
    · exact Nat.ne_of_gt lp
    · exact Nat.ne_of_gt lq
    · exact Nat.ne_of_gt hC
  · refine held_pyNext D hz hT hP hp hq hl hm hx hy fun h' c1 c2 c3 c4 c5 c6 => fin h' ⟨⟨?_, c2, c3, ?_, ?_⟩, .inr ⟨T, true, oT, c1, c6 _ _ n1 n2 n3 hT, n1, n2, n3, n4⟩⟩ c4 c5 fun c o g1 _ g3 g4 => c6 c o g1 g3 g4
    · exact c6 _ _ D.TIz D.TIi1 D.TIi2 hP
    · exact hl.at fun o e => c6 _ o D.l1z D.l1i1 D.l1i2 e
    · exact hm.at fun o e => c6 _ o D.l2z D.l2i1 D.l2i2 e
theorem grow {R : Result → Shared → Prop} (hh : A.handled = none) (F : Far z TI TO p q l m C) (eq : us.size = vs.size) (pos : 0 < us.size) (hn : us.size ≤ 1000) (res : Value) {h₁ : Heap}
    (hR : ∀ h' tk acc c as, (∀ b o, b ≠ C → b ≠ z → b ≠ TO → b ≠ p → b ≠ q → h₁.get? b = some o → h'.get? b = some o) → h'.get? C = some { cls := .type "list", dict := none, data := .seq acc c, slots := #[] } → as.length = us.size → Out us vs C h' as → acc.toList = as.map Value.ref → R (.ok (.ret res)) { s with heap := h', toks := tk }) :
    ∀ (k i : Nat) (h : Heap) (tk c : Nat) (acc : Array Value) (as : List Addr), us.size - i = k → i ≤ us.size → Zs h z TI TO p q l m C us vs i → (∀ b o, b ≠ C → b ≠ z → b ≠ TO → b ≠ p → b ≠ q → h₁.get? b = some o → h.get? b = some o) →
      h.get? C = some { cls := .type "list", dict := none, data := .seq acc c, slots := #[] } → acc.toList = as.map Value.ref → as.length = i → Out us vs C h as → z < C → TO < C → p < C → q < C →
      codeAny (model prog w) A (.builtin "list.extend.loop" ⟨[.ref C, .ref z, res], []⟩) R { s with heap := h, toks := tk } := by
  intro k
  induction k with
  | zero =>
    intro i h tk c acc as hk hi st kp hC ea la G lz lo lp lq
    obtain rfl : i = us.size := by omega
    refine codeAny_builtin PySem.F.entry_extend_loop ?_
    rw [Around.under_plainId PySem.F.plain_extend_loop _]; show wpAny _ A.in1 (pyNext (.ref z) >>= _) _ _ _
    obtain ⟨⟨hP, hp, hq, hl, hm⟩, st⟩ := st
    rcases st with ⟨e, _⟩ | ⟨T, f, oT, hz, hT, n1, n2, n3, n4⟩
    · omega
    · refine wpAny_bind (held_pyEnd (s := { s with heap := h, toks := tk }) (A := A.in1) hh F.D hz hT hP hp hl (by simp) fun h' kk => wpAny_pure ?_)
      refine hR h' tk acc c as (fun b o g1 g2 g3 g4 g5 e => kk b o g2 g4 (kp b o g1 g2 g3 g4 g5 e)) (kk C _ F.cz F.cp hC) la ⟨G.rise, G.low, fun j a hj => ?_⟩ ea
      obtain ⟨x, y, e1, e2, e3⟩ := G.at_ j a hj
      have lt := G.low a (List.mem_of_getElem? hj)
      exact ⟨x, y, e1, e2, kk a _ (Nat.ne_of_gt (Nat.lt_trans lz lt)) (Nat.ne_of_gt (Nat.lt_trans lp lt)) e3⟩
  | succ k ih =>
    intro i h tk c acc as hk hi st kp hC ea la G lz lo lp lq
    have il : i < us.size := by omega
    have hx : us[i]? = some us[i] := Array.getElem?_eq_getElem il
    have hy : vs[i]? = some (vs[i]'(eq ▸ il)) := Array.getElem?_eq_getElem (eq ▸ il)
    have sz : acc.size = i := by rw [← Array.length_toList, ea, List.length_map, la]
    have lC : C < h.objs.size := Heap.lt_size hC
    refine codeAny_builtin PySem.F.entry_extend_loop ?_
    rw [Around.under_plainId PySem.F.plain_extend_loop _]; show wpAny _ A.in1 (pyNext (.ref z) >>= _) _ _ _
    refine wpAny_bind (step (s := { s with heap := h, toks := tk }) st F lC hx hy fun h' st' ht hs kk => ?_)
    dsimp only at ht hs kk ⊢
    have hC' := kk C _ F.cz F.co F.cp F.cq hC
    have up : ∀ b o, b ≠ C → h'.get? b = some o → (h'.update C (Obj.mapSeq (·.push (Value.ref h.objs.size)))).get? b = some o := fun b o nb e => (Heap.get?_update_other _ _ (Ne.symm nb)).trans e
    show wpAny _ A.in1 (updateSeq C (·.push (Value.ref h.objs.size)) >>= _) _ _ _
    refine wpAny_bind (wpAny_updateSeq hC' rfl (wpAny_pure ⟨plainId_quiet PySem.F.plain_extend_loop _, ih (i + 1) _ tk _ (acc.push (Value.ref h.objs.size)) (as ++ [h.objs.size]) (by omega) il (st'.stay F up)
      (fun b o g1 g2 g3 g4 g5 e => up b o g1 (kk b o g2 g3 g4 g5 (kp b o g1 g2 g3 g4 g5 e))) (Heap.get?_update_self _ hC' rfl) (by rw [Array.toList_push, ea, List.map_append]; rfl) (by rw [List.length_append, la]; rfl) ⟨?_, ?_, ?_⟩ lz lo lp lq⟩) ?_ ?_)
    · refine List.pairwise_append.mpr ⟨G.rise, List.pairwise_singleton _ _, fun a ha b hb => ?_⟩
      rw [List.mem_singleton.mp hb]; exact G.in_ ha
    · intro a ha
      rcases List.mem_append.mp ha with ha | ha
      · exact G.low a ha
      · rw [List.mem_singleton.mp ha]; exact lC
    · intro j b hj
      by_cases h1 : j < as.length
      · rw [List.getElem?_append_left h1] at hj
        obtain ⟨x, y, e1, e2, e3⟩ := G.at_ j b hj
        have lb := G.low b (List.mem_of_getElem? hj)
        refine ⟨x, y, e1, e2, up b _ (Nat.ne_of_gt lb) (kk b _ ?_ ?_ ?_ ?_ e3)⟩
        · exact Nat.ne_of_gt (Nat.lt_trans lz lb)
        · exact Nat.ne_of_gt (Nat.lt_trans lo lb)
        · exact Nat.ne_of_gt (Nat.lt_trans lp lb)
        · exact Nat.ne_of_gt (Nat.lt_trans lq lb)
      · have hj' := (List.getElem?_eq_some_iff.mp hj).1
        rw [List.length_append, List.length_singleton] at hj'
        obtain rfl : j = as.length := by omega
        rw [List.getElem?_append_right (Nat.le_refl _), Nat.sub_self] at hj
        cases hj
        exact ⟨_, _, la ▸ hx, la ▸ hy, up _ _ (Nat.ne_of_gt lC) ht⟩
    · rw [sz]; exact Nat.le_trans (Nat.le_trans hi hn) (by decide)
    · show (acc.push (Value.ref h.objs.size)).size ≤ sizeLine + 1
      rw [Array.size_push, sz]; exact Nat.succ_le_succ (Nat.le_trans (Nat.le_trans hi hn) (by decide))
end
end Lz
set_option Elab.async false
set_option linter.all false
set_option maxRecDepth 100000
set_option maxHeartbeats 4000000
namespace Lz
open PySem PySem.Calls PyProof.Rows PySem.Spec
section
variable {prog : Program} {w : World} {A : Around} {E : Value → Shared → Prop} {s : Shared} {z TI TO p q l m C : Addr} {us vs : Array Value}
theorem fill {R : Result → Shared → Prop} (hh : A.handled = none) (F : Far z TI TO p q l m C) (eq : us.size = vs.size) (pos : 0 < us.size) (hn : us.size ≤ 1000) (res : Value) (c₀ : Nat) (st : Zs s.heap z TI TO p q l m C us vs 0) (hz : IsZip s.heap z TI TO .none) (hC : s.heap.get? C = some { cls := .type "list", data := .seq #[] c₀ }) (lz : z < C) (lo : TO < C) (lp : p < C) (lq : q < C)
    (hR : ∀ h' tk acc c as, (∀ b o, b ≠ C → b ≠ z → b ≠ TO → b ≠ p → b ≠ q → s.heap.get? b = some o → h'.get? b = some o) → h'.get? C = some { cls := .type "list", dict := none, data := .seq acc c, slots := #[] } → as.length = us.size → Out us vs C h' as → acc.toList = as.map Value.ref → R (.ok (.ret res)) { s with heap := h', toks := tk }) :
    wpAny (model prog w) A.in1 (Builtin.List.listExtendWith (.ref C) (.ref z) res) (fun fin s' => match fin with | .done f => R (.ok f) s' | .again c' => c'.quiet = true ∧ codeAny (model prog w) A c' R s') (fun e s' => R (.error e) s') s := by
  have ty : s.TypeIs (.ref z) "zip" := ⟨_, hz, rfl⟩
  have ne : C ≠ z := F.cz
  unfold Builtin.List.listExtendWith
  refine wpAny_bind (wpAny_typeOf ty ?_)
  have t1 : Builtin.List.listSameRef (.ref C) (.ref z) = false := by simp [Builtin.List.listSameRef, ne]
  have t2 : (Value.type "zip" == Value.type "list") = false := by decide
  have t3 : (Value.type "zip" == Value.type "tuple") = false := by decide
  simp only [t1, t2, t3, Bool.or_false, Bool.false_eq_true, if_false]
  refine wpAny_bind (wpAny_pyIter_zip hz (wpAny_bind (wpAny_holding ?_)))
  unfold Builtin.List.listLengthHint; refine wpAny_bind (wpAny_specialOf ty zNoLen ?_)
  show wpAny _ A.in1 (specialOf (Value.ref z) (Str.ofString "__length_hint__") >>= _) _ _ _
  refine wpAny_bind (wpAny_specialOf ty zNoHint (wpAny_pure ?_))
  show wpAny _ A.in1 (rule "list.extend.makes-room" >>= fun _ => Builtin.List.listTouch (.ref C) >>= fun _ => again (.builtin "list.extend.loop" ⟨[.ref C, .ref z, res], []⟩)) _ _ _
  refine wpAny_bind (wpAny_rule (wpAny_bind ?_)); show wpAny _ A.in1 (updateSeq C (·.push .none) >>= fun _ => updateSeq C (·.pop)) _ _ _
  refine wpAny_bind (wpAny_updateSeq hC rfl ?_)
  have hC2 := Heap.get?_update_self (Obj.mapSeq (·.push Value.none)) hC rfl
  refine wpAny_updateSeq (hz := by seq_fits) hC2 rfl ?_
  have hC3 := Heap.get?_update_self (Obj.mapSeq (·.pop)) hC2 rfl
  have far : ∀ b o, b ≠ C → s.heap.get? b = some o → ((s.heap.update C (Obj.mapSeq (·.push Value.none))).update C (Obj.mapSeq (·.pop))).get? b = some o := fun b o hb e => (Heap.get?_update_other _ _ (Ne.symm hb)).trans ((Heap.get?_update_other _ _ (Ne.symm hb)).trans e)
  refine wpAny_pure ⟨plainId_quiet PySem.F.plain_extend_loop _, grow (s := s) (h₁ := s.heap) hh F eq pos hn res hR us.size 0 _ s.toks _ #[] [] (Nat.sub_zero _) (Nat.zero_le _) (st.stay F far) (fun b o g1 _ _ _ _ e => far b o g1 e) hC3 rfl rfl ⟨List.Pairwise.nil, fun _ ha => (nomatch ha), fun j a hj => by simp at hj⟩ lz lo lp lq⟩
theorem init {R : Result → Shared → Prop} (hh : A.handled = none) (F : Far z TI TO p q l m C) (eq : us.size = vs.size) (pos : 0 < us.size) (hn : us.size ≤ 1000) (st : Zs s.heap z TI TO p q l m C us vs 0) (hz : IsZip s.heap z TI TO .none) (hC : s.heap.get? C = some { cls := .type "list", data := .seq #[] }) (lz : z < C) (lo : TO < C) (lp : p < C) (lq : q < C)
    (hR : ∀ h' tk acc c as, (∀ b o, b ≠ C → b ≠ z → b ≠ TO → b ≠ p → b ≠ q → s.heap.get? b = some o → h'.get? b = some o) → h'.get? C = some { cls := .type "list", dict := none, data := .seq acc c, slots := #[] } → as.length = us.size → Out us vs C h' as → acc.toList = as.map Value.ref → R (.ok (.ret .none)) { s with heap := h', toks := tk }) :
    wpAny (model prog w) A.in1 (Builtin.«list.__init__» ⟨[.ref C, .ref z], []⟩) (fun fin s' => match fin with | .done f => R (.ok f) s' | .again c' => c'.quiet = true ∧ codeAny (model prog w) A c' R s') (fun e s' => R (.error e) s') s := by
  show wpAny _ A.in1 (do let old ← Builtin.List.listItems (.ref C); Builtin.List.listUpdate (.ref C) (fun _ => #[]); letGo old.toList.reverse; Builtin.List.listExtendWith (.ref C) (.ref z) .none) _ _ s
  refine wpAny_bind ?_; unfold Builtin.List.listItems; refine wpAny_bind (wpAny_seqItems hC rfl (wpAny_pure ?_))
  show wpAny _ A.in1 (updateSeq C (fun _ => #[]) >>= fun _ => letGo (#[] : Array Value).toList.reverse >>= fun _ => Builtin.List.listExtendWith (.ref C) (.ref z) .none) _ _ s
  refine wpAny_bind (wpAny_updateSeq hC rfl (wpAny_bind (wpAny_letGo ?_)))
  have hC2 := Heap.get?_update_self (Obj.mapSeq (fun _ => (#[] : Array Value))) hC rfl
  have far : ∀ b o, b ≠ C → s.heap.get? b = some o → (s.heap.update C (Obj.mapSeq (fun _ => (#[] : Array Value)))).get? b = some o := fun b o hb e => (Heap.get?_update_other _ _ (Ne.symm hb)).trans e
  exact fill (s := { s with heap := s.heap.update C (Obj.mapSeq (fun _ => (#[] : Array Value))) }) hh F eq pos hn .none _ (st.stay F far) (far _ _ F.cz.symm hz) hC2 lz lo lp lq fun h' tk acc c as k => hR h' tk acc c as fun b o g1 g2 g3 g4 g5 e => k b o g1 g2 g3 g4 g5 (far b o g1 e)
/-- list(..) of a zip at hand -/
theorem listOfZip {Q : Value → Shared → Prop} (hh : A.handled = none) (D : ZipApart z TI TO p q l m) (eq : us.size = vs.size) (pos : 0 < us.size) (hn : us.size ≤ 1000) (hz : IsZip s.heap z TI TO .none) (hP : IsPair s.heap TI (.ref p) (.ref q)) {a0 b0 : Value} (ho : IsPair s.heap TO a0 b0) (hp : s.heap.IsTupleIter p l 0) (hq : s.heap.IsTupleIter q m 0) (hl : s.heap.IsTuple l us) (hm : s.heap.IsTuple m vs)
    (hQ : ∀ h' tk acc c as, (∀ b o, b ≠ z → b ≠ TO → b ≠ p → b ≠ q → s.heap.get? b = some o → h'.get? b = some o) → h'.get? s.heap.objs.size = some { cls := .type "list", dict := none, data := .seq acc c, slots := #[] } → as.length = us.size → Out us vs s.heap.objs.size h' as → acc.toList = as.map Value.ref → Q (.ref s.heap.objs.size) { s with heap := h', toks := tk }) :
    wpAny (model prog w) A (call (.type "list") [.ref z]) Q E s := by
  refine callType_codes (Q₁ := fun obj s₁ => obj = .ref s.heap.objs.size ∧ s₁ = { s with heap := s.heap.push { cls := .type "list", data := .seq #[] } }) PySem.F.called_list (PySem.F.typeCall_list_1 _) PySem.F.entry_list_init (code_list_new _ ⟨rfl, rfl⟩) fun obj s₁ h₁ => ?_
  obtain ⟨rfl, rfl⟩ := h₁
  have hC : (s.heap.push { cls := .type "list", data := .seq #[] }).get? s.heap.objs.size = some { cls := .type "list", data := .seq #[] } := Heap.get?_push_size _ rfl
  have up : ∀ {b o}, s.heap.get? b = some o → (s.heap.push { cls := .type "list", data := .seq #[] }).get? b = some o := fun e => Heap.get?_push_of_some _ e
  have gt : ∀ {b o}, s.heap.get? b = some o → b < s.heap.objs.size := fun e => Heap.lt_size e
  have lp : p < s.heap.objs.size := by obtain ⟨_, e, _⟩ := id hp; exact gt e
  have lq : q < s.heap.objs.size := by obtain ⟨_, e, _⟩ := id hq; exact gt e
  have ll : l < s.heap.objs.size := by obtain ⟨_, e, _⟩ := id hl; exact gt e
  have lm : m < s.heap.objs.size := by obtain ⟨_, e, _⟩ := id hm; exact gt e
  have F : Far z TI TO p q l m s.heap.objs.size := ⟨D, Nat.ne_of_gt (gt hz), Nat.ne_of_gt (gt hP), Nat.ne_of_gt (gt ho), Nat.ne_of_gt lp, Nat.ne_of_gt lq, Nat.ne_of_gt ll, Nat.ne_of_gt lm⟩
  refine ⟨⟨_, hC, rfl⟩, PySem.F.args_list_init_2 _ _, init (A := A.in1) hh F eq pos hn ⟨⟨up hP, hp.at fun o e => up e, hq.at fun o e => up e, hl.at fun o e => up e, hm.at fun o e => up e⟩, .inl ⟨rfl, up hz, a0, b0, up ho⟩⟩ (up hz) hC (gt hz) (gt ho) lp lq fun h' tk acc c as k h1 h2 h3 h4 => ?_⟩
  exact ⟨rfl, hQ h' tk acc c as (fun b o g2 g3 g4 g5 e => k b o (Nat.ne_of_lt (gt e)) g2 g3 g4 g5 (up e)) h1 h2 h3 h4⟩
end
end Lz
set_option Elab.async false
set_option linter.all false
set_option maxRecDepth 100000
set_option maxHeartbeats 4000000
namespace Lz
open PySem PySem.Spec PyProof.Rows L2
/-- new pairs, tracked -/
def lay : Hp → List Addr → List (V × V) → Hp
  | H, a :: as, e :: es => lay (upd H a (.tup [e.1, e.2])) as es
  | H, _, _ => H
theorem lay_off {b : Addr} : ∀ {as : List Addr} {es : List (V × V)} {H : Hp}, b ∉ as → lay H as es b = H b
  | [], _, _, _ => rfl
  | _ :: _, [], _, _ => rfl
  | a :: as, e :: es, H, h => by
    have h2 : b ∉ as ∧ b ≠ a := ⟨fun q => h (.tail _ q), fun q => h (q ▸ .head _)⟩
    show lay (upd H a _) as es b = _
    rw [lay_off h2.1, upd_ne h2.2]
theorem lay_at : ∀ {as : List Addr} {es : List (V × V)} {H : Hp} {j : Nat} {a : Addr} {e : V × V}, as.Nodup → as[j]? = some a → es[j]? = some e → lay H as es a = some (.tup [e.1, e.2])
  | [], _, _, j, a, e, _, h, _ => by simp at h
  | _ :: _, [], _, j, a, e, _, _, h => by simp at h
  | b :: as, f :: es, H, 0, a, e, hn, h, h2 => by
    have q := Option.some.inj (show some b = some a from h)
    have q2 := Option.some.inj (show some f = some e from h2)
    subst q q2
    show lay (upd H b _) as es b = _
    rw [lay_off (List.nodup_cons.mp hn).1, upd_same]
  | b :: as, f :: es, H, j + 1, a, e, hn, h, h2 => by
    show lay (upd H b _) as es a = _
    exact lay_at (List.nodup_cons.mp hn).2 (by simpa using h) (by simpa using h2)
theorem refs_vals : ∀ as : List Addr, Vals (as.map V.ref) (as.map Value.ref)
  | [] => .nil
  | _ :: as => .cons rfl (refs_vals as)
def tListZip (K : PySem.W.Frag) (t : TA) : TE := fun σ H Q => t σ H fun vs H1 => ∃ (a b : Addr) (xs ys : List V), vs = [.ref a, .ref b] ∧ SqT K H1 a xs ∧ SqT K H1 b ys ∧ xs.length = ys.length ∧ 0 < xs.length ∧ xs.length ≤ 1000 ∧
  ∀ (H' : Hp) (p : Addr) (ts : List Addr), (∀ b o, H1 b = some o → H' b = some o) → H1 p = none → ts.length = xs.length → H' p = some (.lst (ts.map V.ref)) → (∀ (i : Nat) (t : Addr), ts[i]? = some t → ∃ x y, xs[i]? = some x ∧ ys[i]? = some y ∧ H' t = some (.tup [x, y])) → Q (.ref p) H'
section
variable {X : Cx}
theorem laid {pins : List (Addr × Obj)} {σ : L2.St} {H : Hp} {s : Shared} {h' : Heap} {tk : Nat} {xs ys : List V} {us vs : List Value} {acc : Array Value} {c : Nat} {C : Addr} {as : List Addr} (I : Inv X pins σ H s) (hz : as.length ≤ 1000) (rx : Vals xs us) (ry : Vals ys vs) (kp : ∀ b o, s.heap.get? b = some o → h'.get? b = some o) (hC : h'.get? C = some { cls := .type "list", dict := none, data := .seq acc c, slots := #[] }) (hc : s.heap.objs.size ≤ C) (G : Out us.toArray vs.toArray C h' as) (ea : acc.toList = as.map Value.ref) (la : as.length = xs.length) (ly : as.length = ys.length) :
    ∃ H' : Hp, (∀ b o, H b = some o → H' b = some o) ∧ H C = none ∧ H' C = some (.lst (as.map V.ref)) ∧ (∀ (i : Nat) (t : Addr), as[i]? = some t → ∃ x y, xs[i]? = some x ∧ ys[i]? = some y ∧ H' t = some (.tup [x, y])) ∧ Inv X pins σ H' { s with heap := h', toks := tk } := by
  have nd : as.Nodup := List.Pairwise.imp (fun {a b} (h : a < b) => Nat.ne_of_lt h) G.rise
  have new : ∀ t ∈ as, H t = none := fun t ht => I.hok.fresh (Nat.le_trans hc (Nat.le_of_lt (G.low t ht)))
  have newC : H C = none := I.hok.fresh hc
  have nC : C ∉ as := fun q => Nat.lt_irrefl _ (G.low _ q)
  obtain ⟨es, hes⟩ : ∃ es, es = xs.zip ys := ⟨_, rfl⟩
  have at_ : ∀ (i : Nat) (t : Addr), as[i]? = some t → ∃ x y, xs[i]? = some x ∧ ys[i]? = some y ∧ lay (upd H C (.lst (as.map V.ref))) as es t = some (.tup [x, y]) := fun i t ht => by
    have il := (List.getElem?_eq_some_iff.mp ht).1
    have ix : xs[i]? = some (xs[i]'(by omega)) := List.getElem?_eq_getElem (by omega)
    have iy : ys[i]? = some (ys[i]'(by omega)) := List.getElem?_eq_getElem (by omega)
    exact ⟨_, _, ix, iy, lay_at (e := (xs[i]'(by omega), ys[i]'(by omega))) nd ht (by rw [hes, List.getElem?_zip_eq_some]; exact ⟨ix, iy⟩)⟩
  have off : ∀ b, b ∉ as → b ≠ C → lay (upd H C (.lst (as.map V.ref))) as es b = H b := fun b h1 h2 => by rw [lay_off h1, upd_ne h2]
  have low : ∀ b o, s.heap.get? b = some o → b ∉ as ∧ b ≠ C := fun b o e => by
    have lt : b < C := Nat.lt_of_lt_of_le (Heap.lt_size e) hc
    exact ⟨fun q => Nat.lt_asymm lt (G.low b q), Nat.ne_of_lt lt⟩
  have stay : ∀ b u, H b = some u → lay (upd H C (.lst (as.map V.ref))) as es b = some u := fun b u e => by
    rw [off b (fun q => by rw [new b q] at e; cases e) (fun q => by rw [q, newC] at e; cases e)]; exact e
  have eC : lay (upd H C (.lst (as.map V.ref))) as es C = some (.lst (as.map V.ref)) := by rw [lay_off nC, upd_same]
  refine ⟨_, stay, newC, eC, at_, ?_⟩
  refine I.call' (ch := []) rfl ⟨fun b o q _ _ _ => kp b o q, fun b o q _ _ _ => ⟨o.slots, kp b o q⟩, fun b o q n _ => ?_, fun b o q _ => ⟨o, kp b o q⟩, fun b xs q => stay b _ q, fun b o u q => stay b _ q, fun b ps q => ⟨#[], by rw [stay b _ q]; simp⟩⟩ (fun b u q => ?_) I.bare fun b z => by simp at z
  · obtain ⟨z1, z2⟩ := low b o q
    rw [off b z1 z2]; exact n
  · by_cases hb : b ∈ as
    · obtain ⟨j, hj⟩ := List.getElem?_of_mem hb
      obtain ⟨x, y, ix, iy, e3⟩ := at_ j b hj
      rw [e3] at q
      cases q
      obtain ⟨u1, v1, g1, g2, g3⟩ := G.at_ j b hj
      obtain ⟨u2, f1, f2⟩ := rx.get ix
      obtain ⟨v2, k1, k2⟩ := ry.get iy
      have g1' : us[j]? = some u1 := by simpa using g1
      have g2' : vs[j]? = some v1 := by simpa using g2
      rw [f1] at g1'; cases g1'
      rw [k1] at g2'; cases g2'
      exact ⟨by show 2 ≤ sizeLine; decide, [_, _], .cons f2 (.cons k2 .nil), ⟨_, g3, rfl, _, rfl⟩⟩
    · by_cases hb2 : b = C
      · rw [hb2] at q ⊢
        rw [eC] at q
        cases q
        refine ⟨by rw [List.length_map, sizeLine_eq]; omega, acc.toList, c, by rw [ea]; exact refs_vals as, ?_⟩
        rw [Array.toArray_toList]; exact hC
      · rw [off b hb hb2] at q
        exact (I.hok b u q).stay (fun d v _ y => kp d v y) (fun d y => stay d _ y) fun d xs y => stay d _ y
/-- list(zip(e1, e2)) -/
theorem pe_listZip {e1 e2 : Expr} {t : TA} {p p2 pos pos2 : Pos} (hc : X.calm = true) (ha : PA X [e1, e2] t) (hl : X.mg "list" = none) (hm : X.mg "zip" = none) (hg : Gl X "list" := by rfl) (hg2 : Gl X "zip" := by rfl) (hv : bootBuiltins "list" = some (.type "list") := by decide +kernel)
    (hs2 : starEach [e1, e2] X.env = (false, eval e1 X.env) :: starEach [e2] X.env := by rfl) (hpl : (backTo pos2 (starEach [e2] X.env)).any (·.1) = false := by rfl)
    (hs : starEach [.Call (.Name "zip" p2) [e1, e2] [] pos2] X.env = (false, eval (.Call (.Name "zip" p2) [e1, e2] [] pos2) X.env) :: starEach [] X.env := by rfl) :
    PE X (.Call (.Name "list" p) [.Call (.Name "zip" p2) [e1, e2] [] pos2] [] pos) (tListZip X.K t) := by
  refine ⟨fun pins s σ H Q I h => ?_⟩
  refine wpAny_Call_Name_kw (ld_blt I hg hl hv (PyProof.Rows.callWith_type1 ?_ hs rfl)); rw [hs]
  show wpAny _ _ (spliced ((false, eval (.Call (.Name "zip" p2) [e1, e2] [] pos2) X.env) :: backTo pos (starEach [] X.env))) _ _ s
  refine Calls.spliced_cons (Call_ (ld_blt I hg2 hm PyProof.Rows.boot_zip (PyProof.Rows.callWith_type1 (thn (ha.run pos2 pins s σ H _ I h) fun us s1 ⟨vs, H1, I1, r1, q1⟩ => ?_) hs2 hpl)))
  obtain ⟨a, b, xs, ys, ex, hx, hy, le, pos, hn, q⟩ := q1
  subst ex
  cases r1 with
  | cons r rr =>
    cases rr with
    | cons r' rr =>
      cases rr; cases r; cases r'
      obtain ⟨ui, ru, pu, _⟩ := I1.tuple hx
      obtain ⟨vi, rv, pv, _⟩ := I1.tuple hy
      have lu := ru.length
      have lv := rv.length
      obtain ⟨o1, ho1, _⟩ := id pu
      obtain ⟨o2, ho2, _⟩ := id pv
      refine RZ.call_zipT (show s1.heap.IsTuple a ui.toArray from pu) (show s1.heap.IsTuple b vi.toArray from pv) fun h' hz hTI hTO h1 h2 hsz hk => Calls.spliced_nil ?_
      refine listOfZip (s := { s1 with heap := h' }) (us := ui.toArray) (vs := vi.toArray) (I1.ok.hd hc) (PySem.W.ktu_apart s1.heap.objs.size a b (Heap.lt_size ho1) (Heap.lt_size ho2)) (by simp; omega) (by simp; omega) (by simp; omega) hz hTI hTO h1 h2 ((show s1.heap.IsTuple a ui.toArray from pu).at fun o e => hk _ o e) ((show s1.heap.IsTuple b vi.toArray from pv).at fun o e => hk _ o e) fun h'' tk acc c as kp hC la G ea => ?_
      have kp2 : ∀ b o, s1.heap.get? b = some o → h''.get? b = some o := fun b o e => by
        have lt := Heap.lt_size e
        exact kp b o (Nat.ne_of_lt (Nat.lt_of_lt_of_le lt (Nat.le_add_right _ _))) (Nat.ne_of_lt (Nat.lt_of_lt_of_le lt (Nat.le_add_right _ _))) (Nat.ne_of_lt lt) (Nat.ne_of_lt (Nat.lt_of_lt_of_le lt (Nat.le_add_right _ _))) (hk b o e)
      have la' : as.length = ui.length := by simpa using la
      obtain ⟨H', j1, j2, j3, j4, J⟩ := laid (s := s1) (tk := tk) (us := ui) (vs := vi) I1 (by omega) ru rv kp2 hC (by show s1.heap.objs.size ≤ h'.objs.size; omega) G ea (by omega) (by omega)
      exact ⟨.ref _, H', J, rfl, q H' _ as j1 j2 (by omega) j3 j4⟩
end
end Lz
set_option Elab.async false
set_option linter.all false
set_option maxRecDepth 100000
set_option maxHeartbeats 4000000
namespace Lz
open PySem PySem.Spec PyProof.Rows L2
/-- d.get(z, x) of a written dict that has the key -/
def tKGet (K : PySem.W.Frag) (w : World) (td ty tx : TE) : TE := fun σ H Q => td σ H fun x H1 => ∃ (p : Addr) (es : Array DictEntry) (n : Nat), x = .ref p ∧ KDict K w p es n ∧ ty σ H1 fun y H2 => tx σ H2 fun _ H3 => ∃ (z : Str) (u : Value) (v : V), y = .str z ∧ PySem.W.nsIn K p z = some (some u) ∧ RelV v u ∧ Q v H3
theorem pe_kget {X : Cx} {o e f : Expr} {apos cpos : Pos} {td ty tx : TE} (ho : PE X o td) (he : PE X e ty) (hf : PE X f tx) (m : M2 X o "get" apos e f cpos) : PE X (.Call (.Attribute o "get" apos) [e, f] [] cpos) (tKGet X.K X.w td ty tx) := by
  refine ⟨fun pins s σ H Q I h => ?_⟩
  refine wpAny_Call_method m.base m.few m.line PySem.F.plainAttrs_dict PySem.F.slot_dict_get PySem.F.type_dict_get (thn (ho.run pins s σ H _ I h) fun u s1 ⟨x, H1, I1, rx, p, es, n, ex, D, q1⟩ => ?_)
  subst ex
  obtain rfl : u = Value.ref p := rx
  have hm1 := PySem.W.mapOf_K (prog := X.prog) (w := X.w) I1.kIn D.at_ D.lit
  refine ⟨hm1.typeIs, hm1.noDict, ?_⟩; rw [m.trees]
  refine Calls.callWith_builtin rfl (Calls.evalArgs_plain (Calls.spliced_cons (thn (he.run pins s1 σ H1 _ I1 q1) fun iv s2 ⟨y, H2, I2, ry, q2⟩ => Calls.spliced_cons (thn (hf.run pins s2 σ H2 _ I2 q2) fun fv s3 ⟨d0, H3, I3, rd, z, u0, v0, ey, en, rv, q3⟩ => Calls.spliced_nil ?_))))
  subst ey
  obtain ⟨t, rfl⟩ := (show ∃ t, iv = Value.str z t from ry)
  have hm := PySem.W.mapOf_K (prog := X.prog) (w := X.w) I3.kIn D.at_ D.lit
  refine call_meetsIn PySem.F.slot_dict_get hm.typeIs PySem.F.entry_dict_get (PySem.F.args_dict_get_3 _ _ _) (meets_dict_get_default (PySem.strKind X.prog X.w) p (PySem.strKind_is X.prog X.w z t) D.low fv) ⟨_, hm, ?_⟩
  rw [PySem.W.find_K D.at_ en]
  exact ⟨v0, H3, I3.tok _, rv, q3⟩
end Lz
/-! Shapes and rows as plain Lean: the mirror of the program's shape functions, and trees. -/
namespace Lk

structure Part where
  up : Option Nat
  left : Option Nat
  right : Option Nat
  tn : Bool
  val : Int

instance : Inhabited Part := ⟨⟨none, none, none, false, 0⟩⟩

abbrev Shape := List Part
def g (s : Shape) (h : Nat) : Part := s.getD h default

theorem g_set_same {s : Shape} {h : Nat} {p : Part} (hl : h < s.length) : g (s.set h p) h = p := by
  simp [g, hl]
theorem g_set_ne {s : Shape} {h k : Nat} {p : Part} (hn : k ≠ h) : g (s.set h p) k = g s k := by
  simp [g, Ne.symm hn]
theorem g_set {s : Shape} {h k : Nat} {p : Part} (hl : h < s.length) : g (s.set h p) k = if k = h then p else g s k := by
  by_cases e : k = h
  · subst e; rw [if_pos rfl, g_set_same hl]
  · rw [if_neg e, g_set_ne e]

/-- false: the left one -/
def Part.son (p : Part) (d : Bool) : Option Nat := match d with
  | false => p.left
  | true => p.right
def Part.setSon (p : Part) (d : Bool) (v : Option Nat) : Part := match d with
  | false => { p with left := v }
  | true => { p with right := v }

def isSon (s : Shape) (h : Nat) : Bool := match (g s h).up with
  | none => false
  | some u => (g s u).left == some h || (g s u).right == some h
/-- false: it is the left son -/
def sideOf (s : Shape) (h : Nat) : Bool := match (g s h).up with
  | none => true
  | some u => !((g s u).left == some h)
def setUp (s : Shape) (h : Nat) (v : Option Nat) : Shape := s.set h { g s h with up := v }
def setSon (s : Shape) (h : Nat) (d : Bool) (v : Option Nat) : Shape := s.set h ((g s h).setSon d v)
def flip (s : Shape) (h : Nat) : Shape := s.set h { g s h with tn := !(g s h).tn }
def flipO (s : Shape) : Option Nat → Shape
  | none => s
  | some k => flip s k
def handOn (s : Shape) (h : Nat) : Shape := match (g s h).tn with
  | false => s
  | true => (flipO (flipO s (g s h).left) (g s h).right).set h ⟨(g s h).up, (g s h).right, (g s h).left, false, (g s h).val⟩
/-- behind the two handings: house h, its up one, its side d -/
def turn1 (f : Shape) (h one : Nat) : Shape := match (g f one).up with
  | some u => (match isSon f one with
    | true => setSon f u (sideOf f one) (some h)
    | false => f)
  | none => f
def upO (s : Shape) (v : Option Nat) : Option Nat → Shape
  | none => s
  | some k => setUp s k v
def turn2 (f1 : Shape) (h one : Nat) (d : Bool) (up : Option Nat) : Shape :=
  setUp (setUp (setSon (upO (setSon f1 one d ((g f1 h).son (!d))) (some one) ((g f1 h).son (!d))) h (!d) (some one)) one (some h)) h up
def turnUp (s : Shape) (h : Nat) : Shape := match (g s h).up with
  | none => s
  | some one => turn2 (turn1 (handOn (handOn s one) h) h one) h one (sideOf (handOn (handOn s one) h) h) (g (handOn (handOn s one) h) one).up
def stepUp (s : Shape) (h : Nat) : Shape := match (g s h).up with
  | none => s
  | some up => if isSon s up = true then turnUp (turnUp s (if sideOf s h = sideOf s up then up else h)) h else turnUp s h

/-! ### lengths -/
theorem len_setUp {s : Shape} {h v} : (setUp s h v).length = s.length := by simp [setUp]
theorem len_setSon {s : Shape} {h d v} : (setSon s h d v).length = s.length := by simp [setSon]
theorem len_flip {s : Shape} {h} : (flip s h).length = s.length := by simp [flip]
theorem len_flipO {s : Shape} {o} : (flipO s o).length = s.length := by cases o <;> simp [flipO, len_flip]
theorem len_upO {s : Shape} {v o} : (upO s v o).length = s.length := by cases o <;> simp [upO, len_setUp]
theorem len_handOn {s : Shape} {h} : (handOn s h).length = s.length := by
  unfold handOn; cases (g s h).tn <;> simp [len_flipO]
theorem len_turn1 {s : Shape} {h one} : (turn1 s h one).length = s.length := by
  unfold turn1; cases (g s one).up with
  | none => rfl
  | some u => cases isSon s one <;> simp [len_setSon]
theorem len_turn2 {s : Shape} {h one d up} : (turn2 s h one d up).length = s.length := by
  simp [turn2, len_setUp, len_setSon, len_upO]
theorem len_turnUp {s : Shape} {h} : (turnUp s h).length = s.length := by
  unfold turnUp; cases (g s h).up <;> simp [len_turn2, len_turn1, len_handOn]
theorem len_stepUp {s : Shape} {h} : (stepUp s h).length = s.length := by
  unfold stepUp; cases (g s h).up with
  | none => rfl
  | some u => dsimp only; split <;> simp [len_turnUp]

/-! ### values stay -/
theorem val_set {s : Shape} {h : Nat} {p : Part} (hp : p.val = (g s h).val) (k : Nat) : (g (s.set h p) k).val = (g s k).val := by
  by_cases hl : h < s.length
  · rw [g_set hl]
    by_cases e : k = h
    · rw [if_pos e, e, hp]
    · rw [if_neg e]
  · rw [List.set_eq_of_length_le (by omega)]
theorem val_setSon' {p : Part} {d v} : (p.setSon d v).val = p.val := by cases d <;> rfl
theorem val_setUp {s : Shape} {h v k} : (g (setUp s h v) k).val = (g s k).val := val_set (p := { g s h with up := v }) rfl k
theorem val_setSon {s : Shape} {h d v k} : (g (setSon s h d v) k).val = (g s k).val := val_set val_setSon' k
theorem val_flip {s : Shape} {h k} : (g (flip s h) k).val = (g s k).val := val_set (p := { g s h with tn := !(g s h).tn }) rfl k
theorem val_flipO {s : Shape} {o k} : (g (flipO s o) k).val = (g s k).val := by cases o <;> simp [flipO, val_flip]
theorem val_upO {s : Shape} {v o k} : (g (upO s v o) k).val = (g s k).val := by cases o <;> simp [upO, val_setUp]
theorem val_handOn {s : Shape} {h k} : (g (handOn s h) k).val = (g s k).val := by
  unfold handOn; cases (g s h).tn with
  | false => rfl
  | true => exact (val_set (by simp [val_flipO]) k).trans (by simp [val_flipO])
theorem val_turn1 {s : Shape} {h one k} : (g (turn1 s h one) k).val = (g s k).val := by
  unfold turn1; cases (g s one).up with
  | none => rfl
  | some u => cases isSon s one <;> simp [val_setSon]
theorem val_turn2 {s : Shape} {h one d up k} : (g (turn2 s h one d up) k).val = (g s k).val := by
  simp [turn2, val_setUp, val_setSon, val_upO]
theorem val_turnUp {s : Shape} {h k} : (g (turnUp s h) k).val = (g s k).val := by
  unfold turnUp; cases (g s h).up <;> simp [val_turn2, val_turn1, val_handOn]
theorem val_stepUp {s : Shape} {h k} : (g (stepUp s h) k).val = (g s k).val := by
  unfold stepUp; cases (g s h).up with
  | none => rfl
  | some u => dsimp only; split <;> simp [val_turnUp]

/-! ### within range -/
def In (n : Nat) : Option Nat → Prop
  | none => True
  | some k => k < n
def PIn (n : Nat) (p : Part) : Prop := In n p.up ∧ In n p.left ∧ In n p.right
def Wf (s : Shape) : Prop := ∀ k, k < s.length → PIn s.length (g s k)
theorem Wf.set {s : Shape} {h : Nat} {p : Part} (w : Wf s) (hp : PIn s.length p) : Wf (s.set h p) := fun k hk => by
  rw [List.length_set] at hk ⊢
  by_cases hl : h < s.length
  · rw [g_set hl]; split
    · exact hp
    · exact w k hk
  · rw [List.set_eq_of_length_le (by omega)]; exact w k hk
theorem g_out {s : Shape} {k : Nat} (h : ¬ k < s.length) : g s k = default := by
  simp [g, List.getElem?_eq_none (Nat.le_of_not_lt h)]
theorem Wf.at (w : Wf s) (k : Nat) : PIn s.length (g s k) := by
  by_cases h : k < s.length
  · exact w k h
  · rw [g_out h]; exact ⟨trivial, trivial, trivial⟩
theorem PIn.setSon {n : Nat} {p : Part} {d v} (h : PIn n p) (hv : In n v) : PIn n (p.setSon d v) := by
  cases d <;> exact ⟨h.1, by first | exact hv | exact h.2.1, by first | exact hv | exact h.2.2⟩
theorem PIn.son {n : Nat} {p : Part} (h : PIn n p) (d : Bool) : In n (p.son d) := by
  cases d <;> first | exact h.2.1 | exact h.2.2
theorem wf_setUp {s : Shape} {h v} (w : Wf s) (hv : In s.length v) : Wf (setUp s h v) := w.set ⟨hv, (w.at h).2⟩
theorem wf_setSon {s : Shape} {h d v} (w : Wf s) (hv : In s.length v) : Wf (setSon s h d v) := w.set ((w.at h).setSon hv)
theorem wf_flip {s : Shape} {h} (w : Wf s) : Wf (flip s h) := w.set (w.at h)
theorem wf_flipO {s : Shape} {o} (w : Wf s) : Wf (flipO s o) := by cases o <;> simp [flipO, w, wf_flip]
theorem wf_upO {s : Shape} {v o} (w : Wf s) (hv : In s.length v) : Wf (upO s v o) := by
  cases o with
  | none => exact w
  | some k => exact wf_setUp w hv
theorem wf_handOn {s : Shape} {h} (w : Wf s) : Wf (handOn s h) := by
  unfold handOn; cases (g s h).tn with
  | false => exact w
  | true => exact (wf_flipO (wf_flipO w)).set (by simp only [len_flipO]; exact ⟨(w.at h).1, (w.at h).2.2, (w.at h).2.1⟩)
theorem wf_turn1 {s : Shape} {h one} (w : Wf s) (hh : h < s.length) : Wf (turn1 s h one) := by
  unfold turn1; cases (g s one).up with
  | none => exact w
  | some u => cases isSon s one with
    | true => exact wf_setSon w hh
    | false => exact w
theorem wf_turn2 {s : Shape} {h one d up} (w : Wf s) (hh : h < s.length) (ho : one < s.length) (hu : In s.length up) : Wf (turn2 s h one d up) := by
  unfold turn2
  have hb : In s.length ((g s h).son (!d)) := (w.at h).son _
  refine wf_setUp (wf_setUp (wf_setSon (wf_upO (wf_setSon w hb) ?_) ?_) ?_) ?_ <;> simp only [len_setUp, len_setSon, len_upO] <;> assumption
theorem wf_turnUp {s : Shape} {h} (w : Wf s) (hh : h < s.length) : Wf (turnUp s h) := by
  unfold turnUp
  cases e : (g s h).up with
  | none => exact w
  | some one =>
    have ho : one < s.length := by have := (w.at h).1; rw [e] at this; exact this
    have w1 : Wf (handOn (handOn s one) h) := wf_handOn (wf_handOn w)
    have l1 : (handOn (handOn s one) h).length = s.length := by simp [len_handOn]
    refine wf_turn2 (wf_turn1 w1 (by rw [l1]; exact hh)) ?_ ?_ ?_ <;> simp only [len_turn1, l1]
    · exact hh
    · exact ho
    · have := (w1.at one).1; rw [l1] at this; exact this
theorem wf_stepUp {s : Shape} {h} (w : Wf s) (hh : h < s.length) : Wf (stepUp s h) := by
  unfold stepUp
  cases e : (g s h).up with
  | none => exact w
  | some up =>
    have ho : up < s.length := by have := (w.at h).1; rw [e] at this; exact this
    dsimp only
    split
    · refine wf_turnUp (wf_turnUp w ?_) (by rw [len_turnUp]; exact hh)
      split
      · exact ho
      · exact hh
    · exact wf_turnUp w hh

/-! ### the loops as relations -/
/-- going up from son to top: what chain holds from h on -/
inductive ChainR (s : Shape) : Nat → List Nat → Prop
  | stop {h} : isSon s h = false → ChainR s h [h]
  | go {h u l} : isSon s h = true → (g s h).up = some u → ChainR s u l → ChainR s h (h :: l)
/-- behind the first of two turns x has an up still -/
def StepOk (s : Shape) (x : Nat) : Prop := ∀ u, (g s x).up = some u → isSon s u = true → ∃ v, (g (turnUp s (if sideOf s x = sideOf s u then u else x)) x).up = some v
inductive SplayR (x : Nat) : Nat → Shape → Shape → Prop
  | stop {s} : isSon s x = false → SplayR x 0 s s
  | go {n s s'} : isSon s x = true → StepOk s x → SplayR x n (stepUp s x) s' → SplayR x (n + 1) s s'
def ToTop (x : Nat) (s s' : Shape) : Prop := ∃ l n, l.length ≤ s.length ∧ ChainR s x l ∧ SplayR x n (l.reverse.foldl handOn s) s'
inductive MetR : Option Nat → Shape → Shape → List Nat → Prop
  | stop {s} : MetR none s s []
  | go {x s s1 s' met} : ToTop x s s1 → MetR (g s1 x).up s1 s' met → MetR (some x) s s' (x :: met)
def splice (s : Shape) : Option Nat → List Nat → Shape
  | _, [] => s
  | ahead, x :: r => splice (s.set x { g s x with right := ahead }) (some x) r
def Reach (x : Nat) (s s' : Shape) : Prop := ∃ s1 met, met.length ≤ s.length ∧ MetR (some x) s s1 met ∧ ToTop x (splice s1 none met) s'
inductive LeftR : Nat → Nat → Shape → Shape → Nat → Prop
  | stop {h s} : (g s h).left = none → LeftR 0 h s s h
  | go {n h l s s' r} : (g s h).left = some l → LeftR n l (handOn s l) s' r → LeftR (n + 1) h s s' r

end Lk
/-! Trees of a row: what a shape holds, turning, going down. -/
namespace Lk

inductive T where
  | nil
  | node (l : T) (h : Nat) (f : Bool) (r : T)
namespace T
def root : T → Option Nat
  | nil => none
  | node _ h _ _ => some h
def hs : T → List Nat
  | nil => []
  | node l h _ r => l.hs ++ h :: r.hs
def ord : Bool → T → List Nat
  | _, nil => []
  | b, node l h f r => match (b ^^ f) with
    | true => ord true r ++ h :: ord true l
    | false => ord false l ++ h :: ord false r
def tog : T → T
  | nil => nil
  | node l h f r => node l h (!f) r
def size : T → Nat
  | nil => 0
  | node l _ _ r => l.size + r.size + 1
end T
open T

theorem root_tog {t : T} : t.tog.root = t.root := by cases t <;> rfl
theorem hs_tog {t : T} : t.tog.hs = t.hs := by cases t <;> rfl
theorem size_tog {t : T} : t.tog.size = t.size := by cases t <;> rfl
theorem ord_tog {t : T} {b : Bool} : t.tog.ord b = t.ord (!b) := by
  cases t with
  | nil => rfl
  | node l h f r => cases b <;> cases f <;> rfl
theorem ord_not {t : T} {b : Bool} : t.ord (!b) = (t.ord b).reverse := by
  induction t generalizing b with
  | nil => rfl
  | node l h f r il ir =>
    have a2 := il (b := false); have a4 := ir (b := false)
    simp only [Bool.not_false] at a2 a4
    cases b <;> cases f <;> simp [ord, a2, a4]
theorem ord_perm {t : T} {b : Bool} : (t.ord b).Perm t.hs := by
  induction t generalizing b with
  | nil => exact .refl _
  | node l h f r il ir =>
    have key : ∀ c, (r.ord c ++ h :: l.ord c).Perm (l.hs ++ h :: r.hs) := fun c => by
      have h1 : (r.ord c ++ h :: l.ord c).Perm (r.hs ++ h :: l.hs) := (ir (b := c)).append ((il (b := c)).cons h)
      refine h1.trans ?_
      have h2 : (r.hs ++ h :: l.hs).Perm (h :: (r.hs ++ l.hs)) := List.perm_middle
      have h3 : (l.hs ++ h :: r.hs).Perm (h :: (l.hs ++ r.hs)) := List.perm_middle
      exact h2.trans ((List.perm_append_comm.cons h).trans h3.symm)
    have key2 : ∀ c, (l.ord c ++ h :: r.ord c).Perm (l.hs ++ h :: r.hs) := fun c => (il (b := c)).append ((ir (b := c)).cons h)
    cases b <;> cases f <;> simp only [ord, hs] <;> first | exact key _ | exact key2 _
theorem mem_ord {t : T} {b : Bool} {k : Nat} : k ∈ t.ord b ↔ k ∈ t.hs := ord_perm.mem_iff
theorem nodup_ord {t : T} {b : Bool} : (t.ord b).Nodup ↔ t.hs.Nodup := ord_perm.nodup_iff
theorem root_mem {t : T} {h : Nat} (e : t.root = some h) : h ∈ t.hs := by
  cases t with
  | nil => cases e
  | node l k f r => cases e; simp [hs]

/-- the shape s holds the tree t, hanging at u -/
def At (s : Shape) : Option Nat → T → Prop
  | _, .nil => True
  | u, .node l h f r => h < s.length ∧ (g s h).up = u ∧ (g s h).left = l.root ∧ (g s h).right = r.root ∧ (g s h).tn = f ∧ At s (some h) l ∧ At s (some h) r

theorem At.lt {s : Shape} {u : Option Nat} {t : T} (a : At s u t) {k : Nat} (hk : k ∈ t.hs) : k < s.length := by
  induction t generalizing u with
  | nil => cases hk
  | node l h f r il ir =>
    obtain ⟨a1, _, _, _, _, a2, a3⟩ := a
    simp only [hs, List.mem_append, List.mem_cons] at hk
    rcases hk with hk | rfl | hk
    · exact il a2 hk
    · exact a1
    · exact ir a3 hk
theorem At.frame {s s' : Shape} {u : Option Nat} {t : T} (a : At s u t) (hl : s'.length = s.length) (hf : ∀ k ∈ t.hs, g s' k = g s k) : At s' u t := by
  induction t generalizing u with
  | nil => trivial
  | node l h f r il ir =>
    obtain ⟨a1, a2, a3, a4, a5, a6, a7⟩ := a
    have e : g s' h = g s h := hf h (by simp [hs])
    refine ⟨by omega, ?_, ?_, ?_, ?_, il a6 fun k hk => hf k (by simp [hs, hk]), ir a7 fun k hk => hf k (by simp [hs, hk])⟩ <;> rw [e] <;> assumption
/-- another up for the root -/
theorem At.reup {s s' : Shape} {u v : Option Nat} {t : T} (a : At s u t) (hn : t.hs.Nodup) (hl : s'.length = s.length) (hr : ∀ k, t.root = some k → g s' k = { g s k with up := v }) (hf : ∀ k ∈ t.hs, t.root ≠ some k → g s' k = g s k) : At s' v t := by
  cases t with
  | nil => trivial
  | node l h f r =>
    obtain ⟨a1, a2, a3, a4, a5, a6, a7⟩ := a
    have e := hr h rfl
    simp only [hs, List.nodup_append, List.nodup_cons, List.mem_cons, List.mem_append] at hn
    refine ⟨by omega, by rw [e], by rw [e]; exact a3, by rw [e]; exact a4, by rw [e]; exact a5, a6.frame hl fun k hk => hf k (by simp [hs, hk]) ?_, a7.frame hl fun k hk => hf k (by simp [hs, hk]) ?_⟩
    · intro z; cases z; exact (hn.2.2 h hk h (.inl rfl) rfl)
    · intro z; cases z; exact hn.2.1.1 hk
/-- its root's turned flag is the other one -/
theorem At.retog {s s' : Shape} {u : Option Nat} {t : T} (a : At s u t) (hn : t.hs.Nodup) (hl : s'.length = s.length) (hr : ∀ k, t.root = some k → g s' k = { g s k with tn := !(g s k).tn }) (hf : ∀ k ∈ t.hs, t.root ≠ some k → g s' k = g s k) : At s' u t.tog := by
  cases t with
  | nil => trivial
  | node l h f r =>
    obtain ⟨a1, a2, a3, a4, a5, a6, a7⟩ := a
    have e := hr h rfl
    simp only [hs, List.nodup_append, List.nodup_cons, List.mem_cons, List.mem_append] at hn
    refine ⟨by omega, by rw [e]; exact a2, by rw [e]; exact a3, by rw [e]; exact a4, by rw [e, a5], a6.frame hl fun k hk => hf k (by simp [hs, hk]) ?_, a7.frame hl fun k hk => hf k (by simp [hs, hk]) ?_⟩
    · intro z; cases z; exact (hn.2.2 h hk h (.inl rfl) rfl)
    · intro z; cases z; exact hn.2.1.1 hk
/-- the up of a house of a tree -/
theorem At.up {s : Shape} {u : Option Nat} {t : T} (a : At s u t) {x : Nat} (hx : x ∈ t.hs) : (t.root = some x ∧ (g s x).up = u) ∨ ∃ v, (g s x).up = some v ∧ v ∈ t.hs ∧ ((g s v).left = some x ∨ (g s v).right = some x) := by
  induction t generalizing u with
  | nil => cases hx
  | node l h f r il ir =>
    obtain ⟨a1, a2, a3, a4, a5, a6, a7⟩ := a
    simp only [hs, List.mem_append, List.mem_cons] at hx
    rcases hx with hx | rfl | hx
    · rcases il a6 hx with ⟨e1, e2⟩ | ⟨v, e1, e2, e3⟩
      · exact .inr ⟨h, e2, by simp [hs], .inl (by rw [a3, e1])⟩
      · exact .inr ⟨v, e1, by simp [hs, e2], e3⟩
    · exact .inl ⟨rfl, a2⟩
    · rcases ir a7 hx with ⟨e1, e2⟩ | ⟨v, e1, e2, e3⟩
      · exact .inr ⟨h, e2, by simp [hs], .inr (by rw [a4, e1])⟩
      · exact .inr ⟨v, e1, by simp [hs, e2], e3⟩
/-- the sons of a house of a tree -/
theorem At.sons {s : Shape} {u : Option Nat} {t : T} (a : At s u t) (hn : t.hs.Nodup) {v x : Nat} (hv : v ∈ t.hs) (hx : (g s v).left = some x ∨ (g s v).right = some x) : x ∈ t.hs ∧ t.root ≠ some x ∧ (g s x).up = some v := by
  induction t generalizing u with
  | nil => cases hv
  | node l h f r il ir =>
    obtain ⟨a1, a2, a3, a4, a5, a6, a7⟩ := a
    have hn0 := hn
    simp only [hs, List.nodup_append, List.nodup_cons, List.mem_cons, List.mem_append] at hn
    simp only [hs, List.mem_append, List.mem_cons] at hv
    have hroot : ∀ y, y ∈ l.hs ∨ y ∈ r.hs → (T.node l h f r).root ≠ some y := fun y hy z => by
      cases z
      rcases hy with hy | hy
      · exact hn.2.2 h hy h (.inl rfl) rfl
      · exact hn.2.1.1 hy
    have upOf : ∀ (t' : T) (y : Nat), At s (some h) t' → t'.root = some y → (g s y).up = some h := fun t' y b e => by
      cases t' with
      | nil => cases e
      | node l' h' f' r' => cases e; exact b.2.1
    rcases hv with hv | rfl | hv
    · obtain ⟨e1, e2, e3⟩ := il a6 hn.1 hv
      exact ⟨by simp [hs, e1], hroot x (.inl e1), e3⟩
    · rcases hx with e | e
      · rw [a3] at e
        exact ⟨by simp [hs, root_mem e], hroot x (.inl (root_mem e)), upOf l x a6 e⟩
      · rw [a4] at e
        exact ⟨by simp [hs, root_mem e], hroot x (.inr (root_mem e)), upOf r x a7 e⟩
    · obtain ⟨e1, e2, e3⟩ := ir a7 hn.2.1.2 hv
      exact ⟨by simp [hs, e1], hroot x (.inr e1), e3⟩
/-- a house of a tree that is not its root is a son -/
theorem At.isSon {s : Shape} {u : Option Nat} {t : T} (a : At s u t) {x : Nat} (hx : x ∈ t.hs) (hr : t.root ≠ some x) : Lk.isSon s x = true := by
  rcases a.up hx with ⟨e, _⟩ | ⟨v, e1, e2, e3⟩
  · exact absurd e hr
  · unfold Lk.isSon
    rw [e1]
    rcases e3 with e | e <;> simp [e]

/-! ### handing on -/
theorem g_flip {s : Shape} {h k : Nat} (hl : h < s.length) : g (flip s h) k = if k = h then { g s k with tn := !(g s k).tn } else g s k := by
  unfold flip
  rw [g_set hl]
  by_cases e : k = h
  · rw [if_pos e, if_pos e, e]
  · rw [if_neg e, if_neg e]
theorem g_flipO {s : Shape} {o : Option Nat} {k : Nat} (hl : In s.length o) : g (flipO s o) k = if o = some k then { g s k with tn := !(g s k).tn } else g s k := by
  cases o with
  | none => rfl
  | some h =>
    show g (flip s h) k = _
    rw [g_flip hl]
    by_cases e : k = h
    · rw [if_pos e, if_pos (by rw [e])]
    · rw [if_neg e, if_neg (by intro z; exact e (Option.some.inj z).symm)]
theorem handOn_id {s : Shape} {h : Nat} (e : (g s h).tn = false) : handOn s h = s := by
  unfold handOn; rw [e]
theorem g_handOn {s : Shape} {h k : Nat} (hh : h < s.length) (hl : In s.length (g s h).left) (hr : In s.length (g s h).right) (e : (g s h).tn = true) (hd : (g s h).left = none ∨ (g s h).left ≠ (g s h).right) :
    g (handOn s h) k = if k = h then ⟨(g s h).up, (g s h).right, (g s h).left, false, (g s h).val⟩ else if (g s h).left = some k ∨ (g s h).right = some k then { g s k with tn := !(g s k).tn } else g s k := by
  unfold handOn; rw [e]
  show g (List.set _ _ _) k = _
  rw [g_set (by simp only [len_flipO]; exact hh)]
  by_cases ek : k = h
  · rw [if_pos ek, if_pos ek]
  · rw [if_neg ek, if_neg ek, g_flipO (by simp only [len_flipO]; exact hr), g_flipO hl]
    by_cases e1 : (g s h).left = some k
    · rw [if_pos e1, if_neg (by intro z; rcases hd with q | q; · rw [q] at e1; cases e1
                                · exact q (e1.trans z.symm)), if_pos (.inl e1)]
    · rw [if_neg e1]
      by_cases e2 : (g s h).right = some k
      · rw [if_pos e2, if_pos (.inr e2)]
      · rw [if_neg e2, if_neg (by intro z; rcases z with z | z <;> contradiction)]

theorem In.root {n : Nat} {t : T} (h : ∀ k ∈ t.hs, k < n) : In n t.root := by
  cases t with
  | nil => trivial
  | node l k f r => exact h k (by simp [hs])

/-- the tree behind handing on at its root -/
def T.hand : T → T
  | .nil => .nil
  | .node l h true r => .node r.tog h false l.tog
  | .node l h false r => .node l h false r
theorem hand_ord {t : T} {b : Bool} : t.hand.ord b = t.ord b := by
  cases t with
  | nil => rfl
  | node l h f r => cases f <;> cases b <;> simp [hand, ord, ord_tog]
theorem hand_hs {t : T} : t.hand.hs.Perm t.hs := (ord_perm (b := false)).symm.trans (by rw [hand_ord]; exact ord_perm)
theorem hand_root {t : T} : t.hand.root = t.root := by
  cases t with
  | nil => rfl
  | node l h f r => cases f <;> rfl
theorem At.hand {s : Shape} {u : Option Nat} {t : T} {h : Nat} (a : At s u t) (hn : t.hs.Nodup) (e : t.root = some h) : At (handOn s h) u t.hand ∧ ∀ k, k ∉ t.hs → g (handOn s h) k = g s k := by
  cases t with
  | nil => cases e
  | node l h' f r =>
    cases e
    have a0 := a
    obtain ⟨a1, a2, a3, a4, a5, a6, a7⟩ := a
    cases f with
    | false => rw [handOn_id a5]; exact ⟨a0, fun _ _ => rfl⟩
    | true =>
      simp only [hs, List.nodup_append, List.nodup_cons, List.mem_cons, List.mem_append] at hn
      have il : In s.length (g s h).left := by rw [a3]; exact In.root fun k hk => a6.lt hk
      have ir : In s.length (g s h).right := by rw [a4]; exact In.root fun k hk => a7.lt hk
      have hd : (g s h).left = none ∨ (g s h).left ≠ (g s h).right := by
        rw [a3, a4]
        cases l with
        | nil => exact .inl rfl
        | node _ x _ _ =>
          refine .inr fun z => ?_
          have := root_mem z.symm
          exact hn.2.2 x (by simp [hs]) x (.inr this) rfl
      have G := fun k => g_handOn (k := k) a1 il ir a5 hd
      rw [a3, a4] at G
      have eh : g (handOn s h) h = ⟨u, r.root, l.root, false, (g s h).val⟩ := by rw [G h, if_pos rfl, a2]
      have nl : ∀ k ∈ l.hs, k ≠ h := fun k hk z => hn.2.2 h (z ▸ hk) h (.inl rfl) rfl
      have nr : ∀ k ∈ r.hs, k ≠ h := fun k hk z => hn.2.1.1 (z ▸ hk)
      have dis : ∀ k ∈ l.hs, k ∉ r.hs := fun k hk hk' => hn.2.2 k hk k (.inr hk') rfl
      refine ⟨⟨by rw [len_handOn]; exact a1, by rw [eh], by rw [eh, root_tog], by rw [eh, root_tog], by rw [eh], ?_, ?_⟩, fun k hk => ?_⟩
      · refine a7.retog hn.2.1.2 len_handOn (fun k hk => ?_) fun k hk hk' => ?_
        · have := root_mem hk
          rw [G k, if_neg (nr k this), if_pos (.inr hk)]
        · rw [G k, if_neg (nr k hk), if_neg]
          rintro (z | z)
          · exact dis k (root_mem z) hk
          · exact hk' z
      · refine a6.retog hn.1 len_handOn (fun k hk => ?_) fun k hk hk' => ?_
        · have := root_mem hk
          rw [G k, if_neg (nl k this), if_pos (.inl hk)]
        · rw [G k, if_neg (nl k hk), if_neg]
          rintro (z | z)
          · exact hk' z
          · exact dis k hk (root_mem z)
      · simp only [hs, List.mem_append, List.mem_cons, not_or] at hk
        rw [G k, if_neg hk.2.1, if_neg]
        rintro (z | z)
        · exact hk.1 (root_mem z)
        · exact hk.2.2 (root_mem z)

/-! ### the way down -/
def T.path (x : Nat) : T → List Nat
  | .nil => []
  | .node l h _ r => if x = h then [h] else if x ∈ l.hs then h :: l.path x else h :: r.path x
theorem path_tog {x : Nat} {t : T} : t.tog.path x = t.path x := by cases t <;> rfl
/-- the way to x has no turned house; x stands n deep -/
inductive Cl (x : Nat) : Nat → T → Prop
  | here {l r} : Cl x 0 (.node l x false r)
  | left {n l h r} : Cl x n l → Cl x (n + 1) (.node l h false r)
  | right {n l h r} : Cl x n r → Cl x (n + 1) (.node l h false r)
theorem len_fold {l : List Nat} {s : Shape} : (l.foldl handOn s).length = s.length := by
  induction l generalizing s with
  | nil => rfl
  | cons a l ih => rw [List.foldl_cons, ih, len_handOn]
theorem val_fold {l : List Nat} {s : Shape} {k : Nat} : (g (l.foldl handOn s) k).val = (g s k).val := by
  induction l generalizing s with
  | nil => rfl
  | cons a l ih => rw [List.foldl_cons, ih, val_handOn]
theorem wf_fold {l : List Nat} {s : Shape} (w : Wf s) : Wf (l.foldl handOn s) := by
  induction l generalizing s with
  | nil => exact w
  | cons a l ih => rw [List.foldl_cons]; exact ih (wf_handOn w)

theorem nodup_node {l r : T} {h : Nat} {f : Bool} : (T.node l h f r).hs.Nodup ↔ l.hs.Nodup ∧ r.hs.Nodup ∧ h ∉ l.hs ∧ h ∉ r.hs ∧ ∀ k ∈ l.hs, k ∉ r.hs := by
  simp only [hs, List.nodup_append, List.nodup_cons, List.mem_cons]
  constructor
  · rintro ⟨h1, ⟨h2, h3⟩, h4⟩
    exact ⟨h1, h3, fun z => h4 h z h (.inl rfl) rfl, h2, fun k hk hk' => h4 k hk k (.inr hk') rfl⟩
  · rintro ⟨h1, h3, h4, h2, h5⟩
    exact ⟨h1, ⟨h2, h3⟩, fun a ha b hb e => by
      rcases hb with rfl | hb
      · exact h4 (e ▸ ha)
      · exact h5 a ha (e ▸ hb)⟩

theorem down : ∀ (n : Nat) (t : T), t.size ≤ n → ∀ (s : Shape) (u : Option Nat) (x : Nat), At s u t → t.hs.Nodup → x ∈ t.hs →
    ∃ t' m, At ((t.path x).foldl handOn s) u t' ∧ t'.root = t.root ∧ (∀ b, t'.ord b = t.ord b) ∧ Cl x m t' ∧ ∀ k, k ∉ t.hs → g ((t.path x).foldl handOn s) k = g s k := by
  intro n
  induction n with
  | zero =>
    intro t ht s u x a hn hx
    cases t with
    | nil => cases hx
    | node l h f r => simp [size] at ht
  | succ n ih =>
    intro t ht s u x a hn hx
    cases t with
    | nil => cases hx
    | node l h f r =>
      obtain ⟨b1, fr1⟩ := a.hand hn rfl
      obtain ⟨n1, n2, n3, n4, n5⟩ := nodup_node.mp hn
      have sz : l.size + r.size + 1 ≤ n + 1 := ht
      by_cases e : x = h
      · refine ⟨(T.node l h f r).hand, 0, ?_, hand_root, fun b => hand_ord, ?_, ?_⟩
        · simp only [path, if_pos e, List.foldl_cons, List.foldl_nil]; exact b1
        · subst e; cases f <;> exact .here
        · simp only [path, if_pos e, List.foldl_cons, List.foldl_nil]; exact fr1
      · -- the tree behind handing on: left part L, right part R, x in one of them
        have step : ∀ (L Rt : T), (T.node l h f r).hand = .node L h false Rt → ∀ (S : T), S.size ≤ n → S.path x = S.path x → x ∈ S.hs →
            (∀ k ∈ S.hs, k ∈ (T.node l h f r).hs) → S.hs.Nodup → h ∉ S.hs →
            ((S = L ∧ (∀ k ∈ Rt.hs, k ∉ S.hs)) ∨ (S = Rt ∧ (∀ k ∈ L.hs, k ∉ S.hs))) →
            ∃ t' m, At ((S.path x).foldl handOn (handOn s h)) u t' ∧ t'.root = some h ∧ (∀ b, t'.ord b = (T.node l h f r).ord b) ∧ Cl x m t' ∧ ∀ k, k ∉ (T.node l h f r).hs → g ((S.path x).foldl handOn (handOn s h)) k = g s k := by
          intro L Rt eT S hS _ hxS hsub hnS hhS hcase
          rw [eT] at b1
          obtain ⟨c1, c2, c3, c4, c5, c6, c7⟩ := b1
          have oT : ∀ b, (T.node L h false Rt).ord b = (T.node l h f r).ord b := fun b => by rw [← eT]; exact hand_ord
          rcases hcase with ⟨rfl, hd⟩ | ⟨rfl, hd⟩
          · obtain ⟨t', m, d1, d2, d3, d4, d5⟩ := ih S hS (handOn s h) (some h) x c6 hnS hxS
            refine ⟨.node t' h false Rt, m + 1, ⟨by rw [len_fold]; exact c1, ?_, ?_, ?_, ?_, d1, c7.frame len_fold fun k hk => d5 k (hd k hk)⟩, rfl, fun b => ?_, .left d4, fun k hk => ?_⟩
            · rw [d5 h hhS]; exact c2
            · rw [d5 h hhS, d2]; exact c3
            · rw [d5 h hhS]; exact c4
            · rw [d5 h hhS]; exact c5
            · rw [← oT b]; cases b <;> simp [ord, d3]
            · rw [d5 k fun z => hk (hsub k z)]; exact fr1 k hk
          · obtain ⟨t', m, d1, d2, d3, d4, d5⟩ := ih S hS (handOn s h) (some h) x c7 hnS hxS
            refine ⟨.node L h false t', m + 1, ⟨by rw [len_fold]; exact c1, ?_, ?_, ?_, ?_, c6.frame len_fold fun k hk => d5 k (hd k hk), d1⟩, rfl, fun b => ?_, .right d4, fun k hk => ?_⟩
            · rw [d5 h hhS]; exact c2
            · rw [d5 h hhS]; exact c3
            · rw [d5 h hhS, d2]; exact c4
            · rw [d5 h hhS]; exact c5
            · rw [← oT b]; cases b <;> simp [ord, d3]
            · rw [d5 k fun z => hk (hsub k z)]; exact fr1 k hk
        by_cases hxl : x ∈ l.hs
        · have ep : (T.node l h f r).path x = h :: l.path x := by simp [path, e, hxl]
          rw [ep, List.foldl_cons]
          cases f with
          | false => exact step l r rfl l (by omega) rfl hxl (fun k hk => by simp [hs, hk]) n1 n3 (.inl ⟨rfl, fun k hk hk' => n5 k hk' hk⟩)
          | true =>
            rw [← path_tog (t := l)]
            exact step r.tog l.tog rfl l.tog (by rw [size_tog]; omega) rfl (by rw [hs_tog]; exact hxl) (fun k hk => by rw [hs_tog] at hk; simp [hs, hk]) (by rw [hs_tog]; exact n1) (by rw [hs_tog]; exact n3) (.inr ⟨rfl, fun k hk hk' => by rw [hs_tog] at hk hk'; exact n5 k hk' hk⟩)
        · have hxr : x ∈ r.hs := by
            simp only [hs, List.mem_append, List.mem_cons] at hx
            rcases hx with q | q | q
            · exact absurd q hxl
            · exact absurd q e
            · exact q
          have ep : (T.node l h f r).path x = h :: r.path x := by simp [path, e, hxl]
          rw [ep, List.foldl_cons]
          cases f with
          | false => exact step l r rfl r (by omega) rfl hxr (fun k hk => by simp [hs, hk]) n2 n4 (.inr ⟨rfl, fun k hk hk' => n5 k hk hk'⟩)
          | true =>
            rw [← path_tog (t := r)]
            exact step r.tog l.tog rfl r.tog (by rw [size_tog]; omega) rfl (by rw [hs_tog]; exact hxr) (fun k hk => by rw [hs_tog] at hk; simp [hs, hk]) (by rw [hs_tog]; exact n2) (by rw [hs_tog]; exact n4) (.inl ⟨rfl, fun k hk hk' => by rw [hs_tog] at hk hk'; exact n5 k hk hk'⟩)
/-- going up from x: the way down, the other way round, and what goes on above -/

theorem chain_up {s : Shape} {t : T} : ∀ {u : Option Nat} {h x : Nat} {rest : List Nat}, At s u t → t.hs.Nodup → t.root = some h → x ∈ t.hs → ChainR s h (h :: rest) → ChainR s x ((t.path x).reverse ++ rest) := by
  induction t with
  | nil => intro u h x rest a hn e; cases e
  | node l h' f r il ir =>
    intro u h x rest a hn e hx hc
    obtain rfl : h' = h := Option.some.inj e
    clear e
    have a0 := a
    obtain ⟨a1, a2, a3, a4, a5, a6, a7⟩ := a
    obtain ⟨n1, n2, n3, n4, n5⟩ := nodup_node.mp hn
    have sub : ∀ (S : T), At s (some h') S → S.hs.Nodup → x ∈ S.hs → (∀ k, S.root = some k → k ∈ (T.node l h' f r).hs ∧ k ≠ h') → (∀ {u : Option Nat} {h x : Nat} {rest : List Nat}, At s u S → S.hs.Nodup → S.root = some h → x ∈ S.hs → ChainR s h (h :: rest) → ChainR s x ((S.path x).reverse ++ rest)) →
        ChainR s x ((h' :: S.path x).reverse ++ rest) := fun S b hS hxS hk IH => by
      cases S with
      | nil => cases hxS
      | node l' h0 f' r' =>
        have q := IH (rest := h' :: rest) b hS rfl hxS (.go (a0.isSon (hk h0 rfl).1 (fun z => (hk h0 rfl).2 (Option.some.inj z).symm)) b.2.1 hc)
        rw [List.reverse_cons, List.append_assoc]
        exact q
    by_cases e : x = h'
    · subst e
      simp [path]; exact hc
    · simp only [hs, List.mem_append, List.mem_cons] at hx
      by_cases hxl : x ∈ l.hs
      · simp only [path, if_neg e, if_pos hxl]
        exact sub l a6 n1 hxl (fun k hk => ⟨by simp [hs, root_mem hk], fun z => n3 (z ▸ root_mem hk)⟩) il
      · have hxr : x ∈ r.hs := by
          rcases hx with q | q | q
          · exact absurd q hxl
          · exact absurd q e
          · exact q
        simp only [path, if_neg e, if_neg hxl]
        exact sub r a7 n2 hxr (fun k hk => ⟨by simp [hs, root_mem hk], fun z => n4 (z ▸ root_mem hk)⟩) ir
theorem size_hs {t : T} : t.hs.length = t.size := by
  induction t with
  | nil => rfl
  | node l h f r il ir => simp [T.hs, T.size, il, ir]; omega
/-- so many houses at most -/
theorem pigeon : ∀ (n : Nat) (l : List Nat), l.Nodup → (∀ x ∈ l, x < n) → l.length ≤ n := by
  intro n
  induction n with
  | zero =>
    intro l _ h
    cases l with
    | nil => exact Nat.le_refl _
    | cons a l => exact absurd (h a (by simp)) (by omega)
  | succ n ih =>
    intro l hn h
    by_cases hm : n ∈ l
    · have h1 := List.length_erase_of_mem hm
      have h2 := ih (l.erase n) (hn.erase n) fun x hx => by
        have h3 := (List.Nodup.mem_erase_iff hn).mp hx
        have := h x h3.2
        have := h3.1
        omega
      omega
    · have := ih l hn fun x hx => by
        have h1 := h x hx
        have : x ≠ n := fun e => hm (e ▸ hx)
        omega
      omega
theorem path_len {x : Nat} {t : T} : (t.path x).length ≤ t.size := by
  induction t with
  | nil => exact Nat.le_refl _
  | node l h f r il ir =>
    unfold T.path T.size
    split
    · simp
    · split <;> simp <;> omega
end Lk
/-! Turning a house up within its tree; to the top. -/
namespace Lk
open T

inductive Rot (y z : Nat) : T → T → Prop
  | L {a b c} : Rot y z (.node (.node a y false b) z false c) (.node a y false (.node b z false c))
  | R {a b c} : Rot y z (.node a z false (.node b y false c)) (.node (.node a z false b) y false c)
  | inl {l l' h r} : Rot y z l l' → Rot y z (.node l h false r) (.node l' h false r)
  | inr {l h r r'} : Rot y z r r' → Rot y z (.node l h false r) (.node l h false r')

theorem rot_ex {y : Nat} : ∀ {n : Nat} {t : T}, Cl y (n + 1) t → ∃ z t', Rot y z t t' ∧ Cl y n t' := by
  intro n
  induction n with
  | zero =>
    intro t h
    cases h with
    | left h => cases h with | here => exact ⟨_, _, .L, .here⟩
    | right h => cases h with | here => exact ⟨_, _, .R, .here⟩
  | succ n ih =>
    intro t h
    cases h with
    | left h => obtain ⟨z, t', r, c⟩ := ih h; exact ⟨z, _, .inl r, .left c⟩
    | right h => obtain ⟨z, t', r, c⟩ := ih h; exact ⟨z, _, .inr r, .right c⟩
theorem Rot.hs {y z : Nat} {t t' : T} (r : Rot y z t t') : t'.hs = t.hs := by
  induction r with
  | L => simp [T.hs]
  | R => simp [T.hs]
  | inl _ ih => simp [T.hs, ih]
  | inr _ ih => simp [T.hs, ih]
theorem Rot.ord {y z : Nat} {t t' : T} (r : Rot y z t t') (b : Bool) : t'.ord b = t.ord b := by
  induction r with
  | L => cases b <;> simp [T.ord]
  | R => cases b <;> simp [T.ord]
  | inl _ ih => cases b <;> simp [T.ord, ih] <;> (try simp [T.ord] at ih) <;> simp [ih]
  | inr _ ih => cases b <;> simp [T.ord, ih]
theorem Rot.y_mem {y z : Nat} {t t' : T} (r : Rot y z t t') : y ∈ t.hs := by
  induction r <;> simp_all [T.hs]
theorem Rot.z_mem {y z : Nat} {t t' : T} (r : Rot y z t t') : z ∈ t.hs := by
  induction r <;> simp_all [T.hs]
theorem Rot.root_z {y z : Nat} {t t' : T} (r : Rot y z t t') (hn : t.hs.Nodup) (e : t.root = some z) : t'.root = some y := by
  cases r with
  | L => rfl
  | R => rfl
  | inl r => cases e; exact absurd r.z_mem (nodup_node.mp hn).2.2.1
  | inr r => cases e; exact absurd r.z_mem (nodup_node.mp hn).2.2.2.1
theorem Rot.root_ne {y z : Nat} {t t' : T} (r : Rot y z t t') (e : t.root ≠ some z) : t'.root = t.root := by
  cases r with
  | L => exact absurd rfl e
  | R => exact absurd rfl e
  | inl _ => rfl
  | inr _ => rfl
theorem Rot.not_root {y z : Nat} {t t' : T} (r : Rot y z t t') (hn : t.hs.Nodup) : t.root ≠ some y := by
  cases r with
  | L => intro e; cases e; exact absurd (show y ∈ _ by simp [T.hs]) (nodup_node.mp hn).2.2.1
  | R => intro e; cases e; exact absurd (show y ∈ _ by simp [T.hs]) (nodup_node.mp hn).2.2.2.1
  | inl r => intro e; cases e; exact absurd r.y_mem (nodup_node.mp hn).2.2.1
  | inr r => intro e; cases e; exact absurd r.y_mem (nodup_node.mp hn).2.2.2.1
theorem Cl.mem {x n : Nat} {t : T} (c : Cl x n t) : x ∈ t.hs := by
  induction c <;> simp_all [T.hs]
theorem Cl.root {x : Nat} {t : T} (c : Cl x 0 t) : t.root = some x := by cases c; rfl
theorem Cl.not_root {x n : Nat} {t : T} (c : Cl x (n + 1) t) (hn : t.hs.Nodup) : t.root ≠ some x := by
  cases c with
  | left c => intro e; cases e; exact absurd c.mem (nodup_node.mp hn).2.2.1
  | right c => intro e; cases e; exact absurd c.mem (nodup_node.mp hn).2.2.2.1
/-- what turning up y tells of z -/
theorem Rot.zup {y z : Nat} {t t' : T} (r : Rot y z t t') {s : Shape} {u : Option Nat} (a : At s u t) : (g s y).up = some z ∧ (g s y).tn = false ∧ (g s z).tn = false := by
  induction r generalizing u with
  | L => obtain ⟨_, _, _, _, q, ⟨_, p, _, _, q', _, _⟩, _⟩ := a; exact ⟨p, q', q⟩
  | R => obtain ⟨_, _, _, _, q, _, ⟨_, p, _, _, q', _, _⟩⟩ := a; exact ⟨p, q', q⟩
  | inl _ ih => exact ih a.2.2.2.2.2.1
  | inr _ ih => exact ih a.2.2.2.2.2.2
/-- a son of y stands no deeper behind it -/
theorem Rot.son {y z : Nat} {t t' : T} (r : Rot y z t t') {s : Shape} {u : Option Nat} (a : At s u t) (hn : t.hs.Nodup) (hu : ∀ v, u = some v → v ∉ t.hs) {x n : Nat} (hx : (g s x).up = some y) (c : Cl x n t) : ∃ m, m ≤ n ∧ Cl x m t' := by
  induction r generalizing u n with
  | @L a' b c' =>
    obtain ⟨n1, n2, n3, n4, n5⟩ := nodup_node.mp hn
    obtain ⟨m1, m2, m3, m4, m5⟩ := nodup_node.mp n1
    obtain ⟨_, p, _, _, q, ⟨_, p', _, _, q', _, _⟩, a7⟩ := a
    cases c with
    | here =>
      rw [p] at hx
      exact absurd (show y ∈ (T.node (T.node a' y false b) z false c').hs by simp [T.hs]) (hu y hx)
    | left c =>
      cases c with
      | here =>
        rw [p'] at hx; cases hx
        exact absurd (show y ∈ (T.node a' y false b).hs by simp [T.hs]) n3
      | left c => exact ⟨_, Nat.le_succ _, .left c⟩
      | right c => exact ⟨_, Nat.le_refl _, .right (.left c)⟩
    | right c =>
      have := c.mem
      rcases a7.up this with ⟨_, e⟩ | ⟨v, e, e2, _⟩
      · rw [e] at hx; cases hx
        exact absurd (show y ∈ (T.node a' y false b).hs by simp [T.hs]) n3
      · rw [e] at hx; cases hx
        exact absurd e2 (n5 y (by simp [T.hs]))
  | @R a' b c' =>
    obtain ⟨n1, n2, n3, n4, n5⟩ := nodup_node.mp hn
    obtain ⟨_, p, _, _, q, a7, ⟨_, p', _, _, q', _, _⟩⟩ := a
    cases c with
    | here =>
      rw [p] at hx
      exact absurd (show y ∈ (T.node a' z false (T.node b y false c')).hs by simp [T.hs]) (hu y hx)
    | right c =>
      cases c with
      | here =>
        rw [p'] at hx; cases hx
        exact absurd (show y ∈ (T.node b y false c').hs by simp [T.hs]) n4
      | right c => exact ⟨_, Nat.le_succ _, .right c⟩
      | left c => exact ⟨_, Nat.le_refl _, .left (.right c)⟩
    | left c =>
      have := c.mem
      rcases a7.up this with ⟨_, e⟩ | ⟨v, e, e2, _⟩
      · rw [e] at hx; cases hx
        exact absurd (show y ∈ (T.node b y false c').hs by simp [T.hs]) n4
      · rw [e] at hx; cases hx
        exact absurd (show y ∈ (T.node b y false c').hs by simp [T.hs]) (n5 y e2)
  | @inl l l' h r0 r ih =>
    obtain ⟨n1, n2, n3, n4, n5⟩ := nodup_node.mp hn
    obtain ⟨_, p, _, _, q, a6, a7⟩ := a
    cases c with
    | here => rw [p] at hx; exact absurd (show y ∈ (T.node l x false r0).hs by simp [T.hs, r.y_mem]) (hu y hx)
    | left c =>
      obtain ⟨m, h1, h2⟩ := ih a6 n1 (fun v e => (Option.some.inj e) ▸ n3) c
      exact ⟨m + 1, by omega, .left h2⟩
    | right c =>
      rcases a7.up c.mem with ⟨_, e⟩ | ⟨v, e, e2, _⟩
      · rw [e] at hx; cases hx; exact absurd r.y_mem n3
      · rw [e] at hx; cases hx; exact absurd e2 (n5 y r.y_mem)
  | @inr l h r0 r0' r ih =>
    obtain ⟨n1, n2, n3, n4, n5⟩ := nodup_node.mp hn
    obtain ⟨_, p, _, _, q, a6, a7⟩ := a
    cases c with
    | here => rw [p] at hx; exact absurd (show y ∈ (T.node l x false r0).hs by simp [T.hs, r.y_mem]) (hu y hx)
    | right c =>
      obtain ⟨m, h1, h2⟩ := ih a7 n2 (fun v e => (Option.some.inj e) ▸ n4) c
      exact ⟨m + 1, by omega, .right h2⟩
    | left c =>
      rcases a6.up c.mem with ⟨_, e⟩ | ⟨v, e, e2, _⟩
      · rw [e] at hx; cases hx; exact absurd r.y_mem n4
      · rw [e] at hx; cases hx; exact absurd r.y_mem (n5 y e2)

/-! ### what turning up does, house by house -/
structure TurnSpec (s s' : Shape) (y z : Nat) (d : Bool) (b uz : Option Nat) (son dz : Bool) : Prop where
  len : s'.length = s.length
  gy : g s' y = { (g s y).setSon (!d) (some z) with up := uz }
  gz : g s' z = { (g s z).setSon d b with up := some y }
  gb : ∀ k, b = some k → g s' k = { g s k with up := some z }
  gu : ∀ k, uz = some k → son = true → g s' k = (g s k).setSon dz (some y)
  gk : ∀ k, k ≠ y → k ≠ z → b ≠ some k → (uz = some k → son = false) → g s' k = g s k

theorem g_upO {s : Shape} {v o : Option Nat} {k : Nat} (hl : In s.length o) : g (upO s v o) k = if o = some k then { g s k with up := v } else g s k := by
  cases o with
  | none => rfl
  | some h =>
    show g (setUp s h v) k = _
    unfold setUp
    rw [g_set hl]
    by_cases e : k = h
    · rw [if_pos e, if_pos (by rw [e]), e]
    · rw [if_neg e, if_neg (by intro z; exact e (Option.some.inj z).symm)]
theorem son_setSon_ne {p : Part} {d : Bool} {v : Option Nat} : (p.setSon d v).son (!d) = p.son (!d) := by cases d <;> rfl
theorem turn_spec {s : Shape} {y z : Nat} (hy : y < s.length) (w : Wf s) (e : (g s y).up = some z) (ty : (g s y).tn = false) (tz : (g s z).tn = false)
    (hyz : y ≠ z) (hb1 : (g s y).son (!sideOf s y) ≠ some y) (hb2 : (g s y).son (!sideOf s y) ≠ some z) (hu1 : (g s z).up ≠ some y) (hu2 : (g s z).up ≠ some z)
    (hub : ∀ k, (g s z).up = some k → (g s y).son (!sideOf s y) ≠ some k) :
    TurnSpec s (turnUp s y) y z (sideOf s y) ((g s y).son (!sideOf s y)) (g s z).up (isSon s z) (sideOf s z) := by
  have hz : z < s.length := by have := (w.at y).1; rw [e] at this; exact this
  have hbi : In s.length ((g s y).son (!sideOf s y)) := (w.at y).son _
  have hui : In s.length (g s z).up := (w.at z).1
  have e0 : turnUp s y = turn2 (turn1 s y z) y z (sideOf s y) (g s z).up := by
    unfold turnUp; rw [e]
    show turn2 (turn1 (handOn (handOn s z) y) y z) y z (sideOf (handOn (handOn s z) y) y) (g (handOn (handOn s z) y) z).up = _
    rw [handOn_id tz, handOn_id ty]
  -- the first store
  have G1 : ∀ k, g (turn1 s y z) k = if (g s z).up = some k ∧ isSon s z = true then (g s k).setSon (sideOf s z) (some y) else g s k := fun k => by
    unfold turn1
    cases eu : (g s z).up with
    | none => simp
    | some u =>
      rw [eu] at hui
      cases hs : isSon s z with
      | false => simp
      | true =>
        show g (setSon s u (sideOf s z) (some y)) k = _
        unfold setSon
        rw [g_set hui]
        by_cases q : k = u
        · subst q; simp
        · rw [if_neg q, if_neg (by rintro ⟨z, _⟩; exact q (Option.some.inj z).symm)]
  have f1y : g (turn1 s y z) y = g s y := by rw [G1, if_neg (by rintro ⟨q, _⟩; exact hu1 q)]
  have f1z : g (turn1 s y z) z = g s z := by rw [G1, if_neg (by rintro ⟨q, _⟩; exact hu2 q)]
  have ebt : (g (turn1 s y z) y).son (!sideOf s y) = (g s y).son (!sideOf s y) := by rw [f1y]
  rw [e0]
  generalize hd : sideOf s y = d at *
  generalize hbb : (g s y).son (!d) = b at *
  unfold turn2
  rw [ebt]
  have L1 : (turn1 s y z).length = s.length := len_turn1
  -- the stores one behind another
  have G2 : ∀ k, g (setSon (turn1 s y z) z d b) k = if k = z then (g s z).setSon d b else g (turn1 s y z) k := fun k => by
    unfold setSon; rw [g_set (by rw [L1]; exact hz), f1z]
  have G3 : ∀ k, g (upO (setSon (turn1 s y z) z d b) (some z) b) k = if b = some k then { g s k with up := some z } else g (setSon (turn1 s y z) z d b) k := fun k => by
    rw [g_upO (by rw [len_setSon, L1]; exact hbi)]
    by_cases q : b = some k
    · rw [if_pos q, if_pos q, G2, if_neg (by rintro rfl; exact hb2 q), G1, if_neg (by rintro ⟨q', _⟩; exact hub k q' q)]
    · rw [if_neg q, if_neg q]
  have G4 : ∀ k, g (setSon (upO (setSon (turn1 s y z) z d b) (some z) b) y (!d) (some z)) k = if k = y then (g s y).setSon (!d) (some z) else g (upO (setSon (turn1 s y z) z d b) (some z) b) k := fun k => by
    unfold setSon
    rw [g_set (by show y < (upO (setSon (turn1 s y z) z d b) (some z) b).length; rw [len_upO, len_setSon, L1]; exact hy)]
    by_cases q : k = y
    · rw [if_pos q, if_pos q]
      show (g (upO (setSon (turn1 s y z) z d b) (some z) b) y).setSon (!d) (some z) = _
      rw [G3, if_neg hb1, G2, if_neg hyz, f1y]
    · rw [if_neg q, if_neg q]
  have G5 : ∀ k, g (setUp (setSon (upO (setSon (turn1 s y z) z d b) (some z) b) y (!d) (some z)) z (some y)) k = if k = z then { (g s z).setSon d b with up := some y } else g (setSon (upO (setSon (turn1 s y z) z d b) (some z) b) y (!d) (some z)) k := fun k => by
    unfold setUp
    rw [g_set (by rw [len_setSon, len_upO, len_setSon, L1]; exact hz), G4 z, if_neg (Ne.symm hyz), G3 z, if_neg hb2, G2 z, if_pos rfl]
  have G6 : ∀ k, g (setUp (setUp (setSon (upO (setSon (turn1 s y z) z d b) (some z) b) y (!d) (some z)) z (some y)) y (g s z).up) k = if k = y then { (g s y).setSon (!d) (some z) with up := (g s z).up } else g (setUp (setSon (upO (setSon (turn1 s y z) z d b) (some z) b) y (!d) (some z)) z (some y)) k := fun k => by
    rw [show ∀ X : Shape, setUp X y (g s z).up = X.set y { g X y with up := (g s z).up } from fun _ => rfl]
    rw [g_set (by rw [len_setUp, len_setSon, len_upO, len_setSon, L1]; exact hy), G5 y, if_neg hyz, G4 y, if_pos rfl]
  refine ⟨by rw [len_setUp, len_setUp, len_setSon, len_upO, len_setSon, L1], by rw [G6, if_pos rfl], by rw [G6, if_neg (Ne.symm hyz), G5, if_pos rfl], fun k hk => ?_, fun k hk hs => ?_, fun k h1 h2 h3 h4 => ?_⟩
  · have k1 : k ≠ y := by rintro rfl; exact hb1 hk
    have k2 : k ≠ z := by rintro rfl; exact hb2 hk
    rw [G6, if_neg k1, G5, if_neg k2, G4, if_neg k1, G3, if_pos hk]
  · have k1 : k ≠ y := by rintro rfl; exact hu1 hk
    have k2 : k ≠ z := by rintro rfl; exact hu2 hk
    rw [G6, if_neg k1, G5, if_neg k2, G4, if_neg k1, G3, if_neg (hub k hk), G2, if_neg k2, G1, if_pos ⟨hk, hs⟩]
  · rw [G6, if_neg h1, G5, if_neg h2, G4, if_neg h1, G3, if_neg h3, G2, if_neg h2, G1, if_neg]
    rintro ⟨q, q'⟩
    rw [h4 q] at q'; cases q'
end Lk
/-! The tree behind turning up; steps; to the top. -/
namespace Lk
open T

theorem side_left {s : Shape} {x v : Nat} (e : (g s x).up = some v) (h : (g s v).left = some x) : sideOf s x = false := by
  unfold sideOf; rw [e]; simp [h]
theorem side_right {s : Shape} {x v : Nat} (e : (g s x).up = some v) (h : (g s v).left ≠ some x) : sideOf s x = true := by
  unfold sideOf; rw [e]; simp [h]

theorem Rot.at_ {y z : Nat} {t t' : T} (r : Rot y z t t') {s s' : Shape} {u : Option Nat} (a : At s u t) (hn : t.hs.Nodup) (hu : ∀ v, u = some v → v ∉ t.hs)
    (S : TurnSpec s s' y z (sideOf s y) ((g s y).son (!sideOf s y)) (g s z).up (isSon s z) (sideOf s z)) : At s' u t' := by
  induction r generalizing u with
  | @L a' b c' =>
    have h0 := hn
    obtain ⟨n1, n2, n3, n4, n5⟩ := nodup_node.mp hn
    obtain ⟨m1, m2, m3, m4, m5⟩ := nodup_node.mp n1
    obtain ⟨z1, z2, z3, z4, z5, ⟨y1, y2, y3, y4, y5, aa, ab⟩, ac⟩ := a
    have sd : sideOf s y = false := side_left y2 z3
    rw [sd] at S
    have eb : (g s y).son (!false) = b.root := y4
    rw [eb, z2] at S
    have fr : ∀ (q : T), (∀ k ∈ q.hs, k ≠ y ∧ k ≠ z ∧ b.root ≠ some k ∧ k ∈ (T.node (T.node a' y false b) z false c').hs) → ∀ k ∈ q.hs, g s' k = g s k := fun q hq k hk => by
      obtain ⟨k1, k2, k3, k4⟩ := hq k hk
      exact S.gk k k1 k2 k3 fun e => absurd k4 (hu k e)
    have hbz : ∀ k ∈ b.hs, k ≠ y ∧ k ≠ z := fun k hk => ⟨fun e => m4 (e ▸ hk), fun e => n3 (e ▸ (by simp [T.hs, hk]))⟩
    refine ⟨by rw [S.len]; exact y1, by rw [S.gy], by rw [S.gy]; exact y3, by rw [S.gy]; rfl, by rw [S.gy]; exact y5, ?_, by rw [S.len]; exact z1, by rw [S.gz], by rw [S.gz]; rfl, by rw [S.gz]; exact z4, by rw [S.gz]; exact z5, ?_, ?_⟩
    · refine aa.frame S.len (fr a' fun k hk => ⟨fun e => m3 (e ▸ hk), fun e => n3 (e ▸ (by simp [T.hs, hk])), fun e => m5 k hk (root_mem e), by simp [T.hs, hk]⟩)
    · refine ab.reup m2 S.len (fun k hk => S.gb k hk) fun k hk hk' => ?_
      exact S.gk k (hbz k hk).1 (hbz k hk).2 hk' fun e => absurd (show k ∈ (T.node (T.node a' y false b) z false c').hs by simp [T.hs, hk]) (hu k e)
    · refine ac.frame S.len (fr c' fun k hk => ⟨fun e => n5 y (by simp [T.hs]) (e ▸ hk), fun e => n4 (e ▸ hk), fun e => n5 k (by simp [T.hs, root_mem e]) hk, by simp [T.hs, hk]⟩)
  | @R a' b c' =>
    obtain ⟨n1, n2, n3, n4, n5⟩ := nodup_node.mp hn
    obtain ⟨m1, m2, m3, m4, m5⟩ := nodup_node.mp n2
    obtain ⟨z1, z2, z3, z4, z5, aa, ⟨y1, y2, y3, y4, y5, ab, ac⟩⟩ := a
    have sd : sideOf s y = true := side_right y2 (by rw [z3]; intro e; exact n5 y (root_mem e) (by simp [T.hs]))
    rw [sd] at S
    have eb : (g s y).son (!true) = b.root := y3
    rw [eb, z2] at S
    have fr : ∀ (q : T), (∀ k ∈ q.hs, k ≠ y ∧ k ≠ z ∧ b.root ≠ some k ∧ k ∈ (T.node a' z false (T.node b y false c')).hs) → ∀ k ∈ q.hs, g s' k = g s k := fun q hq k hk => by
      obtain ⟨k1, k2, k3, k4⟩ := hq k hk
      exact S.gk k k1 k2 k3 fun e => absurd k4 (hu k e)
    have hbz : ∀ k ∈ b.hs, k ≠ y ∧ k ≠ z := fun k hk => ⟨fun e => m3 (e ▸ hk), fun e => n4 (e ▸ (by simp [T.hs, hk]))⟩
    refine ⟨by rw [S.len]; exact y1, by rw [S.gy], by rw [S.gy]; rfl, by rw [S.gy]; exact y4, by rw [S.gy]; exact y5, ⟨by rw [S.len]; exact z1, by rw [S.gz], by rw [S.gz]; exact z3, by rw [S.gz]; rfl, by rw [S.gz]; exact z5, ?_, ?_⟩, ?_⟩
    · refine aa.frame S.len (fr a' fun k hk => ⟨fun e => n5 k hk (e ▸ (by simp [T.hs])), fun e => n3 (e ▸ hk), fun e => n5 k hk (by simp [T.hs, root_mem e]), by simp [T.hs, hk]⟩)
    · refine ab.reup m1 S.len (fun k hk => S.gb k hk) fun k hk hk' => ?_
      exact S.gk k (hbz k hk).1 (hbz k hk).2 hk' fun e => absurd (show k ∈ (T.node a' z false (T.node b y false c')).hs by simp [T.hs, hk]) (hu k e)
    · refine ac.frame S.len (fr c' fun k hk => ⟨fun e => m4 (e ▸ hk), fun e => n4 (e ▸ (by simp [T.hs, hk])), fun e => m5 k (root_mem e) hk, by simp [T.hs, hk]⟩)
  | @inl l l' h r0 r ih =>
    obtain ⟨n1, n2, n3, n4, n5⟩ := nodup_node.mp hn
    obtain ⟨a1, a2, a3, a4, a5, a6, a7⟩ := a
    have ih' := ih a6 n1 fun v e => (Option.some.inj e) ▸ n3
    have hy : h ≠ y := fun e => n3 (e ▸ r.y_mem)
    have hz : h ≠ z := fun e => n3 (e ▸ r.z_mem)
    obtain ⟨ey, _, _⟩ := r.zup a6
    -- the son of y between stands in l
    have hb : ∀ k, (g s y).son (!sideOf s y) = some k → k ∈ l.hs := fun k e => (a6.sons n1 r.y_mem (by cases hd : sideOf s y <;> rw [hd] at e; · exact .inr e
                                                                                                       · exact .inl e)).1
    have eh : g s' h = { g s h with left := l'.root } := by
      by_cases e : l.root = some z
      · have uz : (g s z).up = some h := by
          rcases a6.up r.z_mem with ⟨_, q⟩ | ⟨v, q, q2, q3⟩
          · exact q
          · exact absurd e (by have := (a6.sons n1 q2 q3).2.1; exact this)
        have lz : (g s h).left = some z := by rw [a3, e]
        have so : isSon s z = true := by unfold isSon; rw [uz]; simp [lz]
        rw [S.gu h uz so, side_left uz lz, r.root_z n1 e]; rfl
      · have uz : (g s z).up ≠ some h := by
          rcases a6.up r.z_mem with ⟨q, _⟩ | ⟨v, q, q2, q3⟩
          · exact absurd q e
          · rw [q]; intro q4; exact n3 ((Option.some.inj q4) ▸ q2)
        rw [S.gk h hy hz (fun q => n3 (hb h q)) (fun q => absurd q uz), r.root_ne e, ← a3]
    have frr : ∀ k ∈ r0.hs, g s' k = g s k := fun k hk => by
      refine S.gk k (fun e => n5 y r.y_mem (e ▸ hk)) (fun e => n5 z r.z_mem (e ▸ hk)) (fun e => n5 k (hb k e) hk) fun e => ?_
      rcases a6.up r.z_mem with ⟨_, q⟩ | ⟨v, q, q2, q3⟩
      · rw [q] at e; exact absurd ((Option.some.inj e) ▸ hk) n4
      · rw [q] at e; exact absurd ((Option.some.inj e) ▸ hk) (n5 v q2)
    exact ⟨by rw [S.len]; exact a1, by rw [eh]; exact a2, by rw [eh], by rw [eh]; exact a4, by rw [eh]; exact a5, ih', a7.frame S.len frr⟩
  | @inr l h r0 r0' r ih =>
    obtain ⟨n1, n2, n3, n4, n5⟩ := nodup_node.mp hn
    obtain ⟨a1, a2, a3, a4, a5, a6, a7⟩ := a
    have ih' := ih a7 n2 fun v e => (Option.some.inj e) ▸ n4
    have hy : h ≠ y := fun e => n4 (e ▸ r.y_mem)
    have hz : h ≠ z := fun e => n4 (e ▸ r.z_mem)
    obtain ⟨ey, _, _⟩ := r.zup a7
    have hb : ∀ k, (g s y).son (!sideOf s y) = some k → k ∈ r0.hs := fun k e => (a7.sons n2 r.y_mem (by cases hd : sideOf s y <;> rw [hd] at e; · exact .inr e
                                                                                                        · exact .inl e)).1
    have eh : g s' h = { g s h with right := r0'.root } := by
      by_cases e : r0.root = some z
      · have uz : (g s z).up = some h := by
          rcases a7.up r.z_mem with ⟨_, q⟩ | ⟨v, q, q2, q3⟩
          · exact q
          · exact absurd e (by have := (a7.sons n2 q2 q3).2.1; exact this)
        have rz : (g s h).right = some z := by rw [a4, e]
        have lz : (g s h).left ≠ some z := by rw [a3]; intro q; exact n5 z (root_mem q) r.z_mem
        have so : isSon s z = true := by unfold isSon; rw [uz]; simp [rz]
        rw [S.gu h uz so, side_right uz lz, r.root_z n2 e]; rfl
      · have uz : (g s z).up ≠ some h := by
          rcases a7.up r.z_mem with ⟨q, _⟩ | ⟨v, q, q2, q3⟩
          · exact absurd q e
          · rw [q]; intro q4; exact n4 ((Option.some.inj q4) ▸ q2)
        rw [S.gk h hy hz (fun q => n4 (hb h q)) (fun q => absurd q uz), r.root_ne e, ← a4]
    have frl : ∀ k ∈ l.hs, g s' k = g s k := fun k hk => by
      refine S.gk k (fun e => n5 k hk (e ▸ r.y_mem)) (fun e => n5 k hk (e ▸ r.z_mem)) (fun e => n5 k hk (hb k e)) fun e => ?_
      rcases a7.up r.z_mem with ⟨_, q⟩ | ⟨v, q, q2, q3⟩
      · rw [q] at e; exact absurd ((Option.some.inj e) ▸ hk) n3
      · rw [q] at e; exact absurd q2 (n5 v ((Option.some.inj e) ▸ hk))
    exact ⟨by rw [S.len]; exact a1, by rw [eh]; exact a2, by rw [eh]; exact a3, by rw [eh], by rw [eh]; exact a5, a6.frame S.len frl, ih'⟩

/-- within a tree going up comes to an end -/
theorem At.rank {s : Shape} {t : T} : ∀ {u : Option Nat}, At s u t → t.hs.Nodup → (∀ v, u = some v → v ∉ t.hs) → ∃ D : Nat → Nat, ∀ x ∈ t.hs, ∀ v ∈ t.hs, (g s x).up = some v → D v < D x := by
  induction t with
  | nil => intro _ _ _ _; exact ⟨fun _ => 0, fun x hx => by cases hx⟩
  | node l h f r il ir =>
    intro u a hn hu
    obtain ⟨n1, n2, n3, n4, n5⟩ := nodup_node.mp hn
    obtain ⟨a1, a2, a3, a4, a5, a6, a7⟩ := a
    obtain ⟨D1, d1⟩ := il a6 n1 fun v e => (Option.some.inj e) ▸ n3
    obtain ⟨D2, d2⟩ := ir a7 n2 fun v e => (Option.some.inj e) ▸ n4
    have key : ∀ x, x ∈ (T.node l h f r).hs → x = h ∨ (x ≠ h ∧ x ∈ l.hs) ∨ (x ≠ h ∧ x ∉ l.hs ∧ x ∈ r.hs) := fun x hx => by
      simp only [T.hs, List.mem_append, List.mem_cons] at hx
      rcases hx with q | q | q
      · exact .inr (.inl ⟨fun e => n3 (e ▸ q), q⟩)
      · exact .inl q
      · exact .inr (.inr ⟨fun e => n4 (e ▸ q), fun e => n5 x e q, q⟩)
    refine ⟨fun k => if k = h then 0 else if k ∈ l.hs then D1 k + 1 else D2 k + 1, fun x hx v hv e => ?_⟩
    have hxh : x ≠ h := by rintro rfl; rw [a2] at e; exact hu v e hv
    dsimp only
    rw [if_neg hxh]
    rcases key x hx with q | ⟨_, q⟩ | ⟨_, q, q'⟩
    · exact absurd q hxh
    · rw [if_pos q]
      rcases a6.up q with ⟨_, e'⟩ | ⟨v', e', q2, _⟩
      · rw [e] at e'; cases e'; rw [if_pos rfl]; exact Nat.succ_pos _
      · rw [e] at e'; cases e'
        rw [if_neg (by rintro rfl; exact n3 q2), if_pos q2]
        exact Nat.succ_lt_succ (d1 x q v q2 e)
    · rw [if_neg q]
      rcases a7.up q' with ⟨_, e'⟩ | ⟨v', e', q2, _⟩
      · rw [e] at e'; cases e'; rw [if_pos rfl]; exact Nat.succ_pos _
      · rw [e] at e'; cases e'
        rw [if_neg (by rintro rfl; exact n4 q2), if_neg (fun z => n5 v z q2)]
        exact Nat.succ_lt_succ (d2 x q' v q2 e)

/-- turning up y, a house of a row's tree that is not its root: the tree's root is a top -/
theorem turn_at {y z : Nat} {t t' : T} (r : Rot y z t t') {s : Shape} {u : Option Nat} (w : Wf s) (a : At s u t) (hn : t.hs.Nodup) (hu : ∀ v, u = some v → v ∉ t.hs)
    (ht : ∀ k, t.root = some k → isSon s k = false) : At (turnUp s y) u t' ∧ ∀ k, k ∉ t.hs → g (turnUp s y) k = g s k := by
  obtain ⟨ey, ty, tz⟩ := r.zup a
  obtain ⟨D, hD⟩ := a.rank hn hu
  have ym := r.y_mem
  have zm := r.z_mem
  have dy := hD y ym z zm ey
  have bs : ∀ k, (g s y).son (!sideOf s y) = some k → k ∈ t.hs ∧ D y < D k := fun k e => by
    have := a.sons hn ym (x := k) (by cases hd : sideOf s y <;> rw [hd] at e; · exact .inr e
                                      · exact .inl e)
    exact ⟨this.1, hD k this.1 y ym this.2.2⟩
  have uz : ∀ k, (g s z).up = some k → k ∈ t.hs → D k < D z := fun k e hk => hD z zm k hk e
  have S := turn_spec (a.lt ym) w ey ty tz (by rintro rfl; omega) (fun e => by have := (bs y e).2; omega) (fun e => by have := (bs z e).2; omega)
    (fun e => by have := uz y e ym; omega) (fun e => by have := uz z e zm; omega) (fun k e e' => by have h1 := bs k e'; have := uz k e h1.1; omega)
  refine ⟨r.at_ a hn hu S, fun k hk => S.gk k (fun e => hk (e ▸ ym)) (fun e => hk (e ▸ zm)) (fun e => hk (bs k e).1) fun e => ?_⟩
  rcases a.up zm with ⟨q, _⟩ | ⟨v, q, q2, _⟩
  · exact ht z q
  · rw [e] at q; exact absurd ((Option.some.inj q) ▸ q2) hk

/-- a top's tree: its root is no son -/
def TopOf (s : Shape) (t : T) : Prop := ∀ k, t.root = some k → isSon s k = false

/-- the sons of a house outside a tree are outside -/
theorem isSon_frame {s s' : Shape} {u : Option Nat} {t' : T} {k : Nat} (a : At s' u t') (e : t'.root = some k) (hf : ∀ v, u = some v → g s' v = g s v) (h : ∀ v, u = some v → (g s v).left ≠ some k ∧ (g s v).right ≠ some k) : isSon s' k = false := by
  cases t' with
  | nil => cases e
  | node l h' f r =>
    cases e
    unfold isSon
    rw [a.2.1]
    cases u with
    | none => rfl
    | some v =>
      have := h v rfl
      show ((g s' v).left == some k || (g s' v).right == some k) = false
      rw [hf v rfl]; simp [this.1, this.2]

theorem root_up {s : Shape} {u : Option Nat} {t : T} {x : Nat} (a : At s u t) (e : t.root = some x) : (g s x).up = u := by
  cases t with
  | nil => cases e
  | node l h f r => cases e; exact a.2.1
/-- steps until x is the root -/
theorem splay {x : Nat} : ∀ (n : Nat) (t : T) (s : Shape) (u : Option Nat), Cl x n t → Wf s → At s u t → t.hs.Nodup → (∀ v, u = some v → v ∉ t.hs ∧ ∀ k ∈ t.hs, (g s v).left ≠ some k ∧ (g s v).right ≠ some k) →
    ∃ m s' t', SplayR x m s s' ∧ At s' u t' ∧ t'.hs = t.hs ∧ (∀ b, t'.ord b = t.ord b) ∧ Cl x 0 t' ∧ (∀ k, k ∉ t.hs → g s' k = g s k) := by
  intro n
  induction n using Nat.strongRecOn with
  | _ n ih =>
    intro t s u c w a hn hu
    have top : ∀ (s1 : Shape) (t1 : T), At s1 u t1 → t1.hs = t.hs → (∀ k, k ∉ t.hs → g s1 k = g s k) → ∀ k, t1.root = some k → isSon s1 k = false := fun s1 t1 a1 e1 f1 k hk => by
      refine isSon_frame (s := s) a1 hk (fun v hv => f1 v (hu v hv).1) fun v hv => (hu v hv).2 k (e1 ▸ root_mem hk)
    cases n with
    | zero => exact ⟨0, s, t, .stop (top s t a rfl (fun _ _ => rfl) x c.root), a, rfl, fun _ => rfl, c, fun _ _ => rfl⟩
    | succ n =>
      have nr := c.not_root hn
      have so := a.isSon c.mem nr
      obtain ⟨v, ev, vm, vs⟩ : ∃ v, (g s x).up = some v ∧ v ∈ t.hs ∧ ((g s v).left = some x ∨ (g s v).right = some x) := by
        rcases a.up c.mem with ⟨q, _⟩ | q
        · exact absurd q nr
        · exact q
      have hux : ∀ v, u = some v → v ∉ t.hs := fun v e => (hu v e).1
      -- one turning of x
      have turnx : ∀ (m : Nat) (t1 : T) (s1 : Shape), Cl x (m + 1) t1 → Wf s1 → At s1 u t1 → t1.hs = t.hs → (∀ b, t1.ord b = t.ord b) → (∀ k, k ∉ t.hs → g s1 k = g s k) →
          ∃ t2, Cl x m t2 ∧ Wf (turnUp s1 x) ∧ At (turnUp s1 x) u t2 ∧ t2.hs = t.hs ∧ (∀ b, t2.ord b = t.ord b) ∧ (∀ k, k ∉ t.hs → g (turnUp s1 x) k = g s k) := by
        intro m t1 s1 c1 w1 a1 h1 o1 f1
        obtain ⟨z, t2, r, c2⟩ := rot_ex c1
        obtain ⟨b1, b2⟩ := turn_at r w1 a1 (h1 ▸ hn) (fun v e => h1 ▸ hux v e) (top s1 t1 a1 h1 f1)
        exact ⟨t2, c2, wf_turnUp w1 (a1.lt c1.mem), b1, r.hs.trans h1, fun b => (r.ord b).trans (o1 b), fun k hk => (b2 k (h1 ▸ hk)).trans (f1 k hk)⟩
      -- the step as a whole
      have step : StepOk s x ∧ ∃ m t1, m ≤ n ∧ Cl x m t1 ∧ Wf (stepUp s x) ∧ At (stepUp s x) u t1 ∧ t1.hs = t.hs ∧ (∀ b, t1.ord b = t.ord b) ∧ (∀ k, k ∉ t.hs → g (stepUp s x) k = g s k) := by
        have upx : ∀ {m t1 s1}, Cl x (m + 1) t1 → At s1 u t1 → t1.hs = t.hs → ∃ v, (g s1 x).up = some v := fun {m t1 s1} c1 a1 h1 => by
          rcases a1.up c1.mem with ⟨q, _⟩ | ⟨v, q, _⟩
          · exact absurd q (c1.not_root (h1 ▸ hn))
          · exact ⟨v, q⟩
        unfold StepOk stepUp; rw [ev]; dsimp only
        cases hv : isSon s v with
        | false =>
          rw [if_neg Bool.false_ne_true]
          obtain ⟨t2, q⟩ := turnx n t s c w a rfl (fun _ => rfl) fun _ _ => rfl
          exact ⟨fun u' e1 e2 => (by cases e1; rw [hv] at e2; cases e2), n, t2, Nat.le_refl _, q⟩
        | true =>
          rw [if_pos rfl]
          suffices q : (∃ v', (g (turnUp s (if sideOf s x = sideOf s v then v else x)) x).up = some v') ∧ ∃ m t1, m ≤ n ∧ Cl x m t1 ∧ Wf (turnUp (turnUp s (if sideOf s x = sideOf s v then v else x)) x) ∧ At (turnUp (turnUp s (if sideOf s x = sideOf s v then v else x)) x) u t1 ∧ t1.hs = t.hs ∧ (∀ b, t1.ord b = t.ord b) ∧ (∀ k, k ∉ t.hs → g (turnUp (turnUp s (if sideOf s x = sideOf s v then v else x)) x) k = g s k) from
            ⟨fun u' e1 _ => (by cases e1; exact q.1), q.2⟩
          have nv : t.root ≠ some v := fun e => by
            have := top s t a rfl (fun _ _ => rfl) v e
            rw [hv] at this; cases this
          by_cases hs : sideOf s x = sideOf s v
          · rw [if_pos hs]
            -- v is turned up first
            have cv : ∃ m, Cl v (m + 1) t := by
              have : ∀ (t : T) (n : Nat) (u : Option Nat), At s u t → t.hs.Nodup → (∀ w, u = some w → w ∉ t.hs) → v ∈ t.hs → Cl x n t → t.root ≠ some x → ∃ m, Cl v m t := by
                intro t
                induction t with
                | nil => intro _ _ _ _ _ h; cases h
                | node l h f r il ir =>
                  intro n u a hn hu hv c hx
                  obtain ⟨n1, n2, n3, n4, n5⟩ := nodup_node.mp hn
                  obtain ⟨a1, a2, a3, a4, a5, a6, a7⟩ := a
                  cases c with
                  | here => exact absurd rfl hx
                  | left c =>
                    by_cases q : l.root = some x
                    · have : (g s x).up = some h := by
                        cases l with
                        | nil => cases q
                        | node _ _ _ _ => cases q; exact a6.2.1
                      rw [ev] at this; cases this; exact ⟨0, .here⟩
                    · rcases a6.up c.mem with ⟨q', _⟩ | ⟨v', e', q', _⟩
                      · exact absurd q' q
                      · rw [ev] at e'; cases e'
                        obtain ⟨m, cm⟩ := il _ _ a6 n1 (fun w e => (Option.some.inj e) ▸ n3) q' c q
                        exact ⟨m + 1, .left cm⟩
                  | right c =>
                    by_cases q : r.root = some x
                    · have : (g s x).up = some h := by
                        cases r with
                        | nil => cases q
                        | node _ _ _ _ => cases q; exact a7.2.1
                      rw [ev] at this; cases this; exact ⟨0, .here⟩
                    · rcases a7.up c.mem with ⟨q', _⟩ | ⟨v', e', q', _⟩
                      · exact absurd q' q
                      · rw [ev] at e'; cases e'
                        obtain ⟨m, cm⟩ := ir _ _ a7 n2 (fun w e => (Option.some.inj e) ▸ n4) q' c q
                        exact ⟨m + 1, .right cm⟩
              obtain ⟨m, cm⟩ := this t _ u a hn hux vm c nr
              cases m with
              | zero => exact absurd cm.root nv
              | succ m => exact ⟨m, cm⟩
            obtain ⟨m, cm⟩ := cv
            obtain ⟨z, t1, r, c1⟩ := rot_ex cm
            obtain ⟨b1, b2⟩ := turn_at r w a hn hux (top s t a rfl fun _ _ => rfl)
            obtain ⟨m', hm, cx⟩ := r.son a hn hux ev c
            have w1 : Wf (turnUp s v) := wf_turnUp w (a.lt vm)
            cases m' with
            | zero =>
              -- x can't be the root behind it
              have e1 := cx.root
              by_cases q : t.root = some z
              · rw [r.root_z hn q] at e1; cases e1
                obtain ⟨D, hD⟩ := a.rank hn hux
                exact absurd (hD _ vm _ vm ev) (Nat.lt_irrefl _)
              · rw [r.root_ne q] at e1; exact absurd e1 nr
            | succ m' =>
              obtain ⟨t2, q⟩ := turnx m' t1 (turnUp s v) cx w1 b1 r.hs r.ord b2
              exact ⟨upx cx b1 r.hs, m', t2, by omega, q⟩
          · rw [if_neg hs]
            obtain ⟨t1, c1, w1, a1, h1, o1, f1⟩ := turnx n t s c w a rfl (fun _ => rfl) fun _ _ => rfl
            cases n with
            | zero =>
              -- x was a son of the root
              exfalso
              cases c with
              | left c =>
                have e2 := root_up a.2.2.2.2.2.1 c.root
                rw [ev] at e2; cases e2; exact nv rfl
              | right c =>
                have e2 := root_up a.2.2.2.2.2.2 c.root
                rw [ev] at e2; cases e2; exact nv rfl
            | succ n =>
              obtain ⟨t2, q⟩ := turnx n t1 (turnUp s x) c1 w1 a1 h1 o1 f1
              exact ⟨upx c1 a1 h1, n, t2, Nat.le_succ _, q⟩
      obtain ⟨sok, m, t1, hm, c1, w1, a1, h1, o1, f1⟩ := step
      obtain ⟨k, s', t', d1, d2, d3, d4, d5, d6⟩ := ih m (by omega) t1 (stepUp s x) u c1 w1 a1 (h1 ▸ hn) fun v e => by
        refine ⟨h1 ▸ hux v e, fun k hk => ?_⟩
        rw [f1 v (hux v e)]
        exact (hu v e).2 k (h1 ▸ hk)
      exact ⟨k + 1, s', t', .go so sok d1, d2, d3.trans h1, fun b => (d4 b).trans (o1 b), d5, fun k hk => (d6 k (h1 ▸ hk)).trans (f1 k hk)⟩

/-- ToTop: x becomes the root of its row's tree, not turned; order and hang stay -/
theorem to_top {x : Nat} {t : T} {s : Shape} {u : Option Nat} (w : Wf s) (a : At s u t) (hn : t.hs.Nodup) (hx : x ∈ t.hs) (hu : ∀ v, u = some v → v ∉ t.hs ∧ ∀ k ∈ t.hs, (g s v).left ≠ some k ∧ (g s v).right ≠ some k) :
    ∃ s' l r, ToTop x s s' ∧ At s' u (.node l x false r) ∧ (∀ b, (T.node l x false r).ord b = t.ord b) ∧ (∀ k, k ∉ t.hs → g s' k = g s k) := by
  obtain ⟨t1, m, d1, d2, d3, d4, d5⟩ := down _ t (Nat.le_refl _) s u x a hn hx
  have p1 : t1.hs.Perm t.hs := (ord_perm (b := false)).symm.trans (by rw [d3]; exact ord_perm)
  have hn1 : t1.hs.Nodup := p1.nodup_iff.mpr hn
  obtain ⟨n, s', t', e1, e2, e3, e4, e5, e6⟩ := splay m t1 _ u d4 (wf_fold w) d1 hn1 fun v e => by
    refine ⟨fun q => (hu v e).1 (p1.mem_iff.mp q), fun k hk => ?_⟩
    rw [d5 v (hu v e).1]
    exact (hu v e).2 k (p1.mem_iff.mp hk)
  cases hr : t.root with
  | none =>
    cases t with
    | nil => cases hx
    | node _ _ _ _ => cases hr
  | some h =>
    have tp : isSon s h = false := isSon_frame (s := s) a hr (fun _ _ => rfl) fun v hv => (hu v hv).2 h (root_mem hr)
    have ch := chain_up (rest := []) a hn hr hx (.stop tp)
    rw [List.append_nil] at ch
    cases e5 with
    | here =>
      exact ⟨s', _, _, ⟨_, n, by rw [List.length_reverse]; exact Nat.le_trans path_len (by rw [← size_hs]; exact pigeon _ _ hn fun k hk => a.lt hk), ch, by rw [List.reverse_reverse]; exact e1⟩, e2, fun b => (e4 b).trans (d3 b), fun k hk => (e6 k fun q => hk (p1.mem_iff.mp q)).trans (d5 k hk)⟩
end Lk
/-! All rows of a shape, the parents that they tell, reaching. -/
namespace Lk
open T

structure Good (s : Shape) (tr : Nat → T) (hang : Nat → Option Nat) : Prop where
  at_ : ∀ i, At s (hang i) (tr i)
  nd : ∀ i, (tr i).hs.Nodup
  dis : ∀ i j k, k ∈ (tr i).hs → k ∈ (tr j).hs → i = j
  cov : ∀ k, k < s.length → ∃ i, k ∈ (tr i).hs
  fin : ∃ N, ∀ i, N ≤ i → tr i = .nil
def Chn (par : Nat → Option Nat) : Option Nat → List Nat → Prop
  | _, [] => True
  | u, x :: r => par x = u ∧ Chn par (some x) r
def Told (tr : Nat → T) (hang : Nat → Option Nat) (par : Nat → Option Nat) : Prop := ∀ i, Chn par (hang i) ((tr i).ord false)
/-- going to parents comes to an end, within n -/
def Acy (n : Nat) (par : Nat → Option Nat) (d : Nat → Nat) : Prop := ∀ x y, x < n → par x = some y → y < n ∧ d y < d x

theorem Chn.append {par : Nat → Option Nat} {y : Nat} {l2 : List Nat} : ∀ {l1 : List Nat} {u : Option Nat}, Chn par u (l1 ++ y :: l2) ↔ Chn par u (l1 ++ [y]) ∧ Chn par (some y) l2 := by
  intro l1
  induction l1 with
  | nil => intro u; simp [Chn]
  | cons a l1 ih => intro u; simp only [List.cons_append, Chn]; rw [ih]; exact and_assoc.symm
theorem Chn.lt {n : Nat} {par : Nat → Option Nat} {d : Nat → Nat} (A : Acy n par d) : ∀ {l : List Nat} {u : Option Nat}, Chn par u l → (∀ x ∈ l, x < n) → ∀ v, u = some v → ∀ x ∈ l, d v < d x := by
  intro l
  induction l with
  | nil => intro u _ _ v _ x hx; cases hx
  | cons a l ih =>
    intro u c hl v hv x hx
    have ha : d v < d a := (A a v (hl a (by simp)) (by rw [c.1, hv])).2
    rcases List.mem_cons.mp hx with rfl | hx
    · exact ha
    · exact Nat.lt_trans ha (ih c.2 (fun y hy => hl y (by simp [hy])) a rfl x hx)
/-- what is alike for a house and its parent -/
def Inv (par : Nat → Option Nat) (P : Nat → Prop) : Prop := ∀ a b, par a = some b → (P a ↔ P b)
theorem Chn.inv {par : Nat → Option Nat} {P : Nat → Prop} (I : Inv par P) : ∀ {l : List Nat} {u : Option Nat}, Chn par u l → ∀ x ∈ l, P x → (∀ y ∈ l, P y) ∧ ∀ v, u = some v → P v := by
  intro l
  induction l with
  | nil => intro u _ x hx; cases hx
  | cons a l ih =>
    intro u c x hx px
    have pa : P a := by
      rcases List.mem_cons.mp hx with rfl | hx
      · exact px
      · exact (ih c.2 x hx px).2 a rfl
    refine ⟨fun y hy => ?_, fun v hv => (I a v (by rw [c.1, hv])).mp pa⟩
    rcases List.mem_cons.mp hy with rfl | hy
    · exact pa
    · cases l with
      | nil => cases hy
      | cons b l =>
        have pb : P b := (I b a c.2.1).mpr pa
        exact (ih c.2 b (by simp) pb).1 y hy
/-- the order of a row, and who its first one is -/
theorem ord_head {t : T} {x : Nat} (hx : x ∈ t.hs) : ∃ f, f ∈ t.hs ∧ ∃ l, t.ord false = f :: l := by
  have : x ∈ t.ord false := mem_ord.mpr hx
  cases e : t.ord false with
  | nil => rw [e] at this; cases this
  | cons f l => exact ⟨f, mem_ord.mp (by rw [e]; simp), l, rfl⟩

section
variable {s : Shape} {tr : Nat → T} {hang par : Nat → Option Nat} {d : Nat → Nat}
theorem Good.lt (G : Good s tr hang) {i k : Nat} (h : k ∈ (tr i).hs) : k < s.length := (G.at_ i).lt h
theorem Good.hang_in (G : Good s tr hang) (To : Told tr hang par) (A : Acy s.length par d) {i v x : Nat} (hx : x ∈ (tr i).hs) (hv : hang i = some v) : v < s.length ∧ ∀ k ∈ (tr i).hs, d v < d k := by
  obtain ⟨f, hf, l, e⟩ := ord_head hx
  have c := To i
  refine ⟨?_, fun k hk => c.lt A (fun y hy => G.lt (mem_ord.mp hy)) v hv k (mem_ord.mpr hk)⟩
  rw [e] at c
  exact (A f v (G.lt hf) (c.1.trans hv)).1
theorem Good.top (G : Good s tr hang) (To : Told tr hang par) (A : Acy s.length par d) {i x : Nat} (hx : x ∈ (tr i).hs) : ∀ v, hang i = some v → v ∉ (tr i).hs ∧ ∀ k ∈ (tr i).hs, (g s v).left ≠ some k ∧ (g s v).right ≠ some k := by
  intro v hv
  obtain ⟨h1, h2⟩ := G.hang_in To A hx hv
  have nv : v ∉ (tr i).hs := fun q => Nat.lt_irrefl _ (h2 v q)
  refine ⟨nv, fun k hk => ?_⟩
  obtain ⟨j, hj⟩ := G.cov v h1
  have key : ¬ ((g s v).left = some k ∨ (g s v).right = some k) := fun q => by
    have := ((G.at_ j).sons (G.nd j) hj q).1
    have := G.dis i j k hk this
    exact nv (this ▸ hj)
  exact ⟨fun q => key (.inl q), fun q => key (.inr q)⟩
theorem Good.wf (G : Good s tr hang) (To : Told tr hang par) (A : Acy s.length par d) : Wf s := by
  intro k hk
  obtain ⟨i, hi⟩ := G.cov k hk
  refine ⟨?_, ?_, ?_⟩
  · rcases (G.at_ i).up hi with ⟨_, e⟩ | ⟨v, e, hv, _⟩
    · rw [e]
      cases eh : hang i with
      | none => trivial
      | some v => exact (G.hang_in To A hi eh).1
    · rw [e]; exact G.lt hv
  · cases e : (g s k).left with
    | none => trivial
    | some v => exact G.lt ((G.at_ i).sons (G.nd i) hi (.inl e)).1
  · cases e : (g s k).right with
    | none => trivial
    | some v => exact G.lt ((G.at_ i).sons (G.nd i) hi (.inr e)).1
/-- one row's tree is another one -/
theorem Good.row (G : Good s tr hang) {s' : Shape} {i : Nat} {t : T} (hl : s'.length = s.length) (a : At s' (hang i) t) (p : t.hs.Perm (tr i).hs) (f : ∀ k, k ∉ (tr i).hs → g s' k = g s k) : Good s' (fun j => if j = i then t else tr j) hang where
  at_ := fun j => by
    by_cases e : j = i
    · subst e; simp only [if_pos rfl]; exact a
    · simp only [if_neg e]
      exact (G.at_ j).frame hl fun k hk => f k fun q => e (G.dis j i k hk q)
  nd := fun j => by
    by_cases e : j = i
    · subst e; simp only [if_pos rfl]; exact p.nodup_iff.mpr (G.nd j)
    · simp only [if_neg e]; exact G.nd j
  dis := fun j k x => by
    have m : ∀ j, x ∈ (if j = i then t else tr j).hs ↔ x ∈ (tr j).hs := fun j => by
      by_cases e : j = i
      · subst e; rw [if_pos rfl]; exact p.mem_iff
      · rw [if_neg e]
    rw [m, m]; exact G.dis j k x
  cov := fun x hx => by
    obtain ⟨j, hj⟩ := G.cov x (hl ▸ hx)
    refine ⟨j, ?_⟩
    by_cases e : j = i
    · subst e; simp only [if_pos rfl]; exact p.mem_iff.mpr hj
    · simp only [if_neg e]; exact hj
  fin := by
    obtain ⟨N, h⟩ := G.fin
    refine ⟨N + i + 1, fun j hj => ?_⟩
    show (if j = i then t else tr j) = _
    rw [if_neg (by omega)]; exact h j (by omega)
end

/-! ### lengths and values along the relations -/
theorem ToTop.len {x : Nat} {s s' : Shape} (h : ToTop x s s') : s'.length = s.length := by
  obtain ⟨l, n, _, _, h⟩ := h
  have : ∀ {n} {s s' : Shape}, SplayR x n s s' → s'.length = s.length := fun h => by
    induction h with
    | stop => rfl
    | go _ _ _ ih => rw [ih, len_stepUp]
  rw [this h, len_fold]
theorem ToTop.val {x : Nat} {s s' : Shape} (h : ToTop x s s') (k : Nat) : (g s' k).val = (g s k).val := by
  obtain ⟨l, n, _, _, h⟩ := h
  have : ∀ {n} {s s' : Shape}, SplayR x n s s' → (g s' k).val = (g s k).val := fun h => by
    induction h with
    | stop => rfl
    | go _ _ _ ih => rw [ih, val_stepUp]
  rw [this h, val_fold]
theorem MetR.len {o : Option Nat} {s s' : Shape} {met : List Nat} (h : MetR o s s' met) : s'.length = s.length := by
  induction h with
  | stop => rfl
  | go h _ ih => rw [ih, h.len]
theorem MetR.val {o : Option Nat} {s s' : Shape} {met : List Nat} (h : MetR o s s' met) (k : Nat) : (g s' k).val = (g s k).val := by
  induction h with
  | stop => rfl
  | go h _ ih => rw [ih, h.val]
theorem splice_len {met : List Nat} : ∀ {s : Shape} {o : Option Nat}, (splice s o met).length = s.length := by
  induction met with
  | nil => intro s o; rfl
  | cons x r ih => intro s o; unfold splice; rw [ih, List.length_set]
theorem splice_val {met : List Nat} {k : Nat} : ∀ {s : Shape} {o : Option Nat}, (g (splice s o met) k).val = (g s k).val := by
  induction met with
  | nil => intro s o; rfl
  | cons x r ih => intro s o; unfold splice; rw [ih]; exact val_set (p := { g s x with right := o }) rfl k
theorem Reach.len {x : Nat} {s s' : Shape} (h : Reach x s s') : s'.length = s.length := by
  obtain ⟨s1, met, _, h1, h2⟩ := h
  rw [h2.len, splice_len, h1.len]
theorem Reach.val {x : Nat} {s s' : Shape} (h : Reach x s s') (k : Nat) : (g s' k).val = (g s k).val := by
  obtain ⟨s1, met, _, h1, h2⟩ := h
  rw [h2.val, splice_val, h1.val]
theorem LeftR.len {n h r : Nat} {s s' : Shape} (q : LeftR n h s s' r) : s'.length = s.length := by
  induction q with
  | stop => rfl
  | go _ _ ih => rw [ih, len_handOn]
theorem LeftR.val {n h r : Nat} {s s' : Shape} (q : LeftR n h s s' r) (k : Nat) : (g s' k).val = (g s k).val := by
  induction q with
  | stop => rfl
  | go _ _ ih => rw [ih, val_handOn]

/-! ### pass 1 -/
def Stk (tr : Nat → T) (hang : Nat → Option Nat) : List Nat → Prop
  | [] => False
  | [x] => ∃ i l r, tr i = .node l x false r ∧ hang i = none
  | x :: y :: rest => (∃ i l r, tr i = .node l x false r ∧ hang i = some y) ∧ Stk tr hang (y :: rest)
theorem Stk.congr {tr tr1 : Nat → T} {hang : Nat → Option Nat} : ∀ {met : List Nat}, Stk tr hang met → (∀ j z l r, z ∈ met → tr j = .node l z false r → tr1 j = tr j) → Stk tr1 hang met := by
  intro met
  induction met with
  | nil => intro h; exact h.elim
  | cons x rest ih =>
    intro h hc
    cases rest with
    | nil =>
      obtain ⟨i, l, r, e, e2⟩ := h
      exact ⟨i, l, r, (hc i x l r (by simp) e).trans e, e2⟩
    | cons y rest =>
      obtain ⟨⟨i, l, r, e, e2⟩, h2⟩ := h
      exact ⟨⟨i, l, r, (hc i x l r (by simp) e).trans e, e2⟩, ih h2 fun j z l r hz => hc j z l r (List.mem_cons_of_mem _ hz)⟩

section
variable {n : Nat} {par : Nat → Option Nat} {d : Nat → Nat}
theorem met_ok (A : Acy n par d) : ∀ (m : Nat) (s : Shape) (tr : Nat → T) (hang : Nat → Option Nat) (x : Nat), s.length = n → Good s tr hang → Told tr hang par → x < n → d x ≤ m →
    ∃ s' tr' rest, MetR (some x) s s' (x :: rest) ∧ Good s' tr' hang ∧ (∀ i b, (tr' i).ord b = (tr i).ord b) ∧ Stk tr' hang (x :: rest) ∧ (∀ i, (∀ k ∈ (tr i).hs, d x < d k) → tr' i = tr i) ∧
      ∀ P : Nat → Prop, Inv par P → P x → (∀ y ∈ rest, P y) ∧ ∀ k, ¬ P k → g s' k = g s k := by
  intro m
  induction m using Nat.strongRecOn with
  | _ m ih =>
    intro s tr hang x hl G To hx hm
    subst hl
    obtain ⟨i, hi⟩ := G.cov x hx
    obtain ⟨s1, l, r, q1, q2, q3, q4⟩ := to_top (G.wf To A) (G.at_ i) (G.nd i) hi (G.top To A hi)
    have pm : (T.node l x false r).hs.Perm (tr i).hs := (ord_perm (b := false)).symm.trans (by rw [q3]; exact ord_perm)
    have G1 := G.row q1.len q2 pm q4
    have o1 : ∀ j b, (if j = i then T.node l x false r else tr j).ord b = (tr j).ord b := fun j b => by
      by_cases e : j = i
      · rw [if_pos e, e]; exact q3 b
      · rw [if_neg e]
    have To1 : Told (fun j => if j = i then T.node l x false r else tr j) hang par := fun j => by
      rw [o1 j]; exact To j
    have eu : (g s1 x).up = hang i := q2.2.1
    have fP : ∀ P : Nat → Prop, Inv par P → P x → ∀ k, ¬ P k → g s1 k = g s k := fun P I px k hk => q4 k fun q => hk (((To i).inv I x (mem_ord.mpr hi) px).1 k (mem_ord.mpr q))
    cases eh : hang i with
    | none =>
      refine ⟨s1, _, [], .go q1 (by rw [eu, eh]; exact .stop), G1, o1, ⟨i, l, r, by simp, eh⟩, fun j hj => ?_, fun P I px => ⟨fun y hy => (nomatch hy), fP P I px⟩⟩
      show (if j = i then _ else _) = _
      rw [if_neg]; rintro rfl; exact Nat.lt_irrefl _ (hj x hi)
    | some y =>
      obtain ⟨hy, hd⟩ := G.hang_in To A hi eh
      have dy : d y < d x := hd x hi
      obtain ⟨s', tr', rest, r1, r2, r3, r4, r5, r6⟩ := ih (d y) (by omega) s1 _ hang y q1.len G1 To1 hy (Nat.le_refl _)
      have ei : tr' i = T.node l x false r := by
        rw [r5 i (by simp only [if_pos rfl]; intro k hk; exact hd k (pm.mem_iff.mp hk))]
        simp
      refine ⟨s', tr', y :: rest, .go q1 (by rw [eu, eh]; exact r1), r2, fun j b => (r3 j b).trans (o1 j b), ⟨⟨i, l, r, ei, eh⟩, r4⟩, fun j hj => ?_, fun P I px => ?_⟩
      · have ne : j ≠ i := by rintro rfl; exact Nat.lt_irrefl _ (hj x hi)
        rw [r5 j (by simp only [if_neg ne]; intro k hk; exact Nat.lt_trans dy (hj k hk))]
        simp only [if_neg ne]
      · have py : P y := ((To i).inv I x (mem_ord.mpr hi) px).2 y eh
        obtain ⟨h1, h2⟩ := r6 P I py
        refine ⟨fun z hz => ?_, fun k hk => (h2 k hk).trans (fP P I px k hk)⟩
        rcases List.mem_cons.mp hz with rfl | hz
        · exact py
        · exact h1 z hz

/-! ### pass 2 -/
theorem Stk.mono {s : Shape} {tr : Nat → T} {hang : Nat → Option Nat} (G : Good s tr hang) (To : Told tr hang par) (A : Acy s.length par d) : ∀ {met : List Nat} {x : Nat}, Stk tr hang (x :: met) → ∀ z ∈ met, d z < d x := by
  intro met
  induction met with
  | nil => intro x _ z hz; cases hz
  | cons y rest ih =>
    intro x h z hz
    obtain ⟨⟨i, l, r, e, e2⟩, h2⟩ := h
    have hx : x ∈ (tr i).hs := by rw [e]; simp [T.hs]
    have dy : d y < d x := (G.hang_in To A hx e2).2 x hx
    rcases List.mem_cons.mp hz with rfl | hz
    · exact dy
    · exact Nat.lt_trans (ih h2 z hz) dy
theorem Stk.nodup {s : Shape} {tr : Nat → T} {hang : Nat → Option Nat} (G : Good s tr hang) (To : Told tr hang par) (A : Acy s.length par d) : ∀ {met : List Nat}, Stk tr hang met → met.Nodup ∧ ∀ z ∈ met, z < s.length := by
  intro met
  induction met with
  | nil => intro h; exact h.elim
  | cons x rest ih =>
    intro h
    have mono := h.mono G To A
    cases rest with
    | nil =>
      obtain ⟨i, l, r, e, _⟩ := h
      exact ⟨by simp, fun z hz => by rw [List.mem_singleton.mp hz]; exact G.lt (i := i) (by rw [e]; simp [T.hs])⟩
    | cons y rest =>
      obtain ⟨⟨i, l, r, e, _⟩, h2⟩ := h
      obtain ⟨q1, q2⟩ := ih h2
      refine ⟨List.nodup_cons.mpr ⟨fun z => Nat.lt_irrefl _ (mono x z), q1⟩, fun z hz => ?_⟩
      rcases List.mem_cons.mp hz with rfl | hz
      · exact G.lt (i := i) (by rw [e]; simp [T.hs])
      · exact q2 z hz
theorem splice_step {s : Shape} {tr : Nat → T} {hang : Nat → Option Nat} (G : Good s tr hang) (To : Told tr hang par) (A : Acy s.length par d) {i a y : Nat} {l r : T} (e : tr i = .node l y false r) (ha : hang a = some y) :
    Good (s.set y { g s y with right := (tr a).root }) (fun j => if j = i then T.node l y false (tr a) else if j = a then r else tr j) hang ∧ Told (fun j => if j = i then T.node l y false (tr a) else if j = a then r else tr j) hang par ∧
      ∀ x0, ((tr a = .nil ∧ y = x0) ∨ ∃ pre, (tr a).ord false = pre ++ [x0]) → ∃ pre, ((fun j => if j = i then T.node l y false (tr a) else if j = a then r else tr j) i).ord false = pre ++ [x0] := by
  have hy : y ∈ (tr i).hs := by rw [e]; simp [T.hs]
  have yl : y < s.length := G.lt hy
  have ai : a ≠ i := by rintro rfl; exact (G.top To A hy y ha).1 hy
  have gi := G.at_ i
  rw [e] at gi
  obtain ⟨i1, i2, i3, i4, i5, i6, i7⟩ := gi
  have ni := G.nd i
  rw [e] at ni
  obtain ⟨n1, n2, n3, n4, n5⟩ := nodup_node.mp ni
  have gy : g (s.set y { g s y with right := (tr a).root }) y = { g s y with right := (tr a).root } := g_set_same yl
  have gk : ∀ k, k ≠ y → g (s.set y { g s y with right := (tr a).root }) k = g s k := fun k hk => g_set_ne hk
  have ll : (s.set y { g s y with right := (tr a).root }).length = s.length := List.length_set
  have other : ∀ j, j ≠ i → ∀ k ∈ (tr j).hs, k ≠ y := fun j hj k hk q => hj (G.dis j i y (q ▸ hk) hy)
  have hl : ∀ k, k ∈ l.hs → k ∈ (tr i).hs := fun k hk => by rw [e]; simp [T.hs, hk]
  have hr : ∀ k, k ∈ r.hs → k ∈ (tr i).hs := fun k hk => by rw [e]; simp [T.hs, hk]
  have toi := To i
  rw [e] at toi
  have toi' : Chn par (hang i) (l.ord false ++ y :: r.ord false) := toi
  obtain ⟨c1, c2⟩ := Chn.append.mp toi'
  have toa := To a
  rw [ha] at toa
  refine ⟨⟨fun j => ?_, fun j => ?_, fun j k x => ?_, fun x hx => ?_, ?_⟩, fun j => ?_, fun x0 h => ?_⟩
  · by_cases q : j = i
    · subst q; simp only [if_pos rfl]
      refine ⟨by rw [ll]; exact i1, by rw [gy]; exact i2, by rw [gy]; exact i3, by rw [gy], by rw [gy]; exact i5, i6.frame ll fun k hk => gk k fun z => n3 (z ▸ hk), ?_⟩
      rw [← ha]; exact (G.at_ a).frame ll fun k hk => gk k (other a ai k hk)
    · simp only [if_neg q]
      by_cases q2 : j = a
      · subst q2; simp only [if_pos rfl]; rw [ha]
        exact i7.frame ll fun k hk => gk k fun z => n4 (z ▸ hk)
      · simp only [if_neg q2]
        exact (G.at_ j).frame ll fun k hk => gk k (other j q k hk)
  · by_cases q : j = i
    · subst q; simp only [if_pos rfl]
      exact nodup_node.mpr ⟨n1, G.nd a, n3, fun z => ai (G.dis a j y z hy), fun k hk hk' => ai (G.dis a j k hk' (hl k hk))⟩
    · simp only [if_neg q]
      by_cases q2 : j = a
      · simp only [if_pos q2]; exact n2
      · simp only [if_neg q2]; exact G.nd j
  · have key : ∀ j, x ∈ (if j = i then T.node l y false (tr a) else if j = a then r else tr j).hs → (j = i ∧ (x ∈ l.hs ∨ x = y ∨ x ∈ (tr a).hs)) ∨ (j = a ∧ x ∈ r.hs) ∨ (j ≠ i ∧ j ≠ a ∧ x ∈ (tr j).hs) := fun j h => by
      by_cases q : j = i
      · rw [if_pos q] at h; simp only [T.hs, List.mem_append, List.mem_cons] at h; exact .inl ⟨q, h⟩
      · rw [if_neg q] at h
        by_cases q2 : j = a
        · rw [if_pos q2] at h; exact .inr (.inl ⟨q2, h⟩)
        · rw [if_neg q2] at h; exact .inr (.inr ⟨q, q2, h⟩)
    intro h1 h2
    -- where x stood ahead
    have src : ∀ j, (j = i ∧ (x ∈ l.hs ∨ x = y ∨ x ∈ (tr a).hs)) ∨ (j = a ∧ x ∈ r.hs) ∨ (j ≠ i ∧ j ≠ a ∧ x ∈ (tr j).hs) → (x ∈ (tr i).hs ∧ x ∉ r.hs ∧ j = i) ∨ (x ∈ (tr a).hs ∧ j = i) ∨ (x ∈ (tr i).hs ∧ x ∈ r.hs ∧ j = a) ∨ (j ≠ i ∧ j ≠ a ∧ x ∈ (tr j).hs) := fun j h => by
      rcases h with ⟨q, h | h | h⟩ | ⟨q, h⟩ | ⟨q, q2, h⟩
      · exact .inl ⟨hl x h, n5 x h, q⟩
      · exact .inl ⟨h ▸ hy, h ▸ n4, q⟩
      · exact .inr (.inl ⟨h, q⟩)
      · exact .inr (.inr (.inl ⟨hr x h, h, q⟩))
      · exact .inr (.inr (.inr ⟨q, q2, h⟩))
    rcases src j (key j h1) with ⟨p1, p2, p3⟩ | ⟨p1, p3⟩ | ⟨p1, p2, p3⟩ | ⟨p1, p2, p3⟩ <;> rcases src k (key k h2) with ⟨r1, r2, r3⟩ | ⟨r1, r3⟩ | ⟨r1, r2, r3⟩ | ⟨r1, r2, r3⟩
    · rw [p3, r3]
    · rw [p3, r3]
    · exact absurd r2 p2
    · exact absurd (G.dis k i x r3 p1) r1
    · rw [p3, r3]
    · rw [p3, r3]
    · exact absurd (G.dis a i x p1 r1) ai
    · exact absurd (G.dis k a x r3 p1) r2
    · exact absurd p2 r2
    · exact absurd (G.dis a i x r1 p1) ai
    · rw [p3, r3]
    · exact absurd (G.dis k i x r3 p1) r1
    · exact absurd (G.dis j i x p3 r1) p1
    · exact absurd (G.dis j a x p3 r1) p2
    · exact absurd (G.dis j i x p3 r1) p1
    · exact G.dis j k x p3 r3
  · obtain ⟨j, hj⟩ := G.cov x (ll ▸ hx)
    by_cases q : j = i
    · rw [q, e] at hj; simp only [T.hs, List.mem_append, List.mem_cons] at hj
      rcases hj with hj | hj | hj
      · exact ⟨i, by simp [T.hs, hj]⟩
      · exact ⟨i, by simp [T.hs, hj]⟩
      · exact ⟨a, by simp only [if_neg ai]; simp [hj]⟩
    · by_cases q2 : j = a
      · exact ⟨i, by simp only [T.hs, if_pos rfl]; rw [q2] at hj; simp [T.hs, hj]⟩
      · exact ⟨j, by simp only [if_neg q, if_neg q2]; exact hj⟩
  · obtain ⟨N, h⟩ := G.fin
    refine ⟨N + i + a + 1, fun j hj => ?_⟩
    show (if j = i then _ else if j = a then _ else _) = _
    rw [if_neg (by omega), if_neg (by omega)]; exact h j (by omega)
  · by_cases q : j = i
    · subst q; simp only [if_pos rfl]
      show Chn par (hang j) (l.ord false ++ y :: (tr a).ord false)
      exact Chn.append.mpr ⟨c1, toa⟩
    · simp only [if_neg q]
      by_cases q2 : j = a
      · subst q2; simp only [if_pos rfl]; rw [ha]; exact c2
      · simp only [if_neg q2]; exact To j
  · simp only [if_pos rfl]
    show ∃ pre, l.ord false ++ y :: (tr a).ord false = pre ++ [x0]
    rcases h with ⟨h1, h2⟩ | ⟨pre, h⟩
    · rw [h1, h2]; exact ⟨l.ord false, rfl⟩
    · rw [h]; exact ⟨l.ord false ++ y :: pre, by simp⟩
theorem splice_ok (A : Acy n par d) (x0 : Nat) : ∀ (met : List Nat) (s : Shape) (tr : Nat → T) (hang : Nat → Option Nat) (a y : Nat), s.length = n → Good s tr hang → Told tr hang par → Stk tr hang (y :: met) → hang a = some y →
    ((tr a = .nil ∧ y = x0) ∨ ∃ pre, (tr a).ord false = pre ++ [x0]) → ∃ tr', Good (splice s (tr a).root (y :: met)) tr' hang ∧ Told tr' hang par ∧ ∃ i pre, hang i = none ∧ (tr' i).ord false = pre ++ [x0] := by
  intro met
  induction met with
  | nil =>
    intro s tr hang a y hl G To S ha hx
    subst hl
    obtain ⟨i, l, r, e, e2⟩ := S
    have := splice_step G To A e ha
    obtain ⟨G1, To1, o1⟩ := this
    refine ⟨_, G1, To1, i, ?_⟩
    obtain ⟨pre, o2⟩ := o1 x0 hx
    exact ⟨pre, e2, o2⟩
  | cons z met ih =>
    intro s tr hang a y hl G To S ha hx
    subst hl
    have mono := S.mono G To A
    obtain ⟨⟨i, l, r, e, e2⟩, S2⟩ := S
    obtain ⟨G1, To1, o1⟩ := splice_step G To A e ha
    obtain ⟨pre, o2⟩ := o1 x0 hx
    have hy : y ∈ (tr i).hs := by rw [e]; simp [T.hs]
    have S3 : Stk (fun j => if j = i then T.node l y false (tr a) else if j = a then r else tr j) hang (z :: met) := S2.congr fun j w l' r' hw ej => by
      have dw : d w < d y := mono w hw
      have j1 : j ≠ i := by rintro rfl; rw [e] at ej; cases ej; exact Nat.lt_irrefl _ dw
      have j2 : j ≠ a := by
        rintro rfl
        have hw' : w ∈ (tr j).hs := by rw [ej]; simp [T.hs]
        have := (G.hang_in To A hw' ha).2 w hw'
        omega
      simp only [if_neg j1, if_neg j2]
    have := ih (s.set y { g s y with right := (tr a).root }) _ hang i z (by simp) G1 To1 S3 e2 (.inr ⟨pre, o2⟩)
    simp only [if_pos rfl] at this
    exact this

/-- pass 1 and 2 leave all but the met ones' trees alone -/
theorem splice_frame : ∀ (met : List Nat) (s : Shape) (o : Option Nat) (k : Nat), k ∉ met → g (splice s o met) k = g s k := by
  intro met
  induction met with
  | nil => intro s o k _; rfl
  | cons x r ih =>
    intro s o k hk
    unfold splice
    rw [ih _ _ _ (fun q => hk (List.mem_cons_of_mem _ q)), g_set_ne (fun q => hk (by rw [q]; exact List.mem_cons_self))]

/-- the shape tells par, and x is the top of the first row, its order being the way from its root to it -/
def TopAt (s : Shape) (par : Nat → Option Nat) (x : Nat) : Prop := ∃ tr hang i l, Good s tr hang ∧ Told tr hang par ∧ tr i = .node l x false .nil ∧ hang i = none
def Tells (s : Shape) (par : Nat → Option Nat) : Prop := ∃ tr hang, Good s tr hang ∧ Told tr hang par
theorem TopAt.tells {s : Shape} {x : Nat} (h : TopAt s par x) : Tells s par := by
  obtain ⟨tr, hang, _, _, G, To, _⟩ := h
  exact ⟨tr, hang, G, To⟩

theorem reach_ok (A : Acy n par d) {s : Shape} (hl : s.length = n) (h : Tells s par) {x : Nat} (hx : x < n) :
    ∃ s', Reach x s s' ∧ TopAt s' par x ∧ ∀ P : Nat → Prop, Inv par P → P x → ∀ k, ¬ P k → g s' k = g s k := by
  obtain ⟨tr, hang, G, To⟩ := h
  obtain ⟨s1, tr1, rest, m1, G1, o1, S1, _, f1⟩ := met_ok A (d x) s tr hang x hl G To hx (Nat.le_refl _)
  have To1 : Told tr1 hang par := fun i => by rw [o1]; exact To i
  have l1 : s1.length = n := m1.len.trans hl
  -- a fresh row
  obtain ⟨N, hN⟩ := G1.fin
  have G2 : Good s1 tr1 (fun j => if j = N then some x else hang j) := ⟨fun i => by
    by_cases e : i = N
    · simp only [if_pos e]; rw [hN i (by omega)]; trivial
    · simp only [if_neg e]; exact G1.at_ i, G1.nd, G1.dis, G1.cov, G1.fin⟩
  have To2 : Told tr1 (fun j => if j = N then some x else hang j) par := fun i => by
    by_cases e : i = N
    · simp only [if_pos e]; rw [hN i (by omega)]; trivial
    · simp only [if_neg e]; exact To1 i
  have S2 : Stk tr1 (fun j => if j = N then some x else hang j) (x :: rest) := by
    have : ∀ met, Stk tr1 hang met → Stk tr1 (fun j => if j = N then some x else hang j) met := fun met => by
      have ne : ∀ i l y r, tr1 i = T.node l y false r → i ≠ N := fun i l y r e q => by rw [hN i (by omega)] at e; cases e
      induction met with
      | nil => exact id
      | cons a rest ih =>
        intro h
        cases rest with
        | nil => obtain ⟨i, l, r, e, e2⟩ := h; exact ⟨i, l, r, e, by simp only [if_neg (ne i l a r e)]; exact e2⟩
        | cons b rest => obtain ⟨⟨i, l, r, e, e2⟩, h2⟩ := h; exact ⟨⟨i, l, r, e, by simp only [if_neg (ne i l a r e)]; exact e2⟩, ih h2⟩
    exact this _ S1
  have nN : tr1 N = .nil := hN N (Nat.le_refl _)
  obtain ⟨tr3, G3, To3, i, pre, hi, oi⟩ := splice_ok A x rest s1 tr1 _ N x l1 G2 To2 S2 (by simp) (.inl ⟨nN, rfl⟩)
  rw [nN] at G3
  have G3' : Good (splice s1 none (x :: rest)) tr3 (fun j => if j = N then some x else hang j) := G3
  have l3 : (splice s1 none (x :: rest)).length = n := by rw [splice_len, l1]
  have xi : x ∈ (tr3 i).hs := (mem_ord (b := false)).mp (by rw [oi]; simp)
  have A3 : Acy (splice s1 none (x :: rest)).length par d := by rw [l3]; exact A
  obtain ⟨s', l, r, q1, q2, q3, q4⟩ := to_top (G3'.wf To3 A3) (G3'.at_ i) (G3'.nd i) xi (G3'.top To3 A3 xi)
  have pm : (T.node l x false r).hs.Perm (tr3 i).hs := (ord_perm (b := false)).symm.trans (by rw [q3]; exact ord_perm)
  have G4 := G3'.row q1.len q2 pm q4
  have To4 : Told (fun j => if j = i then T.node l x false r else tr3 j) (fun j => if j = N then some x else hang j) par := fun j => by
    by_cases e : j = i
    · have z := To3 j
      subst e
      rw [← q3] at z
      simpa using z
    · simp only [if_neg e]; exact To3 j
  -- nothing stands behind x
  have or : (T.node l x false r).ord false = l.ord false ++ x :: r.ord false := rfl
  have nd : ((T.node l x false r).ord false).Nodup := nodup_ord.mpr (pm.nodup_iff.mpr (G3'.nd i))
  have er : r = .nil := by
    cases hr : r.ord false with
    | nil =>
      cases r with
      | nil => rfl
      | node a b c e => exact absurd ((mem_ord (b := false)).mpr (show b ∈ (T.node a b c e).hs by simp [T.hs])) (by rw [hr]; simp)
    | cons b bs =>
      exfalso
      have e1 : l.ord false ++ x :: r.ord false = pre ++ [x] := by rw [← or, q3, oi]
      have e2 := congrArg List.getLast? e1
      rw [hr] at e2
      simp at e2
      rw [or, hr] at nd
      have : x ∈ b :: bs := by
        have h1 : (b :: bs).getLast? = some x := by simpa using e2
        exact List.mem_of_getLast? h1
      rw [List.nodup_append] at nd
      exact (List.nodup_cons.mp nd.2.1).1 this
  subst er
  have sn := S1.nodup G1 To1 (by rw [l1]; exact A)
  refine ⟨s', ⟨s1, x :: rest, by rw [hl, ← l1]; exact pigeon _ _ sn.1 sn.2, m1, q1⟩, ⟨_, _, i, l, G4, To4, by simp, hi⟩, fun P I px k hk => ?_⟩
  obtain ⟨fr, fk⟩ := f1 P I px
  rw [q4 k fun q => hk (((To3 i).inv I x (mem_ord.mpr xi) px).1 k (mem_ord.mpr q)), splice_frame, fk k hk]
  intro q
  rcases List.mem_cons.mp q with rfl | q
  · exact hk px
  · exact hk (fr k q)
end
end Lk
/-! Finding the root, turning about, linking, cutting: what they do to the parents. -/
namespace Lk
open T

def LeftMost (x : Nat) (s s' : Shape) (r : Nat) : Prop := ∃ m, LeftR m x (handOn s x) s' r
def FoundRoot (x : Nat) (s s' : Shape) (r : Nat) : Prop := ∃ s1 s2, Reach x s s1 ∧ LeftMost x s1 s2 r ∧ Reach r s2 s'
theorem LeftMost.len {x r : Nat} {s s' : Shape} (h : LeftMost x s s' r) : s'.length = s.length := by
  obtain ⟨m, h⟩ := h; rw [h.len, len_handOn]
theorem LeftMost.val {x r : Nat} {s s' : Shape} (h : LeftMost x s s' r) (k : Nat) : (g s' k).val = (g s k).val := by
  obtain ⟨m, h⟩ := h; rw [h.val, val_handOn]
theorem FoundRoot.len {x r : Nat} {s s' : Shape} (h : FoundRoot x s s' r) : s'.length = s.length := by
  obtain ⟨s1, s2, h1, h2, h3⟩ := h; rw [h3.len, h2.len, h1.len]
theorem FoundRoot.val {x r : Nat} {s s' : Shape} (h : FoundRoot x s s' r) (k : Nat) : (g s' k).val = (g s k).val := by
  obtain ⟨s1, s2, h1, h2, h3⟩ := h; rw [h3.val, h2.val, h1.val]

theorem size_hand {t : T} : t.hand.size = t.size := by
  cases t with
  | nil => rfl
  | node l h f r => cases f <;> simp [hand, size, size_tog]; omega
theorem left_ok : ∀ (n : Nat) (t : T) (s : Shape) (u : Option Nat) (h : Nat), t.size ≤ n → At s u t → t.hs.Nodup → t.root = some h → (g s h).tn = false →
    ∃ m s' t' r, LeftR m h s s' r ∧ At s' u t' ∧ t'.root = t.root ∧ (∀ b, t'.ord b = t.ord b) ∧ (t.ord false).head? = some r ∧ ∀ k, k ∉ t.hs → g s' k = g s k := by
  intro n
  induction n with
  | zero =>
    intro t s u h hs _ _ hr
    cases t with
    | nil => cases hr
    | node _ _ _ _ => simp [size] at hs
  | succ n ih =>
    intro t s u h hsz a hn hr ht
    cases t with
    | nil => cases hr
    | node l h' f r =>
      obtain rfl : h' = h := Option.some.inj hr
      clear hr
      have a0 := a
      obtain ⟨a1, a2, a3, a4, a5, a6, a7⟩ := a
      rw [ht] at a5; subst a5
      obtain ⟨n1, n2, n3, n4, n5⟩ := nodup_node.mp hn
      cases e : l.root with
      | none =>
        cases l with
        | node _ _ _ _ => cases e
        | nil => exact ⟨0, s, _, h', .stop (by rw [a3, e]), a0, rfl, fun _ => rfl, rfl, fun _ _ => rfl⟩
      | some h2 =>
        obtain ⟨b1, b2⟩ := a6.hand n1 e
        have e2 : l.hand.root = some h2 := by rw [hand_root, e]
        have pm := hand_hs (t := l)
        have t2 : (g (handOn s h2) h2).tn = false := by
          cases l with
          | nil => cases e
          | node ll hh ff rr => cases e; cases ff <;> exact b1.2.2.2.2.1
        obtain ⟨m, s', t', r', q1, q2, q3, q4, q5, q6⟩ := ih l.hand (handOn s h2) (some h') h2 (by rw [size_hand]; have : l.size + r.size + 1 ≤ n + 1 := hsz; omega) b1 (pm.nodup_iff.mpr n1) e2 t2
        have fr : ∀ k, k ∉ l.hs → g s' k = g s k := fun k hk => (q6 k fun q => hk (pm.mem_iff.mp q)).trans (b2 k hk)
        have ll : s'.length = s.length := by rw [q1.len, len_handOn]
        refine ⟨m + 1, s', .node t' h' false r, r', .go (by rw [a3, e]) q1, ⟨by rw [ll]; exact a1, by rw [fr h' n3]; exact a2, by rw [fr h' n3, a3, q3, e2, e], by rw [fr h' n3]; exact a4, by rw [fr h' n3]; exact ht, q2, a7.frame ll fun k hk => fr k fun q => n5 k q hk⟩, rfl, fun b => ?_, ?_, fun k hk => fr k fun q => hk (by simp [T.hs, q])⟩
        · cases b <;> simp [T.ord, q4, hand_ord]
        · show (l.ord false ++ h' :: r.ord false).head? = some r'
          rw [hand_ord] at q5
          rw [List.head?_append, q5]; rfl

/-- going to parents from x one comes to r -/
inductive Anc (par : Nat → Option Nat) : Nat → Nat → Prop
  | refl {x} : Anc par x x
  | up {x y r} : par x = some y → Anc par y r → Anc par x r
theorem Anc.trans {par : Nat → Option Nat} {a b c : Nat} (h : Anc par a b) (h' : Anc par b c) : Anc par a c := by
  induction h with
  | refl => exact h'
  | up e _ ih => exact .up e (ih h')
theorem Chn.anc {par : Nat → Option Nat} : ∀ {l : List Nat} {f : Nat} {u : Option Nat}, Chn par u (f :: l) → ∀ x ∈ f :: l, Anc par x f := by
  intro l
  induction l with
  | nil => intro f u _ x hx; rw [List.mem_singleton.mp hx]; exact .refl
  | cons a l ih =>
    intro f u c x hx
    rcases List.mem_cons.mp hx with rfl | hx
    · exact .refl
    · exact (ih c.2 x hx).trans (.up c.2.1 .refl)
theorem Anc.root_eq {par : Nat → Option Nat} {x r r' : Nat} (h : Anc par x r) (hr : par r = none) (h' : Anc par x r') (hr' : par r' = none) : r = r' := by
  induction h with
  | refl =>
    cases h' with
    | refl => rfl
    | up e _ => rw [hr] at e; cases e
  | up e _ ih =>
    cases h' with
    | refl => rw [hr'] at e; cases e
    | up e' h' => rw [e] at e'; cases e'; exact ih hr h'

section
variable {n : Nat} {par : Nat → Option Nat} {d : Nat → Nat}
/-- every house has a root -/
theorem root_ex (A : Acy n par d) : ∀ (m x : Nat), d x ≤ m → x < n → ∃ r, Anc par x r ∧ par r = none ∧ r < n := by
  intro m
  induction m using Nat.strongRecOn with
  | _ m ih =>
    intro x hm hx
    cases e : par x with
    | none => exact ⟨x, .refl, e, hx⟩
    | some y =>
      obtain ⟨hy, hd⟩ := A x y hx e
      obtain ⟨r, h1, h2, h3⟩ := ih (d y) (by omega) y (Nat.le_refl _) hy
      exact ⟨r, .up e h1, h2, h3⟩
theorem found_ok (A : Acy n par d) {s : Shape} (hl : s.length = n) (h : Tells s par) {x : Nat} (hx : x < n) :
    ∃ s' r, FoundRoot x s s' r ∧ TopAt s' par r ∧ Anc par x r ∧ par r = none ∧ r < n ∧ ∀ P : Nat → Prop, Inv par P → P x → ∀ k, ¬ P k → g s' k = g s k := by
  obtain ⟨s1, r1, ⟨tr, hang, i, l, G, To, ei, hi⟩, f1⟩ := reach_ok A hl h hx
  have l1 : s1.length = n := r1.len.trans hl
  have ai := G.at_ i
  have ni := G.nd i
  rw [ei] at ai ni
  have tn : (g s1 x).tn = false := ai.2.2.2.2.1
  have xi : x ∈ (tr i).hs := by rw [ei]; simp [T.hs]
  obtain ⟨m, s2, t', r, q1, q2, q3, q4, q5, q6⟩ := left_ok _ _ s1 (hang i) x (Nat.le_refl _) ai ni rfl tn
  have pm : t'.hs.Perm (tr i).hs := (ord_perm (b := false)).symm.trans (by rw [q4, ← ei]; exact ord_perm)
  have G2 := G.row q1.len q2 pm (by rw [ei]; exact q6)
  have To2 : Told (fun j => if j = i then t' else tr j) hang par := fun j => by
    have z := To j
    by_cases e : j = i
    · subst e; rw [ei, ← q4] at z; simpa using z
    · simpa [e] using z
  have toi := To i
  rw [ei, hi] at toi
  obtain ⟨ro, eo⟩ : ∃ ro, (T.node l x false T.nil).ord false = r :: ro := by
    cases e : (T.node l x false T.nil).ord false with
    | nil => rw [e] at q5; cases q5
    | cons a as => rw [e] at q5; cases q5; exact ⟨as, rfl⟩
  rw [eo] at toi
  have hr : par r = none := toi.1
  have an : Anc par x r := Chn.anc toi x (by rw [← eo]; exact mem_ord.mpr (by simp [T.hs]))
  have rl : r < n := by
    have : r ∈ (tr i).hs := by rw [ei]; exact (mem_ord (b := false)).mp (by rw [eo]; simp)
    rw [← l1]; exact G.lt this
  have l2 : s2.length = n := q1.len.trans l1
  obtain ⟨s', r2, tp, f2⟩ := reach_ok A l2 ⟨_, _, G2, To2⟩ rl
  have lm : LeftMost x s1 s2 r := ⟨m, by rw [handOn_id tn]; exact q1⟩
  refine ⟨s', r, ⟨s1, s2, r1, lm, r2⟩, tp, an, hr, rl, fun P I px k hk => ?_⟩
  have pr : P r := ((To i).inv I x (mem_ord.mpr xi) px).1 r (mem_ord.mpr (by rw [ei]; exact (mem_ord (b := false)).mp (by rw [eo]; simp)))
  rw [f2 P I pr k hk, q6 k fun q => hk (((To i).inv I x (mem_ord.mpr xi) px).1 k (mem_ord.mpr (by rw [ei]; exact q))), f1 P I px k hk]
end

/-! ### ties -/
def U (par : Nat → Option Nat) (a b : Nat) : Prop := par a = some b ∨ par b = some a
inductive Con (E : Nat → Nat → Prop) : Nat → Nat → Prop
  | refl {a} : Con E a a
  | go {a b c} : E a b → Con E b c → Con E a c
theorem Con.trans {E : Nat → Nat → Prop} {a b c : Nat} (h : Con E a b) (h' : Con E b c) : Con E a c := by
  induction h with
  | refl => exact h'
  | go e _ ih => exact .go e (ih h')
theorem Con.symm {E : Nat → Nat → Prop} (hE : ∀ a b, E a b → E b a) {a b : Nat} (h : Con E a b) : Con E b a := by
  induction h with
  | refl => exact .refl
  | go e _ ih => exact ih.trans (.go (hE _ _ e) .refl)
theorem Con.mono {E F : Nat → Nat → Prop} (h : ∀ a b, E a b → F a b) {a b : Nat} (c : Con E a b) : Con F a b := by
  induction c with
  | refl => exact .refl
  | go e _ ih => exact .go (h _ _ e) ih
theorem U.symm {par : Nat → Option Nat} {a b : Nat} (h : U par a b) : U par b a := Or.symm h
theorem Anc.con {par : Nat → Option Nat} {a b : Nat} (h : Anc par a b) : Con (U par) a b := by
  induction h with
  | refl => exact .refl
  | up e _ ih => exact .go (.inl e) ih
/-- joined: one root -/
theorem con_root {par : Nat → Option Nat} {a b ra rb : Nat} (c : Con (U par) a b) (ha : Anc par a ra) (na : par ra = none) (hb : Anc par b rb) (nb : par rb = none) : ra = rb := by
  induction c with
  | refl => exact ha.root_eq na hb nb
  | go e _ ih =>
    refine ih ?_ hb
    rcases e with e | e
    · cases ha with
      | refl => rw [na] at e; cases e
      | up e' h => rw [e] at e'; cases e'; exact h
    · exact .up e ha
theorem inv_con {par : Nat → Option Nat} {x : Nat} : Inv par (fun k => Con (U par) x k) := fun a b e =>
  ⟨fun h => h.trans (.go (.inl e) .refl), fun h => h.trans (.go (.inr e) .refl)⟩

/-! ### turning about -/
/-- who stands ahead in a list -/
def prev : List Nat → Nat → Option Nat
  | [], _ => none
  | [_], _ => none
  | a :: b :: r, k => if k = b then some a else prev (b :: r) k
theorem chn_prev {par : Nat → Option Nat} : ∀ {l : List Nat} {u : Option Nat}, l.Nodup → Chn par u l → ∀ k ∈ l, (l.head? = some k ∧ par k = u) ∨ (l.head? ≠ some k ∧ par k = prev l k) := by
  intro l
  induction l with
  | nil => intro u _ _ k hk; cases hk
  | cons a l ih =>
    intro u hn c k hk
    rcases List.mem_cons.mp hk with rfl | hk
    · exact .inl ⟨rfl, c.1⟩
    · have ne : a ≠ k := fun e => (List.nodup_cons.mp hn).1 (e ▸ hk)
      refine .inr ⟨by simpa using ne, ?_⟩
      cases l with
      | nil => cases hk
      | cons b r =>
        rcases ih (List.nodup_cons.mp hn).2 c.2 k hk with ⟨h1, h2⟩ | ⟨h1, h2⟩
        · have : b = k := by simpa using h1
          subst this; simp [prev, h2]
        · have : k ≠ b := fun e => h1 (by simp [e])
          simp [prev, this, h2]
theorem prev_chn : ∀ {l : List Nat} {u : Option Nat} {q : Nat → Option Nat}, l.Nodup → (∀ k ∈ l, q k = if l.head? = some k then u else prev l k) → Chn q u l := by
  intro l
  induction l with
  | nil => intro u q _ _; trivial
  | cons a l ih =>
    intro u q hn h
    refine ⟨by rw [h a (by simp)]; simp, ?_⟩
    refine ih (List.nodup_cons.mp hn).2 fun k hk => ?_
    have ne : a ≠ k := fun e => (List.nodup_cons.mp hn).1 (e ▸ hk)
    rw [h k (List.mem_cons_of_mem _ hk)]
    cases l with
    | nil => cases hk
    | cons b r =>
      have h1 : ¬ (a :: b :: r).head? = some k := by simpa using ne
      rw [if_neg h1]
      by_cases e : k = b
      · subst e; simp [prev]
      · have e' : ¬ b = k := fun z => e z.symm
        simp [prev, e, e']
theorem prev_mem : ∀ {l : List Nat} {k y : Nat}, prev l k = some y → y ∈ l ∧ k ∈ l := by
  intro l
  induction l with
  | nil => intro k y h; cases h
  | cons a l ih =>
    intro k y h
    cases l with
    | nil => cases h
    | cons b r =>
      unfold prev at h
      by_cases e : k = b
      · rw [if_pos e] at h; cases h; simp [e]
      · rw [if_neg e] at h
        obtain ⟨h1, h2⟩ := ih h
        exact ⟨List.mem_cons_of_mem _ h1, List.mem_cons_of_mem _ h2⟩
/-- neighbours in a list -/
def Adj (l : List Nat) (a b : Nat) : Prop := ∃ p q, l = p ++ a :: b :: q
theorem prev_adj : ∀ {l : List Nat} {k y : Nat}, prev l k = some y → Adj l y k := by
  intro l
  induction l with
  | nil => intro k y h; cases h
  | cons a l ih =>
    intro k y h
    cases l with
    | nil => cases h
    | cons b r =>
      unfold prev at h
      by_cases e : k = b
      · rw [if_pos e] at h; cases h; exact ⟨[], r, by rw [e]; rfl⟩
      · rw [if_neg e] at h
        obtain ⟨p, q, e2⟩ := ih h
        exact ⟨a :: p, q, by rw [e2]; rfl⟩
theorem adj_prev : ∀ {l : List Nat} {k y : Nat}, l.Nodup → Adj l y k → prev l k = some y := by
  intro l
  induction l with
  | nil => rintro k y _ ⟨p, q, e⟩; cases p <;> cases e
  | cons a l ih =>
    rintro k y hn ⟨p, q, e⟩
    cases p with
    | nil => cases e; simp [prev]
    | cons c p =>
      rw [List.cons_append] at e
      obtain ⟨e1, e2⟩ := List.cons.inj e
      subst e2
      have hn2 := (List.nodup_cons.mp hn).2
      have := ih hn2 ⟨p, q, rfl⟩
      cases hl : p ++ y :: k :: q with
      | nil => cases p <;> cases hl
      | cons b r =>
        rw [hl] at this hn2
        unfold prev
        rw [if_neg, this]
        rintro rfl
        -- k would be the first one, with one ahead
        cases p with
        | nil => cases hl; exact (List.nodup_cons.mp hn2).1 (by simp)
        | cons p0 ps =>
          cases hl
          exact (List.nodup_cons.mp hn2).1 (by simp)
/-- the place in a list -/
def pos : List Nat → Nat → Nat
  | [], _ => 0
  | a :: r, k => if k = a then 0 else pos r k + 1
theorem pos_le : ∀ {l : List Nat} {k : Nat}, pos l k ≤ l.length := by
  intro l
  induction l with
  | nil => intro k; exact Nat.le_refl _
  | cons a r ih =>
    intro k
    unfold pos
    split
    · exact Nat.zero_le _
    · exact Nat.succ_le_succ ih
theorem pos_adj : ∀ {l : List Nat} {a b : Nat}, l.Nodup → Adj l a b → pos l a < pos l b := by
  intro l
  induction l with
  | nil => rintro a b _ ⟨p, q, e⟩; cases p <;> cases e
  | cons c l ih =>
    rintro a b hn ⟨p, q, e⟩
    obtain ⟨h1, h2⟩ := List.nodup_cons.mp hn
    cases p with
    | nil =>
      obtain ⟨e1, e2⟩ := List.cons.inj e
      subst e1
      have : b ≠ c := fun z => h1 (by rw [e2, z]; simp)
      simp [pos, this]
    | cons p0 p =>
      rw [List.cons_append] at e
      obtain ⟨e1, e2⟩ := List.cons.inj e
      have k1 : a ≠ c := fun z => h1 (by rw [e2, z]; simp)
      have k2 : b ≠ c := fun z => h1 (by rw [e2, z]; simp)
      have := ih h2 ⟨p, q, e2⟩
      simp [pos, k1, k2, this]
theorem adj_rev {l : List Nat} {a b : Nat} (h : Adj l a b) : Adj l.reverse b a := by
  obtain ⟨p, q, e⟩ := h
  exact ⟨q.reverse, p.reverse, by rw [e]; simp⟩

section
variable {n : Nat} {par : Nat → Option Nat} {d : Nat → Nat}
theorem turned_ok (A : Acy n par d) {s : Shape} (hl : s.length = n) {x : Nat} (h : TopAt s par x) :
    ∃ par' d', Acy n par' d' ∧ Tells (flip s x) par' ∧ (∀ a b, U par' a b ↔ U par a b) ∧ par' x = none ∧ ∀ k, ¬ Con (U par) x k → par' k = par k := by
  subst hl
  obtain ⟨tr, hang, i, l, G, To, ei, hi⟩ := h
  have ai := G.at_ i
  have ni := G.nd i
  rw [ei] at ai ni
  have toi := To i
  rw [ei, hi] at toi
  have xi : x ∈ (tr i).hs := by rw [ei]; simp [T.hs]
  have xl : x < s.length := G.lt xi
  -- the way, and the other way round
  obtain ⟨L, hL⟩ : ∃ L, L = (T.node l x false T.nil).ord false := ⟨_, rfl⟩
  rw [← hL] at toi
  have ndL : L.Nodup := by rw [hL]; exact nodup_ord.mpr ni
  have mL : ∀ k, k ∈ L ↔ k ∈ (tr i).hs := fun k => by rw [hL, ei]; exact mem_ord
  have oT : (T.node l x true T.nil).ord false = L.reverse := by
    rw [hL, ← ord_not]; rfl
  have hR : L.reverse.head? = some x := by
    rw [hL]
    show (l.ord false ++ [x]).reverse.head? = some x
    simp
  have ndR : L.reverse.Nodup := (List.reverse_perm L).nodup_iff.mpr ndL
  let par' : Nat → Option Nat := fun k => if k ∈ L then prev L.reverse k else par k
  have pin : ∀ k, k ∈ L → par' k = prev L.reverse k := fun k hk => if_pos hk
  have pout : ∀ k, k ∉ L → par' k = par k := fun k hk => if_neg hk
  -- par in terms of neighbours
  have parL : ∀ k, k ∈ L → ∀ y, par k = some y ↔ Adj L y k := fun k hk y => by
    rcases chn_prev ndL toi k hk with ⟨h1, h2⟩ | ⟨h1, h2⟩
    · constructor
      · intro e; rw [h2] at e; cases e
      · intro e
        have e2 := adj_prev ndL e
        obtain ⟨p, q, e3⟩ := e
        cases p with
        | nil =>
          rw [e3] at h1 ndL; cases h1
          exact absurd (by simp) (List.nodup_cons.mp ndL).1
        | cons c p =>
          rw [e3] at h1 ndL; cases h1
          exact absurd (by simp) (List.nodup_cons.mp ndL).1
    · rw [h2]; exact ⟨prev_adj, adj_prev ndL⟩
  have parR : ∀ k, k ∈ L → ∀ y, par' k = some y ↔ Adj L k y := fun k hk y => by
    rw [pin k hk]
    constructor
    · intro e; have := adj_rev (prev_adj e); rwa [List.reverse_reverse] at this
    · intro e; exact adj_prev ndR (adj_rev e)
  have adjm : ∀ {a b}, Adj L a b → a ∈ L ∧ b ∈ L := fun {a b} ⟨p, q, e⟩ => by rw [e]; simp
  have UU : ∀ a b, U par' a b ↔ U par a b := by
    -- one half, for both directions
    have key : ∀ a b, par' a = some b → U par a b := fun a b e => by
      by_cases ha : a ∈ L
      · have := (parR a ha b).mp e
        exact .inr ((parL b (adjm this).2 a).mpr this)
      · rw [pout a ha] at e; exact .inl e
    have key2 : ∀ a b, par a = some b → U par' a b := fun a b e => by
      by_cases ha : a ∈ L
      · have := (parL a ha b).mp e
        exact .inr ((parR b (adjm this).1 a).mpr this)
      · exact .inl (by rw [pout a ha]; exact e)
    intro a b
    exact ⟨fun h => h.elim (key a b) fun h => (key b a h).symm, fun h => h.elim (key2 a b) fun h => (key2 b a h).symm⟩
  have px : par' x = none := by
    rw [pin x ((mL x).mpr xi)]
    cases hl : L.reverse with
    | nil => rfl
    | cons c r =>
      rw [hl] at hR ndR; cases hR
      cases e : prev (x :: r) x with
      | none => rfl
      | some y =>
        obtain ⟨p, q, e2⟩ := prev_adj e
        cases p with
        | nil => cases e2; exact absurd (by simp) (List.nodup_cons.mp ndR).1
        | cons c p => cases e2; exact absurd (by simp) (List.nodup_cons.mp ndR).1
  -- the new measure: the place on the way, then the old one
  have inL : ∀ k, k ∈ L → k < s.length := fun k hk => G.lt ((mL k).mp hk)
  have idx : ∀ a b, Adj L.reverse a b → pos L.reverse a < pos L.reverse b := fun a b h => pos_adj ndR h
  have A' : Acy s.length par' (fun k => if k ∈ L then pos L.reverse k else L.length + 1 + d k) := fun a b ha e => by
    by_cases hL' : a ∈ L
    · have h1 := (parR a hL' b).mp e
      have hb := (adjm h1).2
      refine ⟨inL b hb, ?_⟩
      dsimp only
      rw [if_pos hb, if_pos hL']
      exact idx b a (adj_rev h1)
    · rw [pout a hL'] at e
      obtain ⟨h1, h2⟩ := A a b ha e
      refine ⟨h1, ?_⟩
      dsimp only
      rw [if_neg hL']
      by_cases hb : b ∈ L
      · rw [if_pos hb]
        have : pos L.reverse b ≤ L.reverse.length := pos_le
        rw [List.length_reverse] at this
        omega
      · rw [if_neg hb]; omega
  -- the shape
  have gx : g (flip s x) x = { g s x with tn := !(g s x).tn } := by rw [g_flip xl, if_pos rfl]
  have gk : ∀ k, k ≠ x → g (flip s x) k = g s k := fun k hk => by rw [g_flip xl, if_neg hk]
  obtain ⟨n1, n2, n3, n4, n5⟩ := nodup_node.mp ni
  obtain ⟨i1, i2, i3, i4, i5, i6, i7⟩ := ai
  have at' : At (flip s x) (hang i) (T.node l x true T.nil) := ⟨by rw [len_flip]; exact i1, by rw [gx]; exact i2, by rw [gx]; exact i3, by rw [gx]; exact i4, by rw [gx, i5]; rfl, i6.frame len_flip fun k hk => gk k fun z => n3 (z ▸ hk), trivial⟩
  have G2 := G.row len_flip at' (by rw [ei]; exact .refl _) (fun k hk => gk k fun z => hk (z ▸ xi))
  refine ⟨par', _, A', ⟨_, hang, G2, fun j => ?_⟩, UU, px, fun k hk => pout k fun z => hk ?_⟩
  · by_cases e : j = i
    · subst e
      have goal : Chn par' (hang j) ((T.node l x true T.nil).ord false) := by
       rw [oT, hi]
       exact prev_chn ndR fun k hk => by
        have hk' := List.mem_reverse.mp hk
        rw [pin k hk', hR]
        by_cases q : x = k
        · subst q; rw [if_pos rfl, ← pin x hk']; exact px
        · rw [if_neg (by intro z; exact q (Option.some.inj z))]
      simpa using goal
    · simp only [if_neg e]
      have z := To j
      -- the same parents on the other rows
      have : ∀ (l : List Nat) (u : Option Nat), (∀ k ∈ l, k ∉ L) → Chn par u l → Chn par' u l := by
        intro l
        induction l with
        | nil => intro u _ _; trivial
        | cons a l ih => intro u h c; exact ⟨by rw [pout a (h a (by simp))]; exact c.1, ih _ (fun k hk => h k (by simp [hk])) c.2⟩
      exact this _ _ (fun k hk q => e (G.dis j i k (mem_ord.mp hk) ((mL k).mp q))) z
  · have c := (To i).inv inv_con x (mem_ord.mpr xi) Con.refl
    exact c.1 k (mem_ord.mpr ((mL k).mp z))
end
end Lk
set_option linter.all false
/-! Deeds and asks of a kept forest, as relations, and what they do to the parents. -/
namespace Lk
open T

def setVal (s : Shape) (h : Nat) (v : Int) : Shape := s.set h { g s h with val := v }
def TurnAbout (x : Nat) (s s' : Shape) : Prop := ∃ s1, Reach x s s1 ∧ s' = flip s1 x
def DPut (x : Nat) (v : Int) (s s' : Shape) : Prop := ∃ s1, Reach x s s1 ∧ s' = setVal s1 x v
def DLink (h o : Nat) (s s' : Shape) : Prop := ∃ s1 s2 r s3 s4, FoundRoot h s s1 h ∧ FoundRoot o s1 s2 r ∧ r ≠ h ∧ Reach h s2 s3 ∧ Reach o s3 s4 ∧ s' = setUp s4 h (some o)
def DCut (h : Nat) (s s' : Shape) : Prop := ∃ s1 r s2 k, FoundRoot h s s1 r ∧ r ≠ h ∧ Reach h s1 s2 ∧ (g s2 h).left = some k ∧ s' = setUp (setSon s2 h false none) k none
def AJoin (a b : Nat) (s s' : Shape) (c : Bool) : Prop := ∃ s1 r1 r2, FoundRoot a s s1 r1 ∧ FoundRoot b s1 s' r2 ∧ c = decide (r2 = r1)
/-- the order of a part of a row, k levels deep -/
inductive OrdR (s : Shape) : Nat → Option Nat → Bool → List Nat → Prop
  | nil {k b} : OrdR s k none b []
  | back {k h b A B} : (b ^^ (g s h).tn) = true → OrdR s k (g s h).right true A → OrdR s k (g s h).left true B → OrdR s (k + 1) (some h) b (A ++ h :: B)
  | forth {k h b A B} : (b ^^ (g s h).tn) = false → OrdR s k (g s h).left false A → OrdR s k (g s h).right false B → OrdR s (k + 1) (some h) b (A ++ h :: B)
theorem OrdR.mono {s : Shape} {k : Nat} {o : Option Nat} {b : Bool} {l : List Nat} (h : OrdR s k o b l) : ∀ {m : Nat}, k ≤ m → OrdR s m o b l := by
  induction h with
  | nil => intro m _; exact .nil
  | back e _ _ ih1 ih2 =>
    intro m hm
    cases m with
    | zero => omega
    | succ m => exact .back e (ih1 (by omega)) (ih2 (by omega))
  | forth e _ _ ih1 ih2 =>
    intro m hm
    cases m with
    | zero => omega
    | succ m => exact .forth e (ih1 (by omega)) (ih2 (by omega))
theorem At.ordR {s : Shape} {t : T} : ∀ {u : Option Nat} {b : Bool}, At s u t → OrdR s t.size t.root b (t.ord b) := by
  induction t with
  | nil => intro u b _; exact .nil
  | node l h f r il ir =>
    intro u b a
    obtain ⟨a1, a2, a3, a4, a5, a6, a7⟩ := a
    have hl : l.size ≤ l.size + r.size := by omega
    have hr : r.size ≤ l.size + r.size := by omega
    show OrdR s (l.size + r.size + 1) (some h) b _
    cases e : (b ^^ f) with
    | true =>
      have : (T.node l h f r).ord b = r.ord true ++ h :: l.ord true := by simp only [T.ord, e]
      rw [this]
      refine .back (by rw [a5]; exact e) ?_ ?_
      · rw [a4]; exact (ir (b := true) a7).mono hr
      · rw [a3]; exact (il (b := true) a6).mono hl
    | false =>
      have : (T.node l h f r).ord b = l.ord false ++ h :: r.ord false := by simp only [T.ord, e]
      rw [this]
      refine .forth (by rw [a5]; exact e) ?_ ?_
      · rw [a3]; exact (il (b := false) a6).mono hl
      · rw [a4]; exact (ir (b := false) a7).mono hr
/-- L is the first of its greatest: which one -/
def FirstMax (f : Nat → Int) (L : List Nat) (h : Nat) : Prop := ∃ p q, L = p ++ h :: q ∧ (∀ y ∈ p, f y < f h) ∧ ∀ y ∈ q, f y ≤ f h
def AWhere (a b : Nat) (s s' : Shape) (h : Nat) : Prop := ∃ s1 r s2 s3 s4 L s5, FoundRoot a s s1 r ∧ FoundRoot b s1 s2 r ∧ TurnAbout a s2 s3 ∧ Reach b s3 s4 ∧ OrdR s4 64 (some b) false L ∧ FirstMax (fun k => (g s4 k).val) L h ∧ h < s.length ∧ L.length ≤ 64 ∧ (∀ k ∈ L, k < s.length ∧ ∃ l, l.length ≤ 64 ∧ ChainR s4 k l) ∧ Reach h s4 s5 ∧ TurnAbout r s5 s'

theorem len_setVal {s : Shape} {h v} : (setVal s h v).length = s.length := by simp [setVal]
theorem TurnAbout.len {x : Nat} {s s' : Shape} (h : TurnAbout x s s') : s'.length = s.length := by
  obtain ⟨s1, h, rfl⟩ := h; rw [len_flip, h.len]
theorem TurnAbout.val {x : Nat} {s s' : Shape} (h : TurnAbout x s s') (k : Nat) : (g s' k).val = (g s k).val := by
  obtain ⟨s1, h, rfl⟩ := h; rw [val_flip, h.val]

/-- another value changes nothing else -/
theorem At.vals {s s' : Shape} {u : Option Nat} {t : T} (a : At s u t) (hl : s'.length = s.length) (h : ∀ k, (g s' k).up = (g s k).up ∧ (g s' k).left = (g s k).left ∧ (g s' k).right = (g s k).right ∧ (g s' k).tn = (g s k).tn) : At s' u t := by
  induction t generalizing u with
  | nil => trivial
  | node l k f r il ir =>
    obtain ⟨a1, a2, a3, a4, a5, a6, a7⟩ := a
    obtain ⟨h1, h2, h3, h4⟩ := h k
    exact ⟨by omega, h1.trans a2, h2.trans a3, h3.trans a4, h4.trans a5, il a6, ir a7⟩

section
variable {n : Nat} {par : Nat → Option Nat} {d : Nat → Nat}
/-! ### put -/
theorem put_ok (A : Acy n par d) {s : Shape} (hl : s.length = n) (h : Tells s par) {x : Nat} (hx : x < n) (v : Int) :
    ∃ s', DPut x v s s' ∧ s'.length = n ∧ Tells s' par ∧ ∀ k, (g s' k).val = if k = x then v else (g s k).val := by
  obtain ⟨s1, r, ⟨tr, hang, _, _, G, To, _⟩, _⟩ := reach_ok A hl h hx
  have l1 : s1.length = n := r.len.trans hl
  have gv : ∀ k, g (setVal s1 x v) k = if k = x then { g s1 x with val := v } else g s1 k := fun k => by
    unfold setVal; rw [g_set (by omega)]
  refine ⟨_, ⟨s1, r, rfl⟩, by rw [len_setVal, l1], ⟨tr, hang, ⟨fun i => (G.at_ i).vals len_setVal fun k => ?_, G.nd, G.dis, fun k hk => G.cov k (by rw [len_setVal] at hk; exact hk), G.fin⟩, To⟩, fun k => ?_⟩
  · rw [gv]
    by_cases e : k = x
    · subst e; simp
    · simp [e]
  · rw [gv]
    by_cases e : k = x
    · subst e; simp
    · simp [e, r.val]

/-! ### turn -/
theorem turn_ok (A : Acy n par d) {s : Shape} (hl : s.length = n) (h : Tells s par) {x : Nat} (hx : x < n) :
    ∃ s' par' d', TurnAbout x s s' ∧ Acy n par' d' ∧ Tells s' par' ∧ (∀ a b, U par' a b ↔ U par a b) ∧ par' x = none := by
  obtain ⟨s1, r, tp, _⟩ := reach_ok A hl h hx
  obtain ⟨par', d', q1, q2, q3, q4, _⟩ := turned_ok A (r.len.trans hl) tp
  exact ⟨_, par', d', ⟨s1, r, rfl⟩, q1, q2, q3, q4⟩

/-! ### joined -/
theorem join_ok (A : Acy n par d) {s : Shape} (hl : s.length = n) (h : Tells s par) {a b : Nat} (ha : a < n) (hb : b < n) :
    ∃ s' c, AJoin a b s s' c ∧ Tells s' par ∧ (c = true ↔ Con (U par) a b) := by
  obtain ⟨s1, r1, f1, t1, an1, n1, _, _⟩ := found_ok A hl h ha
  obtain ⟨s2, r2, f2, t2, an2, n2, _, _⟩ := found_ok A (f1.len.trans hl) t1.tells hb
  refine ⟨s2, _, ⟨s1, r1, r2, f1, f2, rfl⟩, t2.tells, ?_⟩
  rw [decide_eq_true_iff]
  constructor
  · rintro rfl
    exact an1.con.trans (an2.con.symm fun _ _ => U.symm)
  · intro c
    exact (con_root c an1 n1 an2 n2).symm

/-! ### link -/
theorem link_ok (A : Acy n par d) {s : Shape} (hl : s.length = n) (h : Tells s par) {a b : Nat} (ha : a < n) (hb : b < n) (na : par a = none) (nc : ¬ Con (U par) a b) :
    ∃ s' d', DLink a b s s' ∧ Acy n (fun k => if k = a then some b else par k) d' ∧ Tells s' (fun k => if k = a then some b else par k) := by
  obtain ⟨s1, r1, f1, t1, an1, n1, _, _⟩ := found_ok A hl h ha
  obtain rfl : a = r1 := Anc.root_eq .refl na an1 n1
  have l1 := f1.len.trans hl
  obtain ⟨s2, r2, f2, t2, an2, n2, _, _⟩ := found_ok A l1 t1.tells hb
  have hr : r2 ≠ a := by rintro rfl; exact nc (an2.con.symm fun _ _ => U.symm)
  have l2 := f2.len.trans l1
  obtain ⟨s3, c3, ⟨tr3, hang3, i3, l3, G3, To3, e3, h3⟩, _⟩ := reach_ok A l2 t2.tells ha
  have l3' := c3.len.trans l2
  obtain ⟨s4, c4, ⟨tr, hang, _, _, G, To, _, _⟩, f4⟩ := reach_ok A l3' ⟨tr3, hang3, G3, To3⟩ hb
  have l4 : s4.length = n := c4.len.trans l3'
  -- a alone is its row
  have a3 := G3.at_ i3
  rw [e3, h3] at a3
  have to3 := To3 i3
  rw [e3, h3] at to3
  have l3n : l3 = .nil := by
    cases l3 with
    | nil => rfl
    | node p q f r =>
      exfalso
      obtain ⟨fi, _, li, ei⟩ := ord_head (t := T.node p q f r) (x := q) (by simp [T.hs])
      have : (T.node (T.node p q f r) a false T.nil).ord false = fi :: (li ++ [a]) := by
        show (T.node p q f r).ord false ++ [a] = _
        rw [ei]; rfl
      rw [this] at to3
      have c := to3.2
      have : ∀ (l : List Nat) (u : Option Nat), Chn par u (l ++ [a]) → u.isSome = true → par a ≠ none := by
        intro l
        induction l with
        | nil => intro u c hu; rw [c.1]; cases u with
          | none => cases hu
          | some _ => simp
        | cons x l ih => intro u c _; exact ih _ c.2 rfl
      exact this li _ c rfl na
  subst l3n
  have g4 : g s4 a = g s3 a := f4 (fun k => Con (U par) b k) inv_con .refl a fun c => nc (c.symm fun _ _ => U.symm)
  obtain ⟨j, hj⟩ := G.cov a (by omega)
  have aj := G.at_ j
  have uj : (g s4 a).up = none := by rw [g4]; exact a3.2.1
  have nj := G.nd j
  obtain ⟨f, ej, hgj⟩ : ∃ f, tr j = .node .nil a f .nil ∧ hang j = none := by
    rcases aj.up hj with ⟨q1, q2⟩ | ⟨v, q1, _⟩
    · cases ht : tr j with
      | nil => rw [ht] at hj; cases hj
      | node l k f r =>
        rw [ht] at aj q1
        cases q1
        obtain ⟨b1, b2, b3, b4, b5, b6, b7⟩ := aj
        rw [g4] at b3 b4
        have b3' : l.root = none := b3.symm.trans a3.2.2.1
        have b4' : r.root = none := b4.symm.trans a3.2.2.2.1
        cases l with
        | node _ _ _ _ => cases b3'
        | nil => cases r with
          | node _ _ _ _ => cases b4'
          | nil => exact ⟨f, rfl, q2.symm.trans uj⟩
    · rw [uj] at q1; cases q1
  have hab : a ≠ b := by rintro rfl; exact nc .refl
  have gs : ∀ k, g (setUp s4 a (some b)) k = if k = a then { g s4 a with up := some b } else g s4 k := fun k => by
    unfold setUp; rw [g_set (by omega)]
  have other : ∀ i, i ≠ j → ∀ k ∈ (tr i).hs, k ≠ a := fun i hi k hk e => hi (G.dis i j a (e ▸ hk) hj)
  refine ⟨_, fun k => if (Classical.propDecidable (Con (U par) a k)).decide then d b + 1 + d k else d k, ⟨s1, s2, r2, s3, s4, f1, f2, hr, c3, c4, rfl⟩, fun x y hx e => ?_, tr, fun i => if i = j then some b else hang i, ⟨fun i => ?_, G.nd, G.dis, fun k hk => G.cov k (by rw [len_setUp] at hk; exact hk), G.fin⟩, fun i => ?_⟩
  · have dec : ∀ k, (Classical.propDecidable (Con (U par) a k)).decide = true ↔ Con (U par) a k := fun k => @decide_eq_true_iff _ (Classical.propDecidable _)
    dsimp only at e ⊢
    by_cases q : x = a
    · subst q
      rw [if_pos rfl] at e
      obtain rfl : b = y := Option.some.inj e
      rw [if_pos ((dec x).mpr .refl), if_neg (fun z => nc ((dec b).mp z))]
      exact ⟨hb, by omega⟩
    · rw [if_neg q] at e
      obtain ⟨h1, h2⟩ := A x y hx e
      refine ⟨h1, ?_⟩
      have iff : Con (U par) a x ↔ Con (U par) a y := inv_con (x := a) x y e
      by_cases c : Con (U par) a x
      · rw [if_pos ((dec x).mpr c), if_pos ((dec y).mpr (iff.mp c))]; omega
      · rw [if_neg (fun z => c ((dec x).mp z)), if_neg (fun z => c (iff.mpr ((dec y).mp z)))]; exact h2
  · by_cases q : i = j
    · subst q
      simp only [if_pos rfl]
      rw [ej] at aj ⊢
      obtain ⟨b1, b2, b3, b4, b5, _, _⟩ := aj
      exact ⟨by rw [len_setUp]; exact b1, by rw [gs, if_pos rfl]; simp, by rw [gs, if_pos rfl]; exact b3, by rw [gs, if_pos rfl]; exact b4, by rw [gs, if_pos rfl]; exact b5, trivial, trivial⟩
    · simp only [if_neg q]
      exact (G.at_ i).frame len_setUp fun k hk => by rw [gs, if_neg (other i q k hk)]
  · by_cases q : i = j
    · subst q
      simp only [if_pos rfl]
      rw [ej]
      cases f <;> exact ⟨if_pos rfl, trivial⟩
    · simp only [if_neg q]
      have : ∀ (l : List Nat) (u : Option Nat), (∀ k ∈ l, k ≠ a) → Chn par u l → Chn (fun k => if k = a then some b else par k) u l := by
        intro l
        induction l with
        | nil => intro u _ _; trivial
        | cons x l ih => intro u h c; exact ⟨(if_neg (h x (by simp))).trans c.1, ih _ (fun k hk => h k (by simp [hk])) c.2⟩
      exact this _ _ (fun k hk => other i q k (mem_ord.mp hk)) (To i)

/-! ### cut -/
theorem cut_ok (A : Acy n par d) {s : Shape} (hl : s.length = n) (h : Tells s par) {a p : Nat} (ha : a < n) (pa : par a = some p) :
    ∃ s', DCut a s s' ∧ Acy n (fun k => if k = a then none else par k) d ∧ Tells s' (fun k => if k = a then none else par k) := by
  obtain ⟨s1, r1, f1, t1, an1, n1, _, _⟩ := found_ok A hl h ha
  have hr : r1 ≠ a := by rintro rfl; rw [n1] at pa; cases pa
  have l1 := f1.len.trans hl
  obtain ⟨s2, c2, ⟨tr, hang, i, l, G, To, ei, hi⟩, _⟩ := reach_ok A l1 t1.tells ha
  have l2 : s2.length = n := c2.len.trans l1
  have ai := G.at_ i
  have ni := G.nd i
  have toi := To i
  rw [ei, hi] at ai toi
  rw [ei] at ni
  obtain ⟨n1', n2, n3, n4, n5⟩ := nodup_node.mp ni
  obtain ⟨i1, i2, i3, i4, i5, i6, i7⟩ := ai
  have ain : a ∈ (tr i).hs := by rw [ei]; simp [T.hs]
  have toi' : Chn par none (l.ord false ++ a :: []) := toi
  cases hk : l.root with
  | none =>
    cases l with
    | node _ _ _ _ => cases hk
    | nil => have := toi'.1; rw [pa] at this; cases this
  | some k =>
    have kl : k ∈ l.hs := root_mem hk
    have ka : k ≠ a := fun e => n3 (e ▸ kl)
    have kn : k < s2.length := i6.lt kl
    have gs : ∀ j, g (setUp (setSon s2 a false none) k none) j = if j = k then { g s2 k with up := none } else if j = a then { g s2 a with left := none } else g s2 j := fun j => by
      unfold setUp
      rw [g_set (by rw [len_setSon]; exact kn)]
      by_cases q : j = k
      · rw [if_pos q, if_pos q]; unfold setSon; rw [g_set_ne ka]
      · rw [if_neg q, if_neg q]; unfold setSon; rw [g_set i1]; rfl
    have ll : (setUp (setSon s2 a false none) k none).length = s2.length := by rw [len_setUp, len_setSon]
    obtain ⟨N, hN⟩ := G.fin
    have nN : tr N = .nil := hN N (Nat.le_refl _)
    have iN : i ≠ N := by rintro rfl; rw [nN] at ain; cases ain
    have other : ∀ j, j ≠ i → ∀ x ∈ (tr j).hs, x ≠ a ∧ x ≠ k := fun j hj x hx => ⟨fun e => hj (G.dis j i a (e ▸ hx) ain), fun e => hj (G.dis j i k (e ▸ hx) (by rw [ei]; simp [T.hs, kl]))⟩
    have chn' : ∀ (l : List Nat) (u : Option Nat), (∀ x ∈ l, x ≠ a) → Chn par u l → Chn (fun x => if x = a then none else par x) u l := by
      intro l
      induction l with
      | nil => intro u _ _; trivial
      | cons x l ih => intro u h c; exact ⟨(if_neg (h x (by simp))).trans c.1, ih _ (fun k hk => h k (by simp [hk])) c.2⟩
    refine ⟨_, ⟨s1, r1, s2, k, f1, hr, c2, by rw [i3, hk], rfl⟩, fun x y hx e => ?_, fun j => if j = i then l else if j = N then .node .nil a false .nil else tr j, fun j => if j = N then none else hang j, ⟨fun j => ?_, fun j => ?_, fun j j' x => ?_, fun x hx => ?_, N + i + 1, fun j hj => ?_⟩, fun j => ?_⟩
    · dsimp only at e
      by_cases q : x = a
      · rw [if_pos q] at e; cases e
      · rw [if_neg q] at e; exact A x y hx e
    · by_cases q : j = i
      · subst q
        simp only [if_pos rfl, if_neg iN]
        rw [hi]
        refine i6.reup n1' ll (fun x hx => ?_) fun x hx hx' => ?_
        · rw [hk] at hx; cases hx; rw [gs, if_pos rfl]
        · rw [gs, if_neg (fun (e : x = k) => hx' (by rw [hk, e])), if_neg (fun (e : x = a) => n3 (e ▸ hx))]
      · by_cases q2 : j = N
        · subst q2
          simp only [if_neg q, if_pos rfl]
          refine ⟨by rw [ll]; exact i1, ?_, ?_, ?_, ?_, trivial, trivial⟩ <;> rw [gs, if_neg (Ne.symm ka), if_pos rfl]
          · exact i2
          · rfl
          · exact i4
          · exact i5
        · simp only [if_neg q, if_neg q2]
          exact (G.at_ j).frame ll fun x hx => by rw [gs, if_neg (other j q x hx).2, if_neg (other j q x hx).1]
    · by_cases q : j = i
      · simp only [if_pos q]; exact n1'
      · by_cases q2 : j = N
        · subst q2; simp only [if_neg q, if_pos rfl]; simp [T.hs]
        · simp only [if_neg q, if_neg q2]; exact G.nd j
    · -- where x stood
      have key : ∀ j, x ∈ (if j = i then l else if j = N then T.node .nil a false .nil else tr j).hs → (j = i ∧ x ∈ l.hs) ∨ (j = N ∧ x = a) ∨ (j ≠ i ∧ x ∈ (tr j).hs) := fun j h => by
        by_cases q : j = i
        · rw [if_pos q] at h; exact .inl ⟨q, h⟩
        · rw [if_neg q] at h
          by_cases q2 : j = N
          · rw [if_pos q2] at h; exact .inr (.inl ⟨q2, by simpa [T.hs] using h⟩)
          · rw [if_neg q2] at h; exact .inr (.inr ⟨q, h⟩)
      have li : ∀ x, x ∈ l.hs → x ∈ (tr i).hs := fun x h => by rw [ei]; simp [T.hs, h]
      intro h1 h2
      rcases key j h1 with ⟨p1, p2⟩ | ⟨p1, p2⟩ | ⟨p1, p2⟩ <;> rcases key j' h2 with ⟨q1, q2⟩ | ⟨q1, q2⟩ | ⟨q1, q2⟩
      · rw [p1, q1]
      · exact absurd (q2 ▸ p2) n3
      · exact absurd (G.dis j' i x q2 (li x p2)) q1
      · exact absurd (p2 ▸ q2) n3
      · rw [p1, q1]
      · exact absurd p2 (other j' q1 x q2).1
      · exact absurd (G.dis j i x p2 (li x q2)) p1
      · exact absurd q2 (other j p1 x p2).1
      · exact G.dis j j' x p2 q2
    · obtain ⟨j, hj⟩ := G.cov x (by rw [ll] at hx; exact hx)
      by_cases q : j = i
      · rw [q, ei] at hj
        simp only [T.hs, List.mem_append, List.mem_cons] at hj
        rcases hj with hj | hj | hj
        · exact ⟨i, by simp only [if_pos rfl]; exact hj⟩
        · exact ⟨N, by simp [Ne.symm iN, T.hs, hj]⟩
        · cases hj
      · by_cases q2 : j = N
        · rw [q2, nN] at hj; cases hj
        · exact ⟨j, by simp only [if_neg q, if_neg q2]; exact hj⟩
    · show (if j = i then _ else if j = N then _ else _) = _
      rw [if_neg (by omega), if_neg (by omega)]; exact hN j (by omega)
    · by_cases q : j = i
      · subst q
        simp only [if_pos rfl, if_neg iN]
        rw [hi]
        refine chn' _ _ (fun x hx e => n3 (e ▸ mem_ord.mp hx)) ?_
        have : ∀ (l1 l2 : List Nat) (u : Option Nat), Chn par u (l1 ++ l2) → Chn par u l1 := by
          intro l1 l2
          induction l1 with
          | nil => intro u _; trivial
          | cons x l1 ih => intro u c; exact ⟨c.1, ih _ c.2⟩
        exact this _ _ _ toi'
      · by_cases q2 : j = N
        · subst q2
          simp only [if_neg q, if_pos rfl]
          exact ⟨if_pos rfl, trivial⟩
        · simp only [if_neg q, if_neg q2]
          exact chn' _ _ (fun x hx => (other j q x (mem_ord.mp hx)).1) (To j)

/-! ### where -/
theorem first_max (f : Nat → Int) : ∀ (l : List Nat), l ≠ [] → ∃ h, FirstMax f l h := by
  intro l
  induction l with
  | nil => intro h; exact absurd rfl h
  | cons a l ih =>
    intro _
    cases l with
    | nil => exact ⟨a, [], [], rfl, fun y hy => (nomatch hy), fun y hy => (nomatch hy)⟩
    | cons b l =>
      obtain ⟨h, p, q, e, h1, h2⟩ := ih (by simp)
      by_cases c : f a < f h
      · exact ⟨h, a :: p, q, by rw [e]; rfl, fun y hy => by
          rcases List.mem_cons.mp hy with rfl | hy
          · exact c
          · exact h1 y hy, h2⟩
      · refine ⟨a, [], b :: l, rfl, fun y hy => (nomatch hy), fun y hy => ?_⟩
        rw [e] at hy
        simp only [List.mem_append, List.mem_cons] at hy
        rcases hy with hy | rfl | hy
        · have := h1 y hy; omega
        · omega
        · have := h2 y hy; omega
theorem chn_adj {par : Nat → Option Nat} : ∀ {l : List Nat} {u : Option Nat}, Chn par u l → ∀ a b, Adj l a b → par b = some a := by
  intro l
  induction l with
  | nil => rintro u _ a b ⟨p, q, e⟩; cases p <;> cases e
  | cons x l ih =>
    rintro u c a b ⟨p, q, e⟩
    cases p with
    | nil =>
      obtain ⟨e1, e2⟩ := List.cons.inj e
      subst e1
      rw [e2] at c
      exact c.2.1
    | cons y p =>
      rw [List.cons_append] at e
      obtain ⟨e1, e2⟩ := List.cons.inj e
      exact ih c.2 a b ⟨p, q, e2⟩
theorem chain_of (A : Acy n par d) {s : Shape} (hl : s.length = n) (h : Tells s par) {x : Nat} (hx : x < n) : ∃ l, l.length ≤ s.length ∧ ChainR s x l := by
  obtain ⟨s', ⟨s1, met, _, m, _⟩, _⟩ := reach_ok A hl h hx
  cases m with
  | go t _ => obtain ⟨l, n, a, b, _⟩ := t; exact ⟨l, a, b⟩
theorem where_ok (A : Acy n par d) (n64 : n ≤ 64) {s : Shape} (hl : s.length = n) (h : Tells s par) {a b : Nat} (ha : a < n) (hb : b < n) (hc : Con (U par) a b) :
    ∃ s' h par' d', AWhere a b s s' h ∧ s'.length = n ∧ Acy n par' d' ∧ Tells s' par' ∧ (∀ x y, U par' x y ↔ U par x y) ∧ (∀ k, (g s' k).val = (g s k).val) ∧
      ∃ L, L.Nodup ∧ L.head? = some a ∧ L.getLast? = some b ∧ (∀ x y, Adj L x y → U par x y) ∧ FirstMax (fun k => (g s k).val) L h := by
  obtain ⟨s1, r1, f1, t1, an1, n1, rl, _⟩ := found_ok A hl h ha
  have l1 := f1.len.trans hl
  obtain ⟨s2, r2, f2, t2, an2, n2, _, _⟩ := found_ok A l1 t1.tells hb
  obtain rfl : r1 = r2 := con_root hc an1 n1 an2 n2
  have l2 := f2.len.trans l1
  obtain ⟨s3, p3, d3, tu3, A3, t3, u3, pn3⟩ := turn_ok A l2 t2.tells ha
  have l3 : s3.length = n := tu3.len.trans l2
  obtain ⟨s4, c4, tp4, _⟩ := reach_ok A3 l3 t3 hb
  have tl4 := tp4.tells
  obtain ⟨tr, hang, i, l, G, To, ei, hi⟩ := tp4
  have l4 : s4.length = n := c4.len.trans l3
  have ai := G.at_ i
  have ni := G.nd i
  have toi := To i
  rw [ei] at ai ni
  rw [ei, hi] at toi
  obtain ⟨L, hL⟩ : ∃ L, L = (T.node l b false T.nil).ord false := ⟨_, rfl⟩
  have oL := At.ordR (b := false) ai
  rw [← hL] at oL toi
  have sz : (T.node l b false T.nil).size ≤ 64 := by
    rw [← size_hs]
    exact Nat.le_trans (pigeon n _ ni fun x hx => l4 ▸ G.lt (i := i) (by rw [ei]; exact hx)) n64
  have ndL : L.Nodup := by rw [hL]; exact nodup_ord.mpr ni
  have eL : L = l.ord false ++ [b] := hL
  have inL : ∀ k ∈ L, k < n := fun k hk => l4 ▸ G.lt (i := i) (by rw [ei]; exact mem_ord.mp (hL ▸ hk))
  have v4 : ∀ k, (g s4 k).val = (g s k).val := fun k => by rw [c4.val, tu3.val, f2.val, f1.val]
  obtain ⟨m, hm⟩ := first_max (fun k => (g s4 k).val) L (by rw [eL]; simp)
  have mL : m ∈ L := by obtain ⟨p, q, e, _⟩ := hm; rw [e]; simp
  obtain ⟨s5, c5, tp5, _⟩ := reach_ok A3 l4 tl4 (inL m mL)
  obtain ⟨s6, p6, d6, tu6, A6, t6, u6, _⟩ := turn_ok A3 (c5.len.trans l4) tp5.tells rl
  refine ⟨s6, m, p6, d6, ⟨s1, r1, s2, s3, s4, L, s5, f1, f2, tu3, c4, oL.mono sz, hm, hl ▸ inL m mL, Nat.le_trans (pigeon n L ndL inL) n64, fun k hk => ⟨hl ▸ inL k hk, by
    obtain ⟨l, h1, h2⟩ := chain_of A3 l4 tl4 (inL k hk)
    exact ⟨l, by omega, h2⟩⟩, c5, tu6⟩, tu6.len.trans (c5.len.trans l4), A6, t6, fun x y => (u6 x y).trans (u3 x y), fun k => by rw [tu6.val, c5.val, v4], L, ndL, ?_, by rw [eL]; simp, fun x y h => ?_, ?_⟩
  · -- the first one is the root in p3: a
    cases e : L with
    | nil => rw [e] at eL; cases hq : l.ord false <;> rw [hq] at eL <;> cases eL
    | cons f r =>
      rw [e] at toi
      have an : Anc p3 b f := Chn.anc toi b (by rw [← e, eL]; simp)
      have c3 : Con (U p3) a b := hc.mono fun x y h => (u3 x y).mpr h
      have := con_root c3 .refl pn3 an toi.1
      rw [this]; rfl
  · exact (u3 x y).mp (.inr (chn_adj toi x y h))
  · obtain ⟨p, q, e, h1, h2⟩ := hm
    exact ⟨p, q, e, fun y hy => by have := h1 y hy; simpa [v4] using this, fun y hy => by have := h2 y hy; simpa [v4] using this⟩
end

/-! ### what a forest is told from -/
structure Forests (s : Shape) : Prop where
  wf : Wf s
  ex : ∃ par d, Acy s.length par d ∧ ∀ t, t < s.length → isSon s t = false → ∃ row, row ≠ [] ∧ row.length ≤ 64 ∧ OrdR s 64 (some t) false row ∧ (∀ k ∈ row, k < s.length) ∧ Chn par (g s t).up row
  chain : ∀ k, k < s.length → ∃ l, l.length ≤ 64 ∧ ChainR s k l
theorem forests_ok {n : Nat} {par : Nat → Option Nat} {d : Nat → Nat} (A : Acy n par d) (n64 : n ≤ 64) {s : Shape} (hl : s.length = n) (h : Tells s par) : Forests s := by
  subst hl
  have ch : ∀ k, k < s.length → ∃ l, l.length ≤ 64 ∧ ChainR s k l := fun k hk => by
    obtain ⟨l, h1, h2⟩ := chain_of A rfl h hk
    exact ⟨l, by omega, h2⟩
  obtain ⟨tr, hang, G, To⟩ := h
  refine ⟨G.wf To A, ⟨par, d, A, fun t ht hs => ?_⟩, ch⟩
  obtain ⟨i, hi⟩ := G.cov t ht
  have hr : (tr i).root = some t := by
    refine Classical.byContradiction fun z => ?_
    rw [(G.at_ i).isSon hi z] at hs; cases hs
  have hu : (g s t).up = hang i := by
    rcases (G.at_ i).up hi with ⟨_, e⟩ | ⟨v, e, _, q⟩
    · exact e
    · exfalso
      unfold isSon at hs
      rw [e] at hs
      rcases q with q | q <;> simp [q] at hs
  have inT : ∀ k ∈ (tr i).ord false, k < s.length := fun k hk => G.lt (i := i) (mem_ord.mp hk)
  have nd : ((tr i).ord false).Nodup := nodup_ord.mpr (G.nd i)
  have sz : (tr i).size ≤ 64 := by
    rw [← size_hs]
    exact Nat.le_trans (pigeon s.length _ (G.nd i) fun x hx => G.lt (i := i) hx) n64
  refine ⟨(tr i).ord false, fun e => ?_, Nat.le_trans (pigeon s.length _ nd inT) n64, ?_, inT, by rw [hu]; exact To i⟩
  · have : t ∈ (tr i).ord false := mem_ord.mpr hi
    rw [e] at this; cases this
  · have := (At.ordR (b := false) (G.at_ i)).mono sz
    rw [hr] at this; exact this

/-! ### a forest told: going to parents comes to an end within n -/
def ctn (ps : Nat → Option Nat) : Nat → Nat → Bool
  | 0, _ => false
  | m + 1, x => match ps x with
    | none => true
    | some y => ctn ps m y
theorem ctn_ok {n : Nat} {ps : Nat → Option Nat} {d : Nat → Nat} (A : Acy n ps d) : ∀ (m : Nat) (vis : List Nat) (x : Nat), x < n → vis.Nodup → (∀ y ∈ vis, y < n ∧ d x < d y) → vis.length + m = n → ctn ps m x = true := by
  intro m
  induction m with
  | zero =>
    intro vis x hx hn hv hl
    have := pigeon n (x :: vis) (List.nodup_cons.mpr ⟨fun q => Nat.lt_irrefl _ (hv x q).2, hn⟩) fun y hy => by
      rcases List.mem_cons.mp hy with rfl | hy
      · exact hx
      · exact (hv y hy).1
    simp at this; omega
  | succ m ih =>
    intro vis x hx hn hv hl
    unfold ctn
    cases e : ps x with
    | none => rfl
    | some y =>
      obtain ⟨hy, hd⟩ := A x y hx e
      refine ih (x :: vis) y hy (List.nodup_cons.mpr ⟨fun q => Nat.lt_irrefl _ (hv x q).2, hn⟩) (fun z hz => ?_) (by simp; omega)
      rcases List.mem_cons.mp hz with rfl | hz
      · exact ⟨hx, hd⟩
      · exact ⟨(hv z hz).1, Nat.lt_trans hd (hv z hz).2⟩
end Lk
/-! Ties, the least forest, one more tie. -/
namespace Lk

structure Tie where
  a : Nat
  b : Nat
  w : Int
instance : Inhabited Tie := ⟨⟨0, 0, 0⟩⟩
abbrev Rows := List Tie
def tie (R : Rows) (i : Nat) : Tie := R.getD i default
def key (R : Rows) (i : Nat) : Int := (tie R i).w * 1000 + i
/-- tied by one of these ties -/
def TE (R : Rows) (S : Nat → Prop) (x y : Nat) : Prop := ∃ i, S i ∧ ((x = (tie R i).a ∧ y = (tie R i).b) ∨ (x = (tie R i).b ∧ y = (tie R i).a))
theorem TE.symm {R : Rows} {S : Nat → Prop} {x y : Nat} (h : TE R S x y) : TE R S y x := by
  obtain ⟨i, h1, h2⟩ := h
  exact ⟨i, h1, h2.elim (fun h => .inr ⟨h.2, h.1⟩) fun h => .inl ⟨h.2, h.1⟩⟩
abbrev Cn (R : Rows) (S : Nat → Prop) : Nat → Nat → Prop := Con (TE R S)
theorem Cn.symm {R : Rows} {S : Nat → Prop} {x y : Nat} (h : Cn R S x y) : Cn R S y x := Con.symm (fun _ _ => TE.symm) h
theorem Cn.sub {R : Rows} {S S' : Nat → Prop} (h : ∀ i, S i → S' i) {x y : Nat} (c : Cn R S x y) : Cn R S' x y := c.mono fun _ _ ⟨i, h1, h2⟩ => ⟨i, h _ h1, h2⟩
theorem Cn.tie {R : Rows} {S : Nat → Prop} {i : Nat} (h : S i) : Cn R S (tie R i).a (tie R i).b := .go ⟨i, h, .inl ⟨rfl, rfl⟩⟩ .refl
/-- each tie of S is a way by S': so is each way -/
theorem Cn.lift {R : Rows} {S S' : Nat → Prop} (h : ∀ i, S i → Cn R S' (Lk.tie R i).a (Lk.tie R i).b) {x y : Nat} (c : Cn R S x y) : Cn R S' x y := by
  induction c with
  | refl => exact .refl
  | go e _ ih =>
    obtain ⟨i, h1, h2⟩ := e
    refine Con.trans ?_ ih
    rcases h2 with ⟨rfl, rfl⟩ | ⟨rfl, rfl⟩
    · exact h i h1
    · exact (h i h1).symm
/-- one more tie: a way by it, or without -/
theorem Cn.add {R : Rows} {S : Nat → Prop} {i x y : Nat} (c : Cn R (fun j => S j ∨ j = i) x y) : Cn R S x y ∨ (Cn R S x (Lk.tie R i).a ∧ Cn R S (Lk.tie R i).b y) ∨ (Cn R S x (Lk.tie R i).b ∧ Cn R S (Lk.tie R i).a y) := by
  induction c with
  | refl => exact .inl .refl
  | go e _ ih =>
    obtain ⟨j, h1, h2⟩ := e
    rcases h1 with h1 | rfl
    · have e' : TE R S _ _ := ⟨j, h1, h2⟩
      rcases ih with c | ⟨c1, c2⟩ | ⟨c1, c2⟩
      · exact .inl (.go e' c)
      · exact .inr (.inl ⟨.go e' c1, c2⟩)
      · exact .inr (.inr ⟨.go e' c1, c2⟩)
    · rcases h2 with ⟨rfl, rfl⟩ | ⟨rfl, rfl⟩
      · rcases ih with c | ⟨c1, c2⟩ | ⟨c1, c2⟩
        · exact .inr (.inl ⟨.refl, c⟩)
        · exact .inr (.inl ⟨.refl, c2⟩)
        · exact .inl c2
      · rcases ih with c | ⟨c1, c2⟩ | ⟨c1, c2⟩
        · exact .inr (.inr ⟨.refl, c⟩)
        · exact .inl c2
        · exact .inr (.inr ⟨.refl, c2⟩)

/-- kept: between its ends no way of ties of lesser ranks -/
def KeptP (R : Rows) (i : Nat) : Prop := i < R.length ∧ ¬ Cn R (fun j => j < R.length ∧ key R j < key R i) (tie R i).a (tie R i).b
def RowsOk (m : Nat) (R : Rows) : Prop := R.length ≤ 64 ∧ ∀ i, i < R.length → (tie R i).a < m ∧ (tie R i).b < m ∧ (tie R i).a ≠ (tie R i).b ∧ -(10 ^ 20) ≤ (tie R i).w ∧ (tie R i).w ≤ 10 ^ 20
theorem tie_app {R : Rows} {t : Tie} {i : Nat} (h : i < R.length) : tie (R ++ [t]) i = tie R i := by
  unfold tie
  rw [List.getD_eq_getElem?_getD, List.getD_eq_getElem?_getD, List.getElem?_append_left h]
theorem tie_last {R : Rows} {t : Tie} : tie (R ++ [t]) R.length = t := by simp [tie]
theorem key_app {R : Rows} {t : Tie} {i : Nat} (h : i < R.length) : key (R ++ [t]) i = key R i := by simp [key, tie_app h]
theorem Cn.app {R : Rows} {t : Tie} {S : Nat → Prop} (h : ∀ i, S i → i < R.length) {x y : Nat} : Cn (R ++ [t]) S x y ↔ Cn R S x y := by
  constructor
  · intro c; exact c.mono fun _ _ ⟨i, h1, h2⟩ => ⟨i, h1, by rwa [tie_app (h i h1)] at h2⟩
  · intro c; exact c.mono fun _ _ ⟨i, h1, h2⟩ => ⟨i, h1, by rwa [tie_app (h i h1)]⟩
theorem key_inj {m : Nat} {R : Rows} (ok : RowsOk m R) {i j : Nat} (hi : i < R.length) (hj : j < R.length) (e : key R i = key R j) : i = j := by
  have := ok.1
  unfold key at e
  omega
/-- by the kept ties one comes wherever one comes by all -/
theorem kept_span {m : Nat} {R : Rows} (ok : RowsOk m R) : ∀ (q : Nat) (i : Nat), i < R.length → (key R i + 10 ^ 24).toNat ≤ q → Cn R (KeptP R) (tie R i).a (tie R i).b := by
  intro q
  induction q using Nat.strongRecOn with
  | _ q ih =>
    intro i hi hq
    by_cases h : KeptP R i
    · exact .tie h
    · have c : Cn R (fun j => j < R.length ∧ key R j < key R i) (tie R i).a (tie R i).b := Classical.byContradiction fun z => h ⟨hi, z⟩
      refine c.lift fun j ⟨hj, hk⟩ => ?_
      have bj := ok.2 j hj
      have bi := ok.2 i hi
      have : (key R j + 10 ^ 24).toNat < (key R i + 10 ^ 24).toNat := by
        have h1 := bj.2.2.2.1
        unfold key at hk ⊢
        omega
      exact ih _ (by omega) j hj (Nat.le_refl _)
theorem kept_all {m : Nat} {R : Rows} (ok : RowsOk m R) {x y : Nat} (c : Cn R (fun j => j < R.length) x y) : Cn R (KeptP R) x y := c.lift fun i hi => kept_span ok _ i hi (Nat.le_refl _)

section
variable {m : Nat} {R : Rows} {t : Tie}
/-- a tie of R that is kept with one more is kept without -/
theorem kept_less {i : Nat} (hi : i < R.length) (h : KeptP (R ++ [t]) i) : KeptP R i := by
  refine ⟨hi, fun c => h.2 ?_⟩
  rw [tie_app hi]
  have c' := (Cn.app (t := t) (fun j (hj : j < R.length ∧ key R j < key R i) => hj.1)).mpr c
  exact c'.sub fun j hj => ⟨by simp; omega, by rw [key_app hj.1, key_app hi]; exact hj.2⟩
/-- what goes by the ties below i with one more goes by those of R below i, and perhaps the new one, if it is below -/
theorem below_app {i x y : Nat} (hi : i < R.length) (c : Cn (R ++ [t]) (fun j => j < (R ++ [t]).length ∧ key (R ++ [t]) j < key (R ++ [t]) i) x y) :
    Cn R (fun j => j < R.length ∧ key R j < key R i) x y ∨ (key (R ++ [t]) R.length < key R i ∧
      ((Cn R (fun j => j < R.length ∧ key R j < key R i) x t.a ∧ Cn R (fun j => j < R.length ∧ key R j < key R i) t.b y) ∨ (Cn R (fun j => j < R.length ∧ key R j < key R i) x t.b ∧ Cn R (fun j => j < R.length ∧ key R j < key R i) t.a y))) := by
  by_cases hk : key (R ++ [t]) R.length < key R i
  · have c' : Cn (R ++ [t]) (fun j => (j < R.length ∧ key R j < key R i) ∨ j = R.length) x y := c.sub fun j ⟨h1, h2⟩ => by
      simp at h1
      by_cases e : j = R.length
      · exact .inr e
      · have hj : j < R.length := by omega
        rw [key_app hj, key_app hi] at h2
        exact .inl ⟨hj, h2⟩
    have := c'.add
    rw [tie_last] at this
    simp only [Cn.app (R := R) (t := t) (fun j (hj : j < R.length ∧ key R j < key R i) => hj.1)] at this
    rcases this with q | q
    · exact .inl q
    · exact .inr ⟨hk, q⟩
  · have c' : Cn (R ++ [t]) (fun j => j < R.length ∧ key R j < key R i) x y := c.sub fun j ⟨h1, h2⟩ => by
      simp at h1
      rw [key_app hi] at h2
      by_cases e : j = R.length
      · rw [e] at h2; exact absurd h2 hk
      · have hj : j < R.length := by omega
        rw [key_app hj] at h2
        exact ⟨hj, h2⟩
    exact .inl ((Cn.app fun j (hj : j < R.length ∧ key R j < key R i) => hj.1).mp c')
theorem kept_new (h : ¬ Cn R (fun j => j < R.length ∧ key R j < key (R ++ [t]) R.length) t.a t.b) : KeptP (R ++ [t]) R.length := by
  refine ⟨by simp, fun c => h ?_⟩
  rw [tie_last] at c
  refine (Cn.app (t := t) fun j (hj : j < R.length ∧ key R j < key (R ++ [t]) R.length) => hj.1).mp (c.sub fun j ⟨h1, h2⟩ => ?_)
  simp at h1
  have hj : j < R.length := by
    rcases Nat.lt_or_ge j R.length with q | q
    · exact q
    · obtain rfl : j = R.length := by omega
      exact absurd h2 (Int.lt_irrefl _)
  rw [key_app hj] at h2
  exact ⟨hj, h2⟩
theorem len_cases {i : Nat} (h : i < (R ++ [t]).length) : i < R.length ∨ i = R.length := by simp at h; omega

/-- A: the new one's ends are not joined -/
theorem kept_A (ok : RowsOk m R) (nc : ¬ Cn R (KeptP R) t.a t.b) (i : Nat) : KeptP (R ++ [t]) i ↔ KeptP R i ∨ i = R.length := by
  have na : ¬ Cn R (fun j => j < R.length) t.a t.b := fun c => nc (kept_all ok c)
  constructor
  · intro h
    rcases len_cases h.1 with q | q
    · exact .inl (kept_less q h)
    · exact .inr q
  · rintro (h | rfl)
    · have hi := h.1
      refine ⟨by simp; omega, fun c => ?_⟩
      rw [tie_app hi] at c
      rcases below_app hi c with c | ⟨_, ⟨c1, c2⟩ | ⟨c1, c2⟩⟩
      · exact h.2 c
      · have ti : Cn R (fun j => j < R.length) (tie R i).a (tie R i).b := .tie hi
        exact na (Con.trans (c1.sub fun _ h => h.1).symm (Con.trans ti (c2.sub fun _ h => h.1).symm))
      · have ti : Cn R (fun j => j < R.length) (tie R i).a (tie R i).b := .tie hi
        exact na (Con.trans (c2.sub fun _ h => h.1) (Con.trans ti.symm (c1.sub fun _ h => h.1)))
    · exact kept_new fun c => na (c.sub fun _ h => h.1)
/-- what is known of the heaviest tie h on the way between the ends of the new one -/
def Heavy (R : Rows) (t : Tie) (h : Nat) : Prop := KeptP R h ∧ ((Cn R (fun j => KeptP R j ∧ key R j < key R h) t.a (tie R h).a ∧ Cn R (fun j => KeptP R j ∧ key R j < key R h) (tie R h).b t.b) ∨
  (Cn R (fun j => KeptP R j ∧ key R j < key R h) t.a (tie R h).b ∧ Cn R (fun j => KeptP R j ∧ key R j < key R h) (tie R h).a t.b))
theorem Heavy.con {h : Nat} (H : Heavy R t h) {S : Nat → Prop} (hS : ∀ j, j < R.length → key R j ≤ key R h → S j) : Cn R S t.a t.b := by
  have th : Cn R S (tie R h).a (tie R h).b := .tie (hS h H.1.1 (Int.le_refl _))
  have sub : ∀ j, KeptP R j ∧ key R j < key R h → S j := fun j hj => hS j hj.1.1 (Int.le_of_lt hj.2)
  rcases H.2 with ⟨c1, c2⟩ | ⟨c1, c2⟩
  · exact Con.trans (c1.sub sub) (Con.trans th (c2.sub sub))
  · exact Con.trans (c1.sub sub) (Con.trans th.symm (c2.sub sub))
/-- B: the new one is the heaviest of its ring -/
theorem kept_B {h : Nat} (H : Heavy R t h) (hk : key R h < key (R ++ [t]) R.length) (i : Nat) : KeptP (R ++ [t]) i ↔ KeptP R i := by
  constructor
  · intro k
    rcases len_cases k.1 with q | rfl
    · exact kept_less q k
    · exfalso
      refine k.2 ?_
      rw [tie_last]
      have c : Cn R (fun j => j < R.length ∧ key R j ≤ key R h) t.a t.b := H.con fun j h1 h2 => ⟨h1, h2⟩
      have c' := (Cn.app (t := t) (fun j (hj : j < R.length ∧ key R j ≤ key R h) => hj.1)).mpr c
      exact c'.sub fun j hj => ⟨by simp; omega, by rw [key_app hj.1]; have := hj.2; omega⟩
  · intro k
    have hi := k.1
    refine ⟨by simp; omega, fun c => ?_⟩
    rw [tie_app hi] at c
    rcases below_app hi c with c | ⟨hn, c⟩
    · exact k.2 c
    · have ct : Cn R (fun j => j < R.length ∧ key R j < key R i) t.a t.b := H.con fun j h1 h2 => ⟨h1, by omega⟩
      rcases c with ⟨c1, c2⟩ | ⟨c1, c2⟩
      · exact k.2 (Con.trans c1 (Con.trans ct c2))
      · exact k.2 (Con.trans c1 (Con.trans ct.symm c2))
/-- C: another one is -/
theorem kept_C (ok : RowsOk m R) {h : Nat} (H : Heavy R t h) (hk : key (R ++ [t]) R.length < key R h) (i : Nat) : KeptP (R ++ [t]) i ↔ (KeptP R i ∧ i ≠ h) ∨ i = R.length := by
  have hh := H.1.1
  -- with a way between the ends below h, h itself would be ringed
  have key1 : ¬ Cn R (fun j => j < R.length ∧ key R j < key R h) t.a t.b := fun c => by
    have sub : ∀ j, KeptP R j ∧ key R j < key R h → j < R.length ∧ key R j < key R h := fun j hj => ⟨hj.1.1, hj.2⟩
    refine H.1.2 ?_
    rcases H.2 with ⟨c1, c2⟩ | ⟨c1, c2⟩
    · exact Con.trans (c1.sub sub).symm (Con.trans c (c2.sub sub).symm)
    · exact Con.trans (c2.sub sub) (Con.trans c.symm (c1.sub sub))
  constructor
  · intro k
    rcases len_cases k.1 with q | q
    · refine .inl ⟨kept_less q k, ?_⟩
      rintro rfl
      refine k.2 ?_
      rw [tie_app q]
      have sub : ∀ j, KeptP R j ∧ key R j < key R i → j < (R ++ [t]).length ∧ key (R ++ [t]) j < key (R ++ [t]) i := fun j hj => ⟨by have := hj.1.1; simp; omega, by rw [key_app hj.1.1, key_app q]; exact hj.2⟩
      have up : ∀ {x y}, Cn R (fun j => KeptP R j ∧ key R j < key R i) x y → Cn (R ++ [t]) (fun j => j < (R ++ [t]).length ∧ key (R ++ [t]) j < key (R ++ [t]) i) x y := fun c =>
        ((Cn.app (t := t) (fun j (hj : KeptP R j ∧ key R j < key R i) => hj.1.1)).mpr c).sub sub
      have tn : Cn (R ++ [t]) (fun j => j < (R ++ [t]).length ∧ key (R ++ [t]) j < key (R ++ [t]) i) t.a t.b := by
        have := Cn.tie (R := R ++ [t]) (S := fun j => j < (R ++ [t]).length ∧ key (R ++ [t]) j < key (R ++ [t]) i) (i := R.length) ⟨by simp, by rw [key_app q]; exact hk⟩
        rwa [tie_last] at this
      rcases H.2 with ⟨c1, c2⟩ | ⟨c1, c2⟩
      · exact Con.trans (up c1).symm (Con.trans tn (up c2).symm)
      · exact Con.trans (up c2) (Con.trans tn.symm (up c1))
    · exact .inr q
  · rintro (⟨k, ne⟩ | rfl)
    · have hi := k.1
      refine ⟨by simp; omega, fun c => ?_⟩
      rw [tie_app hi] at c
      rcases below_app hi c with c | ⟨hn, c⟩
      · exact k.2 c
      · rcases Int.lt_trichotomy (key R i) (key R h) with q | q | q
        · -- i below h: the ends of the new one joined below h
          refine key1 ?_
          have low : ∀ {x y}, Cn R (fun j => j < R.length ∧ key R j < key R i) x y → Cn R (fun j => j < R.length ∧ key R j < key R h) x y := fun c => c.sub fun j hj => ⟨hj.1, by have := hj.2; omega⟩
          have ti : Cn R (fun j => j < R.length ∧ key R j < key R h) (tie R i).a (tie R i).b := .tie ⟨hi, q⟩
          rcases c with ⟨c1, c2⟩ | ⟨c1, c2⟩
          · exact Con.trans (low c1).symm (Con.trans ti (low c2).symm)
          · exact Con.trans (low c2) (Con.trans ti.symm (low c1))
        · exact ne (key_inj ok hi hh q)
        · have ct : Cn R (fun j => j < R.length ∧ key R j < key R i) t.a t.b := H.con fun j h1 h2 => ⟨h1, by omega⟩
          rcases c with ⟨c1, c2⟩ | ⟨c1, c2⟩
          · exact k.2 (Con.trans c1 (Con.trans ct c2))
          · exact k.2 (Con.trans c1 (Con.trans ct.symm c2))
    · exact kept_new fun c => key1 (c.sub fun j hj => ⟨hj.1, by have := hj.2; omega⟩)
end

/-! ### the web: houses and ties as one forest -/
def Web (m : Nat) (R : Rows) (K : Nat → Prop) (x y : Nat) : Prop := ∃ i, K i ∧ ((x = m + i ∧ (y = (tie R i).a ∨ y = (tie R i).b)) ∨ (y = m + i ∧ (x = (tie R i).a ∨ x = (tie R i).b)))
def rep (m : Nat) (R : Rows) (x : Nat) : Nat := if x < m then x else (tie R (x - m)).a
section
variable {m : Nat} {R : Rows} {K : Nat → Prop}
theorem rep_house {x : Nat} (h : x < m) : rep m R x = x := if_pos h
theorem rep_tie {i : Nat} : rep m R (m + i) = (tie R i).a := by unfold rep; rw [if_neg (by omega)]; simp
/-- a step of the web is a way of ties -/
theorem web_step (ok : RowsOk m R) (hK : ∀ i, K i → i < R.length) {S : Nat → Prop} {x y : Nat} (h : Web m R K x y) (hS : ∀ i, K i → (x = m + i ∨ y = m + i) → S i) : Cn R S (rep m R x) (rep m R y) := by
  obtain ⟨i, h1, h2⟩ := h
  obtain ⟨o1, o2, _⟩ := ok.2 i (hK i h1)
  rcases h2 with ⟨rfl, rfl | rfl⟩ | ⟨rfl, rfl | rfl⟩
  · rw [rep_tie, rep_house o1]; exact .refl
  · rw [rep_tie, rep_house o2]; exact .tie (hS i h1 (.inl rfl))
  · rw [rep_tie, rep_house o1]; exact .refl
  · rw [rep_tie, rep_house o2]; exact (Cn.tie (hS i h1 (.inr rfl))).symm
theorem web_con (ok : RowsOk m R) (hK : ∀ i, K i → i < R.length) {x y : Nat} (hx : x < m) (hy : y < m) : Con (Web m R K) x y ↔ Cn R K x y := by
  constructor
  · intro c
    have : ∀ {x y}, Con (Web m R K) x y → Cn R K (rep m R x) (rep m R y) := fun c => by
      induction c with
      | refl => exact .refl
      | go e _ ih => exact Con.trans (web_step ok hK e fun i h _ => h) ih
    have := this c
    rwa [rep_house hx, rep_house hy] at this
  · intro c
    clear hx hy
    induction c with
    | refl => exact .refl
    | go e _ ih =>
      obtain ⟨i, h1, h2⟩ := e
      rcases h2 with ⟨rfl, rfl⟩ | ⟨rfl, rfl⟩
      · exact .go ⟨i, h1, .inr ⟨rfl, .inl rfl⟩⟩ (.go ⟨i, h1, .inl ⟨rfl, .inr rfl⟩⟩ ih)
      · exact .go ⟨i, h1, .inr ⟨rfl, .inr rfl⟩⟩ (.go ⟨i, h1, .inl ⟨rfl, .inl rfl⟩⟩ ih)
theorem adj_cons {a : Nat} {l : List Nat} {x y : Nat} (h : Adj l x y) : Adj (a :: l) x y := by
  obtain ⟨p, q, e⟩ := h
  exact ⟨a :: p, q, by rw [e]; rfl⟩
/-- a walk of the web is a way of ties -/
theorem web_walk (ok : RowsOk m R) (hK : ∀ i, K i → i < R.length) {S : Nat → Prop} : ∀ (l : List Nat) (x y : Nat), l.head? = some x → l.getLast? = some y → (∀ a b, Adj l a b → Web m R K a b) → (∀ i, K i → m + i ∈ l → S i) → Cn R S (rep m R x) (rep m R y) := by
  intro l
  induction l with
  | nil => intro x y h; cases h
  | cons a l ih =>
    intro x y hx hy ha hS
    obtain rfl : a = x := Option.some.inj hx
    cases l with
    | nil =>
      obtain rfl : a = y := Option.some.inj hy
      exact .refl
    | cons b l =>
      have h1 := web_step ok hK (S := S) (ha a b ⟨[], l, rfl⟩) fun i hi h => hS i hi (by rcases h with rfl | rfl <;> simp)
      exact Con.trans h1 (ih b y rfl (by simpa using hy) (fun p q h => ha p q (adj_cons h)) fun i hi h => hS i hi (List.mem_cons_of_mem _ h))
/-- the first of the greatest on the way between two houses is the heaviest tie -/
theorem heavy_of (ok : RowsOk m R) (hK : ∀ i, K i ↔ KeptP R i) {t : Tie} (ta : t.a < m) (tb : t.b < m) (tn : t.a ≠ t.b) {f : Nat → Int} (fh : ∀ k, k < m → f k = -(10 ^ 40)) (ft : ∀ i, K i → f (m + i) = key R i)
    {L : List Nat} {h : Nat} (nd : L.Nodup) (hd : L.head? = some t.a) (la : L.getLast? = some t.b) (ad : ∀ x y, Adj L x y → Web m R K x y) (fm : FirstMax f L h) :
    ∃ i, h = m + i ∧ K i ∧ Heavy R t i := by
  have hKl : ∀ i, K i → i < R.length := fun i h => ((hK i).mp h).1
  have l64 := ok.1
  have kb : ∀ i, i < R.length → -(10 ^ 24) ≤ key R i := fun i hi => by have := (ok.2 i hi).2.2.2.1; unfold key; omega
  obtain ⟨p, q, e, f1, f2⟩ := fm
  -- the second one is a tie
  have hmax : ∀ y ∈ L, f y ≤ f h := fun y hy => by
    rw [e] at hy
    simp only [List.mem_append, List.mem_cons] at hy
    rcases hy with hy | rfl | hy
    · exact Int.le_of_lt (f1 y hy)
    · exact Int.le_refl _
    · exact f2 y hy
  have hbig : -(10 ^ 24) ≤ f h := by
    cases L with
    | nil => cases hd
    | cons a L =>
      obtain rfl : a = t.a := Option.some.inj hd
      cases L with
      | nil => exact absurd (Option.some.inj la) tn
      | cons b L =>
        obtain ⟨i, hi, w⟩ := ad _ b ⟨[], L, rfl⟩
        have := kb i (hKl i hi)
        rcases w with ⟨w, _⟩ | ⟨w, _⟩
        · omega
        · have h1 := hmax b (by simp)
          rw [w, ft i hi] at h1
          omega
  have hm : ¬ h < m := fun z => by rw [fh h z] at hbig; omega
  -- ahead of h, behind h
  have pne : p ≠ [] := by
    rintro rfl
    rw [e] at hd
    obtain rfl : h = t.a := Option.some.inj hd
    exact hm ta
  have qne : q ≠ [] := by
    rintro rfl
    rw [e] at la
    simp at la
    exact hm (la ▸ tb)
  obtain ⟨x1, p', ep⟩ : ∃ x1 p', p = p' ++ [x1] := ⟨p.getLast pne, p.dropLast, (List.dropLast_concat_getLast pne).symm⟩
  obtain ⟨x2, q', eq⟩ : ∃ x2 q', q = x2 :: q' := by
    cases q with
    | nil => exact absurd rfl qne
    | cons x q => exact ⟨x, q, rfl⟩
  have a1 : Web m R K x1 h := ad x1 h ⟨p', q, by rw [e, ep]; simp⟩
  have a2 : Web m R K h x2 := ad h x2 ⟨p, q', by rw [e, eq]⟩
  have which : ∀ i, K i → h = m + i ∨ ((tie R i).a ≠ h ∧ (tie R i).b ≠ h) := fun i hi => .inr ⟨fun z => hm (z ▸ (ok.2 i (hKl i hi)).1), fun z => hm (z ▸ (ok.2 i (hKl i hi)).2.1)⟩
  obtain ⟨i, hi, ei, w1⟩ : ∃ i, K i ∧ h = m + i ∧ (x1 = (tie R i).a ∨ x1 = (tie R i).b) := by
    obtain ⟨i, hi, w⟩ := a1
    rcases w with ⟨_, w⟩ | ⟨w, w2⟩
    · exfalso; rcases w with rfl | rfl
      · exact hm (ok.2 i (hKl i hi)).1
      · exact hm (ok.2 i (hKl i hi)).2.1
    · exact ⟨i, hi, w, w2⟩
  have w2 : x2 = (tie R i).a ∨ x2 = (tie R i).b := by
    obtain ⟨j, hj, w⟩ := a2
    rcases w with ⟨w, w2⟩ | ⟨_, w⟩
    · obtain rfl : i = j := by omega
      exact w2
    · exfalso; rcases w with rfl | rfl
      · exact hm (ok.2 j (hKl j hj)).1
      · exact hm (ok.2 j (hKl j hj)).2.1
  have nd' := nd
  rw [e] at nd'
  obtain ⟨np, nq, npq⟩ := List.nodup_append.mp nd'
  obtain ⟨nhq, nq'⟩ := List.nodup_cons.mp nq
  have x12 : x1 ≠ x2 := fun z => npq x1 (by rw [ep]; simp) x2 (by rw [eq]; simp) z
  have hi' := hKl i hi
  have fi : f h = key R i := by rw [ei, ft i hi]
  have lower : ∀ j, K j → m + j ∈ L → j ≠ i → key R j < key R i := fun j hj hm' ne => by
    have h1 := hmax _ hm'
    rw [ft j hj, fi] at h1
    have : key R j ≠ key R i := fun z => ne (key_inj ok (hKl j hj) hi' z)
    omega
  have c1 : Cn R (fun j => KeptP R j ∧ key R j < key R i) t.a x1 := by
    have := web_walk ok hKl (S := fun j => KeptP R j ∧ key R j < key R i) p t.a x1 (by
        rw [e] at hd
        cases p with
        | nil => exact absurd rfl pne
        | cons a p => exact hd) (by rw [ep]; simp) (fun a b ⟨u, v, z⟩ => ad a b ⟨u, v ++ h :: q, by rw [e, z]; simp⟩) (fun j hj hm' => ⟨(hK j).mp hj, lower j hj (by rw [e]; simp [hm']) (by
          rintro rfl
          exact npq (m + j) hm' (m + j) (by rw [ei]; simp) rfl)⟩)
    have x1m : x1 < m := by
      rcases w1 with rfl | rfl
      · exact (ok.2 i hi').1
      · exact (ok.2 i hi').2.1
    rwa [rep_house ta, rep_house x1m] at this
  have c2 : Cn R (fun j => KeptP R j ∧ key R j < key R i) x2 t.b := by
    have := web_walk ok hKl (S := fun j => KeptP R j ∧ key R j < key R i) q x2 t.b (by rw [eq]; rfl) (by
        rw [e, List.getLast?_append] at la
        rw [eq] at la ⊢
        simpa using la) (fun a b ⟨u, v, z⟩ => ad a b ⟨p ++ h :: u, v, by rw [e, z]; simp⟩) (fun j hj hm' => ⟨(hK j).mp hj, lower j hj (by rw [e]; simp [hm']) (by
          rintro rfl
          exact nhq (ei ▸ hm'))⟩)
    have x2m : x2 < m := by
      rcases w2 with rfl | rfl
      · exact (ok.2 i hi').1
      · exact (ok.2 i hi').2.1
    rwa [rep_house tb, rep_house x2m] at this
  refine ⟨i, ei, hi, (hK i).mp hi, ?_⟩
  rcases w1 with rfl | rfl <;> rcases w2 with rfl | rfl
  · exact absurd rfl x12
  · exact .inl ⟨c1, c2⟩
  · exact .inr ⟨c1, c2⟩
  · exact absurd rfl x12
end
end Lk
/-! One tie comes: what the kept forest is told, and that it stays the web of the least forest. -/
namespace Lk

def TieIn (node a b : Nat) (v : Int) (s s' : Shape) : Prop := ∃ s2 s3 s4, DPut node v s s2 ∧ TurnAbout a s2 s3 ∧ DLink a node s3 s4 ∧ DLink node b s4 s'
def TieOut (node a b : Nat) (s s' : Shape) : Prop := ∃ s1 s2, TurnAbout node s s1 ∧ DCut a s1 s2 ∧ DCut b s2 s'
/-- tie number k (the last one) is settled in -/
inductive Settle (m : Nat) (R : Rows) (k : Nat) (s s' : Shape) : Option Nat → Prop
  | new {s1} : AJoin (tie R k).a (tie R k).b s s1 false → TieIn (m + k) (tie R k).a (tie R k).b (key R k) s1 s' → Settle m R k s s' none
  | self {s1 i} : AJoin (tie R k).a (tie R k).b s s1 true → AWhere (tie R k).a (tie R k).b s1 s' (m + i) → i < k → key R i < key R k → Settle m R k s s' (some k)
  | other {s1 s2 s3 i} : AJoin (tie R k).a (tie R k).b s s1 true → AWhere (tie R k).a (tie R k).b s1 s2 (m + i) → i < k → ¬ key R i < key R k → TieOut (m + i) (tie R i).a (tie R i).b s2 s3 → TieIn (m + k) (tie R k).a (tie R k).b (key R k) s3 s' → Settle m R k s s' (some i)

/-- the shape is the web of the kept ties of R -/
structure RS (m n : Nat) (R : Rows) (K : Nat → Prop) (s : Shape) : Prop where
  len : s.length = n
  n64 : n ≤ 64
  room : m + R.length ≤ n
  ok : RowsOk m R
  kept : ∀ i, K i ↔ KeptP R i
  web : ∃ par d, Acy n par d ∧ Tells s par ∧ ∀ x y, U par x y ↔ Web m R K x y
  vh : ∀ k, k < m → (g s k).val = -(10 ^ 40)
  vt : ∀ i, K i → (g s (m + i)).val = key R i

theorem con_add {E F : Nat → Nat → Prop} {p q : Nat} (hF : ∀ x y, F x y → E x y ∨ (x = p ∧ y = q) ∨ (x = q ∧ y = p)) {x y : Nat} (c : Con F x y) : Con E x y ∨ (Con E x p ∧ Con E q y) ∨ (Con E x q ∧ Con E p y) := by
  induction c with
  | refl => exact .inl .refl
  | go e _ ih =>
    rcases hF _ _ e with e | ⟨rfl, rfl⟩ | ⟨rfl, rfl⟩
    · rcases ih with c | ⟨c1, c2⟩ | ⟨c1, c2⟩
      · exact .inl (.go e c)
      · exact .inr (.inl ⟨.go e c1, c2⟩)
      · exact .inr (.inr ⟨.go e c1, c2⟩)
    · rcases ih with c | ⟨c1, c2⟩ | ⟨c1, c2⟩
      · exact .inr (.inl ⟨.refl, c⟩)
      · exact .inr (.inl ⟨.refl, c2⟩)
      · exact .inl c2
    · rcases ih with c | ⟨c1, c2⟩ | ⟨c1, c2⟩
      · exact .inr (.inr ⟨.refl, c⟩)
      · exact .inl c2
      · exact .inr (.inr ⟨.refl, c2⟩)
theorem con_alone {E : Nat → Nat → Prop} {x y : Nat} (h : ∀ z, ¬ E x z) (c : Con E x y) : x = y := by
  cases c with
  | refl => rfl
  | go e _ => exact absurd e (h _)
theorem DLink.len {h o : Nat} {s s' : Shape} (q : DLink h o s s') : s'.length = s.length := by
  obtain ⟨s1, s2, r, s3, s4, f1, f2, _, c1, c2, rfl⟩ := q
  rw [len_setUp, c2.len, c1.len, f2.len, f1.len]
theorem DLink.val {h o : Nat} {s s' : Shape} (q : DLink h o s s') (k : Nat) : (g s' k).val = (g s k).val := by
  obtain ⟨s1, s2, r, s3, s4, f1, f2, _, c1, c2, rfl⟩ := q
  rw [val_setUp, c2.val, c1.val, f2.val, f1.val]
theorem DCut.len {h : Nat} {s s' : Shape} (q : DCut h s s') : s'.length = s.length := by
  obtain ⟨s1, r, s2, k, f1, _, c1, _, rfl⟩ := q
  rw [len_setUp, len_setSon, c1.len, f1.len]
theorem DCut.val {h : Nat} {s s' : Shape} (q : DCut h s s') (k : Nat) : (g s' k).val = (g s k).val := by
  obtain ⟨s1, r, s2, k, f1, _, c1, _, rfl⟩ := q
  rw [val_setUp, val_setSon, c1.val, f1.val]
theorem AJoin.len {a b : Nat} {s s' : Shape} {c : Bool} (q : AJoin a b s s' c) : s'.length = s.length := by
  obtain ⟨s1, r1, r2, f1, f2, _⟩ := q
  rw [f2.len, f1.len]
theorem AJoin.val {a b : Nat} {s s' : Shape} {c : Bool} (q : AJoin a b s s' c) (k : Nat) : (g s' k).val = (g s k).val := by
  obtain ⟨s1, r1, r2, f1, f2, _⟩ := q
  rw [f2.val, f1.val]

section
variable {m n : Nat} {R : Rows} {K : Nat → Prop}
theorem tie_in_ok (ok : RowsOk m R) (hKl : ∀ i, K i → i < R.length) {k : Nat} (hk : k < R.length) (nk : ¬ K k) {par : Nat → Option Nat} {d : Nat → Nat} (A : Acy n par d) {s : Shape} (hl : s.length = n) (T : Tells s par)
    (hn : m + k < n) (W : ∀ x y, U par x y ↔ Web m R K x y) (nc : ¬ Con (U par) (tie R k).a (tie R k).b) (v : Int) :
    ∃ s' par' d', TieIn (m + k) (tie R k).a (tie R k).b v s s' ∧ s'.length = n ∧ Acy n par' d' ∧ Tells s' par' ∧ (∀ x y, U par' x y ↔ Web m R (fun i => K i ∨ i = k) x y) ∧ ∀ j, (g s' j).val = if j = m + k then v else (g s j).val := by
  obtain ⟨am, bm, ab, _, _⟩ := ok.2 k hk
  -- the node stands alone
  have alone : ∀ z, ¬ Web m R K (m + k) z := fun z ⟨i, hi, h⟩ => by
    obtain ⟨o1, o2, _⟩ := ok.2 i (hKl i hi)
    rcases h with ⟨h, _⟩ | ⟨_, h | h⟩
    · exact nk ((show i = k by omega) ▸ hi)
    · omega
    · omega
  obtain ⟨s2, p1, l2, T2, v2⟩ := put_ok A hl T hn v
  obtain ⟨s3, par1, d1, p3, A3, T3, U3, na⟩ := turn_ok A l2 T2 (x := (tie R k).a) (by omega)
  have l3 : s3.length = n := p3.len.trans l2
  have al3 : ∀ z, ¬ U par1 (m + k) z := fun z h => alone z ((W _ _).mp ((U3 _ _).mp h))
  have nc3 : ¬ Con (U par1) (tie R k).a (m + k) := fun c => by
    have := con_alone al3 (c.symm fun _ _ => U.symm)
    omega
  obtain ⟨s4, d2, p4, A4, T4⟩ := link_ok A3 l3 T3 (by omega) hn na nc3
  have l4 : s4.length = n := p4.len.trans l3
  -- the ties behind the first link
  have par1n : par1 (m + k) = none := by
    cases e : par1 (m + k) with
    | none => rfl
    | some y => exact absurd (.inl e) (al3 y)
  have ne : m + k ≠ (tie R k).a := by omega
  have U4 : ∀ x y, U (fun j => if j = (tie R k).a then some (m + k) else par1 j) x y ↔ U par1 x y ∨ (x = (tie R k).a ∧ y = m + k) ∨ (x = m + k ∧ y = (tie R k).a) := fun x y => by
    unfold U
    dsimp only
    constructor
    · rintro (h | h)
      · by_cases q : x = (tie R k).a
        · rw [if_pos q] at h; exact .inr (.inl ⟨q, (Option.some.inj h).symm⟩)
        · rw [if_neg q] at h; exact .inl (.inl h)
      · by_cases q : y = (tie R k).a
        · rw [if_pos q] at h; exact .inr (.inr ⟨(Option.some.inj h).symm, q⟩)
        · rw [if_neg q] at h; exact .inl (.inr h)
    · rintro ((h | h) | ⟨h1, h2⟩ | ⟨h1, h2⟩)
      · exact .inl (by rw [if_neg (fun q => by rw [q, na] at h; cases h)]; exact h)
      · exact .inr (by rw [if_neg (fun q => by rw [q, na] at h; cases h)]; exact h)
      · exact .inl (by rw [if_pos h1, h2])
      · exact .inr (by rw [if_pos h2, h1])
  have pn4 : (fun j => if j = (tie R k).a then some (m + k) else par1 j) (m + k) = none := by
    dsimp only; rw [if_neg ne]; exact par1n
  have nc4 : ¬ Con (U (fun j => if j = (tie R k).a then some (m + k) else par1 j)) (m + k) (tie R k).b := fun c => by
    rcases con_add (fun x y h => (U4 x y).mp h) c with c | ⟨c, _⟩ | ⟨_, c⟩
    · have := con_alone al3 c; omega
    · have := con_alone al3 c; omega
    · exact nc (c.mono fun x y h => (U3 x y).mp h)
  obtain ⟨s5, d3, p5, A5, T5⟩ := link_ok A4 l4 T4 hn (by omega) pn4 nc4
  refine ⟨s5, _, d3, ⟨s2, s3, s4, p1, p3, p4, p5⟩, p5.len.trans l4, A5, T5, fun x y => ?_, fun j => by rw [p5.val, p4.val, p3.val, v2]⟩
  -- the ties behind both
  have U5 : U (fun j => if j = m + k then some (tie R k).b else (fun j => if j = (tie R k).a then some (m + k) else par1 j) j) x y ↔
      U (fun j => if j = (tie R k).a then some (m + k) else par1 j) x y ∨ (x = m + k ∧ y = (tie R k).b) ∨ (x = (tie R k).b ∧ y = m + k) := by
    generalize hq : (fun j => if j = (tie R k).a then some (m + k) else par1 j) = q at pn4
    unfold U
    dsimp only
    constructor
    · rintro (h | h)
      · by_cases z : x = m + k
        · rw [if_pos z] at h; exact .inr (.inl ⟨z, (Option.some.inj h).symm⟩)
        · rw [if_neg z] at h; exact .inl (.inl h)
      · by_cases z : y = m + k
        · rw [if_pos z] at h; exact .inr (.inr ⟨(Option.some.inj h).symm, z⟩)
        · rw [if_neg z] at h; exact .inl (.inr h)
    · rintro ((h | h) | ⟨h1, h2⟩ | ⟨h1, h2⟩)
      · exact .inl (by rw [if_neg (fun z => by rw [z, pn4] at h; cases h)]; exact h)
      · exact .inr (by rw [if_neg (fun z => by rw [z, pn4] at h; cases h)]; exact h)
      · exact .inl (by rw [if_pos h1, h2])
      · exact .inr (by rw [if_pos h2, h1])
  rw [U5, U4, U3, W]
  constructor
  · rintro ((⟨i, hi, h⟩ | ⟨h1, h2⟩ | ⟨h1, h2⟩) | ⟨h1, h2⟩ | ⟨h1, h2⟩)
    · exact ⟨i, .inl hi, h⟩
    · exact ⟨k, .inr rfl, .inr ⟨h2, .inl h1⟩⟩
    · exact ⟨k, .inr rfl, .inl ⟨h1, .inl h2⟩⟩
    · exact ⟨k, .inr rfl, .inl ⟨h1, .inr h2⟩⟩
    · exact ⟨k, .inr rfl, .inr ⟨h2, .inr h1⟩⟩
  · rintro ⟨i, hi | rfl, h⟩
    · exact .inl (.inl ⟨i, hi, h⟩)
    · rcases h with ⟨h1, h2 | h2⟩ | ⟨h1, h2 | h2⟩
      · exact .inl (.inr (.inr ⟨h1, h2⟩))
      · exact .inr (.inl ⟨h1, h2⟩)
      · exact .inl (.inr (.inl ⟨h2, h1⟩))
      · exact .inr (.inr ⟨h2, h1⟩)

theorem tie_out_ok (ok : RowsOk m R) (hKl : ∀ i, K i → i < R.length) {k : Nat} (nk : K k) {par : Nat → Option Nat} {d : Nat → Nat} (A : Acy n par d) {s : Shape} (hl : s.length = n) (T : Tells s par)
    (hn : m + k < n) (W : ∀ x y, U par x y ↔ Web m R K x y) :
    ∃ s' par' d', TieOut (m + k) (tie R k).a (tie R k).b s s' ∧ s'.length = n ∧ Acy n par' d' ∧ Tells s' par' ∧ (∀ x y, U par' x y ↔ Web m R (fun i => K i ∧ i ≠ k) x y) ∧ par' (tie R k).a = none ∧ par' (tie R k).b = none ∧ ∀ j, (g s' j).val = (g s j).val := by
  obtain ⟨am, bm, ab, _, _⟩ := ok.2 k (hKl k nk)
  obtain ⟨s1, par1, d1, p1, A1, T1, U1, pn⟩ := turn_ok A hl T hn
  have l1 : s1.length = n := p1.len.trans hl
  have pa : par1 (tie R k).a = some (m + k) := by
    have : U par1 (tie R k).a (m + k) := (U1 _ _).mpr ((W _ _).mpr ⟨k, nk, .inr ⟨rfl, .inl rfl⟩⟩)
    rcases this with h | h
    · exact h
    · rw [pn] at h; cases h
  have pb : par1 (tie R k).b = some (m + k) := by
    have : U par1 (tie R k).b (m + k) := (U1 _ _).mpr ((W _ _).mpr ⟨k, nk, .inr ⟨rfl, .inr rfl⟩⟩)
    rcases this with h | h
    · exact h
    · rw [pn] at h; cases h
  obtain ⟨s2, p2, A2, T2⟩ := cut_ok A1 l1 T1 (by omega) pa
  have l2 : s2.length = n := p2.len.trans l1
  have pb2 : (fun j => if j = (tie R k).a then none else par1 j) (tie R k).b = some (m + k) := by
    dsimp only; rw [if_neg (Ne.symm ab)]; exact pb
  obtain ⟨s3, p3, A3, T3⟩ := cut_ok A2 l2 T2 (by omega) pb2
  refine ⟨s3, _, _, ⟨s1, s2, p1, p2, p3⟩, p3.len.trans l2, A3, T3, fun x y => ?_, ?_, ?_, fun j => by rw [p3.val, p2.val, p1.val]⟩
  · -- a parent that is left
    have key : ∀ x y, (if x = (tie R k).b then none else if x = (tie R k).a then none else par1 x) = some y ↔ par1 x = some y ∧ x ≠ (tie R k).a ∧ x ≠ (tie R k).b := fun x y => by
      by_cases q1 : x = (tie R k).b
      · rw [if_pos q1]; simp [q1]
      · by_cases q2 : x = (tie R k).a
        · rw [if_neg q1, if_pos q2]; simp [q2]
        · rw [if_neg q1, if_neg q2]; simp [q1, q2]
    have half : ∀ x y, par1 x = some y → x ≠ (tie R k).a → x ≠ (tie R k).b → Web m R (fun i => K i ∧ i ≠ k) x y := fun x y h h1 h2 => by
      obtain ⟨i, hi, w⟩ := (W x y).mp ((U1 x y).mp (.inl h))
      refine ⟨i, ⟨hi, ?_⟩, w⟩
      rintro rfl
      rcases w with ⟨w, _⟩ | ⟨_, w | w⟩
      · rw [w, pn] at h; cases h
      · exact h1 w
      · exact h2 w
    have back : ∀ x y, par1 x = some y → Web m R (fun i => K i ∧ i ≠ k) x y → x ≠ (tie R k).a ∧ x ≠ (tie R k).b := fun x y h ⟨i, hi, w⟩ => by
      obtain ⟨o1, o2, _⟩ := ok.2 i (hKl i hi.1)
      constructor <;> rintro rfl
      · rw [pa] at h; cases h
        rcases w with ⟨w, _⟩ | ⟨w, _⟩
        · omega
        · exact hi.2 (by omega)
      · rw [pb] at h; cases h
        rcases w with ⟨w, _⟩ | ⟨w, _⟩
        · omega
        · exact hi.2 (by omega)
    have wsym : ∀ x y, Web m R (fun i => K i ∧ i ≠ k) x y → Web m R (fun i => K i ∧ i ≠ k) y x := fun x y ⟨i, hi, w⟩ => ⟨i, hi, Or.symm w⟩
    unfold U
    dsimp only
    rw [key, key]
    constructor
    · rintro (⟨h, h1, h2⟩ | ⟨h, h1, h2⟩)
      · exact half x y h h1 h2
      · exact wsym _ _ (half y x h h1 h2)
    · intro w
      have : U par1 x y := (U1 x y).mpr ((W x y).mpr (by obtain ⟨i, hi, w⟩ := w; exact ⟨i, hi.1, w⟩))
      rcases this with h | h
      · exact .inl ⟨h, back x y h w⟩
      · exact .inr ⟨h, back y x h (wsym _ _ w)⟩
  · rw [if_pos rfl]; simp
  · rw [if_pos rfl]
end

theorem rows_app {m : Nat} {R : Rows} {t : Tie} (ok : RowsOk m R) (h64 : R.length < 64) (ta : t.a < m) (tb : t.b < m) (tn : t.a ≠ t.b) (w1 : -(10 ^ 20) ≤ t.w) (w2 : t.w ≤ 10 ^ 20) : RowsOk m (R ++ [t]) := by
  refine ⟨by simp; omega, fun i hi => ?_⟩
  rcases len_cases hi with q | rfl
  · rw [tie_app q]; exact ok.2 i q
  · rw [tie_last]; exact ⟨ta, tb, tn, w1, w2⟩
theorem web_app {m : Nat} {R : Rows} {K : Nat → Prop} {t : Tie} (hKl : ∀ i, K i → i < R.length) (x y : Nat) : Web m (R ++ [t]) K x y ↔ Web m R K x y := by
  constructor
  · rintro ⟨i, hi, h⟩; rw [tie_app (hKl i hi)] at h; exact ⟨i, hi, h⟩
  · rintro ⟨i, hi, h⟩; refine ⟨i, hi, ?_⟩; rw [tie_app (hKl i hi)]; exact h

/-- one tie comes -/
theorem settle_ok {m n : Nat} {R : Rows} {K : Nat → Prop} {s : Shape} (H : RS m n R K s) {t : Tie} (ta : t.a < m) (tb : t.b < m) (tn : t.a ≠ t.b) (w1 : -(10 ^ 20) ≤ t.w) (w2 : t.w ≤ 10 ^ 20) (hr : m + R.length < n) :
    ∃ s' out, Settle m (R ++ [t]) R.length s s' out ∧ (∀ i, out = some i → i ≤ R.length) ∧ RS m n (R ++ [t]) (fun i => (K i ∨ i = R.length) ∧ out ≠ some i) s' := by
  obtain ⟨hl, n64, room, ok, kept, ⟨par, d, A, T, W⟩, vh, vt⟩ := H
  have hKl : ∀ i, K i → i < R.length := fun i h => ((kept i).mp h).1
  have ok' := rows_app ok (by omega) ta tb tn w1 w2
  have lR : (R ++ [t]).length = R.length + 1 := by simp
  have hk : R.length < (R ++ [t]).length := by omega
  have et : tie (R ++ [t]) R.length = t := tie_last
  have nK : ¬ K R.length := fun h => Nat.lt_irrefl _ (hKl _ h)
  have hKl' : ∀ i, K i → i < (R ++ [t]).length := fun i h => by have := hKl i h; omega
  have W' : ∀ x y, U par x y ↔ Web m (R ++ [t]) K x y := fun x y => (W x y).trans (web_app hKl x y).symm
  obtain ⟨s1, c, j1, T1, hc⟩ := join_ok A hl T (show t.a < n by omega) (show t.b < n by omega)
  have l1 : s1.length = n := j1.len.trans hl
  have conW : Con (U par) t.a t.b ↔ Cn R (KeptP R) t.a t.b := by
    have h1 : Con (U par) t.a t.b ↔ Con (Web m R K) t.a t.b := ⟨fun c => c.mono fun x y h => (W x y).mp h, fun c => c.mono fun x y h => (W x y).mpr h⟩
    have h2 := web_con ok hKl ta tb
    have h3 : Cn R K t.a t.b ↔ Cn R (KeptP R) t.a t.b := ⟨fun c => c.sub fun i h => (kept i).mp h, fun c => c.sub fun i h => (kept i).mpr h⟩
    exact h1.trans (h2.trans h3)
  cases c with
  | false =>
    have nc : ¬ Con (U par) t.a t.b := fun c => by have := hc.mpr c; cases this
    obtain ⟨s', par', d', p, l', A', T', U', v'⟩ := tie_in_ok ok' hKl' hk nK A l1 T1 (by omega) W' (by rw [et]; exact nc) (key (R ++ [t]) R.length)
    refine ⟨s', none, .new (by rw [et]; exact j1) p, fun i h => (nomatch h), ⟨l', n64, by omega, ok', fun i => ?_, ⟨par', d', A', T', fun x y => ?_⟩, fun k hk => ?_, fun i hi => ?_⟩⟩
    · rw [kept_A ok (fun c => nc (conW.mpr c)) i, kept i]; simp
    · rw [U']
      constructor
      · rintro ⟨i, hi, h⟩; exact ⟨i, ⟨hi, by simp⟩, h⟩
      · rintro ⟨i, hi, h⟩; exact ⟨i, hi.1, h⟩
    · rw [v', if_neg (by omega), j1.val]; exact vh k hk
    · rw [v']
      rcases hi.1 with h | rfl
      · have := hKl i h
        rw [if_neg (by omega), j1.val, vt i h, key_app this]
      · rw [if_pos rfl]
  | true =>
    have cc := hc.mp rfl
    obtain ⟨s2, h, par2, d2, j2, l2, A2, T2, U2, v2, L, nd, hd, la, ad, fm⟩ := where_ok A n64 l1 T1 (show t.a < n by omega) (show t.b < n by omega) cc
    have vs : ∀ k, (g s1 k).val = (g s k).val := j1.val
    obtain ⟨i, rfl, Ki, Hv⟩ := heavy_of ok kept ta tb tn (f := fun k => (g s1 k).val) (fun k hk => by rw [vs]; exact vh k hk) (fun i hi => by rw [vs]; exact vt i hi) nd hd la (fun x y h => (W x y).mp (ad x y h)) fm
    have il := hKl i Ki
    have W2 : ∀ x y, U par2 x y ↔ Web m (R ++ [t]) K x y := fun x y => (U2 x y).trans (W' x y)
    by_cases hlt : key (R ++ [t]) i < key (R ++ [t]) R.length
    · have hlt' : key R i < key (R ++ [t]) R.length := by rwa [key_app il] at hlt
      refine ⟨s2, some R.length, .self (by rw [et]; exact j1) (by rw [et]; exact j2) il hlt, fun j h => by cases h; exact Nat.le_refl _, ⟨l2, n64, by omega, ok', fun j => ?_, ⟨par2, d2, A2, T2, fun x y => ?_⟩, fun k hk => ?_, fun j hj => ?_⟩⟩
      · rw [kept_B Hv hlt' j, ← kept j]
        constructor
        · rintro ⟨h | h, hn⟩
          · exact h
          · exact absurd (by rw [h]) hn
        · intro h; exact ⟨.inl h, fun e => by cases e; exact nK h⟩
      · rw [W2]
        constructor
        · rintro ⟨j, hj, h⟩; exact ⟨j, ⟨.inl hj, fun e => by cases e; exact nK hj⟩, h⟩
        · rintro ⟨j, ⟨hj | hj, hn⟩, h⟩
          · exact ⟨j, hj, h⟩
          · exact absurd (by rw [hj]) hn
      · rw [v2, vs]; exact vh k hk
      · rcases hj with ⟨h | h, hn⟩
        · rw [v2, vs, vt j h, key_app (hKl j h)]
        · exact absurd (by rw [h]) hn
    · have hgt : key (R ++ [t]) R.length < key R i := by
        have h1 : key (R ++ [t]) i ≠ key (R ++ [t]) R.length := fun e => by
          have := key_inj ok' (by omega) hk e; omega
        rw [key_app il] at hlt h1
        omega
      obtain ⟨s3, par3, d3, p3, l3, A3, T3, U3, na, nb, v3⟩ := tie_out_ok ok' hKl' Ki A2 l2 T2 (by omega) W2
      -- the new one's ends are parted
      have ti : tie (R ++ [t]) i = tie R i := tie_app il
      rw [ti] at p3 na nb
      have up : ∀ {x y}, x < m → y < m → Cn R (fun j => KeptP R j ∧ key R j < key R i) x y → Con (U par3) x y := fun {x y} hx hy c => by
        have c1 : Cn R (fun j => K j ∧ j ≠ i) x y := c.sub fun j hj => ⟨(kept j).mpr hj.1, by rintro rfl; exact Int.lt_irrefl _ hj.2⟩
        have c2 := (web_con ok (fun j (hj : K j ∧ j ≠ i) => hKl j hj.1) hx hy).mpr c1
        exact c2.mono fun x y h => (U3 x y).mpr ((web_app (fun j (hj : K j ∧ j ≠ i) => hKl j hj.1) x y).mpr h)
      obtain ⟨o1, o2, o3, _⟩ := ok.2 i il
      have nc3 : ¬ Con (U par3) t.a t.b := fun c => by
        have : Con (U par3) (tie R i).a (tie R i).b := by
          rcases Hv.2 with ⟨c1, c2⟩ | ⟨c1, c2⟩
          · exact Con.trans ((up ta o1 c1).symm fun _ _ => U.symm) (Con.trans c ((up o2 tb c2).symm fun _ _ => U.symm))
          · exact Con.trans (up o1 tb c2) (Con.trans (c.symm fun _ _ => U.symm) (up ta o2 c1))
        exact o3 (con_root this .refl na .refl nb)
      obtain ⟨s', par', d', p, l', A', T', U', v'⟩ := tie_in_ok (K := fun j => K j ∧ j ≠ i) ok' (fun j hj => hKl' j hj.1) hk (fun h => nK h.1) A3 l3 T3 (by omega) U3 (by rw [et]; exact nc3) (key (R ++ [t]) R.length)
      refine ⟨s', some i, .other (by rw [et]; exact j1) (by rw [et]; exact j2) il hlt (by rw [ti]; exact p3) p, fun j h => by cases h; omega, ⟨l', n64, by omega, ok', fun j => ?_, ⟨par', d', A', T', fun x y => ?_⟩, fun k hk => ?_, fun j hj => ?_⟩⟩
      · rw [kept_C ok Hv hgt j, ← kept j]
        constructor
        · rintro ⟨h | h, hn⟩
          · exact .inl ⟨h, fun e => hn (by rw [e])⟩
          · exact .inr h
        · rintro (⟨h, hn⟩ | h)
          · exact ⟨.inl h, fun e => hn (Option.some.inj e).symm⟩
          · exact ⟨.inr h, fun e => by have := Option.some.inj e; omega⟩
      · rw [U']
        constructor
        · rintro ⟨j, hj | hj, h⟩
          · exact ⟨j, ⟨.inl hj.1, fun e => hj.2 (Option.some.inj e).symm⟩, h⟩
          · exact ⟨j, ⟨.inr hj, fun e => by have := Option.some.inj e; omega⟩, h⟩
        · rintro ⟨j, ⟨hj | hj, hn⟩, h⟩
          · exact ⟨j, .inl ⟨hj, fun e => hn (by rw [e])⟩, h⟩
          · exact ⟨j, .inr hj, h⟩
      · rw [v', if_neg (by omega), v3, v2, vs]; exact vh k hk
      · rw [v']
        rcases hj with ⟨h | h, hn⟩
        · have := hKl j h
          rw [if_neg (by omega), v3, v2, vs, vt j h, key_app this]
        · rw [h, if_pos rfl]
/-- at first: no tie -/
theorem rs_nil {m n : Nat} (h : m ≤ n) (n64 : n ≤ 64) : RS m n [] (fun _ => False) (List.replicate n ⟨none, none, none, false, -(10 ^ 40)⟩) := by
  have gk : ∀ k, k < n → g (List.replicate n (⟨none, none, none, false, -(10 ^ 40)⟩ : Part)) k = ⟨none, none, none, false, -(10 ^ 40)⟩ := fun k hk => by simp [g, hk]
  refine ⟨by simp, n64, by simpa using h, ⟨by simp, fun i hi => by simp at hi⟩, fun i => ⟨False.elim, fun h => by have := h.1; simp at this⟩, ⟨fun _ => none, fun _ => 0, fun x y _ e => (nomatch e), ⟨fun i => if i < n then .node .nil i false .nil else .nil, fun _ => none, ⟨fun i => ?_, fun i => ?_, fun i j k => ?_, fun k hk => ?_, n, fun i hi => ?_⟩, fun i => ?_⟩, fun x y => ?_⟩, fun k hk => ?_, fun i hi => hi.elim⟩
  · skip
    split
    · next q => exact ⟨by simp; exact q, by rw [gk i q], by rw [gk i q]; rfl, by rw [gk i q]; rfl, by rw [gk i q], trivial, trivial⟩
    · trivial
  · split <;> simp [T.hs]
  · skip
    intro h1 h2
    split at h1
    · split at h2
      · simp [T.hs] at h1 h2; omega
      · cases h2
    · cases h1
  · simp at hk; exact ⟨k, by simp [hk, T.hs]⟩
  · rw [if_neg (by omega)]
  · dsimp only; split <;> simp [T.ord, Chn]
  · unfold U; simp [Web]
  · rw [gk k (by omega)]
end Lk
/-! The law's own least forest: the same. -/
namespace Lk

def pstep (P : List Nat) (t : Tie) : List Nat := P.map fun p => if p = P.getD t.a 0 ∨ p = P.getD t.b 0 then min (P.getD t.a 0) (P.getD t.b 0) else p
def partsBy (m : Nat) (ts : List Tie) : List Nat := ts.foldl pstep (List.range m)
def kstep (m : Nat) (R : Rows) (F : List Nat) (i : Nat) : List Nat :=
  if (partsBy m (F.map (tie R))).getD (tie R i).a 0 = (partsBy m (F.map (tie R))).getD (tie R i).b 0 then F else F ++ [i]

section
variable {m : Nat} {R : Rows}
/-- parts tell who is joined by the ties of S -/
structure PartsOk (m : Nat) (R : Rows) (P : List Nat) (S : Nat → Prop) : Prop where
  len : P.length = m
  iff : ∀ x y, x < m → y < m → (P.getD x 0 = P.getD y 0 ↔ Cn R S x y)
theorem getD_map {f : Nat → Nat} {P : List Nat} {x : Nat} (h : x < P.length) : (P.map f).getD x 0 = f (P.getD x 0) := by
  simp [List.getD_eq_getElem?_getD, h]
theorem parts_step {P : List Nat} {S : Nat → Prop} (h : PartsOk m R P S) {i : Nat} (ha : (tie R i).a < m) (hb : (tie R i).b < m) : PartsOk m R (pstep P (tie R i)) (fun j => S j ∨ j = i) := by
  refine ⟨by simp [pstep, h.len], fun x y hx hy => ?_⟩
  unfold pstep
  rw [getD_map (by rw [h.len]; exact hx), getD_map (by rw [h.len]; exact hy)]
  have xa := h.iff x _ hx ha
  have xb := h.iff x _ hx hb
  have ya := h.iff y _ hy ha
  have yb := h.iff y _ hy hb
  have xy := h.iff x y hx hy
  generalize P.getD x 0 = px at *
  generalize P.getD y 0 = py at *
  generalize P.getD (tie R i).a 0 = A at *
  generalize P.getD (tie R i).b 0 = B at *
  have lift : ∀ {u v}, Cn R S u v → Cn R (fun j => S j ∨ j = i) u v := fun c => c.sub fun _ h => .inl h
  have ti : Cn R (fun j => S j ∨ j = i) (tie R i).a (tie R i).b := .tie (.inr rfl)
  have mAB : min A B = A ∨ min A B = B := by omega
  constructor
  · intro e
    by_cases q1 : px = A ∨ px = B
    · rw [if_pos q1] at e
      have hx' : Cn R (fun j => S j ∨ j = i) x (tie R i).a := by
        rcases q1 with q | q
        · exact lift (xa.mp q)
        · exact Con.trans (lift (xb.mp q)) ti.symm
      have : py = A ∨ py = B := by
        by_cases q2 : py = A ∨ py = B
        · exact q2
        · rw [if_neg q2] at e; omega
      have hy' : Cn R (fun j => S j ∨ j = i) y (tie R i).a := by
        rcases this with q | q
        · exact lift (ya.mp q)
        · exact Con.trans (lift (yb.mp q)) ti.symm
      exact Con.trans hx' hy'.symm
    · rw [if_neg q1] at e
      by_cases q2 : py = A ∨ py = B
      · rw [if_pos q2] at e; omega
      · rw [if_neg q2] at e; exact lift (xy.mp e)
  · intro c
    rcases c.add with c | ⟨c1, c2⟩ | ⟨c1, c2⟩
    · rw [xy.mpr c]
    · rw [if_pos (.inl (xa.mpr c1)), if_pos (.inr (yb.mpr c2.symm))]
    · rw [if_pos (.inr (xb.mpr c1)), if_pos (.inl (ya.mpr c2.symm))]
theorem parts_zero : PartsOk m R (List.range m) (fun _ => False) := by
  refine ⟨by simp, fun x y hx hy => ?_⟩
  have : ∀ x, x < m → (List.range m).getD x 0 = x := fun x hx => by simp [List.getD_eq_getElem?_getD, hx]
  rw [this x hx, this y hy]
  constructor
  · rintro rfl; exact .refl
  · intro c; exact con_alone (fun z ⟨_, h, _⟩ => h) c
theorem parts_ok (ok : RowsOk m R) : ∀ (F : List Nat), (∀ i ∈ F, i < R.length) → PartsOk m R (partsBy m (F.map (tie R))) (fun i => i ∈ F) := by
  have : ∀ (F : List Nat) (P : List Nat) (S : Nat → Prop), (∀ i ∈ F, i < R.length) → PartsOk m R P S → PartsOk m R ((F.map (tie R)).foldl pstep P) (fun i => S i ∨ i ∈ F) := by
    intro F
    induction F with
    | nil =>
      intro P S _ h
      exact ⟨h.len, fun x y hx hy => (h.iff x y hx hy).trans ⟨fun c => c.sub fun _ h => .inl h, fun c => c.sub fun _ h => h.elim id fun h => (nomatch h)⟩⟩
    | cons i F ih =>
      intro P S hF h
      have o := ok.2 i (hF i (by simp))
      have := ih (pstep P (tie R i)) (fun j => S j ∨ j = i) (fun j hj => hF j (by simp [hj])) (parts_step h o.1 o.2.1)
      refine ⟨this.len, fun x y hx hy => (this.iff x y hx hy).trans ⟨fun c => c.sub fun j h => ?_, fun c => c.sub fun j h => ?_⟩⟩
      · rcases h with (h | rfl) | h
        · exact .inl h
        · exact .inr (by simp)
        · exact .inr (by simp [h])
      · rcases h with h | h
        · exact .inl (.inl h)
        · rcases List.mem_cons.mp h with rfl | h
          · exact .inl (.inr rfl)
          · exact .inr h
  intro F hF
  have := this F (List.range m) (fun _ => False) hF parts_zero
  exact ⟨this.len, fun x y hx hy => (this.iff x y hx hy).trans ⟨fun c => c.sub fun _ h => h.elim False.elim id, fun c => c.sub fun _ h => .inr h⟩⟩
/-- the kept ties up to i span it -/
theorem kept_span_le (ok : RowsOk m R) : ∀ (q : Nat) (i : Nat), i < R.length → (key R i + 10 ^ 24).toNat ≤ q → Cn R (fun j => KeptP R j ∧ key R j ≤ key R i) (tie R i).a (tie R i).b := by
  intro q
  induction q using Nat.strongRecOn with
  | _ q ih =>
    intro i hi hq
    by_cases h : KeptP R i
    · exact .tie ⟨h, Int.le_refl _⟩
    · have c : Cn R (fun j => j < R.length ∧ key R j < key R i) (tie R i).a (tie R i).b := Classical.byContradiction fun z => h ⟨hi, z⟩
      refine c.lift fun j ⟨hj, hk⟩ => ?_
      have bj := ok.2 j hj
      have : (key R j + 10 ^ 24).toNat < (key R i + 10 ^ 24).toNat := by
        have h1 := bj.2.2.2.1
        unfold key at hk ⊢
        omega
      exact (ih _ (by omega) j hj (Nat.le_refl _)).sub fun k hk' => ⟨hk'.1, by have := hk'.2; omega⟩
/-- one step of the law's own way -/
theorem kstep_ok (ok : RowsOk m R) {p : List Nat} {F : List Nat} {i : Nat} (hi : i < R.length) (hp : ∀ j, j ∈ p ↔ j < R.length ∧ key R j < key R i) (hF : ∀ j, j ∈ F ↔ j ∈ p ∧ KeptP R j) (nd : F.Nodup) :
    (kstep m R F i).Nodup ∧ ∀ j, j ∈ kstep m R F i ↔ (j ∈ p ∨ j = i) ∧ KeptP R j := by
  have o := ok.2 i hi
  have P := parts_ok ok F fun j hj => (((hp j).mp ((hF j).mp hj).1)).1
  have q1 := P.iff _ _ o.1 o.2.1
  have q2 : Cn R (fun j => j ∈ F) (tie R i).a (tie R i).b ↔ ¬ KeptP R i := by
    constructor
    · intro c k
      exact k.2 (c.sub fun j hj => (hp j).mp ((hF j).mp hj).1)
    · intro k
      have c : Cn R (fun j => j < R.length ∧ key R j < key R i) (tie R i).a (tie R i).b := Classical.byContradiction fun z => k ⟨hi, z⟩
      refine c.lift fun j ⟨hj, hk⟩ => ?_
      exact (kept_span_le ok _ j hj (Nat.le_refl _)).sub fun k hk' => (hF k).mpr ⟨(hp k).mpr ⟨hk'.1.1, by have := hk'.2; omega⟩, hk'.1⟩
  have ni : i ∉ p := fun h => by have := ((hp i).mp h).2; omega
  unfold kstep
  by_cases e : (partsBy m (F.map (tie R))).getD (tie R i).a 0 = (partsBy m (F.map (tie R))).getD (tie R i).b 0
  · rw [if_pos e]
    have nk := q2.mp (q1.mp e)
    refine ⟨nd, fun j => ?_⟩
    rw [hF j]
    constructor
    · rintro ⟨h1, h2⟩; exact ⟨.inl h1, h2⟩
    · rintro ⟨h1 | rfl, h2⟩
      · exact ⟨h1, h2⟩
      · exact absurd h2 nk
  · rw [if_neg e]
    have k : KeptP R i := Classical.byContradiction fun z => e (q1.mpr (q2.mpr z))
    refine ⟨?_, fun j => ?_⟩
    · rw [List.nodup_append]
      refine ⟨nd, by simp, fun a ha b hb => ?_⟩
      rw [List.mem_singleton.mp hb]
      rintro rfl
      exact ni ((hF a).mp ha).1
    · rw [List.mem_append, List.mem_singleton, hF j]
      constructor
      · rintro (⟨h1, h2⟩ | rfl)
        · exact ⟨.inl h1, h2⟩
        · exact ⟨.inr rfl, k⟩
      · rintro ⟨h1 | rfl, h2⟩
        · exact .inl ⟨h1, h2⟩
        · exact .inr rfl
/-- all steps, the numbers by their ranks -/
theorem kruskal_ok (ok : RowsOk m R) {ns : List Nat} (hn : ∀ j, j ∈ ns ↔ j < R.length) (hs : ns.Pairwise fun i j => key R i < key R j) :
    (ns.foldl (kstep m R) []).Nodup ∧ ∀ j, j ∈ ns.foldl (kstep m R) [] ↔ KeptP R j := by
  have : ∀ (q p : List Nat) (F : List Nat), ns = p ++ q → F.Nodup → (∀ j, j ∈ F ↔ j ∈ p ∧ KeptP R j) → (q.foldl (kstep m R) F).Nodup ∧ ∀ j, j ∈ q.foldl (kstep m R) F ↔ KeptP R j := by
    intro q
    induction q with
    | nil =>
      intro p F e nd hF
      rw [List.append_nil] at e
      subst e
      exact ⟨nd, fun j => (hF j).trans ⟨fun h => h.2, fun h => ⟨(hn j).mpr h.1, h⟩⟩⟩
    | cons i q ih =>
      intro p F e nd hF
      have hi : i < R.length := (hn i).mp (by rw [e]; simp)
      have hp : ∀ j, j ∈ p ↔ j < R.length ∧ key R j < key R i := fun j => by
        rw [e] at hs
        obtain ⟨h1, h2, h3⟩ := List.pairwise_append.mp hs
        constructor
        · intro hj
          exact ⟨(hn j).mp (by rw [e]; simp [hj]), h3 j hj i (by simp)⟩
        · rintro ⟨hj, hk⟩
          have := (hn j).mpr hj
          rw [e, List.mem_append, List.mem_cons] at this
          rcases this with q | rfl | q
          · exact q
          · exact absurd hk (Int.lt_irrefl _)
          · have := (List.pairwise_cons.mp h2).1 j q; omega
      obtain ⟨a1, a2⟩ := kstep_ok ok hi hp hF nd
      rw [List.foldl_cons]
      refine ih (p ++ [i]) _ (by rw [e]; simp) a1 fun j => ?_
      rw [a2 j]; simp
  exact this ns [] [] rfl List.nodup_nil fun j => by simp
/-- two rising lists of the same numbers are one -/
theorem rising_eq : ∀ {l k : List Nat}, l.Pairwise (· < ·) → k.Pairwise (· < ·) → (∀ x, x ∈ l ↔ x ∈ k) → l = k := by
  intro l
  induction l with
  | nil =>
    intro k _ _ h
    cases k with
    | nil => rfl
    | cons a k => exact absurd ((h a).mpr (by simp)) (by simp)
  | cons a l ih =>
    intro k hl hk h
    cases k with
    | nil => exact absurd ((h a).mp (by simp)) (by simp)
    | cons b k =>
      obtain ⟨l1, l2⟩ := List.pairwise_cons.mp hl
      obtain ⟨k1, k2⟩ := List.pairwise_cons.mp hk
      have e : a = b := by
        rcases List.mem_cons.mp ((h a).mp (by simp)) with q | q
        · exact q
        · rcases List.mem_cons.mp ((h b).mpr (by simp)) with q2 | q2
          · exact q2.symm
          · have h1 := k1 a q; have h2 := l1 b q2; omega
      subst e
      rw [ih l2 k2 fun x => ?_]
      constructor
      · intro hx
        rcases List.mem_cons.mp ((h x).mp (by simp [hx])) with rfl | q
        · have := l1 x hx; omega
        · exact q
      · intro hx
        rcases List.mem_cons.mp ((h x).mpr (by simp [hx])) with rfl | q
        · have := k1 x hx; omega
        · exact q
end
end Lk
set_option Elab.async false
set_option linter.all false
set_option maxRecDepth 100000
set_option maxHeartbeats 4000000
/-! What the head tells, by names. Printed by gen_facts.py, but for the rules. -/
namespace G3
open PySem PySem.Spec PyProof.Rows L2
structure Txt (w : World) (K : PySem.W.Frag) (mg : Str → Option Value) : Prop where
  says : Says w K
  at_ : ∃ h : Heap, K.In h ∧ h.Ns mainGlobals mg
section
variable {w : World} {K : PySem.W.Frag} {mg : Str → Option Value}
theorem Txt.gl (T : Txt w K mg) (i : Nat) {x : Str} (e : fa[i]? = some (.glo x) := by rfl) : mg x = some (.ref (He.ga K x)) := by
  obtain ⟨h, inh, ns⟩ := T.at_
  exact He.glo_ok inh ns (T.says.1.d.fact i e)
theorem Txt.fr (T : Txt w K mg) (i : Nat) {x : Str} (e : fa[i]? = some (.free x) := by rfl) : mg x = none := by
  obtain ⟨h, inh, ns⟩ := T.at_
  exact He.free_ok inh ns (T.says.1.d.fact i e)
theorem Txt.in_ (T : Txt w K mg) (i : Nat) {x : Str} {z : Int} (e : fa[i]? = some (.int x z) := by rfl) : ∃ t, mg x = some (.int z t) := by
  obtain ⟨h, inh, ns⟩ := T.at_
  exact He.int_ok inh ns (T.says.1.d.fact i e)
theorem Txt.st (T : Txt w K mg) (i : Nat) {x z : Str} (e : fa[i]? = some (.str x z) := by rfl) : ∃ t, mg x = some (.str z t) := by
  obtain ⟨h, inh, ns⟩ := T.at_
  exact He.str_ok inh ns (T.says.1.d.fact i e)
theorem Txt.cl (T : Txt w K mg) (i : Nat) {x : Str} (e : fa[i]? = some (.cls x) := by rfl) : Cls K (He.ga K x) := He.cls_ok (T.says.1.d.fact i e)
theorem Txt.mk_ (T : Txt w K mg) (i : Nat) {x : Str} (e : fa[i]? = some (.mkr x) := by rfl) : Mk K (He.ga K x) (He.ma K (He.ga K x) "__init__") := He.mkr_ok (T.says.1.d.fact i e)
theorem Txt.me (T : Txt w K mg) (i : Nat) {x m : Str} (e : fa[i]? = some (.meth x m) := by rfl) : Meth K (He.ga K x) m (He.ma K (He.ga K x) m) := He.meth_ok (T.says.1.d.fact i e)
theorem Txt.no (T : Txt w K mg) (i : Nat) {x f : Str} (e : fa[i]? = some (.noat x f) := by rfl) : NoAttr K (He.ga K x) f := He.noat_ok (T.says.1.d.fact i e)
theorem Txt.fn (T : Txt w K mg) (i : Nat) {d : He.DefD} (e : fn[i]? = some d := by rfl) : ∃ fd, FunD K d.name d.qual d.params d.body d.scope (d.dvs K) (d.kws K) (He.fAd K d.at_) fd := T.says.1.d.def_ i e
theorem Txt.glo_is_integer (T : Txt w K mg) : mg "is_integer" = some (.ref (He.ga K "is_integer")) := T.gl 0
theorem Txt.glo_is_within (T : Txt w K mg) : mg "is_within" = some (.ref (He.ga K "is_within")) := T.gl 1
theorem Txt.glo_is_below (T : Txt w K mg) : mg "is_below" = some (.ref (He.ga K "is_below")) := T.gl 2
theorem Txt.glo_is_sized (T : Txt w K mg) : mg "is_sized" = some (.ref (He.ga K "is_sized")) := T.gl 3
theorem Txt.glo_check_within (T : Txt w K mg) : mg "check_within" = some (.ref (He.ga K "check_within")) := T.gl 4
theorem Txt.glo_replaced (T : Txt w K mg) : mg "replaced" = some (.ref (He.ga K "replaced")) := T.gl 5
theorem Txt.glo_comes_to_none (T : Txt w K mg) : mg "comes_to_none" = some (.ref (He.ga K "comes_to_none")) := T.gl 6
theorem Txt.glo_are_parents (T : Txt w K mg) : mg "are_parents" = some (.ref (He.ga K "are_parents")) := T.gl 7
theorem Txt.glo_is_more (T : Txt w K mg) : mg "is_more" = some (.ref (He.ga K "is_more")) := T.gl 8
theorem Txt.glo_has_form_asks (T : Txt w K mg) : mg "has_form_asks" = some (.ref (He.ga K "has_form_asks")) := T.gl 9
theorem Txt.glo_place_of (T : Txt w K mg) : mg "place_of" = some (.ref (He.ga K "place_of")) := T.gl 10
theorem Txt.glo_on_way (T : Txt w K mg) : mg "on_way" = some (.ref (He.ga K "on_way")) := T.gl 11
theorem Txt.glo_has_form_deeds (T : Txt w K mg) : mg "has_form_deeds" = some (.ref (He.ga K "has_form_deeds")) := T.gl 12
theorem Txt.glo_sons_of (T : Txt w K mg) : mg "sons_of" = some (.ref (He.ga K "sons_of")) := T.gl 13
theorem Txt.glo_is_son (T : Txt w K mg) : mg "is_son" = some (.ref (He.ga K "is_son")) := T.gl 14
theorem Txt.glo_order_from (T : Txt w K mg) : mg "order_from" = some (.ref (He.ga K "order_from")) := T.gl 15
theorem Txt.glo_row_from (T : Txt w K mg) : mg "row_from" = some (.ref (He.ga K "row_from")) := T.gl 16
theorem Txt.glo_all_rows (T : Txt w K mg) : mg "all_rows" = some (.ref (He.ga K "all_rows")) := T.gl 17
theorem Txt.glo_told_value (T : Txt w K mg) : mg "told_value" = some (.ref (He.ga K "told_value")) := T.gl 18
theorem Txt.glo_forest_of (T : Txt w K mg) : mg "forest_of" = some (.ref (He.ga K "forest_of")) := T.gl 19
theorem Txt.glo_resting (T : Txt w K mg) : mg "resting" = some (.ref (He.ga K "resting")) := T.gl 20
theorem Txt.glo_rank_of (T : Txt w K mg) : mg "rank_of" = some (.ref (He.ga K "rank_of")) := T.gl 21
theorem Txt.glo_all_weights (T : Txt w K mg) : mg "all_weights" = some (.ref (He.ga K "all_weights")) := T.gl 22
theorem Txt.glo_sum_of_ranks (T : Txt w K mg) : mg "sum_of_ranks" = some (.ref (He.ga K "sum_of_ranks")) := T.gl 23
theorem Txt.glo_changed (T : Txt w K mg) : mg "changed" = some (.ref (He.ga K "changed")) := T.gl 24
theorem Txt.glo_with_more (T : Txt w K mg) : mg "with_more" = some (.ref (He.ga K "with_more")) := T.gl 25
theorem Txt.glo_after_handing (T : Txt w K mg) : mg "after_handing" = some (.ref (He.ga K "after_handing")) := T.gl 26
theorem Txt.glo_side_of (T : Txt w K mg) : mg "side_of" = some (.ref (He.ga K "side_of")) := T.gl 27
theorem Txt.glo_after_turn (T : Txt w K mg) : mg "after_turn" = some (.ref (He.ga K "after_turn")) := T.gl 28
theorem Txt.glo_down_to (T : Txt w K mg) : mg "down_to" = some (.ref (He.ga K "down_to")) := T.gl 29
theorem Txt.glo_after_step (T : Txt w K mg) : mg "after_step" = some (.ref (He.ga K "after_step")) := T.gl 30
theorem Txt.glo_to_top (T : Txt w K mg) : mg "to_top" = some (.ref (He.ga K "to_top")) := T.gl 31
theorem Txt.glo_met_from (T : Txt w K mg) : mg "met_from" = some (.ref (He.ga K "met_from")) := T.gl 32
theorem Txt.glo_spliced (T : Txt w K mg) : mg "spliced" = some (.ref (He.ga K "spliced")) := T.gl 33
theorem Txt.glo_after_reaching (T : Txt w K mg) : mg "after_reaching" = some (.ref (He.ga K "after_reaching")) := T.gl 34
theorem Txt.glo_left_most (T : Txt w K mg) : mg "left_most" = some (.ref (He.ga K "left_most")) := T.gl 35
theorem Txt.glo_kept_from (T : Txt w K mg) : mg "kept_from" = some (.ref (He.ga K "kept_from")) := T.gl 36
theorem Txt.glo_rank_number (T : Txt w K mg) : mg "rank_number" = some (.ref (He.ga K "rank_number")) := T.gl 37
theorem Txt.glo__law_draw (T : Txt w K mg) : mg "_law_draw" = some (.ref (He.ga K "_law_draw")) := T.gl 38
theorem Txt.glo__law_weight (T : Txt w K mg) : mg "_law_weight" = some (.ref (He.ga K "_law_weight")) := T.gl 39
theorem Txt.glo__law_parts_by (T : Txt w K mg) : mg "_law_parts_by" = some (.ref (He.ga K "_law_parts_by")) := T.gl 40
theorem Txt.glo__law_least (T : Txt w K mg) : mg "_law_least" = some (.ref (He.ga K "_law_least")) := T.gl 41
theorem Txt.glo__law_is (T : Txt w K mg) : mg "_law_is" = some (.ref (He.ga K "_law_is")) := T.gl 42
theorem Txt.glo__law_hand (T : Txt w K mg) : mg "_law_hand" = some (.ref (He.ga K "_law_hand")) := T.gl 43
theorem Txt.glo__law_size (T : Txt w K mg) : mg "_law_size" = some (.ref (He.ga K "_law_size")) := T.gl 44
theorem Txt.glo__law_came (T : Txt w K mg) : mg "_law_came" = some (.ref (He.ga K "_law_came")) := T.gl 45
theorem Txt.glo__law_right (T : Txt w K mg) : mg "_law_right" = some (.ref (He.ga K "_law_right")) := T.gl 46
theorem Txt.glo_law (T : Txt w K mg) : mg "law" = some (.ref (He.ga K "law")) := T.gl 47
theorem Txt.glo_Forest (T : Txt w K mg) : mg "Forest" = some (.ref (He.ga K "Forest")) := T.gl 48
theorem Txt.cls_Forest (T : Txt w K mg) : Cls K (He.ga K "Forest") := T.cl 49
theorem Txt.mkr_Forest (T : Txt w K mg) : Mk K (He.ga K "Forest") (He.ma K (He.ga K "Forest") "__init__") := T.mk_ 50
theorem Txt.noat_Forest_parents (T : Txt w K mg) : NoAttr K (He.ga K "Forest") "parents" := T.no 51
theorem Txt.noat_Forest_worths (T : Txt w K mg) : NoAttr K (He.ga K "Forest") "worths" := T.no 52
theorem Txt.glo_Kept (T : Txt w K mg) : mg "Kept" = some (.ref (He.ga K "Kept")) := T.gl 53
theorem Txt.cls_Kept (T : Txt w K mg) : Cls K (He.ga K "Kept") := T.cl 54
theorem Txt.mkr_Kept (T : Txt w K mg) : Mk K (He.ga K "Kept") (He.ma K (He.ga K "Kept") "__init__") := T.mk_ 55
theorem Txt.meth_Kept_begin_with (T : Txt w K mg) : Meth K (He.ga K "Kept") "begin_with" (He.ma K (He.ga K "Kept") "begin_with") := T.me 56
theorem Txt.meth_Kept_deed (T : Txt w K mg) : Meth K (He.ga K "Kept") "deed" (He.ma K (He.ga K "Kept") "deed") := T.me 57
theorem Txt.meth_Kept_ask (T : Txt w K mg) : Meth K (He.ga K "Kept") "ask" (He.ma K (He.ga K "Kept") "ask") := T.me 58
theorem Txt.meth_Kept_take_in (T : Txt w K mg) : Meth K (He.ga K "Kept") "take_in" (He.ma K (He.ga K "Kept") "take_in") := T.me 59
theorem Txt.meth_Kept_spent (T : Txt w K mg) : Meth K (He.ga K "Kept") "spent" (He.ma K (He.ga K "Kept") "spent") := T.me 60
theorem Txt.meth_Kept_copy (T : Txt w K mg) : Meth K (He.ga K "Kept") "copy" (He.ma K (He.ga K "Kept") "copy") := T.me 61
theorem Txt.noat_Kept_now (T : Txt w K mg) : NoAttr K (He.ga K "Kept") "now" := T.no 62
theorem Txt.noat_Kept_first_sum (T : Txt w K mg) : NoAttr K (He.ga K "Kept") "first_sum" := T.no 63
theorem Txt.noat_Kept_told (T : Txt w K mg) : NoAttr K (He.ga K "Kept") "told" := T.no 64
theorem Txt.noat_Kept_linked (T : Txt w K mg) : NoAttr K (He.ga K "Kept") "linked" := T.no 65
theorem Txt.glo_Work (T : Txt w K mg) : mg "Work" = some (.ref (He.ga K "Work")) := T.gl 66
theorem Txt.cls_Work (T : Txt w K mg) : Cls K (He.ga K "Work") := T.cl 67
theorem Txt.mkr_Work (T : Txt w K mg) : Mk K (He.ga K "Work") (He.ma K (He.ga K "Work") "__init__") := T.mk_ 68
theorem Txt.meth_Work_come_to (T : Txt w K mg) : Meth K (He.ga K "Work") "come_to" (He.ma K (He.ga K "Work") "come_to") := T.me 69
theorem Txt.meth_Work_found_root (T : Txt w K mg) : Meth K (He.ga K "Work") "found_root" (He.ma K (He.ga K "Work") "found_root") := T.me 70
theorem Txt.meth_Work_turn_about (T : Txt w K mg) : Meth K (He.ga K "Work") "turn_about" (He.ma K (He.ga K "Work") "turn_about") := T.me 71
theorem Txt.meth_Work_are_joined (T : Txt w K mg) : Meth K (He.ga K "Work") "are_joined" (He.ma K (He.ga K "Work") "are_joined") := T.me 72
theorem Txt.meth_Work_way_values (T : Txt w K mg) : Meth K (He.ga K "Work") "way_values" (He.ma K (He.ga K "Work") "way_values") := T.me 73
theorem Txt.meth_Work_does (T : Txt w K mg) : Meth K (He.ga K "Work") "does" (He.ma K (He.ga K "Work") "does") := T.me 74
theorem Txt.meth_Work_does_link (T : Txt w K mg) : Meth K (He.ga K "Work") "does_link" (He.ma K (He.ga K "Work") "does_link") := T.me 75
theorem Txt.meth_Work_does_cut (T : Txt w K mg) : Meth K (He.ga K "Work") "does_cut" (He.ma K (He.ga K "Work") "does_cut") := T.me 76
theorem Txt.meth_Work_answers (T : Txt w K mg) : Meth K (He.ga K "Work") "answers" (He.ma K (He.ga K "Work") "answers") := T.me 77
theorem Txt.meth_Work_answers_way (T : Txt w K mg) : Meth K (He.ga K "Work") "answers_way" (He.ma K (He.ga K "Work") "answers_way") := T.me 78
theorem Txt.noat_Work_here (T : Txt w K mg) : NoAttr K (He.ga K "Work") "here" := T.no 79
theorem Txt.noat_Work_ranks (T : Txt w K mg) : NoAttr K (He.ga K "Work") "ranks" := T.no 80
theorem Txt.noat_Work_done (T : Txt w K mg) : NoAttr K (He.ga K "Work") "done" := T.no 81
theorem Txt.noat_Work_last_met (T : Txt w K mg) : NoAttr K (He.ga K "Work") "last_met" := T.no 82
theorem Txt.glo_Roads (T : Txt w K mg) : mg "Roads" = some (.ref (He.ga K "Roads")) := T.gl 83
theorem Txt.cls_Roads (T : Txt w K mg) : Cls K (He.ga K "Roads") := T.cl 84
theorem Txt.mkr_Roads (T : Txt w K mg) : Mk K (He.ga K "Roads") (He.ma K (He.ga K "Roads") "__init__") := T.mk_ 85
theorem Txt.meth_Roads_check_house (T : Txt w K mg) : Meth K (He.ga K "Roads") "check_house" (He.ma K (He.ga K "Roads") "check_house") := T.me 86
theorem Txt.meth_Roads_is_tied (T : Txt w K mg) : Meth K (He.ga K "Roads") "is_tied" (He.ma K (He.ga K "Roads") "is_tied") := T.me 87
theorem Txt.meth_Roads_greatest (T : Txt w K mg) : Meth K (He.ga K "Roads") "greatest" (He.ma K (He.ga K "Roads") "greatest") := T.me 88
theorem Txt.meth_Roads_tie_in (T : Txt w K mg) : Meth K (He.ga K "Roads") "tie_in" (He.ma K (He.ga K "Roads") "tie_in") := T.me 89
theorem Txt.meth_Roads_tie_out (T : Txt w K mg) : Meth K (He.ga K "Roads") "tie_out" (He.ma K (He.ga K "Roads") "tie_out") := T.me 90
theorem Txt.meth_Roads_settle_in (T : Txt w K mg) : Meth K (He.ga K "Roads") "settle_in" (He.ma K (He.ga K "Roads") "settle_in") := T.me 91
theorem Txt.meth_Roads_come (T : Txt w K mg) : Meth K (He.ga K "Roads") "come" (He.ma K (He.ga K "Roads") "come") := T.me 92
theorem Txt.meth_Roads_ties (T : Txt w K mg) : Meth K (He.ga K "Roads") "ties" (He.ma K (He.ga K "Roads") "ties") := T.me 93
theorem Txt.meth_Roads_kept (T : Txt w K mg) : Meth K (He.ga K "Roads") "kept" (He.ma K (He.ga K "Roads") "kept") := T.me 94
theorem Txt.meth_Roads_whole (T : Txt w K mg) : Meth K (He.ga K "Roads") "whole" (He.ma K (He.ga K "Roads") "whole") := T.me 95
theorem Txt.meth_Roads_spent (T : Txt w K mg) : Meth K (He.ga K "Roads") "spent" (He.ma K (He.ga K "Roads") "spent") := T.me 96
theorem Txt.meth_Roads_bound (T : Txt w K mg) : Meth K (He.ga K "Roads") "bound" (He.ma K (He.ga K "Roads") "bound") := T.me 97
theorem Txt.meth_Roads_copy (T : Txt w K mg) : Meth K (He.ga K "Roads") "copy" (He.ma K (He.ga K "Roads") "copy") := T.me 98
theorem Txt.noat_Roads_size (T : Txt w K mg) : NoAttr K (He.ga K "Roads") "size" := T.no 99
theorem Txt.noat_Roads_room (T : Txt w K mg) : NoAttr K (He.ga K "Roads") "room" := T.no 100
theorem Txt.noat_Roads_rows (T : Txt w K mg) : NoAttr K (He.ga K "Roads") "rows" := T.no 101
theorem Txt.noat_Roads_left (T : Txt w K mg) : NoAttr K (He.ga K "Roads") "left" := T.no 102
theorem Txt.noat_Roads_web (T : Txt w K mg) : NoAttr K (He.ga K "Roads") "web" := T.no 103
theorem Txt.noat_Roads_calls (T : Txt w K mg) : NoAttr K (He.ga K "Roads") "calls" := T.no 104
theorem Txt.int_MOST_HOUSES_checks (T : Txt w K mg) : ∃ t, mg "MOST_HOUSES_checks" = some (.int (64) t) := T.in_ 105
theorem Txt.str_ROOT (T : Txt w K mg) : ∃ t, mg "ROOT" = some (.str "root" t) := T.st 106
theorem Txt.str_DEPTH (T : Txt w K mg) : ∃ t, mg "DEPTH" = some (.str "depth" t) := T.st 107
theorem Txt.str_JOINED (T : Txt w K mg) : ∃ t, mg "JOINED" = some (.str "joined" t) := T.st 108
theorem Txt.str_COMMON (T : Txt w K mg) : ∃ t, mg "COMMON" = some (.str "common" t) := T.st 109
theorem Txt.str_BELOW (T : Txt w K mg) : ∃ t, mg "BELOW" = some (.str "below" t) := T.st 110
theorem Txt.str_WHOLE (T : Txt w K mg) : ∃ t, mg "WHOLE" = some (.str "whole" t) := T.st 111
theorem Txt.str_WAY (T : Txt w K mg) : ∃ t, mg "WAY" = some (.str "way" t) := T.st 112
theorem Txt.str_WHERE (T : Txt w K mg) : ∃ t, mg "WHERE" = some (.str "where" t) := T.st 113
theorem Txt.str_AT (T : Txt w K mg) : ∃ t, mg "AT" = some (.str "at" t) := T.st 114
theorem Txt.str_REACH (T : Txt w K mg) : ∃ t, mg "REACH" = some (.str "reach" t) := T.st 115
theorem Txt.str_LEAST (T : Txt w K mg) : ∃ t, mg "LEAST" = some (.str "least" t) := T.st 116
theorem Txt.str_GREATEST (T : Txt w K mg) : ∃ t, mg "GREATEST" = some (.str "greatest" t) := T.st 117
theorem Txt.glo_ONES (T : Txt w K mg) : mg "ONES" = some (.ref (He.ga K "ONES")) := T.gl 118
theorem Txt.glo_TWOS (T : Txt w K mg) : mg "TWOS" = some (.ref (He.ga K "TWOS")) := T.gl 119
theorem Txt.glo_MORES (T : Txt w K mg) : mg "MORES" = some (.ref (He.ga K "MORES")) := T.gl 120
theorem Txt.str_LINK (T : Txt w K mg) : ∃ t, mg "LINK" = some (.str "link" t) := T.st 121
theorem Txt.str_CUT (T : Txt w K mg) : ∃ t, mg "CUT" = some (.str "cut" t) := T.st 122
theorem Txt.str_TURN (T : Txt w K mg) : ∃ t, mg "TURN" = some (.str "turn" t) := T.st 123
theorem Txt.str_PUT (T : Txt w K mg) : ∃ t, mg "PUT" = some (.str "put" t) := T.st 124
theorem Txt.str_ADD (T : Txt w K mg) : ∃ t, mg "ADD" = some (.str "add" t) := T.st 125
theorem Txt.glo_SIZES (T : Txt w K mg) : mg "SIZES" = some (.ref (He.ga K "SIZES")) := T.gl 126
theorem Txt.glo_HOUSES (T : Txt w K mg) : mg "HOUSES" = some (.ref (He.ga K "HOUSES")) := T.gl 127
theorem Txt.int_UP (T : Txt w K mg) : ∃ t, mg "UP" = some (.int (0) t) := T.in_ 128
theorem Txt.int_LEFT (T : Txt w K mg) : ∃ t, mg "LEFT" = some (.int (1) t) := T.in_ 129
theorem Txt.int_RIGHT (T : Txt w K mg) : ∃ t, mg "RIGHT" = some (.int (2) t) := T.in_ 130
theorem Txt.int_TURNED (T : Txt w K mg) : ∃ t, mg "TURNED" = some (.int (3) t) := T.in_ 131
theorem Txt.int_ADDED (T : Txt w K mg) : ∃ t, mg "ADDED" = some (.int (4) t) := T.in_ 132
theorem Txt.int_VALUE (T : Txt w K mg) : ∃ t, mg "VALUE" = some (.int (5) t) := T.in_ 133
theorem Txt.int_TIMES (T : Txt w K mg) : ∃ t, mg "TIMES" = some (.int (5) t) := T.in_ 134
theorem Txt.int_MOST_BY_RANK (T : Txt w K mg) : ∃ t, mg "MOST_BY_RANK" = some (.int (30) t) := T.in_ 135
theorem Txt.int_MOST_BESIDE (T : Txt w K mg) : ∃ t, mg "MOST_BESIDE" = some (.int (7) t) := T.in_ 136
theorem Txt.int_MOST_HOUSES_roads (T : Txt w K mg) : ∃ t, mg "MOST_HOUSES_roads" = some (.int (32) t) := T.in_ 137
theorem Txt.int_MOST_ROOM (T : Txt w K mg) : ∃ t, mg "MOST_ROOM" = some (.int (64) t) := T.in_ 138
theorem Txt.int_LEAST_VALUE (T : Txt w K mg) : ∃ t, mg "LEAST_VALUE" = some (.int (-10000000000000000000000000000000000000000) t) := T.in_ 139
theorem Txt.int_STEP (T : Txt w K mg) : ∃ t, mg "STEP" = some (.int (1000) t) := T.in_ 140
theorem Txt.int_FOR_EACH (T : Txt w K mg) : ∃ t, mg "FOR_EACH" = some (.int (40) t) := T.in_ 141
theorem Txt.free_isinstance (T : Txt w K mg) : mg "isinstance" = none := T.fr 142
theorem Txt.free_int (T : Txt w K mg) : mg "int" = none := T.fr 143
theorem Txt.free_bool (T : Txt w K mg) : mg "bool" = none := T.fr 144
theorem Txt.free_tuple (T : Txt w K mg) : mg "tuple" = none := T.fr 145
theorem Txt.free_list (T : Txt w K mg) : mg "list" = none := T.fr 146
theorem Txt.free_str (T : Txt w K mg) : mg "str" = none := T.fr 147
theorem Txt.free_len (T : Txt w K mg) : mg "len" = none := T.fr 148
theorem Txt.free_range (T : Txt w K mg) : mg "range" = none := T.fr 149
theorem Txt.free_all (T : Txt w K mg) : mg "all" = none := T.fr 150
theorem Txt.free_zip (T : Txt w K mg) : mg "zip" = none := T.fr 151
theorem Txt.free_enumerate (T : Txt w K mg) : mg "enumerate" = none := T.fr 152
theorem Txt.free_sum (T : Txt w K mg) : mg "sum" = none := T.fr 153
theorem Txt.free_min (T : Txt w K mg) : mg "min" = none := T.fr 154
theorem Txt.free_max (T : Txt w K mg) : mg "max" = none := T.fr 155
theorem Txt.free_sorted (T : Txt w K mg) : mg "sorted" = none := T.fr 156
theorem Txt.free_dict (T : Txt w K mg) : mg "dict" = none := T.fr 157
theorem Txt.free_abs (T : Txt w K mg) : mg "abs" = none := T.fr 158
theorem Txt.fn_is_integer (T : Txt w K mg) : ∃ fd, FunD K "is_integer" "is_integer" (defArgs s_is_integer) (defBody s_is_integer) (defScope s_is_integer) [] [] (He.ga K "is_integer") fd := T.fn 0
theorem Txt.fn_is_within (T : Txt w K mg) : ∃ fd, FunD K "is_within" "is_within" (defArgs s_is_within) (defBody s_is_within) (defScope s_is_within) [] [] (He.ga K "is_within") fd := T.fn 1
theorem Txt.fn_is_below (T : Txt w K mg) : ∃ fd, FunD K "is_below" "is_below" (defArgs s_is_below) (defBody s_is_below) (defScope s_is_below) [] [] (He.ga K "is_below") fd := T.fn 2
theorem Txt.fn_is_sized (T : Txt w K mg) : ∃ fd, FunD K "is_sized" "is_sized" (defArgs s_is_sized) (defBody s_is_sized) (defScope s_is_sized) [] [] (He.ga K "is_sized") fd := T.fn 3
theorem Txt.fn_check_within (T : Txt w K mg) : ∃ fd, FunD K "check_within" "check_within" (defArgs s_check_within) (defBody s_check_within) (defScope s_check_within) [] [] (He.ga K "check_within") fd := T.fn 4
theorem Txt.fn_replaced (T : Txt w K mg) : ∃ fd, FunD K "replaced" "replaced" (defArgs s_replaced) (defBody s_replaced) (defScope s_replaced) [] [] (He.ga K "replaced") fd := T.fn 5
theorem Txt.fn_comes_to_none (T : Txt w K mg) : ∃ fd, FunD K "comes_to_none" "comes_to_none" (defArgs s_comes_to_none) (defBody s_comes_to_none) (defScope s_comes_to_none) [] [] (He.ga K "comes_to_none") fd := T.fn 6
theorem Txt.fn_are_parents (T : Txt w K mg) : ∃ fd, FunD K "are_parents" "are_parents" (defArgs s_are_parents) (defBody s_are_parents) (defScope s_are_parents) [] [] (He.ga K "are_parents") fd := T.fn 7
theorem Txt.fn_is_more (T : Txt w K mg) : ∃ fd, FunD K "is_more" "is_more" (defArgs s_is_more) (defBody s_is_more) (defScope s_is_more) [] [] (He.ga K "is_more") fd := T.fn 8
theorem Txt.fn_has_form_asks (T : Txt w K mg) : ∃ fd, FunD K "has_form" "has_form" (defArgs s_has_form_asks) (defBody s_has_form_asks) (defScope s_has_form_asks) [] [] (He.ga K "has_form_asks") fd := T.fn 9
theorem Txt.fn_place_of (T : Txt w K mg) : ∃ fd, FunD K "place_of" "place_of" (defArgs s_place_of) (defBody s_place_of) (defScope s_place_of) [] [] (He.ga K "place_of") fd := T.fn 10
theorem Txt.fn_on_way (T : Txt w K mg) : ∃ fd, FunD K "on_way" "on_way" (defArgs s_on_way) (defBody s_on_way) (defScope s_on_way) [] [] (He.ga K "on_way") fd := T.fn 11
theorem Txt.fn_has_form_deeds (T : Txt w K mg) : ∃ fd, FunD K "has_form" "has_form" (defArgs s_has_form_deeds) (defBody s_has_form_deeds) (defScope s_has_form_deeds) [] [] (He.ga K "has_form_deeds") fd := T.fn 12
theorem Txt.fn_sons_of (T : Txt w K mg) : ∃ fd, FunD K "sons_of" "sons_of" (defArgs s_sons_of) (defBody s_sons_of) (defScope s_sons_of) [] [] (He.ga K "sons_of") fd := T.fn 13
theorem Txt.fn_is_son (T : Txt w K mg) : ∃ fd, FunD K "is_son" "is_son" (defArgs s_is_son) (defBody s_is_son) (defScope s_is_son) [] [] (He.ga K "is_son") fd := T.fn 14
theorem Txt.fn_order_from (T : Txt w K mg) : ∃ fd, FunD K "order_from" "order_from" (defArgs s_order_from) (defBody s_order_from) (defScope s_order_from) [] [] (He.ga K "order_from") fd := T.fn 15
theorem Txt.fn_row_from (T : Txt w K mg) : ∃ fd, FunD K "row_from" "row_from" (defArgs s_row_from) (defBody s_row_from) (defScope s_row_from) [] [] (He.ga K "row_from") fd := T.fn 16
theorem Txt.fn_all_rows (T : Txt w K mg) : ∃ fd, FunD K "all_rows" "all_rows" (defArgs s_all_rows) (defBody s_all_rows) (defScope s_all_rows) [] [] (He.ga K "all_rows") fd := T.fn 17
theorem Txt.fn_told_value (T : Txt w K mg) : ∃ fd, FunD K "told_value" "told_value" (defArgs s_told_value) (defBody s_told_value) (defScope s_told_value) [] [] (He.ga K "told_value") fd := T.fn 18
theorem Txt.fn_forest_of (T : Txt w K mg) : ∃ fd, FunD K "forest_of" "forest_of" (defArgs s_forest_of) (defBody s_forest_of) (defScope s_forest_of) [] [] (He.ga K "forest_of") fd := T.fn 19
theorem Txt.fn_resting (T : Txt w K mg) : ∃ fd, FunD K "resting" "resting" (defArgs s_resting) (defBody s_resting) (defScope s_resting) [] [] (He.ga K "resting") fd := T.fn 20
theorem Txt.fn_rank_of (T : Txt w K mg) : ∃ fd, FunD K "rank_of" "rank_of" (defArgs s_rank_of) (defBody s_rank_of) (defScope s_rank_of) [] [] (He.ga K "rank_of") fd := T.fn 21
theorem Txt.fn_all_weights (T : Txt w K mg) : ∃ fd, FunD K "all_weights" "all_weights" (defArgs s_all_weights) (defBody s_all_weights) (defScope s_all_weights) [] [] (He.ga K "all_weights") fd := T.fn 22
theorem Txt.fn_sum_of_ranks (T : Txt w K mg) : ∃ fd, FunD K "sum_of_ranks" "sum_of_ranks" (defArgs s_sum_of_ranks) (defBody s_sum_of_ranks) (defScope s_sum_of_ranks) [] [] (He.ga K "sum_of_ranks") fd := T.fn 23
theorem Txt.fn_changed (T : Txt w K mg) : ∃ fd, FunD K "changed" "changed" (defArgs s_changed) (defBody s_changed) (defScope s_changed) [] [] (He.ga K "changed") fd := T.fn 24
theorem Txt.fn_with_more (T : Txt w K mg) : ∃ fd, FunD K "with_more" "with_more" (defArgs s_with_more) (defBody s_with_more) (defScope s_with_more) [] [] (He.ga K "with_more") fd := T.fn 25
theorem Txt.fn_after_handing (T : Txt w K mg) : ∃ fd, FunD K "after_handing" "after_handing" (defArgs s_after_handing) (defBody s_after_handing) (defScope s_after_handing) [] [] (He.ga K "after_handing") fd := T.fn 26
theorem Txt.fn_side_of (T : Txt w K mg) : ∃ fd, FunD K "side_of" "side_of" (defArgs s_side_of) (defBody s_side_of) (defScope s_side_of) [] [] (He.ga K "side_of") fd := T.fn 27
theorem Txt.fn_after_turn (T : Txt w K mg) : ∃ fd, FunD K "after_turn" "after_turn" (defArgs s_after_turn) (defBody s_after_turn) (defScope s_after_turn) [] [] (He.ga K "after_turn") fd := T.fn 28
theorem Txt.fn_down_to (T : Txt w K mg) : ∃ fd, FunD K "down_to" "down_to" (defArgs s_down_to) (defBody s_down_to) (defScope s_down_to) [] [] (He.ga K "down_to") fd := T.fn 29
theorem Txt.fn_after_step (T : Txt w K mg) : ∃ fd, FunD K "after_step" "after_step" (defArgs s_after_step) (defBody s_after_step) (defScope s_after_step) [] [] (He.ga K "after_step") fd := T.fn 30
theorem Txt.fn_to_top (T : Txt w K mg) : ∃ fd, FunD K "to_top" "to_top" (defArgs s_to_top) (defBody s_to_top) (defScope s_to_top) [] [] (He.ga K "to_top") fd := T.fn 31
theorem Txt.fn_met_from (T : Txt w K mg) : ∃ fd, FunD K "met_from" "met_from" (defArgs s_met_from) (defBody s_met_from) (defScope s_met_from) [] [] (He.ga K "met_from") fd := T.fn 32
theorem Txt.fn_spliced (T : Txt w K mg) : ∃ fd, FunD K "spliced" "spliced" (defArgs s_spliced) (defBody s_spliced) (defScope s_spliced) [] [] (He.ga K "spliced") fd := T.fn 33
theorem Txt.fn_after_reaching (T : Txt w K mg) : ∃ fd, FunD K "after_reaching" "after_reaching" (defArgs s_after_reaching) (defBody s_after_reaching) (defScope s_after_reaching) [] [] (He.ga K "after_reaching") fd := T.fn 34
theorem Txt.fn_left_most (T : Txt w K mg) : ∃ fd, FunD K "left_most" "left_most" (defArgs s_left_most) (defBody s_left_most) (defScope s_left_most) [] [] (He.ga K "left_most") fd := T.fn 35
theorem Txt.fn_kept_from (T : Txt w K mg) : ∃ fd, FunD K "kept_from" "kept_from" (defArgs s_kept_from) (defBody s_kept_from) (defScope s_kept_from) [] [] (He.ga K "kept_from") fd := T.fn 36
theorem Txt.fn_rank_number (T : Txt w K mg) : ∃ fd, FunD K "rank_number" "rank_number" (defArgs s_rank_number) (defBody s_rank_number) (defScope s_rank_number) [] [] (He.ga K "rank_number") fd := T.fn 37
theorem Txt.fn__law_draw (T : Txt w K mg) : ∃ fd, FunD K "_law_draw" "_law_draw" (defArgs s__law_draw) (defBody s__law_draw) (defScope s__law_draw) [] [] (He.ga K "_law_draw") fd := T.fn 38
theorem Txt.fn__law_weight (T : Txt w K mg) : ∃ fd, FunD K "_law_weight" "_law_weight" (defArgs s__law_weight) (defBody s__law_weight) (defScope s__law_weight) [] [] (He.ga K "_law_weight") fd := T.fn 39
theorem Txt.fn__law_parts_by (T : Txt w K mg) : ∃ fd, FunD K "_law_parts_by" "_law_parts_by" (defArgs s__law_parts_by) (defBody s__law_parts_by) (defScope s__law_parts_by) [] [] (He.ga K "_law_parts_by") fd := T.fn 40
theorem Txt.fn__law_least (T : Txt w K mg) : ∃ fd, FunD K "_law_least" "_law_least" (defArgs s__law_least) (defBody s__law_least) (defScope s__law_least) [] [] (He.ga K "_law_least") fd := T.fn 41
theorem Txt.fn__law_is (T : Txt w K mg) : ∃ fd, FunD K "_law_is" "_law_is" (defArgs s__law_is) (defBody s__law_is) (defScope s__law_is) [] [] (He.ga K "_law_is") fd := T.fn 42
theorem Txt.fn__law_hand (T : Txt w K mg) : ∃ fd, FunD K "_law_hand" "_law_hand" (defArgs s__law_hand) (defBody s__law_hand) (defScope s__law_hand) [] [] (He.ga K "_law_hand") fd := T.fn 43
theorem Txt.fn__law_size (T : Txt w K mg) : ∃ fd, FunD K "_law_size" "_law_size" (defArgs s__law_size) (defBody s__law_size) (defScope s__law_size) [] [] (He.ga K "_law_size") fd := T.fn 44
theorem Txt.fn__law_came (T : Txt w K mg) : ∃ fd, FunD K "_law_came" "_law_came" (defArgs s__law_came) (defBody s__law_came) (defScope s__law_came) [] [] (He.ga K "_law_came") fd := T.fn 45
theorem Txt.fn__law_right (T : Txt w K mg) : ∃ fd, FunD K "_law_right" "_law_right" (defArgs s__law_right) (defBody s__law_right) (defScope s__law_right) [] [] (He.ga K "_law_right") fd := T.fn 46
theorem Txt.fn_law (T : Txt w K mg) : ∃ fd, FunD K "law" "law" (defArgs s_law) (defBody s_law) (defScope s_law) [] [] (He.ga K "law") fd := T.fn 47
theorem Txt.fn_Forest___init__ (T : Txt w K mg) : ∃ fd, FunD K "__init__" "Forest.__init__" (defArgs s_Forest___init__) (defBody s_Forest___init__) (defScope s_Forest___init__) [] [] (He.ma K (He.ga K "Forest") "__init__") fd := T.fn 48
theorem Txt.fn_Kept___init__ (T : Txt w K mg) : ∃ fd, FunD K "__init__" "Kept.__init__" (defArgs s_Kept___init__) (defBody s_Kept___init__) (defScope s_Kept___init__) [] [] (He.ma K (He.ga K "Kept") "__init__") fd := T.fn 49
theorem Txt.fn_Kept_begin_with (T : Txt w K mg) : ∃ fd, FunD K "begin_with" "Kept.begin_with" (defArgs s_Kept_begin_with) (defBody s_Kept_begin_with) (defScope s_Kept_begin_with) [] [] (He.ma K (He.ga K "Kept") "begin_with") fd := T.fn 50
theorem Txt.fn_Kept_deed (T : Txt w K mg) : ∃ fd, FunD K "deed" "Kept.deed" (defArgs s_Kept_deed) (defBody s_Kept_deed) (defScope s_Kept_deed) [] [] (He.ma K (He.ga K "Kept") "deed") fd := T.fn 51
theorem Txt.fn_Kept_ask (T : Txt w K mg) : ∃ fd, FunD K "ask" "Kept.ask" (defArgs s_Kept_ask) (defBody s_Kept_ask) (defScope s_Kept_ask) [] [] (He.ma K (He.ga K "Kept") "ask") fd := T.fn 52
theorem Txt.fn_Kept_take_in (T : Txt w K mg) : ∃ fd, FunD K "take_in" "Kept.take_in" (defArgs s_Kept_take_in) (defBody s_Kept_take_in) (defScope s_Kept_take_in) [] [] (He.ma K (He.ga K "Kept") "take_in") fd := T.fn 53
theorem Txt.fn_Kept_spent (T : Txt w K mg) : ∃ fd, FunD K "spent" "Kept.spent" (defArgs s_Kept_spent) (defBody s_Kept_spent) (defScope s_Kept_spent) [] [] (He.ma K (He.ga K "Kept") "spent") fd := T.fn 54
theorem Txt.fn_Kept_copy (T : Txt w K mg) : ∃ fd, FunD K "copy" "Kept.copy" (defArgs s_Kept_copy) (defBody s_Kept_copy) (defScope s_Kept_copy) [] [] (He.ma K (He.ga K "Kept") "copy") fd := T.fn 55
theorem Txt.fn_Work___init__ (T : Txt w K mg) : ∃ fd, FunD K "__init__" "Work.__init__" (defArgs s_Work___init__) (defBody s_Work___init__) (defScope s_Work___init__) [] [] (He.ma K (He.ga K "Work") "__init__") fd := T.fn 56
theorem Txt.fn_Work_come_to (T : Txt w K mg) : ∃ fd, FunD K "come_to" "Work.come_to" (defArgs s_Work_come_to) (defBody s_Work_come_to) (defScope s_Work_come_to) [] [] (He.ma K (He.ga K "Work") "come_to") fd := T.fn 57
theorem Txt.fn_Work_found_root (T : Txt w K mg) : ∃ fd, FunD K "found_root" "Work.found_root" (defArgs s_Work_found_root) (defBody s_Work_found_root) (defScope s_Work_found_root) [] [] (He.ma K (He.ga K "Work") "found_root") fd := T.fn 58
theorem Txt.fn_Work_turn_about (T : Txt w K mg) : ∃ fd, FunD K "turn_about" "Work.turn_about" (defArgs s_Work_turn_about) (defBody s_Work_turn_about) (defScope s_Work_turn_about) [] [] (He.ma K (He.ga K "Work") "turn_about") fd := T.fn 59
theorem Txt.fn_Work_are_joined (T : Txt w K mg) : ∃ fd, FunD K "are_joined" "Work.are_joined" (defArgs s_Work_are_joined) (defBody s_Work_are_joined) (defScope s_Work_are_joined) [] [] (He.ma K (He.ga K "Work") "are_joined") fd := T.fn 60
theorem Txt.fn_Work_way_values (T : Txt w K mg) : ∃ fd, FunD K "way_values" "Work.way_values" (defArgs s_Work_way_values) (defBody s_Work_way_values) (defScope s_Work_way_values) [] [] (He.ma K (He.ga K "Work") "way_values") fd := T.fn 61
theorem Txt.fn_Work_does (T : Txt w K mg) : ∃ fd, FunD K "does" "Work.does" (defArgs s_Work_does) (defBody s_Work_does) (defScope s_Work_does) [] [] (He.ma K (He.ga K "Work") "does") fd := T.fn 62
theorem Txt.fn_Work_does_link (T : Txt w K mg) : ∃ fd, FunD K "does_link" "Work.does_link" (defArgs s_Work_does_link) (defBody s_Work_does_link) (defScope s_Work_does_link) [] [] (He.ma K (He.ga K "Work") "does_link") fd := T.fn 63
theorem Txt.fn_Work_does_cut (T : Txt w K mg) : ∃ fd, FunD K "does_cut" "Work.does_cut" (defArgs s_Work_does_cut) (defBody s_Work_does_cut) (defScope s_Work_does_cut) [] [] (He.ma K (He.ga K "Work") "does_cut") fd := T.fn 64
theorem Txt.fn_Work_answers (T : Txt w K mg) : ∃ fd, FunD K "answers" "Work.answers" (defArgs s_Work_answers) (defBody s_Work_answers) (defScope s_Work_answers) [] [] (He.ma K (He.ga K "Work") "answers") fd := T.fn 65
theorem Txt.fn_Work_answers_way (T : Txt w K mg) : ∃ fd, FunD K "answers_way" "Work.answers_way" (defArgs s_Work_answers_way) (defBody s_Work_answers_way) (defScope s_Work_answers_way) [] [] (He.ma K (He.ga K "Work") "answers_way") fd := T.fn 66
theorem Txt.fn_Roads___init__ (T : Txt w K mg) : ∃ fd, FunD K "__init__" "Roads.__init__" (defArgs s_Roads___init__) (defBody s_Roads___init__) (defScope s_Roads___init__) [] [] (He.ma K (He.ga K "Roads") "__init__") fd := T.fn 67
theorem Txt.fn_Roads_check_house (T : Txt w K mg) : ∃ fd, FunD K "check_house" "Roads.check_house" (defArgs s_Roads_check_house) (defBody s_Roads_check_house) (defScope s_Roads_check_house) [] [] (He.ma K (He.ga K "Roads") "check_house") fd := T.fn 68
theorem Txt.fn_Roads_is_tied (T : Txt w K mg) : ∃ fd, FunD K "is_tied" "Roads.is_tied" (defArgs s_Roads_is_tied) (defBody s_Roads_is_tied) (defScope s_Roads_is_tied) [] [] (He.ma K (He.ga K "Roads") "is_tied") fd := T.fn 69
theorem Txt.fn_Roads_greatest (T : Txt w K mg) : ∃ fd, FunD K "greatest" "Roads.greatest" (defArgs s_Roads_greatest) (defBody s_Roads_greatest) (defScope s_Roads_greatest) [] [] (He.ma K (He.ga K "Roads") "greatest") fd := T.fn 70
theorem Txt.fn_Roads_tie_in (T : Txt w K mg) : ∃ fd, FunD K "tie_in" "Roads.tie_in" (defArgs s_Roads_tie_in) (defBody s_Roads_tie_in) (defScope s_Roads_tie_in) [] [] (He.ma K (He.ga K "Roads") "tie_in") fd := T.fn 71
theorem Txt.fn_Roads_tie_out (T : Txt w K mg) : ∃ fd, FunD K "tie_out" "Roads.tie_out" (defArgs s_Roads_tie_out) (defBody s_Roads_tie_out) (defScope s_Roads_tie_out) [] [] (He.ma K (He.ga K "Roads") "tie_out") fd := T.fn 72
theorem Txt.fn_Roads_settle_in (T : Txt w K mg) : ∃ fd, FunD K "settle_in" "Roads.settle_in" (defArgs s_Roads_settle_in) (defBody s_Roads_settle_in) (defScope s_Roads_settle_in) [] [] (He.ma K (He.ga K "Roads") "settle_in") fd := T.fn 73
theorem Txt.fn_Roads_come (T : Txt w K mg) : ∃ fd, FunD K "come" "Roads.come" (defArgs s_Roads_come) (defBody s_Roads_come) (defScope s_Roads_come) [] [] (He.ma K (He.ga K "Roads") "come") fd := T.fn 74
theorem Txt.fn_Roads_ties (T : Txt w K mg) : ∃ fd, FunD K "ties" "Roads.ties" (defArgs s_Roads_ties) (defBody s_Roads_ties) (defScope s_Roads_ties) [] [] (He.ma K (He.ga K "Roads") "ties") fd := T.fn 75
theorem Txt.fn_Roads_kept (T : Txt w K mg) : ∃ fd, FunD K "kept" "Roads.kept" (defArgs s_Roads_kept) (defBody s_Roads_kept) (defScope s_Roads_kept) [] [] (He.ma K (He.ga K "Roads") "kept") fd := T.fn 76
theorem Txt.fn_Roads_whole (T : Txt w K mg) : ∃ fd, FunD K "whole" "Roads.whole" (defArgs s_Roads_whole) (defBody s_Roads_whole) (defScope s_Roads_whole) [] [] (He.ma K (He.ga K "Roads") "whole") fd := T.fn 77
theorem Txt.fn_Roads_spent (T : Txt w K mg) : ∃ fd, FunD K "spent" "Roads.spent" (defArgs s_Roads_spent) (defBody s_Roads_spent) (defScope s_Roads_spent) [] [] (He.ma K (He.ga K "Roads") "spent") fd := T.fn 78
theorem Txt.fn_Roads_bound (T : Txt w K mg) : ∃ fd, FunD K "bound" "Roads.bound" (defArgs s_Roads_bound) (defBody s_Roads_bound) (defScope s_Roads_bound) [] [] (He.ma K (He.ga K "Roads") "bound") fd := T.fn 79
theorem Txt.fn_Roads_copy (T : Txt w K mg) : ∃ fd, FunD K "copy" "Roads.copy" (defArgs s_Roads_copy) (defBody s_Roads_copy) (defScope s_Roads_copy) [] [] (He.ma K (He.ga K "Roads") "copy") fd := T.fn 80
end
end G3
set_option Elab.async false
set_option linter.all false
set_option maxRecDepth 100000
set_option maxHeartbeats 4000000
/-! Short rules of our own; checks. -/
namespace G3
open PySem PySem.Spec PyProof.Rows L2

/-! ### a def, a method, a maker, by its promise -/
structure OkF (P : Program) (w : World) (K : PySem.W.Frag) (mg : Str → Option Value) (base : Heap) (k : Nat) (x : Str) (ps : List Str) (sp : Sp) : Prop where
  ex : ∃ f fd, FnOk P w K mg base CX0 k f fd ps sp ∧ mg x = some (.ref f) ∧ PySem.W.keepIn K (.ref f) = true ∧ Binds K fd ps []
structure OkM (P : Program) (w : World) (K : PySem.W.Frag) (mg : Str → Option Value) (base : Heap) (k : Nat) (C m : Str) (ps : List Str) (sp : Sp) : Prop where
  ex : ∃ f fd, FnOk P w K mg base CX0 k f fd ps sp ∧ Meth K (He.ga K C) m f ∧ Cls K (He.ga K C) ∧ Binds K fd ps []
structure OkI (P : Program) (w : World) (K : PySem.W.Frag) (mg : Str → Option Value) (base : Heap) (k : Nat) (C : Str) (ps : List Str) (sp : Sp) : Prop where
  ex : ∃ f fd, FnOk P w K mg base CX0 k f fd ps sp ∧ Mk K (He.ga K C) f ∧ mg C = some (.ref (He.ga K C)) ∧ Binds K fd ps []
section
variable {P : Program} {w : World} {K : PySem.W.Frag} {mg : Str → Option Value} {base : Heap}
theorem fnok {nm qual : Str} {st : Stmt} {N ps : List Str} {k : Nat} {sp : Sp} {f : Addr} {fd : FuncData} (F : FunD K nm qual (defArgs st) (defBody st) (defScope st) [] [] f fd) (S : FnScope N ps (defScope st)) (len : ∀ vs H Q E, sp vs H Q E → vs.length = ps.length)
    (hbody : ∀ (cdv : Value) (A : Around) (outer : List Env) (s : Shared) (H : Hp) (vs : List V) (Q : VK) (E : XK), Room k (A.deeper (envOfC qual (defScope st) s.heap.objs.size f cdv)) → sp vs H Q E →
      ∃ t, PSs (cxOf CX0 P w K mg base N qual (defScope st) f cdv A outer s H E).nox (defBody st) t ∧ t { nx := fun _ H' => Q .non H', rt := Q } (start N vs) H) : FnOk P w K mg base CX0 (k + 1) f fd ps sp := by
  refine F.ok S len fun cdv A outer s H vs Q E hr h => ?_
  obtain ⟨t, a, b⟩ := hbody cdv A outer s H vs Q E hr h
  exact ⟨t, a.nox, b⟩
theorem okf {x nm qual : Str} {st : Stmt} {N ps : List Str} {k : Nat} {sp : Sp} {f : Addr} (gl : mg x = some (.ref f)) (hF : ∃ fd, FunD K nm qual (defArgs st) (defBody st) (defScope st) [] [] f fd) (S : FnScope N ps (defScope st))
    (hb : ∀ (kV doc pm : Value) (an : Option Addr) (cdv ct : Value) (us : List Value), us.length = ps.length → bindArgs (PySem.W.fnOf nm qual (defArgs st) (defBody st) (defScope st) .none kV doc pm an cdv ct) ⟨us, []⟩ = pure (ps.zip us))
    (len : ∀ vs H Q E, sp vs H Q E → vs.length = ps.length)
    (hbody : ∀ (cdv : Value) (A : Around) (outer : List Env) (s : Shared) (H : Hp) (vs : List V) (Q : VK) (E : XK), Room k (A.deeper (envOfC qual (defScope st) s.heap.objs.size f cdv)) → sp vs H Q E →
      ∃ t, PSs (cxOf CX0 P w K mg base N qual (defScope st) f cdv A outer s H E).nox (defBody st) t ∧ t { nx := fun _ H' => Q .non H', rt := Q } (start N vs) H) : OkF P w K mg base (k + 1) x ps sp := by
  obtain ⟨fd, F⟩ := hF
  exact ⟨f, fd, fnok F S len hbody, gl, F.kp, F.bindsN hb⟩
theorem okm {C m qual : Str} {st : Stmt} {N ps : List Str} {k : Nat} {sp : Sp} {f : Addr} (me : Meth K (He.ga K C) m f) (cl : Cls K (He.ga K C)) (hF : ∃ fd, FunD K m qual (defArgs st) (defBody st) (defScope st) [] [] f fd) (S : FnScope N ps (defScope st))
    (hb : ∀ (kV doc pm : Value) (an : Option Addr) (cdv ct : Value) (us : List Value), us.length = ps.length → bindArgs (PySem.W.fnOf m qual (defArgs st) (defBody st) (defScope st) .none kV doc pm an cdv ct) ⟨us, []⟩ = pure (ps.zip us))
    (len : ∀ vs H Q E, sp vs H Q E → vs.length = ps.length)
    (hbody : ∀ (cdv : Value) (A : Around) (outer : List Env) (s : Shared) (H : Hp) (vs : List V) (Q : VK) (E : XK), Room k (A.deeper (envOfC qual (defScope st) s.heap.objs.size f cdv)) → sp vs H Q E →
      ∃ t, PSs (cxOf CX0 P w K mg base N qual (defScope st) f cdv A outer s H E).nox (defBody st) t ∧ t { nx := fun _ H' => Q .non H', rt := Q } (start N vs) H) : OkM P w K mg base (k + 1) C m ps sp := by
  obtain ⟨fd, F⟩ := hF
  exact ⟨f, fd, fnok F S len hbody, me, cl, F.bindsN hb⟩
theorem oki {C qual : Str} {st : Stmt} {N ps : List Str} {k : Nat} {sp : Sp} {f : Addr} (mk : Mk K (He.ga K C) f) (gl : mg C = some (.ref (He.ga K C))) (hF : ∃ fd, FunD K "__init__" qual (defArgs st) (defBody st) (defScope st) [] [] f fd) (S : FnScope N ps (defScope st))
    (hb : ∀ (kV doc pm : Value) (an : Option Addr) (cdv ct : Value) (us : List Value), us.length = ps.length → bindArgs (PySem.W.fnOf "__init__" qual (defArgs st) (defBody st) (defScope st) .none kV doc pm an cdv ct) ⟨us, []⟩ = pure (ps.zip us))
    (len : ∀ vs H Q E, sp vs H Q E → vs.length = ps.length)
    (hbody : ∀ (cdv : Value) (A : Around) (outer : List Env) (s : Shared) (H : Hp) (vs : List V) (Q : VK) (E : XK), Room k (A.deeper (envOfC qual (defScope st) s.heap.objs.size f cdv)) → sp vs H Q E →
      ∃ t, PSs (cxOf CX0 P w K mg base N qual (defScope st) f cdv A outer s H E).nox (defBody st) t ∧ t { nx := fun _ H' => Q .non H', rt := Q } (start N vs) H) : OkI P w K mg base (k + 1) C ps sp := by
  obtain ⟨fd, F⟩ := hF
  exact ⟨f, fd, fnok F S len hbody, mk, gl, F.bindsN hb⟩
end
section
variable {X : Cx} {x : Str} {pos : Pos}
theorem gi {z : Int} (h : ∃ t, X.mg x = some (.int z t)) (hg : Gl X x := by rfl) (hd : (x == ("__debug__" : Str)) = false := by decide) : PE X (.Name x pos) (tC (.int z)) := by
  obtain ⟨t, m⟩ := h
  exact pe_glob hg m ⟨t, rfl⟩ hd
theorem gs {z : Str} (h : ∃ t, X.mg x = some (.str z t)) (hg : Gl X x := by rfl) (hd : (x == ("__debug__" : Str)) = false := by decide) : PE X (.Name x pos) (tC (.str z)) := by
  obtain ⟨t, m⟩ := h
  exact pe_glob hg m ⟨t, rfl⟩ hd
theorem gr {a : Addr} (h : X.mg x = some (.ref a)) (hg : Gl X x := by rfl) (hd : (x == ("__debug__" : Str)) = false := by decide) : PE X (.Name x pos) (tC (.ref a)) := pe_glob hg h rfl hd
/-- a built-in class as a value -/
theorem gt {T : String} (h : X.mg x = none) (hv : bootBuiltins x = some (.type T)) (hg : Gl X x := by rfl) (hn : x ≠ "__name__" := by decide) (hd : (x == ("__debug__" : Str)) = false := by decide) : PE X (.Name x pos) (tC (.ty T)) := pe_bltn hg h hv rfl hn hd
end

/-! ### heaps -/
theorem same_upd {H : Hp} {p : Addr} {o : HO} (h : H p = none) : Same H (upd H p o) := fun b x e => by
  rw [upd_ne (ne_of_none e h)]
  exact e
theorem same_t {K : PySem.W.Frag} {H H' : Hp} {a : Addr} {xs : List V} (e : Same H H') (h : SqT K H a xs) : SqT K H' a xs := by
  rcases h with (h | ⟨o, h⟩) | h
  · exact .inl (.inl (e _ _ h))
  · exact .inl (.inr ⟨o, e _ _ h⟩)
  · exact .inr h

/-! ### checks -/
section
variable {P : Program} {w : World} {K : PySem.W.Frag} {mg : Str → Option Value} {base : Heap}
/-- an integer -/
def spInt : Sp := fun vs H Q _ => ∃ (x : V), vs = [x] ∧ ((∃ i, x = .int i ∧ Q (.bl true) H) ∨ (∃ b, x = .bl b ∧ Q (.bl false) H))
theorem sc_is_integer : FnScope ["thing"] ["thing"] (defScope s_is_integer) := ⟨rfl, rfl, rfl, by decide +kernel, rfl, by decide +kernel, by decide +kernel⟩
theorem ok_is_integer (T : Txt w K mg) : OkF P w K mg base 1 "is_integer" ["thing"] (fun vs H Q _ => ∃ i : Int, vs = [.int i] ∧ Q (.bl true) H) := by
  refine okf T.glo_is_integer T.fn_is_integer sc_is_integer (fun _ _ _ _ _ _ us hl => match us, hl with | [_], _ => rfl) (fun vs H Q E h => ?_) (fun cdv A outer s H vs Q E hr h => ?_)
  · obtain ⟨i, rfl, _⟩ := h; rfl
  · obtain ⟨i, rfl, q⟩ := h
    refine ⟨_, pss_one (ps_ret (pe_and (pe_callB call_isi (by rfl) T.free_isinstance (by decide +kernel) (pa_cons (pv 0) (pa_cons (gt (T := "int") T.free_int (by decide +kernel)) pa_nil)))
      (pe_one (pe_not (pe_callB call_isi (by rfl) T.free_isinstance (by decide +kernel) (pa_cons (pv 0) (pa_cons (gt (T := "bool") T.free_bool (by decide +kernel)) pa_nil))))))), ?_⟩
    refine ⟨_, rfl, _, _, _, _, true, rfl, .ty "int", .base (.int i), kit_ty (by decide +kernel), true, rfl, iteT ?_⟩
    exact ⟨_, rfl, _, _, _, _, false, rfl, .ty "bool", .base (.int i), kit_ty (by decide +kernel), false, rfl, q⟩
end
end G3
set_option Elab.async false
set_option linter.all false
set_option maxRecDepth 100000
set_option maxHeartbeats 4000000
/-! Checks, replaced. -/
namespace G3
open PySem PySem.Spec PyProof.Rows L2
theorem cut_to (xs : List V) (n : Nat) (h : n ≤ xs.length) : cutV xs none (some (n : Int)) = xs.take n := by
  unfold cutV
  rw [HT.sIx_nat, HT.sIx_none]
  simp [Nat.min_eq_left h]
theorem cut_from (xs : List V) (n : Nat) (h : n ≤ xs.length) : cutV xs (some (n : Int)) none = xs.drop n := by
  unfold cutV
  rw [HT.sIx_nat, HT.sIx_none, Nat.min_eq_left h]
  exact List.take_of_length_le (by simp)
theorem cut_mid (xs : List V) (a b : Nat) (hb : b ≤ xs.length) (ha : a ≤ b) : cutV xs (some (a : Int)) (some (b : Int)) = (xs.drop a).take (b - a) := by
  unfold cutV
  rw [HT.sIx_nat, HT.sIx_nat, Nat.min_eq_left hb, Nat.min_eq_left (Nat.le_trans ha hb)]
theorem le_line {n : Nat} (h : n ≤ 1000) : n ≤ sizeLine := Nat.le_of_lt (small1000 h)
section
variable {P : Program} {w : World} {K : PySem.W.Frag} {mg : Str → Option Value} {base : Heap}
def spWithin : Sp := fun vs H Q _ => ∃ i a b : Int, vs = [.int i, .int a, .int b] ∧ Q (.bl (decide (a ≤ i ∧ i ≤ b))) H
theorem sc_is_within : FnScope ["thing", "least", "most"] ["thing", "least", "most"] (defScope s_is_within) := ⟨rfl, rfl, rfl, by decide +kernel, rfl, by decide +kernel, by decide +kernel⟩
theorem ok_is_within (T : Txt w K mg) : OkF P w K mg base 2 "is_within" ["thing", "least", "most"] spWithin := by
  obtain ⟨fI, dI, GI, mI, kI, bI⟩ := (ok_is_integer (P := P) (base := base) T).ex
  refine okf T.glo_is_within T.fn_is_within sc_is_within (fun _ _ _ _ _ _ us hl => match us, hl with | [_, _, _], _ => rfl) (fun vs H Q E h => ?_) (fun cdv A outer s H vs Q E hr h => ?_)
  · obtain ⟨i, a, b, rfl, _⟩ := h; rfl
  · obtain ⟨i, a, b, rfl, q⟩ := h
    refine ⟨_, pss_one (ps_ret (pe_and (pe_call GI hr (by rfl) mI kI bI .nil pass0 (pa_cons (pv 0) pa_nil)) (pe_one (pe_chain op_le op_le (pv 1) (pv 0) (pv 2))))), ?_⟩
    refine ⟨_, rfl, i, rfl, true, rfl, iteT ?_⟩
    refine ⟨_, rfl, _, rfl, a, i, rfl, rfl, _, rfl, ?_⟩
    by_cases h1 : a ≤ i
    · rw [decide_eq_true h1]
      refine iteT ⟨_, rfl, i, b, rfl, rfl, ?_⟩
      have e : decide (a ≤ i ∧ i ≤ b) = decide (i ≤ b) := by simp [h1]
      rw [e] at q; exact q
    · rw [decide_eq_false h1]
      refine iteF ?_
      have e : decide (a ≤ i ∧ i ≤ b) = false := by simp [h1]
      rw [e] at q; exact q
def spBelow : Sp := fun vs H Q _ => ∃ i m : Int, vs = [.int i, .int m] ∧ Q (.bl (decide (0 ≤ i ∧ i < m))) H
theorem sc_is_below : FnScope ["thing", "many"] ["thing", "many"] (defScope s_is_below) := ⟨rfl, rfl, rfl, by decide +kernel, rfl, by decide +kernel, by decide +kernel⟩
theorem ok_is_below (T : Txt w K mg) : OkF P w K mg base 3 "is_below" ["thing", "many"] spBelow := by
  obtain ⟨fI, dI, GI, mI, kI, bI⟩ := (ok_is_within (P := P) (base := base) T).ex
  refine okf T.glo_is_below T.fn_is_below sc_is_below (fun _ _ _ _ _ _ us hl => match us, hl with | [_, _], _ => rfl) (fun vs H Q E h => ?_) (fun cdv A outer s H vs Q E hr h => ?_)
  · obtain ⟨i, a, rfl, _⟩ := h; rfl
  · obtain ⟨i, m, rfl, q⟩ := h
    refine ⟨_, pss_one (ps_ret (pe_call GI hr (by rfl) mI kI bI .nil pass0 (pa_cons (pv 0) (pa_cons pe_int (pa_cons (pe_op op_sub (pv 1) pe_int) pa_nil))))), ?_⟩
    refine ⟨_, rfl, _, rfl, _, _, rfl, rfl, i, 0, m - 1, rfl, ?_⟩
    have e : decide (0 ≤ i ∧ i ≤ m - 1) = decide (0 ≤ i ∧ i < m) := by congr 1; apply propext; omega
    rw [e]; exact q
def spSized : Sp := fun vs H Q _ => ∃ (a : Addr) (xs : List V) (l m : Int), vs = [.ref a, .int l, .int m] ∧ H a = some (.tup xs) ∧ xs.length ≤ 1000 ∧ l ≤ xs.length ∧ (xs.length : Int) ≤ m ∧ Q (.bl true) H
theorem sc_is_sized : FnScope ["thing", "least", "most"] ["thing", "least", "most"] (defScope s_is_sized) := ⟨rfl, rfl, rfl, by decide +kernel, rfl, by decide +kernel, by decide +kernel⟩
theorem ok_is_sized (T : Txt w K mg) : OkF P w K mg base 1 "is_sized" ["thing", "least", "most"] spSized := by
  refine okf T.glo_is_sized T.fn_is_sized sc_is_sized (fun _ _ _ _ _ _ us hl => match us, hl with | [_, _, _], _ => rfl) (fun vs H Q E h => ?_) (fun cdv A outer s H vs Q E hr h => ?_)
  · obtain ⟨a, xs, l, m, rfl, _⟩ := h; rfl
  · obtain ⟨a, xs, l, m, rfl, ha, h1, h2, h3, q⟩ := h
    refine ⟨_, pss_one (ps_ret (pe_and (pe_callB call_isi (by rfl) T.free_isinstance (by decide +kernel) (pa_cons (pv 0) (pa_cons (gt (T := "tuple") T.free_tuple (by decide +kernel)) pa_nil)))
      (pe_one (pe_chain op_le op_le (pv 1) (pe_callB call_len_seq (by rfl) T.free_len PySem.boot_len (pa_cons (pv 0) pa_nil)) (pv 2))))), ?_⟩
    refine ⟨_, rfl, _, _, _, _, true, rfl, .ty "tuple", .base (.tup ha), kit_ty (by decide +kernel), true, rfl, iteT ?_⟩
    refine ⟨_, rfl, _, rfl, a, xs, rfl, .inr (.of ha), l, xs.length, rfl, rfl, _, rfl, ?_⟩
    rw [decide_eq_true h2]
    refine iteT ⟨_, rfl, _, m, rfl, rfl, ?_⟩
    show Q (.bl (decide ((xs.length : Int) ≤ m))) H
    rw [decide_eq_true h3]; exact q
def spCheckWithin : Sp := fun vs H Q _ => ∃ i a b : Int, vs = [.int i, .int a, .int b] ∧ a ≤ i ∧ i ≤ b ∧ Q .non H
theorem sc_check_within : FnScope ["thing", "least", "most"] ["thing", "least", "most"] (defScope s_check_within) := ⟨rfl, rfl, rfl, by decide +kernel, rfl, by decide +kernel, by decide +kernel⟩
theorem ok_check_within (T : Txt w K mg) : OkF P w K mg base 3 "check_within" ["thing", "least", "most"] spCheckWithin := by
  obtain ⟨fI, dI, GI, mI, kI, bI⟩ := (ok_is_within (P := P) (base := base) T).ex
  refine okf T.glo_check_within T.fn_check_within sc_check_within (fun _ _ _ _ _ _ us hl => match us, hl with | [_, _, _], _ => rfl) (fun vs H Q E h => ?_) (fun cdv A outer s H vs Q E hr h => ?_)
  · obtain ⟨i, a, b, rfl, _⟩ := h; rfl
  · obtain ⟨i, a, b, rfl, h1, h2, q⟩ := h
    refine ⟨_, pss_one (ps_if (pt_not (pt_val (pe_call GI hr (by rfl) mI kI bI .nil pass0 (pa_cons (pv 0) (pa_cons (pv 1) (pa_cons (pv 2) pa_nil)))))) pss_never pss_nil), ?_⟩
    refine ⟨_, rfl, _, rfl, _, rfl, i, a, b, rfl, _, rfl, ?_⟩
    rw [decide_eq_true (show a ≤ i ∧ i ≤ b from ⟨h1, h2⟩)]
    exact iteF q
def spReplaced : Sp := fun vs H Q _ => ∃ (a : Addr) (xs : List V) (n : Nat) (v : V), vs = [.ref a, .int n, v] ∧ H a = some (.tup xs) ∧ n < xs.length ∧ xs.length ≤ 1000 ∧ ∀ H' p, Same H H' → H' p = some (.tup (xs.set n v)) → Q (.ref p) H'
theorem sc_replaced : FnScope ["items", "number", "item"] ["items", "number", "item"] (defScope s_replaced) := ⟨rfl, rfl, rfl, by decide +kernel, rfl, by decide +kernel, by decide +kernel⟩
theorem set_cut (xs : List V) (n : Nat) (v : V) (h : n < xs.length) : xs.take n ++ [v] ++ xs.drop (n + 1) = xs.set n v := by
  rw [List.set_eq_take_append_cons_drop, if_pos h]; simp
theorem ok_replaced (T : Txt w K mg) : OkF P w K mg base 1 "replaced" ["items", "number", "item"] spReplaced := by
  refine okf T.glo_replaced T.fn_replaced sc_replaced (fun _ _ _ _ _ _ us hl => match us, hl with | [_, _, _], _ => rfl) (fun vs H Q E h => ?_) (fun cdv A outer s H vs Q E hr h => ?_)
  · obtain ⟨a, xs, n, v, rfl, _⟩ := h; rfl
  · obtain ⟨a, xs, n, v, rfl, ha, hn, hl, q⟩ := h
    refine ⟨_, pss_one (ps_ret (pe_op op_catA (pe_op op_catA (pe_slice sl_tupA (pv 0) po_none (po_some (pv 1))) (pe_tup (pa_cons (pv 2) pa_nil))) (pe_slice sl_tupA (pv 0) (po_some (pe_op op_add (pv 1) pe_int)) po_none))), ?_⟩
    have e2 : ((n : Int) + 1) = ((n + 1 : Nat) : Int) := rfl
    -- what goes on once the left part stands at l
    have fin : ∀ (H1 : Hp) (l : Addr), Same H H1 → H1 l = some (.tup (xs.take n ++ [v])) → tOp (rCatA K) (fun _ H2 Q2 => Q2 (.ref l) H1) (tSl (rSlA K) (tVar 0) (tPart (tOp (rI0 fun i j => .int (i + j)) (tVar 1) (tC (.int 1)))) tNoPart) (start ["items", "number", "item"] [.ref a, .int n, v]) H1 Q := fun H1 l s1 hl1 => by
      refine ⟨_, rfl, _, rfl, _, _, rfl, rfl, _, rfl, a, xs, rfl, .of (s1 _ _ ha), fun z => ?_, fun _ p np => ?_⟩
      · exfalso
        rw [e2, HT.sIx_nat] at z
        omega
      · have hp : upd H1 p (.tup (cutV xs (some ((n : Int) + 1)) none)) p = some (.tup (xs.drop (n + 1))) := by rw [upd_same, e2, cut_from _ _ (by omega)]
        have s2 := s1.trans (same_upd (o := .tup (cutV xs (some ((n : Int) + 1)) none)) np)
        refine ⟨l, p, _, _, rfl, rfl, .of (by rw [upd_ne (ne_of_none hl1 np)]; exact hl1), .of hp, ?_, fun z => absurd z (by simp), fun _ z => ?_, fun _ _ r nr => ?_⟩
        · refine le_line ?_; simp; omega
        · refine q _ _ s2 ?_
          rw [upd_ne (ne_of_none hl1 np), hl1, ← set_cut xs n v hn, z, List.append_nil]
        · refine q _ _ (s2.trans (same_upd nr)) ?_
          rw [upd_same, set_cut xs n v hn]
    refine ⟨_, rfl, _, rfl, _, rfl, a, xs, rfl, .of ha, fun z => ?_, fun _ p np => ?_⟩
    · exfalso
      rw [HT.sIx_nat] at z
      omega
    · have hp : upd H p (.tup (cutV xs none (some (n : Int)))) p = some (.tup (xs.take n)) := by rw [upd_same, cut_to _ _ (by omega)]
      have s1 : Same H (upd H p (.tup (cutV xs none (some (n : Int))))) := same_upd np
      refine ⟨_, rfl, by show 1 ≤ sizeLine; decide, fun i ni => ?_⟩
      refine ⟨p, i, _, _, rfl, rfl, .of (by rw [upd_ne (ne_of_none hp ni)]; exact hp), .of upd_same, le_line (by simp; omega), fun z => ?_, fun _ z => absurd z (by simp), fun _ _ l nl => ?_⟩
      · exact fin _ i (s1.trans (same_upd ni)) (by rw [upd_same, z]; rfl)
      · exact fin _ l ((s1.trans (same_upd ni)).trans (same_upd nl)) upd_same
end
end G3
set_option Elab.async false
set_option linter.all false
set_option maxRecDepth 100000
set_option maxHeartbeats 4000000
/-! Shapes: reading, changing, handing on, turning up. -/
namespace G3
open PySem PySem.Spec PyProof.Rows L2
abbrev Shp := Lk.Shape
open Lk (Part g isSon sideOf handOn flip flipO setUp setSon turn1 turn2 turnUp stepUp Wf PIn)

def optV : Option Nat → V
  | none => .non
  | some k => .int k
def partV (p : Part) : List V := [optV p.up, optV p.left, optV p.right, .bl p.tn, .int 0, .int p.val]
structure ShAt (H : Hp) (a : Addr) (s : Shp) : Prop where
  ex : ∃ rs : List Addr, H a = some (.tup (rs.map V.ref)) ∧ rs.length = s.length ∧ ∀ i r, rs[i]? = some r → H r = some (.tup (partV (g s i)))
theorem ShAt.same {H H' : Hp} {a : Addr} {s : Shp} (h : ShAt H a s) (e : Same H H') : ShAt H' a s := by
  obtain ⟨rs, h1, h2, h3⟩ := h.ex
  exact ⟨rs, e _ _ h1, h2, fun i r q => e _ _ (h3 i r q)⟩
theorem ShAt.tup {H : Hp} {a : Addr} {s : Shp} (h : ShAt H a s) : ∃ xs, H a = some (.tup xs) ∧ xs.length = s.length := by
  obtain ⟨rs, h1, h2, h3⟩ := h.ex
  exact ⟨_, h1, by rw [List.length_map]; exact h2⟩
theorem ShAt.item {H : Hp} {a : Addr} {s : Shp} (h : ShAt H a s) {k : Nat} (hk : k < s.length) : ∃ xs r, H a = some (.tup xs) ∧ xs.length = s.length ∧ atI xs (k : Int) = some (.ref r) ∧ H r = some (.tup (partV (g s k))) := by
  obtain ⟨rs, h1, h2, h3⟩ := h.ex
  have hk' : k < rs.length := by omega
  have e : rs[k]? = some rs[k] := List.getElem?_eq_getElem hk'
  exact ⟨_, rs[k], h1, by rw [List.length_map]; exact h2, atI_nat (by rw [List.getElem?_map, e]; rfl), h3 k _ e⟩
theorem ShAt.set {H H' : Hp} {a p r : Addr} {s : Shp} {xs : List V} {k : Nat} {q : Part} (h : ShAt H a s) (hx : H a = some (.tup xs)) (e : Same H H') (hp : H' p = some (.tup (xs.set k (.ref r)))) (hr : H' r = some (.tup (partV q))) (hk : k < s.length) : ShAt H' p (s.set k q) := by
  obtain ⟨rs, h1, h2, h3⟩ := h.ex
  rw [h1] at hx
  cases hx
  refine ⟨rs.set k r, by rw [hp, List.map_set], by simp [h2], fun i r' hi => ?_⟩
  rw [List.getElem?_set] at hi
  by_cases q' : k = i
  · subst q'
    rw [if_pos rfl] at hi
    split at hi
    · cases hi
      rw [Lk.g_set_same hk]; exact hr
    · cases hi
  · rw [if_neg q'] at hi
    rw [Lk.g_set_ne (fun z => q' z.symm)]
    exact e _ _ (h3 i r' hi)
theorem nat_beq (k h : Nat) : ((k : Int) == (h : Int)) = (some k == some h) := by
  rw [Bool.eq_iff_iff]; simp; omega
theorem eqV_opt {o : Option Nat} {h : Nat} : eqV (optV o) (.int h) = (o == some h) := by
  cases o with
  | none => rfl
  | some k => exact nat_beq k h
theorem dec_opt {o : Option Nat} {h : Nat} : decide (optV o = .int h) = (o == some h) := by
  cases o with
  | none => rfl
  | some k => exact (dec_int (i := (k : Int)) (j := (h : Int))).trans (nat_beq k h)
theorem optV_non {o : Option Nat} : decide (optV o = .non) = o.isNone := by cases o <;> rfl
theorem flat_opt {o : Option Nat} : flatV (optV o) = true := by cases o <;> rfl
theorem scal_opt {o : Option Nat} {h : Int} : scal (optV o) (.int h) = true := by cases o <;> rfl
theorem cut13 (p : Part) : cutV (partV p) (some 1) (some 3) = [optV p.left, optV p.right] := rfl

section
variable {P : Program} {w : World} {K : PySem.W.Frag} {mg : Str → Option Value} {base : Heap}
/-! ### sons -/
def sonsL (p : Part) : List Nat := p.left.toList ++ p.right.toList
def spSons : Sp := fun vs H Q _ => ∃ (a : Addr) (s : Shp) (h : Nat), vs = [.ref a, .int h] ∧ ShAt H a s ∧ h < s.length ∧ ∀ H' l, Same H H' → H l = none → H' l = some (.lst ((sonsL (g s h)).map fun k => .int (k : Nat))) → Q (.ref l) H'
theorem sc_sons_of : FnScope ["shape", "house", "son"] ["shape", "house"] (defScope s_sons_of) := ⟨rfl, rfl, rfl, by decide +kernel, rfl, by decide +kernel, by decide +kernel⟩
theorem ok_sons_of (T : Txt w K mg) : OkF P w K mg base 1 "sons_of" ["shape", "house"] spSons := by
  refine okf T.glo_sons_of T.fn_sons_of sc_sons_of (fun _ _ _ _ _ _ us hl => match us, hl with | [_, _], _ => rfl) (fun vs H Q E h => ?_) (fun cdv A outer s H vs Q E hr h => ?_)
  · obtain ⟨a, s, h, rfl, _⟩ := h; rfl
  · obtain ⟨a, s, h, rfl, sh, hh, q⟩ := h
    obtain ⟨xs, r, ha, _, hi, hr'⟩ := sh.item hh
    refine ⟨_, pss_one (ps_ret (pe_lc (own := [("son", 2)]) (g := gName 2) (tt := _) rfl sc_sons_of.nd (pi_tup (pe_slice sl_tupA (pe_ix ix_tup (pv 0) (pv 1) (fun _ _ => rfl)) (po_some (gi T.int_LEFT)) (po_some (gi T.int_TURNED))))
      (blkOk_by (N := ["shape", "house", "son"]) (sc := defScope s_sons_of) (by decide +kernel)) (fun _ _ _ _ _ => pg_name (i := 2) sc_sons_of.nd rfl (.inl rfl)) (fun _ _ _ _ _ => pts_one (pt_cmpR op_notN (pv 2) pe_non (nomark _))) (fun _ _ _ _ _ => pv 2))), ?_⟩
    refine ⟨_, rfl, _, rfl, _, _, _, _, rfl, rfl, SqT.of (ha),  hi, 1, rfl, 3, rfl, r, _, rfl, .of hr', fun z => absurd (show (1 : Nat) = 0 from z.1) (by decide), fun _ t nt => ?_⟩
    have s1 : Same H (upd H t (.tup (cutV (partV (g s h)) (some 1) (some 3)))) := same_upd nt
    refine ⟨t, rfl, ⟨_, .of upd_same⟩, fun D nD => lc_tup (K := K) (a := t) (xs := [optV (g s h).left, optV (g s h).right])
      (fun i H' => Same H H' ∧ H' t = some (.tup [optV (g s h).left, optV (g s h).right]) ∧ H' D = some (.lst ((([optV (g s h).left, optV (g s h).right].take i).filter fun v => !decide (v = .non))))) ?_ ?_ ?_ ?_⟩
    · exact ⟨s1.trans (same_upd nD), by rw [upd_ne (ne_of_none upd_same nD), upd_same, cut13], upd_same⟩
    · exact fun i H' _ ⟨_, e, _⟩ => .of e
    · intro i x H' hx ⟨e1, e2, e3⟩
      have il : i < 2 := (List.getElem?_eq_some_iff.mp hx).1
      have tk : ([optV (g s h).left, optV (g s h).right].take (i + 1)) = [optV (g s h).left, optV (g s h).right].take i ++ [x] := by
        rw [List.take_add_one, hx]; rfl
      have nDt : D ≠ t := ne_of e3 e2 (by intro z; cases z)
      refine ⟨rfl, _, rfl, rfl, _, rfl, ?_⟩
      cases hd : (!decide (x = V.non)) with
      | true =>
        refine iteT ⟨_, rfl, _, e3, ?_, ?_⟩
        · have h1 := List.length_filter_le (fun v => !decide (v = V.non)) ([optV (g s h).left, optV (g s h).right].take i)
          have h2 : ([optV (g s h).left, optV (g s h).right].take i).length ≤ 2 := by simp; omega
          exact small1000 (by omega)
        · refine ⟨fun b o z => ?_, by rw [upd_ne nDt.symm]; exact e2, ?_⟩
          · by_cases zb : b = D
            · exfalso
              have := (s1.free nD).symm.trans (zb ▸ z)
              cases this
            · rw [upd_ne zb]; exact e1 _ _ z
          · rw [upd_same, tk, List.filter_append]; simp [hd]
      | false =>
        refine iteF ⟨e1, e2, ?_⟩
        rw [e3, tk, List.filter_append]; simp [hd]
    · intro H' ⟨e1, e2, e3⟩
      refine q _ _ e1 (s1.free nD) ?_
      rw [e3]
      unfold sonsL
      cases (g s h).left <;> cases (g s h).right <;> rfl

/-! ### is_son, side_of -/
def spIsSon : Sp := fun vs H Q _ => ∃ (a : Addr) (s : Shp) (h : Nat), vs = [.ref a, .int h] ∧ ShAt H a s ∧ Wf s ∧ h < s.length ∧ ∀ H', Same H H' → Q (.bl (isSon s h)) H'
theorem sc_is_son : FnScope ["shape", "house", "up"] ["shape", "house"] (defScope s_is_son) := ⟨rfl, rfl, rfl, by decide +kernel, rfl, by decide +kernel, by decide +kernel⟩
theorem ok_is_son (T : Txt w K mg) : OkF P w K mg base 1 "is_son" ["shape", "house"] spIsSon := by
  refine okf T.glo_is_son T.fn_is_son sc_is_son (fun _ _ _ _ _ _ us hl => match us, hl with | [_, _], _ => rfl) (fun vs H Q E h => ?_) (fun cdv A outer s H vs Q E hr h => ?_)
  · obtain ⟨a, s, h, rfl, _⟩ := h; rfl
  · obtain ⟨a, s, h, rfl, sh, wf, hh, q⟩ := h
    obtain ⟨xs, r, ha, _, hi, hr'⟩ := sh.item hh
    refine ⟨_, pss_cons (ps_set (i := 2) sc_is_son.nd rfl (.inl rfl) (pe_ix ix_tup (pe_ix ix_tup (pv 0) (pv 1) (fun _ _ => rfl)) (gi T.int_UP) (fun _ _ => rfl)))
      (pss_one (ps_ret (pe_and (pe_cmpR op_notN (pv 2) pe_non (nomark _)) (pe_one (pe_cmpR op_in_seq (pv 1) (pe_slice sl_tupA (pe_ix ix_tup (pv 0) (pv 2) (fun _ _ => rfl)) (po_some (gi T.int_LEFT)) (po_some (gi T.int_TURNED))) (by rfl)))))), ?_⟩
    refine ⟨_, rfl, _, rfl, _, _, _, _, rfl, rfl, SqT.of (ha),  hi, _, _, _, _, rfl, rfl, SqT.of (hr'),  rfl, _, rfl, rfl, _, rfl, ?_⟩
    rw [optV_non]
    cases hu : (g s h).up with
    | none =>
      refine iteF ?_
      have : isSon s h = false := by unfold isSon; rw [hu]
      have := q H (Same.refl _)
      rwa [‹isSon s h = false›] at this
    | some u =>
      have hul : u < s.length := by have := (wf h hh).1; rw [hu] at this; exact this
      obtain ⟨xs2, r2, ha2, _, hi2, hr2⟩ := sh.item hul
      refine iteT ⟨_, rfl, _, rfl, _, rfl, _, _, _, _, rfl, rfl, SqT.of (ha2),  hi2, 1, rfl, 3, rfl, r2, _, rfl, .of hr2, fun z => absurd (show (1 : Nat) = 0 from z.1) (by decide), fun _ t nt => ?_⟩
      refine ⟨t, _, rfl, .inr (.of upd_same), rfl, ?_, ?_⟩
      · rw [cut13]; simp [flat_opt]
      · have e : inV (.int (h : Int)) (cutV (partV (g s u)) (some 1) (some 3)) = isSon s h := by
          rw [cut13]; unfold isSon inV; rw [hu]
          simp [eqV_opt]
        show Q (.bl (inV (.int (h : Int)) (cutV (partV (g s u)) (some 1) (some 3)))) _
        rw [e]
        exact q _ (same_upd nt)
def sideI (d : Bool) : Int := if d then 2 else 1
def spSide : Sp := fun vs H Q _ => ∃ (a : Addr) (s : Shp) (h u : Nat), vs = [.ref a, .int h] ∧ ShAt H a s ∧ h < s.length ∧ (g s h).up = some u ∧ u < s.length ∧ Q (.int (sideI (sideOf s h))) H
theorem sc_side_of : FnScope ["shape", "house"] ["shape", "house"] (defScope s_side_of) := ⟨rfl, rfl, rfl, by decide +kernel, rfl, by decide +kernel, by decide +kernel⟩
theorem ok_side_of (T : Txt w K mg) : OkF P w K mg base 1 "side_of" ["shape", "house"] spSide := by
  refine okf T.glo_side_of T.fn_side_of sc_side_of (fun _ _ _ _ _ _ us hl => match us, hl with | [_, _], _ => rfl) (fun vs H Q E h => ?_) (fun cdv A outer s H vs Q E hr h => ?_)
  · obtain ⟨a, s, h, u, rfl, _⟩ := h; rfl
  · obtain ⟨a, s, h, u, rfl, sh, hh, hu, hul, q⟩ := h
    obtain ⟨xs, r, ha, _, hi, hr'⟩ := sh.item hh
    obtain ⟨xs2, r2, ha2, _, hi2, hr2⟩ := sh.item hul
    refine ⟨_, pss_one (ps_ret (pe_ifExp (pt_cmpR op_eq (pe_ix ix_tup (pe_ix ix_tup (pv 0) (pe_ix ix_tup (pe_ix ix_tup (pv 0) (pv 1) (fun _ _ => rfl)) (gi T.int_UP) (fun _ _ => rfl)) (fun _ _ => rfl)) (gi T.int_LEFT) (fun _ _ => rfl)) (pv 1) (nomark _)) (gi T.int_LEFT) (gi T.int_RIGHT))), ?_⟩
    refine ⟨_, rfl, _, rfl, _, rfl, _, _, _, _, rfl, rfl, SqT.of (ha),  hi, _, _, _, _, rfl, rfl, SqT.of (hr'),  rfl, ?_⟩
    rw [hu]
    refine ⟨_, _, _, _, rfl, rfl, SqT.of (ha2),  hi2, _, _, _, _, rfl, rfl, SqT.of (hr2),  rfl, _, rfl, scal_opt, _, rfl, ?_⟩
    rw [dec_opt]
    unfold sideOf at q
    rw [hu] at q
    cases e : ((g s u).left == some h) with
    | true => refine iteT ?_; simp [e, sideI] at q; exact q
    | false => refine iteF ?_; simp [e, sideI] at q; exact q

/-! ### changed, with_more -/
def spChanged : Sp := fun vs H Q _ => ∃ (a : Addr) (s : Shp) (h k : Nat) (v : V) (p : Part), vs = [.ref a, .int h, .int k, v] ∧ ShAt H a s ∧ s.length ≤ 64 ∧ h < s.length ∧ k < 6 ∧ (partV (g s h)).set k v = partV p ∧ ∀ H' b, Same H H' → ShAt H' b (s.set h p) → Q (.ref b) H'
theorem sc_changed : FnScope ["shape", "house", "part", "thing"] ["shape", "house", "part", "thing"] (defScope s_changed) := ⟨rfl, rfl, rfl, by decide +kernel, rfl, by decide +kernel, by decide +kernel⟩
theorem ok_changed (T : Txt w K mg) : OkF P w K mg base 2 "changed" ["shape", "house", "part", "thing"] spChanged := by
  obtain ⟨fR, dR, GR, mR, kR, bR⟩ := (ok_replaced (P := P) (base := base) T).ex
  refine okf T.glo_changed T.fn_changed sc_changed (fun _ _ _ _ _ _ us hl => match us, hl with | [_, _, _, _], _ => rfl) (fun vs H Q E h => ?_) (fun cdv A outer s H vs Q E hr h => ?_)
  · obtain ⟨a, s, h, k, v, p, rfl, _⟩ := h; rfl
  · obtain ⟨a, s, h, k, v, p, rfl, sh, l64, hh, hk, hp, q⟩ := h
    obtain ⟨xs, r, ha, hl, hi, hr'⟩ := sh.item hh
    refine ⟨_, pss_one (ps_ret (pe_call GR hr (by rfl) mR kR bR .nil pass0 (pa_cons (pv 0) (pa_cons (pv 1) (pa_cons (pe_call GR hr (by rfl) mR kR bR .nil pass0 (pa_cons (pe_ix ix_tup (pv 0) (pv 1) (fun _ _ => rfl)) (pa_cons (pv 2) (pa_cons (pv 3) pa_nil)))) pa_nil))))), ?_⟩
    refine ⟨_, rfl, _, rfl, _, rfl, _, rfl, _, _, _, _, rfl, rfl, SqT.of (ha),  hi, _, rfl, _, rfl, r, _, k, v, rfl, hr', hk, by show 6 ≤ 1000; decide, fun H1 b s1 hb => ?_⟩
    refine ⟨a, xs, h, .ref b, rfl, s1 _ _ ha, by omega, by omega, fun H2 c s2 hc => ?_⟩
    exact q H2 c (s1.trans s2) (sh.set ha (s1.trans s2) hc (by rw [s2 _ _ hb, hp]) hh)
def spWithMore : Sp := fun vs H Q _ => ∃ (r : Addr) (p : Part), vs = [.ref r, .int 0] ∧ H r = some (.tup (partV p)) ∧ ∀ H' b, Same H H' → H' b = some (.tup (partV p)) → Q (.ref b) H'
theorem sc_with_more : FnScope ["part", "number"] ["part", "number"] (defScope s_with_more) := ⟨rfl, rfl, rfl, by decide +kernel, rfl, by decide +kernel, by decide +kernel⟩
theorem ok_with_more (T : Txt w K mg) : OkF P w K mg base 1 "with_more" ["part", "number"] spWithMore := by
  refine okf T.glo_with_more T.fn_with_more sc_with_more (fun _ _ _ _ _ _ us hl => match us, hl with | [_, _], _ => rfl) (fun vs H Q E h => ?_) (fun cdv A outer s H vs Q E hr h => ?_)
  · obtain ⟨r, p, rfl, _⟩ := h; rfl
  · obtain ⟨r, p, rfl, hr', q⟩ := h
    refine ⟨_, pss_one (ps_ret (pe_op op_catA (pe_slice sl_tupA (pv 0) po_none (po_some (gi T.int_ADDED))) (pe_tup (pa_cons (pe_op op_add (pe_ix ix_tup (pv 0) (gi T.int_ADDED) (fun _ _ => rfl)) (pv 1)) (pa_cons (pe_op op_add (pe_ix ix_tup (pv 0) (gi T.int_VALUE) (fun _ _ => rfl)) (pv 1)) pa_nil))))), ?_⟩
    refine ⟨_, rfl, 4, rfl, r, _, rfl, .of hr', fun z => absurd z.2 (by show ¬ (4 : Nat) = 6; decide), fun _ t nt => ?_⟩
    have hr2 : ∀ o, upd H t o r = some (.tup (partV p)) := fun o => by rw [upd_ne (ne_of_none hr' nt)]; exact hr'
    refine ⟨_, rfl, _, _, _, _, rfl, rfl, SqT.of (hr2 _), rfl, _, rfl, _, _, rfl, rfl, _, rfl, _, _, _, _, rfl, rfl, SqT.of (hr2 _), rfl, _, rfl, _, _, rfl, rfl, by show 2 ≤ sizeLine; decide, fun u nu => ?_⟩
    refine ⟨t, u, _, _, rfl, rfl, .of (by rw [upd_ne (ne_of_none upd_same nu)]; exact upd_same), .of upd_same, by show 6 ≤ sizeLine; decide, fun z => absurd z (by intro z; cases z), fun _ z => absurd z (by intro z; cases z), fun _ _ c nc => ?_⟩
    refine q _ _ (((same_upd nt).trans (same_upd nu)).trans (same_upd nc)) ?_
    rw [upd_same]
    have e1 : (0 : Int) + 0 = 0 := rfl
    show some (HO.tup ([optV p.up, optV p.left, optV p.right, .bl p.tn] ++ [V.int (0 + 0), V.int (p.val + 0)])) = _
    rw [Int.add_zero, Int.add_zero]; rfl
end
end G3
set_option Elab.async false
set_option linter.all false
set_option maxRecDepth 100000
set_option maxHeartbeats 4000000
/-! Handing on, turning up. -/
namespace G3
open PySem PySem.Spec PyProof.Rows L2
open Lk (Part g isSon sideOf handOn flip flipO setUp setSon turn1 turn2 turnUp stepUp Wf PIn upO)

theorem set_self {s : Shp} {k : Nat} (h : k < s.length) : s.set k (g s k) = s := by
  have : g s k = s[k] := by unfold g; rw [List.getD_eq_getElem?_getD, List.getElem?_eq_getElem h]; rfl
  rw [this, List.set_getElem_self]
theorem fold_flip_len {l : List Nat} {s : Shp} : (l.foldl flip s).length = s.length := by
  induction l generalizing s with
  | nil => rfl
  | cons a l ih => rw [List.foldl_cons, ih, Lk.len_flip]
theorem fold_sons (s : Shp) (p : Part) : (sonsL p).foldl flip s = flipO (flipO s p.left) p.right := by
  unfold sonsL
  cases p.left <;> cases p.right <;> rfl
theorem sons_in {n : Nat} {p : Part} (h : PIn n p) {k : Nat} (hk : k ∈ sonsL p) : k < n := by
  unfold sonsL at hk
  rcases List.mem_append.mp hk with q | q
  · have h1 := h.2.1
    cases e : p.left with
    | none => rw [e] at q; cases q
    | some j => rw [e] at q h1; simp at q; subst q; exact h1
  · have h1 := h.2.2
    cases e : p.right with
    | none => rw [e] at q; cases q
    | some j => rw [e] at q h1; simp at q; subst q; exact h1
theorem sons_len (p : Part) : (sonsL p).length ≤ 2 := by
  unfold sonsL
  cases p.left <;> cases p.right <;> simp
section
variable {P : Program} {w : World} {K : PySem.W.Frag} {mg : Str → Option Value} {base : Heap}
def spHanding : Sp := fun vs H Q _ => ∃ (a : Addr) (s : Shp) (h : Nat), vs = [.ref a, .int h] ∧ ShAt H a s ∧ Wf s ∧ s.length ≤ 64 ∧ h < s.length ∧ ∀ H' b, Same H H' → ShAt H' b (handOn s h) → Q (.ref b) H'
theorem sc_after_handing : FnScope ["shape", "house", "up", "left", "right", "is_turned", "added", "value", "found", "son"] ["shape", "house"] (defScope s_after_handing) := ⟨rfl, rfl, rfl, by decide +kernel, rfl, by decide +kernel, by decide +kernel⟩
theorem ok_after_handing (T : Txt w K mg) : OkF P w K mg base 3 "after_handing" ["shape", "house"] spHanding := by
  obtain ⟨fR, dR, GR, mR, kR, bR⟩ := (ok_replaced (P := P) (base := base) T).ex
  obtain ⟨fC, dC, GC, mC, kC, bC⟩ := (ok_changed (P := P) (base := base) T).ex
  obtain ⟨fS, dS, GS, mS, kS, bS⟩ := (ok_sons_of (P := P) (base := base) T).ex
  obtain ⟨fM, dM, GM, mM, kM, bM⟩ := (ok_with_more (P := P) (base := base) T).ex
  refine okf T.glo_after_handing T.fn_after_handing sc_after_handing (fun _ _ _ _ _ _ us hl => match us, hl with | [_, _], _ => rfl) (fun vs H Q E h => ?_) (fun cdv A outer s H vs Q E hr h => ?_)
  · obtain ⟨a, s, h, rfl, _⟩ := h; rfl
  · obtain ⟨a, s, h, rfl, sh, wf, l64, hh, q⟩ := h
    have hr1 : Room 1 _ := hr.mono (by decide)
    obtain ⟨xs, r, ha, hl, hi, hr'⟩ := sh.item hh
    refine ⟨_, (pss_cons (ps_asg (pe_ix ix_tup (pv 0) (pv 1) (fun _ _ => rfl)) (pg_tup rfl (pgs_cons (pg_name (i := 2) sc_after_handing.nd rfl (.inl rfl)) (pgs_cons (pg_name (i := 3) sc_after_handing.nd rfl (.inl rfl)) (pgs_cons (pg_name (i := 4) sc_after_handing.nd rfl (.inl rfl)) (pgs_cons (pg_name (i := 5) sc_after_handing.nd rfl (.inl rfl)) (pgs_cons (pg_name (i := 6) sc_after_handing.nd rfl (.inl rfl)) (pgs_cons (pg_name (i := 7) sc_after_handing.nd rfl (.inl rfl)) pgs_nil)))))))) (pss_cons (ps_if (PW.pt (pw_and (pt_cmpR op_eq (pv 6) pe_int (nomark _)) (pw_and1 (pt_not (pt_val (pv 5)))))) (pss_one (ps_ret (pv 0))) pss_nil) (pss_cons (ps_set (i := 8) sc_after_handing.nd rfl (.inl rfl) (pv 0)) (pss_cons (ps_for PassesOwn.never rfl (pi_list (pe_call GS hr1 (by rfl) mS kS bS .nil pass0 (pa_cons (pv 0) (pa_cons (pv 1) pa_nil)))) (pg_name (i := 9) sc_after_handing.nd rfl (.inl rfl))
        (pss_cons (ps_set (i := 8) sc_after_handing.nd rfl (.inl rfl) (pe_call GR hr1 (by rfl) mR kR bR .nil pass0 (pa_cons (pv 8) (pa_cons (pv 9) (pa_cons (pe_call GM hr1 (by rfl) mM kM bM .nil pass0 (pa_cons (pe_ix ix_tup (pv 8) (pv 9) (fun _ _ => rfl)) (pa_cons (pv 6) pa_nil))) pa_nil))))) (pss_one (ps_if (pt_val (pv 5)) (pss_one (ps_set (i := 8) sc_after_handing.nd rfl (.inl rfl) (pe_call GC hr (by rfl) mC kC bC .nil pass0 (pa_cons (pv 8) (pa_cons (pv 9) (pa_cons (gi T.int_TURNED) (pa_cons (pe_not (pe_ix ix_tup (pe_ix ix_tup (pv 8) (pv 9) (fun _ _ => rfl)) (gi T.int_TURNED) (fun _ _ => rfl))) pa_nil))))))) pss_nil)))) (pss_cons (ps_if (pt_val (pv 5)) (pss_one (ps_par (i := 3) (j := 4) rfl sc_after_handing.nd rfl rfl (by decide) rfl rfl (pa_cons (pv 4) (pa_cons (pv 3) pa_nil)) (by rfl))) pss_nil) (pss_one (ps_ret (pe_call GR hr1 (by rfl) mR kR bR .nil pass0 (pa_cons (pv 8) (pa_cons (pv 1) (pa_cons (pe_tup (pa_cons (pv 2) (pa_cons (pv 3) (pa_cons (pv 4) (pa_cons pe_bl (pa_cons pe_int (pa_cons (pv 7) pa_nil))))))) pa_nil))))))))))), ?_⟩
    refine ⟨_, rfl, _, rfl, _, _, _, _, rfl, rfl, SqT.of (ha),  hi, r, _, rfl, .of hr', rfl, _, _, rfl, _, _, rfl, _, _, rfl, _, _, rfl, _, _, rfl, _, _, rfl, rfl, ?_⟩
    refine ⟨_, rfl, rfl, _, rfl, ?_⟩
    refine iteT ⟨_, rfl, _, rfl, ?_⟩
    cases ht : (g s h).tn with
    | false =>
      refine iteT ⟨_, rfl, ?_⟩
      exact q H a (Same.refl _) (by rw [Lk.handOn_id ht]; exact sh)
    | true =>
      refine iteF ?_
      refine ⟨_, rfl, ?_⟩
      refine ⟨_, rfl, _, rfl, a, s, h, rfl, sh, hh, fun H1 l s1 nl hl1 => ?_⟩
      refine ⟨l, rfl, ⟨_, .of hl1⟩, for_list (K := K) (a := l) (xs := (sonsL (g s h)).map fun k => V.int (k : Nat))
        (fun i σ H2 => ∃ (b : Addr) (v : Option V), Same H1 H2 ∧ ShAt H2 b (((sonsL (g s h)).take i).foldl flip s) ∧ σ = [some (.ref a), some (.int h), some (optV (g s h).up), some (optV (g s h).left), some (optV (g s h).right), some (.bl true), some (.int 0), some (.int (g s h).val), some (.ref b), v]) ?_ ?_ ?_ ?_⟩
      · exact ⟨a, none, Same.refl _, sh.same s1, rfl⟩
      · rintro i σ H2 _ ⟨b, v, s2, _, _⟩
        exact .of (s2 _ _ hl1)
      · rintro i x σ H2 hx ⟨b, v, s2, sb, rfl⟩
        obtain ⟨k, hk, rfl⟩ : ∃ k, (sonsL (g s h))[i]? = some k ∧ x = V.int (k : Nat) := by
          rw [List.getElem?_map] at hx
          cases e : (sonsL (g s h))[i]? with
          | none => rw [e] at hx; cases hx
          | some k => rw [e] at hx; exact ⟨k, rfl, (Option.some.inj hx).symm⟩
        have kl : k < s.length := sons_in (wf h hh) (List.mem_of_getElem? hk)
        have kl' : k < (((sonsL (g s h)).take i).foldl flip s).length := by rw [fold_flip_len]; exact kl
        have tk : ((sonsL (g s h)).take (i + 1)).foldl flip s = flip (((sonsL (g s h)).take i).foldl flip s) k := by
          rw [List.take_add_one, hk]; simp [List.foldl_append]
        obtain ⟨ys, r2, hb, hbl, hi2, hr2⟩ := sb.item kl'
        rw [fold_flip_len] at hbl
        -- found = replaced(found, son, with_more(found[son], added))
        refine ⟨_, rfl, _, rfl, _, rfl, _, rfl, _, _, _, _, rfl, rfl, SqT.of (hb),  hi2, _, rfl, r2, _, rfl, hr2, fun H3 c s3 hc => ?_⟩
        refine ⟨b, ys, k, .ref c, rfl, s3 _ _ hb, by omega, by omega, fun H4 e s4 he => ?_⟩
        have se : ShAt H4 e (((sonsL (g s h)).take i).foldl flip s) := by
          have := sb.set hb (s3.trans s4) he (q := g (((sonsL (g s h)).take i).foldl flip s) k) (s4 _ _ hc) kl'
          rwa [set_self kl'] at this
        obtain ⟨zs, r3, he', hel, hi3, hr3⟩ := se.item kl'
        refine ⟨_, rfl, _, rfl, iteT ?_⟩
        refine ⟨_, rfl, _, rfl, _, rfl, _, rfl, _, _, _, _, rfl, rfl, SqT.of (he'),  hi3, _, _, _, _, rfl, rfl, SqT.of (hr3),  rfl, _, rfl, e, _, k, 3, _, { g (((sonsL (g s h)).take i).foldl flip s) k with tn := !(g (((sonsL (g s h)).take i).foldl flip s) k).tn }, rfl, se, by rw [fold_flip_len]; exact l64, kl', by decide, rfl, fun H5 f s5 sf => ?_⟩
        exact ⟨f, _, ((s2.trans s3).trans s4).trans s5, by rw [tk]; exact sf, rfl⟩
      · rintro σ H2 ⟨b, v, s2, sb, rfl⟩
        rw [List.length_map, List.take_length, fold_sons] at sb
        refine ⟨_, rfl, _, rfl, iteT ?_⟩
        refine ⟨_, rfl, _, rfl, _, _, rfl, ?_⟩
        have lf : (flipO (flipO s (g s h).left) (g s h).right).length = s.length := by rw [Lk.len_flipO, Lk.len_flipO]
        obtain ⟨ys, hb, hbl⟩ := sb.tup
        refine ⟨_, rfl, _, rfl, _, rfl, _, rfl, _, rfl, _, rfl, by show 6 ≤ sizeLine; decide, fun t nt => ?_⟩
        refine ⟨b, ys, h, .ref t, rfl, by rw [upd_ne (ne_of_none hb nt)]; exact hb, by omega, by omega, fun H3 c s3 hc => ?_⟩
        have s4 : Same H2 H3 := (same_upd nt).trans s3
        refine q H3 c ((s1.trans s2).trans s4) ?_
        have e : handOn s h = (flipO (flipO s (g s h).left) (g s h).right).set h ⟨(g s h).up, (g s h).right, (g s h).left, false, (g s h).val⟩ := by
          unfold handOn; rw [ht]
        rw [e]
        exact sb.set hb s4 hc (s3 _ _ upd_same) (by rw [lf]; exact hh)
end
end G3
set_option Elab.async false
set_option linter.all false
set_option maxRecDepth 100000
set_option maxHeartbeats 4000000
/-! Turning up, down to, steps, to the top. -/
namespace G3
open PySem PySem.Spec PyProof.Rows L2
open Lk (Part g isSon sideOf handOn flip flipO setUp setSon turn1 turn2 turnUp stepUp Wf PIn upO)

def sideN (d : Bool) : Nat := if d then 2 else 1
theorem sideI_nat (d : Bool) : V.int (sideI d) = V.int ((sideN d : Nat) : Int) := by cases d <;> rfl
theorem side_lt (d : Bool) : sideN d < 6 := by cases d <;> decide
theorem part_set (d : Bool) (p : Part) (v : Option Nat) : (partV p).set (sideN d) (optV v) = partV (p.setSon d v) := by cases d <;> rfl
theorem part_at (d : Bool) (p : Part) : atI (partV p) (sideI d) = some (optV (p.son d)) := by cases d <;> rfl
theorem side_other (d : Bool) : (1 : Int) + 2 - sideI d = sideI (!d) := by cases d <;> rfl
theorem up_flipO {s : Shp} {o : Option Nat} {k : Nat} : (g (flipO s o) k).up = (g s k).up := by
  cases o with
  | none => rfl
  | some h =>
    show (g (flip s h) k).up = _
    by_cases hl : h < s.length
    · rw [Lk.g_flip hl]; split <;> rfl
    · unfold Lk.flip; rw [List.set_eq_of_length_le (by omega)]
theorem up_handOn {s : Shp} {h k : Nat} : (g (handOn s h) k).up = (g s k).up := by
  unfold handOn
  cases (g s h).tn with
  | false => rfl
  | true =>
    show (g (List.set _ _ _) k).up = _
    by_cases hl : h < (flipO (flipO s (g s h).left) (g s h).right).length
    · rw [Lk.g_set hl]
      by_cases e : k = h
      · rw [if_pos e, e]
      · rw [if_neg e, up_flipO, up_flipO]
    · rw [List.set_eq_of_length_le (by omega), up_flipO, up_flipO]
section
variable {P : Program} {w : World} {K : PySem.W.Frag} {mg : Str → Option Value} {base : Heap}
def spTurn : Sp := fun vs H Q _ => ∃ (a : Addr) (s : Shp) (h one : Nat), vs = [.ref a, .int h] ∧ ShAt H a s ∧ Wf s ∧ s.length ≤ 64 ∧ h < s.length ∧ (g s h).up = some one ∧ ∀ H' b, Same H H' → ShAt H' b (turnUp s h) → Q (.ref b) H'
theorem sc_after_turn : FnScope ["shape", "house", "one", "found", "side", "other_side", "up", "between"] ["shape", "house"] (defScope s_after_turn) := ⟨rfl, rfl, rfl, by decide +kernel, rfl, by decide +kernel, by decide +kernel⟩
theorem ok_after_turn (T : Txt w K mg) : OkF P w K mg base 4 "after_turn" ["shape", "house"] spTurn := by
  obtain ⟨fC, dC, GC, mC, kC, bC⟩ := (ok_changed (P := P) (base := base) T).ex
  obtain ⟨fH, dH, GH, mH, kH, bH⟩ := (ok_after_handing (P := P) (base := base) T).ex
  obtain ⟨fI, dI, GI, mI, kI, bI⟩ := (ok_is_son (P := P) (base := base) T).ex
  obtain ⟨fS, dS, GS, mS, kS, bS⟩ := (ok_side_of (P := P) (base := base) T).ex
  refine okf T.glo_after_turn T.fn_after_turn sc_after_turn (fun _ _ _ _ _ _ us hl => match us, hl with | [_, _], _ => rfl) (fun vs H Q E h => ?_) (fun cdv A outer s H vs Q E hr h => ?_)
  · obtain ⟨a, s, h, one, rfl, _⟩ := h; rfl
  · obtain ⟨a, s, h, one, rfl, sh, wf, l64, hh, hu, q⟩ := h
    have hr1 : Room 1 _ := hr.mono (by decide)
    have hr2 : Room 2 _ := hr.mono (by decide)
    have ol : one < s.length := by have := (wf h hh).1; rw [hu] at this; exact this
    obtain ⟨xs, r, ha, hl, hi, hr'⟩ := sh.item hh
    refine ⟨_, (pss_cons (ps_set (i := 2) sc_after_turn.nd rfl (.inl rfl) (pe_ix ix_tup (pe_ix ix_tup (pv 0) (pv 1) (fun _ _ => rfl)) (gi T.int_UP) (fun _ _ => rfl))) (pss_cons (ps_set (i := 3) sc_after_turn.nd rfl (.inl rfl) (pe_call GH hr (by rfl) mH kH bH .nil pass0 (pa_cons (pe_call GH hr (by rfl) mH kH bH .nil pass0 (pa_cons (pv 0) (pa_cons (pv 2) pa_nil))) (pa_cons (pv 1) pa_nil)))) (pss_cons (ps_set (i := 4) sc_after_turn.nd rfl (.inl rfl) (pe_call GS hr1 (by rfl) mS kS bS .nil pass0 (pa_cons (pv 3) (pa_cons (pv 1) pa_nil)))) (pss_cons (ps_set (i := 5) sc_after_turn.nd rfl (.inl rfl) (pe_op op_sub (pe_op op_add (gi T.int_LEFT) (gi T.int_RIGHT)) (pv 4))) (pss_cons (ps_set (i := 6) sc_after_turn.nd rfl (.inl rfl) (pe_ix ix_tup (pe_ix ix_tup (pv 3) (pv 2) (fun _ _ => rfl)) (gi T.int_UP) (fun _ _ => rfl))) (pss_cons (ps_if (pt_val (pe_call GI hr1 (by rfl) mI kI bI .nil pass0 (pa_cons (pv 3) (pa_cons (pv 2) pa_nil)))) (pss_one (ps_set (i := 3) sc_after_turn.nd rfl (.inl rfl) (pe_call GC hr2 (by rfl) mC kC bC .nil pass0 (pa_cons (pv 3) (pa_cons (pv 6) (pa_cons (pe_call GS hr1 (by rfl) mS kS bS .nil pass0 (pa_cons (pv 3) (pa_cons (pv 2) pa_nil))) (pa_cons (pv 1) pa_nil))))))) pss_nil) (pss_cons (ps_set (i := 7) sc_after_turn.nd rfl (.inl rfl) (pe_ix ix_tup (pe_ix ix_tup (pv 3) (pv 1) (fun _ _ => rfl)) (pv 5) (fun _ _ => rfl))) (pss_cons (ps_set (i := 3) sc_after_turn.nd rfl (.inl rfl) (pe_call GC hr2 (by rfl) mC kC bC .nil pass0 (pa_cons (pv 3) (pa_cons (pv 2) (pa_cons (pv 4) (pa_cons (pv 7) pa_nil)))))) (pss_cons (ps_if (pt_cmpR op_notN (pv 7) pe_non (nomark _)) (pss_one (ps_set (i := 3) sc_after_turn.nd rfl (.inl rfl) (pe_call GC hr2 (by rfl) mC kC bC .nil pass0 (pa_cons (pv 3) (pa_cons (pv 7) (pa_cons (gi T.int_UP) (pa_cons (pv 2) pa_nil))))))) pss_nil) (pss_cons (ps_set (i := 3) sc_after_turn.nd rfl (.inl rfl) (pe_call GC hr2 (by rfl) mC kC bC .nil pass0 (pa_cons (pv 3) (pa_cons (pv 1) (pa_cons (pv 5) (pa_cons (pv 2) pa_nil)))))) (pss_one (ps_ret (pe_call GC hr2 (by rfl) mC kC bC .nil pass0 (pa_cons (pe_call GC hr2 (by rfl) mC kC bC .nil pass0 (pa_cons (pv 3) (pa_cons (pv 2) (pa_cons (gi T.int_UP) (pa_cons (pv 1) pa_nil))))) (pa_cons (pv 1) (pa_cons (gi T.int_UP) (pa_cons (pv 6) pa_nil))))))))))))))))), ?_⟩
    refine ⟨_, rfl, _, rfl, _, _, _, _, rfl, rfl, SqT.of (ha),  hi, _, _, _, _, rfl, rfl, SqT.of (hr'),  rfl, ?_⟩
    rw [hu]
    -- the two handings
    refine ⟨_, rfl, _, rfl, a, s, one, rfl, sh, wf, l64, ol, fun H1 b1 s1 sh1 => ?_⟩
    refine ⟨_, rfl, b1, _, h, rfl, sh1, Lk.wf_handOn wf, by rw [Lk.len_handOn]; exact l64, by rw [Lk.len_handOn]; exact hh, fun H2 b2 s2 sh2 => ?_⟩
    have wf2 : Wf (handOn (handOn s one) h) := Lk.wf_handOn (Lk.wf_handOn wf)
    have l2 : (handOn (handOn s one) h).length = s.length := by rw [Lk.len_handOn, Lk.len_handOn]
    have hu2 : (g (handOn (handOn s one) h) h).up = some one := by rw [up_handOn, up_handOn]; exact hu
    have e0 : turnUp s h = turn2 (turn1 (handOn (handOn s one) h) h one) h one (sideOf (handOn (handOn s one) h) h) (g (handOn (handOn s one) h) one).up := by
      unfold turnUp; rw [hu]
    rw [e0] at q
    generalize handOn (handOn s one) h = f at sh2 wf2 l2 hu2 q
    have s02 : Same H H2 := s1.trans s2
    have hf : h < f.length := by omega
    have of : one < f.length := by omega
    have f64 : f.length ≤ 64 := by omega
    -- side, other_side, up
    refine ⟨_, rfl, _, rfl, b2, f, h, one, rfl, sh2, hf, hu2, of, ?_⟩
    refine ⟨_, _, rfl, rfl, _, rfl, _, _, rfl, rfl, ?_⟩
    rw [show ((fun i j => V.int (i - j)) (1 + 2) (sideI (sideOf f h)) : V) = V.int (sideI (!sideOf f h)) from congrArg V.int (side_other _)]
    obtain ⟨ys, r2, hb2, hbl, hi2, hr2'⟩ := sh2.item of
    refine ⟨_, rfl, _, rfl, _, _, _, _, rfl, rfl, SqT.of (hb2),  hi2, _, _, _, _, rfl, rfl, SqT.of (hr2'),  rfl, ?_⟩
    refine ⟨_, rfl, _, rfl, b2, f, one, rfl, sh2, wf2, of, fun H3 s3 => ⟨_, rfl, ?_⟩⟩
    -- what goes on behind the first store
    have go : ∀ (H4 : Hp) (b4 : Addr), Same H H4 → ShAt H4 b4 (turn1 f h one) →
        tSeq (tAsg (tOp (rIxT K) (tOp (rIxT K) (tVar 3) (tVar 1)) (tVar 5)) (gName 7)) (tSeq (tAsg (tCall spChanged [] E0 (tCons (tVar 3) (tCons (tVar 2) (tCons (tVar 4) (tCons (tVar 7) tNil))))) (gName 3))
          (tSeq (tIfS (tTest (tOp (fun x y H Q => y = .non ∧ Q (.bl (!decide (x = .non))) H) (tVar 7) (tC .non))) (tAsg (tCall spChanged [] E0 (tCons (tVar 3) (tCons (tVar 7) (tCons (tC (.int 0)) (tCons (tVar 2) tNil))))) (gName 3)) tNext)
            (tSeq (tAsg (tCall spChanged [] E0 (tCons (tVar 3) (tCons (tVar 1) (tCons (tVar 5) (tCons (tVar 2) tNil))))) (gName 3))
              (tRet (tCall spChanged [] E0 (tCons (tCall spChanged [] E0 (tCons (tVar 3) (tCons (tVar 2) (tCons (tC (.int 0)) (tCons (tVar 1) tNil))))) (tCons (tVar 1) (tCons (tC (.int 0)) (tCons (tVar 6) tNil)))))))))
          { nx := fun _ H' => Q .non H', rt := Q } [some (.ref a), some (.int h), some (.int one), some (.ref b4), some (.int (sideI (sideOf f h))), some (.int (sideI (!sideOf f h))), some (optV (g f one).up), none] H4 := fun H4 b4 s4 sh4 => by
      have l4 : (turn1 f h one).length = f.length := Lk.len_turn1
      have w4 : Wf (turn1 f h one) := Lk.wf_turn1 wf2 hf
      have h4 : h < (turn1 f h one).length := by omega
      have o4 : one < (turn1 f h one).length := by omega
      have bl := (w4.at h).son (!sideOf f h)
      unfold turn2 at q
      generalize turn1 f h one = f1 at *
      generalize sideOf f h = d at *
      obtain ⟨zs, r4, hb4, hbl4, hi4, hr4⟩ := sh4.item h4
      refine ⟨_, rfl, _, rfl, _, _, _, _, rfl, rfl, SqT.of (hb4),  hi4, _, rfl, _, _, _, _, rfl, rfl, SqT.of hr4, part_at _ _, ?_⟩
      generalize (g f1 h).son (!d) = bt at *
      -- found = changed(found, one, side, between)
      refine ⟨_, rfl, _, rfl, _, rfl, _, rfl, b4, f1, one, sideN d, _, (g f1 one).setSon d bt, by rw [sideI_nat]; rfl, sh4, by omega, o4, side_lt d, part_set d _ _, fun H5 b5 s5 sh5 => ?_⟩
      have sh5' : ShAt H5 b5 (setSon f1 one d bt) := sh5
      have l5 : (setSon f1 one d bt).length = f1.length := Lk.len_setSon
      have go2 : ∀ (H6 : Hp) (b6 : Addr), Same H H6 → ShAt H6 b6 (upO (setSon f1 one d bt) (some one) bt) →
          tSeq (tAsg (tCall spChanged [] E0 (tCons (tVar 3) (tCons (tVar 1) (tCons (tVar 5) (tCons (tVar 2) tNil))))) (gName 3))
              (tRet (tCall spChanged [] E0 (tCons (tCall spChanged [] E0 (tCons (tVar 3) (tCons (tVar 2) (tCons (tC (.int 0)) (tCons (tVar 1) tNil))))) (tCons (tVar 1) (tCons (tC (.int 0)) (tCons (tVar 6) tNil))))))
          { nx := fun _ H' => Q .non H', rt := Q } [some (.ref a), some (.int h), some (.int one), some (.ref b6), some (.int (sideI d)), some (.int (sideI (!d))), some (optV (g f one).up), some (optV bt)] H6 := fun H6 b6 s6 sh6 => by
        have l6 : (upO (setSon f1 one d bt) (some one) bt).length = f1.length := by rw [Lk.len_upO, l5]
        generalize upO (setSon f1 one d bt) (some one) bt = f3 at *
        refine ⟨_, rfl, _, rfl, _, rfl, _, rfl, b6, f3, h, sideN (!d), _, (g f3 h).setSon (!d) (some one), by rw [sideI_nat]; rfl, sh6, by omega, by omega, side_lt _, part_set (!d) _ (some one), fun H7 b7 s7 sh7 => ?_⟩
        have sh7' : ShAt H7 b7 (setSon f3 h (!d) (some one)) := sh7
        have l7 : (setSon f3 h (!d) (some one)).length = f1.length := by rw [Lk.len_setSon, l6]
        generalize setSon f3 h (!d) (some one) = f4 at *
        refine ⟨_, rfl, _, rfl, _, rfl, b7, f4, one, 0, _, { g f4 one with up := some h }, rfl, sh7', by omega, by omega, by decide, rfl, fun H8 b8 s8 sh8 => ?_⟩
        have sh8' : ShAt H8 b8 (setUp f4 one (some h)) := sh8
        have l8 : (setUp f4 one (some h)).length = f1.length := by rw [Lk.len_setUp, l7]
        refine ⟨_, rfl, _, rfl, b8, _, h, 0, _, { g (setUp f4 one (some h)) h with up := (g f one).up }, rfl, sh8', by omega, by omega, by decide, rfl, fun H9 b9 s9 sh9 => ?_⟩
        exact q H9 b9 (((s6.trans s7).trans s8).trans s9) sh9
      refine ⟨_, rfl, rfl, _, rfl, ?_⟩
      rw [optV_non]
      cases bt with
      | none => exact iteF (go2 H5 b5 (s4.trans s5) sh5')
      | some k =>
        have kl : k < f1.length := bl
        refine iteT ⟨_, rfl, _, rfl, _, rfl, b5, _, k, 0, _, { g (setSon f1 one d (some k)) k with up := some one }, rfl, sh5', by omega, by omega, by decide, rfl, fun H6 b6 s6 sh6 => ?_⟩
        exact go2 H6 b6 ((s4.trans s5).trans s6) sh6
    cases hs : isSon f one with
    | false =>
      refine iteF (go H3 b2 (s02.trans s3) ?_)
      have e : turn1 f h one = f := by unfold turn1; rw [hs]; cases (g f one).up <;> rfl
      rw [e]; exact sh2.same s3
    | true =>
      obtain ⟨u, eu⟩ : ∃ u, (g f one).up = some u := by
        cases e : (g f one).up with
        | none => unfold isSon at hs; rw [e] at hs; cases hs
        | some u => exact ⟨u, rfl⟩
      have ul : u < f.length := by have := (wf2 one of).1; rw [eu] at this; exact this
      have sh3 := sh2.same s3
      refine iteT ⟨_, rfl, _, rfl, _, rfl, _, rfl, b2, f, one, u, rfl, sh3, of, eu, ul, ?_⟩
      refine ⟨_, rfl, b2, f, u, sideN (sideOf f one), _, (g f u).setSon (sideOf f one) (some h), by rw [sideI_nat, eu]; rfl, sh3, f64, ul, side_lt _, part_set _ _ (some h), fun H4 b4 s4 sh4 => ?_⟩
      refine go H4 b4 ((s02.trans s3).trans s4) ?_
      have e : turn1 f h one = setSon f u (sideOf f one) (some h) := by unfold turn1; rw [eu, hs]
      rw [e]; exact sh4
end
end G3
set_option Elab.async false
set_option linter.all false
set_option maxRecDepth 100000
set_option maxHeartbeats 4000000
/-! Down to, steps, to the top. -/
namespace G3
open PySem PySem.Spec PyProof.Rows L2
open Lk (Part g isSon sideOf handOn setUp setSon turnUp stepUp Wf PIn ChainR SplayR StepOk ToTop)

def nI (k : Nat) : V := .int (k : Int)
theorem chain_lt {s : Shp} (w : Wf s) {h : Nat} {l : List Nat} (c : ChainR s h l) (hh : h < s.length) : ∀ k ∈ l, k < s.length := by
  induction c with
  | stop _ => intro k hk; rw [List.mem_singleton.mp hk]; exact hh
  | go _ e _ ih =>
    intro k hk
    rcases List.mem_cons.mp hk with rfl | hk
    · exact hh
    · exact ih (by have := (w _ hh).1; rw [e] at this; exact this) k hk
theorem chain_head {s : Shp} {h : Nat} {l : List Nat} (c : ChainR s h l) : ∃ r, l = h :: r := by
  cases c with
  | stop _ => exact ⟨_, rfl⟩
  | go _ _ _ => exact ⟨_, rfl⟩
theorem same_off {H H1 : Hp} {c : Addr} {o : HO} (e : Same H H1) (n : H c = none) : Same H (upd H1 c o) := fun b x z => by
  rw [upd_ne (ne_of_none z n)]; exact e _ _ z
section
variable {P : Program} {w : World} {K : PySem.W.Frag} {mg : Str → Option Value} {base : Heap}
def spDown : Sp := fun vs H Q _ => ∃ (a : Addr) (s : Shp) (h : Nat) (l : List Nat), vs = [.ref a, .int h] ∧ ShAt H a s ∧ Wf s ∧ s.length ≤ 64 ∧ h < s.length ∧ ChainR s h l ∧ l.length ≤ 64 ∧ ∀ H' b, Same H H' → ShAt H' b (l.reverse.foldl handOn s) → Q (.ref b) H'
theorem sc_down_to : FnScope ["shape", "house", "chain", "found", "here"] ["shape", "house"] (defScope s_down_to) := ⟨rfl, rfl, rfl, by decide +kernel, rfl, by decide +kernel, by decide +kernel⟩
theorem ok_down_to (T : Txt w K mg) : OkF P w K mg base 4 "down_to" ["shape", "house"] spDown := by
  obtain ⟨fH, dH, GH, mH, kH, bH⟩ := (ok_after_handing (P := P) (base := base) T).ex
  obtain ⟨fI, dI, GI, mI, kI, bI⟩ := (ok_is_son (P := P) (base := base) T).ex
  refine okf T.glo_down_to T.fn_down_to sc_down_to (fun _ _ _ _ _ _ us hl => match us, hl with | [_, _], _ => rfl) (fun vs H Q E h => ?_) (fun cdv A outer s H vs Q E hr h => ?_)
  · obtain ⟨a, s, h, l, rfl, _⟩ := h; rfl
  · obtain ⟨a, s, h, l, rfl, sh, wf, l64, hh, ch, ll, q⟩ := h
    have hr1 : Room 1 _ := hr.mono (by decide)
    have inl := chain_lt wf ch hh
    refine ⟨_, (pss_cons (ps_set (i := 2) sc_down_to.nd rfl (.inl rfl) (pe_lst (pa_cons (pv 1) pa_nil))) (pss_cons (ps_while PassesOwn.never (pt_val (pe_call GI hr1 (by rfl) mI kI bI .nil pass0 (pa_cons (pv 0) (pa_cons (pe_ix ix_list (pv 2) (pe_un un_neg pe_int) (fun _ _ => rfl)) pa_nil)))) (pss_one (ps_expr (pe_bm PySem.F.plainAttrs_list PySem.F.slot_list_append PySem.F.type_list_append mt_append (pv 2) (pa_cons (pe_ix ix_tup (pe_ix ix_tup (pv 0) (pe_ix ix_list (pv 2) (pe_un un_neg pe_int) (fun _ _ => rfl)) (fun _ _ => rfl)) (gi T.int_UP) (fun _ _ => rfl)) pa_nil))))) (pss_cons (ps_set (i := 3) sc_down_to.nd rfl (.inl rfl) (pv 0)) (pss_cons (ps_for PassesOwn.never rfl (pi_list (pe_revL (pv 2))) (pg_name (i := 4) sc_down_to.nd rfl (.inl rfl)) (pss_one (ps_set (i := 3) sc_down_to.nd rfl (.inl rfl) (pe_call GH hr (by rfl) mH kH bH .nil pass0 (pa_cons (pv 3) (pa_cons (pv 4) pa_nil)))))) (pss_one (ps_ret (pv 3))))))), ?_⟩
    refine ⟨_, rfl, by show 1 ≤ sizeLine; decide, fun c nc => ?_⟩
    refine ⟨fun m σ H1 => ∃ pre cur post, l = pre ++ cur :: post ∧ ChainR s cur (cur :: post) ∧ m = post.length ∧ Same H H1 ∧ H1 c = some (.lst (pre.map nI ++ [nI cur])) ∧ σ = [some (.ref a), some (.int h), some (.ref c), none, none], ⟨l.length - 1, ?_⟩, ?_⟩
    · obtain ⟨r, e⟩ := chain_head ch
      exact ⟨[], h, r, e, e ▸ ch, by rw [e]; simp, same_upd nc, upd_same, rfl⟩
    · rintro m σ H1 ⟨pre, cur, post, el, cc, em, s1, hc, rfl⟩
      have cl : cur < s.length := inl cur (by rw [el]; simp)
      refine ⟨_, rfl, _, rfl, _, rfl, c, _, _, _, rfl, rfl, SqL.of hc, atI_last _ _, a, s, cur, rfl, sh.same s1, wf, cl, fun H2 s2 => ⟨_, rfl, ?_⟩⟩
      have hc2 := s2 _ _ hc
      have s12 := s1.trans s2
      cases cc with
      | stop e =>
        rw [e]
        refine iteF ⟨_, rfl, ?_⟩
        have el' : (pre.map nI ++ [nI cur]) = l.map nI := by rw [el]; simp
        rw [el'] at hc2
        refine ⟨_, rfl, c, _, rfl, SqL.of hc2, fun p np => ?_⟩
        have s3 : Same H (upd H2 p (.lst (l.map nI).reverse)) := s12.trans (same_upd np)
        refine ⟨p, rfl, ⟨_, SqL.of upd_same⟩, for_list (K := K) (a := p) (xs := (l.map nI).reverse)
          (fun i σ H3 => ∃ (b : Addr) (v : Option V), Same H H3 ∧ H3 p = some (.lst (l.map nI).reverse) ∧ ShAt H3 b ((l.reverse.take i).foldl handOn s) ∧ σ = [some (.ref a), some (.int h), some (.ref c), some (.ref b), v]) ?_ ?_ ?_ ?_⟩
        · exact ⟨a, none, s3, upd_same, sh.same s3, rfl⟩
        · rintro i σ H3 _ ⟨b, v, _, hp, _, _⟩
          exact .of hp
        · rintro i x σ H3 hx ⟨b, v, s4, hp, sb, rfl⟩
          rw [← List.map_reverse] at hx
          obtain ⟨k, hk, rfl⟩ : ∃ k, l.reverse[i]? = some k ∧ x = nI k := by
            rw [List.getElem?_map] at hx
            cases e : l.reverse[i]? with
            | none => rw [e] at hx; cases hx
            | some k => rw [e] at hx; exact ⟨k, rfl, (Option.some.inj hx).symm⟩
          have kl : k < s.length := inl k (List.mem_reverse.mp (List.mem_of_getElem? hk))
          have lf : ((l.reverse.take i).foldl handOn s).length = s.length := Lk.len_fold
          refine ⟨_, rfl, _, rfl, b, _, k, rfl, sb, Lk.wf_fold wf, by rw [lf]; exact l64, by rw [lf]; exact kl, fun H4 d s5 sd => ?_⟩
          refine ⟨d, _, s4.trans s5, s5 _ _ hp, ?_, rfl⟩
          rw [List.take_add_one, hk, Option.toList_some, List.foldl_append]; exact sd
        · rintro σ H3 ⟨b, v, s4, hp, sb, rfl⟩
          refine ⟨_, rfl, q H3 b s4 ?_⟩
          rw [List.length_reverse, List.length_map, ← List.length_reverse, List.take_length] at sb
          exact sb
      | @go _ u l' e eu cu =>
        rw [e]
        obtain ⟨r, er⟩ := chain_head cu
        obtain ⟨xs, r2, ha, _, hi, hr2⟩ := (sh.same s12).item cl
        refine iteT ⟨fun σ' H' => ∃ m', m' < m ∧ ∃ pre cur post, l = pre ++ cur :: post ∧ ChainR s cur (cur :: post) ∧ m' = post.length ∧ Same H H' ∧ H' c = some (.lst (pre.map nI ++ [nI cur])) ∧ σ' = [some (.ref a), some (.int h), some (.ref c), none, none], fun σ' H' z => z, ?_⟩
        refine ⟨_, rfl, .inl ⟨rfl, _, SqL.of hc2⟩, _, rfl, _, rfl, _, rfl, _, _, _, _, rfl, rfl, SqL.of hc2, atI_last _ _, _, _, _, _, rfl, rfl, SqT.of (ha),  hi, _, _, _, _, rfl, rfl, SqT.of (hr2),  rfl, c, _, _, rfl, rfl, hc2, ?_, ?_⟩
        · have : (pre ++ cur :: post).length ≤ 64 := el ▸ ll
          simp at this
          exact small1000 (by simp; omega)
        · subst er
          refine ⟨r.length, by rw [em]; simp, pre ++ [cur], u, r, by rw [el]; simp, cu, rfl, same_off s12 nc, ?_, rfl⟩
          rw [upd_same, eu]; simp [nI, optV]

/-! ### one step -/
def spStep : Sp := fun vs H Q _ => ∃ (a : Addr) (s : Shp) (h : Nat), vs = [.ref a, .int h] ∧ ShAt H a s ∧ Wf s ∧ s.length ≤ 64 ∧ h < s.length ∧ isSon s h = true ∧ StepOk s h ∧ ∀ H' b, Same H H' → ShAt H' b (stepUp s h) → Q (.ref b) H'
theorem sc_after_step : FnScope ["shape", "house", "up", "first"] ["shape", "house"] (defScope s_after_step) := ⟨rfl, rfl, rfl, by decide +kernel, rfl, by decide +kernel, by decide +kernel⟩
theorem ok_after_step (T : Txt w K mg) : OkF P w K mg base 5 "after_step" ["shape", "house"] spStep := by
  obtain ⟨fU, dU, GU, mU, kU, bU⟩ := (ok_after_turn (P := P) (base := base) T).ex
  obtain ⟨fI, dI, GI, mI, kI, bI⟩ := (ok_is_son (P := P) (base := base) T).ex
  obtain ⟨fS, dS, GS, mS, kS, bS⟩ := (ok_side_of (P := P) (base := base) T).ex
  refine okf T.glo_after_step T.fn_after_step sc_after_step (fun _ _ _ _ _ _ us hl => match us, hl with | [_, _], _ => rfl) (fun vs H Q E h => ?_) (fun cdv A outer s H vs Q E hr h => ?_)
  · obtain ⟨a, s, h, rfl, _⟩ := h; rfl
  · obtain ⟨a, s, h, rfl, sh, wf, l64, hh, so, sok, q⟩ := h
    have hr1 : Room 1 _ := hr.mono (by decide)
    obtain ⟨xs, r, ha, _, hi, hr'⟩ := sh.item hh
    obtain ⟨u, eu⟩ : ∃ u, (g s h).up = some u := by
      cases e : (g s h).up with
      | none => unfold isSon at so; rw [e] at so; cases so
      | some u => exact ⟨u, rfl⟩
    have ul : u < s.length := by have := (wf h hh).1; rw [eu] at this; exact this
    refine ⟨_, (pss_cons (ps_set (i := 2) sc_after_step.nd rfl (.inl rfl) (pe_ix ix_tup (pe_ix ix_tup (pv 0) (pv 1) (fun _ _ => rfl)) (gi T.int_UP) (fun _ _ => rfl))) (pss_cons (ps_if (pt_not (pt_val (pe_call GI hr1 (by rfl) mI kI bI .nil pass0 (pa_cons (pv 0) (pa_cons (pv 2) pa_nil))))) (pss_one (ps_ret (pe_call GU hr (by rfl) mU kU bU .nil pass0 (pa_cons (pv 0) (pa_cons (pv 1) pa_nil))))) pss_nil) (pss_cons (ps_set (i := 3) sc_after_step.nd rfl (.inl rfl) (pe_ifExp (pt_cmpR op_eq (pe_call GS hr1 (by rfl) mS kS bS .nil pass0 (pa_cons (pv 0) (pa_cons (pv 1) pa_nil))) (pe_call GS hr1 (by rfl) mS kS bS .nil pass0 (pa_cons (pv 0) (pa_cons (pv 2) pa_nil))) (nomark _)) (pv 2) (pv 1))) (pss_one (ps_ret (pe_call GU hr (by rfl) mU kU bU .nil pass0 (pa_cons (pe_call GU hr (by rfl) mU kU bU .nil pass0 (pa_cons (pv 0) (pa_cons (pv 3) pa_nil))) (pa_cons (pv 1) pa_nil)))))))), ?_⟩
    refine ⟨_, rfl, _, rfl, _, _, _, _, rfl, rfl, SqT.of (ha),  hi, _, _, _, _, rfl, rfl, SqT.of (hr'),  rfl, ?_⟩
    rw [eu]
    refine ⟨_, rfl, _, rfl, a, s, u, rfl, sh, wf, ul, fun H1 s1 => ⟨_, rfl, ?_⟩⟩
    have sh1 := sh.same s1
    have es : stepUp s h = if isSon s u = true then turnUp (turnUp s (if sideOf s h = sideOf s u then u else h)) h else turnUp s h := by unfold stepUp; rw [eu]
    cases hs : isSon s u with
    | false =>
      rw [hs, if_neg Bool.false_ne_true] at es
      refine iteT ⟨_, rfl, _, rfl, a, s, h, u, rfl, sh1, wf, l64, hh, eu, fun H2 b s2 sb => ?_⟩
      exact q H2 b (s1.trans s2) (es ▸ sb)
    | true =>
      rw [hs, if_pos rfl] at es
      obtain ⟨o2, eo2⟩ := sok u eu hs
      obtain ⟨uu, euu⟩ : ∃ x, (g s u).up = some x := by
        cases e : (g s u).up with
        | none => unfold isSon at hs; rw [e] at hs; cases hs
        | some x => exact ⟨x, rfl⟩
      have uul : uu < s.length := by have := (wf u ul).1; rw [euu] at this; exact this
      refine iteF ⟨_, rfl, _, rfl, a, s, h, u, rfl, sh1, hh, eu, ul, _, rfl, _, rfl, a, s, u, uu, rfl, sh1, ul, euu, uul, rfl, _, rfl, ?_⟩
      have ed : decide (V.int (sideI (sideOf s h)) = V.int (sideI (sideOf s u))) = decide (sideOf s h = sideOf s u) := by
        cases sideOf s h <;> cases sideOf s u <;> rfl
      rw [ed]
      have go : ∀ (x ox : Nat), x < s.length → (g s x).up = some ox → (if sideOf s h = sideOf s u then u else h) = x →
          (tRet (tCall spTurn [] E0 (tCons (tCall spTurn [] E0 (tCons (tVar 0) (tCons (tVar 3) tNil))) (tCons (tVar 1) tNil)))) { nx := fun _ H' => Q .non H', rt := Q } [some (.ref a), some (.int h), some (.int u), some (.int x)] H1 := fun x ox xl ex ei => by
        rw [ei] at eo2 es
        refine ⟨_, rfl, _, rfl, a, s, x, ox, rfl, sh1, wf, l64, xl, ex, fun H2 b s2 sb => ?_⟩
        refine ⟨_, rfl, b, _, h, o2, rfl, sb, Lk.wf_turnUp wf xl, by rw [Lk.len_turnUp]; exact l64, by rw [Lk.len_turnUp]; exact hh, eo2, fun H3 c s3 sc => ?_⟩
        exact q H3 c ((s1.trans s2).trans s3) (es ▸ sc)
      by_cases e : sideOf s h = sideOf s u
      · rw [decide_eq_true e]
        exact iteT ⟨_, rfl, go u uu ul euu (if_pos e)⟩
      · rw [decide_eq_false e]
        exact iteF ⟨_, rfl, go h u hh eu (if_neg e)⟩

/-! ### to the top -/
theorem splay_wf {x n : Nat} {s s' : Shp} (h : SplayR x n s s') (w : Wf s) (hx : x < s.length) : Wf s' := by
  induction h with
  | stop => exact w
  | go _ _ _ ih => exact ih (Lk.wf_stepUp w hx) (by rw [Lk.len_stepUp]; exact hx)
theorem totop_wf {x : Nat} {s s' : Shp} (h : ToTop x s s') (w : Wf s) (hx : x < s.length) : Wf s' := by
  obtain ⟨l, n, _, _, c⟩ := h
  exact splay_wf c (Lk.wf_fold w) (by rw [Lk.len_fold]; exact hx)
def spToTop : Sp := fun vs H Q _ => ∃ (a : Addr) (s : Shp) (h : Nat) (s' : Shp), vs = [.ref a, .int h] ∧ ShAt H a s ∧ Wf s ∧ s.length ≤ 64 ∧ h < s.length ∧ ToTop h s s' ∧ ∀ H' p b (k : Int), Same H H' → ShAt H' b s' → H' p = some (.tup [.ref b, .int k]) → Q (.ref p) H'
theorem sc_to_top : FnScope ["shape", "house", "found", "steps"] ["shape", "house"] (defScope s_to_top) := ⟨rfl, rfl, rfl, by decide +kernel, rfl, by decide +kernel, by decide +kernel⟩
theorem ok_to_top (T : Txt w K mg) : OkF P w K mg base 6 "to_top" ["shape", "house"] spToTop := by
  obtain ⟨fD, dD, GD, mD, kD, bD⟩ := (ok_down_to (P := P) (base := base) T).ex
  obtain ⟨fI, dI, GI, mI, kI, bI⟩ := (ok_is_son (P := P) (base := base) T).ex
  obtain ⟨fS, dS, GS, mS, kS, bS⟩ := (ok_after_step (P := P) (base := base) T).ex
  refine okf T.glo_to_top T.fn_to_top sc_to_top (fun _ _ _ _ _ _ us hl => match us, hl with | [_, _], _ => rfl) (fun vs H Q E h => ?_) (fun cdv A outer s H vs Q E hr h => ?_)
  · obtain ⟨a, s, h, s', rfl, _⟩ := h; rfl
  · obtain ⟨a, s, h, s', rfl, sh, wf, l64, hh, ⟨l, n, ll, ch, spl⟩, q⟩ := h
    have hr1 : Room 1 _ := hr.mono (by decide)
    have hr4 : Room 4 _ := hr.mono (by decide)
    refine ⟨_, (pss_cons (ps_set (i := 2) sc_to_top.nd rfl (.inl rfl) (pe_call GD hr4 (by rfl) mD kD bD .nil pass0 (pa_cons (pv 0) (pa_cons (pv 1) pa_nil)))) (pss_cons (ps_set (i := 3) sc_to_top.nd rfl (.inl rfl) pe_int) (pss_cons (ps_while PassesOwn.never (pt_val (pe_call GI hr1 (by rfl) mI kI bI .nil pass0 (pa_cons (pv 2) (pa_cons (pv 1) pa_nil)))) (pss_cons (ps_set (i := 2) sc_to_top.nd rfl (.inl rfl) (pe_call GS hr (by rfl) mS kS bS .nil pass0 (pa_cons (pv 2) (pa_cons (pv 1) pa_nil)))) (pss_one (ps_aug (i := 3) sc_to_top.nd rfl (.inl rfl) pe_int ip_add)))) (pss_one (ps_ret (pe_tup (pa_cons (pv 2) (pa_cons (pv 3) pa_nil)))))))), ?_⟩
    refine ⟨_, rfl, _, rfl, a, s, h, l, rfl, sh, wf, l64, hh, ch, Nat.le_trans ll l64, fun H1 b1 s1 sh1 => ?_⟩
    refine ⟨fun m σ H2 => ∃ (b : Addr) (cur : Shp) (k : Int), Same H H2 ∧ ShAt H2 b cur ∧ Wf cur ∧ cur.length = s.length ∧ SplayR h m cur s' ∧ σ = [some (.ref a), some (.int h), some (.ref b), some (.int k)], ⟨n, b1, _, 0, s1, sh1, Lk.wf_fold wf, Lk.len_fold, spl, rfl⟩, ?_⟩
    rintro m σ H2 ⟨b, cur, k, s2, sb, wc, lc, sp, rfl⟩
    refine ⟨_, rfl, _, rfl, b, cur, h, rfl, sb, wc, by omega, fun H3 s3 => ⟨_, rfl, ?_⟩⟩
    have sb3 := sb.same s3
    cases sp with
    | stop e =>
      rw [e]
      refine iteF ⟨_, rfl, _, rfl, by show 2 ≤ sizeLine; decide, fun p np => ?_⟩
      exact q _ p b k ((s2.trans s3).trans (same_upd np)) (sb3.same (same_upd np)) upd_same
    | @go m' _ _ e sok sp =>
      rw [e]
      refine iteT ⟨fun σ' H' => ∃ (b : Addr) (cur : Shp) (k : Int), Same H H' ∧ ShAt H' b cur ∧ Wf cur ∧ cur.length = s.length ∧ SplayR h m' cur s' ∧ σ' = [some (.ref a), some (.int h), some (.ref b), some (.int k)], fun σ' H' z => ⟨m', Nat.lt_succ_self _, z⟩, ?_⟩
      refine ⟨_, rfl, _, rfl, b, cur, h, rfl, sb3, wc, by omega, by omega, e, sok, fun H4 c s4 sc => ?_⟩
      refine ⟨_, rfl, _, _, rfl, rfl, ?_⟩
      exact ⟨c, _, k + 1, (s2.trans s3).trans s4, sc, Lk.wf_stepUp wc (by omega), by rw [Lk.len_stepUp]; exact lc, sp, rfl⟩
end
end G3
set_option Elab.async false
set_option linter.all false
set_option maxRecDepth 100000
set_option maxHeartbeats 4000000
/-! Weights and ranks (any numbers), the met ones, reaching. -/
namespace G3
open PySem PySem.Spec PyProof.Rows L2
open Lk (Part g isSon handOn setUp setSon Wf PIn ToTop MetR splice Reach LeftR LeftMost In)

theorem pget_list {X : Cx} : PGet X (fun o i H Q => ∃ (p : Addr) (xs : List V) (k : Nat) (v : V), o = .ref p ∧ i = .int k ∧ SqL X.K H p xs ∧ xs[k]? = some v ∧ Q v H) := by
  intro pins s σ H o i ov iv Q I r1 r2 h
  obtain ⟨p, xs, k, v, rfl, rfl, hq, he, q⟩ := h
  cases r1
  obtain ⟨t, rfl⟩ := r2
  obtain ⟨its, r, pl, hz⟩ := I.list hq
  obtain ⟨u, eu, ru⟩ := r.get he
  have hk : k < xs.length := (List.getElem?_eq_some_iff.mp he).1
  rw [sizeLine_eq] at hz
  exact wpAny_getItem_list pl.isList (by omega) (by omega) (by simpa using eu) ⟨v, H, I, ru, q⟩
theorem ip_fdiv {X : Cx} : PIp X .FloorDiv (rI CDiv fun i j => .int (i / j)) := iop_fdiv

section
variable {P : Program} {w : World} {K : PySem.W.Frag} {mg : Str → Option Value} {base : Heap}
/-! ### ranks -/
def spRankOf : Sp := fun vs H Q _ => ∃ i : Int, vs = [.int i] ∧ ∀ k : Int, Q (.int k) H
theorem sc_rank_of : FnScope ["number", "found"] ["number"] (defScope s_rank_of) := ⟨rfl, rfl, rfl, by decide +kernel, rfl, by decide +kernel, by decide +kernel⟩
theorem ok_rank_of (T : Txt w K mg) : OkF P w K mg base 1 "rank_of" ["number"] spRankOf := by
  refine okf T.glo_rank_of T.fn_rank_of sc_rank_of (fun _ _ _ _ _ _ us hl => match us, hl with | [_], _ => rfl) (fun vs H Q E h => ?_) (fun cdv A outer s H vs Q E hr h => ?_)
  · obtain ⟨i, rfl, _⟩ := h; rfl
  · obtain ⟨i, rfl, q⟩ := h
    refine ⟨_, (pss_cons (ps_set (i := 1) sc_rank_of.nd rfl (.inl rfl) pe_int) (pss_cons (ps_while PassesOwn.never (pt_cmpR op_gt (pv 0) pe_int (nomark _)) (pss_cons (ps_aug (i := 0) sc_rank_of.nd rfl (.inl rfl) pe_int ip_fdiv) (pss_one (ps_aug (i := 1) sc_rank_of.nd rfl (.inl rfl) pe_int ip_add)))) (pss_one (ps_ret (pv 1))))), ?_⟩
    refine ⟨fun m σ H' => ∃ n k : Int, H' = H ∧ n.toNat = m ∧ σ = [some (.int n), some (.int k)], ⟨_, i, 0, rfl, rfl, rfl⟩, ?_⟩
    rintro m σ H' ⟨n, k, rfl, hm, rfl⟩
    refine ⟨_, rfl, _, _, rfl, rfl, _, rfl, ?_⟩
    by_cases h1 : (1 : Int) < n
    · rw [decide_eq_true h1]
      refine iteT ⟨fun σ' H'' => ∃ n' k : Int, H'' = H' ∧ n'.toNat < m ∧ σ' = [some (.int n'), some (.int k)], fun σ' H'' ⟨n', k, e1, e2, e3⟩ => ⟨n'.toNat, e2, n', k, e1, rfl, e3⟩, ?_⟩
      refine ⟨_, rfl, _, _, rfl, rfl, ⟨by decide, by decide⟩, _, rfl, _, _, rfl, rfl, ?_⟩
      exact ⟨n / 2, k + 1, rfl, by omega, rfl⟩
    · rw [decide_eq_false h1]
      exact iteF ⟨_, rfl, q k⟩

/-! ### weights -/
def cnt (ns : List Int) : Nat := (ns.filter fun n => decide (0 < n)).length
theorem cnt_le (ns : List Int) : cnt ns ≤ ns.length := List.length_filter_le _ _
theorem cnt_set (ns : List Int) (k : Nat) (v : Int) (h : k < ns.length) : cnt (ns.set k v) + (if 0 < ns[k] then 1 else 0) = cnt ns + (if 0 < v then 1 else 0) := by
  induction ns generalizing k with
  | nil => simp at h
  | cons a ns ih =>
    cases k with
    | zero =>
      simp only [List.set_cons_zero, List.getElem_cons_zero]
      unfold cnt
      by_cases h1 : 0 < a <;> by_cases h2 : 0 < v <;> simp [h1, h2]
    | succ k =>
      simp only [List.length_cons] at h
      have := ih k (by omega)
      simp only [List.set_cons_succ, List.getElem_cons_succ]
      unfold cnt at this ⊢
      by_cases h1 : 0 < a <;> simp [h1] at this ⊢ <;> omega
theorem map_set_int (ns : List Int) (k : Nat) (v : Int) : (ns.map V.int).set k (.int v) = (ns.set k v).map V.int := (List.map_set).symm
theorem rep_flat (k : Nat) (v : V) : (List.replicate k [v]).flatten = List.replicate k v := by
  induction k with
  | zero => rfl
  | succ k ih => rw [List.replicate_succ, List.flatten_cons, ih, List.replicate_succ]; rfl
def spWeights : Sp := fun vs H Q _ => ∃ (a : Addr) (s : Shp), vs = [.ref a] ∧ ShAt H a s ∧ Wf s ∧ s.length ≤ 64 ∧ ∀ H' l (ns : List Int), Same H H' → H l = none → ns.length = s.length → H' l = some (.lst (ns.map V.int)) → Q (.ref l) H'
theorem sc_all_weights : FnScope ["shape", "found", "left", "part", "ready", "here", "up", "house", "many"] ["shape"] (defScope s_all_weights) := ⟨rfl, rfl, rfl, by decide +kernel, rfl, by decide +kernel, by decide +kernel⟩
theorem ok_all_weights (T : Txt w K mg) : OkF P w K mg base 1 "all_weights" ["shape"] spWeights := by
  refine okf T.glo_all_weights T.fn_all_weights sc_all_weights (fun _ _ _ _ _ _ us hl => match us, hl with | [_], _ => rfl) (fun vs H Q E h => ?_) (fun cdv A outer s H vs Q E hr h => ?_)
  · obtain ⟨a, s, rfl, _⟩ := h; rfl
  · obtain ⟨a, s, rfl, sh, wf, l64, q⟩ := h
    obtain ⟨xs, ha, hl⟩ := sh.tup
    refine ⟨_, (pss_cons (ps_set (i := 1) sc_all_weights.nd rfl (.inl rfl) (pe_op op_rep (pe_lst (pa_cons pe_int pa_nil)) (pe_callB call_len_seq (by rfl) T.free_len PySem.boot_len (pa_cons (pv 0) pa_nil)))) (pss_cons (ps_set (i := 2) sc_all_weights.nd rfl (.inl rfl) (pe_op op_rep (pe_lst (pa_cons pe_int pa_nil)) (pe_callB call_len_seq (by rfl) T.free_len PySem.boot_len (pa_cons (pv 0) pa_nil)))) (pss_cons (ps_for PassesOwn.never rfl (pi_tup (pv 0)) (pg_name (i := 3) sc_all_weights.nd rfl (.inl rfl)) (pss_one (ps_if (pt_cmpR op_notN (pe_ix ix_tup (pv 3) (gi T.int_UP) (fun _ _ => rfl)) pe_non (nomark _)) (pss_one (ps_augS (pv 2) (pe_ix ix_tup (pv 3) (gi T.int_UP) (fun _ _ => rfl)) pget_list pe_int ip_add set_list)) pss_nil))) (pss_cons (ps_setLc (i := 4) (g := gTup K 2 (gCons (gName 7) (gCons (gName 8) gNil))) (own := [("house", 7), ("many", 8)]) rfl sc_all_weights.nd rfl rfl (sw_true rfl rfl rfl (by decide +kernel)) (pi_enum (by rfl) T.free_enumerate (pa_cons (pv 2) pa_nil)) (blkOk_by (N := ["shape", "found", "left", "part", "ready", "here", "up", "house", "many"]) (sc := defScope s_all_weights) (by decide +kernel)) (fun _ _ _ _ _ => pg_tup rfl (pgs_cons (pg_name (i := 7) sc_all_weights.nd rfl (.inl rfl) (.inr rfl)) (pgs_cons (pg_name (i := 8) sc_all_weights.nd rfl (.inl rfl) (.inr rfl)) pgs_nil))) (fun _ _ _ _ _ => pts_one (pt_cmpR op_eq (pv 8) pe_int (nomark _))) (fun _ _ _ _ _ => pv 7)) (pss_cons (ps_while PassesOwn.never (pt_cmpR op_gt (pe_callB call_len_seq (by rfl) T.free_len PySem.boot_len (pa_cons (pv 4) pa_nil)) pe_int (nomark _))
        (pss_cons (ps_set (i := 5) sc_all_weights.nd rfl (.inl rfl) (pe_bm0 PySem.F.plainAttrs_list PySem.F.slot_list_pop PySem.F.type_list_pop mt_pop (pv 4))) (pss_cons (ps_set (i := 6) sc_all_weights.nd rfl (.inl rfl) (pe_ix ix_tup (pe_ix ix_tup (pv 0) (pv 5) (fun _ _ => rfl)) (gi T.int_UP) (fun _ _ => rfl))) (pss_one (ps_if (pt_cmpR op_notN (pv 6) pe_non (nomark _)) (pss_cons (ps_augS (pv 1) (pv 6) pget_list (pe_ix ix_list (pv 1) (pv 5) (fun _ _ => rfl)) ip_add set_list) (pss_cons (ps_augS (pv 2) (pv 6) pget_list pe_int ip_sub set_list) (pss_one (ps_if (pt_cmpR op_eq (pe_ix ix_list (pv 2) (pv 6) (fun _ _ => rfl)) pe_int (nomark _)) (pss_one (ps_expr (pe_bm PySem.F.plainAttrs_list PySem.F.slot_list_append PySem.F.type_list_append mt_append (pv 4) (pa_cons (pv 6) pa_nil)))) pss_nil)))) pss_nil))))) (pss_one (ps_ret (pv 1)))))))), ?_⟩
    have z64 : (s.length : Int) < 2 ^ 63 := by omega
    have rp : ∀ v : V, (List.replicate ((xs.length : Nat) : Int).toNat [v]).flatten = List.replicate s.length v := fun v => by rw [rep_flat, hl]; simp
    -- found = [1] * len(shape)
    refine ⟨by show 1 ≤ sizeLine; decide, fun p0 n0 => ?_⟩
    refine ⟨_, rfl, a, xs, rfl, .inr (.of (by rw [upd_ne (ne_of_none ha n0)]; exact ha)), p0, _, _, rfl, rfl, upd_same, by omega, by omega, le_line (by simp; omega), fun p1 n1 => ?_⟩
    have s1 := (same_upd (o := .lst [.int 1]) n0).trans (same_upd (o := .lst (List.replicate ((xs.length : Nat) : Int).toNat [V.int 1]).flatten) n1)
    rw [rp] at s1 ⊢
    have h1 : ∀ H0 : Hp, upd H0 p1 (.lst (List.replicate s.length (.int 1))) p1 = some (.lst ((List.replicate s.length (1 : Int)).map V.int)) := fun _ => by rw [upd_same, List.map_replicate]
    generalize hH1 : upd (upd H p0 (.lst [.int 1])) p1 (.lst (List.replicate s.length (.int 1))) = H1 at s1
    have h1' : H1 p1 = some (.lst ((List.replicate s.length (1 : Int)).map V.int)) := by rw [← hH1]; exact h1 _
    have np1 : H p1 = none := (same_upd (o := .lst [.int 1]) n0).free n1
    -- left = [0] * len(shape)
    refine ⟨by show 1 ≤ sizeLine; decide, fun p2 n2 => ?_⟩
    have ha2 := s1 _ _ ha
    refine ⟨_, rfl, a, xs, rfl, .inr (.of (by rw [upd_ne (ne_of_none ha2 n2)]; exact ha2)), p2, _, _, rfl, rfl, upd_same, by omega, by omega, le_line (by simp; omega), fun p3 n3 => ?_⟩
    have s3 := (same_upd (o := .lst [.int 0]) n2).trans (same_upd (o := .lst (List.replicate ((xs.length : Nat) : Int).toNat [V.int 0]).flatten) n3)
    rw [rp] at s3 ⊢
    generalize hH3 : upd (upd H1 p2 (.lst [.int 0])) p3 (.lst (List.replicate s.length (.int 0))) = H3 at s3
    have h3' : H3 p3 = some (.lst ((List.replicate s.length (0 : Int)).map V.int)) := by rw [← hH3, upd_same, List.map_replicate]
    have np3 : H1 p3 = none := (same_upd (o := .lst [.int 0]) n2).free n3
    have np3' : H p3 = none := s1.free np3
    have n13 : p1 ≠ p3 := ne_of_none h1' np3
    have sH : Same H H3 := s1.trans s3
    -- for part in shape
    refine ⟨_, rfl, a, rfl, ⟨_, .of (sH _ _ ha)⟩, for_tup (K := K) (a := a) (xs := xs)
      (fun i σ H4 => ∃ (ls : List Int) (v : Option V), Same H H4 ∧ ls.length = s.length ∧ H4 p1 = some (.lst ((List.replicate s.length (1 : Int)).map V.int)) ∧ H4 p3 = some (.lst (ls.map V.int)) ∧ σ = [some (.ref a), some (.ref p1), some (.ref p3), v, none, none, none, none, none]) ?_ ?_ ?_ ?_⟩
    · exact ⟨List.replicate s.length 0, none, sH, by simp, s3 _ _ h1', h3', rfl⟩
    · rintro i σ H4 _ ⟨ls, v, s4, _⟩
      exact .of (s4 _ _ ha)
    · rintro i x σ H4 hx ⟨ls, v, s4, hls, e1, e3, rfl⟩
      have il : i < s.length := hl ▸ (List.getElem?_eq_some_iff.mp hx).1
      obtain ⟨xs', r, ha', _, hi, hr'⟩ := sh.item il
      rw [ha] at ha'; cases ha'
      have ex : x = .ref r := by
        obtain ⟨j, h1, h2, _⟩ := atI_get hi
        have : atI xs (i : Int) = some x := atI_nat hx
        rw [hi] at this; exact (Option.some.inj this).symm
      subst ex
      have hr4 := s4 _ _ hr'
      refine ⟨_, rfl, _, _, _, _, rfl, rfl, SqT.of (hr4),  rfl, rfl, _, rfl, ?_⟩
      rw [optV_non]
      cases hu : (g s i).up with
      | none => exact iteF ⟨ls, _, s4, hls, e1, e3, rfl⟩
      | some u =>
        have ul : u < s.length := by have := (wf i il).1; rw [hu] at this; exact this
        have gu : (ls.map V.int)[u]? = some (.int (ls[u]'(by omega))) := by rw [List.getElem?_map, List.getElem?_eq_getElem (by omega)]; rfl
        refine iteT ⟨_, rfl, _, rfl, _, _, _, _, rfl, rfl, SqT.of (hr4),  rfl, p3, _, u, _, rfl, by rw [hu]; rfl, .of e3, gu, _, _, rfl, rfl, p3, _, u, u, rfl, by rw [hu]; rfl, e3, ?_, ?_⟩
        · unfold ixN; rw [if_pos (by omega), if_pos (by simp; omega)]; simp
        · refine ⟨ls.set u (ls[u]'(by omega) + 1), _, same_off s4 np3', by simp [hls], by rw [upd_ne n13]; exact e1, by rw [upd_same, map_set_int], rfl⟩
    · rintro σ H4 ⟨ls, v, s4, hls, e1, e3, rfl⟩
      -- ready
      refine ⟨_, rfl, p3, _, rfl, .of e3, fun D nD => ?_⟩
      have nD0 : H D = none := s4.free nD
      refine lc_it (walk_enum (K := K) (a := p3) (xs := ls.map V.int)) (fun i H5 => ∃ js : List Nat, Same H H5 ∧ js.length ≤ i ∧ (∀ j ∈ js, j < s.length) ∧ H5 p1 = some (.lst ((List.replicate s.length (1 : Int)).map V.int)) ∧ H5 p3 = some (.lst (ls.map V.int)) ∧ H5 D = some (.lst (js.map nI))) ?_ ?_ ?_ ?_
      · exact ⟨[], same_off s4 nD0, Nat.le_refl _, fun j hj => (nomatch hj), by rw [upd_ne (ne_of_none e1 nD)]; exact e1, by rw [upd_ne (ne_of_none e3 nD)]; exact e3, upd_same⟩
      · rintro i H5 _ ⟨js, _, _, _, _, e, _⟩; exact .of e
      · rintro i x H5 H6 hi ⟨js, s5, hj, hjl, f1, f3, fD⟩ ⟨Tq, x1, x2, rfl, nT, rfl, g1, g2⟩
        have hi' : i < s.length := by simpa [hls] using hi
        cases g1
        obtain ⟨z, hz, rfl⟩ : ∃ z, ls[i]? = some z ∧ x2 = V.int z := by
          have g2 : (ls.map V.int)[i]? = some x2 := g2
          rw [List.getElem?_map] at g2
          cases e : ls[i]? with
          | none => rw [e] at g2; cases g2
          | some z => rw [e] at g2; exact ⟨z, rfl, (Option.some.inj g2).symm⟩
        refine ⟨Tq, _, rfl, .of upd_same, rfl, _, _, rfl, _, _, rfl, rfl, rfl, _, rfl, rfl, _, rfl, ?_⟩
        have nTD : D ≠ Tq := ne_of_none fD nT
        have sT := same_upd (o := .tup [V.int (i : Nat), V.int z]) nT
        cases decide (V.int z = V.int 0) with
        | true =>
          refine iteT ⟨_, rfl, js.map nI, sT _ _ fD, small1000 (by simp; omega), js ++ [i], same_off (s5.trans sT) nD0, by simp; omega, fun j hj => ?_, ?_, ?_, by rw [upd_same]; simp [nI]⟩
          · rcases List.mem_append.mp hj with q | q
            · exact hjl j q
            · rw [List.mem_singleton.mp q]; exact hi'
          · rw [upd_ne (ne_of_none e1 nD)]; exact sT _ _ f1
          · rw [upd_ne (ne_of_none e3 nD)]; exact sT _ _ f3
        | false => exact iteF ⟨js, s5.trans sT, by omega, hjl, sT _ _ f1, sT _ _ f3, sT _ _ fD⟩
      · rintro H5 ⟨js, s5, hj, hjl, f1, f3, fD⟩
        have n1D : p1 ≠ D := ne_of_none e1 nD
        have n3D : p3 ≠ D := ne_of_none e3 nD
        have hj64 : js.length ≤ s.length := by simpa [hls] using hj
        -- while
        refine ⟨fun m σ H6 => ∃ (fs ls : List Int) (js : List Nat) (v5 v6 : Option V), Same H H6 ∧ fs.length = s.length ∧ ls.length = s.length ∧ (∀ j ∈ js, j < s.length) ∧ 2 * cnt ls + js.length = m ∧ m ≤ 3 * s.length ∧
          H6 p1 = some (.lst (fs.map V.int)) ∧ H6 p3 = some (.lst (ls.map V.int)) ∧ H6 D = some (.lst (js.map nI)) ∧ σ = [some (.ref a), some (.ref p1), some (.ref p3), v, some (.ref D), v5, v6, none, none], ⟨_, _, _, js, none, none, s5, by simp, hls, hjl, rfl, by have := cnt_le ls; omega, f1, f3, fD, rfl⟩, ?_⟩
        rintro m σ H6 ⟨fs, ls, js, v5, v6, s6, hf, hls, hjl, hm, hm3, f1, f3, fD, rfl⟩
        refine ⟨_, rfl, D, _, rfl, .inl (.of fD), _, _, rfl, rfl, _, rfl, ?_⟩
        rcases (List.eq_nil_or_concat js).imp_right fun ⟨a, b, e⟩ => (⟨a, b, e.trans List.concat_eq_append⟩ : ∃ a b, js = a ++ [b]) with rfl | ⟨js, j, rfl⟩
        · refine iteF ⟨_, rfl, q H6 p1 fs s6 np1 hf f1⟩
        · have jl : j < s.length := hjl j (by simp)
          rw [decide_eq_true (show (0 : Int) < ((js ++ [j]).map nI).length by simp)]
          refine iteT ⟨fun σ' H' => ∃ m', m' < m ∧ ∃ (fs ls : List Int) (js : List Nat) (v5 v6 : Option V), Same H H' ∧ fs.length = s.length ∧ ls.length = s.length ∧ (∀ j ∈ js, j < s.length) ∧ 2 * cnt ls + js.length = m' ∧ m' ≤ 3 * s.length ∧
            H' p1 = some (.lst (fs.map V.int)) ∧ H' p3 = some (.lst (ls.map V.int)) ∧ H' D = some (.lst (js.map nI)) ∧ σ' = [some (.ref a), some (.ref p1), some (.ref p3), v, some (.ref D), v5, v6, none, none], fun σ' H' z => z, ?_⟩
          have dl : ((js ++ [j]).map nI).dropLast = js.map nI := by rw [List.map_append]; simp
          refine ⟨_, rfl, .inl ⟨rfl, _, SqL.of fD⟩, D, _, nI j, rfl, rfl, fD, by simp [nI], ?_⟩
          rw [dl]
          have s7 : Same H (upd H6 D (.lst (js.map nI))) := same_off s6 nD0
          have k1 : upd H6 D (.lst (js.map nI)) p1 = some (.lst (fs.map V.int)) := by rw [upd_ne n1D]; exact f1
          have k3 : upd H6 D (.lst (js.map nI)) p3 = some (.lst (ls.map V.int)) := by rw [upd_ne n3D]; exact f3
          have kD : upd H6 D (.lst (js.map nI)) D = some (.lst (js.map nI)) := upd_same
          generalize upd H6 D (.lst (js.map nI)) = H7 at s7 k1 k3 kD
          obtain ⟨xs', r, ha', _, hi, hr'⟩ := (sh.same s7).item jl
          refine ⟨_, rfl, _, rfl, _, _, _, _, rfl, rfl, SqT.of (ha'),  hi, _, _, _, _, rfl, rfl, SqT.of (hr'),  rfl, _, rfl, rfl, _, rfl, ?_⟩
          rw [optV_non]
          have hm' : 2 * cnt ls + (js.length + 1) = m := by rw [← hm]; simp
          have hjl' : ∀ k ∈ js, k < s.length := fun k hk => hjl k (by simp [hk])
          cases hu : (g s j).up with
          | none => exact iteF ⟨2 * cnt ls + js.length, by omega, fs, ls, js, _, _, s7, hf, hls, hjl', rfl, by omega, k1, k3, kD, rfl⟩
          | some u =>
            have ul : u < s.length := by have := (wf j jl).1; rw [hu] at this; exact this
            have ix : ∀ (n : Nat), u < n → ixN n ((u : Nat) : Int) = some u := fun n h => by unfold ixN; rw [if_pos (by omega), if_pos (by omega)]; simp
            have g1 : ∀ (zs : List Int) (h : zs.length = s.length), (zs.map V.int)[u]? = some (.int (zs[u]'(by omega))) := fun zs h => by rw [List.getElem?_map, List.getElem?_eq_getElem (by omega)]; rfl
            have g2 : (fs.map V.int)[j]? = some (.int (fs[j]'(by omega))) := by rw [List.getElem?_map, List.getElem?_eq_getElem (by omega)]; rfl
            refine iteT ?_
            -- found[up] += found[here]
            refine ⟨_, rfl, _, rfl, p1, _, u, _, rfl, rfl, .of k1, g1 fs hf, _, rfl, _, rfl, _, _, _, _, rfl, rfl, SqL.of k1, atI_nat g2, _, _, rfl, rfl, p1, _, u, u, rfl, rfl, k1, ix _ (by simp; omega), ?_⟩
            rw [map_set_int]
            have k3' : upd H7 p1 (.lst ((fs.set u (fs[u]'(by omega) + fs[j]'(by omega))).map V.int)) p3 = some (.lst (ls.map V.int)) := by rw [upd_ne n13.symm]; exact k3
            -- left[up] -= 1
            refine ⟨_, rfl, _, rfl, p3, _, u, _, rfl, rfl, .of k3', g1 ls hls, _, _, rfl, rfl, p3, _, u, u, rfl, rfl, k3', ix _ (by simp; omega), ?_⟩
            rw [map_set_int]
            generalize hfs : fs.set u (fs[u]'(by omega) + fs[j]'(by omega)) = fs2
            have hf2 : fs2.length = s.length := by rw [← hfs]; simp [hf]
            have cs := cnt_set ls u (ls[u]'(by omega) - 1) (by omega)
            generalize hl2 : ls.set u (ls[u]'(by omega) - 1) = ls2 at cs
            have hls2 : ls2.length = s.length := by rw [← hl2]; simp [hls]
            have lu : ls2[u]'(by omega) = ls[u]'(by omega) - 1 := by simp only [← hl2]; simp
            have s8 : Same H (upd (upd H7 p1 (.lst (fs2.map V.int))) p3 (.lst (ls2.map V.int))) := same_off (same_off s7 np1) np3'
            have j1 : upd (upd H7 p1 (.lst (fs2.map V.int))) p3 (.lst (ls2.map V.int)) p1 = some (.lst (fs2.map V.int)) := by rw [upd_ne n13, upd_same]
            have j3 : upd (upd H7 p1 (.lst (fs2.map V.int))) p3 (.lst (ls2.map V.int)) p3 = some (.lst (ls2.map V.int)) := upd_same
            have jD : upd (upd H7 p1 (.lst (fs2.map V.int))) p3 (.lst (ls2.map V.int)) D = some (.lst (js.map nI)) := by rw [upd_ne n3D.symm, upd_ne n1D.symm]; exact kD
            generalize upd (upd H7 p1 (.lst (fs2.map V.int))) p3 (.lst (ls2.map V.int)) = H8 at s8 j1 j3 jD
            have g3 : (ls2.map V.int)[u]? = some (.int (ls2[u]'(by omega))) := g1 ls2 hls2
            refine ⟨_, rfl, _, rfl, _, _, _, _, rfl, rfl, SqL.of j3, atI_nat g3, rfl, _, rfl, ?_⟩
            rw [dec_int, lu]
            by_cases e0 : ls[u]'(by omega) - 1 = 0
            · rw [show ((ls[u]'(by omega) - 1 == 0) = true) from by simp [e0]]
              have cs' : cnt ls2 + 1 = cnt ls := by
                rw [if_pos (by omega), if_neg (by omega)] at cs; omega
              refine iteT ⟨_, rfl, .inl ⟨rfl, _, SqL.of jD⟩, _, rfl, D, _, _, rfl, rfl, jD, small1000 (by simp; omega), ?_⟩
              refine ⟨2 * cnt ls2 + (js ++ [u]).length, by simp; omega, fs2, ls2, js ++ [u], _, _, same_off s8 nD0, hf2, hls2, fun k hk => ?_, rfl, by simp; omega, by rw [upd_ne n1D]; exact j1, by rw [upd_ne n3D]; exact j3, by rw [upd_same]; simp [nI, optV], rfl⟩
              rcases List.mem_append.mp hk with q | q
              · exact hjl' k q
              · rw [List.mem_singleton.mp q]; exact ul
            · rw [show ((ls[u]'(by omega) - 1 == 0) = false) from by simp [e0]]
              have cs' : cnt ls2 ≤ cnt ls := by
                by_cases p1 : 0 < ls[u]'(by omega)
                · rw [if_pos p1] at cs; split at cs <;> omega
                · rw [if_neg p1, if_neg (by omega)] at cs; omega
              exact iteF ⟨2 * cnt ls2 + js.length, by omega, fs2, ls2, js, _, _, s8, hf2, hls2, hjl', rfl, by omega, j1, j3, jD, rfl⟩
end
end G3
set_option Elab.async false
set_option linter.all false
set_option maxRecDepth 100000
set_option maxHeartbeats 4000000
/-! Reaching. -/
namespace G3
open PySem PySem.Spec PyProof.Rows L2
open Lk (Part g isSon handOn setUp setSon Wf PIn ToTop MetR splice Reach LeftR LeftMost In)

/-- a comprehension that keeps every result: each result told by R, what was there stays -/
theorem lc_rel {J : It} {n : Nat} {G : Hp → Prop} {Y : Nat → Hp → V → Hp → Prop} (w : Walk J n G Y) {g : TG} {tt : TT} {te : TE} {vs : List Nat} {σ : L2.St} {H1 : Hp} {D : Addr} {Qd : Hp → Prop} (nD : H1 D = none) (hn : n ≤ 100000)
    (R : Nat → V → Hp → Prop) (hR : ∀ j v H H', (∀ b x, b ≠ D → H b = some x → H' b = some x) → R j v H → R j v H') (hG : ∀ H, Same H1 H → G H)
    (hs : ∀ i x H H' (Fin : VK) (N : Hp → Prop), i < n → Same H1 H → (∃ acc, H D = some (.lst acc)) → Y i H x H' → (∀ y H4, Same H H4 → R i y H4 → Fin y H4) →
      g x (wipe σ vs) H' fun σ2 H2 => wipe σ2 vs = wipe σ vs ∧ tt σ2 H2 fun b H3 => if b = true then te σ2 H3 Fin else N H3)
    (hd : ∀ H acc, Same H1 H → acc.length = n → H D = some (.lst acc) → (∀ i v, acc[i]? = some v → R i v H) → Qd H) :
    ∃ W : Nat → Nat → Hp → Prop, (∃ m, W 0 m (upd H1 D (.lst []))) ∧ ∀ i m H, W i m H →
      (J.stop i H ∧ Qd H) ∨ (J.go i H ∧ ∃ Nx : Hp → Prop, (∀ H', Nx H' → ∃ m', m' < m ∧ W (i + 1) m' H') ∧ ∀ x H', J.yld i H x H' → g x (wipe σ vs) H' fun σ2 H2 => wipe σ2 vs = wipe σ vs ∧ tt σ2 H2 fun b H3 =>
        if b = true then te σ2 H3 fun y H4 => ∃ acc, H4 D = some (.lst acc) ∧ acc.length < sizeLine ∧ Nx (upd H4 D (.lst (acc ++ [y]))) else Nx H3) := by
  refine lc_it w (fun i H => Same H1 H ∧ ∃ acc, acc.length = i ∧ H D = some (.lst acc) ∧ ∀ j v, acc[j]? = some v → R j v H) ⟨same_upd nD, [], rfl, upd_same, fun j v h => by simp at h⟩ (fun i H _ p => hG H p.1) ?_ ?_
  · rintro i x H H' hi ⟨s1, acc, hl, hD, hr⟩ y
    refine hs i x H H' _ _ hi s1 ⟨acc, hD⟩ y fun v H4 s4 r4 => ?_
    have hD4 := s4 _ _ hD
    refine ⟨acc, hD4, by rw [sizeLine_eq]; omega, same_off (s1.trans s4) nD, acc ++ [v], by simp [hl], upd_same, fun j u hj => ?_⟩
    have off : ∀ b x, b ≠ D → H4 b = some x → upd H4 D (.lst (acc ++ [v])) b = some x := fun b x ne e => by rw [upd_ne ne]; exact e
    by_cases jl : j < acc.length
    · rw [List.getElem?_append_left jl] at hj
      exact hR j u H _ (fun b x ne e => off b x ne (s4 _ _ e)) (hr j u hj)
    · have ej : j = i := by
        have := (List.getElem?_eq_some_iff.mp hj).1
        simp at this; omega
      subst ej
      rw [List.getElem?_append_right (by omega), hl, Nat.sub_self] at hj
      cases hj
      exact hR _ _ H4 _ off r4
  · rintro H ⟨s1, acc, hl, hD, hr⟩
    exact hd H acc s1 hl hD hr

theorem tyes {σ : L2.St} {H : Hp} {A B : Hp → Prop} (h : A H) : tYes σ H fun b H3 => if b = true then A H3 else B H3 := h
def rSumT (K : PySem.W.Frag) : List V → Hp → VK → Prop := fun vs H Q => ∃ (a : Addr) (ns : List Int), vs = [V.ref a] ∧ SqT K H a (ns.map V.int) ∧ Q (.int ns.sum) H
theorem cr_sumT {X : Cx} (hc : X.calm = true) : CallR X (.builtin "sum") (rSumT X.K) := by
  intro pins s σ H vs us Q I r h
  obtain ⟨a, ns, rfl, hs, q⟩ := h
  obtain ⟨its, rv, hl, _⟩ := I.tuple hs
  rw [Vals.ref1 r]
  obtain ⟨xs, e⟩ := rv.ints.allInts.items
  have hn : numsOf (intItems xs).toList = ns := by rw [← e]; exact rv.ints.numsOf
  rw [nums_intItems] at hn
  rw [e] at hl
  refine PySem.W.ktm_sumG (I.ok.hd hc) hl fun h' tk t' hk => ?_
  rw [preSum_eq, List.take_of_length_le (by simp), hn]
  exact ⟨.int _, H, I.kept hk, ⟨_, rfl⟩, q⟩

theorem ShAt.off {H : Hp} {a L : Addr} {s : Shp} {o o' : HO} (h : ShAt H a s) (hL : H L = some o) (hn : ∀ xs, o ≠ .tup xs) : ShAt (upd H L o') a s := by
  obtain ⟨rs, h1, h2, h3⟩ := h.ex
  have nt : ∀ b xs, H b = some (.tup xs) → b ≠ L := fun b xs e z => by
    subst z
    rw [e] at hL
    exact hn xs (Option.some.inj hL).symm
  exact ⟨rs, by rw [upd_ne (nt _ _ h1)]; exact h1, h2, fun i r q => by rw [upd_ne (nt _ _ (h3 i r q))]; exact h3 i r q⟩
section
variable {P : Program} {w : World} {K : PySem.W.Frag} {mg : Str → Option Value} {base : Heap}
/-! ### the sum of ranks -/
theorem ints_of {acc : List V} (h : ∀ (i : Nat) (v : V), acc[i]? = some v → ∃ z : Int, v = V.int z) : ∃ ns : List Int, acc = ns.map V.int := by
  induction acc with
  | nil => exact ⟨[], rfl⟩
  | cons v r ih =>
    obtain ⟨z, rfl⟩ := h 0 v rfl
    obtain ⟨ns, e⟩ := ih fun i v hv => h (i + 1) v (by simpa using hv)
    exact ⟨z :: ns, by rw [e]; rfl⟩
def spSumR : Sp := fun vs H Q _ => ∃ (a : Addr) (s : Shp), vs = [.ref a] ∧ ShAt H a s ∧ Wf s ∧ s.length ≤ 64 ∧ ∀ H' (k : Int), Same H H' → Q (.int k) H'
theorem sc_sum_of_ranks : FnScope ["shape", "weight"] ["shape"] (defScope s_sum_of_ranks) := ⟨rfl, rfl, rfl, by decide +kernel, rfl, by decide +kernel, by decide +kernel⟩
theorem ok_sum_of_ranks (T : Txt w K mg) : OkF P w K mg base 2 "sum_of_ranks" ["shape"] spSumR := by
  obtain ⟨fR, dR, GR, mR, kR, bR⟩ := (ok_rank_of (P := P) (base := base) T).ex
  obtain ⟨fW, dW, GW, mW, kW, bW⟩ := (ok_all_weights (P := P) (base := base) T).ex
  refine okf T.glo_sum_of_ranks T.fn_sum_of_ranks sc_sum_of_ranks (fun _ _ _ _ _ _ us hl => match us, hl with | [_], _ => rfl) (fun vs H Q E h => ?_) (fun cdv A outer s H vs Q E hr h => ?_)
  · obtain ⟨a, s, rfl, _⟩ := h; rfl
  · obtain ⟨a, s, rfl, sh, wf, l64, q⟩ := h
    refine ⟨_, (pss_one (ps_ret (pe_callB (cr_sum rfl) (by rfl) T.free_sum (by decide +kernel) (pa_cons (pe_lc (own := [("weight", 1)]) (g := gName 1) (te := tCall spRankOf [] E0 (tCons (tVar 1) tNil)) rfl sc_sum_of_ranks.nd (pi_list (pe_call GW hr (by rfl) mW kW bW .nil pass0 (pa_cons (pv 0) pa_nil)))
      (blkOk_by (N := ["shape", "weight"]) (sc := defScope s_sum_of_ranks) (by decide +kernel)) (fun _ _ _ _ _ => pg_name (i := 1) sc_sum_of_ranks.nd rfl (.inl rfl)) (fun _ _ _ _ _ => pts_nil) (fun _ _ _ _ _ => (pe_call GR hr (by rfl) mR kR bR .nil pass0 (pa_cons (pv 1) pa_nil)))) pa_nil)))), ?_⟩
    refine ⟨_, rfl, a, s, rfl, sh, wf, l64, fun H1 l ns s1 nl hl hL => ?_⟩
    refine ⟨l, rfl, ⟨_, SqL.of hL⟩, fun D nD => ?_⟩
    refine lc_rel (walk_list (K := K) (a := l) (xs := ns.map V.int)) nD (by simp; omega) (fun _ v _ => ∃ z : Int, v = V.int z) (fun _ _ _ _ _ h => h) (fun H s2 => SqL.of (s2 _ _ hL)) ?_ ?_
    · rintro i x H2 _ Fin N hi s2 _ ⟨rfl, hx⟩ fin
      obtain ⟨z, hz, rfl⟩ : ∃ z, ns[i]? = some z ∧ V.int z = x := by
        rw [List.getElem?_map] at hx
        exact Option.map_eq_some_iff.mp hx
      refine ⟨rfl, tyes ?_⟩
      exact ⟨_, rfl, z, rfl, fun k => fin _ _ (.refl _) ⟨k, rfl⟩⟩
    · intro H2 acc s2 _ hD hr
      obtain ⟨zs, rfl⟩ := ints_of hr
      exact ⟨D, zs, rfl, SqL.of hD, q _ _ (s1.trans s2)⟩
/-! ### those met -/
theorem met_ok {o : Option Nat} {s s1 : Shp} {mt : List Nat} (m : MetR o s s1 mt) : Wf s → In s.length o → Wf s1 ∧ s1.length = s.length ∧ ∀ k ∈ mt, k < s.length := by
  induction m with
  | stop => exact fun w _ => ⟨w, rfl, fun k hk => nomatch hk⟩
  | @go x s s2 s1 mt t m ih =>
    intro w hx
    have w2 := totop_wf t w hx
    have l2 : s2.length = s.length := t.len
    obtain ⟨a, b, c⟩ := ih w2 (w2.at x).1
    refine ⟨a, b.trans l2, fun k hk => ?_⟩
    rcases List.mem_cons.mp hk with rfl | hk
    · exact hx
    · rw [← l2]; exact c k hk
theorem splice_wf : ∀ {mt : List Nat} {s : Shp} {o : Option Nat}, Wf s → In s.length o → (∀ k ∈ mt, k < s.length) → Wf (splice s o mt)
  | [], s, o, w, _, _ => w
  | x :: r, s, o, w, ho, h => by
    refine splice_wf (mt := r) (w.set ⟨(w.at x).1, (w.at x).2.1, ho⟩) ?_ fun k hk => ?_
    · rw [List.length_set]; exact h x (by simp)
    · rw [List.length_set]; exact h k (by simp [hk])
def spMet : Sp := fun vs H Q _ => ∃ (a : Addr) (s : Shp) (h : Nat) (s1 : Shp) (mt : List Nat), vs = [.ref a, .int h] ∧ ShAt H a s ∧ Wf s ∧ s.length ≤ 64 ∧ h < s.length ∧ MetR (some h) s s1 mt ∧ mt.length ≤ 64 ∧
  ∀ H' p b l (k : Int), Same H H' → ShAt H' b s1 → H l = none → H' l = some (.lst (mt.map nI)) → H' p = some (.tup [.ref b, .ref l, .int k]) → Q (.ref p) H'
theorem sc_met_from : FnScope ["shape", "house", "found", "met", "steps", "here", "more"] ["shape", "house"] (defScope s_met_from) := ⟨rfl, rfl, rfl, by decide +kernel, rfl, by decide +kernel, by decide +kernel⟩
theorem ok_met_from (T : Txt w K mg) : OkF P w K mg base 7 "met_from" ["shape", "house"] spMet := by
  obtain ⟨fR, dR, GR, mR, kR, bR⟩ := (ok_to_top (P := P) (base := base) T).ex
  refine okf T.glo_met_from T.fn_met_from sc_met_from (fun _ _ _ _ _ _ us hl => match us, hl with | [_, _], _ => rfl) (fun vs H Q E h => ?_) (fun cdv A outer s H vs Q E hr h => ?_)
  · obtain ⟨a, s, h, s1, mt, rfl, _⟩ := h; rfl
  · obtain ⟨a, s, h, s1, mt, rfl, sh, wf, l64, hh, mm, ml, q⟩ := h
    refine ⟨_, (pss_cons (ps_set (i := 2) sc_met_from.nd rfl (.inl rfl) (pv 0)) (pss_cons (ps_set (i := 3) sc_met_from.nd rfl (.inl rfl) (pe_lst pa_nil)) (pss_cons (ps_set (i := 4) sc_met_from.nd rfl (.inl rfl) pe_int) (pss_cons (ps_set (i := 5) sc_met_from.nd rfl (.inl rfl) (pv 1)) (pss_cons (ps_while PassesOwn.never (pt_cmpR op_notN (pv 5) pe_non (nomark _)) (pss_cons (ps_asg (pe_call GR hr (by rfl) mR kR bR .nil pass0 (pa_cons (pv 2) (pa_cons (pv 5) pa_nil))) (pg_tup rfl (pgs_cons (pg_name (i := 2) sc_met_from.nd rfl (.inl rfl)) (pgs_cons (pg_name (i := 6) sc_met_from.nd rfl (.inl rfl)) pgs_nil)))) (pss_cons (ps_aug (i := 4) sc_met_from.nd rfl (.inl rfl) (pv 6) ip_add) (pss_cons (ps_expr (pe_bm PySem.F.plainAttrs_list PySem.F.slot_list_append PySem.F.type_list_append mt_append (pv 3) (pa_cons (pv 5) pa_nil))) (pss_one (ps_set (i := 5) sc_met_from.nd rfl (.inl rfl) (pe_ix ix_tup (pe_ix ix_tup (pv 2) (pv 5) (fun _ _ => rfl)) (gi T.int_UP) (fun _ _ => rfl)))))))) (pss_one (ps_ret (pe_tup (pa_cons (pv 2) (pa_cons (pv 3) (pa_cons (pv 4) pa_nil))))))))))), ?_⟩
    refine ⟨_, rfl, by show 0 ≤ sizeLine; decide, fun L nL => ?_⟩
    refine ⟨_, rfl, ?_⟩
    refine ⟨fun m σ H2 => ∃ (b : Addr) (cur : Shp) (o : Option Nat) (k : Int) (pre post : List Nat) (v : Option V), post.length = m ∧ mt = pre ++ post ∧ Same H H2 ∧ ShAt H2 b cur ∧ Wf cur ∧ cur.length = s.length ∧ In cur.length o ∧ MetR o cur s1 post ∧ H2 L = some (.lst (pre.map nI)) ∧ σ = [some (.ref a), some (.int h), some (.ref b), some (.ref L), some (.int k), some (optV o), v], ⟨_, a, s, some h, 0, [], mt, none, rfl, rfl, same_upd nL, sh.same (same_upd nL), wf, rfl, hh, mm, upd_same, rfl⟩, ?_⟩
    rintro m σ H2 ⟨b, cur, o, k, pre, post, v, hm, rfl, s2, sb, wc, lc, ho, mr, hL, rfl⟩
    refine ⟨_, rfl, rfl, _, rfl, ?_⟩
    rw [optV_non]
    cases mr with
    | stop =>
      refine iteF ⟨_, rfl, _, rfl, _, rfl, by show 3 ≤ sizeLine; decide, fun p np => ?_⟩
      rw [List.append_nil] at q
      exact q _ p b L k (s2.trans (same_upd np)) (sb.same (same_upd np)) nL (by rw [upd_ne (ne_of_none hL np)]; exact hL) upd_same
    | @go x _ c2 _ pst tt mr =>
      refine iteT ⟨fun σ' H' => ∃ m' < m, ∃ (b : Addr) (cur : Shp) (o : Option Nat) (k : Int) (pre' post' : List Nat) (v : Option V), post'.length = m' ∧ pre ++ x :: pst = pre' ++ post' ∧ Same H H' ∧ ShAt H' b cur ∧ Wf cur ∧ cur.length = s.length ∧ In cur.length o ∧ MetR o cur s1 post' ∧ H' L = some (.lst (pre'.map nI)) ∧ σ' = [some (.ref a), some (.int h), some (.ref b), some (.ref L), some (.int k), some (optV o), v], fun σ' H' ⟨m', h1, h2⟩ => ⟨m', h1, h2⟩, ?_⟩
      have hx : x < cur.length := ho
      have w2 := totop_wf tt wc hx
      have l2 : c2.length = cur.length := tt.len
      refine ⟨_, rfl, _, rfl, b, cur, x, c2, rfl, sb, wc, by omega, hx, tt, fun H3 p b2 k2 s3 sh3 hp => ?_⟩
      have s13 := s2.trans s3
      refine ⟨p, _, rfl, SqT.of hp, rfl, _, _, rfl, _, _, rfl, rfl, ?_⟩
      refine ⟨_, rfl, _, rfl, _, _, rfl, rfl, ?_⟩
      refine ⟨_, rfl, .inl ⟨rfl, _, SqL.of (s3 _ _ hL)⟩, _, rfl, L, _, _, rfl, rfl, s3 _ _ hL, ?_, ?_⟩
      · exact small1000 (by simp at ml ⊢; omega)
      · have s4 : Same H (upd H3 L (.lst (pre.map nI ++ [nI x]))) := same_off s13 nL
        have sh4 : ShAt (upd H3 L (.lst (pre.map nI ++ [nI x]))) b2 c2 := sh3.off (s3 _ _ hL) (by intro _ z; cases z)
        obtain ⟨xs, r, ha, _, hi, hr'⟩ := sh4.item (show x < c2.length by omega)
        refine ⟨_, rfl, _, rfl, _, _, _, _, rfl, rfl, SqT.of (ha),  hi, _, _, _, _, rfl, rfl, SqT.of (hr'),  rfl, ?_⟩
        exact ⟨pst.length, by rw [← hm]; simp, b2, c2, _, _, pre ++ [x], pst, _, rfl, by simp, s4, sh4, w2, by omega, (w2.at x).1, mr, by rw [upd_same]; simp [nI, optV], rfl⟩
/-! ### splicing -/
def spSpliced : Sp := fun vs H Q _ => ∃ (a l : Addr) (s : Shp) (mt : List Nat), vs = [.ref a, .ref l] ∧ ShAt H a s ∧ s.length ≤ 64 ∧ H l = some (.lst (mt.map nI)) ∧ (∀ k ∈ mt, k < s.length) ∧
  ∀ H' b, Same H H' → ShAt H' b (splice s none mt) → Q (.ref b) H'
theorem sc_spliced : FnScope ["shape", "met", "found", "ahead", "here"] ["shape", "met"] (defScope s_spliced) := ⟨rfl, rfl, rfl, by decide +kernel, rfl, by decide +kernel, by decide +kernel⟩
theorem ok_spliced (T : Txt w K mg) : OkF P w K mg base 3 "spliced" ["shape", "met"] spSpliced := by
  obtain ⟨fR, dR, GR, mR, kR, bR⟩ := (ok_changed (P := P) (base := base) T).ex
  refine okf T.glo_spliced T.fn_spliced sc_spliced (fun _ _ _ _ _ _ us hl => match us, hl with | [_, _], _ => rfl) (fun vs H Q E h => ?_) (fun cdv A outer s H vs Q E hr h => ?_)
  · obtain ⟨a, l, s, mt, rfl, _⟩ := h; rfl
  · obtain ⟨a, l, s, mt, rfl, sh, l64, hl, hin, q⟩ := h
    refine ⟨_, (pss_cons (ps_set (i := 2) sc_spliced.nd rfl (.inl rfl) (pv 0)) (pss_cons (ps_set (i := 3) sc_spliced.nd rfl (.inl rfl) pe_non) (pss_cons (ps_for PassesOwn.never rfl (pi_list (pv 1)) (pg_name (i := 4) sc_spliced.nd rfl (.inl rfl)) (pss_cons (ps_set (i := 2) sc_spliced.nd rfl (.inl rfl) (pe_call GR hr (by rfl) mR kR bR .nil pass0 (pa_cons (pv 2) (pa_cons (pv 4) (pa_cons (gi T.int_RIGHT) (pa_cons (pv 3) pa_nil)))))) (pss_one (ps_set (i := 3) sc_spliced.nd rfl (.inl rfl) (pv 4))))) (pss_one (ps_ret (pv 2)))))), ?_⟩
    refine ⟨_, rfl, _, rfl, l, rfl, ⟨_, SqL.of hl⟩, for_list (K := K) (a := l) (xs := mt.map nI)
      (fun i σ H3 => ∃ (b : Addr) (cur : Shp) (o : Option Nat) (v : Option V), Same H H3 ∧ ShAt H3 b cur ∧ cur.length = s.length ∧ splice cur o (mt.drop i) = splice s none mt ∧ σ = [some (.ref a), some (.ref l), some (.ref b), some (optV o), v]) ?_ ?_ ?_ ?_⟩
    · exact ⟨a, s, none, none, .refl _, sh, rfl, rfl, rfl⟩
    · rintro i σ H3 _ ⟨b, cur, o, v, s3, _⟩
      exact SqL.of (s3 _ _ hl)
    · rintro i x σ H3 hx ⟨b, cur, o, v, s3, sb, lc, e, rfl⟩
      rw [List.getElem?_map] at hx
      obtain ⟨k, hk, rfl⟩ := Option.map_eq_some_iff.mp hx
      have kl : k < s.length := hin k (List.mem_of_getElem? hk)
      have dk : mt.drop i = k :: mt.drop (i + 1) := by
        obtain ⟨hi, e⟩ := List.getElem?_eq_some_iff.mp hk
        rw [← e]; exact List.drop_eq_getElem_cons hi
      rw [dk] at e
      refine ⟨_, rfl, _, rfl, _, rfl, b, cur, k, 2, optV o, { g cur k with right := o }, rfl, sb, by omega, by omega, by decide, rfl, fun H4 c s4 sc => ?_⟩
      exact ⟨_, rfl, c, _, some k, _, s3.trans s4, sc, by rw [List.length_set]; exact lc, e, rfl⟩
    · rintro σ H3 ⟨b, cur, o, v, s3, sb, lc, e, rfl⟩
      rw [List.length_map, List.drop_length] at e
      exact ⟨_, rfl, q H3 b s3 (e ▸ sb)⟩

/-! ### reaching -/
def spReach : Sp := fun vs H Q _ => ∃ (a : Addr) (s : Shp) (h : Nat) (z : Int) (s' : Shp), vs = [.ref a, .int h, .int z] ∧ ShAt H a s ∧ Wf s ∧ s.length ≤ 64 ∧ h < s.length ∧ Reach h s s' ∧
  ∀ H' p b l t (mt : List Nat) (n1 n2 n3 n4 : Int), Same H H' → ShAt H' b s' → mt ≠ [] → H l = none → H' l = some (.lst (mt.map nI)) → H' t = some (.tup ([n1, n2, n3, n4].map V.int)) → H' p = some (.tup [.ref b, .ref l, .ref t]) → Q (.ref p) H'
theorem sc_after_reaching : FnScope ["shape", "house", "before", "there", "met", "first", "found", "last", "change"] ["shape", "house", "before"] (defScope s_after_reaching) := ⟨rfl, rfl, rfl, by decide +kernel, rfl, by decide +kernel, by decide +kernel⟩
theorem ok_after_reaching (T : Txt w K mg) : OkF P w K mg base 8 "after_reaching" ["shape", "house", "before"] spReach := by
  obtain ⟨fM, dM, GM, mM, kM, bM⟩ := (ok_met_from (P := P) (base := base) T).ex
  obtain ⟨fU, dU, GU, mU, kU, bU⟩ := (ok_to_top (P := P) (base := base) T).ex
  obtain ⟨fC, dC, GC, mC, kC, bC⟩ := (ok_spliced (P := P) (base := base) T).ex
  obtain ⟨fS, dS, GS, mS, kS, bS⟩ := (ok_sum_of_ranks (P := P) (base := base) T).ex
  refine okf T.glo_after_reaching T.fn_after_reaching sc_after_reaching (fun _ _ _ _ _ _ us hl => match us, hl with | [_, _, _], _ => rfl) (fun vs H Q E h => ?_) (fun cdv A outer s H vs Q E hr h => ?_)
  · obtain ⟨a, s, h, z, s', rfl, _⟩ := h; rfl
  · obtain ⟨a, s, h, z, s', rfl, sh, wf, l64, hh, ⟨s1, mt, ml, mm, tt⟩, q⟩ := h
    have hr6 : Room 6 _ := hr.mono (by decide)
    have hr3 : Room 3 _ := hr.mono (by decide)
    have hr2 : Room 2 _ := hr.mono (by decide)
    obtain ⟨w1, l1, hin⟩ := met_ok mm wf hh
    have mne : mt ≠ [] := by intro e; subst e; cases mm
    refine ⟨_, (pss_cons (ps_asg (pe_call GM hr (by rfl) mM kM bM .nil pass0 (pa_cons (pv 0) (pa_cons (pv 1) pa_nil))) (pg_tup rfl (pgs_cons (pg_name (i := 3) sc_after_reaching.nd rfl (.inl rfl)) (pgs_cons (pg_name (i := 4) sc_after_reaching.nd rfl (.inl rfl)) (pgs_cons (pg_name (i := 5) sc_after_reaching.nd rfl (.inl rfl)) pgs_nil))))) (pss_cons (ps_asg (pe_call GU hr6 (by rfl) mU kU bU .nil pass0 (pa_cons (pe_call GC hr3 (by rfl) mC kC bC .nil pass0 (pa_cons (pv 3) (pa_cons (pv 4) pa_nil))) (pa_cons (pv 1) pa_nil))) (pg_tup rfl (pgs_cons (pg_name (i := 6) sc_after_reaching.nd rfl (.inl rfl)) (pgs_cons (pg_name (i := 7) sc_after_reaching.nd rfl (.inl rfl)) pgs_nil)))) (pss_cons (ps_set (i := 8) sc_after_reaching.nd rfl (.inl rfl) (pe_op op_sub (pe_call GS hr2 (by rfl) mS kS bS .nil pass0 (pa_cons (pv 6) pa_nil)) (pv 2))) (pss_one (ps_ret (pe_tup (pa_cons (pv 6) (pa_cons (pv 4) (pa_cons (pe_tup (pa_cons (pv 5) (pa_cons (pe_callB call_len_seq (by rfl) T.free_len PySem.boot_len (pa_cons (pv 4) pa_nil)) (pa_cons (pv 7) (pa_cons (pv 8) pa_nil))))) pa_nil))))))))), ?_⟩
    refine ⟨_, rfl, _, rfl, a, s, h, s1, mt, rfl, sh, wf, l64, hh, mm, Nat.le_trans ml l64, fun H1 p b l k s1' sb nl hl hp => ?_⟩
    refine ⟨p, _, rfl, SqT.of hp, rfl, _, _, rfl, _, _, rfl, _, _, rfl, rfl, ?_⟩
    refine ⟨_, rfl, _, rfl, b, l, s1, mt, rfl, sb, by omega, hl, by rw [l1]; exact hin, fun H2 c s2 sc => ?_⟩
    have wsp : Wf (splice s1 none mt) := splice_wf w1 trivial (by rw [l1]; exact hin)
    have lsp : (splice s1 none mt).length = s.length := Lk.splice_len.trans l1
    refine ⟨_, rfl, c, _, h, s', rfl, sc, wsp, by omega, by omega, tt, fun H3 p3 b3 k3 s3 sb3 hp3 => ?_⟩
    have ws' := totop_wf tt wsp (by omega)
    have ls' : s'.length = s.length := tt.len.trans lsp
    refine ⟨p3, _, rfl, SqT.of hp3, rfl, _, _, rfl, _, _, rfl, rfl, ?_⟩
    refine ⟨_, rfl, b3, s', rfl, sb3, ws', by omega, fun H4 kk s4 => ?_⟩
    refine ⟨_, rfl, _, _, rfl, rfl, ?_⟩
    have hl4 := s4 _ _ (s3 _ _ (s2 _ _ hl))
    refine ⟨_, rfl, _, rfl, _, rfl, _, rfl, l, _, rfl, .inl (.of hl4), _, rfl, _, rfl, by show 4 ≤ sizeLine; decide, fun t nt => ⟨by show 3 ≤ sizeLine; decide, fun r nr => ?_⟩⟩
    have s5 := ((s1'.trans s2).trans (s3.trans s4)).trans ((same_upd (o := .tup [.int k, .int (mt.map nI).length, .int k3, .int (kk - z)]) nt).trans (same_upd (o := .tup [.ref b3, .ref l, .ref t]) nr))
    have s6 := (same_upd (o := .tup [.int k, .int (mt.map nI).length, .int k3, .int (kk - z)]) nt).trans (same_upd (o := .tup [.ref b3, .ref l, .ref t]) nr)
    exact q _ r b3 l t mt k _ k3 _ s5 ((sb3.same s4).same s6) mne nl (s6 _ _ hl4) (by rw [upd_ne (ne_of_none upd_same nr), upd_same]; rfl) upd_same

/-! ### the left most -/
def spLeft : Sp := fun vs H Q _ => ∃ (a : Addr) (s : Shp) (h : Nat) (s' : Shp) (r : Nat), vs = [.ref a, .int h] ∧ ShAt H a s ∧ Wf s ∧ s.length ≤ 64 ∧ h < s.length ∧ LeftMost h s s' r ∧ ∀ H' p b, Same H H' → ShAt H' b s' → H' p = some (.tup [.ref b, nI r]) → Q (.ref p) H'
theorem sc_left_most : FnScope ["shape", "house", "found", "here"] ["shape", "house"] (defScope s_left_most) := ⟨rfl, rfl, rfl, by decide +kernel, rfl, by decide +kernel, by decide +kernel⟩
theorem ok_left_most (T : Txt w K mg) : OkF P w K mg base 4 "left_most" ["shape", "house"] spLeft := by
  obtain ⟨fR, dR, GR, mR, kR, bR⟩ := (ok_after_handing (P := P) (base := base) T).ex
  refine okf T.glo_left_most T.fn_left_most sc_left_most (fun _ _ _ _ _ _ us hl => match us, hl with | [_, _], _ => rfl) (fun vs H Q E h => ?_) (fun cdv A outer s H vs Q E hr h => ?_)
  · obtain ⟨a, s, h, s', r, rfl, _⟩ := h; rfl
  · obtain ⟨a, s, h, s', r, rfl, sh, wf, l64, hh, ⟨m, lf⟩, q⟩ := h
    refine ⟨_, (pss_cons (ps_set (i := 2) sc_left_most.nd rfl (.inl rfl) (pe_call GR hr (by rfl) mR kR bR .nil pass0 (pa_cons (pv 0) (pa_cons (pv 1) pa_nil)))) (pss_cons (ps_set (i := 3) sc_left_most.nd rfl (.inl rfl) (pv 1)) (pss_cons (ps_while PassesOwn.never (pt_cmpR op_notN (pe_ix ix_tup (pe_ix ix_tup (pv 2) (pv 3) (fun _ _ => rfl)) (gi T.int_LEFT) (fun _ _ => rfl)) pe_non (nomark _)) (pss_cons (ps_set (i := 3) sc_left_most.nd rfl (.inl rfl) (pe_ix ix_tup (pe_ix ix_tup (pv 2) (pv 3) (fun _ _ => rfl)) (gi T.int_LEFT) (fun _ _ => rfl))) (pss_one (ps_set (i := 2) sc_left_most.nd rfl (.inl rfl) (pe_call GR hr (by rfl) mR kR bR .nil pass0 (pa_cons (pv 2) (pa_cons (pv 3) pa_nil))))))) (pss_one (ps_ret (pe_tup (pa_cons (pv 2) (pa_cons (pv 3) pa_nil)))))))), ?_⟩
    refine ⟨_, rfl, _, rfl, a, s, h, rfl, sh, wf, l64, hh, fun H1 b1 s1 sb1 => ⟨_, rfl, ?_⟩⟩
    refine ⟨fun m σ H2 => ∃ (b : Addr) (cur : Shp) (x : Nat), Same H H2 ∧ ShAt H2 b cur ∧ Wf cur ∧ cur.length = s.length ∧ x < cur.length ∧ LeftR m x cur s' r ∧ σ = [some (.ref a), some (.int h), some (.ref b), some (nI x)], ⟨m, b1, _, h, s1, sb1, Lk.wf_handOn wf, Lk.len_handOn, by rw [Lk.len_handOn]; exact hh, lf, rfl⟩, ?_⟩
    rintro m σ H2 ⟨b, cur, x, s2, sb, wc, lc, hx, lr, rfl⟩
    obtain ⟨xs, pr, ha, _, hi, hr'⟩ := sb.item hx
    refine ⟨_, rfl, _, rfl, _, _, _, _, rfl, rfl, SqT.of (ha),  hi, _, _, _, _, rfl, rfl, SqT.of (hr'),  rfl, rfl, _, rfl, ?_⟩
    rw [optV_non]
    cases lr with
    | stop e =>
      rw [e]
      refine iteF ⟨_, rfl, _, rfl, by show 2 ≤ sizeLine; decide, fun p np => ?_⟩
      exact q _ p b (s2.trans (same_upd np)) (sb.same (same_upd np)) upd_same
    | @go m' _ y _ _ _ e lr =>
      have hy : y < cur.length := by have := (wc.at x).2.1; rw [e] at this; exact this
      rw [e]
      refine iteT ⟨fun σ' H' => ∃ m'' < m' + 1, ∃ (b : Addr) (cur : Shp) (x : Nat), Same H H' ∧ ShAt H' b cur ∧ Wf cur ∧ cur.length = s.length ∧ x < cur.length ∧ LeftR m'' x cur s' r ∧ σ' = [some (.ref a), some (.int h), some (.ref b), some (nI x)], fun σ' H' z => z, ?_⟩
      refine ⟨_, rfl, _, rfl, _, _, _, _, rfl, rfl, SqT.of (ha),  hi, _, _, _, _, rfl, rfl, SqT.of (hr'),  rfl, _, rfl, _, rfl, b, cur, y, ?_, sb, wc, by omega, hy, fun H3 c s3 sc => ?_⟩
      · rw [e]; rfl
      · exact ⟨m', Nat.lt_succ_self _, c, _, y, s2.trans s3, sc, Lk.wf_handOn wc, by rw [Lk.len_handOn]; exact lc, by rw [Lk.len_handOn]; exact hy, lr, by rw [e]; rfl⟩
end
end G3
set_option Elab.async false
set_option linter.all false
set_option maxRecDepth 100000
set_option maxHeartbeats 4000000
/-! Orders, rows, forests. -/
namespace G3
open PySem PySem.Spec PyProof.Rows L2
open Lk (Part g isSon handOn setUp setSon Wf PIn In OrdR ChainR Acy Chn ctn Forests)

section
variable {P : Program} {w : World} {K : PySem.W.Frag} {mg : Str → Option Value} {base : Heap}
/-! ### order -/
def spOrd (k : Nat) : Sp := fun vs H Q _ => ∃ (a : Addr) (s : Shp) (o : Option Nat) (b : Bool) (l : List Nat), vs = [.ref a, optV o, .bl b] ∧ ShAt H a s ∧ Wf s ∧ In s.length o ∧ OrdR s k o b l ∧ l.length ≤ 64 ∧ ∀ H' p, Same H H' → H p = none → H' p = some (.lst (l.map nI)) → Q (.ref p) H'
theorem sc_order_from : FnScope ["shape", "house", "is_back", "way_back", "first", "last"] ["shape", "house", "is_back"] (defScope s_order_from) := ⟨rfl, rfl, rfl, by decide +kernel, rfl, by decide +kernel, by decide +kernel⟩
theorem ok_order_0 (T : Txt w K mg) : OkF P w K mg base 1 "order_from" ["shape", "house", "is_back"] (spOrd 0) := by
  refine okf T.glo_order_from T.fn_order_from sc_order_from (fun _ _ _ _ _ _ us hl => match us, hl with | [_, _, _], _ => rfl) (fun vs H Q E h => ?_) (fun cdv A outer s H vs Q E hr h => ?_)
  · obtain ⟨a, s, o, b, l, rfl, _⟩ := h; rfl
  · obtain ⟨a, s, o, b, l, rfl, sh, wf, ho, od, ll, q⟩ := h
    refine ⟨_, pss_cons (ps_if (pt_cmpR op_isN (pv 1) pe_non (nomark _)) (pss_one (ps_ret (pe_lst pa_nil))) pss_nil) pss_never, ?_⟩
    cases od with
    | nil =>
      refine ⟨_, rfl, rfl, _, rfl, iteT ?_⟩
      exact ⟨by show 0 ≤ sizeLine; decide, fun L nL => q _ L (same_upd nL) nL upd_same⟩
theorem ok_order (T : Txt w K mg) (k : Nat) : OkF P w K mg base (k + 1) "order_from" ["shape", "house", "is_back"] (spOrd k) := by
  induction k with
  | zero => exact ok_order_0 T
  | succ k ih =>
    obtain ⟨fR, dR, GR, mR, kR, bR⟩ := ih.ex
    refine okf T.glo_order_from T.fn_order_from sc_order_from (fun _ _ _ _ _ _ us hl => match us, hl with | [_, _, _], _ => rfl) (fun vs H Q E h => ?_) (fun cdv A outer s H vs Q E hr h => ?_)
    · obtain ⟨a, s, o, b, l, rfl, _⟩ := h; rfl
    · obtain ⟨a, s, o, b, l, rfl, sh, wf, ho, od, ll, q⟩ := h
      refine ⟨_, (pss_cons (ps_if (pt_cmpR op_isN (pv 1) pe_non (nomark _)) (pss_one (ps_ret (pe_lst pa_nil))) pss_nil) (pss_cons (ps_set (i := 3) sc_order_from.nd rfl (.inl rfl) (pe_cmpR op_ne (pv 2) (pe_ix ix_tup (pe_ix ix_tup (pv 0) (pv 1) (fun _ _ => rfl)) (gi T.int_TURNED) (fun _ _ => rfl)) (nomark _))) (pss_cons (ps_asg (pe_slice sl_tupA (pe_ix ix_tup (pv 0) (pv 1) (fun _ _ => rfl)) (po_some (gi T.int_LEFT)) (po_some (gi T.int_TURNED))) (pg_tup rfl (pgs_cons (pg_name (i := 4) sc_order_from.nd rfl (.inl rfl)) (pgs_cons (pg_name (i := 5) sc_order_from.nd rfl (.inl rfl)) pgs_nil)))) (pss_cons (ps_if (pt_val (pv 3)) (pss_one (ps_par (i := 4) (j := 5) rfl sc_order_from.nd rfl rfl (by decide) rfl rfl (pa_cons (pv 5) (pa_cons (pv 4) pa_nil)) (by rfl))) pss_nil) (pss_one (ps_ret (pe_op op_cat (pe_op op_cat (pe_call GR hr (by rfl) mR kR bR .nil pass0 (pa_cons (pv 0) (pa_cons (pv 4) (pa_cons (pv 3) pa_nil)))) (pe_lst (pa_cons (pv 1) pa_nil))) (pe_call GR hr (by rfl) mR kR bR .nil pass0 (pa_cons (pv 0) (pa_cons (pv 5) (pa_cons (pv 3) pa_nil))))))))))), ?_⟩
      have fin : ∀ (h : Nat) (x y : Option Nat) (way : Bool) (X Y : List Nat) (H1 : Hp) (v4 v5 : Option V), Same H H1 → o = some h → In s.length x → In s.length y → OrdR s k x way X → OrdR s k y way Y → l = X ++ h :: Y →
          (tRet (tOp rCat (tOp rCat (tCall (spOrd k) [] E0 (tCons (tVar 0) (tCons (tVar 4) (tCons (tVar 3) tNil)))) (tLst (tCons (tVar 1) tNil))) (tCall (spOrd k) [] E0 (tCons (tVar 0) (tCons (tVar 5) (tCons (tVar 3) tNil))))))
            { nx := fun _ H' => Q .non H', rt := Q } [some (.ref a), some (optV o), some (.bl b), some (.bl way), some (optV x), some (optV y)] H1 := by
        intro h x y way X Y H1 v4 v5 s1 eo hx hy ox oy el
        subst el eo
        have lX : X.length + Y.length + 1 ≤ 64 := by simp at ll; omega
        refine ⟨_, rfl, _, rfl, _, rfl, a, s, x, way, X, rfl, sh.same s1, wf, hx, ox, by omega, fun H2 p s2 np hp => ?_⟩
        refine ⟨_, rfl, by show 1 ≤ sizeLine; decide, fun p2 np2 => ?_⟩
        have hp' : (upd H2 p2 (.lst [nI h])) p = some (.lst (X.map nI)) := by rw [upd_ne (ne_of_none hp np2)]; exact hp
        refine ⟨p, p2, X.map nI, [nI h], rfl, rfl, hp', upd_same, le_line (by simp; omega), fun p3 np3 => ?_⟩
        have s3 : Same H1 (upd (upd H2 p2 (.lst [nI h])) p3 (.lst (X.map nI ++ [nI h]))) := (s2.trans (same_upd np2)).trans (same_upd np3)
        refine ⟨_, rfl, _, rfl, _, rfl, a, s, y, way, Y, rfl, sh.same (s1.trans s3), wf, hy, oy, by omega, fun H4 p4 s4 np4 hp4 => ?_⟩
        have hp3 := s4 _ _ (upd_same (H := upd H2 p2 (.lst [nI h])) (a := p3) (o := .lst (X.map nI ++ [nI h])))
        refine ⟨p3, p4, X.map nI ++ [nI h], Y.map nI, rfl, rfl, hp3, hp4, le_line (by simp; omega), fun p5 np5 => ?_⟩
        have s5 := (s1.trans s3).trans s4
        exact q _ p5 (s5.trans (same_upd np5)) (s5.free np5) (by rw [upd_same]; simp)
      refine ⟨_, rfl, rfl, _, rfl, ?_⟩
      rw [optV_non]
      cases od with
      | nil => exact iteT ⟨by show 0 ≤ sizeLine; decide, fun L nL => q _ L (same_upd nL) nL upd_same⟩
      | @back _ h _ X Y e o1 o2 =>
        obtain ⟨xs, r, ha, _, hi, hr'⟩ := sh.item (show h < s.length from ho)
        have wh := wf.at h
        refine iteF ⟨_, rfl, _, rfl, _, rfl, _, _, _, _, rfl, rfl, SqT.of (ha),  hi, _, _, _, _, rfl, rfl, SqT.of (hr'),  rfl, rfl, ?_⟩
        refine ⟨_, rfl, _, rfl, _, _, _, _, rfl, rfl, SqT.of (ha),  hi, 1, rfl, 3, rfl, r, _, rfl, .of hr', fun z => absurd (show (1 : Nat) = 0 from z.1) (by decide), fun _ t nt => ?_⟩
        refine ⟨t, _, rfl, SqT.of upd_same, rfl, _, _, rfl, _, _, rfl, rfl, ?_⟩
        have e' : (!decide (V.bl b = V.bl (g s h).tn)) = true := by rw [← e]; cases b <;> cases (g s h).tn <;> rfl
        rw [show (V.bl (!decide (V.bl b = V.bl (g s h).tn))) = V.bl true from by rw [e']]
        refine ⟨_, rfl, _, rfl, iteT ⟨_, rfl, _, rfl, _, _, rfl, ?_⟩⟩
        exact fin h _ _ true X Y _ none none (same_upd nt) rfl wh.2.2 wh.2.1 o1 o2 rfl
      | @forth _ h _ X Y e o1 o2 =>
        obtain ⟨xs, r, ha, _, hi, hr'⟩ := sh.item (show h < s.length from ho)
        have wh := wf.at h
        refine iteF ⟨_, rfl, _, rfl, _, rfl, _, _, _, _, rfl, rfl, SqT.of (ha),  hi, _, _, _, _, rfl, rfl, SqT.of (hr'),  rfl, rfl, ?_⟩
        refine ⟨_, rfl, _, rfl, _, _, _, _, rfl, rfl, SqT.of (ha),  hi, 1, rfl, 3, rfl, r, _, rfl, .of hr', fun z => absurd (show (1 : Nat) = 0 from z.1) (by decide), fun _ t nt => ?_⟩
        refine ⟨t, _, rfl, SqT.of upd_same, rfl, _, _, rfl, _, _, rfl, rfl, ?_⟩
        have e' : (!decide (V.bl b = V.bl (g s h).tn)) = false := by rw [← e]; cases b <;> cases (g s h).tn <;> rfl
        refine ⟨_, rfl, ?_⟩
        rw [show (V.bl (!decide (V.bl b = V.bl (g s h).tn))) = V.bl false from by rw [e']]
        exact ⟨_, rfl, fin h _ _ false X Y _ none none (same_upd nt) rfl wh.2.1 wh.2.2 o1 o2 rfl⟩
/-! ### rows -/
def spRow : Sp := fun vs H Q _ => ∃ (a : Addr) (s : Shp) (h : Nat) (l : List Nat), vs = [.ref a, .int h] ∧ ShAt H a s ∧ Wf s ∧ h < s.length ∧ OrdR s 64 (some h) false l ∧ l.length ≤ 64 ∧ ∀ H' p, Same H H' → H p = none → H' p = some (.tup (l.map nI)) → Q (.ref p) H'
theorem sc_row_from : FnScope ["shape", "top"] ["shape", "top"] (defScope s_row_from) := ⟨rfl, rfl, rfl, by decide +kernel, rfl, by decide +kernel, by decide +kernel⟩
theorem ok_row_from (T : Txt w K mg) : OkF P w K mg base 66 "row_from" ["shape", "top"] spRow := by
  obtain ⟨fR, dR, GR, mR, kR, bR⟩ := (ok_order (P := P) (base := base) T 64).ex
  refine okf T.glo_row_from T.fn_row_from sc_row_from (fun _ _ _ _ _ _ us hl => match us, hl with | [_, _], _ => rfl) (fun vs H Q E h => ?_) (fun cdv A outer s H vs Q E hr h => ?_)
  · obtain ⟨a, s, h, l, rfl, _⟩ := h; rfl
  · obtain ⟨a, s, h, l, rfl, sh, wf, hh, od, ll, q⟩ := h
    refine ⟨_, (pss_one (ps_ret (pe_callTy call_tuple_of (by rfl) T.free_tuple (by decide +kernel) (pa_cons (pe_call GR hr (by rfl) mR kR bR .nil pass0 (pa_cons (pv 0) (pa_cons (pv 1) (pa_cons pe_bl pa_nil)))) pa_nil)))), ?_⟩
    refine ⟨_, rfl, _, rfl, a, s, some h, false, l, rfl, sh, wf, hh, od, ll, fun H1 p s1 np hp => ?_⟩
    exact ⟨p, _, rfl, .inl ⟨SqL.of hp, fun t nt => q _ t (s1.trans (same_upd nt)) (s1.free nt) upd_same⟩⟩
def spTold : Sp := fun vs H Q _ => ∃ (a : Addr) (s : Shp) (h : Nat) (l : List Nat), vs = [.ref a, .int h] ∧ ShAt H a s ∧ Wf s ∧ h < s.length ∧ ChainR s h l ∧ ∀ H', Same H H' → Q (.int (g s h).val) H'
theorem sc_told_value : FnScope ["shape", "house", "found", "here"] ["shape", "house"] (defScope s_told_value) := ⟨rfl, rfl, rfl, by decide +kernel, rfl, by decide +kernel, by decide +kernel⟩
theorem ok_told_value (T : Txt w K mg) : OkF P w K mg base 2 "told_value" ["shape", "house"] spTold := by
  obtain ⟨fI, dI, GI, mI, kI, bI⟩ := (ok_is_son (P := P) (base := base) T).ex
  refine okf T.glo_told_value T.fn_told_value sc_told_value (fun _ _ _ _ _ _ us hl => match us, hl with | [_, _], _ => rfl) (fun vs H Q E h => ?_) (fun cdv A outer s H vs Q E hr h => ?_)
  · obtain ⟨a, s, h, l, rfl, _⟩ := h; rfl
  · obtain ⟨a, s, h, l, rfl, sh, wf, hh, ch, q⟩ := h
    obtain ⟨xs, r, ha, _, hi, hr'⟩ := sh.item hh
    refine ⟨_, (pss_cons (ps_set (i := 2) sc_told_value.nd rfl (.inl rfl) (pe_ix ix_tup (pe_ix ix_tup (pv 0) (pv 1) (fun _ _ => rfl)) (gi T.int_VALUE) (fun _ _ => rfl))) (pss_cons (ps_set (i := 3) sc_told_value.nd rfl (.inl rfl) (pv 1)) (pss_cons (ps_while PassesOwn.never (pt_val (pe_call GI hr (by rfl) mI kI bI .nil pass0 (pa_cons (pv 0) (pa_cons (pv 3) pa_nil)))) (pss_cons (ps_set (i := 3) sc_told_value.nd rfl (.inl rfl) (pe_ix ix_tup (pe_ix ix_tup (pv 0) (pv 3) (fun _ _ => rfl)) (gi T.int_UP) (fun _ _ => rfl))) (pss_one (ps_aug (i := 2) sc_told_value.nd rfl (.inl rfl) (pe_ix ix_tup (pe_ix ix_tup (pv 0) (pv 3) (fun _ _ => rfl)) (gi T.int_ADDED) (fun _ _ => rfl)) ip_add)))) (pss_one (ps_ret (pv 2)))))), ?_⟩
    refine ⟨_, rfl, _, rfl, _, _, _, _, rfl, rfl, SqT.of (ha),  hi, _, _, _, _, rfl, rfl, SqT.of (hr'),  rfl, _, rfl, ?_⟩
    refine ⟨fun m σ H2 => ∃ (x : Nat) (l : List Nat), Same H H2 ∧ x < s.length ∧ ChainR s x l ∧ l.length = m ∧ σ = [some (.ref a), some (.int h), some (.int (g s h).val), some (nI x)], ⟨_, h, l, .refl _, hh, ch, rfl, rfl⟩, ?_⟩
    rintro m σ H2 ⟨x, l, s2, hx, ch, hm, rfl⟩
    refine ⟨_, rfl, _, rfl, a, s, x, rfl, sh.same s2, wf, hx, fun H3 s3 => ⟨_, rfl, ?_⟩⟩
    have s23 := s2.trans s3
    cases ch with
    | stop e => rw [e]; exact iteF ⟨_, rfl, q _ s23⟩
    | @go _ u l e eu cu =>
      rw [e]
      have hu : u < s.length := by have := (wf.at x).1; rw [eu] at this; exact this
      refine iteT ⟨fun σ' H' => ∃ m' < m, ∃ (x : Nat) (l : List Nat), Same H H' ∧ x < s.length ∧ ChainR s x l ∧ l.length = m' ∧ σ' = [some (.ref a), some (.int h), some (.int (g s h).val), some (nI x)], fun σ' H' z => z, ?_⟩
      obtain ⟨xs1, r1, ha1, _, hi1, hr1⟩ := (sh.same s23).item hx
      obtain ⟨xs2, r2, ha2, _, hi2, hr2⟩ := (sh.same s23).item hu
      refine ⟨_, rfl, _, rfl, _, _, _, _, rfl, rfl, SqT.of (ha1),  hi1, _, _, _, _, rfl, rfl, SqT.of (hr1),  rfl, ?_⟩
      rw [eu]
      refine ⟨_, rfl, _, rfl, _, rfl, _, _, _, _, rfl, rfl, SqT.of (ha2),  hi2, _, _, _, _, rfl, rfl, SqT.of (hr2),  rfl, _, _, rfl, rfl, ?_⟩
      exact ⟨l.length, by rw [← hm]; simp, u, l, s23, hu, cu, rfl, by simp [nI]; rfl⟩
/-! ### all rows -/
structure RowAt (s : Shp) (par : Nat → Option Nat) (t : Nat) (row : List Nat) : Prop where
  ne : row ≠ []
  len : row.length ≤ 64
  ord : OrdR s 64 (some t) false row
  lt : ∀ k ∈ row, k < s.length
  chn : Chn par (g s t).up row
  top : t < s.length
def spRows : Sp := fun vs H Q _ => ∃ (a : Addr) (s : Shp) (par : Nat → Option Nat), vs = [.ref a] ∧ ShAt H a s ∧ Wf s ∧ s.length ≤ 64 ∧ (∀ t, t < s.length → isSon s t = false → ∃ row, RowAt s par t row) ∧
  ∀ H' p (ps : List Addr), Same H H' → H p = none → H' p = some (.lst (ps.map V.ref)) → ps.length ≤ 64 → (∀ q ∈ ps, ∃ t c row, H' q = some (.tup [nI t, .ref c]) ∧ H' c = some (.tup (row.map nI)) ∧ RowAt s par t row) → Q (.ref p) H'
theorem sc_all_rows : FnScope ["shape", "tops", "house", "top"] ["shape"] (defScope s_all_rows) := ⟨rfl, rfl, rfl, by decide +kernel, rfl, by decide +kernel, by decide +kernel⟩
theorem ok_all_rows (T : Txt w K mg) : OkF P w K mg base 67 "all_rows" ["shape"] spRows := by
  obtain ⟨fI, dI, GI, mI, kI, bI⟩ := (ok_is_son (P := P) (base := base) T).ex
  obtain ⟨fR, dR, GR, mR, kR, bR⟩ := (ok_row_from (P := P) (base := base) T).ex
  refine okf T.glo_all_rows T.fn_all_rows sc_all_rows (fun _ _ _ _ _ _ us hl => match us, hl with | [_], _ => rfl) (fun vs H Q E h => ?_) (fun cdv A outer s H vs Q E hr h => ?_)
  · obtain ⟨a, s, par, rfl, _⟩ := h; rfl
  · obtain ⟨a, s, par, rfl, sh, wf, l64, hrow, q⟩ := h
    obtain ⟨xs, ha, hxl⟩ := sh.tup
    have hr1 : Room 1 _ := hr.mono (by decide)
    refine ⟨_, (pss_cons (ps_setLc (i := 1) (g := gName 2) (te := tVar 2) (tt := tNot (tB (tCall spIsSon [] E0 (tCons (tVar 0) (tCons (tVar 2) tNil))))) (own := [("house", 2)]) rfl sc_all_rows.nd rfl rfl (sw_true rfl rfl rfl (by decide +kernel)) (pi_range1 (by rfl) T.free_range (pa_cons (pe_callB call_len_seq (by rfl) T.free_len PySem.boot_len (pa_cons (pv 0) pa_nil)) pa_nil)) (blkOk_by (N := ["shape", "tops", "house", "top"]) (sc := defScope s_all_rows) (by decide +kernel)) (fun _ _ _ _ _ => pg_name (i := 2) sc_all_rows.nd rfl (.inl rfl)) (fun _ _ _ _ _ => pts_one (pt_not (pt_val (pe_call GI hr1 (by rfl) mI kI bI .nil pass0 (pa_cons (pv 0) (pa_cons (pv 2) pa_nil)))))) (fun _ _ _ _ _ => pv 2)) (pss_one (ps_ret (pe_lc (own := [("top", 3)]) (g := gName 3) (te := tTup (tCons (tVar 3) (tCons (tCall spRow [] E0 (tCons (tVar 0) (tCons (tVar 3) tNil))) tNil))) rfl sc_all_rows.nd (pi_list (pv 1)) (blkOk_by (N := ["shape", "tops", "house", "top"]) (sc := defScope s_all_rows) (by decide +kernel)) (fun _ _ _ _ _ => pg_name (i := 3) sc_all_rows.nd rfl (.inl rfl)) (fun _ _ _ _ _ => pts_nil) (fun _ _ _ _ _ => pe_tup (pa_cons (pv 3) (pa_cons (pe_call GR hr (by rfl) mR kR bR .nil pass0 (pa_cons (pv 0) (pa_cons (pv 3) pa_nil))) pa_nil))))))), ?_⟩
    refine ⟨_, rfl, a, xs, rfl, .inr (.of ha), _, rfl, by omega, by omega, fun D nD => ?_⟩
    have e0 : ((xs.length : Int)).toNat = s.length := by simp [hxl]
    rw [e0]
    refine lc_range (fun i H1 => ∃ js : List Nat, Same H H1 ∧ js.length ≤ i ∧ (∀ j ∈ js, j < s.length ∧ isSon s j = false) ∧ H1 D = some (.lst (js.map nI))) ?_ ?_ ?_
    · exact ⟨[], same_upd nD, Nat.le_refl _, fun j hj => (nomatch hj), upd_same⟩
    · rintro i H1 hi ⟨js, s1, hj, hjl, hD⟩
      refine ⟨rfl, _, rfl, _, rfl, a, s, i, ?_, sh.same s1, wf, hi, fun H2 s2 => ⟨_, rfl, ?_⟩⟩
      · simp
      · cases e : isSon s i with
        | true => exact iteF ⟨js, s1.trans s2, by omega, hjl, s2 _ _ hD⟩
        | false =>
          refine iteT ⟨_, rfl, js.map nI, s2 _ _ hD, small1000 (by simp; omega), js ++ [i], same_off (s1.trans s2) nD, by simp; omega, fun j hj => ?_, by rw [upd_same]; simp [nI]⟩
          rcases List.mem_append.mp hj with z | z
          · exact hjl j z
          · rw [List.mem_singleton.mp z]; exact ⟨hi, e⟩
    · rintro H1 ⟨js, s1, hj, hjl, hD⟩
      refine ⟨_, rfl, D, rfl, ⟨_, SqL.of hD⟩, fun D2 nD2 => ?_⟩
      refine lc_rel (walk_list (K := K) (a := D) (xs := js.map nI)) nD2 (by simp; omega)
        (fun i v H => ∃ q t c row, v = .ref q ∧ q ≠ D2 ∧ c ≠ D2 ∧ H q = some (.tup [nI t, .ref c]) ∧ H c = some (.tup (row.map nI)) ∧ RowAt s par t row)
        (by rintro i v H H' st ⟨q, t, c, row, e1, e2, e3, e4, e5, e6⟩; exact ⟨q, t, c, row, e1, e2, e3, st _ _ e2 e4, st _ _ e3 e5, e6⟩) (fun H s2 => SqL.of (s2 _ _ hD)) ?_ ?_
      · rintro i x H2 _ Fin N hi s2 ⟨acc, hD2⟩ ⟨rfl, hx⟩ fin
        rw [List.getElem?_map] at hx
        obtain ⟨j, hj', rfl⟩ := Option.map_eq_some_iff.mp hx
        have jm := List.mem_of_getElem? hj'
        obtain ⟨jl, je⟩ := hjl j jm
        obtain ⟨row, R⟩ := hrow j jl je
        refine ⟨rfl, tyes ?_⟩
        refine ⟨_, rfl, _, rfl, _, rfl, a, s, j, row, rfl, sh.same (s1.trans s2), wf, jl, R.ord, R.len, fun H3 c s3 nc hc => ?_⟩
        refine ⟨by show 2 ≤ sizeLine; decide, fun t nt => ?_⟩
        have hD3 := s3 _ _ hD2
        refine fin _ _ (s3.trans (same_upd nt)) ⟨t, j, c, row, rfl, (ne_of_none hD3 nt).symm, ?_, upd_same, ?_, R⟩
        · exact (ne_of_none hD2 nc).symm
        · rw [upd_ne (ne_of_none hc nt)]; exact hc
      · intro H2 acc s2 hl hD2 hR
        obtain ⟨ps, rfl⟩ : ∃ ps : List Addr, acc = ps.map V.ref := by
          clear hD2
          have : ∀ (acc : List V), (∀ (i : Nat) (v : V), acc[i]? = some v → ∃ q, v = V.ref q) → ∃ ps : List Addr, acc = ps.map V.ref := by
            intro acc
            induction acc with
            | nil => exact fun _ => ⟨[], rfl⟩
            | cons v r ih =>
              intro h
              obtain ⟨q, rfl⟩ := h 0 v rfl
              obtain ⟨ps, e⟩ := ih fun i v hv => h (i + 1) v (by simpa using hv)
              exact ⟨q :: ps, by rw [e]; rfl⟩
          exact this acc fun i v hv => by
            obtain ⟨q, _, _, _, e, _⟩ := hR i v hv
            exact ⟨q, e⟩
        refine q H2 D2 ps (s1.trans s2) (s1.free nD2) hD2 (by simp at hl; omega) fun p hp => ?_
        obtain ⟨i, hi⟩ := List.getElem?_of_mem hp
        obtain ⟨p', t, c, row, e1, _, _, e4, e5, e6⟩ := hR i (.ref p) (by rw [List.getElem?_map, hi]; rfl)
        cases e1
        exact ⟨t, c, row, e4, e5, e6⟩
end
end G3
set_option Elab.async false
set_option linter.all false
set_option maxRecDepth 100000
set_option maxHeartbeats 4000000
/-! Forests. -/
namespace G3
open PySem PySem.Spec PyProof.Rows L2
open Lk (Part g isSon handOn setUp setSon Wf PIn In OrdR ChainR Acy Chn ctn Forests)
abbrev rLen (K : PySem.W.Frag) : List V → Hp → VK → Prop := fun xs H Q => ∃ p ys, xs = [V.ref p] ∧ (SqL K H p ys ∨ SqT K H p ys) ∧ Q (.int ys.length) H
abbrev tLen (K : PySem.W.Frag) (t : TE) : TE := tCB (rLen K) (tCons t tNil)
theorem bls_of {acc : List V} (h : ∀ (i : Nat) (v : V), acc[i]? = some v → v = .bl true) : ∃ bs : List Bool, acc = bs.map V.bl ∧ bs.all id = true := by
  induction acc with
  | nil => exact ⟨[], rfl, rfl⟩
  | cons v r ih =>
    obtain rfl := h 0 v rfl
    obtain ⟨bs, e, f⟩ := ih fun i v hv => h (i + 1) v (by simpa using hv)
    exact ⟨true :: bs, by rw [e]; rfl, by simp [f]⟩
/-- all stays but what lies at xs -/
def Offs (xs : List Addr) (H H' : Hp) : Prop := ∀ b o, b ∉ xs → H b = some o → H' b = some o
theorem Offs.of {xs : List Addr} {H H' : Hp} (e : Same H H') : Offs xs H H' := fun b o _ => e b o
theorem Offs.upd {xs : List Addr} {H H' : Hp} {a : Addr} {o : HO} (e : Offs xs H H') (h : a ∈ xs) : Offs xs H (L2.upd H' a o) := fun b z n g => by
  have ne : b ≠ a := fun q => n (by rw [q]; exact h)
  rw [upd_ne ne]; exact e b z n g
theorem Offs.trans {xs : List Addr} {H H1 H2 : Hp} (e : Offs xs H H1) (f : Offs xs H1 H2) : Offs xs H H2 := fun b o n g => f b o n (e b o n g)
theorem Offs.same {xs : List Addr} {H H1 H2 : Hp} (e : Offs xs H H1) (f : Same H1 H2) : Offs xs H H2 := fun b o n g => f b o (e b o n g)
theorem Offs.more {xs ys : List Addr} {H H1 : Hp} (e : Offs xs H H1) (h : ∀ a ∈ xs, a ∈ ys) : Offs ys H H1 := fun b o n g => e b o (fun q => n (h b q)) g
/-- what is new does not count -/
theorem Offs.new {xs : List Addr} {H H1 H2 : Hp} (e : Same H H1) (f : Offs xs H1 H2) (h : ∀ a ∈ xs, H a = none) : Same H H2 := fun b o g => f b o (fun q => by rw [h b q] at g; cases g) (e b o g)
theorem ShAt.offs {xs : List Addr} {H H' : Hp} {a : Addr} {s : Shp} (h : ShAt H a s) (e : Offs xs H H') (n : ∀ b ∈ xs, ∀ vs, H b ≠ some (.tup vs)) : ShAt H' a s := by
  obtain ⟨rs, h1, h2, h3⟩ := h.ex
  exact ⟨rs, e _ _ (fun q => n _ q _ h1) h1, h2, fun i r q => e _ _ (fun z => n _ z _ (h3 i r q)) (h3 i r q)⟩
def psF (ps : List (Option Nat)) : Nat → Option Nat := fun k => ps.getD k none
structure ParOk (ps : List (Option Nat)) : Prop where
  pos : 0 < ps.length
  le : ps.length ≤ 64
  acy : ∃ d, Acy ps.length (psF ps) d
theorem ParOk.lt {ps : List (Option Nat)} (h : ParOk ps) {k u : Nat} (hk : k < ps.length) (e : psF ps k = some u) : u < ps.length := by
  obtain ⟨d, A⟩ := h.acy
  exact (A k u hk e).1
theorem psF_at {ps : List (Option Nat)} {k : Nat} (hk : k < ps.length) : atI (ps.map optV) (k : Int) = some (optV (psF ps k)) := by
  refine atI_nat ?_
  unfold psF
  rw [List.getElem?_map, List.getD_eq_getElem?_getD, List.getElem?_eq_getElem hk]; rfl

section
variable {P : Program} {w : World} {K : PySem.W.Frag} {mg : Str → Option Value} {base : Heap}
def spCtn : Sp := fun vs H Q _ => ∃ (a : Addr) (ps : List (Option Nat)) (h : Nat), vs = [.ref a, .int h] ∧ H a = some (.tup (ps.map optV)) ∧ ParOk ps ∧ h < ps.length ∧ Q (.bl true) H
theorem sc_comes_to_none : FnScope ["parents", "house", "here", "turn"] ["parents", "house"] (defScope s_comes_to_none) := ⟨rfl, rfl, rfl, by decide +kernel, rfl, by decide +kernel, by decide +kernel⟩
theorem ok_comes_to_none (T : Txt w K mg) : OkF P w K mg base 1 "comes_to_none" ["parents", "house"] spCtn := by
  refine okf T.glo_comes_to_none T.fn_comes_to_none sc_comes_to_none (fun _ _ _ _ _ _ us hl => match us, hl with | [_, _], _ => rfl) (fun vs H Q E h => ?_) (fun cdv A outer s H vs Q E hr h => ?_)
  · obtain ⟨a, ps, h, rfl, _⟩ := h; rfl
  · obtain ⟨a, ps, h, rfl, ha, po, hh, q⟩ := h
    have l64 := po.le
    refine ⟨_, (pss_cons (ps_set (i := 2) sc_comes_to_none.nd rfl (.inl rfl) (pv 1)) (pss_cons (ps_for PassesOwn.never rfl (pi_range1 (by rfl) T.free_range (pa_cons (pe_callB call_len_seq (by rfl) T.free_len PySem.boot_len (pa_cons (pv 0) pa_nil)) pa_nil)) (pg_name (i := 3) sc_comes_to_none.nd rfl (.inl rfl)) (pss_cons (ps_set (i := 2) sc_comes_to_none.nd rfl (.inl rfl) (pe_ix ix_tup (pv 0) (pv 2) (fun _ _ => rfl))) (pss_one (ps_if (pt_cmpR op_isN (pv 2) pe_non (nomark _)) (pss_one (ps_ret pe_bl)) pss_nil)))) (pss_one (ps_ret pe_bl)))), ?_⟩
    refine ⟨_, rfl, _, rfl, a, _, rfl, .inr (.of ha), _, rfl, by simp <;> omega, by simp <;> omega, ?_⟩
    have e0 : (((ps.map optV).length : Int)).toNat = ps.length := by simp
    rw [e0]
    refine for_range (fun i σ H1 => H1 = H ∧ ∃ (x : Nat) (v : Option V), x < ps.length ∧ ctn (psF ps) (ps.length - i) x = true ∧ σ = [some (.ref a), some (.int h), some (nI x), v]) ?_ ?_ ?_
    · obtain ⟨d, A⟩ := po.acy
      exact ⟨rfl, h, none, hh, Lk.ctn_ok A ps.length [] h hh List.nodup_nil (fun y hy => (nomatch hy)) (by simp), rfl⟩
    · rintro i σ H1 hi ⟨rfl, x, v, hx, hc, rfl⟩
      refine ⟨_, rfl, _, rfl, _, _, _, _, rfl, rfl, SqT.of (ha),  psF_at hx, ?_⟩
      refine ⟨_, rfl, rfl, _, rfl, ?_⟩
      rw [optV_non]
      obtain ⟨m, hm⟩ : ∃ m, ps.length - i = m + 1 := ⟨ps.length - i - 1, by omega⟩
      rw [hm] at hc
      unfold ctn at hc
      cases e : psF ps x with
      | none => exact iteT q
      | some y =>
        rw [e] at hc
        exact iteF ⟨rfl, y, _, po.lt hx e, by rw [show ps.length - (i + 1) = m by omega]; exact hc, rfl⟩
    · rintro σ H1 ⟨rfl, x, v, hx, hc, rfl⟩
      rw [Nat.sub_self] at hc
      cases hc
def spPar : Sp := fun vs H Q _ => ∃ (a : Addr) (ps : List (Option Nat)), vs = [.ref a] ∧ H a = some (.tup (ps.map optV)) ∧ ParOk ps ∧ ∀ H', Same H H' → Q (.bl true) H'
theorem sc_are_parents : FnScope ["thing", "item", "house"] ["thing"] (defScope s_are_parents) := ⟨rfl, rfl, rfl, by decide +kernel, rfl, by decide +kernel, by decide +kernel⟩
theorem ok_are_parents (T : Txt w K mg) : OkF P w K mg base 4 "are_parents" ["thing"] spPar := by
  obtain ⟨fS, dS, GS, mS, kS, bS⟩ := (ok_is_sized (P := P) (base := base) T).ex
  obtain ⟨fB, dB, GB, mB, kB, bB⟩ := (ok_is_below (P := P) (base := base) T).ex
  obtain ⟨fC, dC, GC, mC, kC, bC⟩ := (ok_comes_to_none (P := P) (base := base) T).ex
  refine okf T.glo_are_parents T.fn_are_parents sc_are_parents (fun _ _ _ _ _ _ us hl => match us, hl with | [_], _ => rfl) (fun vs H Q E h => ?_) (fun cdv A outer s H vs Q E hr h => ?_)
  · obtain ⟨a, ps, rfl, _⟩ := h; rfl
  · obtain ⟨a, ps, rfl, ha, po, q⟩ := h
    have l64 := po.le
    have hr1 : Room 1 _ := hr.mono (by decide)
    refine ⟨_, (pss_cons (ps_if (pt_not (pt_val (pe_call GS hr1 (by rfl) mS kS bS .nil pass0 (pa_cons (pv 0) (pa_cons pe_int (pa_cons (gi T.int_MOST_HOUSES_checks) pa_nil)))))) pss_never pss_nil) (pss_cons (ps_if (pt_not (pt_val (pe_callB (cr_all rfl) (by rfl) T.free_all (by decide +kernel) (pa_cons (pe_lc (own := [("item", 1)]) (g := gName 1) (te := tOrV (tOp (fun x y H Q => y = V.non ∧ Q (.bl (decide (x = V.non))) H) (tVar 1) (tC .non)) (tCall spBelow [] E0 (tCons (tVar 1) (tCons (tLen K (tVar 0)) tNil)))) rfl sc_are_parents.nd (pi_tup (pv 0)) (blkOk_by (N := ["thing", "item", "house"]) (sc := defScope s_are_parents) (by decide +kernel)) (fun _ _ _ _ _ => pg_name (i := 1) sc_are_parents.nd rfl (.inl rfl)) (fun _ _ _ _ _ => pts_nil)
        (fun _ _ _ _ _ => pe_or (pe_cmpR op_isN (pv 1) pe_non (nomark _)) (pe_one (pe_call GB hr (by rfl) mB kB bB .nil pass0 (pa_cons (pv 1) (pa_cons (pe_callB call_len_seq (by rfl) T.free_len PySem.boot_len (pa_cons (pv 0) pa_nil)) pa_nil)))))) pa_nil)))) pss_never pss_nil) (pss_one (ps_ret (pe_callB (cr_all rfl) (by rfl) T.free_all (by decide +kernel) (pa_cons (pe_lc (own := [("house", 2)]) (g := gName 2) (te := tCall spCtn [] E0 (tCons (tVar 0) (tCons (tVar 2) tNil))) rfl sc_are_parents.nd (pi_range1 (by rfl) T.free_range (pa_cons (pe_callB call_len_seq (by rfl) T.free_len PySem.boot_len (pa_cons (pv 0) pa_nil)) pa_nil)) (blkOk_by (N := ["thing", "item", "house"]) (sc := defScope s_are_parents) (by decide +kernel)) (fun _ _ _ _ _ => pg_name (i := 2) sc_are_parents.nd rfl (.inl rfl)) (fun _ _ _ _ _ => pts_nil) (fun _ _ _ _ _ => (pe_call GC hr1 (by rfl) mC kC bC .nil pass0 (pa_cons (pv 0) (pa_cons (pv 2) pa_nil))))) pa_nil)))))), ?_⟩
    refine ⟨_, rfl, a, _, 1, 64, rfl, ha, by simp <;> omega, by have := po.pos; simp <;> omega, by simp <;> omega, _, rfl, iteF ?_⟩
    have len64 : (ps.map optV).length ≤ 1000 := by simp <;> omega
    refine ⟨_, rfl, a, rfl, ⟨_, SqT.of ha⟩, fun D nD => ?_⟩
    refine lc_rel (walk_tup (K := K) (a := a) (xs := ps.map optV)) nD (by omega) (fun _ v _ => v = .bl true) (fun _ _ _ _ _ h => h) (fun H s1 => SqT.of (s1 _ _ ha)) ?_ ?_
    · rintro i x H2 _ Fin N hi s2 _ ⟨rfl, hx⟩ fin
      have il : i < ps.length := by simpa using hi
      have ex : x = optV (psF ps i) := by
        have h1 := psF_at il
        rw [atI_nat hx] at h1
        exact Option.some.inj h1
      subst ex
      refine ⟨rfl, tyes ⟨_, rfl, rfl, _, rfl, ?_⟩⟩
      rw [optV_non]
      cases e : psF ps i with
      | none => exact iteT (fin _ _ (.refl _) rfl)
      | some u =>
        have ul := po.lt il e
        refine iteF ⟨_, rfl, _, rfl, a, _, rfl, .inr (.of (s2 _ _ ha)), (u : Int), ((ps.map optV).length : Int), rfl, fin _ _ (.refl _) ?_⟩
        rw [decide_eq_true ⟨by omega, by simp <;> omega⟩]
    · intro H1 acc s1 _ hD hR
      obtain ⟨bs, rfl, hb⟩ := bls_of hR
      refine ⟨D, bs, rfl, SqL.of hD, _, rfl, ?_⟩
      rw [hb]
      refine iteF ?_
      have ha1 := s1 _ _ ha
      refine ⟨_, rfl, a, _, rfl, .inr (.of ha1), _, rfl, by simp <;> omega, by simp <;> omega, fun D2 nD2 => ?_⟩
      refine lc_rel (walk_range (lo := 0) (n := (((ps.map optV).length : Int)).toNat)) nD2 (by simp <;> omega) (fun _ v _ => v = .bl true) (fun _ _ _ _ _ h => h) (fun _ _ => trivial) ?_ ?_
      · rintro i x H2 _ Fin N hi s2 _ ⟨rfl, rfl⟩ fin
        refine ⟨rfl, tyes ⟨_, rfl, _, rfl, a, ps, i, ?_, s2 _ _ ha1, po, by simpa using hi, fin _ _ (.refl _) rfl⟩⟩
        simp
      · intro H2 acc s2 _ hD hR
        obtain ⟨bs, rfl, hb⟩ := bls_of hR
        refine ⟨D2, bs, rfl, SqL.of hD, ?_⟩
        rw [hb]
        exact q H2 (s1.trans s2)
/-! ### a forest -/
abbrev cF (K : PySem.W.Frag) : Addr := He.ga K "Forest"
def spIsI : Sp := fun vs H Q _ => ∃ i : Int, vs = [.int i] ∧ Q (.bl true) H
def spForI : Sp := fun vs H Q _ => ∃ (x pa wa dx : Addr) (ps : List (Option Nat)) (ws : List Int), vs = [.ref x, .ref pa, .ref wa] ∧ H x = some (.ins (cF K) dx []) ∧ H pa = some (.tup (ps.map optV)) ∧ ParOk ps ∧ H wa = some (.tup (ws.map V.int)) ∧ ws.length = ps.length ∧
  ∀ H', Offs [x] H H' → H' x = some (.ins (cF K) dx [("parents", .ref pa), ("worths", .ref wa)]) → Q .non H'
theorem sc_Forest_init : FnScope ["self", "parents", "worths", "value"] ["self", "parents", "worths"] (defScope s_Forest___init__) := ⟨rfl, rfl, rfl, by decide +kernel, rfl, by decide +kernel, by decide +kernel⟩
theorem ok_Forest_init (T : Txt w K mg) : OkI P w K mg base 5 "Forest" ["self", "parents", "worths"] (spForI (K := K)) := by
  obtain ⟨fS, dS, GS, mS, kS, bS⟩ := (ok_is_sized (P := P) (base := base) T).ex
  obtain ⟨fR, dR, GR, mR, kR, bR⟩ := (ok_are_parents (P := P) (base := base) T).ex
  obtain ⟨fI, dI, GI, mI, kI, bI⟩ := (ok_is_integer (P := P) (base := base) T).ex
  refine oki T.mkr_Forest T.glo_Forest T.fn_Forest___init__ sc_Forest_init (fun _ _ _ _ _ _ us hl => match us, hl with | [_, _, _], _ => rfl) (fun vs H Q E h => ?_) (fun cdv A outer s H vs Q E hr h => ?_)
  · obtain ⟨x, pa, wa, dx, ps, ws, rfl, _⟩ := h; rfl
  · obtain ⟨x, pa, wa, dx, ps, ws, rfl, hx, hpa, po, hwa, wl, q⟩ := h
    have hr1 : Room 1 _ := hr.mono (by decide)
    have l64 := po.le
    refine ⟨_, (pss_cons (ps_if (pt_not (pt_val (pe_call GR hr (by rfl) mR kR bR .nil pass0 (pa_cons (pv 1) pa_nil)))) pss_never pss_nil) (pss_cons (ps_if (pw_or (pt_not (pt_val (pe_call GS hr1 (by rfl) mS kS bS .nil pass0 (pa_cons (pv 2) (pa_cons (pe_callB call_len_seq (by rfl) T.free_len PySem.boot_len (pa_cons (pv 1) pa_nil)) (pa_cons (pe_callB call_len_seq (by rfl) T.free_len PySem.boot_len (pa_cons (pv 1) pa_nil)) pa_nil)))))) (pw_or1 (pt_not (pt_val (pe_callB (cr_all rfl) (by rfl) T.free_all (by decide +kernel) (pa_cons (pe_lc (own := [("value", 3)]) (g := gName 3) (te := tCall spIsI [] E0 (tCons (tVar 3) tNil)) rfl sc_Forest_init.nd (pi_tup (pv 2)) (blkOk_by (N := ["self", "parents", "worths", "value"]) (sc := defScope s_Forest___init__) (by decide +kernel)) (fun _ _ _ _ _ => pg_name (i := 3) sc_Forest_init.nd rfl (.inl rfl)) (fun _ _ _ _ _ => pts_nil) (fun _ _ _ _ _ => (pe_call GI hr1 (by rfl) mI kI bI .nil pass0 (pa_cons (pv 3) pa_nil)))) pa_nil)))))).pt pss_never pss_nil) (pss_cons (ps_fld (pv 0) (pv 1) (by rfl)) (pss_one (ps_fld (pv 0) (pv 2) (by rfl)))))), ?_⟩
    refine ⟨_, rfl, pa, ps, rfl, hpa, po, fun H1 s1 => ⟨_, rfl, iteF ?_⟩⟩
    have hpa1 := s1 _ _ hpa
    have hwa1 := s1 _ _ hwa
    refine ⟨_, rfl, _, rfl, pa, _, rfl, .inr (.of hpa1), _, rfl, pa, _, rfl, .inr (.of hpa1), wa, _, ((ps.map optV).length : Int), ((ps.map optV).length : Int), rfl, hwa1, by simp <;> omega, by simp <;> omega, by simp <;> omega, _, rfl, ?_⟩
    refine iteF ⟨_, rfl, wa, rfl, ⟨_, SqT.of hwa1⟩, fun D nD => ?_⟩
    refine lc_rel (walk_tup (K := K) (a := wa) (xs := ws.map V.int)) nD (by simp <;> omega) (fun _ v _ => v = .bl true) (fun _ _ _ _ _ h => h) (fun H s2 => SqT.of (s2 _ _ hwa1)) ?_ ?_
    · rintro i v H2 _ Fin N hi s2 _ ⟨rfl, hv⟩ fin
      rw [List.getElem?_map] at hv
      obtain ⟨z, hz, rfl⟩ := Option.map_eq_some_iff.mp hv
      exact ⟨rfl, tyes ⟨_, rfl, z, rfl, fin _ _ (.refl _) rfl⟩⟩
    · intro H2 acc s2 _ hD hR
      obtain ⟨bs, rfl, hb⟩ := bls_of hR
      refine ⟨D, bs, rfl, SqL.of hD, _, rfl, ?_⟩
      rw [hb]
      have hx2 := s2 _ _ (s1 _ _ hx)
      refine iteF ⟨_, rfl, _, rfl, x, _, dx, _, rfl, hx2, T.cls_Forest, T.noat_Forest_parents, by decide, ?_⟩
      refine ⟨_, rfl, _, rfl, x, _, dx, _, rfl, upd_same, T.cls_Forest, T.noat_Forest_worths, (show (1 : Nat) < 1000 by decide), ?_⟩
      refine q _ ?_ upd_same
      exact ((Offs.of (s1.trans s2)).upd (by simp)).upd (by simp)
end
end G3
set_option Elab.async false
set_option linter.all false
set_option maxRecDepth 100000
set_option maxHeartbeats 4000000
/-! A forest told, a shape that rests. -/
namespace G3
open PySem PySem.Spec PyProof.Rows L2
open Lk (Part g isSon handOn setUp setSon Wf PIn In OrdR ChainR Acy Chn ctn Forests)
theorem walk_zipT {K : PySem.W.Frag} {a b : Addr} {xs ys : List V} {n : Nat} (hn : n = min xs.length ys.length) : Walk (RZ.ItzT K a b) n (fun H => SqT K H a xs ∧ SqT K H b ys) (YPair (fun i => xs[i]?) (fun i => ys[i]?)) := by
  subst hn
  refine ⟨fun i H hi q => ⟨xs, ys, xs[i]'(by omega), ys[i]'(by omega), q.1, q.2, List.getElem?_eq_getElem (by omega), List.getElem?_eq_getElem (by omega)⟩, fun H q => ⟨xs, ys, q.1, q.2, by omega⟩, fun i H v H' hi q y => ?_⟩
  obtain ⟨t, x, z, h1, h2, h3, h4, h5⟩ := y
  exact ⟨t, x, z, h1, h2, h3, h4 xs q.1, h5 ys q.2⟩
theorem refs_of {acc : List V} (h : ∀ (i : Nat) (v : V), acc[i]? = some v → ∃ r, v = V.ref r) : ∃ rs : List Addr, acc = rs.map V.ref := by
  induction acc with
  | nil => exact ⟨[], rfl⟩
  | cons v r ih =>
    obtain ⟨a, rfl⟩ := h 0 v rfl
    obtain ⟨rs, e⟩ := ih fun i v hv => h (i + 1) v (by simpa using hv)
    exact ⟨a :: rs, by rw [e]; rfl⟩
/-- the entries are none or as par has them -/
structure Sub (s : Shp) (par : Nat → Option Nat) (ps : List (Option Nat)) : Prop where
  len : ps.length = s.length
  sub : ∀ k, psF ps k = none ∨ psF ps k = par k
theorem psF_set {ps : List (Option Nat)} {k i : Nat} {v : Option Nat} : psF (ps.set k v) i = if k = i ∧ i < ps.length then v else psF ps i := by
  unfold psF
  rw [List.getD_eq_getElem?_getD, List.getD_eq_getElem?_getD, List.getElem?_set]
  by_cases e : k = i
  · subst e
    by_cases l : k < ps.length
    · simp [l]
    · simp [l]
  · simp [e]
theorem Sub.set {s : Shp} {par : Nat → Option Nat} {ps : List (Option Nat)} (h : Sub s par ps) {k : Nat} {v : Option Nat} (e : par k = v) : Sub s par (ps.set k v) := by
  refine ⟨by rw [List.length_set]; exact h.len, fun i => ?_⟩
  rw [psF_set]
  split
  · next c => right; rw [← c.1]; exact e.symm
  · exact h.sub i
theorem Sub.ok {s : Shp} {par : Nat → Option Nat} {d : Nat → Nat} {ps : List (Option Nat)} (h : Sub s par ps) (A : Acy s.length par d) (l64 : s.length ≤ 64) (pos : 0 < s.length) : ParOk ps := by
  refine ⟨by rw [h.len]; exact pos, by rw [h.len]; exact l64, d, fun x y hx e => ?_⟩
  rw [h.len] at hx ⊢
  rcases h.sub x with q | q
  · rw [q] at e; cases e
  · exact A x y hx (q ▸ e)
theorem Chn.next {par : Nat → Option Nat} : ∀ {l : List Nat} {u : Option Nat} {i x y : Nat}, Chn par u l → l[i]? = some x → l[i + 1]? = some y → par y = some x := by
  intro l
  induction l with
  | nil => intro u i x y _ h; simp at h
  | cons a l ih =>
    intro u i x y c h1 h2
    cases i with
    | zero =>
      cases l with
      | nil => simp at h2
      | cons b l =>
        have e1 : a = x := by simpa using h1
        have e2 : b = y := by simpa using h2
        rw [← e1, ← e2]; exact c.2.1
    | succ i => exact ih c.2 (by simpa using h1) (by simpa using h2)
theorem optV_set {ps : List (Option Nat)} {k : Nat} {v : Option Nat} : (ps.map optV).set k (optV v) = (ps.set k v).map optV := by rw [List.map_set]

section
variable {P : Program} {w : World} {K : PySem.W.Frag} {mg : Str → Option Value} {base : Heap}
def ForAt (K : PySem.W.Frag) (H : Hp) (f : Addr) (ps : List (Option Nat)) (ws : List Int) : Prop := ∃ dx pa wa, H f = some (.ins (cF K) dx [("parents", .ref pa), ("worths", .ref wa)]) ∧ H pa = some (.tup (ps.map optV)) ∧ H wa = some (.tup (ws.map V.int))
def spForestOf : Sp := fun vs H Q _ => ∃ (a : Addr) (s : Shp), vs = [.ref a] ∧ ShAt H a s ∧ Forests s ∧ s.length ≤ 64 ∧ 0 < s.length ∧ ∀ H' f ps ws, Same H H' → ForAt K H' f ps ws → ParOk ps → ps.length = s.length → ws.length = s.length → Q (.ref f) H'
theorem sc_forest_of : FnScope ["shape", "parents", "top", "row", "one", "other", "house"] ["shape"] (defScope s_forest_of) := ⟨rfl, rfl, rfl, by decide +kernel, rfl, by decide +kernel, by decide +kernel⟩
theorem ok_forest_of (T : Txt w K mg) : OkF P w K mg base 68 "forest_of" ["shape"] (spForestOf (K := K)) := by
  obtain ⟨fR, dR, GR, mR, kR, bR⟩ := (ok_all_rows (P := P) (base := base) T).ex
  obtain ⟨fV, dV, GV, mV, kV, bV⟩ := (ok_told_value (P := P) (base := base) T).ex
  obtain ⟨fF, dF, GF, mF, gF, bF⟩ := (ok_Forest_init (P := P) (base := base) T).ex
  refine okf T.glo_forest_of T.fn_forest_of sc_forest_of (fun _ _ _ _ _ _ us hl => match us, hl with | [_], _ => rfl) (fun vs H Q E h => ?_) (fun cdv A outer s H vs Q E hr h => ?_)
  · obtain ⟨a, s, rfl, _⟩ := h; rfl
  · obtain ⟨a, s, rfl, sh, fo, l64, pos, q⟩ := h
    obtain ⟨xs, ha, hxl⟩ := sh.tup
    have wf := fo.wf
    have hr2 : Room 2 _ := hr.mono (by decide)
    have hr6 : Room 6 _ := hr.mono (by decide)
    refine ⟨_, (pss_cons (ps_set (i := 1) sc_forest_of.nd rfl (.inl rfl) (pe_op op_rep (pe_lst (pa_cons pe_non pa_nil)) (pe_callB call_len_seq (by rfl) T.free_len PySem.boot_len (pa_cons (pv 0) pa_nil)))) (pss_cons (ps_for PassesOwn.never rfl (pi_list (pe_call GR hr (by rfl) mR kR bR .nil pass0 (pa_cons (pv 0) pa_nil))) (pg_tup rfl (pgs_cons (pg_name (i := 2) sc_forest_of.nd rfl (.inl rfl)) (pgs_cons (pg_name (i := 3) sc_forest_of.nd rfl (.inl rfl)) pgs_nil))) (pss_cons (ps_for PassesOwn.never rfl (RZ.pi_zipA (by rfl) T.free_zip (pa_cons (pv 3) (pa_cons (pe_slice sl_tupA (pv 3) (po_some pe_int) po_none) pa_nil))) (pg_tup rfl (pgs_cons (pg_name (i := 4) sc_forest_of.nd rfl (.inl rfl)) (pgs_cons (pg_name (i := 5) sc_forest_of.nd rfl (.inl rfl)) pgs_nil))) (pss_one (ps_asg (pv 4) (pg_sub (pv 1) (pv 5) set_list)))) (pss_one (ps_asg (pe_ix ix_tup (pe_ix ix_tup (pv 0) (pv 2) (fun _ _ => rfl)) (gi T.int_UP) (fun _ _ => rfl)) (pg_sub (pv 1) (pe_ix ix_tup (pv 3) pe_int (fun _ _ => rfl)) set_list))))) (pss_one (ps_ret (pe_make mF GF hr6 (by rfl) gF bF .nil pass0 (pa_cons (pe_callTy call_tuple_of (by rfl) T.free_tuple (by decide +kernel) (pa_cons (pv 1) pa_nil)) (pa_cons (pe_callTy call_tuple_of (by rfl) T.free_tuple (by decide +kernel) (pa_cons (pe_lc (own := [("house", 6)]) (g := gName 6) (te := tCall spTold [] E0 (tCons (tVar 0) (tCons (tVar 6) tNil))) rfl sc_forest_of.nd (pi_range1 (by rfl) T.free_range (pa_cons (pe_callB call_len_seq (by rfl) T.free_len PySem.boot_len (pa_cons (pv 0) pa_nil)) pa_nil)) (blkOk_by (N := ["shape", "parents", "top", "row", "one", "other", "house"]) (sc := defScope s_forest_of) (by decide +kernel)) (fun _ _ _ _ _ => pg_name (i := 6) sc_forest_of.nd rfl (.inl rfl)) (fun _ _ _ _ _ => pts_nil) (fun _ _ _ _ _ => (pe_call GV hr2 (by rfl) mV kV bV .nil pass0 (pa_cons (pv 0) (pa_cons (pv 6) pa_nil))))) pa_nil)) pa_nil))))))), ?_⟩
    obtain ⟨par, d, A, hrow⟩ := fo.ex
    have hrow' : ∀ t, t < s.length → isSon s t = false → ∃ row, RowAt s par t row := fun t ht e => by
      obtain ⟨row, h1, h2, h3, h4, h5⟩ := hrow t ht e
      exact ⟨row, h1, h2, h3, h4, h5, ht⟩
    refine ⟨by show 1 ≤ sizeLine; decide, fun p0 n0 => ?_⟩
    refine ⟨_, rfl, a, xs, rfl, .inr (.of (by rw [upd_ne (ne_of_none ha n0)]; exact ha)), p0, _, _, rfl, rfl, upd_same, by omega, by omega, le_line (by simp; omega), fun L n1 => ?_⟩
    have s1 := (same_upd (o := .lst [.non]) n0).trans (same_upd (o := .lst (List.replicate ((xs.length : Nat) : Int).toNat [V.non]).flatten) n1)
    have nL : H L = none := (same_upd (o := .lst [V.non]) n0).free n1
    have hL1 : upd (upd H p0 (.lst [.non])) L (.lst (List.replicate ((xs.length : Nat) : Int).toNat [V.non]).flatten) L = some (.lst ((List.replicate s.length (none : Option Nat)).map optV)) := by
      rw [upd_same, rep_flat, List.map_replicate, hxl]; simp [optV]
    generalize upd (upd H p0 (.lst [.non])) L (.lst (List.replicate ((xs.length : Nat) : Int).toNat [V.non]).flatten) = H1 at s1 hL1
    refine ⟨_, rfl, a, s, par, rfl, sh.same s1, wf, l64, hrow', fun H2 rl rs s2 nl hrl rsl hrs => ?_⟩
    have hL2 := s2 _ _ hL1
    have nLr : rl ≠ L := ne_of_none hL1 nl |>.symm
    have s02 := s1.trans s2
    have tupL : ∀ {b vs}, H2 b = some (.tup vs) → b ∉ [L] := fun {b vs} e z => by
      rw [List.mem_singleton.mp z, hL2] at e; cases e
    have tl : ∀ b ∈ [L], ∀ vs, H2 b ≠ some (.tup vs) := fun b z vs e => tupL e z
    have sh2 := sh.same s02
    refine ⟨rl, rfl, ⟨_, SqL.of hrl⟩, for_list (K := K) (a := rl) (xs := rs.map V.ref)
      (fun i σ H3 => ∃ ps v2 v3 v4 v5, Offs [L] H2 H3 ∧ H3 L = some (.lst (ps.map optV)) ∧ Sub s par ps ∧ σ = [some (.ref a), some (.ref L), v2, v3, v4, v5, none]) ?_ ?_ ?_ ?_⟩
    · exact ⟨_, none, none, none, none, .of (.refl _), hL2, ⟨by simp, fun k => .inl (by unfold psF; rw [List.getD_eq_getElem?_getD, List.getElem?_replicate]; split <;> rfl)⟩, rfl⟩
    · rintro i σ H3 _ ⟨ps, v2, v3, v4, v5, o3, _⟩
      exact SqL.of (o3 _ _ (by simp [nLr]) hrl)
    · rintro i x σ H3 hx ⟨ps, v2, v3, v4, v5, o3, hL3, sub, rfl⟩
      rw [List.getElem?_map] at hx
      obtain ⟨q', hq', rfl⟩ := Option.map_eq_some_iff.mp hx
      obtain ⟨t, c, row, hq2, hc2, R⟩ := hrs q' (List.mem_of_getElem? hq')
      have hq3 := o3 _ _ (tupL hq2) hq2
      have hc3 := o3 _ _ (tupL hc2) hc2
      have rl64 := R.len
      obtain ⟨h0, rest, er⟩ : ∃ h0 rest, row = h0 :: rest := by
        cases e : row with
        | nil => exact absurd e R.ne
        | cons h0 rest => exact ⟨h0, rest, rfl⟩
      refine ⟨q', _, rfl, SqT.of hq3, rfl, _, _, rfl, _, _, rfl, rfl, ?_⟩
      refine ⟨_, rfl, _, rfl, _, rfl, c, _, rfl, .of hc3, fun z => ?_, fun _ p np => ?_⟩
      · exfalso
        have := z.1
        rw [show (1 : Int) = ((1 : Nat) : Int) from rfl, HT.sIx_nat, er] at this
        simp at this
      have hp4 : upd H3 p (.tup (cutV (row.map nI) (some 1) none)) p = some (.tup (rest.map nI)) := by
        rw [upd_same, show (1 : Int) = ((1 : Nat) : Int) from rfl, cut_from _ _ (by rw [er]; simp), er]; rfl
      have s34 := same_upd (o := .tup (cutV (row.map nI) (some 1) none)) np
      generalize upd H3 p (.tup (cutV (row.map nI) (some 1) none)) = H4 at hp4 s34
      have hc4 := s34 _ _ hc3
      have hL4 := s34 _ _ hL3
      have o4 : Offs [L] H2 H4 := o3.same s34
      have cL : c ≠ L := fun z => tupL hc2 (by simp [z])
      have pL : p ≠ L := (ne_of_none hL3 np).symm
      refine ⟨c, p, _, _, rfl, .inr ⟨SqT.of hc4, SqT.of hp4, ?_⟩⟩
      refine for_it (walk_zipT (K := K) (a := c) (b := p) (xs := row.map nI) (ys := rest.map nI) (n := rest.length) (by rw [er]; simp))
        (fun i σ H5 => ∃ ps v4 v5, Offs [L] H2 H5 ∧ H5 c = some (.tup (row.map nI)) ∧ H5 p = some (.tup (rest.map nI)) ∧ H5 L = some (.lst (ps.map optV)) ∧ Sub s par ps ∧ σ = [some (.ref a), some (.ref L), some (nI t), some (.ref c), v4, v5, none]) ?_ ?_ ?_ ?_
      · exact ⟨ps, v4, v5, o4, hc4, hp4, hL4, sub, rfl⟩
      · rintro i σ H5 _ ⟨ps, v4, v5, _, g1, g2, _⟩
        exact ⟨SqT.of g1, SqT.of g2⟩
      · rintro i x σ H5 H6 hi ⟨ps, v4, v5, o5, g1, g2, g3, sub, rfl⟩ ⟨u, x1, x2, rfl, nu, rfl, e1, e2⟩
        have e1 : (row.map nI)[i]? = some x1 := e1
        have e2 : (rest.map nI)[i]? = some x2 := e2
        rw [List.getElem?_map] at e1 e2
        obtain ⟨j1, k1, rfl⟩ := Option.map_eq_some_iff.mp e1
        obtain ⟨j2, k2, rfl⟩ := Option.map_eq_some_iff.mp e2
        have k2' : row[i + 1]? = some j2 := by rw [er]; simpa using k2
        have l2 : j2 < s.length := R.lt _ (List.mem_of_getElem? k2')
        have pj := Chn.next R.chn k1 k2'
        have uL : u ≠ L := (ne_of_none g3 nu).symm
        have s56 := same_upd (o := .tup [nI j1, nI j2]) nu
        refine ⟨u, _, rfl, SqT.of upd_same, rfl, _, _, rfl, _, _, rfl, rfl, ?_⟩
        refine ⟨_, rfl, _, rfl, _, rfl, L, _, j2, j2, rfl, rfl, s56 _ _ g3, ?_, ?_⟩
        · unfold ixN; rw [if_pos (by omega), if_pos (by simp [sub.len]; omega)]; simp
        · refine ⟨ps.set j2 (some j1), _, _, (o5.same s56).upd (by simp), ?_, ?_, ?_, sub.set pj, rfl⟩
          · rw [upd_ne cL]; exact s56 _ _ g1
          · rw [upd_ne pL]; exact s56 _ _ g2
          · rw [upd_same, ← optV_set]; rfl
      · rintro σ H5 ⟨ps, v4, v5, o5, g1, g2, g3, sub, rfl⟩
        obtain ⟨xs5, r5, ha5, _, hi5, hr5⟩ := (sh2.offs o5 tl).item R.top
        have h0l : h0 < s.length := R.lt h0 (by rw [er]; simp)
        have p0 : par h0 = (g s t).up := by have := R.chn; rw [er] at this; exact this.1
        refine ⟨_, rfl, _, rfl, _, _, _, _, rfl, rfl, SqT.of (ha5),  hi5, _, _, _, _, rfl, rfl, SqT.of (hr5),  rfl, ?_⟩
        refine ⟨_, rfl, _, rfl, _, _, _, _, rfl, rfl, SqT.of (g1),  by rw [er]; exact atI_nat rfl, L, _, h0, h0, rfl, rfl, g3, ?_, ?_⟩
        · unfold ixN; rw [if_pos (by omega), if_pos (by simp [sub.len] <;> omega)]; simp
        · exact ⟨ps.set h0 (g s t).up, _, _, _, _, o5.upd (by simp), by rw [upd_same, ← optV_set], sub.set p0, rfl⟩
    · rintro σ H3 ⟨ps, v2, v3, v4, v5, o3, hL3, sub, rfl⟩
      have sh3 := sh2.offs o3 tl
      have po := sub.ok A l64 pos
      have s03 : Same H H3 := Offs.new s02 o3 (by simp [nL])
      obtain ⟨xs3, ha3, hxl3⟩ := sh3.tup
      refine ⟨_, rfl, L, _, rfl, .inl ⟨SqL.of hL3, fun pa npa => ?_⟩⟩
      have s34 := same_upd (o := .tup (ps.map optV)) npa
      refine ⟨_, rfl, a, xs3, rfl, .inr (.of (s34 _ _ ha3)), _, rfl, by omega, by omega, fun D nD => ?_⟩
      refine lc_rel (walk_range (lo := 0) (n := ((xs3.length : Int)).toNat)) nD (by simp; omega) (fun i v _ => v = .int (g s i).val) (fun _ _ _ _ _ h => h) (fun _ _ => trivial) ?_ ?_
      · rintro i x H5 _ Fin N hi s5 _ ⟨rfl, rfl⟩ fin
        have il : i < s.length := by simp at hi; omega
        obtain ⟨l, _, ch⟩ := fo.chain i il
        refine ⟨rfl, tyes ⟨_, rfl, _, rfl, a, s, i, l, ?_, (sh3.same s34).same s5, wf, il, ch, fun H6 s6 => fin _ _ s6 rfl⟩⟩
        simp
      · intro H5 acc s5 la hD hR
        obtain ⟨ws, rfl⟩ := ints_of fun i v hv => ⟨_, hR i v hv⟩
        refine ⟨D, _, rfl, .inl ⟨SqL.of hD, fun wa nwa => ?_⟩⟩
        have s56 := same_upd (o := .tup (ws.map V.int)) nwa
        have hpa6 := s56 _ _ (s5 _ _ (upd_same (H := H3) (a := pa) (o := .tup (ps.map optV))))
        have hwa6 := upd_same (H := H5) (a := wa) (o := .tup (ws.map V.int))
        generalize upd H5 wa (.tup (ws.map V.int)) = H6 at s56 hpa6 hwa6
        intro f dx nf ndx nfd
        have s67 := (same_upd (o := .own f) ndx).trans (same_upd (o := .ins (cF K) dx []) (p := f) (H := upd H6 dx (.own f)) (by rw [upd_ne (Ne.symm nfd)]; exact nf))
        refine ⟨f, pa, wa, dx, ps, ws, rfl, upd_same, s67 _ _ hpa6, po, s67 _ _ hwa6, ?_, fun H7 o7 hf7 => ⟨rfl, ?_⟩⟩
        · rw [sub.len]; simpa [hxl3] using la
        · have fpa : pa ∉ [f] := fun z => by rw [List.mem_singleton.mp z, nf] at hpa6; cases hpa6
          have fwa : wa ∉ [f] := fun z => by rw [List.mem_singleton.mp z, nf] at hwa6; cases hwa6
          refine q H7 f ps ws ?_ ⟨dx, pa, wa, hf7, o7 _ _ fpa (s67 _ _ hpa6), o7 _ _ fwa (s67 _ _ hwa6)⟩ po sub.len ?_
          · refine Offs.new ((((s03.trans s34).trans s5).trans s56).trans s67) o7 fun b hb => ?_
            rw [List.mem_singleton.mp hb]
            exact (((s03.trans s34).trans s5).trans s56).free nf
          · simpa [hxl3] using la
/-! ### at rest -/
def restS (ps : List (Option Nat)) (ws : List Int) : Shp := (ps.zip ws).map fun e => ⟨e.1, none, none, false, e.2⟩
theorem restS_len {ps : List (Option Nat)} {ws : List Int} (h : ps.length = ws.length) : (restS ps ws).length = ps.length := by simp [restS, h]
theorem restS_at {ps : List (Option Nat)} {ws : List Int} {i : Nat} {x : Option Nat} {y : Int} (hx : ps[i]? = some x) (hy : ws[i]? = some y) : g (restS ps ws) i = ⟨x, none, none, false, y⟩ := by
  have e : (ps.zip ws)[i]? = some (x, y) := by rw [List.getElem?_zip_eq_some]; exact ⟨hx, hy⟩
  unfold g restS
  rw [List.getD_eq_getElem?_getD, List.getElem?_map, e]; rfl
theorem restS_wf {ps : List (Option Nat)} {ws : List Int} (h : ps.length = ws.length) (po : ParOk ps) : Wf (restS ps ws) := by
  intro k hk
  rw [restS_len h] at hk ⊢
  have hx : ps[k]? = some (ps[k]) := List.getElem?_eq_getElem hk
  have hy : ws[k]? = some (ws[k]'(by omega)) := List.getElem?_eq_getElem (by omega)
  rw [restS_at hx hy]
  refine ⟨?_, trivial, trivial⟩
  show In ps.length ps[k]
  cases e : ps[k] with
  | none => trivial
  | some u => exact po.lt hk (by unfold psF; rw [List.getD_eq_getElem?_getD, hx, e]; rfl)
def spResting : Sp := fun vs H Q _ => ∃ (f : Addr) (ps : List (Option Nat)) (ws : List Int), vs = [.ref f] ∧ ForAt K H f ps ws ∧ ps.length = ws.length ∧ 0 < ps.length ∧ ps.length ≤ 64 ∧ ∀ H' b, Same H H' → ShAt H' b (restS ps ws) → Q (.ref b) H'
theorem sc_resting : FnScope ["forest", "every", "parent", "value"] ["forest"] (defScope s_resting) := ⟨rfl, rfl, rfl, by decide +kernel, rfl, by decide +kernel, by decide +kernel⟩
theorem ok_resting (T : Txt w K mg) : OkF P w K mg base 1 "resting" ["forest"] (spResting (K := K)) := by
  refine okf T.glo_resting T.fn_resting sc_resting (fun _ _ _ _ _ _ us hl => match us, hl with | [_], _ => rfl) (fun vs H Q E h => ?_) (fun cdv A outer s H vs Q E hr h => ?_)
  · obtain ⟨f, ps, ws, rfl, _⟩ := h; rfl
  · obtain ⟨f, ps, ws, rfl, ⟨dx, pa, wa, hf, hpa, hwa⟩, hl, pos, l64, q⟩ := h
    refine ⟨_, (pss_cons (ps_set (i := 1) sc_resting.nd rfl (.inl rfl) (Lz.pe_listZip rfl (pa_cons (pe_fld (pv 0) (by rfl)) (pa_cons (pe_fld (pv 0) (by rfl)) pa_nil)) T.free_list T.free_zip)) (pss_one (ps_ret (pe_callTy call_tuple_of (by rfl) T.free_tuple (by decide +kernel) (pa_cons (pe_lc (own := [("parent", 2), ("value", 3)]) (g := gTup K 2 (gCons (gName 2) (gCons (gName 3) gNil))) (te := tTup (tCons (tVar 2) (tCons (tC .non) (tCons (tC .non) (tCons (tC (.bl false)) (tCons (tC (.int 0)) (tCons (tVar 3) tNil))))))) rfl sc_resting.nd (pi_list (pv 1)) (blkOk_by (N := ["forest", "every", "parent", "value"]) (sc := defScope s_resting) (by decide +kernel)) (fun _ _ _ _ _ => pg_tup rfl (pgs_cons (pg_name (i := 2) sc_resting.nd rfl (.inl rfl) (.inr rfl)) (pgs_cons (pg_name (i := 3) sc_resting.nd rfl (.inl rfl) (.inr rfl)) pgs_nil))) (fun _ _ _ _ _ => pts_nil) (fun _ _ _ _ _ => pe_tup (pa_cons (pv 2) (pa_cons pe_non (pa_cons pe_non (pa_cons pe_bl (pa_cons pe_int (pa_cons (pv 3) pa_nil)))))))) pa_nil))))), ?_⟩
    refine ⟨_, rfl, f, _, dx, _, _, rfl, hf, T.cls_Forest, T.noat_Forest_parents, rfl, _, rfl, f, _, dx, _, _, rfl, hf, T.cls_Forest, T.noat_Forest_worths, rfl, ?_⟩
    refine ⟨pa, wa, _, _, rfl, SqT.of hpa, SqT.of hwa, by simp [hl], by simpa using pos, by simp <;> omega, fun H1 c ts s1 nc lt hc hts => ?_⟩
    refine ⟨_, rfl, c, rfl, ⟨_, SqL.of hc⟩, fun D nD => ?_⟩
    have lts : ts.length = ps.length := by simpa using lt
    refine lc_rel (walk_list (K := K) (a := c) (xs := ts.map V.ref)) nD (by simp <;> omega)
      (fun i v H => ∃ r x y, v = .ref r ∧ r ≠ D ∧ ps[i]? = some x ∧ ws[i]? = some y ∧ H r = some (.tup [optV x, .non, .non, .bl false, .int 0, .int y]))
      (by rintro i v H H' st ⟨r, x, y, e1, e2, e3, e4, e5⟩; exact ⟨r, x, y, e1, e2, e3, e4, st _ _ e2 e5⟩) (fun H s2 => SqL.of (s2 _ _ hc)) ?_ ?_
    · rintro i v H2 _ Fin N hi s2 ⟨acc, hD⟩ ⟨rfl, hv⟩ fin
      rw [List.getElem?_map] at hv
      obtain ⟨t, ht, rfl⟩ := Option.map_eq_some_iff.mp hv
      obtain ⟨x0, y0, ex, ey, et⟩ := hts i t ht
      rw [List.getElem?_map] at ex ey
      obtain ⟨x, kx, rfl⟩ := Option.map_eq_some_iff.mp ex
      obtain ⟨y, ky, rfl⟩ := Option.map_eq_some_iff.mp ey
      refine ⟨t, _, rfl, SqT.of (s2 _ _ et), rfl, _, _, rfl, _, _, rfl, rfl, rfl, tyes ?_⟩
      refine ⟨_, rfl, _, rfl, by show 6 ≤ sizeLine; decide, fun r nr => fin _ _ (same_upd nr) ⟨r, x, y, rfl, (ne_of_none hD nr).symm, kx, ky, upd_same⟩⟩
    · intro H2 acc s2 la hD hR
      obtain ⟨rs, rfl⟩ : ∃ rs : List Addr, acc = rs.map V.ref := refs_of fun i v hv => by
        obtain ⟨r, _, _, e, _⟩ := hR i v hv
        exact ⟨r, e⟩
      refine ⟨D, _, rfl, .inl ⟨SqL.of hD, fun b nb => ?_⟩⟩
      have s23 := same_upd (o := .tup (rs.map V.ref)) nb
      refine q _ b ((Same.trans s1 s2).trans s23) ⟨rs, upd_same, by rw [restS_len hl]; simp at la; omega, fun i r hi => ?_⟩
      obtain ⟨r', x, y, e1, e2, e3, e4, e5⟩ := hR i (.ref r) (by rw [List.getElem?_map, hi]; rfl)
      cases e1
      rw [restS_at e3 e4]
      exact s23 _ _ e5
end
end G3
set_option Elab.async false
set_option linter.all false
set_option maxRecDepth 100000
set_option maxHeartbeats 4000000
/-! A kept forest: made, copied, what it spent. -/
namespace G3
open PySem PySem.Spec PyProof.Rows L2
open Lk (Part g isSon handOn setUp setSon Wf PIn In OrdR ChainR Acy Chn ctn Forests)
abbrev cK (K : PySem.W.Frag) : Addr := He.ga K "Kept"
abbrev kG (v1 v2 v3 v4 : V) : List (Str × V) := [("now", v1), ("first_sum", v2), ("told", v3), ("linked", v4)]
abbrev kFs (a tl : Addr) (z n : Int) : List (Str × V) := [("now", .ref a), ("first_sum", .int z), ("told", .ref tl), ("linked", .int n)]
section
variable {P : Program} {w : World} {K : PySem.W.Frag} {mg : Str → Option Value} {base : Heap}
def spBegin : Sp := fun vs H Q _ => ∃ (k a dx : Addr) (s : Shp) (fs : List (Str × V)), vs = [.ref k, .ref a] ∧ H k = some (.ins (cK K) dx fs) ∧ (fs = [] ∨ ∃ v1 v2 v3 v4, fs = kG v1 v2 v3 v4) ∧ ShAt H a s ∧ Wf s ∧ s.length ≤ 64 ∧
  ∀ H' tl z, Offs [k] H H' → H' k = some (.ins (cK K) dx (kFs a tl z 0)) → H tl = none → H' tl = some (.lst []) → Q .non H'
theorem sc_Kept_begin : FnScope ["self", "shape"] ["self", "shape"] (defScope s_Kept_begin_with) := ⟨rfl, rfl, rfl, by decide +kernel, rfl, by decide +kernel, by decide +kernel⟩
theorem ok_Kept_begin (T : Txt w K mg) : OkM P w K mg base 3 "Kept" "begin_with" ["self", "shape"] (spBegin (K := K)) := by
  obtain ⟨fS, dS, GS, mS, kS, bS⟩ := (ok_sum_of_ranks (P := P) (base := base) T).ex
  refine okm T.meth_Kept_begin_with T.cls_Kept T.fn_Kept_begin_with sc_Kept_begin (fun _ _ _ _ _ _ us hl => match us, hl with | [_, _], _ => rfl) (fun vs H Q E h => ?_) (fun cdv A outer s H vs Q E hr h => ?_)
  · obtain ⟨k, a, dx, s, fs, rfl, _⟩ := h; rfl
  · obtain ⟨k, a, dx, s, fs, rfl, hk, hfs, sh, wf, l64, q⟩ := h
    have nt : ∀ b ∈ [k], ∀ vs, H b ≠ some (.tup vs) := fun b z vs e => by rw [List.mem_singleton.mp z, hk] at e; cases e
    refine ⟨_, (pss_cons (ps_fld (pv 0) (pv 1) (by rfl)) (pss_cons (ps_fld (pv 0) (pe_call GS hr (by rfl) mS kS bS .nil pass0 (pa_cons (pv 1) pa_nil)) (by rfl)) (pss_cons (ps_fld (pv 0) (pe_lst pa_nil) (by rfl)) (pss_one (ps_fld (pv 0) pe_int (by rfl)))))), ?_⟩
    have e : (fs.length ≤ 4) ∧ ∀ z tl, putF "linked" (.int 0) (putF "told" (.ref tl) (putF "first_sum" (.int z) (putF "now" (.ref a) fs))) = kFs a tl z 0 ∧ (putF "now" (.ref a) fs).length ≤ 4 ∧ (putF "first_sum" (.int z) (putF "now" (.ref a) fs)).length ≤ 4 ∧ (putF "told" (.ref tl) (putF "first_sum" (.int z) (putF "now" (.ref a) fs))).length ≤ 4 := by
      rcases hfs with rfl | ⟨v1, v2, v3, v4, rfl⟩
      · exact ⟨by decide, fun z tl => ⟨rfl, Nat.le_of_ble_eq_true rfl, Nat.le_of_ble_eq_true rfl, Nat.le_of_ble_eq_true rfl⟩⟩
      · exact ⟨Nat.le_of_ble_eq_true rfl, fun z tl => ⟨rfl, Nat.le_of_ble_eq_true rfl, Nat.le_of_ble_eq_true rfl, Nat.le_of_ble_eq_true rfl⟩⟩
    have o1 : Offs [k] H (upd H k (.ins (cK K) dx (putF "now" (.ref a) fs))) := (Offs.of (.refl _)).upd (by simp)
    refine ⟨_, rfl, _, rfl, k, _, dx, fs, rfl, hk, T.cls_Kept, T.noat_Kept_now, by omega, ?_⟩
    refine ⟨_, rfl, a, s, rfl, sh.offs o1 nt, wf, l64, fun H1 z s1 => ?_⟩
    have h1 := s1 _ _ (upd_same (H := H) (a := k) (o := .ins (cK K) dx (putF "now" (.ref a) fs)))
    refine ⟨_, rfl, k, _, dx, _, rfl, h1, T.cls_Kept, T.noat_Kept_first_sum, by have := (e.2 0 0).2.1; omega, ?_⟩
    refine ⟨by show 0 ≤ sizeLine; decide, fun tl nt2 => ?_⟩
    have nk : k ≠ tl := ne_of_none upd_same nt2
    refine ⟨_, rfl, k, _, dx, _, rfl, (by rw [upd_ne nk]; exact upd_same), T.cls_Kept, T.noat_Kept_told, by have := (e.2 z 0).2.2.1; omega, ?_⟩
    refine ⟨_, rfl, k, _, dx, _, rfl, upd_same, T.cls_Kept, T.noat_Kept_linked, by have := (e.2 z tl).2.2.2; omega, ?_⟩
    have ntl : H1 tl = none := by rw [upd_ne (Ne.symm nk)] at nt2; exact nt2
    have ntH : H tl = none := by
      have := s1.free ntl
      rw [upd_ne (Ne.symm nk)] at this; exact this
    refine q _ tl z ?_ (by rw [upd_same, (e.2 z tl).1]) ntH (by rw [upd_ne (Ne.symm nk), upd_ne (Ne.symm nk), upd_same])
    refine Offs.upd (Offs.upd (Offs.same (Offs.upd (o1.same s1) (by simp)) (same_upd nt2)) (by simp)) (by simp)
def spKeptI : Sp := fun vs H Q _ => ∃ (k f dx : Addr) (ps : List (Option Nat)) (ws : List Int), vs = [.ref k, .ref f] ∧ H k = some (.ins (cK K) dx []) ∧ ForAt K H f ps ws ∧ ps.length = ws.length ∧ ParOk ps ∧
  ∀ H' a tl z, Offs [k] H H' → H' k = some (.ins (cK K) dx (kFs a tl z 0)) → H tl = none → H' tl = some (.lst []) → ShAt H' a (restS ps ws) → Q .non H'
theorem sc_Kept_init : FnScope ["self", "forest"] ["self", "forest"] (defScope s_Kept___init__) := ⟨rfl, rfl, rfl, by decide +kernel, rfl, by decide +kernel, by decide +kernel⟩
theorem ok_Kept_init (T : Txt w K mg) : OkI P w K mg base 4 "Kept" ["self", "forest"] (spKeptI (K := K)) := by
  obtain ⟨fB, dB, GB, mB, cB, bB⟩ := (ok_Kept_begin (P := P) (base := base) T).ex
  obtain ⟨fR, dR, GR, mR, kR, bR⟩ := (ok_resting (P := P) (base := base) T).ex
  refine oki T.mkr_Kept T.glo_Kept T.fn_Kept___init__ sc_Kept_init (fun _ _ _ _ _ _ us hl => match us, hl with | [_, _], _ => rfl) (fun vs H Q E h => ?_) (fun cdv A outer s H vs Q E hr h => ?_)
  · obtain ⟨k, f, dx, ps, ws, rfl, _⟩ := h; rfl
  · obtain ⟨k, f, dx, ps, ws, rfl, hk, hf, hl, po, q⟩ := h
    have hr1 : Room 1 _ := hr.mono (by decide)
    have l64 := po.le
    refine ⟨_, (pss_one (ps_expr (pe_meth (pv 0) cB mB GB hr bB .nil pass0 (pa_cons (pe_call GR hr1 (by rfl) mR kR bR .nil pass0 (pa_cons (pv 1) pa_nil)) pa_nil)))), ?_⟩
    refine ⟨_, rfl, k, dx, _, rfl, hk, rfl, ?_⟩
    refine ⟨_, rfl, f, ps, ws, rfl, hf, hl, po.pos, l64, fun H1 b s1 sb => ?_⟩
    have nt : ∀ c ∈ [k], ∀ vs, H1 c ≠ some (.tup vs) := fun c z vs e => by rw [List.mem_singleton.mp z, s1 _ _ hk] at e; cases e
    refine ⟨k, b, dx, restS ps ws, [], rfl, s1 _ _ hk, .inl rfl, sb, restS_wf hl po, by rw [restS_len hl]; exact l64, fun H2 tl z o2 hk2 ntl htl => ?_⟩
    exact q H2 b tl z ((Offs.of s1).trans o2) hk2 (s1.free ntl) htl (sb.offs o2 nt)
def spKeptFrom : Sp := fun vs H Q _ => ∃ (a : Addr) (s : Shp), vs = [.ref a] ∧ ShAt H a s ∧ Forests s ∧ s.length ≤ 64 ∧ 0 < s.length ∧
  ∀ H' k tl dx z, Same H H' → H k = none → H tl = none → k ≠ tl → H' k = some (.ins (cK K) dx (kFs a tl z 0)) → H' tl = some (.lst []) → Q (.ref k) H'
theorem sc_kept_from : FnScope ["shape", "found"] ["shape"] (defScope s_kept_from) := ⟨rfl, rfl, rfl, by decide +kernel, rfl, by decide +kernel, by decide +kernel⟩
theorem ok_kept_from (T : Txt w K mg) : OkF P w K mg base 69 "kept_from" ["shape"] (spKeptFrom (K := K)) := by
  obtain ⟨fB, dB, GB, mB, cB, bB⟩ := (ok_Kept_begin (P := P) (base := base) T).ex
  obtain ⟨fN, dN, GN, mN, gN, bN⟩ := (ok_Kept_init (P := P) (base := base) T).ex
  obtain ⟨fF, dF, GF, mF, kF, bF⟩ := (ok_forest_of (P := P) (base := base) T).ex
  refine okf T.glo_kept_from T.fn_kept_from sc_kept_from (fun _ _ _ _ _ _ us hl => match us, hl with | [_], _ => rfl) (fun vs H Q E h => ?_) (fun cdv A outer s H vs Q E hr h => ?_)
  · obtain ⟨a, s, rfl, _⟩ := h; rfl
  · obtain ⟨a, s, rfl, sh, fo, l64, pos, q⟩ := h
    have hr3 : Room 3 _ := hr.mono (by decide)
    have hr5 : Room 5 _ := hr.mono (by decide)
    refine ⟨_, (pss_cons (ps_set (i := 1) sc_kept_from.nd rfl (.inl rfl) (pe_make mN GN hr5 (by rfl) gN bN .nil pass0 (pa_cons (pe_call GF hr (by rfl) mF kF bF .nil pass0 (pa_cons (pv 0) pa_nil)) pa_nil))) (pss_cons (ps_expr (pe_meth (pv 1) cB mB GB hr3 bB .nil pass0 (pa_cons (pv 0) pa_nil))) (pss_one (ps_ret (pv 1))))), ?_⟩
    refine ⟨_, rfl, a, s, rfl, sh, fo, l64, pos, fun H1 f ps ws s1 hf po pl wl => ?_⟩
    intro k dx nk ndx ne
    have s2 := (same_upd (o := .own k) ndx).trans (same_upd (o := .ins (cK K) dx []) (p := k) (H := upd H1 dx (.own k)) (by rw [upd_ne (Ne.symm ne)]; exact nk))
    have hk2 : upd (upd H1 dx (.own k)) k (.ins (cK K) dx []) k = some (.ins (cK K) dx []) := upd_same
    generalize upd (upd H1 dx (.own k)) k (.ins (cK K) dx []) = H2 at s2 hk2
    obtain ⟨fdx, pa, wa, g1, g2, g3⟩ := hf
    refine ⟨k, f, dx, ps, ws, rfl, hk2, ⟨fdx, pa, wa, s2 _ _ g1, s2 _ _ g2, s2 _ _ g3⟩, by omega, po, fun H3 b tl z o3 hk3 ntl htl sb => ⟨rfl, ?_⟩⟩
    have s13 : Same H H3 := Offs.new (s1.trans s2) o3 fun b hb => by rw [List.mem_singleton.mp hb]; exact s1.free nk
    refine ⟨_, rfl, k, dx, _, rfl, hk3, rfl, ?_⟩
    refine ⟨_, rfl, k, a, dx, s, _, rfl, hk3, .inr ⟨_, _, _, _, rfl⟩, sh.same s13, fo.wf, l64, fun H4 tl4 z4 o4 hk4 ntl4 htl4 => ?_⟩
    have nk0 : H k = none := s1.free nk
    have s14 : Same H H4 := Offs.new s13 o4 fun b hb => by rw [List.mem_singleton.mp hb]; exact nk0
    exact ⟨_, rfl, q H4 k tl4 dx z4 s14 nk0 (s13.free ntl4) (ne_of_none hk3 ntl4) hk4 htl4⟩
def spKCopy : Sp := fun vs H Q _ => ∃ (k a tl dx : Addr) (z n : Int) (s : Shp) (xs : List V), vs = [.ref k] ∧ H k = some (.ins (cK K) dx (kFs a tl z n)) ∧ ShAt H a s ∧ Forests s ∧ s.length ≤ 64 ∧ 0 < s.length ∧ H tl = some (.lst xs) ∧
  ∀ H' k2 tl2 dx2, Same H H' → H k2 = none → H tl2 = none → k2 ≠ tl2 → H' k2 = some (.ins (cK K) dx2 (kFs a tl2 z n)) → H' tl2 = some (.lst xs) → Q (.ref k2) H'
theorem sc_Kept_copy : FnScope ["self", "found"] ["self"] (defScope s_Kept_copy) := ⟨rfl, rfl, rfl, by decide +kernel, rfl, by decide +kernel, by decide +kernel⟩
theorem ok_Kept_copy (T : Txt w K mg) : OkM P w K mg base 70 "Kept" "copy" ["self"] (spKCopy (K := K)) := by
  obtain ⟨fF, dF, GF, mF, kF, bF⟩ := (ok_kept_from (P := P) (base := base) T).ex
  refine okm T.meth_Kept_copy T.cls_Kept T.fn_Kept_copy sc_Kept_copy (fun _ _ _ _ _ _ us hl => match us, hl with | [_], _ => rfl) (fun vs H Q E h => ?_) (fun cdv A outer s H vs Q E hr h => ?_)
  · obtain ⟨k, a, tl, dx, z, n, s, xs, rfl, _⟩ := h; rfl
  · obtain ⟨k, a, tl, dx, z, n, s, xs, rfl, hk, sh, fo, l64, pos, htl, q⟩ := h
    refine ⟨_, (pss_cons (ps_set (i := 1) sc_Kept_copy.nd rfl (.inl rfl) (pe_call GF hr (by rfl) mF kF bF .nil pass0 (pa_cons (pe_fld (pv 0) (by rfl)) pa_nil))) (pss_cons (ps_fld (pv 1) (pe_fld (pv 0) (by rfl)) (by rfl)) (pss_cons (ps_fld (pv 1) (pe_callTy call_list_of (by rfl) T.free_list (by decide +kernel) (pa_cons (pe_fld (pv 0) (by rfl)) pa_nil)) (by rfl)) (pss_cons (ps_fld (pv 1) (pe_fld (pv 0) (by rfl)) (by rfl)) (pss_one (ps_ret (pv 1))))))), ?_⟩
    refine ⟨_, rfl, k, _, dx, _, _, rfl, hk, T.cls_Kept, T.noat_Kept_now, rfl, ?_⟩
    refine ⟨a, s, rfl, sh, fo, l64, pos, fun H1 k2 tl1 dx2 z1 s1 nk2 ntl1 ne1 hk2 htl1 => ?_⟩
    have hk1 := s1 _ _ hk
    have nkk : k ≠ k2 := ne_of_none hk nk2
    refine ⟨_, rfl, k, _, dx, _, _, rfl, hk1, T.cls_Kept, T.noat_Kept_first_sum, rfl, ?_⟩
    refine ⟨_, rfl, k2, _, dx2, _, rfl, hk2, T.cls_Kept, T.noat_Kept_first_sum, (show (4 : Nat) < 1000 by decide), ?_⟩
    refine ⟨_, rfl, k, _, dx, _, _, rfl, by rw [upd_ne nkk]; exact hk1, T.cls_Kept, T.noat_Kept_told, rfl, ?_⟩
    have htl2 := s1 _ _ htl
    have nt2 : tl ≠ k2 := ne_of_none htl nk2
    refine ⟨tl, xs, rfl, .inl (SqL.of (by rw [upd_ne nt2]; exact htl2)), fun t3 n3 => ?_⟩
    have nk3 : k2 ≠ t3 := ne_of_none upd_same n3
    have nk13 : k ≠ t3 := by
      intro e
      subst e
      rw [upd_ne nkk] at n3
      rw [hk1] at n3; cases n3
    refine ⟨_, rfl, k2, _, dx2, kFs a tl1 z 0, rfl, by rw [upd_ne nk3]; exact upd_same, T.cls_Kept, T.noat_Kept_told, (show (4 : Nat) < 1000 by decide), ?_⟩
    refine ⟨_, rfl, k, _, dx, _, _, rfl, by rw [upd_ne nkk, upd_ne nk13, upd_ne nkk]; exact hk1, T.cls_Kept, T.noat_Kept_linked, rfl, ?_⟩
    refine ⟨_, rfl, k2, _, dx2, _, rfl, upd_same, T.cls_Kept, T.noat_Kept_linked, (show (4 : Nat) < 1000 by decide), ?_⟩
    have n3H : H t3 = none := by
      rw [upd_ne (Ne.symm nk3)] at n3
      exact s1.free n3
    refine ⟨_, rfl, q _ k2 t3 dx2 ?_ nk2 n3H nk3 upd_same (by rw [upd_ne (Ne.symm nk3), upd_ne (Ne.symm nk3), upd_same])⟩
    refine Offs.new (xs := [k2]) s1 ?_ fun b hb => by rw [List.mem_singleton.mp hb]; exact nk2
    exact Offs.upd (Offs.upd (Offs.same (Offs.upd (.of (.refl _)) (by simp)) (same_upd n3)) (by simp)) (by simp)
/-! ### spent -/
structure Pap (H : Hp) (ps : List Addr) (pss : List (List Int)) : Prop where
  len : ps.length = pss.length
  at_ : ∀ (i : Nat) (p : Addr) (l : List Int), ps[i]? = some p → pss[i]? = some l → l.length = 4 ∧ H p = some (.tup (l.map V.int))
def spent (pss : List (List Int)) : Int := (pss.map fun l => (l.take 3).sum).sum
def spSpent : Sp := fun vs H Q _ => ∃ (k a tl dx : Addr) (z n : Int) (ps : List Addr) (pss : List (List Int)), vs = [.ref k] ∧ H k = some (.ins (cK K) dx (kFs a tl z n)) ∧ H tl = some (.lst (ps.map V.ref)) ∧ Pap H ps pss ∧ ps.length ≤ 100000 ∧ ∀ H', Same H H' → Q (.int (spent pss)) H'
theorem sc_Kept_spent : FnScope ["self", "paper"] ["self"] (defScope s_Kept_spent) := ⟨rfl, rfl, rfl, by decide +kernel, rfl, by decide +kernel, by decide +kernel⟩
theorem ok_Kept_spent (T : Txt w K mg) : OkM P w K mg base 1 "Kept" "spent" ["self"] (spSpent (K := K)) := by
  refine okm T.meth_Kept_spent T.cls_Kept T.fn_Kept_spent sc_Kept_spent (fun _ _ _ _ _ _ us hl => match us, hl with | [_], _ => rfl) (fun vs H Q E h => ?_) (fun cdv A outer s H vs Q E hr h => ?_)
  · obtain ⟨k, a, tl, dx, z, n, ps, pss, rfl, _⟩ := h; rfl
  · obtain ⟨k, a, tl, dx, z, n, ps, pss, rfl, hk, htl, pp, ll, q⟩ := h
    refine ⟨_, (pss_one (ps_ret (pe_callB (cr_sum rfl) (by rfl) T.free_sum (by decide +kernel) (pa_cons (pe_lc (own := [("paper", 1)]) (g := gName 1) (te := tCB (rSumT K) (tCons (tSl (rSlA K) (tVar 1) tNoPart (tPart (tC (.int 3)))) tNil)) rfl sc_Kept_spent.nd (pi_list (pe_fld (pv 0) (by rfl))) (blkOk_by (N := ["self", "paper"]) (sc := defScope s_Kept_spent) (by decide +kernel)) (fun _ _ _ _ _ => pg_name (i := 1) sc_Kept_spent.nd rfl (.inl rfl)) (fun _ _ _ _ _ => pts_nil) (fun _ _ _ _ _ => pe_callB (cr_sumT rfl) (by rfl) T.free_sum (by decide +kernel) (pa_cons (pe_slice sl_tupA (pv 1) po_none (po_some pe_int)) pa_nil))) pa_nil)))), ?_⟩
    refine ⟨_, rfl, k, _, dx, _, _, rfl, hk, T.cls_Kept, T.noat_Kept_told, rfl, tl, rfl, ⟨_, SqL.of htl⟩, fun D nD => ?_⟩
    refine lc_rel (walk_list (K := K) (a := tl) (xs := ps.map V.ref)) nD (by simpa using ll) (fun i v _ => ∃ l, pss[i]? = some l ∧ v = .int (l.take 3).sum) (fun _ _ _ _ _ h => h) (fun H s2 => SqL.of (s2 _ _ htl)) ?_ ?_
    · rintro i v H2 _ Fin N hi s2 _ ⟨rfl, hv⟩ fin
      rw [List.getElem?_map] at hv
      obtain ⟨p, hp, rfl⟩ := Option.map_eq_some_iff.mp hv
      have il : i < pss.length := by simp at hi; rw [← pp.len]; exact hi
      have hl : pss[i]? = some pss[i] := List.getElem?_eq_getElem il
      obtain ⟨l4, hpt⟩ := pp.at_ i p _ hp hl
      refine ⟨rfl, tyes ⟨_, rfl, _, rfl, p, _, rfl, .of (s2 _ _ hpt), fun z => ?_, fun _ t nt => ?_⟩⟩
      · exfalso
        have := z.2
        rw [show (3 : Int) = ((3 : Nat) : Int) from rfl, HT.sIx_nat, List.length_map, l4] at this
        exact absurd this (by decide)
      · refine ⟨t, (pss[i]).take 3, rfl, SqT.of ?_, fin _ _ (same_upd nt) ⟨_, hl, rfl⟩⟩
        rw [upd_same, show (3 : Int) = ((3 : Nat) : Int) from rfl, cut_to _ _ (by rw [List.length_map, l4]; decide), List.map_take]
    · intro H2 acc s2 la hD hR
      have e : acc = (pss.map fun l => (l.take 3).sum).map V.int := by
        refine List.ext_getElem? fun i => ?_
        rw [List.getElem?_map, List.getElem?_map]
        by_cases il : i < acc.length
        · obtain ⟨l, h1, h2⟩ := hR i acc[i] (List.getElem?_eq_getElem il)
          rw [List.getElem?_eq_getElem il, h1, h2]; rfl
        · rw [List.getElem?_eq_none (by omega), List.getElem?_eq_none (by simp at la; have := pp.len; omega)]; rfl
      subst e
      exact ⟨D, _, rfl, SqL.of hD, q H2 s2⟩
end
end G3
set_option Elab.async false
set_option linter.all false
set_option maxRecDepth 100000
set_option maxHeartbeats 4000000
/-! The work object: coming to houses, roots, turning about, joined ones. -/
namespace G3
open PySem PySem.Spec PyProof.Rows L2
open Lk (Part g isSon handOn flip setUp setSon setVal Wf PIn In ToTop MetR splice Reach LeftR LeftMost FoundRoot TurnAbout DPut DLink DCut AJoin AWhere FirstMax OrdR ChainR)

/-- a target o.f -/
def gFld (K : PySem.W.Frag) (to : TE) (f : Str) : TG := fun v σ H Q => to σ H fun o H1 => ∃ a C dx fs, o = .ref a ∧ H1 a = some (.ins C dx fs) ∧ Cls K C ∧ NoAttr K C f ∧ fs.length < 1000 ∧ Q σ (upd H1 a (.ins C dx (putF f v fs)))
theorem pg_fld {X : Cx} {o : Expr} {f : Str} {pos : Pos} {to : TE} (ho : PE X o to) : PG X (.Attribute o f pos) (gFld X.K to f) := by
  refine ⟨fun pins s σ H v u Q I r h => ?_⟩
  rw [assign_Attribute]
  refine wpAny_bind (wpAny_holding (thn (ho.run pins s σ H _ I h) fun ov s1 ⟨x, H1, I1, rx, a, C, dx, fs, ex, ea, c, n, l, q⟩ => ?_))
  subst ex
  obtain rfl : ov = Value.ref a := rx
  exact wpAny_bind (wpAny_standAt (wpAny_bind (wpAny_holding (setattr_ok I1 ea c n l r fun s2 I2 => wpAny_release ⟨σ, _, I2, q⟩))))

abbrev cW (K : PySem.W.Frag) : Addr := He.ga K "Work"
abbrev wFs (a : Addr) (r : Int) (dl : Addr) (v : V) : List (Str × V) := [("here", .ref a), ("ranks", .int r), ("done", .ref dl), ("last_met", v)]
/-- the work at x, its papers at dl (at most m of them), its shape s -/
def WkS (K : PySem.W.Frag) (H : Hp) (x dl : Addr) (s : Shp) (m : Nat) : Prop := ∃ dx a r v ps pss, H x = some (.ins (cW K) dx (wFs a r dl v)) ∧ ShAt H a s ∧ H dl = some (.lst (ps.map V.ref)) ∧ Pap H ps pss ∧ ps.length ≤ m
theorem Pap.offs {xs : List Addr} {H H' : Hp} {ps : List Addr} {pss : List (List Int)} (h : Pap H ps pss) (e : Offs xs H H') (n : ∀ b ∈ xs, ∀ vs, H b ≠ some (.tup vs)) : Pap H' ps pss := by
  refine ⟨h.len, fun i p l h1 h2 => ?_⟩
  obtain ⟨h3, h4⟩ := h.at_ i p l h1 h2
  exact ⟨h3, e _ _ (fun q => n _ q _ h4) h4⟩
theorem Pap.same {H H' : Hp} {ps : List Addr} {pss : List (List Int)} (h : Pap H ps pss) (e : Same H H') : Pap H' ps pss := h.offs (Offs.of (xs := []) e) (by simp)
theorem Pap.snoc {H : Hp} {ps : List Addr} {pss : List (List Int)} {p : Addr} {l : List Int} (h : Pap H ps pss) (l4 : l.length = 4) (e : H p = some (.tup (l.map V.int))) : Pap H (ps ++ [p]) (pss ++ [l]) := by
  refine ⟨by simp [h.len], fun i q k h1 h2 => ?_⟩
  by_cases il : i < ps.length
  · rw [List.getElem?_append_left il] at h1
    rw [List.getElem?_append_left (by rw [← h.len]; exact il)] at h2
    exact h.at_ i q k h1 h2
  · have := (List.getElem?_eq_some_iff.mp h1).1
    rw [List.length_append, List.length_singleton] at this
    obtain rfl : i = ps.length := by omega
    rw [List.getElem?_append_right (Nat.le_refl _), Nat.sub_self] at h1
    rw [h.len, List.getElem?_append_right (Nat.le_refl _), Nat.sub_self] at h2
    cases h1; cases h2
    exact ⟨l4, e⟩
theorem WkS.same {K : PySem.W.Frag} {H H' : Hp} {x dl : Addr} {s : Shp} {m : Nat} (h : WkS K H x dl s m) (e : Same H H') : WkS K H' x dl s m := by
  obtain ⟨dx, a, r, v, ps, pss, h1, h2, h3, h4, h5⟩ := h
  exact ⟨dx, a, r, v, ps, pss, e _ _ h1, h2.same e, e _ _ h3, h4.same e, h5⟩

section
variable {P : Program} {w : World} {K : PySem.W.Frag} {mg : Str → Option Value} {base : Heap}
def spWorkI : Sp := fun vs H Q _ => ∃ (x a dx : Addr) (s : Shp), vs = [.ref x, .ref a] ∧ H x = some (.ins (cW K) dx []) ∧ ShAt H a s ∧ Wf s ∧ s.length ≤ 64 ∧ ∀ H' dl, Offs [x] H H' → H dl = none → WkS K H' x dl s 0 → Q .non H'
theorem sc_Work_init : FnScope ["self", "shape"] ["self", "shape"] (defScope s_Work___init__) := ⟨rfl, rfl, rfl, by decide +kernel, rfl, by decide +kernel, by decide +kernel⟩
theorem ok_Work_init (T : Txt w K mg) : OkI P w K mg base 3 "Work" ["self", "shape"] (spWorkI (K := K)) := by
  obtain ⟨fS, dS, GS, mS, kS, bS⟩ := (ok_sum_of_ranks (P := P) (base := base) T).ex
  refine oki T.mkr_Work T.glo_Work T.fn_Work___init__ sc_Work_init (fun _ _ _ _ _ _ us hl => match us, hl with | [_, _], _ => rfl) (fun vs H Q E h => ?_) (fun cdv A outer s H vs Q E hr h => ?_)
  · obtain ⟨x, a, dx, s, rfl, _⟩ := h; rfl
  · obtain ⟨x, a, dx, s, rfl, hx, sh, wf, l64, q⟩ := h
    have nt : ∀ b ∈ [x], ∀ vs, H b ≠ some (.tup vs) := fun b z vs e => by rw [List.mem_singleton.mp z, hx] at e; cases e
    refine ⟨_, (pss_cons (ps_fld (pv 0) (pv 1) (by rfl)) (pss_cons (ps_fld (pv 0) (pe_call GS hr (by rfl) mS kS bS .nil pass0 (pa_cons (pv 1) pa_nil)) (by rfl)) (pss_cons (ps_fld (pv 0) (pe_lst pa_nil) (by rfl)) (pss_one (ps_fld (pv 0) pe_non (by rfl)))))), ?_⟩
    have o1 : Offs [x] H (upd H x (.ins (cW K) dx (putF "here" (.ref a) []))) := (Offs.of (.refl _)).upd (by simp)
    refine ⟨_, rfl, _, rfl, x, _, dx, [], rfl, hx, T.cls_Work, T.noat_Work_here, (show (0 : Nat) < 1000 by decide), ?_⟩
    refine ⟨_, rfl, a, s, rfl, sh.offs o1 nt, wf, l64, fun H1 z s1 => ?_⟩
    have h1 := s1 _ _ (upd_same (H := H) (a := x) (o := .ins (cW K) dx (putF "here" (.ref a) [])))
    refine ⟨_, rfl, x, _, dx, _, rfl, h1, T.cls_Work, T.noat_Work_ranks, (show (1 : Nat) < 1000 by decide), ?_⟩
    refine ⟨by show 0 ≤ sizeLine; decide, fun tl nt2 => ?_⟩
    have nk : x ≠ tl := ne_of_none upd_same nt2
    refine ⟨_, rfl, x, _, dx, [("here", .ref a), ("ranks", .int z)], rfl, by rw [upd_ne nk]; exact upd_same, T.cls_Work, T.noat_Work_done, (show (2 : Nat) < 1000 by decide), ?_⟩
    refine ⟨_, rfl, x, _, dx, [("here", .ref a), ("ranks", .int z), ("done", .ref tl)], rfl, upd_same, T.cls_Work, T.noat_Work_last_met, (show (3 : Nat) < 1000 by decide), ?_⟩
    have ntl : H1 tl = none := by rw [upd_ne (Ne.symm nk)] at nt2; exact nt2
    have ntH : H tl = none := by
      have := s1.free ntl
      rw [upd_ne (Ne.symm nk)] at this; exact this
    have o4 := Offs.upd (o := .ins (cW K) dx (wFs a z tl .non)) (a := x) (Offs.upd (o := .ins (cW K) dx [("here", .ref a), ("ranks", .int z), ("done", .ref tl)]) (a := x) (Offs.same (Offs.upd (a := x) (o := .ins (cW K) dx [("here", .ref a), ("ranks", .int z)]) (o1.same s1) (by simp)) (same_upd (o := .lst []) nt2)) (by simp)) (by simp)
    exact q _ tl o4 ntH ⟨dx, a, z, .non, [], [], upd_same, sh.offs o4 nt, by rw [upd_ne (Ne.symm nk), upd_ne (Ne.symm nk), upd_same]; rfl, ⟨rfl, by simp⟩, Nat.le_refl _⟩
def spCome : Sp := fun vs H Q _ => ∃ (x dl : Addr) (s : Shp) (h m : Nat) (s' : Shp), vs = [.ref x, .int h] ∧ WkS K H x dl s m ∧ m ≤ 1000 ∧ Wf s ∧ s.length ≤ 64 ∧ h < s.length ∧ Reach h s s' ∧ ∀ H', Offs [x, dl] H H' → WkS K H' x dl s' (m + 1) → Q .non H'
theorem sc_Work_come : FnScope ["self", "house", "met", "paper"] ["self", "house"] (defScope s_Work_come_to) := ⟨rfl, rfl, rfl, by decide +kernel, rfl, by decide +kernel, by decide +kernel⟩
theorem ok_Work_come (T : Txt w K mg) : OkM P w K mg base 9 "Work" "come_to" ["self", "house"] (spCome (K := K)) := by
  obtain ⟨fR, dR, GR, mR, kR, bR⟩ := (ok_after_reaching (P := P) (base := base) T).ex
  refine okm T.meth_Work_come_to T.cls_Work T.fn_Work_come_to sc_Work_come (fun _ _ _ _ _ _ us hl => match us, hl with | [_, _], _ => rfl) (fun vs H Q E h => ?_) (fun cdv A outer s H vs Q E hr h => ?_)
  · obtain ⟨x, dl, s, h, m, s', rfl, _⟩ := h; rfl
  · obtain ⟨x, dl, s, h, m, s', rfl, ⟨dx, a, r, v, ps, pss, hx, sh, hdl, pp, pl⟩, hm, wf, l64, hh, re, q⟩ := h
    refine ⟨_, (pss_cons (ps_asg (pe_call GR hr (by rfl) mR kR bR .nil pass0 (pa_cons (pe_fld (pv 0) (by rfl)) (pa_cons (pv 1) (pa_cons (pe_fld (pv 0) (by rfl)) pa_nil)))) (pg_tup rfl (pgs_cons (pg_fld (pv 0)) (pgs_cons (pg_name (i := 2) sc_Work_come.nd rfl (.inl rfl)) (pgs_cons (pg_name (i := 3) sc_Work_come.nd rfl (.inl rfl)) pgs_nil))))) (pss_cons (ps_fldaug (pv 0) (pe_ix ix_tup (pv 3) pe_int (fun _ _ => rfl)) in_add) (pss_cons (ps_expr (pe_bm PySem.F.plainAttrs_list PySem.F.slot_list_append PySem.F.type_list_append mt_append (pe_fld (pv 0) (by rfl)) (pa_cons (pv 3) pa_nil))) (pss_one (ps_fld (pv 0) (pe_ix ix_list (pv 2) (pe_un un_neg pe_int) (fun _ _ => rfl)) (by rfl)))))), ?_⟩
    refine ⟨_, rfl, x, _, dx, _, _, rfl, hx, T.cls_Work, T.noat_Work_here, rfl, _, rfl, _, rfl, x, _, dx, _, _, rfl, hx, T.cls_Work, T.noat_Work_ranks, rfl, ?_⟩
    refine ⟨a, s, h, r, s', rfl, sh, wf, l64, hh, re, fun H1 p b l t mt n1 n2 n3 n4 s1 sb mne nl hl ht hp => ?_⟩
    have hx1 := s1 _ _ hx
    have nt1 : ∀ c ∈ [x, dl], ∀ vs, H1 c ≠ some (.tup vs) := fun c z vs e => by
      rcases List.mem_cons.mp z with z | z
      · rw [z, hx1] at e; cases e
      · rw [List.mem_singleton.mp z, s1 _ _ hdl] at e; cases e
    have ntup : ∀ {c vs}, H1 c = some (.tup vs) → c ≠ x ∧ c ≠ dl := fun {c vs} e => ⟨fun z => nt1 c (by simp [z]) vs e, fun z => nt1 c (by simp [z]) vs e⟩
    have xd : x ≠ dl := fun z => by rw [z, hdl] at hx; cases hx
    have xl : l ≠ x := fun z => by rw [z, hx] at nl; cases nl
    have ld : l ≠ dl := fun z => by rw [z, hdl] at nl; cases nl
    obtain ⟨tx, td⟩ := ntup ht
    refine ⟨p, _, rfl, SqT.of hp, rfl, _, _, rfl, ⟨_, rfl, x, _, dx, _, rfl, hx1, T.cls_Work, T.noat_Work_here, (show (4 : Nat) < 1000 by decide), _, _, rfl, _, _, rfl, rfl, ?_⟩⟩
    have o1 : Offs [x, dl] H (upd H1 x (.ins (cW K) dx (putF "here" (.ref b) (wFs a r dl v)))) := (Offs.of s1).upd (by simp)
    refine ⟨_, rfl, x, _, dx, wFs b r dl v, _, rfl, upd_same, T.cls_Work, T.noat_Work_ranks, rfl, ?_⟩
    refine ⟨_, rfl, t, _, 3, .int n4, rfl, rfl, SqT.of (by rw [upd_ne tx]; exact ht), rfl, r, n4, rfl, rfl, dx, wFs b r dl v, upd_same, (show (4 : Nat) < 1000 by decide), ?_⟩
    refine ⟨_, rfl, x, _, dx, wFs b (r + n4) dl v, _, rfl, upd_same, T.cls_Work, T.noat_Work_done, rfl, ?_⟩
    have hdl3 : upd (upd H1 x (.ins (cW K) dx (putF "here" (.ref b) (wFs a r dl v)))) x (.ins (cW K) dx (putF "ranks" (.int (r + n4)) (wFs b r dl v))) dl = some (.lst (ps.map V.ref)) := by
      rw [upd_ne (Ne.symm xd), upd_ne (Ne.symm xd)]; exact s1 _ _ hdl
    refine ⟨.inl ⟨rfl, _, SqL.of hdl3⟩, _, rfl, dl, _, .ref t, rfl, rfl, hdl3, small1000 (by simp <;> omega), ?_⟩
    obtain ⟨mt0, mx, rfl⟩ : ∃ mt0 mx, mt = mt0 ++ [mx] := by
      rcases (List.eq_nil_or_concat mt) with e | ⟨q1, q2, e⟩
      · exact absurd e mne
      · exact ⟨q1, q2, e.trans List.concat_eq_append⟩
    have hl4 : upd (upd (upd H1 x (.ins (cW K) dx (putF "here" (.ref b) (wFs a r dl v)))) x (.ins (cW K) dx (putF "ranks" (.int (r + n4)) (wFs b r dl v)))) dl (.lst (ps.map V.ref ++ [.ref t])) l = some (.lst (mt0.map nI ++ [nI mx])) := by
      rw [upd_ne ld, upd_ne xl, upd_ne xl, hl]; simp
    refine ⟨_, rfl, _, rfl, _, _, _, _, rfl, rfl, SqL.of hl4, atI_last _ _, _, rfl, x, _, dx, wFs b (r + n4) dl v, rfl, by rw [upd_ne xd]; exact upd_same, T.cls_Work, T.noat_Work_last_met, (show (4 : Nat) < 1000 by decide), ?_⟩
    have ob : Offs [x, dl] H1 (upd (upd (upd (upd H1 x (.ins (cW K) dx (putF "here" (.ref b) (wFs a r dl v)))) x (.ins (cW K) dx (putF "ranks" (.int (r + n4)) (wFs b r dl v)))) dl (.lst (ps.map V.ref ++ [.ref t]))) x (.ins (cW K) dx (wFs b (r + n4) dl (nI mx)))) := ((((Offs.of (.refl _)).upd (by simp)).upd (by simp)).upd (by simp)).upd (by simp)
    refine q _ ((Offs.of s1).trans ob) ⟨dx, b, r + n4, nI mx, ps ++ [t], pss ++ [[n1, n2, n3, n4]], upd_same, sb.offs ob nt1, by rw [upd_ne (Ne.symm xd), upd_same]; simp, ((pp.same s1).snoc rfl ht).offs ob nt1, by simp <;> omega⟩
end
end G3
set_option Elab.async false
set_option linter.all false
set_option maxRecDepth 100000
set_option maxHeartbeats 4000000
/-! Roots, turning about, joined, links and cuts. -/
namespace G3
open PySem PySem.Spec PyProof.Rows L2
open Lk (Part g isSon handOn flip setUp setSon setVal Wf PIn In ToTop MetR splice Reach LeftR LeftMost FoundRoot TurnAbout DPut DLink DCut AJoin AWhere FirstMax OrdR ChainR)
theorem reach_wf {h : Nat} {s s' : Shp} (r : Reach h s s') (w : Wf s) (hh : h < s.length) : Wf s' := by
  obtain ⟨s1, mt, _, mm, tt⟩ := r
  obtain ⟨w1, l1, hin⟩ := met_ok mm w hh
  refine totop_wf tt (splice_wf w1 trivial (by rw [l1]; exact hin)) ?_
  rw [Lk.splice_len, l1]; exact hh
theorem left_wf {n h r : Nat} {s s' : Shp} (q : LeftR n h s s' r) : Wf s → h < s.length → Wf s' ∧ r < s.length := by
  induction q with
  | stop _ => exact fun w hh => ⟨w, hh⟩
  | @go n h l s s' r e q ih =>
    intro w hh
    have hl : l < s.length := by have := (w.at h).2.1; rw [e] at this; exact this
    have := ih (Lk.wf_handOn w) (by rw [Lk.len_handOn]; exact hl)
    rw [Lk.len_handOn] at this; exact this
theorem leftmost_wf {h r : Nat} {s s' : Shp} (q : LeftMost h s s' r) (w : Wf s) (hh : h < s.length) : Wf s' ∧ r < s.length := by
  obtain ⟨m, q⟩ := q
  have := left_wf q (Lk.wf_handOn w) (by rw [Lk.len_handOn]; exact hh)
  rw [Lk.len_handOn] at this; exact this
theorem root_wf {h r : Nat} {s s' : Shp} (q : FoundRoot h s s' r) (w : Wf s) (hh : h < s.length) : Wf s' ∧ r < s.length := by
  obtain ⟨s1, s2, r1, lm, r2⟩ := q
  have l1 := r1.len
  have w1 := reach_wf r1 w hh
  obtain ⟨w2, h2⟩ := leftmost_wf lm w1 (by omega)
  have l2 := lm.len
  exact ⟨reach_wf r2 w2 (by omega), by omega⟩
theorem about_wf {h : Nat} {s s' : Shp} (q : TurnAbout h s s') (w : Wf s) (hh : h < s.length) : Wf s' := by
  obtain ⟨s1, r, rfl⟩ := q
  exact Lk.wf_flip (reach_wf r w hh)

section
variable {P : Program} {w : World} {K : PySem.W.Frag} {mg : Str → Option Value} {base : Heap}
/-- the field here of the work, read and set -/
theorem WkS.ins {H : Hp} {x dl : Addr} {s : Shp} {m : Nat} (h : WkS K H x dl s m) : ∃ dx a r v, H x = some (.ins (cW K) dx (wFs a r dl v)) ∧ ShAt H a s ∧ x ≠ dl ∧ (∀ c ∈ [x, dl], ∀ vs, H c ≠ some (.tup vs)) ∧ ∀ H1 b s', Same H H1 → ShAt H1 b s' → WkS K (upd H1 x (.ins (cW K) dx (wFs b r dl v))) x dl s' m ∧ Offs [x, dl] H (upd H1 x (.ins (cW K) dx (wFs b r dl v))) := by
  obtain ⟨dx, a, r, v, ps, pss, h1, h2, h3, h4, h5⟩ := h
  have xd : x ≠ dl := fun z => by rw [z, h3] at h1; cases h1
  have nt : ∀ H1 : Hp, Same H H1 → ∀ c ∈ [x, dl], ∀ vs, H1 c ≠ some (.tup vs) := fun H1 e c z vs g => by
    rcases List.mem_cons.mp z with z | z
    · rw [z, e _ _ h1] at g; cases g
    · rw [List.mem_singleton.mp z, e _ _ h3] at g; cases g
  refine ⟨dx, a, r, v, h1, h2, xd, nt H (.refl _), fun H1 b s' e sb => ?_⟩
  have o : Offs [x, dl] H1 (upd H1 x (.ins (cW K) dx (wFs b r dl v))) := (Offs.of (.refl _)).upd (by simp)
  exact ⟨⟨dx, b, r, v, ps, pss, upd_same, sb.offs o (nt H1 e), by rw [upd_ne (Ne.symm xd)]; exact e _ _ h3, (h4.same e).offs o (nt H1 e), h5⟩, (Offs.of e).trans o⟩
def spRoot : Sp := fun vs H Q _ => ∃ (x dl : Addr) (s : Shp) (h m : Nat) (s' : Shp) (r : Nat), vs = [.ref x, .int h] ∧ WkS K H x dl s m ∧ m ≤ 900 ∧ Wf s ∧ s.length ≤ 64 ∧ h < s.length ∧ FoundRoot h s s' r ∧ ∀ H', Offs [x, dl] H H' → WkS K H' x dl s' (m + 2) → Q (nI r) H'
theorem sc_Work_root : FnScope ["self", "house", "last"] ["self", "house"] (defScope s_Work_found_root) := ⟨rfl, rfl, rfl, by decide +kernel, rfl, by decide +kernel, by decide +kernel⟩
theorem ok_Work_root (T : Txt w K mg) : OkM P w K mg base 10 "Work" "found_root" ["self", "house"] (spRoot (K := K)) := by
  obtain ⟨fC, dC, GC, mC, cC, bC⟩ := (ok_Work_come (P := P) (base := base) T).ex
  obtain ⟨fL, dL, GL, mL, kL, bL⟩ := (ok_left_most (P := P) (base := base) T).ex
  refine okm T.meth_Work_found_root T.cls_Work T.fn_Work_found_root sc_Work_root (fun _ _ _ _ _ _ us hl => match us, hl with | [_, _], _ => rfl) (fun vs H Q E h => ?_) (fun cdv A outer s H vs Q E hr h => ?_)
  · obtain ⟨x, dl, s, h, m, s', r, rfl, _⟩ := h; rfl
  · obtain ⟨x, dl, s, h, m, s', r, rfl, wk, hm, wf, l64, hh, ⟨s1, s2, r1, lm, r2⟩, q⟩ := h
    have hr4 : Room 4 _ := hr.mono (by decide)
    refine ⟨_, (pss_cons (ps_expr (pe_meth (pv 0) cC mC GC hr bC .nil pass0 (pa_cons (pv 1) pa_nil))) (pss_cons (ps_asg (pe_call GL hr4 (by rfl) mL kL bL .nil pass0 (pa_cons (pe_fld (pv 0) (by rfl)) (pa_cons (pv 1) pa_nil))) (pg_tup rfl (pgs_cons (pg_fld (pv 0)) (pgs_cons (pg_name (i := 2) sc_Work_root.nd rfl (.inl rfl)) pgs_nil)))) (pss_cons (ps_expr (pe_meth (pv 0) cC mC GC hr bC .nil pass0 (pa_cons (pv 2) pa_nil))) (pss_one (ps_ret (pv 2)))))), ?_⟩
    have l1 := r1.len
    have w1 := reach_wf r1 wf hh
    obtain ⟨w2, h2⟩ := leftmost_wf lm w1 (by omega)
    have l2 := lm.len
    obtain ⟨dx, a, rr, v, hx, _⟩ := wk.ins
    refine ⟨_, rfl, x, dx, _, rfl, hx, rfl, _, rfl, x, dl, s, h, m, s1, rfl, wk, by omega, wf, l64, hh, r1, fun H1 o1 wk1 => ?_⟩
    obtain ⟨dx1, a1, rr1, v1, hx1, sh1, xd, nt1, set1⟩ := wk1.ins
    refine ⟨_, rfl, x, _, dx1, _, _, rfl, hx1, T.cls_Work, T.noat_Work_here, rfl, _, rfl, a1, s1, h, s2, r, rfl, sh1, w1, by omega, by omega, lm, fun H2 p b s12 sb hp => ?_⟩
    have hx2 := s12 _ _ hx1
    refine ⟨p, _, rfl, SqT.of hp, rfl, _, _, rfl, ⟨_, rfl, x, _, dx1, _, rfl, hx2, T.cls_Work, T.noat_Work_here, (show (4 : Nat) < 1000 by decide), _, _, rfl, rfl, ?_⟩⟩
    obtain ⟨wk2, o2⟩ := set1 H2 b s2 s12 sb
    refine ⟨_, rfl, x, dx1, _, rfl, upd_same, rfl, _, rfl, x, dl, s2, r, m + 1, s', rfl, wk2, by omega, w2, by omega, by omega, r2, fun H3 o3 wk3 => ?_⟩
    exact ⟨_, rfl, q H3 ((o1.trans o2).trans o3) wk3⟩
def spAbout : Sp := fun vs H Q _ => ∃ (x dl : Addr) (s : Shp) (h m : Nat) (s' : Shp), vs = [.ref x, .int h] ∧ WkS K H x dl s m ∧ m ≤ 900 ∧ Wf s ∧ s.length ≤ 64 ∧ h < s.length ∧ TurnAbout h s s' ∧ ∀ H', Offs [x, dl] H H' → WkS K H' x dl s' (m + 1) → Q .non H'
theorem sc_Work_about : FnScope ["self", "house"] ["self", "house"] (defScope s_Work_turn_about) := ⟨rfl, rfl, rfl, by decide +kernel, rfl, by decide +kernel, by decide +kernel⟩
theorem ok_Work_about (T : Txt w K mg) : OkM P w K mg base 10 "Work" "turn_about" ["self", "house"] (spAbout (K := K)) := by
  obtain ⟨fC, dC, GC, mC, cC, bC⟩ := (ok_Work_come (P := P) (base := base) T).ex
  obtain ⟨fL, dL, GL, mL, kL, bL⟩ := (ok_changed (P := P) (base := base) T).ex
  refine okm T.meth_Work_turn_about T.cls_Work T.fn_Work_turn_about sc_Work_about (fun _ _ _ _ _ _ us hl => match us, hl with | [_, _], _ => rfl) (fun vs H Q E h => ?_) (fun cdv A outer s H vs Q E hr h => ?_)
  · obtain ⟨x, dl, s, h, m, s', rfl, _⟩ := h; rfl
  · obtain ⟨x, dl, s, h, m, s', rfl, wk, hm, wf, l64, hh, ⟨s1, r1, rfl⟩, q⟩ := h
    have hr2 : Room 2 _ := hr.mono (by decide)
    refine ⟨_, (pss_cons (ps_expr (pe_meth (pv 0) cC mC GC hr bC .nil pass0 (pa_cons (pv 1) pa_nil))) (pss_one (ps_fld (pv 0) (pe_call GL hr2 (by rfl) mL kL bL .nil pass0 (pa_cons (pe_fld (pv 0) (by rfl)) (pa_cons (pv 1) (pa_cons (gi T.int_TURNED) (pa_cons (pe_not (pe_ix ix_tup (pe_ix ix_tup (pe_fld (pv 0) (by rfl)) (pv 1) (fun _ _ => rfl)) (gi T.int_TURNED) (fun _ _ => rfl))) pa_nil))))) (by rfl)))), ?_⟩
    have l1 := r1.len
    obtain ⟨dx, a, rr, v, hx, _⟩ := wk.ins
    refine ⟨_, rfl, x, dx, _, rfl, hx, rfl, _, rfl, x, dl, s, h, m, s1, rfl, wk, by omega, wf, l64, hh, r1, fun H1 o1 wk1 => ?_⟩
    obtain ⟨dx1, a1, rr1, v1, hx1, sh1, xd, nt1, set1⟩ := wk1.ins
    obtain ⟨xs, pr, ha, _, hi, hr'⟩ := sh1.item (show h < s1.length by omega)
    refine ⟨_, rfl, x, _, dx1, _, _, rfl, hx1, T.cls_Work, T.noat_Work_here, rfl, _, rfl, _, rfl, x, _, dx1, _, _, rfl, hx1, T.cls_Work, T.noat_Work_here, rfl, _, rfl, _, _, _, _, rfl, rfl, SqT.of (ha),  hi, _, _, _, _, rfl, rfl, SqT.of (hr'),  rfl, _, rfl, ?_⟩
    refine ⟨a1, s1, h, 3, .bl (!(g s1 h).tn), { g s1 h with tn := !(g s1 h).tn }, rfl, sh1, by omega, by omega, by decide, rfl, fun H2 b s2 sb => ?_⟩
    obtain ⟨wk2, o2⟩ := set1 H2 b _ s2 sb
    exact ⟨_, rfl, x, _, dx1, _, rfl, s2 _ _ hx1, T.cls_Work, T.noat_Work_here, (show (4 : Nat) < 1000 by decide), q _ (o1.trans o2) wk2⟩
def spJoin : Sp := fun vs H Q _ => ∃ (x dl : Addr) (s : Shp) (a b m : Nat) (s1 s' : Shp) (r1 r2 : Nat), vs = [.ref x, .int a, .int b] ∧ WkS K H x dl s m ∧ m ≤ 800 ∧ Wf s ∧ s.length ≤ 64 ∧ a < s.length ∧ b < s.length ∧ FoundRoot a s s1 r1 ∧ FoundRoot b s1 s' r2 ∧
  ∀ H' p, Offs [x, dl] H H' → WkS K H' x dl s' (m + 4) → H' p = some (.tup [nI r1, .bl (decide (r2 = r1))]) → Q (.ref p) H'
theorem sc_Work_join : FnScope ["self", "one", "other", "first"] ["self", "one", "other"] (defScope s_Work_are_joined) := ⟨rfl, rfl, rfl, by decide +kernel, rfl, by decide +kernel, by decide +kernel⟩
theorem dec_nI {a b : Nat} : decide (nI a = nI b) = decide (a = b) := by
  by_cases e : a = b
  · subst e; simp
  · have : nI a ≠ nI b := fun q => e (by injection q with q; omega)
    rw [decide_eq_false this, decide_eq_false e]
theorem ok_Work_join (T : Txt w K mg) : OkM P w K mg base 11 "Work" "are_joined" ["self", "one", "other"] (spJoin (K := K)) := by
  obtain ⟨fC, dC, GC, mC, cC, bC⟩ := (ok_Work_root (P := P) (base := base) T).ex
  refine okm T.meth_Work_are_joined T.cls_Work T.fn_Work_are_joined sc_Work_join (fun _ _ _ _ _ _ us hl => match us, hl with | [_, _, _], _ => rfl) (fun vs H Q E h => ?_) (fun cdv A outer s H vs Q E hr h => ?_)
  · obtain ⟨x, dl, s, a, b, m, s1, s', r1, r2, rfl, _⟩ := h; rfl
  · obtain ⟨x, dl, s, a, b, m, s1, s', r1, r2, rfl, wk, hm, wf, l64, ha, hb, f1, f2, q⟩ := h
    refine ⟨_, (pss_cons (ps_set (i := 3) sc_Work_join.nd rfl (.inl rfl) (pe_meth (pv 0) cC mC GC hr bC .nil pass0 (pa_cons (pv 1) pa_nil))) (pss_one (ps_ret (pe_tup (pa_cons (pv 3) (pa_cons (pe_cmpR op_eq (pe_meth (pv 0) cC mC GC hr bC .nil pass0 (pa_cons (pv 2) pa_nil)) (pv 3) (nomark _)) pa_nil)))))), ?_⟩
    obtain ⟨w1, hr1⟩ := root_wf f1 wf ha
    have l1 := f1.len
    obtain ⟨dx, a0, rr, v, hx, _⟩ := wk.ins
    refine ⟨_, rfl, x, dx, _, rfl, hx, rfl, _, rfl, x, dl, s, a, m, s1, r1, rfl, wk, by omega, wf, l64, ha, f1, fun H1 o1 wk1 => ?_⟩
    obtain ⟨dx1, a1, rr1, v1, hx1, _⟩ := wk1.ins
    refine ⟨_, rfl, _, rfl, x, dx1, _, rfl, hx1, rfl, _, rfl, x, dl, s1, b, m + 2, s', r2, rfl, wk1, by omega, w1, by omega, by omega, f2, fun H2 o2 wk2 => ?_⟩
    refine ⟨_, rfl, rfl, by show 2 ≤ sizeLine; decide, fun p np => ?_⟩
    rw [dec_nI]
    exact q _ p ((o1.trans o2).same (same_upd np)) (wk2.same (same_upd np)) upd_same
def spWay : Sp := fun vs H Q _ => ∃ (x dl : Addr) (s : Shp) (b m : Nat) (L : List Nat), vs = [.ref x, .int b] ∧ WkS K H x dl s m ∧ Wf s ∧ s.length ≤ 64 ∧ b < s.length ∧ OrdR s 64 (some b) false L ∧ L.length ≤ 64 ∧ (∀ k ∈ L, k < s.length ∧ ∃ l, ChainR s k l) ∧
  ∀ H' p q r, Same H H' → H' q = some (.tup (L.map nI)) → H' r = some (.lst ((L.map fun k => (g s k).val).map V.int)) → H' p = some (.tup [.ref q, .ref r]) → Q (.ref p) H'
theorem sc_Work_way : FnScope ["self", "house", "houses", "here"] ["self", "house"] (defScope s_Work_way_values) := ⟨rfl, rfl, rfl, by decide +kernel, rfl, by decide +kernel, by decide +kernel⟩
theorem ok_Work_way (T : Txt w K mg) : OkM P w K mg base 67 "Work" "way_values" ["self", "house"] (spWay (K := K)) := by
  obtain ⟨fR, dR, GR, mR, kR, bR⟩ := (ok_row_from (P := P) (base := base) T).ex
  obtain ⟨fV, dV, GV, mV, kV, bV⟩ := (ok_told_value (P := P) (base := base) T).ex
  refine okm T.meth_Work_way_values T.cls_Work T.fn_Work_way_values sc_Work_way (fun _ _ _ _ _ _ us hl => match us, hl with | [_, _], _ => rfl) (fun vs H Q E h => ?_) (fun cdv A outer s H vs Q E hr h => ?_)
  · obtain ⟨x, dl, s, b, m, L, rfl, _⟩ := h; rfl
  · obtain ⟨x, dl, s, b, m, L, rfl, wk, wf, l64, hb, od, ll, inL, q⟩ := h
    have hr2 : Room 2 _ := hr.mono (by decide)
    refine ⟨_, (pss_cons (ps_set (i := 2) sc_Work_way.nd rfl (.inl rfl) (pe_call GR hr (by rfl) mR kR bR .nil pass0 (pa_cons (pe_fld (pv 0) (by rfl)) (pa_cons (pv 1) pa_nil)))) (pss_one (ps_ret (pe_tup (pa_cons (pv 2) (pa_cons (pe_lc (own := [("here", 3)]) (g := gName 3) (te := tCall spTold [] E0 (tCons (tFld K (tVar 0) "here") (tCons (tVar 3) tNil))) rfl sc_Work_way.nd (pi_tup (pv 2)) (blkOk_by (N := ["self", "house", "houses", "here"]) (sc := defScope s_Work_way_values) (by decide +kernel)) (fun _ _ _ _ _ => pg_name (i := 3) sc_Work_way.nd rfl (.inl rfl)) (fun _ _ _ _ _ => pts_nil) (fun _ _ _ _ _ => (pe_call GV hr2 (by rfl) mV kV bV .nil pass0 (pa_cons (pe_fld (pv 0) (by rfl)) (pa_cons (pv 3) pa_nil))))) pa_nil)))))), ?_⟩
    obtain ⟨dx, a, rr, v, hx, sh, _⟩ := wk.ins
    refine ⟨_, rfl, x, _, dx, _, _, rfl, hx, T.cls_Work, T.noat_Work_here, rfl, _, rfl, a, s, b, L, rfl, sh, wf, hb, od, ll, fun H1 p s1 np hp => ?_⟩
    refine ⟨_, rfl, _, rfl, p, rfl, ⟨_, SqT.of hp⟩, fun D nD => ?_⟩
    refine lc_rel (walk_tup (K := K) (a := p) (xs := L.map nI)) nD (by simp <;> omega) (fun i v _ => ∃ k, L[i]? = some k ∧ v = .int (g s k).val) (fun _ _ _ _ _ h => h) (fun H s2 => SqT.of (s2 _ _ hp)) ?_ ?_
    · rintro i u H2 _ Fin N hi s2 _ ⟨rfl, hu⟩ fin
      rw [List.getElem?_map] at hu
      obtain ⟨k, hk, rfl⟩ := Option.map_eq_some_iff.mp hu
      obtain ⟨kl, l, ch⟩ := inL k (List.mem_of_getElem? hk)
      have s12 := s1.trans s2
      refine ⟨rfl, tyes ⟨_, rfl, x, _, dx, _, _, rfl, s12 _ _ hx, T.cls_Work, T.noat_Work_here, rfl, _, rfl, a, s, k, l, rfl, sh.same s12, wf, kl, ch, fun H3 s3 => fin _ _ s3 ⟨k, hk, rfl⟩⟩⟩
    · intro H2 acc s2 la hD hR
      have e : acc = (L.map fun k => (g s k).val).map V.int := by
        refine List.ext_getElem? fun i => ?_
        rw [List.getElem?_map, List.getElem?_map]
        by_cases il : i < acc.length
        · obtain ⟨l, h1, h2⟩ := hR i acc[i] (List.getElem?_eq_getElem il)
          rw [List.getElem?_eq_getElem il, h1, h2]; rfl
        · rw [List.getElem?_eq_none (by omega), List.getElem?_eq_none (by simp at la; omega)]; rfl
      subst e
      refine ⟨by show 2 ≤ sizeLine; decide, fun t nt => ?_⟩
      exact q _ t p D ((s1.trans s2).trans (same_upd nt)) (by rw [upd_ne (ne_of_none (s2 _ _ hp) nt)]; exact s2 _ _ hp) (by rw [upd_ne (ne_of_none hD nt)]; exact hD) upd_same
def spLink : Sp := fun vs H Q _ => ∃ (x dl : Addr) (s : Shp) (h o m : Nat) (s' : Shp), vs = [.ref x, .int h, .int o] ∧ WkS K H x dl s m ∧ m ≤ 800 ∧ Wf s ∧ s.length ≤ 64 ∧ h < s.length ∧ o < s.length ∧ DLink h o s s' ∧ ∀ H', Offs [x, dl] H H' → WkS K H' x dl s' (m + 6) → Q (.bl true) H'
theorem sc_Work_link : FnScope ["self", "house", "other"] ["self", "house", "other"] (defScope s_Work_does_link) := ⟨rfl, rfl, rfl, by decide +kernel, rfl, by decide +kernel, by decide +kernel⟩
theorem ok_Work_link (T : Txt w K mg) : OkM P w K mg base 11 "Work" "does_link" ["self", "house", "other"] (spLink (K := K)) := by
  obtain ⟨fC, dC, GC, mC, cC, bC⟩ := (ok_Work_come (P := P) (base := base) T).ex
  obtain ⟨fR, dR, GR, mR, cR, bR⟩ := (ok_Work_root (P := P) (base := base) T).ex
  obtain ⟨fL, dL, GL, mL, kL, bL⟩ := (ok_changed (P := P) (base := base) T).ex
  refine okm T.meth_Work_does_link T.cls_Work T.fn_Work_does_link sc_Work_link (fun _ _ _ _ _ _ us hl => match us, hl with | [_, _, _], _ => rfl) (fun vs H Q E h => ?_) (fun cdv A outer s H vs Q E hr h => ?_)
  · obtain ⟨x, dl, s, h, o, m, s', rfl, _⟩ := h; rfl
  · obtain ⟨x, dl, s, h, o, m, s', rfl, wk, hm, wf, l64, hh, ho, ⟨s1, s2, r, s3, s4, f1, f2, ne, c3, c4, rfl⟩, q⟩ := h
    have hr2 : Room 2 _ := hr.mono (by decide)
    have hr9 : Room 9 _ := hr.mono (by decide)
    refine ⟨_, (pss_cons (ps_if (pw_or (pt_cmpR op_ne (pe_meth (pv 0) cR mR GR hr bR .nil pass0 (pa_cons (pv 1) pa_nil)) (pv 1) (nomark _)) (pw_or1 (pt_cmpR op_eq (pe_meth (pv 0) cR mR GR hr bR .nil pass0 (pa_cons (pv 2) pa_nil)) (pv 1) (nomark _)))).pt (pss_one (ps_ret pe_bl)) pss_nil) (pss_cons (ps_expr (pe_meth (pv 0) cC mC GC hr9 bC .nil pass0 (pa_cons (pv 1) pa_nil))) (pss_cons (ps_expr (pe_meth (pv 0) cC mC GC hr9 bC .nil pass0 (pa_cons (pv 2) pa_nil))) (pss_cons (ps_fld (pv 0) (pe_call GL hr2 (by rfl) mL kL bL .nil pass0 (pa_cons (pe_fld (pv 0) (by rfl)) (pa_cons (pv 1) (pa_cons (gi T.int_UP) (pa_cons (pv 2) pa_nil))))) (by rfl)) (pss_one (ps_ret pe_bl)))))), ?_⟩
    obtain ⟨w1, _⟩ := root_wf f1 wf hh
    have l1 := f1.len
    obtain ⟨w2, _⟩ := root_wf f2 w1 (by omega)
    have l2 := f2.len
    have w3 := reach_wf c3 w2 (by omega)
    have l3 := c3.len
    have l4 := c4.len
    obtain ⟨dx, a0, rr, v, hx, _⟩ := wk.ins
    refine ⟨_, rfl, x, dx, _, rfl, hx, rfl, _, rfl, x, dl, s, h, m, s1, h, rfl, wk, by omega, wf, l64, hh, f1, fun H1 o1 wk1 => ?_⟩
    refine ⟨_, rfl, rfl, _, rfl, ?_⟩
    have e1 : (!decide (nI h = V.int h)) = false := by simp [nI]
    rw [e1]
    obtain ⟨dx1, a1, rr1, v1, hx1, _⟩ := wk1.ins
    refine iteF ⟨_, rfl, x, dx1, _, rfl, hx1, rfl, _, rfl, x, dl, s1, o, m + 2, s2, r, rfl, wk1, by omega, w1, by omega, by omega, f2, fun H2 o2 wk2 => ?_⟩
    refine ⟨_, rfl, rfl, _, rfl, ?_⟩
    have e2 : decide (nI r = V.int h) = false := by
      have := @dec_nI r h
      rw [decide_eq_false ne] at this; exact this
    rw [e2]
    obtain ⟨dx2, a2, rr2, v2, hx2, _⟩ := wk2.ins
    refine iteF ⟨_, rfl, x, dx2, _, rfl, hx2, rfl, _, rfl, x, dl, s2, h, m + 4, s3, rfl, wk2, by omega, w2, by omega, by omega, c3, fun H3 o3 wk3 => ?_⟩
    obtain ⟨dx3, a3, rr3, v3, hx3, _⟩ := wk3.ins
    refine ⟨_, rfl, x, dx3, _, rfl, hx3, rfl, _, rfl, x, dl, s3, o, m + 5, s4, rfl, wk3, by omega, w3, by omega, by omega, c4, fun H4 o4 wk4 => ?_⟩
    obtain ⟨dx4, a4, rr4, v4, hx4, sh4, xd, nt4, set4⟩ := wk4.ins
    refine ⟨_, rfl, x, _, dx4, _, _, rfl, hx4, T.cls_Work, T.noat_Work_here, rfl, _, rfl, _, rfl, a4, s4, h, 0, .int o, { g s4 h with up := some o }, rfl, sh4, by omega, by omega, by decide, rfl, fun H5 b s5 sb => ?_⟩
    obtain ⟨wk5, o5⟩ := set4 H5 b _ s5 sb
    exact ⟨_, rfl, x, _, dx4, _, rfl, s5 _ _ hx4, T.cls_Work, T.noat_Work_here, (show (4 : Nat) < 1000 by decide), q _ ((((o1.trans o2).trans o3).trans o4).trans o5) wk5⟩
def spCut : Sp := fun vs H Q _ => ∃ (x dl : Addr) (s : Shp) (h m : Nat) (s' : Shp), vs = [.ref x, .int h] ∧ WkS K H x dl s m ∧ m ≤ 800 ∧ Wf s ∧ s.length ≤ 64 ∧ h < s.length ∧ DCut h s s' ∧ ∀ H', Offs [x, dl] H H' → WkS K H' x dl s' (m + 3) → Q (.bl true) H'
theorem sc_Work_cut : FnScope ["self", "house", "left"] ["self", "house"] (defScope s_Work_does_cut) := ⟨rfl, rfl, rfl, by decide +kernel, rfl, by decide +kernel, by decide +kernel⟩
theorem ok_Work_cut (T : Txt w K mg) : OkM P w K mg base 11 "Work" "does_cut" ["self", "house"] (spCut (K := K)) := by
  obtain ⟨fC, dC, GC, mC, cC, bC⟩ := (ok_Work_come (P := P) (base := base) T).ex
  obtain ⟨fR, dR, GR, mR, cR, bR⟩ := (ok_Work_root (P := P) (base := base) T).ex
  obtain ⟨fL, dL, GL, mL, kL, bL⟩ := (ok_changed (P := P) (base := base) T).ex
  refine okm T.meth_Work_does_cut T.cls_Work T.fn_Work_does_cut sc_Work_cut (fun _ _ _ _ _ _ us hl => match us, hl with | [_, _], _ => rfl) (fun vs H Q E h => ?_) (fun cdv A outer s H vs Q E hr h => ?_)
  · obtain ⟨x, dl, s, h, m, s', rfl, _⟩ := h; rfl
  · obtain ⟨x, dl, s, h, m, s', rfl, wk, hm, wf, l64, hh, ⟨s1, r, s2, k, f1, ne, c2, ek, rfl⟩, q⟩ := h
    have hr2 : Room 2 _ := hr.mono (by decide)
    have hr9 : Room 9 _ := hr.mono (by decide)
    refine ⟨_, (pss_cons (ps_if (pt_cmpR op_eq (pe_meth (pv 0) cR mR GR hr bR .nil pass0 (pa_cons (pv 1) pa_nil)) (pv 1) (nomark _)) (pss_one (ps_ret pe_bl)) pss_nil) (pss_cons (ps_expr (pe_meth (pv 0) cC mC GC hr9 bC .nil pass0 (pa_cons (pv 1) pa_nil))) (pss_cons (ps_set (i := 2) sc_Work_cut.nd rfl (.inl rfl) (pe_ix ix_tup (pe_ix ix_tup (pe_fld (pv 0) (by rfl)) (pv 1) (fun _ _ => rfl)) (gi T.int_LEFT) (fun _ _ => rfl))) (pss_cons (ps_fld (pv 0) (pe_call GL hr2 (by rfl) mL kL bL .nil pass0 (pa_cons (pe_call GL hr2 (by rfl) mL kL bL .nil pass0 (pa_cons (pe_fld (pv 0) (by rfl)) (pa_cons (pv 1) (pa_cons (gi T.int_LEFT) (pa_cons pe_non pa_nil))))) (pa_cons (pv 2) (pa_cons (gi T.int_UP) (pa_cons pe_non pa_nil))))) (by rfl)) (pss_one (ps_ret pe_bl)))))), ?_⟩
    obtain ⟨w1, _⟩ := root_wf f1 wf hh
    have l1 := f1.len
    have w2 := reach_wf c2 w1 (by omega)
    have l2 := c2.len
    have hk : k < s2.length := by have := (w2.at h).2.1; rw [ek] at this; exact this
    obtain ⟨dx, a0, rr, v, hx, _⟩ := wk.ins
    refine ⟨_, rfl, x, dx, _, rfl, hx, rfl, _, rfl, x, dl, s, h, m, s1, r, rfl, wk, by omega, wf, l64, hh, f1, fun H1 o1 wk1 => ?_⟩
    refine ⟨_, rfl, rfl, _, rfl, ?_⟩
    have e2 : decide (nI r = V.int h) = false := by
      have := @dec_nI r h
      rw [decide_eq_false ne] at this; exact this
    rw [e2]
    obtain ⟨dx2, a2, rr2, v2, hx2, _⟩ := wk1.ins
    refine iteF ⟨_, rfl, x, dx2, _, rfl, hx2, rfl, _, rfl, x, dl, s1, h, m + 2, s2, rfl, wk1, by omega, w1, by omega, by omega, c2, fun H3 o3 wk3 => ?_⟩
    obtain ⟨dx4, a4, rr4, v4, hx4, sh4, xd, nt4, set4⟩ := wk3.ins
    obtain ⟨xs, pr, ha, _, hi, hr'⟩ := sh4.item (show h < s2.length by omega)
    refine ⟨_, rfl, x, _, dx4, _, _, rfl, hx4, T.cls_Work, T.noat_Work_here, rfl, _, rfl, _, _, _, _, rfl, rfl, SqT.of (ha),  hi, _, _, _, _, rfl, rfl, SqT.of (hr'),  rfl, ?_⟩
    rw [ek]
    refine ⟨_, rfl, x, _, dx4, _, _, rfl, hx4, T.cls_Work, T.noat_Work_here, rfl, _, rfl, a4, s2, h, 1, .non, { g s2 h with left := none }, rfl, sh4, by omega, by omega, by decide, rfl, fun H5 b s5 sb => ?_⟩
    have es : s2.set h { g s2 h with left := none } = setSon s2 h false none := rfl
    rw [es] at sb
    refine ⟨_, rfl, b, setSon s2 h false none, k, 0, .non, { g (setSon s2 h false none) k with up := none }, rfl, sb, by rw [Lk.len_setSon]; omega, by rw [Lk.len_setSon]; omega, by decide, rfl, fun H6 c s6 sc => ?_⟩
    obtain ⟨wk5, o5⟩ := set4 H6 c _ (s5.trans s6) sc
    exact ⟨_, rfl, x, _, dx4, _, rfl, s6 _ _ (s5 _ _ hx4), T.cls_Work, T.noat_Work_here, (show (4 : Nat) < 1000 by decide), q _ ((o1.trans o3).trans o5) wk5⟩
end
end G3
set_option Elab.async false
set_option linter.all false
set_option maxRecDepth 100000
set_option maxHeartbeats 4000000
/-! Deeds. -/
namespace G3
open PySem PySem.Spec PyProof.Rows L2
open Lk (Part g isSon handOn flip setUp setSon setVal Wf PIn In ToTop MetR splice Reach LeftR LeftMost FoundRoot TurnAbout DPut DLink DCut AJoin AWhere FirstMax OrdR ChainR)
inductive Dd where
  | link (h o : Nat)
  | cut (h : Nat)
  | turn (h : Nat)
  | put (h : Nat) (v : Int)
def Dd.word : Dd → Str
  | .link _ _ => "link"
  | .cut _ => "cut"
  | .turn _ => "turn"
  | .put _ _ => "put"
def Dd.hs : Dd → List Nat
  | .link h o => [h, o]
  | .cut h => [h]
  | .turn h => [h]
  | .put h _ => [h]
def Dd.ns : Dd → List Int
  | .put _ v => [v]
  | _ => []
def Dd.vs (D : Dd) : List V := .str D.word :: (D.hs.map nI ++ D.ns.map V.int)
def Dd.R : Dd → Shp → Shp → Prop
  | .link h o => DLink h o
  | .cut h => DCut h
  | .turn h => TurnAbout h
  | .put h v => DPut h v
theorem sne {a b : Str} (h : (a == b) = false) : decide (V.str a = V.str b) = false := by rw [dec_str]; exact h
theorem seq' {a : Str} : decide (V.str a = V.str a) = true := by simp
section
variable {P : Program} {w : World} {K : PySem.W.Frag} {mg : Str → Option Value} {base : Heap}
theorem Txt.tabS (T : Txt w K mg) : (∃ es n, KDict K w (He.ga K "SIZES") es n) ∧ (∃ es n, KDict K w (He.ga K "HOUSES") es n) := ⟨T.says.1.tab 0, T.says.1.tab 1⟩
theorem Txt.more (T : Txt w K mg) : He.tupB K "ONES" [.str "root", .str "depth", .str "below", .str "whole"] = true ∧ He.tupB K "TWOS" [.str "joined", .str "common", .str "way"] = true ∧ He.tupB K "MORES" [.str "where", .str "at", .str "reach"] = true ∧
    He.valsB K (He.ga K "SIZES") [("link", .int 3), ("cut", .int 2), ("turn", .int 2), ("put", .int 3), ("add", .int 4)] = true ∧ He.valsB K (He.ga K "HOUSES") [("link", .int 2), ("cut", .int 1), ("turn", .int 1), ("put", .int 1), ("add", .int 2)] = true ∧
    PySem.W.kitOne K (.ref (He.ga K "Roads")) (.ref (He.ga K "Roads")) = some true ∧ insB K (He.ga K "Roads") = true := by
  have h := T.says.2
  unfold ex at h
  obtain ⟨h1, h⟩ := He.ba h
  obtain ⟨h2, h⟩ := He.ba h
  obtain ⟨h3, h⟩ := He.ba h
  obtain ⟨h4, h⟩ := He.ba h
  obtain ⟨h5, h⟩ := He.ba h
  obtain ⟨h6, h7⟩ := He.ba h
  exact ⟨h1, h2, h3, h4, h5, of_decide_eq_true h6, h7⟩
/-- what the two tables tell of a deed -/
theorem Txt.sizes (T : Txt w K mg) (D : Dd) : ∃ u, PySem.W.nsIn K (He.ga K "SIZES") D.word = some (some u) ∧ RelV (.int (D.vs.length : Nat)) u := by
  have h := T.more.2.2.2.1
  cases D with
  | link a b => exact He.valsB_ok h (q := ("link", .int 3)) (by simp)
  | cut a => exact He.valsB_ok h (q := ("cut", .int 2)) (by simp)
  | turn a => exact He.valsB_ok h (q := ("turn", .int 2)) (by simp)
  | put a v => exact He.valsB_ok h (q := ("put", .int 3)) (by simp)
theorem Txt.houses (T : Txt w K mg) (D : Dd) : ∃ u, PySem.W.nsIn K (He.ga K "HOUSES") D.word = some (some u) ∧ RelV (.int (D.hs.length : Nat)) u := by
  have h := T.more.2.2.2.2.1
  cases D with
  | link a b => exact He.valsB_ok h (q := ("link", .int 2)) (by simp)
  | cut a => exact He.valsB_ok h (q := ("cut", .int 1)) (by simp)
  | turn a => exact He.valsB_ok h (q := ("turn", .int 1)) (by simp)
  | put a v => exact He.valsB_ok h (q := ("put", .int 1)) (by simp)
theorem Dd.small (D : Dd) : D.hs.length ≤ 2 ∧ D.ns.length ≤ 1 ∧ 0 < D.hs.length := by cases D <;> simp [Dd.hs, Dd.ns]
def spFormD : Sp := fun vs H Q _ => ∃ (n : Nat) (d : Addr) (D : Dd), vs = [.int n, .ref d] ∧ H d = some (.tup D.vs) ∧ (∀ h ∈ D.hs, h < n) ∧ ∀ H', Same H H' → Q (.bl true) H'
theorem sc_form_deeds : FnScope ["many", "thing", "houses", "item"] ["many", "thing"] (defScope s_has_form_deeds) := ⟨rfl, rfl, rfl, by decide +kernel, rfl, by decide +kernel, by decide +kernel⟩
theorem ok_form_deeds (T : Txt w K mg) : OkF P w K mg base 4 "has_form_deeds" ["many", "thing"] spFormD := by
  obtain ⟨fB, dB, GB, mB, kB, bB⟩ := (ok_is_below (P := P) (base := base) T).ex
  obtain ⟨fI, dI, GI, mI, kI, bI⟩ := (ok_is_integer (P := P) (base := base) T).ex
  obtain ⟨⟨es1, m1, D1⟩, ⟨es2, m2, D2⟩⟩ := T.tabS
  refine okf T.glo_has_form_deeds T.fn_has_form_deeds sc_form_deeds (fun _ _ _ _ _ _ us hl => match us, hl with | [_, _], _ => rfl) (fun vs H Q E h => ?_) (fun cdv A outer s H vs Q E hr h => ?_)
  · obtain ⟨n, d, D, rfl, _⟩ := h; rfl
  · obtain ⟨n, d, D, rfl, hd, hin, q⟩ := h
    have hr1 : Room 1 _ := hr.mono (by decide)
    refine ⟨_, (pss_cons (ps_if (pw_or (pt_not (pt_val (pe_callB call_isi (by rfl) T.free_isinstance (by decide +kernel) (pa_cons (pv 1) (pa_cons (gt (T := "tuple") T.free_tuple (by decide +kernel)) pa_nil))))) (pw_or (pt_cmpR op_eq (pe_callB call_len_seq (by rfl) T.free_len PySem.boot_len (pa_cons (pv 1) pa_nil)) pe_int (nomark _)) (pw_or1 (pt_not (pt_val (pe_callB call_isi (by rfl) T.free_isinstance (by decide +kernel) (pa_cons (pe_ix ix_tup (pv 1) pe_int (fun _ _ => rfl)) (pa_cons (gt (T := "str") T.free_str (by decide +kernel)) pa_nil)))))))).pt (pss_one (ps_ret pe_bl)) pss_nil) (pss_cons (ps_if (pt_cmpR op_ne (Lz.pe_kget (gr T.glo_SIZES) (pe_ix ix_tup (pv 1) pe_int (fun _ _ => rfl)) pe_int ⟨rfl, rfl, rfl, rfl⟩) (pe_callB call_len_seq (by rfl) T.free_len PySem.boot_len (pa_cons (pv 1) pa_nil)) (nomark _)) (pss_one (ps_ret pe_bl)) pss_nil) (pss_cons (ps_set (i := 2) sc_form_deeds.nd rfl (.inl rfl) (pe_ix ix_kdict (gr T.glo_HOUSES) (pe_ix ix_tup (pv 1) pe_int (fun _ _ => rfl)) (fun _ _ => rfl))) (pss_cons (ps_if (pt_not (pt_val (pe_callB (cr_all rfl) (by rfl) T.free_all (by decide +kernel) (pa_cons (pe_lc (own := [("item", 3)]) (g := gName 3) (te := tCall spBelow [] E0 (tCons (tVar 3) (tCons (tVar 0) tNil))) rfl sc_form_deeds.nd (pi_tup (pe_slice sl_tupA (pv 1) (po_some pe_int) (po_some (pe_op op_add pe_int (pv 2))))) (blkOk_by (N := ["many", "thing", "houses", "item"]) (sc := defScope s_has_form_deeds) (by decide +kernel)) (fun _ _ _ _ _ => pg_name (i := 3) sc_form_deeds.nd rfl (.inl rfl)) (fun _ _ _ _ _ => pts_nil) (fun _ _ _ _ _ => (pe_call GB hr (by rfl) mB kB bB .nil pass0 (pa_cons (pv 3) (pa_cons (pv 0) pa_nil))))) pa_nil)))) (pss_one (ps_ret pe_bl)) pss_nil) (pss_one (ps_ret (pe_callB (cr_all rfl) (by rfl) T.free_all (by decide +kernel) (pa_cons (pe_lc (own := [("item", 3)]) (g := gName 3) (te := tCall spIsI [] E0 (tCons (tVar 3) tNil)) rfl sc_form_deeds.nd (pi_tup (pe_slice sl_tupA (pv 1) (po_some (pe_op op_add pe_int (pv 2))) po_none)) (blkOk_by (N := ["many", "thing", "houses", "item"]) (sc := defScope s_has_form_deeds) (by decide +kernel)) (fun _ _ _ _ _ => pg_name (i := 3) sc_form_deeds.nd rfl (.inl rfl)) (fun _ _ _ _ _ => pts_nil) (fun _ _ _ _ _ => (pe_call GI hr1 (by rfl) mI kI bI .nil pass0 (pa_cons (pv 3) pa_nil)))) pa_nil)))))))), ?_⟩
    obtain ⟨sm1, sm2, sm3⟩ := D.small
    have lv : D.vs.length = 1 + D.hs.length + D.ns.length := by simp [Dd.vs]; omega
    obtain ⟨u1, n1, r1⟩ := T.sizes D
    obtain ⟨u2, n2, r2⟩ := T.houses D
    have h0 : atI D.vs ((0 : Nat) : Int) = some (.str D.word) := atI_nat rfl
    refine ⟨_, rfl, _, _, _, _, true, rfl, .ty "tuple", .base (.tup hd), kit_ty (by decide +kernel), true, rfl, iteF ?_⟩
    refine ⟨_, rfl, d, _, rfl, .inr (.of hd), rfl, _, rfl, ?_⟩
    rw [show decide (V.int (D.vs.length : Int) = V.int 0) = false from by rw [dec_int]; exact beq_eq_false_iff_ne.mpr (by omega)]
    refine iteF ⟨_, rfl, _, _, _, _, rfl, rfl, SqT.of (hd),  h0, _, _, _, _, true, rfl, .ty "str", .base (.str _), kit_ty (by decide +kernel), true, rfl, iteF ?_⟩
    refine ⟨He.ga K "SIZES", es1, m1, rfl, D1, _, rfl, _, _, _, _, rfl, rfl, SqT.of (hd),  h0, _, u1, _, rfl, n1, r1, _, rfl, d, _, rfl, .inr (.of hd), rfl, _, rfl, ?_⟩
    rw [show (!decide (V.int (D.vs.length : Int) = V.int (D.vs.length : Int))) = false from by simp]
    refine iteF ⟨_, rfl, _, _, _, _, rfl, rfl, SqT.of (hd),  h0, _, _, _, rfl, rfl, ⟨es2, m2, u2, D2.at_, D2.lit, n2, r2⟩, ?_⟩
    have e1 : (1 : Int) + (D.hs.length : Int) = ((1 + D.hs.length : Nat) : Int) := by omega
    refine ⟨_, rfl, _, rfl, _, rfl, _, _, rfl, rfl, _, rfl, d, _, rfl, .of hd, fun z => ?_, fun _ p np => ?_⟩
    · exfalso
      have := z.1
      rw [show (1 : Int) = ((1 : Nat) : Int) from rfl, HT.sIx_nat] at this
      omega
    have hp : upd H p (.tup (cutV D.vs (some 1) (some (1 + (D.hs.length : Int))))) p = some (.tup (D.hs.map nI)) := by
      rw [upd_same, e1, show (1 : Int) = ((1 : Nat) : Int) from rfl, cut_mid _ _ _ (by omega) (by omega)]
      simp [Dd.vs]
    have s1 := same_upd (o := .tup (cutV D.vs (some 1) (some (1 + (D.hs.length : Int))))) np
    generalize upd H p (.tup (cutV D.vs (some 1) (some (1 + (D.hs.length : Int))))) = H1 at hp s1
    refine ⟨p, rfl, ⟨_, SqT.of hp⟩, fun L nL => ?_⟩
    refine lc_rel (walk_tup (K := K) (a := p) (xs := D.hs.map nI)) nL (by simp <;> omega) (fun _ v _ => v = .bl true) (fun _ _ _ _ _ h => h) (fun H s2 => SqT.of (s2 _ _ hp)) ?_ ?_
    · rintro i x H2 _ Fin N hi s2 _ ⟨rfl, hx⟩ fin
      rw [List.getElem?_map] at hx
      obtain ⟨k, hk, rfl⟩ := Option.map_eq_some_iff.mp hx
      have := hin k (List.mem_of_getElem? hk)
      refine ⟨rfl, tyes ⟨_, rfl, _, rfl, (k : Int), (n : Int), rfl, fin _ _ (.refl _) ?_⟩⟩
      rw [decide_eq_true ⟨by omega, by omega⟩]
    · intro H2 acc s2 _ hD hR
      obtain ⟨bs, rfl, hb⟩ := bls_of hR
      refine ⟨L, bs, rfl, SqL.of hD, _, rfl, ?_⟩
      rw [hb]
      have s12 := s1.trans s2
      have hd2 := s12 _ _ hd
      refine iteF ⟨_, rfl, _, rfl, _, _, rfl, rfl, _, rfl, d, _, rfl, .of hd2, fun z => ?_, fun _ p2 np2 => ?_⟩
      · exfalso
        have := z.1
        rw [e1, HT.sIx_nat] at this
        omega
      have hp2 : upd H2 p2 (.tup (cutV D.vs (some (1 + (D.hs.length : Int))) none)) p2 = some (.tup (D.ns.map V.int)) := by
        rw [upd_same, e1, cut_from _ _ (by omega)]
        simp [Dd.vs, Nat.add_comm 1]
      have s3 := same_upd (o := .tup (cutV D.vs (some (1 + (D.hs.length : Int))) none)) np2
      generalize upd H2 p2 (.tup (cutV D.vs (some (1 + (D.hs.length : Int))) none)) = H3 at hp2 s3
      refine ⟨p2, rfl, ⟨_, SqT.of hp2⟩, fun L2 nL2 => ?_⟩
      refine lc_rel (walk_tup (K := K) (a := p2) (xs := D.ns.map V.int)) nL2 (by simp <;> omega) (fun _ v _ => v = .bl true) (fun _ _ _ _ _ h => h) (fun H s2 => SqT.of (s2 _ _ hp2)) ?_ ?_
      · rintro i x H2 _ Fin N hi s2 _ ⟨rfl, hx⟩ fin
        rw [List.getElem?_map] at hx
        obtain ⟨k, hk, rfl⟩ := Option.map_eq_some_iff.mp hx
        exact ⟨rfl, tyes ⟨_, rfl, k, rfl, fin _ _ (.refl _) rfl⟩⟩
      · intro H4 acc s4 _ hD hR
        obtain ⟨bs, rfl, hb⟩ := bls_of hR
        refine ⟨L2, bs, rfl, SqL.of hD, ?_⟩
        rw [hb]
        exact q H4 ((s12.trans s3).trans s4)
/-! ### does -/
def spDoes : Sp := fun vs H Q _ => ∃ (x dl d : Addr) (s : Shp) (D : Dd) (m : Nat) (s' : Shp), vs = [.ref x, .ref d] ∧ H d = some (.tup D.vs) ∧ WkS K H x dl s m ∧ m ≤ 700 ∧ Wf s ∧ s.length ≤ 64 ∧ (∀ h ∈ D.hs, h < s.length) ∧ D.R s s' ∧ ∀ H', Offs [x, dl] H H' → WkS K H' x dl s' (m + 6) → Q (.bl true) H'
theorem WkS.mono {H : Hp} {x dl : Addr} {s : Shp} {m n : Nat} (h : WkS K H x dl s m) (l : m ≤ n) : WkS K H x dl s n := by
  obtain ⟨dx, a, r, v, ps, pss, h1, h2, h3, h4, h5⟩ := h
  exact ⟨dx, a, r, v, ps, pss, h1, h2, h3, h4, Nat.le_trans h5 l⟩
theorem sc_Work_does : FnScope ["self", "deed", "word", "house"] ["self", "deed"] (defScope s_Work_does) := ⟨rfl, rfl, rfl, by decide +kernel, rfl, by decide +kernel, by decide +kernel⟩
theorem ok_Work_does (T : Txt w K mg) : OkM P w K mg base 12 "Work" "does" ["self", "deed"] (spDoes (K := K)) := by
  obtain ⟨fL, dL, GL, mL, cL, bL⟩ := (ok_Work_link (P := P) (base := base) T).ex
  obtain ⟨fC, dC, GC, mC, cC, bC⟩ := (ok_Work_cut (P := P) (base := base) T).ex
  obtain ⟨fU, dU, GU, mU, cU, bU⟩ := (ok_Work_about (P := P) (base := base) T).ex
  obtain ⟨fG, dG, GG, mG, cG, bG⟩ := (ok_Work_come (P := P) (base := base) T).ex
  obtain ⟨fS, dS, GS, mS, kS, bS⟩ := (ok_changed (P := P) (base := base) T).ex
  refine okm T.meth_Work_does T.cls_Work T.fn_Work_does sc_Work_does (fun _ _ _ _ _ _ us hl => match us, hl with | [_, _], _ => rfl) (fun vs H Q E h => ?_) (fun cdv A outer s H vs Q E hr h => ?_)
  · obtain ⟨x, dl, d, s, D, m, s', rfl, _⟩ := h; rfl
  · obtain ⟨x, dl, d, s, D, m, s', rfl, hd, wk, hm, wf, l64, hin, re, q⟩ := h
    have hr2 : Room 2 _ := hr.mono (by decide)
    have hr9 : Room 9 _ := hr.mono (by decide)
    have hr10 : Room 10 _ := hr.mono (by decide)
    refine ⟨_, pss_cons (ps_asg (pe_slice sl_tupA (pv 1) po_none (po_some pe_int)) (pg_tup rfl (pgs_cons (pg_name (i := 2) sc_Work_does.nd rfl (.inl rfl)) (pgs_cons (pg_name (i := 3) sc_Work_does.nd rfl (.inl rfl)) pgs_nil)))) (pss_cons (ps_if (pt_cmpR op_eq (pv 2) (gs T.str_LINK) (nomark _)) (pss_one (ps_ret (pe_meth (pv 0) cL mL GL hr bL .nil pass0 (pa_cons (pv 3) (pa_cons (pe_ix ix_tup (pv 1) pe_int (fun _ _ => rfl)) pa_nil))))) pss_nil) (pss_cons (ps_if (pt_cmpR op_eq (pv 2) (gs T.str_CUT) (nomark _)) (pss_one (ps_ret (pe_meth (pv 0) cC mC GC hr bC .nil pass0 (pa_cons (pv 3) pa_nil)))) pss_nil) (pss_cons (ps_if (pt_cmpR op_eq (pv 2) (gs T.str_TURN) (nomark _)) (pss_cons (ps_expr (pe_meth (pv 0) cU mU GU hr10 bU .nil pass0 (pa_cons (pv 3) pa_nil))) (pss_one (ps_ret pe_bl))) pss_nil)
      (pss_cons (ps_if (pt_cmpR op_eq (pv 2) (gs T.str_PUT) (nomark _)) (pss_cons (ps_expr (pe_meth (pv 0) cG mG GG hr9 bG .nil pass0 (pa_cons (pv 3) pa_nil))) (pss_cons (ps_fld (pv 0) (pe_call GS hr2 (by rfl) mS kS bS .nil pass0 (pa_cons (pe_fld (pv 0) (by rfl)) (pa_cons (pv 3) (pa_cons (gi T.int_VALUE) (pa_cons (pe_ix ix_tup (pv 1) pe_int (fun _ _ => rfl)) pa_nil))))) (by rfl)) (pss_one (ps_ret pe_bl)))) pss_nil) pss_never)))), ?_⟩
    obtain ⟨dx, a0, rr, v0, hx, _, _, nt, _⟩ := wk.ins
    cases D with
    | link h o =>
      refine ⟨_, rfl, _, rfl, d, _, rfl, .of hd, fun z => absurd (show (2 : Nat) = 3 from z.2) (by decide), fun _ p np => ?_⟩
      have s1 := same_upd (o := .tup (cutV (Dd.link h o).vs none (some 2))) np
      refine ⟨p, [.str "link", nI h], rfl, SqT.of upd_same, rfl, _, _, rfl, _, _, rfl, rfl, ?_⟩
      refine ⟨_, rfl, rfl, _, rfl, ?_⟩
      rw [seq']
      refine iteT ⟨_, rfl, x, dx, _, rfl, s1 _ _ hx, rfl, _, rfl, _, rfl, _, _, _, _, rfl, rfl, SqT.of (s1 _ _ hd),  rfl, ?_⟩
      refine ⟨x, dl, s, h, o, m, s', rfl, wk.same s1, by omega, wf, l64, hin h (by simp [Dd.hs]), hin o (by simp [Dd.hs]), re, fun H2 o2 wk2 => ?_⟩
      exact q H2 ((Offs.of s1).trans o2) wk2
    | cut h =>
      refine ⟨_, rfl, _, rfl, d, _, rfl, .of hd, fun _ => ?_, fun z => absurd ⟨rfl, rfl⟩ z⟩
      refine ⟨d, [.str "cut", nI h], rfl, SqT.of hd, rfl, _, _, rfl, _, _, rfl, rfl, ?_⟩
      refine ⟨_, rfl, rfl, _, rfl, ?_⟩
      rw [sne (show (("cut" : Str) == "link") = false by decide +kernel)]
      refine iteF ⟨_, rfl, rfl, _, rfl, ?_⟩
      rw [seq']
      refine iteT ⟨_, rfl, x, dx, _, rfl, hx, rfl, _, rfl, ?_⟩
      refine ⟨x, dl, s, h, m, s', rfl, wk, by omega, wf, l64, hin h (by simp [Dd.hs]), re, fun H2 o2 wk2 => ?_⟩
      exact q H2 o2 (wk2.mono (by omega))
    | turn h =>
      refine ⟨_, rfl, _, rfl, d, _, rfl, .of hd, fun _ => ?_, fun z => absurd ⟨rfl, rfl⟩ z⟩
      refine ⟨d, [.str "turn", nI h], rfl, SqT.of hd, rfl, _, _, rfl, _, _, rfl, rfl, ?_⟩
      refine ⟨_, rfl, rfl, _, rfl, ?_⟩
      rw [sne (show (("turn" : Str) == "link") = false by decide +kernel)]
      refine iteF ⟨_, rfl, rfl, _, rfl, ?_⟩
      rw [sne (show (("turn" : Str) == "cut") = false by decide +kernel)]
      refine iteF ⟨_, rfl, rfl, _, rfl, ?_⟩
      rw [seq']
      refine iteT ⟨_, rfl, x, dx, _, rfl, hx, rfl, _, rfl, ?_⟩
      refine ⟨x, dl, s, h, m, s', rfl, wk, by omega, wf, l64, hin h (by simp [Dd.hs]), re, fun H2 o2 wk2 => ?_⟩
      exact q H2 o2 (wk2.mono (by omega))
    | put h v =>
      refine ⟨_, rfl, _, rfl, d, _, rfl, .of hd, fun z => absurd (show (2 : Nat) = 3 from z.2) (by decide), fun _ p np => ?_⟩
      have s1 := same_upd (o := .tup (cutV (Dd.put h v).vs none (some 2))) np
      refine ⟨p, [.str "put", nI h], rfl, SqT.of upd_same, rfl, _, _, rfl, _, _, rfl, rfl, ?_⟩
      refine ⟨_, rfl, rfl, _, rfl, ?_⟩
      rw [sne (show (("put" : Str) == "link") = false by decide +kernel)]
      refine iteF ⟨_, rfl, rfl, _, rfl, ?_⟩
      rw [sne (show (("put" : Str) == "cut") = false by decide +kernel)]
      refine iteF ⟨_, rfl, rfl, _, rfl, ?_⟩
      rw [sne (show (("put" : Str) == "turn") = false by decide +kernel)]
      refine iteF ⟨_, rfl, rfl, _, rfl, ?_⟩
      rw [seq']
      obtain ⟨s2, r2, rfl⟩ := re
      have l2 := r2.len
      have hh : h < s.length := hin h (by simp [Dd.hs])
      refine iteT ⟨_, rfl, x, dx, _, rfl, s1 _ _ hx, rfl, _, rfl, ?_⟩
      refine ⟨x, dl, s, h, m, s2, rfl, wk.same s1, by omega, wf, l64, hh, r2, fun H2 o2 wk2 => ?_⟩
      obtain ⟨dx1, a1, rr1, v1, hx1, sh1, xd, nt1, set1⟩ := wk2.ins
      have hdn : d ∉ [x, dl] := fun z => nt d z _ hd
      have hd2 := ((Offs.of s1).trans o2) _ _ hdn hd
      refine ⟨_, rfl, x, _, dx1, _, _, rfl, hx1, T.cls_Work, T.noat_Work_here, rfl, _, rfl, _, rfl, _, _, _, _, rfl, rfl, SqT.of (hd2),  rfl, ?_⟩
      refine ⟨a1, s2, h, 5, .int v, { g s2 h with val := v }, rfl, sh1, by omega, by omega, by decide, rfl, fun H3 b s3 sb => ?_⟩
      obtain ⟨wk3, o3⟩ := set1 H3 b _ s3 sb
      exact ⟨_, rfl, x, _, dx1, _, rfl, s3 _ _ hx1, T.cls_Work, T.noat_Work_here, (show (4 : Nat) < 1000 by decide), q _ (((Offs.of s1).trans o2).trans o3) (wk3.mono (by omega))⟩
end
end G3
set_option Elab.async false
set_option linter.all false
set_option maxRecDepth 100000
set_option maxHeartbeats 4000000
/-! Asks. -/
namespace G3
open PySem PySem.Spec PyProof.Rows L2
open Lk (Part g isSon handOn flip setUp setSon setVal Wf PIn In ToTop MetR splice Reach LeftR LeftMost FoundRoot TurnAbout DPut DLink DCut AJoin AWhere FirstMax OrdR ChainR)
inductive Ak where
  | joined (a b : Nat)
  | where_ (a b : Nat)
def Ak.word : Ak → Str
  | .joined _ _ => "joined"
  | .where_ _ _ => "where"
def Ak.a : Ak → Nat
  | .joined a _ => a
  | .where_ a _ => a
def Ak.b : Ak → Nat
  | .joined _ b => b
  | .where_ _ b => b
def Ak.vs : Ak → List V
  | .joined a b => [.str "joined", nI a, nI b]
  | .where_ a b => [.str "where", nI a, nI b, .str "greatest"]
def Ak.R : Ak → Shp → Shp → V → Prop
  | .joined a b, s, s', v => ∃ c, AJoin a b s s' c ∧ v = .bl c
  | .where_ a b, s, s', v => ∃ h, AWhere a b s s' h ∧ v = nI h
section
variable {P : Program} {w : World} {K : PySem.W.Frag} {mg : Str → Option Value} {base : Heap}
def spMore : Sp := fun vs H Q _ => vs = [.str "where", .str "greatest"] ∧ ∀ H', Same H H' → Q (.bl true) H'
theorem sc_is_more : FnScope ["word", "thing"] ["word", "thing"] (defScope s_is_more) := ⟨rfl, rfl, rfl, by decide +kernel, rfl, by decide +kernel, by decide +kernel⟩
theorem ok_is_more (T : Txt w K mg) : OkF P w K mg base 1 "is_more" ["word", "thing"] spMore := by
  refine okf T.glo_is_more T.fn_is_more sc_is_more (fun _ _ _ _ _ _ us hl => match us, hl with | [_, _], _ => rfl) (fun vs H Q E h => ?_) (fun cdv A outer s H vs Q E hr h => ?_)
  · obtain ⟨rfl, _⟩ := h; rfl
  · obtain ⟨rfl, q⟩ := h
    refine ⟨_, pss_cons (ps_if (pt_cmpR op_eq (pv 0) (gs T.str_WHERE) (nomark _)) (pss_one (ps_ret (pe_and (pe_callB call_isi (by rfl) T.free_isinstance (by decide +kernel) (pa_cons (pv 1) (pa_cons (gt (T := "str") T.free_str (by decide +kernel)) pa_nil))) (pe_one (pe_cmpR op_in_seq (pv 1) (pe_tup (pa_cons (gs T.str_LEAST) (pa_cons (gs T.str_GREATEST) pa_nil))) (by rfl)))))) pss_nil) pss_never, ?_⟩
    refine ⟨_, rfl, rfl, _, rfl, ?_⟩
    rw [seq']
    refine iteT ⟨_, rfl, _, _, _, _, true, rfl, .ty "str", .base (.str _), kit_ty (by decide +kernel), true, rfl, iteT ?_⟩
    refine ⟨_, rfl, by show 2 ≤ sizeLine; decide, fun p np => ?_⟩
    refine ⟨p, _, rfl, .inr (SqT.of upd_same), rfl, rfl, ?_⟩
    have e : inV (.str "greatest") [.str "least", .str "greatest"] = true := by decide +kernel
    rw [if_neg Bool.false_ne_true, e]
    exact q _ (same_upd np)
def spFormA : Sp := fun vs H Q _ => ∃ (n : Nat) (d : Addr) (D : Ak), vs = [.int n, .ref d] ∧ H d = some (.tup D.vs) ∧ D.a < n ∧ D.b < n ∧ ∀ H', Same H H' → Q (.bl true) H'
theorem sc_form_asks : FnScope ["many", "thing", "word"] ["many", "thing"] (defScope s_has_form_asks) := ⟨rfl, rfl, rfl, by decide +kernel, rfl, by decide +kernel, by decide +kernel⟩
theorem ok_form_asks (T : Txt w K mg) : OkF P w K mg base 4 "has_form_asks" ["many", "thing"] spFormA := by
  obtain ⟨fB, dB, GB, mB, kB, bB⟩ := (ok_is_below (P := P) (base := base) T).ex
  obtain ⟨fM, dM, GM, mM, kM, bM⟩ := (ok_is_more (P := P) (base := base) T).ex
  refine okf T.glo_has_form_asks T.fn_has_form_asks sc_form_asks (fun _ _ _ _ _ _ us hl => match us, hl with | [_, _], _ => rfl) (fun vs H Q E h => ?_) (fun cdv A outer s H vs Q E hr h => ?_)
  · obtain ⟨n, d, D, rfl, _⟩ := h; rfl
  · obtain ⟨n, d, D, rfl, hd, ha, hb, q⟩ := h
    have hr1 : Room 1 _ := hr.mono (by decide)
    refine ⟨_, (pss_cons (ps_if (pw_or (pt_not (pt_val (pe_callB call_isi (by rfl) T.free_isinstance (by decide +kernel) (pa_cons (pv 1) (pa_cons (gt (T := "tuple") T.free_tuple (by decide +kernel)) pa_nil))))) (pw_or (pt_cmpR op_lt (pe_callB call_len_seq (by rfl) T.free_len PySem.boot_len (pa_cons (pv 1) pa_nil)) pe_int (nomark _)) (pw_or1 (pt_not (pt_val (pe_callB call_isi (by rfl) T.free_isinstance (by decide +kernel) (pa_cons (pe_ix ix_tup (pv 1) pe_int (fun _ _ => rfl)) (pa_cons (gt (T := "str") T.free_str (by decide +kernel)) pa_nil)))))))).pt (pss_one (ps_ret pe_bl)) pss_nil) (pss_cons (ps_set (i := 2) sc_form_asks.nd rfl (.inl rfl) (pe_ix ix_tup (pv 1) pe_int (fun _ _ => rfl))) (pss_cons (ps_if (pt_cmpR op_in_seq (pv 2) (gr T.glo_ONES) (by rfl)) pss_never pss_nil) (pss_cons (ps_if (pw_or (pt_cmpR op_notIn_seq (pv 2) (pe_op op_catA (gr T.glo_TWOS) (gr T.glo_MORES)) (by rfl)) (pw_or1 (pt_cmpR op_ne (pe_callB call_len_seq (by rfl) T.free_len PySem.boot_len (pa_cons (pv 1) pa_nil)) (pe_ifExp (pt_cmpR op_in_seq (pv 2) (gr T.glo_TWOS) (by rfl)) pe_int pe_int) (nomark _)))).pt (pss_one (ps_ret pe_bl)) pss_nil) (pss_one (ps_ret (pe_and (pe_call GB hr (by rfl) mB kB bB .nil pass0 (pa_cons (pe_ix ix_tup (pv 1) pe_int (fun _ _ => rfl)) (pa_cons (pv 0) pa_nil))) (pe_and (pe_call GB hr (by rfl) mB kB bB .nil pass0 (pa_cons (pe_ix ix_tup (pv 1) pe_int (fun _ _ => rfl)) (pa_cons (pv 0) pa_nil))) (pe_one (pe_or (pe_cmpR op_in_seq (pv 2) (gr T.glo_TWOS) (by rfl)) (pe_one (pe_call GM hr1 (by rfl) mM kM bM .nil pass0 (pa_cons (pv 2) (pa_cons (pe_ix ix_tup (pv 1) pe_int (fun _ _ => rfl)) pa_nil)))))))))))))), ?_⟩
    have t1 : ∀ H, SqT K H (He.ga K "ONES") [.str "root", .str "depth", .str "below", .str "whole"] := fun H => He.tupB_ok T.more.1 H
    have t2 : ∀ H, SqT K H (He.ga K "TWOS") [.str "joined", .str "common", .str "way"] := fun H => He.tupB_ok T.more.2.1 H
    have t3 : ∀ H, SqT K H (He.ga K "MORES") [.str "where", .str "at", .str "reach"] := fun H => He.tupB_ok T.more.2.2.1 H
    have w0 : atI D.vs ((0 : Nat) : Int) = some (.str D.word) := by cases D <;> exact atI_nat rfl
    have w1 : atI D.vs ((1 : Nat) : Int) = some (nI D.a) := by cases D <;> exact atI_nat rfl
    have w2 : atI D.vs ((2 : Nat) : Int) = some (nI D.b) := by cases D <;> exact atI_nat rfl
    have l2 : 2 ≤ D.vs.length := by cases D <;> simp [Ak.vs]
    have nin : inV (.str D.word) [.str "root", .str "depth", .str "below", .str "whole"] = false := by
      cases D with
      | joined _ _ => show inV (.str "joined") _ = false; decide +kernel
      | where_ _ _ => show inV (.str "where") _ = false; decide +kernel
    have inn : inV (.str D.word) ([.str "joined", .str "common", .str "way"] ++ [.str "where", .str "at", .str "reach"]) = true := by
      cases D with
      | joined _ _ => show inV (.str "joined") _ = true; decide +kernel
      | where_ _ _ => show inV (.str "where") _ = true; decide +kernel
    refine ⟨_, rfl, _, _, _, _, true, rfl, .ty "tuple", .base (.tup hd), kit_ty (by decide +kernel), true, rfl, iteF ?_⟩
    refine ⟨_, rfl, d, _, rfl, .inr (.of hd), _, _, rfl, rfl, _, rfl, ?_⟩
    rw [decide_eq_false (show ¬ ((D.vs.length : Int) < 2) by omega)]
    refine iteF ⟨_, rfl, _, _, _, _, rfl, rfl, SqT.of (hd),  w0, _, _, _, _, true, rfl, .ty "str", .base (.str _), kit_ty (by decide +kernel), true, rfl, iteF ?_⟩
    refine ⟨_, rfl, _, _, _, _, rfl, rfl, SqT.of (hd),  w0, ?_⟩
    refine ⟨_, rfl, He.ga K "ONES", _, rfl, .inr (t1 _), rfl, rfl, _, rfl, ?_⟩
    rw [if_neg Bool.false_ne_true, nin]
    refine iteF ⟨_, rfl, He.ga K "TWOS", He.ga K "MORES", _, _, rfl, rfl, t2 _, t3 _, by show 6 ≤ sizeLine; decide, fun z => (nomatch z), fun _ z => (nomatch z), fun _ _ p np => ?_⟩
    refine ⟨p, _, rfl, .inr (SqT.of upd_same), rfl, rfl, _, rfl, ?_⟩
    rw [if_pos rfl, inn]
    have s1 := same_upd (o := .tup ([.str "joined", .str "common", .str "way"] ++ [.str "where", .str "at", .str "reach"])) np
    refine iteF ⟨_, rfl, d, _, rfl, .inr (.of (s1 _ _ hd)), _, rfl, He.ga K "TWOS", _, rfl, .inr (t2 _), rfl, rfl, _, rfl, ?_⟩
    rw [if_neg Bool.false_ne_true]
    have fin : ∀ (c : Bool), inV (.str D.word) [.str "joined", .str "common", .str "way"] = c → (c = false → D.word = "where" ∧ D.vs[3]? = some (.str "greatest")) →
        (tRet (tAndV (tCall spBelow [] E0 (tCons (tOp (rIxT K) (tVar 1) (tC (.int 1))) (tCons (tVar 0) tNil))) (tAndV (tCall spBelow [] E0 (tCons (tOp (rIxT K) (tVar 1) (tC (.int 2))) (tCons (tVar 0) tNil))) (tOrV (tOp (rIn K false) (tVar 2) (tC (.ref (He.ga K "TWOS")))) (tCall spMore [] E0 (tCons (tVar 2) (tCons (tOp (rIxT K) (tVar 1) (tC (.int 3))) tNil)))))))
          { nx := fun _ H' => Q .non H', rt := Q } [some (.int n), some (.ref d), some (.str D.word)] (upd H p (.tup ([.str "joined", .str "common", .str "way"] ++ [.str "where", .str "at", .str "reach"]))) := by
      intro c hc hw
      refine ⟨_, rfl, _, _, _, _, rfl, rfl, SqT.of (s1 _ _ hd),  w1, _, rfl, (D.a : Int), (n : Int), rfl, ?_⟩
      rw [decide_eq_true ⟨by omega, by omega⟩]
      refine ⟨_, rfl, iteT ⟨_, rfl, _, _, _, _, rfl, rfl, SqT.of (s1 _ _ hd),  w2, _, rfl, (D.b : Int), (n : Int), rfl, ?_⟩⟩
      rw [decide_eq_true ⟨by omega, by omega⟩]
      refine ⟨_, rfl, iteT ⟨_, rfl, He.ga K "TWOS", _, rfl, .inr (t2 _), rfl, rfl, _, rfl, ?_⟩⟩
      rw [if_neg Bool.false_ne_true, hc]
      cases c with
      | true => exact iteT (q _ s1)
      | false =>
        obtain ⟨h1, h2⟩ := hw rfl
        have w3 : atI D.vs ((3 : Nat) : Int) = some (.str "greatest") := atI_nat h2
        refine iteF ⟨_, rfl, _, rfl, _, _, _, _, rfl, rfl, SqT.of (s1 _ _ hd),  w3, ?_, fun H' s2 => q _ (s1.trans s2)⟩
        rw [h1]; rfl
    cases D with
    | joined a b =>
      have e : inV (.str (Ak.joined a b).word) [.str "joined", .str "common", .str "way"] = true := by show inV (.str "joined") _ = true; decide +kernel
      rw [e]
      refine iteT ⟨rfl, _, rfl, iteF (fin true e fun z => (nomatch z))⟩
    | where_ a b =>
      have e : inV (.str (Ak.where_ a b).word) [.str "joined", .str "common", .str "way"] = false := by show inV (.str "where") _ = false; decide +kernel
      rw [e]
      refine iteF ⟨rfl, _, rfl, iteF (fin false e fun _ => ⟨rfl, rfl⟩)⟩
end
end G3
set_option Elab.async false
set_option linter.all false
set_option maxRecDepth 100000
set_option maxHeartbeats 4000000
/-! Answers. -/
namespace G3
open PySem PySem.Spec PyProof.Rows L2
open Lk (Part g isSon handOn flip setUp setSon setVal Wf PIn In ToTop MetR splice Reach LeftR LeftMost FoundRoot TurnAbout DPut DLink DCut AJoin AWhere FirstMax OrdR ChainR)
section
variable {P : Program} {w : World} {K : PySem.W.Frag} {mg : Str → Option Value} {base : Heap}
/-- the place of the first of the greatest -/
def FirstAt (ws : List Int) (j : Nat) : Prop := ∃ z, ws[j]? = some z ∧ (∀ y ∈ ws, y ≤ z) ∧ ∀ (i : Nat) (y : Int), i < j → ws[i]? = some y → y ≠ z
def spPlace : Sp := fun vs H Q _ => ∃ (d l : Addr) (a b : Nat) (ws : List Int) (j : Nat), vs = [.ref d, .ref l] ∧ H d = some (.tup (Ak.where_ a b).vs) ∧ H l = some (.lst (ws.map V.int)) ∧ FirstAt ws j ∧ ∀ H', Same H H' → Q (nI j) H'
theorem sc_place_of : FnScope ["ask", "values", "word", "what", "places", "place", "value"] ["ask", "values"] (defScope s_place_of) := ⟨rfl, rfl, rfl, by decide +kernel, rfl, by decide +kernel, by decide +kernel⟩
theorem ok_place_of (T : Txt w K mg) : OkF P w K mg base 1 "place_of" ["ask", "values"] spPlace := by
  refine okf T.glo_place_of T.fn_place_of sc_place_of (fun _ _ _ _ _ _ us hl => match us, hl with | [_, _], _ => rfl) (fun vs H Q E h => ?_) (fun cdv A outer s H vs Q E hr h => ?_)
  · obtain ⟨d, l, a, b, ws, j, rfl, _⟩ := h; rfl
  · obtain ⟨d, l, a, b, ws, j, rfl, hd, hl, ⟨z, hz, hmax, hfst⟩, q⟩ := h
    refine ⟨_, pss_cons (ps_asg (pe_tup (pa_cons (pe_ix ix_tup (pv 0) pe_int (fun _ _ => rfl)) (pa_cons (pe_ix ix_tup (pv 0) pe_int (fun _ _ => rfl)) pa_nil))) (pg_tup rfl (pgs_cons (pg_name (i := 2) sc_place_of.nd rfl (.inl rfl)) (pgs_cons (pg_name (i := 3) sc_place_of.nd rfl (.inr rfl)) pgs_nil))))
      (pss_cons (ps_if (pt_cmpR op_eq (pv 2) (gs T.str_AT) (nomark _)) pss_never pss_nil) (pss_cons (ps_if (pt_cmpR op_eq (pv 2) (gs T.str_WHERE) (nomark _)) (pss_one (ps_ret (pe_bm PySem.F.plainAttrs_list PySem.F.slot_list_index PySem.F.type_list_index mt_index (pv 1) (pa_cons (pe_ifExp (pt_cmpR op_eq (pv 3) (gs T.str_LEAST) (nomark _)) (pe_callB (cr_min rfl) (by rfl) T.free_min (by decide +kernel) (pa_cons (pv 1) pa_nil)) (pe_callB (cr_max rfl) (by rfl) T.free_max (by decide +kernel) (pa_cons (pv 1) pa_nil))) pa_nil)))) pss_nil) pss_never)), ?_⟩
    refine ⟨_, rfl, _, _, _, _, rfl, rfl, SqT.of (hd),  rfl, _, rfl, _, _, _, _, rfl, rfl, SqT.of (hd),  rfl, by show 2 ≤ sizeLine; decide, fun p np => ?_⟩
    have s1 := same_upd (o := .tup [.str "where", .str "greatest"]) np
    have hl0 := hl
    replace hl := s1 _ _ hl
    refine ⟨p, [.str "where", .str "greatest"], rfl, SqT.of upd_same, rfl, _, _, rfl, _, _, rfl, rfl, ?_⟩
    refine ⟨_, rfl, rfl, _, rfl, ?_⟩
    rw [sne (show (("where" : Str) == "at") = false by decide +kernel)]
    refine iteF ⟨_, rfl, rfl, _, rfl, ?_⟩
    rw [seq']
    refine iteT ⟨_, rfl, .inl ⟨rfl, _, SqL.of hl⟩, _, rfl, rfl, _, rfl, ?_⟩
    rw [sne (show (("greatest" : Str) == "least") = false by decide +kernel)]
    have jl : j < ws.length := (List.getElem?_eq_some_iff.mp hz).1
    refine iteF ⟨_, rfl, l, ws, rfl, SqL.of hl, by omega, fun m hm hle => ?_⟩
    have em : m = z := by
      have h1 := hle z (List.mem_of_getElem? hz)
      have h2 := hmax m hm
      omega
    subst em
    refine ⟨l, _, _, j, .int m, rfl, rfl, SqL.of hl, rfl, ?_, by rw [List.getElem?_map, hz]; rfl, ?_, ?_, q _ s1⟩
    · rw [List.all_eq_true]
      intro v hv
      obtain ⟨y, _, rfl⟩ := List.mem_map.mp hv
      rfl
    · show ((m == m) : Bool) = true
      simp
    · intro i v hi hv
      rw [List.getElem?_map] at hv
      obtain ⟨y, hy, rfl⟩ := Option.map_eq_some_iff.mp hv
      have := hfst i y hi hy
      show ((y == m) : Bool) = false
      simp [this]
def spOnWay : Sp := fun vs H Q _ => ∃ (d hl l : Addr) (a b : Nat) (L : List Nat) (ws : List Int) (j h : Nat), vs = [.ref d, .ref hl, .ref l] ∧ H d = some (.tup (Ak.where_ a b).vs) ∧ H hl = some (.tup (L.map nI)) ∧ H l = some (.lst (ws.map V.int)) ∧ FirstAt ws j ∧ L[j]? = some h ∧ ∀ H', Same H H' → Q (nI h) H'
theorem sc_on_way : FnScope ["ask", "houses", "values", "place"] ["ask", "houses", "values"] (defScope s_on_way) := ⟨rfl, rfl, rfl, by decide +kernel, rfl, by decide +kernel, by decide +kernel⟩
theorem ok_on_way (T : Txt w K mg) : OkF P w K mg base 2 "on_way" ["ask", "houses", "values"] spOnWay := by
  obtain ⟨fR, dR, GR, mR, kR, bR⟩ := (ok_place_of (P := P) (base := base) T).ex
  refine okf T.glo_on_way T.fn_on_way sc_on_way (fun _ _ _ _ _ _ us hl => match us, hl with | [_, _, _], _ => rfl) (fun vs H Q E h => ?_) (fun cdv A outer s H vs Q E hr h => ?_)
  · obtain ⟨d, hl, l, a, b, L, ws, j, h, rfl, _⟩ := h; rfl
  · obtain ⟨d, hl, l, a, b, L, ws, j, h, rfl, hd, hh, hw, fa, hj, q⟩ := h
    refine ⟨_, (pss_cons (ps_if (pt_cmpR op_eq (pe_ix ix_tup (pv 0) pe_int (fun _ _ => rfl)) (gs T.str_WAY) (nomark _)) pss_never pss_nil) (pss_cons (ps_set (i := 3) sc_on_way.nd rfl (.inl rfl) (pe_call GR hr (by rfl) mR kR bR .nil pass0 (pa_cons (pv 0) (pa_cons (pv 2) pa_nil)))) (pss_one (ps_ret (pe_ifExp (pt_cmpR op_isN (pv 3) pe_non (nomark _)) pe_non (pe_ix ix_tup (pv 1) (pv 3) (fun _ _ => rfl))))))), ?_⟩
    refine ⟨_, rfl, _, _, _, _, rfl, rfl, SqT.of (hd),  rfl, rfl, _, rfl, ?_⟩
    rw [sne (show (("where" : Str) == "way") = false by decide +kernel)]
    refine iteF ⟨_, rfl, _, rfl, d, l, a, b, ws, j, rfl, hd, hw, fa, fun H1 s1 => ?_⟩
    refine ⟨_, rfl, rfl, _, rfl, iteF ⟨_, rfl, _, rfl, _, _, _, _, rfl, rfl, SqT.of (s1 _ _ hh),  atI_nat ?_, q _ s1⟩⟩
    rw [List.getElem?_map, hj]; rfl
theorem first_at {f : Nat → Int} {L : List Nat} {h : Nat} (m : FirstMax f L h) : ∃ j, FirstAt (L.map f) j ∧ L[j]? = some h := by
  obtain ⟨p, q, rfl, h1, h2⟩ := m
  have hj : (p ++ h :: q)[p.length]? = some h := by rw [List.getElem?_append_right (Nat.le_refl _), Nat.sub_self]; rfl
  refine ⟨p.length, ⟨f h, by rw [List.getElem?_map, hj]; rfl, fun y hy => ?_, fun i y hi hy => ?_⟩, hj⟩
  · obtain ⟨x, hx, rfl⟩ := List.mem_map.mp hy
    rcases List.mem_append.mp hx with hx | hx
    · have := h1 x hx; omega
    · rcases List.mem_cons.mp hx with rfl | hx
      · exact Int.le_refl _
      · exact h2 x hx
  · rw [List.getElem?_map, List.getElem?_append_left hi] at hy
    obtain ⟨x, hx, rfl⟩ := Option.map_eq_some_iff.mp hy
    have := h1 x (List.mem_of_getElem? hx)
    omega
def spAnsWay : Sp := fun vs H Q _ => ∃ (x dl d : Addr) (s : Shp) (a b r m : Nat) (s3 s4 : Shp) (L : List Nat) (h : Nat) (s5 s' : Shp), vs = [.ref x, .ref d, .int r] ∧ H d = some (.tup (Ak.where_ a b).vs) ∧ WkS K H x dl s m ∧ m ≤ 700 ∧ Wf s ∧ s.length ≤ 64 ∧ a < s.length ∧ b < s.length ∧ r < s.length ∧
  TurnAbout a s s3 ∧ Reach b s3 s4 ∧ OrdR s4 64 (some b) false L ∧ FirstMax (fun k => (g s4 k).val) L h ∧ h < s.length ∧ L.length ≤ 64 ∧ (∀ k ∈ L, k < s.length ∧ ∃ l, ChainR s4 k l) ∧ Reach h s4 s5 ∧ TurnAbout r s5 s' ∧ ∀ H', Offs [x, dl] H H' → WkS K H' x dl s' (m + 4) → Q (nI h) H'
theorem sc_Work_ansWay : FnScope ["self", "ask", "first", "houses", "values", "found"] ["self", "ask", "first"] (defScope s_Work_answers_way) := ⟨rfl, rfl, rfl, by decide +kernel, rfl, by decide +kernel, by decide +kernel⟩
theorem ok_Work_ansWay (T : Txt w K mg) : OkM P w K mg base 68 "Work" "answers_way" ["self", "ask", "first"] (spAnsWay (K := K)) := by
  obtain ⟨fU, dU, GU, mU, cU, bU⟩ := (ok_Work_about (P := P) (base := base) T).ex
  obtain ⟨fC, dC, GC, mC, cC, bC⟩ := (ok_Work_come (P := P) (base := base) T).ex
  obtain ⟨fW, dW, GW, mW, cW, bW⟩ := (ok_Work_way (P := P) (base := base) T).ex
  obtain ⟨fO, dO, GO, mO, kO, bO⟩ := (ok_on_way (P := P) (base := base) T).ex
  refine okm T.meth_Work_answers_way T.cls_Work T.fn_Work_answers_way sc_Work_ansWay (fun _ _ _ _ _ _ us hl => match us, hl with | [_, _, _], _ => rfl) (fun vs H Q E h => ?_) (fun cdv A outer s H vs Q E hr h => ?_)
  · obtain ⟨x, dl, d, s, a, b, r, m, s3, s4, L, h, s5, s', rfl, _⟩ := h; rfl
  · obtain ⟨x, dl, d, s, a, b, r, m, s3, s4, L, h, s5, s', rfl, hd, wk, hm, wf, l64, ha, hb, hrr, t3, c4, od, fm, hh, ll, inL, c5, t6, q⟩ := h
    have hr2 : Room 2 _ := hr.mono (by decide)
    have hr9 : Room 9 _ := hr.mono (by decide)
    have hr10 : Room 10 _ := hr.mono (by decide)
    refine ⟨_, (pss_cons (ps_expr (pe_meth (pv 0) cU mU GU hr10 bU .nil pass0 (pa_cons (pe_ix ix_tup (pv 1) pe_int (fun _ _ => rfl)) pa_nil))) (pss_cons (ps_expr (pe_meth (pv 0) cC mC GC hr9 bC .nil pass0 (pa_cons (pe_ix ix_tup (pv 1) pe_int (fun _ _ => rfl)) pa_nil))) (pss_cons (ps_asg (pe_meth (pv 0) cW mW GW hr bW .nil pass0 (pa_cons (pe_ix ix_tup (pv 1) pe_int (fun _ _ => rfl)) pa_nil)) (pg_tup rfl (pgs_cons (pg_name (i := 3) sc_Work_ansWay.nd rfl (.inl rfl)) (pgs_cons (pg_name (i := 4) sc_Work_ansWay.nd rfl (.inl rfl)) pgs_nil)))) (pss_cons (ps_set (i := 5) sc_Work_ansWay.nd rfl (.inl rfl) (pe_call GO hr2 (by rfl) mO kO bO .nil pass0 (pa_cons (pv 1) (pa_cons (pv 3) (pa_cons (pv 4) pa_nil))))) (pss_cons (ps_if (pw_and (pt_cmpR op_in_seq (pe_ix ix_tup (pv 1) pe_int (fun _ _ => rfl)) (pe_tup (pa_cons (gs T.str_WHERE) (pa_cons (gs T.str_AT) (pa_cons (gs T.str_REACH) pa_nil)))) (by rfl)) (pw_and1 (pt_cmpR op_notN (pv 5) pe_non (nomark _)))).pt (pss_one (ps_expr (pe_meth (pv 0) cC mC GC hr9 bC .nil pass0 (pa_cons (pv 5) pa_nil)))) pss_nil) (pss_cons (ps_expr (pe_meth (pv 0) cU mU GU hr10 bU .nil pass0 (pa_cons (pv 2) pa_nil))) (pss_one (ps_ret (pv 5))))))))), ?_⟩
    have w3 := about_wf t3 wf ha
    have l3 := t3.len
    have w4 := reach_wf c4 w3 (by omega)
    have l4 := c4.len
    have w5 := reach_wf c5 w4 (by omega)
    have l5 := c5.len
    obtain ⟨j, fa, hj⟩ := first_at fm
    obtain ⟨dx, a0, rr, v0, hx, _, _, nt, _⟩ := wk.ins
    have dn : d ∉ [x, dl] := fun z => nt d z _ hd
    refine ⟨_, rfl, x, dx, _, rfl, hx, rfl, _, rfl, _, _, _, _, rfl, rfl, SqT.of (hd),  rfl, x, dl, s, a, m, s3, rfl, wk, by omega, wf, l64, ha, t3, fun H1 o1 wk1 => ?_⟩
    obtain ⟨dx1, a1, rr1, v1, hx1, _⟩ := wk1.ins
    have hd1 := o1 _ _ dn hd
    refine ⟨_, rfl, x, dx1, _, rfl, hx1, rfl, _, rfl, _, _, _, _, rfl, rfl, SqT.of (hd1),  rfl, x, dl, s3, b, m + 1, s4, rfl, wk1, by omega, w3, by omega, by omega, c4, fun H2 o2 wk2 => ?_⟩
    obtain ⟨dx2, a2, rr2, v2, hx2, _⟩ := wk2.ins
    have hd2 := o2 _ _ dn hd1
    refine ⟨_, rfl, x, dx2, _, rfl, hx2, rfl, _, rfl, _, _, _, _, rfl, rfl, SqT.of (hd2),  rfl, x, dl, s4, b, m + 2, L, rfl, wk2, w4, by omega, by omega, od, ll, fun k hk => ?_, fun H3 p hl l s3' hhl hhw hp => ?_⟩
    · obtain ⟨k1, k2⟩ := inL k hk
      exact ⟨by omega, k2⟩
    refine ⟨p, _, rfl, SqT.of hp, rfl, _, _, rfl, _, _, rfl, rfl, ?_⟩
    have hd3 := s3' _ _ hd2
    refine ⟨_, rfl, _, rfl, _, rfl, d, hl, l, a, b, L, _, j, h, rfl, hd3, hhl, hhw, fa, hj, fun H4 s4' => ?_⟩
    have hd4 := s4' _ _ hd3
    refine ⟨_, rfl, _, _, _, _, rfl, rfl, SqT.of (hd4),  rfl, by show 3 ≤ sizeLine; decide, fun t nt5 => ?_⟩
    have s5' := same_upd (o := .tup [.str "where", .str "at", .str "reach"]) nt5
    refine ⟨t, _, rfl, .inr (SqT.of upd_same), rfl, rfl, _, rfl, ?_⟩
    have e : inV (.str "where") [.str "where", .str "at", .str "reach"] = true := by decide +kernel
    rw [if_neg Bool.false_ne_true, e]
    refine iteT ⟨_, rfl, rfl, _, rfl, iteT ?_⟩
    have s25 := (s3'.trans s4').trans s5'
    have wk5 := wk2.same s25
    obtain ⟨dx5, a5, rr5, v5, hx5, _⟩ := wk5.ins
    refine ⟨_, rfl, x, dx5, _, rfl, hx5, rfl, _, rfl, x, dl, s4, h, m + 2, s5, rfl, wk5, by omega, w4, by omega, by omega, c5, fun H6 o6 wk6 => ?_⟩
    obtain ⟨dx6, a6, rr6, v6, hx6, _⟩ := wk6.ins
    refine ⟨_, rfl, x, dx6, _, rfl, hx6, rfl, _, rfl, x, dl, s5, r, m + 3, s', rfl, wk6, by omega, w5, by omega, by omega, t6, fun H7 o7 wk7 => ?_⟩
    exact ⟨_, rfl, q H7 ((((o1.trans o2).same s25).trans o6).trans o7) wk7⟩
def spAns : Sp := fun vs H Q _ => ∃ (x dl d : Addr) (s : Shp) (D : Ak) (m : Nat) (s' : Shp) (v : V), vs = [.ref x, .ref d] ∧ H d = some (.tup D.vs) ∧ WkS K H x dl s m ∧ m ≤ 600 ∧ Wf s ∧ s.length ≤ 64 ∧ D.a < s.length ∧ D.b < s.length ∧ D.R s s' v ∧ ∀ H', Offs [x, dl] H H' → WkS K H' x dl s' (m + 8) → Q v H'
theorem sc_Work_ans : FnScope ["self", "ask", "word", "one", "other", "first", "are_so"] ["self", "ask"] (defScope s_Work_answers) := ⟨rfl, rfl, rfl, by decide +kernel, rfl, by decide +kernel, by decide +kernel⟩
theorem ok_Work_ans (T : Txt w K mg) : OkM P w K mg base 69 "Work" "answers" ["self", "ask"] (spAns (K := K)) := by
  obtain ⟨fJ, dJ, GJ, mJ, cJ, bJ⟩ := (ok_Work_join (P := P) (base := base) T).ex
  obtain ⟨fW, dW, GW, mW, cW, bW⟩ := (ok_Work_ansWay (P := P) (base := base) T).ex
  refine okm T.meth_Work_answers T.cls_Work T.fn_Work_answers sc_Work_ans (fun _ _ _ _ _ _ us hl => match us, hl with | [_, _], _ => rfl) (fun vs H Q E h => ?_) (fun cdv A outer s H vs Q E hr h => ?_)
  · obtain ⟨x, dl, d, s, D, m, s', v, rfl, _⟩ := h; rfl
  · obtain ⟨x, dl, d, s, D, m, s', v, rfl, hd, wk, hm, wf, l64, ha, hb, re, q⟩ := h
    have hr11 : Room 11 _ := hr.mono (by decide)
    refine ⟨_, (pss_cons (ps_set (i := 2) sc_Work_ans.nd rfl (.inl rfl) (pe_ix ix_tup (pv 1) pe_int (fun _ _ => rfl))) (pss_cons (ps_if (pt_cmpR op_in_seq (pv 2) (gr T.glo_ONES) (by rfl)) pss_never pss_nil) (pss_cons (ps_asg (pe_slice sl_tupA (pv 1) (po_some pe_int) (po_some pe_int)) (pg_tup rfl (pgs_cons (pg_name (i := 3) sc_Work_ans.nd rfl (.inl rfl)) (pgs_cons (pg_name (i := 4) sc_Work_ans.nd rfl (.inl rfl)) pgs_nil)))) (pss_cons (ps_asg (pe_meth (pv 0) cJ mJ GJ hr11 bJ .nil pass0 (pa_cons (pv 3) (pa_cons (pv 4) pa_nil))) (pg_tup rfl (pgs_cons (pg_name (i := 5) sc_Work_ans.nd rfl (.inl rfl)) (pgs_cons (pg_name (i := 6) sc_Work_ans.nd rfl (.inl rfl)) pgs_nil)))) (pss_cons (ps_if (pt_cmpR op_eq (pv 2) (gs T.str_JOINED) (nomark _)) (pss_one (ps_ret (pv 6))) pss_nil) (pss_cons (ps_if (pt_not (pt_val (pv 6))) pss_never pss_nil) (pss_cons (ps_if (pt_cmpR op_eq (pv 2) (gs T.str_COMMON) (nomark _)) pss_never pss_nil) (pss_one (ps_ret (pe_meth (pv 0) cW mW GW hr bW .nil pass0 (pa_cons (pv 1) (pa_cons (pv 5) pa_nil)))))))))))), ?_⟩
    have t1 : ∀ H, SqT K H (He.ga K "ONES") [.str "root", .str "depth", .str "below", .str "whole"] := fun H => He.tupB_ok T.more.1 H
    have w0 : atI D.vs ((0 : Nat) : Int) = some (.str D.word) := by cases D <;> exact atI_nat rfl
    have nin : inV (.str D.word) [.str "root", .str "depth", .str "below", .str "whole"] = false := by
      cases D with
      | joined _ _ => show inV (.str "joined") _ = false; decide +kernel
      | where_ _ _ => show inV (.str "where") _ = false; decide +kernel
    obtain ⟨dx, a0, rr, v0, hx, _, _, nt, _⟩ := wk.ins
    have dn : d ∉ [x, dl] := fun z => nt d z _ hd
    refine ⟨_, rfl, _, _, _, _, rfl, rfl, SqT.of (hd),  w0, ?_⟩
    refine ⟨_, rfl, He.ga K "ONES", _, rfl, .inr (t1 _), rfl, rfl, _, rfl, ?_⟩
    rw [if_neg Bool.false_ne_true, nin]
    have cut : cutV D.vs (some 1) (some 3) = [nI D.a, nI D.b] := by cases D <;> rfl
    refine iteF ⟨_, rfl, _, rfl, _, rfl, d, _, rfl, .of hd, fun z => ?_, fun _ p np => ?_⟩
    · exfalso
      have := z.1
      cases D <;> exact absurd (show (1 : Nat) = 0 from this) (by decide)
    rw [cut] at *
    have s1 := same_upd (o := .tup [nI D.a, nI D.b]) np
    refine ⟨p, _, rfl, SqT.of upd_same, rfl, _, _, rfl, _, _, rfl, rfl, ?_⟩
    have hx1 := s1 _ _ hx
    have wk1 := wk.same s1
    cases D with
    | joined a b =>
      obtain ⟨c, ⟨sa, r1, r2, f1, f2, ec⟩, rfl⟩ := re
      refine ⟨_, rfl, x, dx, _, rfl, hx1, rfl, _, rfl, _, rfl, x, dl, s, a, b, m, sa, s', r1, r2, rfl, wk1, by omega, wf, l64, ha, hb, f1, f2, fun H2 p2 o2 wk2 hp2 => ?_⟩
      refine ⟨p2, _, rfl, SqT.of hp2, rfl, _, _, rfl, _, _, rfl, rfl, ?_⟩
      refine ⟨_, rfl, rfl, _, rfl, ?_⟩
      rw [show decide (V.str (Ak.joined a b).word = V.str "joined") = true from seq']
      refine iteT ⟨_, rfl, ?_⟩
      rw [← ec]
      exact q H2 ((Offs.of s1).trans o2) (wk2.mono (by omega))
    | where_ a b =>
      obtain ⟨h, ⟨sa, r, sb, s3, s4, L, s5, f1, f2, t3, c4, od, fm, hh, ll, inL, c5, t6⟩, rfl⟩ := re
      obtain ⟨wa, hra⟩ := root_wf f1 wf ha
      have la := f1.len
      obtain ⟨wb, hrb⟩ := root_wf f2 wa (by show b < _; have : b < s.length := hb; omega)
      have lb := f2.len
      have ha' : a < s.length := ha
      have hb' : b < s.length := hb
      refine ⟨_, rfl, x, dx, _, rfl, hx1, rfl, _, rfl, _, rfl, x, dl, s, a, b, m, sa, sb, r, r, rfl, wk1, by omega, wf, l64, ha, hb, f1, f2, fun H2 p2 o2 wk2 hp2 => ?_⟩
      refine ⟨p2, _, rfl, SqT.of hp2, rfl, _, _, rfl, _, _, rfl, rfl, ?_⟩
      refine ⟨_, rfl, rfl, _, rfl, ?_⟩
      rw [show decide (V.str (Ak.where_ a b).word = V.str "joined") = false from sne (show (("where" : Str) == "joined") = false by decide +kernel)]
      refine iteF ⟨_, rfl, _, rfl, ?_⟩
      rw [decide_eq_true (show r = r from rfl)]
      refine iteF ⟨_, rfl, rfl, _, rfl, ?_⟩
      rw [show decide (V.str (Ak.where_ a b).word = V.str "common") = false from sne (show (("where" : Str) == "common") = false by decide +kernel)]
      obtain ⟨dx2, a2, rr2, v2, hx2, _⟩ := wk2.ins
      have hd2 := o2 _ _ dn (s1 _ _ hd)
      refine iteF ⟨_, rfl, x, dx2, _, rfl, hx2, rfl, _, rfl, _, rfl, ?_⟩
      refine ⟨x, dl, d, sb, a, b, r, m + 4, s3, s4, L, h, s5, s', rfl, hd2, wk2, by omega, wb, by omega, by omega, by omega, by omega, t3, c4, od, fm, by omega, ll, fun k hk => ?_, c5, t6, fun H3 o3 wk3 => ?_⟩
      · obtain ⟨k1, l, _, k3⟩ := inL k hk
        exact ⟨by omega, l, k3⟩
      · exact q H3 (((Offs.of s1).trans o2).trans o3) (wk3.mono (by omega))
end
end G3
set_option Elab.async false
set_option linter.all false
set_option maxRecDepth 100000
set_option maxHeartbeats 4000000
/-! Kept forests: deeds and asks. -/
namespace G3
open PySem PySem.Spec PyProof.Rows L2
open Lk (Part g isSon handOn flip setUp setSon setVal Wf PIn In Forests TurnAbout DPut DLink DCut AJoin AWhere)
/-- the kept forest at k, its papers at tl (at most m of them), its shape s -/
def KtS (K : PySem.W.Frag) (H : Hp) (k tl : Addr) (s : Shp) (m : Nat) : Prop := ∃ dx a z n ps pss, H k = some (.ins (cK K) dx (kFs a tl z n)) ∧ ShAt H a s ∧ H tl = some (.lst (ps.map V.ref)) ∧ Pap H ps pss ∧ ps.length ≤ m
theorem KtS.mono {K : PySem.W.Frag} {H : Hp} {k tl : Addr} {s : Shp} {m n : Nat} (h : KtS K H k tl s m) (l : m ≤ n) : KtS K H k tl s n := by
  obtain ⟨dx, a, z, c, ps, pss, h1, h2, h3, h4, h5⟩ := h
  exact ⟨dx, a, z, c, ps, pss, h1, h2, h3, h4, Nat.le_trans h5 l⟩
theorem KtS.offs {K : PySem.W.Frag} {xs : List Addr} {H H' : Hp} {k tl : Addr} {s : Shp} {m : Nat} (h : KtS K H k tl s m) (e : Offs xs H H') (nt : ∀ b ∈ xs, ∀ vs, H b ≠ some (.tup vs)) (nk : k ∉ xs) (nl : tl ∉ xs) : KtS K H' k tl s m := by
  obtain ⟨dx, a, z, c, ps, pss, h1, h2, h3, h4, h5⟩ := h
  exact ⟨dx, a, z, c, ps, pss, e _ _ nk h1, h2.offs e nt, e _ _ nl h3, h4.offs e nt, h5⟩
theorem KtS.same {K : PySem.W.Frag} {H H' : Hp} {k tl : Addr} {s : Shp} {m : Nat} (h : KtS K H k tl s m) (e : Same H H') : KtS K H' k tl s m := h.offs (Offs.of (xs := []) e) (by simp) (by simp) (by simp)
section
variable {P : Program} {w : World} {K : PySem.W.Frag} {mg : Str → Option Value} {base : Heap}
theorem KtS.ins {H : Hp} {k tl : Addr} {s : Shp} {m : Nat} (h : KtS K H k tl s m) : ∃ (dx a : Addr) (z n : Int) (ps : List Addr), H k = some (.ins (cK K) dx (kFs a tl z n)) ∧ ShAt H a s ∧ H tl = some (.lst (ps.map V.ref)) ∧ k ≠ tl ∧ (∀ c ∈ [k, tl], ∀ vs, H c ≠ some (.tup vs)) ∧ ps.length ≤ m := by
  obtain ⟨dx, a, z, n, ps, pss, h1, h2, h3, h4, h5⟩ := h
  refine ⟨dx, a, z, n, ps, h1, h2, h3, fun e => (by rw [e, h3] at h1; cases h1), fun c hc vs e => ?_, h5⟩
  rcases List.mem_cons.mp hc with q | q
  · rw [q, h1] at e; cases e
  · rw [List.mem_singleton.mp q, h3] at e; cases e
def spTake : Sp := fun vs H Q _ => ∃ (k tl x dl : Addr) (s s' : Shp) (m n : Nat), vs = [.ref k, .ref x] ∧ KtS K H k tl s m ∧ WkS K H x dl s' n ∧ m + n ≤ 100000 ∧ k ≠ x ∧ tl ≠ dl ∧ ∀ H', Offs [k, tl] H H' → KtS K H' k tl s' (m + n) → Q .non H'
theorem sc_Kept_take : FnScope ["self", "work"] ["self", "work"] (defScope s_Kept_take_in) := ⟨rfl, rfl, rfl, by decide +kernel, rfl, by decide +kernel, by decide +kernel⟩
theorem Pap.app {H : Hp} {ps qs : List Addr} {pss qss : List (List Int)} (h : Pap H ps pss) (h' : Pap H qs qss) : Pap H (ps ++ qs) (pss ++ qss) := by
  refine ⟨by simp [h.len, h'.len], fun i q k h1 h2 => ?_⟩
  by_cases il : i < ps.length
  · rw [List.getElem?_append_left il] at h1
    rw [List.getElem?_append_left (by rw [← h.len]; exact il)] at h2
    exact h.at_ i q k h1 h2
  · rw [List.getElem?_append_right (by omega)] at h1
    rw [List.getElem?_append_right (by rw [← h.len]; omega), ← h.len] at h2
    exact h'.at_ _ q k h1 h2
theorem ok_Kept_take (T : Txt w K mg) : OkM P w K mg base 1 "Kept" "take_in" ["self", "work"] (spTake (K := K)) := by
  refine okm T.meth_Kept_take_in T.cls_Kept T.fn_Kept_take_in sc_Kept_take (fun _ _ _ _ _ _ us hl => match us, hl with | [_, _], _ => rfl) (fun vs H Q E h => ?_) (fun cdv A outer s H vs Q E hr h => ?_)
  · obtain ⟨k, tl, x, dl, s, s', m, n, rfl, _⟩ := h; rfl
  · obtain ⟨k, tl, x, dl, s, s', m, n, rfl, ⟨dx, a, z, c, ps, pss, hk, sh, htl, pp, pl⟩, ⟨dx', a', r', v', qs, qss, hx, sh', hdl, pq, ql⟩, hmn, kx, td, q⟩ := h
    refine ⟨_, (pss_cons (ps_fld (pv 0) (pe_fld (pv 1) (by rfl)) (by rfl)) (pss_one (ps_expr (pe_bm PySem.F.plainAttrs_list PySem.F.slot_list_extend PySem.F.type_list_extend mt_extend (pe_fld (pv 0) (by rfl)) (pa_cons (pe_fld (pv 1) (by rfl)) pa_nil))))), ?_⟩
    have ktl : k ≠ tl := fun e => by rw [e, htl] at hk; cases hk
    have kdl : k ≠ dl := fun e => by rw [e, hdl] at hk; cases hk
    have nt : ∀ b ∈ [k, tl], ∀ vs, H b ≠ some (.tup vs) := fun b hb vs e => by
      rcases List.mem_cons.mp hb with q | q
      · rw [q, hk] at e; cases e
      · rw [List.mem_singleton.mp q, htl] at e; cases e
    refine ⟨_, rfl, x, _, dx', _, _, rfl, hx, T.cls_Work, T.noat_Work_here, rfl, _, rfl, k, _, dx, _, rfl, hk, T.cls_Kept, T.noat_Kept_now, (show (4 : Nat) < 1000 by decide), ?_⟩
    have htl1 : upd H k (.ins (cK K) dx (putF "now" (.ref a') (kFs a tl z c))) tl = some (.lst (ps.map V.ref)) := by rw [upd_ne (Ne.symm ktl)]; exact htl
    have hdl1 : upd H k (.ins (cK K) dx (putF "now" (.ref a') (kFs a tl z c))) dl = some (.lst (qs.map V.ref)) := by rw [upd_ne (Ne.symm kdl)]; exact hdl
    refine ⟨_, rfl, k, _, dx, kFs a' tl z c, _, rfl, upd_same, T.cls_Kept, T.noat_Kept_told, rfl, .inl ⟨rfl, _, SqL.of htl1⟩, ?_⟩
    refine ⟨_, rfl, x, _, dx', _, _, rfl, by rw [upd_ne (Ne.symm kx)]; exact hx, T.cls_Work, T.noat_Work_done, rfl, tl, dl, _, _, rfl, rfl, htl1, hdl1, by rw [sizeLine_eq]; simp <;> omega, ?_⟩
    have ob : Offs [k, tl] H (upd (upd H k (.ins (cK K) dx (putF "now" (.ref a') (kFs a tl z c)))) tl (.lst (ps.map V.ref ++ qs.map V.ref))) := ((Offs.of (.refl _)).upd (by simp)).upd (by simp)
    exact q _ ob ⟨dx, a', z, c, ps ++ qs, pss ++ qss, by rw [upd_ne ktl]; exact upd_same, sh'.offs ob nt, by rw [upd_same, List.map_append], (pp.app pq).offs ob nt, by simp <;> omega⟩
theorem dd_wf {D : Dd} {s s' : Shp} (r : D.R s s') : s'.length = s.length := by
  cases D with
  | link h o => exact Lk.DLink.len r
  | cut h => exact Lk.DCut.len r
  | turn h => exact Lk.TurnAbout.len r
  | put h v => obtain ⟨s1, r1, rfl⟩ := r; rw [Lk.len_setVal]; exact r1.len
def spDeed : Sp := fun vs H Q _ => ∃ (k tl d : Addr) (s s' : Shp) (D : Dd) (m : Nat), vs = [.ref k, .ref d] ∧ KtS K H k tl s m ∧ H d = some (.tup D.vs) ∧ m ≤ 90000 ∧ Wf s ∧ s.length ≤ 64 ∧ (∀ h ∈ D.hs, h < s.length) ∧ D.R s s' ∧ ∀ H', Offs [k, tl] H H' → KtS K H' k tl s' (m + 6) → Q .non H'
theorem sc_Kept_deed : FnScope ["self", "thing", "work"] ["self", "thing"] (defScope s_Kept_deed) := ⟨rfl, rfl, rfl, by decide +kernel, rfl, by decide +kernel, by decide +kernel⟩
theorem ok_Kept_deed (T : Txt w K mg) : OkM P w K mg base 13 "Kept" "deed" ["self", "thing"] (spDeed (K := K)) := by
  obtain ⟨fF, dF, GF, mF, kF, bF⟩ := (ok_form_deeds (P := P) (base := base) T).ex
  obtain ⟨fN, dN, GN, mN, gN, bN⟩ := (ok_Work_init (P := P) (base := base) T).ex
  obtain ⟨fD, dD, GD, mD, cD, bD⟩ := (ok_Work_does (P := P) (base := base) T).ex
  obtain ⟨fI, dI, GI, mI, cI, bI⟩ := (ok_Kept_take (P := P) (base := base) T).ex
  refine okm T.meth_Kept_deed T.cls_Kept T.fn_Kept_deed sc_Kept_deed (fun _ _ _ _ _ _ us hl => match us, hl with | [_, _], _ => rfl) (fun vs H Q E h => ?_) (fun cdv A outer s H vs Q E hr h => ?_)
  · obtain ⟨k, tl, d, s, s', D, m, rfl, _⟩ := h; rfl
  · obtain ⟨k, tl, d, s, s', D, m, rfl, kt, hd, hm, wf, l64, hin, re, q⟩ := h
    have hr1 : Room 1 _ := hr.mono (by decide)
    have hr4 : Room 4 _ := hr.mono (by decide)
    refine ⟨_, (pss_cons (ps_if (pt_not (pt_val (pe_call GF hr4 (by rfl) mF kF bF .nil pass0 (pa_cons (pe_callB call_len_seq (by rfl) T.free_len PySem.boot_len (pa_cons (pe_fld (pv 0) (by rfl)) pa_nil)) (pa_cons (pv 1) pa_nil))))) pss_never pss_nil) (pss_cons (ps_set (i := 2) sc_Kept_deed.nd rfl (.inl rfl) (pe_make mN GN hr4 (by rfl) gN bN .nil pass0 (pa_cons (pe_fld (pv 0) (by rfl)) pa_nil))) (pss_cons (ps_if (pt_not (pt_val (pe_meth (pv 2) cD mD GD hr bD .nil pass0 (pa_cons (pv 1) pa_nil)))) pss_never pss_nil) (pss_cons (ps_expr (pe_meth (pv 0) cI mI GI hr1 bI .nil pass0 (pa_cons (pv 2) pa_nil))) (pss_one (ps_fldaug (pv 0) (pe_callTy call_int1 (by rfl) T.free_int (by decide +kernel) (pa_cons (pe_cmpR op_eq (pe_ix ix_tup (pv 1) pe_int (fun _ _ => rfl)) (gs T.str_LINK) (nomark _)) pa_nil)) in_add)))))), ?_⟩
    obtain ⟨dx, a, z, n, ps, hk, sh, htl, ktl, nt, pl⟩ := kt.ins
    obtain ⟨xs, ha, hxl⟩ := sh.tup
    refine ⟨_, rfl, k, _, dx, _, _, rfl, hk, T.cls_Kept, T.noat_Kept_now, rfl, a, xs, rfl, .inr (.of ha), _, rfl, s.length, d, D, by rw [hxl]; rfl, hd, hin, fun H1 s1 => ⟨_, rfl, iteF ?_⟩⟩
    have hk1 := s1 _ _ hk
    refine ⟨_, rfl, k, _, dx, _, _, rfl, hk1, T.cls_Kept, T.noat_Kept_now, rfl, fun x xdx nx nxdx ne => ?_⟩
    have s2 := (same_upd (o := .own x) nxdx).trans (same_upd (o := .ins (cW K) xdx []) (p := x) (H := upd H1 xdx (.own x)) (by rw [upd_ne (Ne.symm ne)]; exact nx))
    have hx2 : upd (upd H1 xdx (.own x)) x (.ins (cW K) xdx []) x = some (.ins (cW K) xdx []) := upd_same
    generalize upd (upd H1 xdx (.own x)) x (.ins (cW K) xdx []) = H2 at s2 hx2
    refine ⟨x, a, xdx, s, rfl, hx2, (sh.same s1).same s2, wf, l64, fun H3 dl o3 ndl wk3 => ⟨rfl, ?_⟩⟩
    have s13 : Same H H3 := Offs.new (s1.trans s2) o3 fun b hb => by rw [List.mem_singleton.mp hb]; exact s1.free nx
    obtain ⟨wdx, wa, wr, wv, hx3, _⟩ := wk3.ins
    have hd3 := s13 _ _ hd
    refine ⟨_, rfl, x, wdx, _, rfl, hx3, rfl, _, rfl, x, dl, d, s, D, 0, s', rfl, hd3, wk3, by omega, wf, l64, hin, re, fun H4 o4 wk4 => ⟨_, rfl, iteF ?_⟩⟩
    have nxH : H x = none := s1.free nx
    have ndlH : H dl = none := (s1.trans s2).free ndl
    have fresh : ∀ b ∈ [x, dl], H b = none := fun b hb => by
      rcases List.mem_cons.mp hb with e | e
      · rw [e]; exact nxH
      · rw [List.mem_singleton.mp e]; exact ndlH
    have s14 : Same H H4 := Offs.new s13 o4 fresh
    have kx : k ≠ x := ne_of_none hk nxH
    have td : tl ≠ dl := ne_of_none htl ndlH
    have kt4 := kt.same s14
    obtain ⟨dx4, a4, z4, n4, ps4, hk4, _⟩ := kt4.ins
    refine ⟨_, rfl, k, dx4, _, rfl, hk4, rfl, _, rfl, k, tl, x, dl, s, s', m, 6, rfl, kt4, wk4.mono (by omega), by omega, kx, td, fun H5 o5 kt5 => ?_⟩
    have hd5 := o5 _ _ (fun e => nt d e _ hd) (s14 _ _ hd)
    obtain ⟨dx5, a5, z5, n5, ps5, pss5, hk5, sh5, htl5, pp5, pl5⟩ := kt5
    have w0 : atI D.vs ((0 : Nat) : Int) = some (.str D.word) := atI_nat rfl
    refine ⟨_, rfl, k, _, dx5, _, _, rfl, hk5, T.cls_Kept, T.noat_Kept_linked, rfl, ?_⟩
    refine ⟨_, rfl, _, _, _, _, rfl, rfl, SqT.of (hd5),  w0, rfl, .inr ⟨_, rfl, ?_⟩⟩
    refine ⟨_, _, rfl, rfl, dx5, _, hk5, (show (4 : Nat) < 1000 by decide), ?_⟩
    have nt5 : ∀ c ∈ [k, tl], ∀ vs, H5 c ≠ some (.tup vs) := fun c hc vs e => by
      rcases List.mem_cons.mp hc with q | q
      · rw [q, hk5] at e; cases e
      · rw [List.mem_singleton.mp q, htl5] at e; cases e
    have o6 : ∀ v, Offs [k, tl] H5 (upd H5 k (.ins (cK K) dx5 (kFs a5 tl z5 v))) := fun v => (Offs.of (.refl _)).upd (by simp)
    exact q _ (((Offs.of s14).trans o5).trans (o6 _)) ⟨dx5, a5, z5, _, ps5, pss5, upd_same, sh5.offs (o6 _) nt5, by rw [upd_ne (Ne.symm ktl)]; exact htl5, pp5.offs (o6 _) nt5, pl5⟩
def spAsk : Sp := fun vs H Q _ => ∃ (k tl d : Addr) (s s' : Shp) (D : Ak) (m : Nat) (v : V), vs = [.ref k, .ref d] ∧ KtS K H k tl s m ∧ H d = some (.tup D.vs) ∧ m ≤ 90000 ∧ Wf s ∧ s.length ≤ 64 ∧ D.a < s.length ∧ D.b < s.length ∧ D.R s s' v ∧ ∀ H', Offs [k, tl] H H' → KtS K H' k tl s' (m + 8) → Q v H'
theorem sc_Kept_ask : FnScope ["self", "thing", "work", "found"] ["self", "thing"] (defScope s_Kept_ask) := ⟨rfl, rfl, rfl, by decide +kernel, rfl, by decide +kernel, by decide +kernel⟩
theorem ok_Kept_ask (T : Txt w K mg) : OkM P w K mg base 70 "Kept" "ask" ["self", "thing"] (spAsk (K := K)) := by
  obtain ⟨fF, dF, GF, mF, kF, bF⟩ := (ok_form_asks (P := P) (base := base) T).ex
  obtain ⟨fN, dN, GN, mN, gN, bN⟩ := (ok_Work_init (P := P) (base := base) T).ex
  obtain ⟨fD, dD, GD, mD, cD, bD⟩ := (ok_Work_ans (P := P) (base := base) T).ex
  obtain ⟨fI, dI, GI, mI, cI, bI⟩ := (ok_Kept_take (P := P) (base := base) T).ex
  refine okm T.meth_Kept_ask T.cls_Kept T.fn_Kept_ask sc_Kept_ask (fun _ _ _ _ _ _ us hl => match us, hl with | [_, _], _ => rfl) (fun vs H Q E h => ?_) (fun cdv A outer s H vs Q E hr h => ?_)
  · obtain ⟨k, tl, d, s, s', D, m, v, rfl, _⟩ := h; rfl
  · obtain ⟨k, tl, d, s, s', D, m, v, rfl, kt, hd, hm, wf, l64, ha, hb, re, q⟩ := h
    have hr1 : Room 1 _ := hr.mono (by decide)
    have hr4 : Room 4 _ := hr.mono (by decide)
    refine ⟨_, (pss_cons (ps_if (pt_not (pt_val (pe_call GF hr4 (by rfl) mF kF bF .nil pass0 (pa_cons (pe_callB call_len_seq (by rfl) T.free_len PySem.boot_len (pa_cons (pe_fld (pv 0) (by rfl)) pa_nil)) (pa_cons (pv 1) pa_nil))))) pss_never pss_nil) (pss_cons (ps_set (i := 2) sc_Kept_ask.nd rfl (.inl rfl) (pe_make mN GN hr4 (by rfl) gN bN .nil pass0 (pa_cons (pe_fld (pv 0) (by rfl)) pa_nil))) (pss_cons (ps_set (i := 3) sc_Kept_ask.nd rfl (.inl rfl) (pe_meth (pv 2) cD mD GD hr bD .nil pass0 (pa_cons (pv 1) pa_nil))) (pss_cons (ps_expr (pe_meth (pv 0) cI mI GI hr1 bI .nil pass0 (pa_cons (pv 2) pa_nil))) (pss_one (ps_ret (pv 3))))))), ?_⟩
    obtain ⟨dx, a, z, n, ps, hk, sh, htl, ktl, nt, pl⟩ := kt.ins
    obtain ⟨xs, hxa, hxl⟩ := sh.tup
    refine ⟨_, rfl, k, _, dx, _, _, rfl, hk, T.cls_Kept, T.noat_Kept_now, rfl, a, xs, rfl, .inr (.of hxa), _, rfl, s.length, d, D, by rw [hxl]; rfl, hd, ha, hb, fun H1 s1 => ⟨_, rfl, iteF ?_⟩⟩
    have hk1 := s1 _ _ hk
    refine ⟨_, rfl, k, _, dx, _, _, rfl, hk1, T.cls_Kept, T.noat_Kept_now, rfl, fun x xdx nx nxdx ne => ?_⟩
    have s2 := (same_upd (o := .own x) nxdx).trans (same_upd (o := .ins (cW K) xdx []) (p := x) (H := upd H1 xdx (.own x)) (by rw [upd_ne (Ne.symm ne)]; exact nx))
    have hx2 : upd (upd H1 xdx (.own x)) x (.ins (cW K) xdx []) x = some (.ins (cW K) xdx []) := upd_same
    generalize upd (upd H1 xdx (.own x)) x (.ins (cW K) xdx []) = H2 at s2 hx2
    refine ⟨x, a, xdx, s, rfl, hx2, (sh.same s1).same s2, wf, l64, fun H3 dl o3 ndl wk3 => ⟨rfl, ?_⟩⟩
    have s13 : Same H H3 := Offs.new (s1.trans s2) o3 fun b hb => by rw [List.mem_singleton.mp hb]; exact s1.free nx
    obtain ⟨wdx, wa, wr, wv, hx3, _⟩ := wk3.ins
    have hd3 := s13 _ _ hd
    refine ⟨_, rfl, x, wdx, _, rfl, hx3, rfl, _, rfl, x, dl, d, s, D, 0, s', v, rfl, hd3, wk3, by omega, wf, l64, ha, hb, re, fun H4 o4 wk4 => ?_⟩
    have nxH : H x = none := s1.free nx
    have ndlH : H dl = none := (s1.trans s2).free ndl
    have fresh : ∀ b ∈ [x, dl], H b = none := fun b hb => by
      rcases List.mem_cons.mp hb with e | e
      · rw [e]; exact nxH
      · rw [List.mem_singleton.mp e]; exact ndlH
    have s14 : Same H H4 := Offs.new s13 o4 fresh
    have kx : k ≠ x := ne_of_none hk nxH
    have td : tl ≠ dl := ne_of_none htl ndlH
    have kt4 := kt.same s14
    obtain ⟨dx4, a4, z4, n4, ps4, hk4, _⟩ := kt4.ins
    refine ⟨_, rfl, k, dx4, _, rfl, hk4, rfl, _, rfl, k, tl, x, dl, s, s', m, 8, rfl, kt4, wk4.mono (by omega), by omega, kx, td, fun H5 o5 kt5 => ?_⟩
    exact ⟨_, rfl, q H5 ((Offs.of s14).trans o5) kt5⟩
end
end G3
set_option Elab.async false
set_option linter.all false
set_option maxRecDepth 100000
set_option maxHeartbeats 4000000
/-! Roads: ties in and out. -/
namespace G3
open PySem PySem.Spec PyProof.Rows L2
open Lk (Part g isSon handOn flip setUp setSon setVal Wf PIn In Forests Reach FoundRoot TurnAbout DPut DLink DCut AJoin AWhere Tie tie key TieIn TieOut Settle RS KeptP)
theorem dd_Wf {D : Dd} {s s' : Shp} (r : D.R s s') (w : Wf s) (hin : ∀ h ∈ D.hs, h < s.length) : Wf s' := by
  cases D with
  | link h o =>
    obtain ⟨s1, s2, r0, s3, s4, f1, f2, _, c3, c4, rfl⟩ := r
    have hh : h < s.length := hin h (by simp [Dd.hs])
    have ho : o < s.length := hin o (by simp [Dd.hs])
    have w1 := (root_wf f1 w hh).1
    have l1 := f1.len
    have w2 := (root_wf f2 w1 (by omega)).1
    have l2 := f2.len
    have w3 := reach_wf c3 w2 (by omega)
    have l3 := c3.len
    have w4 := reach_wf c4 w3 (by omega)
    have l4 := c4.len
    exact Lk.wf_setUp w4 (by show o < _; omega)
  | cut h =>
    obtain ⟨s1, r0, s2, k, f1, _, c2, _, rfl⟩ := r
    have hh : h < s.length := hin h (by simp [Dd.hs])
    have w1 := (root_wf f1 w hh).1
    have l1 := f1.len
    have w2 := reach_wf c2 w1 (by omega)
    exact Lk.wf_setUp (Lk.wf_setSon w2 trivial) trivial
  | turn h => exact about_wf r w (hin h (by simp [Dd.hs]))
  | put h v =>
    obtain ⟨s1, c1, rfl⟩ := r
    have w1 := reach_wf c1 w (hin h (by simp [Dd.hs]))
    exact w1.set (w1.at h)
theorem join_wf {a b : Nat} {s s' : Shp} {c : Bool} (j : AJoin a b s s' c) (w : Wf s) (ha : a < s.length) (hb : b < s.length) : Wf s' ∧ s'.length = s.length := by
  obtain ⟨s1, r1, r2, f1, f2, _⟩ := j
  have w1 := (root_wf f1 w ha).1
  have l1 := f1.len
  have l2 := f2.len
  exact ⟨(root_wf f2 w1 (by omega)).1, by omega⟩
theorem where_wf {a b h : Nat} {s s' : Shp} (j : AWhere a b s s' h) (w : Wf s) (ha : a < s.length) (hb : b < s.length) : Wf s' ∧ s'.length = s.length ∧ h < s.length := by
  obtain ⟨s1, r, s2, s3, s4, L, s5, f1, f2, t3, c4, _, _, hh, _, _, c5, t6⟩ := j
  obtain ⟨w1, hr⟩ := root_wf f1 w ha
  have l1 := f1.len
  have w2 := (root_wf f2 w1 (by omega)).1
  have l2 := f2.len
  have w3 := about_wf t3 w2 (by omega)
  have l3 := t3.len
  have w4 := reach_wf c4 w3 (by omega)
  have l4 := c4.len
  have w5 := reach_wf c5 w4 (by omega)
  have l5 := c5.len
  exact ⟨about_wf t6 w5 (by omega), by rw [t6.len]; omega, hh⟩
abbrev cR (K : PySem.W.Frag) : Addr := He.ga K "Roads"
abbrev rFs (m r : Nat) (rl ld k : Addr) (c : Int) : List (Str × V) := [("size", .int (m : Nat)), ("room", .int (r : Nat)), ("rows", .ref rl), ("left", .ref ld), ("web", .ref k), ("calls", .int c)]
/-- the ties' tuples -/
structure TieAt (H : Hp) (rr : List Addr) (R : Lk.Rows) : Prop where
  len : rr.length = R.length
  at_ : ∀ (i : Nat) (p : Addr) (t : Tie), rr[i]? = some p → R[i]? = some t → H p = some (.tup [nI t.a, nI t.b, .int t.w])
theorem TieAt.offs {xs : List Addr} {H H' : Hp} {rr : List Addr} {R : Lk.Rows} (h : TieAt H rr R) (e : Offs xs H H') (nt : ∀ b ∈ xs, ∀ vs, H b ≠ some (.tup vs)) : TieAt H' rr R :=
  ⟨h.len, fun i p t h1 h2 => by
    have g := h.at_ i p t h1 h2
    exact e _ _ (fun q => nt _ q _ g) g⟩
theorem TieAt.same {H H' : Hp} {rr : List Addr} {R : Lk.Rows} (h : TieAt H rr R) (e : Same H H') : TieAt H' rr R := h.offs (Offs.of (xs := []) e) (by simp)
theorem TieAt.get {H : Hp} {rr : List Addr} {R : Lk.Rows} (h : TieAt H rr R) {i : Nat} (hi : i < R.length) : ∃ p, rr[i]? = some p ∧ H p = some (.tup [nI (tie R i).a, nI (tie R i).b, .int (tie R i).w]) := by
  have il : i < rr.length := by rw [h.len]; exact hi
  refine ⟨rr[i], List.getElem?_eq_getElem il, ?_⟩
  have e : R[i]? = some (tie R i) := by rw [tie, List.getD_eq_getElem?_getD, List.getElem?_eq_getElem hi]; rfl
  exact h.at_ i _ _ (List.getElem?_eq_getElem il) e

section
variable {P : Program} {w : World} {K : PySem.W.Frag} {mg : Str → Option Value} {base : Heap}
def spCheck : Sp := fun vs H Q _ => ∃ (o dx rl ld k : Addr) (m r a : Nat) (c : Int), vs = [.ref o, .int a] ∧ H o = some (.ins (cR K) dx (rFs m r rl ld k c)) ∧ a < m ∧ Q .non H
theorem sc_Roads_check : FnScope ["self", "thing"] ["self", "thing"] (defScope s_Roads_check_house) := ⟨rfl, rfl, rfl, by decide +kernel, rfl, by decide +kernel, by decide +kernel⟩
theorem ok_Roads_check (T : Txt w K mg) : OkM P w K mg base 4 "Roads" "check_house" ["self", "thing"] (spCheck (K := K)) := by
  obtain ⟨fB, dB, GB, mB, kB, bB⟩ := (ok_is_below (P := P) (base := base) T).ex
  refine okm T.meth_Roads_check_house T.cls_Roads T.fn_Roads_check_house sc_Roads_check (fun _ _ _ _ _ _ us hl => match us, hl with | [_, _], _ => rfl) (fun vs H Q E h => ?_) (fun cdv A outer s H vs Q E hr h => ?_)
  · obtain ⟨o, dx, rl, ld, k, m, r, a, c, rfl, _⟩ := h; rfl
  · obtain ⟨o, dx, rl, ld, k, m, r, a, c, rfl, ho, ha, q⟩ := h
    refine ⟨_, (pss_one (ps_if (pt_not (pt_val (pe_call GB hr (by rfl) mB kB bB .nil pass0 (pa_cons (pv 1) (pa_cons (pe_fld (pv 0) (by rfl)) pa_nil))))) pss_never pss_nil)), ?_⟩
    refine ⟨_, rfl, _, rfl, o, _, dx, _, _, rfl, ho, T.cls_Roads, T.noat_Roads_size, rfl, (a : Int), (m : Int), rfl, ?_⟩
    rw [decide_eq_true ⟨by omega, by omega⟩]
    exact ⟨_, rfl, iteF q⟩
def spTied : Sp := fun vs H Q _ => ∃ (o dx rl ld k tl : Addr) (m r a b mm : Nat) (c : Int) (s s' : Shp) (x : Bool), vs = [.ref o, .int a, .int b] ∧ H o = some (.ins (cR K) dx (rFs m r rl ld k c)) ∧ KtS K H k tl s mm ∧ mm ≤ 80000 ∧ Wf s ∧ s.length ≤ 64 ∧ a < s.length ∧ b < s.length ∧ AJoin a b s s' x ∧
  ∀ H', Offs [k, tl] H H' → KtS K H' k tl s' (mm + 8) → Q (.bl x) H'
theorem sc_Roads_tied : FnScope ["self", "one", "other"] ["self", "one", "other"] (defScope s_Roads_is_tied) := ⟨rfl, rfl, rfl, by decide +kernel, rfl, by decide +kernel, by decide +kernel⟩
theorem ok_Roads_tied (T : Txt w K mg) : OkM P w K mg base 71 "Roads" "is_tied" ["self", "one", "other"] (spTied (K := K)) := by
  obtain ⟨fA, dA, GA, mA, cA, bA⟩ := (ok_Kept_ask (P := P) (base := base) T).ex
  refine okm T.meth_Roads_is_tied T.cls_Roads T.fn_Roads_is_tied sc_Roads_tied (fun _ _ _ _ _ _ us hl => match us, hl with | [_, _, _], _ => rfl) (fun vs H Q E h => ?_) (fun cdv A outer s H vs Q E hr h => ?_)
  · obtain ⟨o, dx, rl, ld, k, tl, m, r, a, b, mm, c, s, s', x, rfl, _⟩ := h; rfl
  · obtain ⟨o, dx, rl, ld, k, tl, m, r, a, b, mm, c, s, s', x, rfl, ho, kt, hm, wf, l64, ha, hb, jn, q⟩ := h
    refine ⟨_, (pss_one (ps_ret (pe_meth (pe_fld (pv 0) (by rfl)) cA mA GA hr bA .nil pass0 (pa_cons (pe_tup (pa_cons pe_str (pa_cons (pv 1) (pa_cons (pv 2) pa_nil)))) pa_nil)))), ?_⟩
    obtain ⟨kdx, ka, kz, kn, kps, hk, _⟩ := kt.ins
    refine ⟨_, rfl, o, _, dx, _, _, rfl, ho, T.cls_Roads, T.noat_Roads_web, rfl, k, kdx, _, rfl, hk, rfl, ?_⟩
    refine ⟨_, rfl, _, rfl, by show 3 ≤ sizeLine; decide, fun d nd => ?_⟩
    have s1 := same_upd (o := .tup [.str "joined", nI a, nI b]) nd
    refine ⟨k, tl, d, s, s', .joined a b, mm, .bl x, rfl, kt.same s1, upd_same, by omega, wf, l64, ha, hb, ⟨x, jn, rfl⟩, fun H2 o2 kt2 => ?_⟩
    exact q H2 ((Offs.of s1).trans o2) kt2
def spGreat : Sp := fun vs H Q _ => ∃ (o dx rl ld k tl : Addr) (m r a b mm i : Nat) (c : Int) (s s' : Shp), vs = [.ref o, .int a, .int b] ∧ H o = some (.ins (cR K) dx (rFs m r rl ld k c)) ∧ o ∉ [k, tl] ∧ KtS K H k tl s mm ∧ mm ≤ 80000 ∧ Wf s ∧ s.length ≤ 64 ∧ a < s.length ∧ b < s.length ∧ AWhere a b s s' (m + i) ∧
  ∀ H', Offs [k, tl] H H' → KtS K H' k tl s' (mm + 8) → Q (nI i) H'
theorem sc_Roads_great : FnScope ["self", "one", "other"] ["self", "one", "other"] (defScope s_Roads_greatest) := ⟨rfl, rfl, rfl, by decide +kernel, rfl, by decide +kernel, by decide +kernel⟩
theorem ok_Roads_great (T : Txt w K mg) : OkM P w K mg base 71 "Roads" "greatest" ["self", "one", "other"] (spGreat (K := K)) := by
  obtain ⟨fA, dA, GA, mA, cA, bA⟩ := (ok_Kept_ask (P := P) (base := base) T).ex
  refine okm T.meth_Roads_greatest T.cls_Roads T.fn_Roads_greatest sc_Roads_great (fun _ _ _ _ _ _ us hl => match us, hl with | [_, _, _], _ => rfl) (fun vs H Q E h => ?_) (fun cdv A outer s H vs Q E hr h => ?_)
  · obtain ⟨o, dx, rl, ld, k, tl, m, r, a, b, mm, i, c, s, s', rfl, _⟩ := h; rfl
  · obtain ⟨o, dx, rl, ld, k, tl, m, r, a, b, mm, i, c, s, s', rfl, ho, no, kt, hm, wf, l64, ha, hb, jn, q⟩ := h
    refine ⟨_, (pss_one (ps_ret (pe_op op_sub (pe_meth (pe_fld (pv 0) (by rfl)) cA mA GA hr bA .nil pass0 (pa_cons (pe_tup (pa_cons pe_str (pa_cons (pv 1) (pa_cons (pv 2) (pa_cons pe_str pa_nil))))) pa_nil)) (pe_fld (pv 0) (by rfl))))), ?_⟩
    obtain ⟨kdx, ka, kz, kn, kps, hk, _⟩ := kt.ins
    refine ⟨_, rfl, o, _, dx, _, _, rfl, ho, T.cls_Roads, T.noat_Roads_web, rfl, k, kdx, _, rfl, hk, rfl, ?_⟩
    refine ⟨_, rfl, _, rfl, by show 4 ≤ sizeLine; decide, fun d nd => ?_⟩
    have s1 := same_upd (o := .tup [.str "where", nI a, nI b, .str "greatest"]) nd
    refine ⟨k, tl, d, s, s', .where_ a b, mm, nI (m + i), rfl, kt.same s1, upd_same, by omega, wf, l64, ha, hb, ⟨m + i, jn, rfl⟩, fun H2 o2 kt2 => ?_⟩
    refine ⟨_, rfl, o, _, dx, _, _, rfl, o2 _ _ no (s1 _ _ ho), T.cls_Roads, T.noat_Roads_size, rfl, _, _, rfl, rfl, ?_⟩
    have e : ((m + i : Nat) : Int) - (m : Int) = (i : Int) := by omega
    show Q (V.int (((m + i : Nat) : Int) - (m : Int))) H2
    rw [e]
    exact q H2 ((Offs.of s1).trans o2) kt2
def spTieIn : Sp := fun vs H Q _ => ∃ (o dx rl ld k tl : Addr) (m r i mm : Nat) (c : Int) (s s' : Shp) (rr : List Addr) (R : Lk.Rows), vs = [.ref o, .int i] ∧ H o = some (.ins (cR K) dx (rFs m r rl ld k c)) ∧ o ∉ [k, tl] ∧ H rl = some (.lst (rr.map V.ref)) ∧ TieAt H rr R ∧ i < R.length ∧ KtS K H k tl s mm ∧ mm ≤ 70000 ∧ Wf s ∧ s.length ≤ 64 ∧
  m + i < s.length ∧ (tie R i).a < s.length ∧ (tie R i).b < s.length ∧ TieIn (m + i) (tie R i).a (tie R i).b (key R i) s s' ∧ ∀ H', Offs [k, tl] H H' → KtS K H' k tl s' (mm + 24) → Q .non H'
theorem sc_Roads_tieIn : FnScope ["self", "number", "one", "other", "weight", "node"] ["self", "number"] (defScope s_Roads_tie_in) := ⟨rfl, rfl, rfl, by decide +kernel, rfl, by decide +kernel, by decide +kernel⟩
theorem ok_Roads_tieIn (T : Txt w K mg) : OkM P w K mg base 14 "Roads" "tie_in" ["self", "number"] (spTieIn (K := K)) := by
  obtain ⟨fD, dD, GD, mD, cD, bD⟩ := (ok_Kept_deed (P := P) (base := base) T).ex
  refine okm T.meth_Roads_tie_in T.cls_Roads T.fn_Roads_tie_in sc_Roads_tieIn (fun _ _ _ _ _ _ us hl => match us, hl with | [_, _], _ => rfl) (fun vs H Q E h => ?_) (fun cdv A outer s H vs Q E hr h => ?_)
  · obtain ⟨o, dx, rl, ld, k, tl, m, r, i, mm, c, s, s', rr, R, rfl, _⟩ := h; rfl
  · obtain ⟨o, dx, rl, ld, k, tl, m, r, i, mm, c, s, s', rr, R, rfl, ho, no, hrl, ta, hi, kt, hm, wf, l64, hn, ha, hb, ⟨s2, s3, s4, e1, e2, e3, e4⟩, q⟩ := h
    refine ⟨_, (pss_cons (ps_asg (pe_ix ix_list (pe_fld (pv 0) (by rfl)) (pv 1) (fun _ _ => rfl)) (pg_tup rfl (pgs_cons (pg_name (i := 2) sc_Roads_tieIn.nd rfl (.inl rfl)) (pgs_cons (pg_name (i := 3) sc_Roads_tieIn.nd rfl (.inl rfl)) (pgs_cons (pg_name (i := 4) sc_Roads_tieIn.nd rfl (.inl rfl)) pgs_nil))))) (pss_cons (ps_set (i := 5) sc_Roads_tieIn.nd rfl (.inl rfl) (pe_op op_add (pe_fld (pv 0) (by rfl)) (pv 1))) (pss_cons (ps_expr (pe_meth (pe_fld (pv 0) (by rfl)) cD mD GD hr bD .nil pass0 (pa_cons (pe_tup (pa_cons pe_str (pa_cons (pv 5) (pa_cons (pe_op op_add (pe_op op_mul (pv 4) (gi T.int_STEP)) (pv 1)) pa_nil)))) pa_nil))) (pss_cons (ps_expr (pe_meth (pe_fld (pv 0) (by rfl)) cD mD GD hr bD .nil pass0 (pa_cons (pe_tup (pa_cons pe_str (pa_cons (pv 2) pa_nil))) pa_nil))) (pss_cons (ps_expr (pe_meth (pe_fld (pv 0) (by rfl)) cD mD GD hr bD .nil pass0 (pa_cons (pe_tup (pa_cons pe_str (pa_cons (pv 2) (pa_cons (pv 5) pa_nil)))) pa_nil))) (pss_one (ps_expr (pe_meth (pe_fld (pv 0) (by rfl)) cD mD GD hr bD .nil pass0 (pa_cons (pe_tup (pa_cons pe_str (pa_cons (pv 5) (pa_cons (pv 3) pa_nil)))) pa_nil))))))))), ?_⟩
    obtain ⟨p, hp, hpt⟩ := ta.get hi
    refine ⟨_, rfl, o, _, dx, _, _, rfl, ho, T.cls_Roads, T.noat_Roads_rows, rfl, _, rfl, _, _, _, .ref p, rfl, rfl, SqL.of hrl, atI_nat (by rw [List.getElem?_map, hp]; rfl), ?_⟩
    refine ⟨p, _, rfl, SqT.of hpt, rfl, _, _, rfl, _, _, rfl, _, _, rfl, rfl, ?_⟩
    refine ⟨_, rfl, o, _, dx, _, _, rfl, ho, T.cls_Roads, T.noat_Roads_size, rfl, _, rfl, _, _, rfl, rfl, ?_⟩
    have en : ((m : Nat) : Int) + ((i : Nat) : Int) = ((m + i : Nat) : Int) := by omega
    show tSeq _ _ _ [some (.ref o), some (.int i), some (nI (tie R i).a), some (nI (tie R i).b), some (.int (tie R i).w), some (.int (((m : Nat) : Int) + ((i : Nat) : Int)))] H
    rw [en]
    have l1 := dd_wf (D := .put (m + i) (key R i)) e1
    have w1 := dd_Wf (D := .put (m + i) (key R i)) e1 wf (by simp [Dd.hs]; omega)
    have l2 := dd_wf (D := .turn (tie R i).a) e2
    have w2 := dd_Wf (D := .turn (tie R i).a) e2 w1 (by simp [Dd.hs]; omega)
    have l3 := dd_wf (D := .link (tie R i).a (m + i)) e3
    have w3 := dd_Wf (D := .link (tie R i).a (m + i)) e3 w2 (by simp [Dd.hs]; omega)
    obtain ⟨kdx, ka, kz, kn, kps, hk, _⟩ := kt.ins
    refine ⟨_, rfl, o, _, dx, _, _, rfl, ho, T.cls_Roads, T.noat_Roads_web, rfl, k, kdx, _, rfl, hk, rfl, ?_⟩
    refine ⟨_, rfl, _, rfl, _, _, rfl, rfl, .inr ⟨by decide, by decide⟩, _, rfl, _, _, rfl, rfl, by show 3 ≤ sizeLine; decide, fun d nd => ?_⟩
    refine ⟨k, tl, d, s, s2, .put (m + i) (key R i), mm, rfl, kt.same (same_upd nd), upd_same, by omega, wf, l64, (by simp [Dd.hs]; omega), e1, fun H1 o1' kt1 => ?_⟩
    have o1 := (Offs.of (same_upd nd)).trans o1'
    have ho1 := o1 _ _ no ho
    obtain ⟨kdx1, ka1, kz1, kn1, kps1, hk1, _⟩ := kt1.ins
    refine ⟨_, rfl, o, _, dx, _, _, rfl, ho1, T.cls_Roads, T.noat_Roads_web, rfl, k, kdx1, _, rfl, hk1, rfl, ?_⟩
    refine ⟨_, rfl, by show 2 ≤ sizeLine; decide, fun d nd => ?_⟩
    refine ⟨k, tl, d, s2, s3, .turn (tie R i).a, mm + 6, rfl, kt1.same (same_upd nd), upd_same, by omega, w1, by omega, (by simp [Dd.hs]; omega), e2, fun H2 o2' kt2 => ?_⟩
    have o2 := (Offs.of (same_upd nd)).trans o2'
    have ho2 := o2 _ _ no ho1
    obtain ⟨kdx2, ka2, kz2, kn2, kps2, hk2, _⟩ := kt2.ins
    refine ⟨_, rfl, o, _, dx, _, _, rfl, ho2, T.cls_Roads, T.noat_Roads_web, rfl, k, kdx2, _, rfl, hk2, rfl, ?_⟩
    refine ⟨_, rfl, _, rfl, by show 3 ≤ sizeLine; decide, fun d nd => ?_⟩
    refine ⟨k, tl, d, s3, s4, .link (tie R i).a (m + i), mm + 6 + 6, rfl, kt2.same (same_upd nd), upd_same, by omega, w2, by omega, (by simp [Dd.hs]; omega), e3, fun H3 o3' kt3 => ?_⟩
    have o3 := (Offs.of (same_upd nd)).trans o3'
    have ho3 := o3 _ _ no ho2
    obtain ⟨kdx3, ka3, kz3, kn3, kps3, hk3, _⟩ := kt3.ins
    refine ⟨_, rfl, o, _, dx, _, _, rfl, ho3, T.cls_Roads, T.noat_Roads_web, rfl, k, kdx3, _, rfl, hk3, rfl, ?_⟩
    refine ⟨_, rfl, _, rfl, by show 3 ≤ sizeLine; decide, fun d nd => ?_⟩
    refine ⟨k, tl, d, s4, s', .link (m + i) (tie R i).b, mm + 6 + 6 + 6, rfl, kt3.same (same_upd nd), upd_same, by omega, w3, by omega, (by simp [Dd.hs]; omega), e4, fun H4 o4' kt4 => ?_⟩
    have o4 := (Offs.of (same_upd nd)).trans o4'
    exact q H4 (((o1.trans o2).trans o3).trans o4) (kt4.mono (by omega))
end
end G3
set_option Elab.async false
set_option linter.all false
set_option maxRecDepth 100000
set_option maxHeartbeats 4000000
/-! Roads: settling in, coming. -/
namespace G3
open PySem PySem.Spec PyProof.Rows L2
open Lk (Part g isSon handOn flip setUp setSon setVal Wf PIn In Forests Reach FoundRoot TurnAbout DPut DLink DCut AJoin AWhere Tie tie key TieIn TieOut Settle RS KeptP)
section
variable {P : Program} {w : World} {K : PySem.W.Frag} {mg : Str → Option Value} {base : Heap}
def spTieOut : Sp := fun vs H Q _ => ∃ (o dx rl ld k tl : Addr) (m r i mm : Nat) (c : Int) (s s' : Shp) (rr : List Addr) (R : Lk.Rows), vs = [.ref o, .int i] ∧ H o = some (.ins (cR K) dx (rFs m r rl ld k c)) ∧ o ∉ [k, tl] ∧ H rl = some (.lst (rr.map V.ref)) ∧ TieAt H rr R ∧ i < R.length ∧ KtS K H k tl s mm ∧ mm ≤ 70000 ∧ Wf s ∧ s.length ≤ 64 ∧
  m + i < s.length ∧ (tie R i).a < s.length ∧ (tie R i).b < s.length ∧ TieOut (m + i) (tie R i).a (tie R i).b s s' ∧ ∀ H', Offs [k, tl] H H' → KtS K H' k tl s' (mm + 18) → Q .non H'
theorem sc_Roads_tieOut : FnScope ["self", "number", "one", "other", "weight"] ["self", "number"] (defScope s_Roads_tie_out) := ⟨rfl, rfl, rfl, by decide +kernel, rfl, by decide +kernel, by decide +kernel⟩
theorem ok_Roads_tieOut (T : Txt w K mg) : OkM P w K mg base 14 "Roads" "tie_out" ["self", "number"] (spTieOut (K := K)) := by
  obtain ⟨fD, dD, GD, mD, cD, bD⟩ := (ok_Kept_deed (P := P) (base := base) T).ex
  refine okm T.meth_Roads_tie_out T.cls_Roads T.fn_Roads_tie_out sc_Roads_tieOut (fun _ _ _ _ _ _ us hl => match us, hl with | [_, _], _ => rfl) (fun vs H Q E h => ?_) (fun cdv A outer s H vs Q E hr h => ?_)
  · obtain ⟨o, dx, rl, ld, k, tl, m, r, i, mm, c, s, s', rr, R, rfl, _⟩ := h; rfl
  · obtain ⟨o, dx, rl, ld, k, tl, m, r, i, mm, c, s, s', rr, R, rfl, ho, no, hrl, ta, hi, kt, hm, wf, l64, hn, ha, hb, ⟨s1, s2, e1, e2, e3⟩, q⟩ := h
    refine ⟨_, (pss_cons (ps_asg (pe_ix ix_list (pe_fld (pv 0) (by rfl)) (pv 1) (fun _ _ => rfl)) (pg_tup rfl (pgs_cons (pg_name (i := 2) sc_Roads_tieOut.nd rfl (.inl rfl)) (pgs_cons (pg_name (i := 3) sc_Roads_tieOut.nd rfl (.inl rfl)) (pgs_cons (pg_name (i := 4) sc_Roads_tieOut.nd rfl (.inl rfl)) pgs_nil))))) (pss_cons (ps_expr (pe_meth (pe_fld (pv 0) (by rfl)) cD mD GD hr bD .nil pass0 (pa_cons (pe_tup (pa_cons pe_str (pa_cons (pe_op op_add (pe_fld (pv 0) (by rfl)) (pv 1)) pa_nil))) pa_nil))) (pss_cons (ps_expr (pe_meth (pe_fld (pv 0) (by rfl)) cD mD GD hr bD .nil pass0 (pa_cons (pe_tup (pa_cons pe_str (pa_cons (pv 2) pa_nil))) pa_nil))) (pss_one (ps_expr (pe_meth (pe_fld (pv 0) (by rfl)) cD mD GD hr bD .nil pass0 (pa_cons (pe_tup (pa_cons pe_str (pa_cons (pv 3) pa_nil))) pa_nil))))))), ?_⟩
    obtain ⟨p, hp, hpt⟩ := ta.get hi
    generalize tie R i = t at ha hb e1 e2 e3 hpt
    refine ⟨_, rfl, o, _, dx, _, _, rfl, ho, T.cls_Roads, T.noat_Roads_rows, rfl, _, rfl, _, _, _, .ref p, rfl, rfl, SqL.of hrl, atI_nat (by rw [List.getElem?_map, hp]; rfl), ?_⟩
    refine ⟨p, _, rfl, SqT.of hpt, rfl, _, _, rfl, _, _, rfl, _, _, rfl, rfl, ?_⟩
    have en : ((m : Nat) : Int) + ((i : Nat) : Int) = ((m + i : Nat) : Int) := by omega
    have l1 := dd_wf (D := .turn (m + i)) e1
    have i1 : ∀ h ∈ (Dd.turn (m + i)).hs, h < s.length := fun h q => by rw [List.mem_singleton.mp q]; exact hn
    have w1 := dd_Wf (D := .turn (m + i)) e1 wf i1
    have l2 := dd_wf (D := .cut t.a) e2
    have i2 : ∀ h ∈ (Dd.cut t.a).hs, h < s1.length := fun h q => by rw [List.mem_singleton.mp q]; omega
    have w2 := dd_Wf (D := .cut t.a) e2 w1 i2
    have i3 : ∀ h ∈ (Dd.cut t.b).hs, h < s2.length := fun h q => by rw [List.mem_singleton.mp q]; omega
    obtain ⟨kdx, ka, kz, kn, kps, hk, _⟩ := kt.ins
    refine ⟨_, rfl, o, _, dx, _, _, rfl, ho, T.cls_Roads, T.noat_Roads_web, rfl, k, kdx, _, rfl, hk, rfl, ?_⟩
    refine ⟨_, rfl, o, _, dx, _, _, rfl, ho, T.cls_Roads, T.noat_Roads_size, rfl, _, rfl, _, _, rfl, rfl, by show 2 ≤ sizeLine; decide, fun d nd => ?_⟩
    refine ⟨k, tl, d, s, s1, .turn (m + i), mm, rfl, kt.same (same_upd nd), upd_same, by omega, wf, l64, i1, e1, fun H1 o1' kt1 => ?_⟩
    have o1 := (Offs.of (same_upd nd)).trans o1'
    have ho1 := o1 _ _ no ho
    obtain ⟨kdx1, ka1, kz1, kn1, kps1, hk1, _⟩ := kt1.ins
    refine ⟨_, rfl, o, _, dx, _, _, rfl, ho1, T.cls_Roads, T.noat_Roads_web, rfl, k, kdx1, _, rfl, hk1, rfl, ?_⟩
    refine ⟨_, rfl, by show 2 ≤ sizeLine; decide, fun d nd => ?_⟩
    refine ⟨k, tl, d, s1, s2, .cut t.a, mm + 6, rfl, kt1.same (same_upd nd), upd_same, by omega, w1, by omega, i2, e2, fun H2 o2' kt2 => ?_⟩
    have o2 := (Offs.of (same_upd nd)).trans o2'
    have ho2 := o2 _ _ no ho1
    obtain ⟨kdx2, ka2, kz2, kn2, kps2, hk2, _⟩ := kt2.ins
    refine ⟨_, rfl, o, _, dx, _, _, rfl, ho2, T.cls_Roads, T.noat_Roads_web, rfl, k, kdx2, _, rfl, hk2, rfl, ?_⟩
    refine ⟨_, rfl, by show 2 ≤ sizeLine; decide, fun d nd => ?_⟩
    refine ⟨k, tl, d, s2, s', .cut t.b, mm + 6 + 6, rfl, kt2.same (same_upd nd), upd_same, by omega, w2, by omega, i3, e3, fun H3 o3' kt3 => ?_⟩
    have o3 := (Offs.of (same_upd nd)).trans o3'
    exact q H3 ((o1.trans o2).trans o3) (kt3.mono (by omega))
theorem lex2 {a b c d : Int} : HT.lexLt [a, b] [c, d] = decide (a < c ∨ (a = c ∧ b < d)) := by
  rw [HT.lexLt_cons, HT.lexLt_cons, HT.lexLt_nil_nil]
  by_cases h : a = c
  · rw [if_pos h]
    by_cases h2 : b = d
    · rw [if_pos h2]; exact (decide_eq_false (by omega)).symm
    · rw [if_neg h2]; exact decide_eq_decide.mpr (by omega)
  · rw [if_neg h]; exact decide_eq_decide.mpr (by omega)
theorem lex_key {R : Lk.Rows} {i j : Nat} (hi : i < 64) (hj : j < 64) : HT.lexLt [(tie R j).w, (j : Int)] [(tie R i).w, (i : Int)] = decide (key R j < key R i) := by
  rw [lex2]
  refine decide_eq_decide.mpr ?_
  unfold key
  omega
def outV : Option Nat → V
  | none => .non
  | some j => nI j
def spSettle : Sp := fun vs H Q _ => ∃ (o dx rl ld k tl : Addr) (m r i mm : Nat) (c : Int) (s s' : Shp) (rr : List Addr) (R : Lk.Rows) (out : Option Nat), vs = [.ref o, .int i] ∧ H o = some (.ins (cR K) dx (rFs m r rl ld k c)) ∧ o ∉ [k, tl] ∧ rl ∉ [k, tl] ∧ H rl = some (.lst (rr.map V.ref)) ∧ TieAt H rr R ∧ i < R.length ∧ KtS K H k tl s mm ∧ mm ≤ 60000 ∧ Wf s ∧ s.length ≤ 64 ∧
  R.length ≤ 64 ∧ (∀ j, j < R.length → m + j < s.length ∧ (tie R j).a < s.length ∧ (tie R j).b < s.length) ∧ Settle m R i s s' out ∧ ∀ H', Offs [k, tl] H H' → KtS K H' k tl s' (mm + 58) → Q (outV out) H'
theorem sc_Roads_settle : FnScope ["self", "number", "one", "other", "weight", "heavy"] ["self", "number"] (defScope s_Roads_settle_in) := ⟨rfl, rfl, rfl, by decide +kernel, rfl, by decide +kernel, by decide +kernel⟩
theorem ok_Roads_settle (T : Txt w K mg) : OkM P w K mg base 72 "Roads" "settle_in" ["self", "number"] (spSettle (K := K)) := by
  obtain ⟨fT, dT, GT, mT, cT, bT⟩ := (ok_Roads_tied (P := P) (base := base) T).ex
  obtain ⟨fG, dG, GG, mG, cG, bG⟩ := (ok_Roads_great (P := P) (base := base) T).ex
  obtain ⟨fI, dI, GI, mI, cI, bI⟩ := (ok_Roads_tieIn (P := P) (base := base) T).ex
  obtain ⟨fO, dO, GO, mO, cO, bO⟩ := (ok_Roads_tieOut (P := P) (base := base) T).ex
  refine okm T.meth_Roads_settle_in T.cls_Roads T.fn_Roads_settle_in sc_Roads_settle (fun _ _ _ _ _ _ us hl => match us, hl with | [_, _], _ => rfl) (fun vs H Q E h => ?_) (fun cdv A outer s H vs Q E hr h => ?_)
  · obtain ⟨o, dx, rl, ld, k, tl, m, r, i, mm, c, s, s', rr, R, out, rfl, _⟩ := h; rfl
  · obtain ⟨o, dx, rl, ld, k, tl, m, r, i, mm, c, s, s', rr, R, out, rfl, ho, no, nrl, hrl, ta, hi, kt, hm, wf, l64, R64, hall, st, q⟩ := h
    have hr14 : Room 14 _ := hr.mono (by decide)
    have hu : (A.deeper (envOfC "Roads.settle_in" (defScope s_Roads_settle_in) _ (He.ma K (cR K) "settle_in") cdv)).units < cLine := hr.units0
    refine ⟨_, (pss_cons (ps_asg (pe_ix ix_list (pe_fld (pv 0) (by rfl)) (pv 1) (fun _ _ => rfl)) (pg_tup rfl (pgs_cons (pg_name (i := 2) sc_Roads_settle.nd rfl (.inl rfl)) (pgs_cons (pg_name (i := 3) sc_Roads_settle.nd rfl (.inl rfl)) (pgs_cons (pg_name (i := 4) sc_Roads_settle.nd rfl (.inl rfl)) pgs_nil))))) (pss_cons (ps_if (pt_not (pt_val (pe_meth (pv 0) cT mT GT hr bT .nil pass0 (pa_cons (pv 2) (pa_cons (pv 3) pa_nil))))) (pss_cons (ps_expr (pe_meth (pv 0) cI mI GI hr14 bI .nil pass0 (pa_cons (pv 1) pa_nil))) (pss_one (ps_ret pe_non))) pss_nil) (pss_cons (ps_set (i := 5) sc_Roads_settle.nd rfl (.inl rfl) (pe_meth (pv 0) cG mG GG hr bG .nil pass0 (pa_cons (pv 2) (pa_cons (pv 3) pa_nil)))) (pss_cons (ps_if (pt_cmpR (op_ltT hu) (pe_tup (pa_cons (pe_ix ix_tup (pe_ix ix_list (pe_fld (pv 0) (by rfl)) (pv 5) (fun _ _ => rfl)) pe_int (fun _ _ => rfl)) (pa_cons (pv 5) pa_nil))) (pe_tup (pa_cons (pv 4) (pa_cons (pv 1) pa_nil))) (nomark _)) (pss_one (ps_ret (pv 1))) pss_nil) (pss_cons (ps_expr (pe_meth (pv 0) cO mO GO hr14 bO .nil pass0 (pa_cons (pv 5) pa_nil))) (pss_cons (ps_expr (pe_meth (pv 0) cI mI GI hr14 bI .nil pass0 (pa_cons (pv 1) pa_nil))) (pss_one (ps_ret (pv 5))))))))), ?_⟩
    obtain ⟨p, hp, hpt⟩ := ta.get hi
    obtain ⟨hmi, hai, hbi⟩ := hall i hi
    obtain ⟨kdx, ka, kz, kn, kps, hk, ksh, ktl, kne, nt, _⟩ := kt.ins
    have hpi : (rr.map V.ref)[i]? = some (.ref p) := by rw [List.getElem?_map, hp]; rfl
    refine ⟨_, rfl, o, _, dx, _, _, rfl, ho, T.cls_Roads, T.noat_Roads_rows, rfl, _, rfl, _, _, _, .ref p, rfl, rfl, SqL.of hrl, atI_nat hpi, ?_⟩
    refine ⟨p, _, rfl, SqT.of hpt, rfl, _, _, rfl, _, _, rfl, _, _, rfl, rfl, ?_⟩
    -- what goes on behind a join that says yes
    cases st with
    | @new s1 jn ti =>
      obtain ⟨w1, l1⟩ := join_wf jn wf hai hbi
      refine ⟨_, rfl, o, dx, _, rfl, ho, rfl, _, rfl, _, rfl, ?_⟩
      refine ⟨o, dx, rl, ld, k, tl, m, r, (tie R i).a, (tie R i).b, mm, c, s, s1, false, rfl, ho, kt, by omega, wf, l64, hai, hbi, jn, fun H1 o1 kt1 => ⟨_, rfl, iteT ?_⟩⟩
      have ho1 := o1 _ _ no ho
      have hrl1 := o1 _ _ nrl hrl
      refine ⟨_, rfl, o, dx, _, rfl, ho1, rfl, _, rfl, ?_⟩
      refine ⟨o, dx, rl, ld, k, tl, m, r, i, mm + 8, c, s1, s', rr, R, rfl, ho1, no, hrl1, ta.offs o1 nt, hi, kt1, by omega, w1, by omega, by omega, by omega, by omega, ti, fun H2 o2 kt2 => ?_⟩
      exact q H2 (o1.trans o2) (kt2.mono (by omega))
    | @self s1 j jn wh hj hlt =>
      obtain ⟨w1, l1⟩ := join_wf jn wf hai hbi
      refine ⟨_, rfl, o, dx, _, rfl, ho, rfl, _, rfl, _, rfl, ?_⟩
      refine ⟨o, dx, rl, ld, k, tl, m, r, (tie R i).a, (tie R i).b, mm, c, s, s1, true, rfl, ho, kt, by omega, wf, l64, hai, hbi, jn, fun H1 o1 kt1 => ⟨_, rfl, iteF ?_⟩⟩
      have ho1 := o1 _ _ no ho
      have hrl1 := o1 _ _ nrl hrl
      have ta1 := ta.offs o1 nt
      obtain ⟨kdx1, ka1, kz1, kn1, kps1, hk1, ksh1, ktl1, kne1, nt1, _⟩ := kt1.ins
      refine ⟨_, rfl, o, dx, _, rfl, ho1, rfl, _, rfl, _, rfl, ?_⟩
      refine ⟨o, dx, rl, ld, k, tl, m, r, (tie R i).a, (tie R i).b, mm + 8, j, c, s1, s', rfl, ho1, no, kt1, by omega, w1, by omega, by omega, by omega, wh, fun H2 o2 kt2 => ?_⟩
      have ho2 := o2 _ _ no ho1
      have hrl2 := o2 _ _ nrl hrl1
      have ta2 := ta1.offs o2 nt1
      obtain ⟨pj, hpj, hpjt⟩ := ta2.get (show j < R.length by omega)
      have hpji : (rr.map V.ref)[j]? = some (.ref pj) := by rw [List.getElem?_map, hpj]; rfl
      refine ⟨_, rfl, o, _, dx, _, _, rfl, ho2, T.cls_Roads, T.noat_Roads_rows, rfl, _, rfl, _, _, _, .ref pj, rfl, rfl, SqL.of hrl2, atI_nat hpji, _, _, _, _, rfl, rfl, SqT.of (hpjt),  rfl, _, rfl, by show 2 ≤ sizeLine; decide, fun t1 n1 => ?_⟩
      have s3 := same_upd (o := .tup [V.int (tie R j).w, nI j]) n1
      refine ⟨_, rfl, _, rfl, by show 2 ≤ sizeLine; decide, fun t2 n2 => ?_⟩
      have s4 := same_upd (o := .tup [V.int (tie R i).w, nI i]) n2
      refine ⟨t1, t2, [(tie R j).w, (j : Int)], [(tie R i).w, (i : Int)], rfl, rfl, SqT.of (s4 _ _ upd_same), SqT.of upd_same, _, rfl, ?_⟩
      rw [lex_key (by omega) (by omega), decide_eq_true hlt]
      exact iteT ⟨_, rfl, q _ ((o1.trans o2).same (s3.trans s4)) ((kt2.same (s3.trans s4)).mono (by omega))⟩
    | @other s1 s2 s3' j jn wh hj hlt to ti =>
      obtain ⟨w1, l1⟩ := join_wf jn wf hai hbi
      refine ⟨_, rfl, o, dx, _, rfl, ho, rfl, _, rfl, _, rfl, ?_⟩
      refine ⟨o, dx, rl, ld, k, tl, m, r, (tie R i).a, (tie R i).b, mm, c, s, s1, true, rfl, ho, kt, by omega, wf, l64, hai, hbi, jn, fun H1 o1 kt1 => ⟨_, rfl, iteF ?_⟩⟩
      have ho1 := o1 _ _ no ho
      have hrl1 := o1 _ _ nrl hrl
      have ta1 := ta.offs o1 nt
      obtain ⟨kdx1, ka1, kz1, kn1, kps1, hk1, ksh1, ktl1, kne1, nt1, _⟩ := kt1.ins
      refine ⟨_, rfl, o, dx, _, rfl, ho1, rfl, _, rfl, _, rfl, ?_⟩
      refine ⟨o, dx, rl, ld, k, tl, m, r, (tie R i).a, (tie R i).b, mm + 8, j, c, s1, s2, rfl, ho1, no, kt1, by omega, w1, by omega, by omega, by omega, wh, fun H2 o2 kt2 => ?_⟩
      obtain ⟨w2, l2, _⟩ := where_wf wh w1 (by omega) (by omega)
      have ho2 := o2 _ _ no ho1
      have hrl2 := o2 _ _ nrl hrl1
      have ta2 := ta1.offs o2 nt1
      have jR : j < R.length := by omega
      obtain ⟨pj, hpj, hpjt⟩ := ta2.get jR
      have hpji : (rr.map V.ref)[j]? = some (.ref pj) := by rw [List.getElem?_map, hpj]; rfl
      refine ⟨_, rfl, o, _, dx, _, _, rfl, ho2, T.cls_Roads, T.noat_Roads_rows, rfl, _, rfl, _, _, _, .ref pj, rfl, rfl, SqL.of hrl2, atI_nat hpji, _, _, _, _, rfl, rfl, SqT.of (hpjt),  rfl, _, rfl, by show 2 ≤ sizeLine; decide, fun t1 n1 => ?_⟩
      have s3 := same_upd (o := .tup [V.int (tie R j).w, nI j]) n1
      refine ⟨_, rfl, _, rfl, by show 2 ≤ sizeLine; decide, fun t2 n2 => ?_⟩
      have s4 := same_upd (o := .tup [V.int (tie R i).w, nI i]) n2
      refine ⟨t1, t2, [(tie R j).w, (j : Int)], [(tie R i).w, (i : Int)], rfl, rfl, SqT.of (s4 _ _ upd_same), SqT.of upd_same, _, rfl, ?_⟩
      rw [lex_key (by omega) (by omega), decide_eq_false hlt]
      have s34 := s3.trans s4
      have kt4 := kt2.same s34
      obtain ⟨kdx4, ka4, kz4, kn4, kps4, hk4, ksh4, ktl4, kne4, nt4, _⟩ := kt4.ins
      have ho4 := s34 _ _ ho2
      have hrl4 := s34 _ _ hrl2
      have ta4 := ta2.same s34
      obtain ⟨hmj, haj, hbj⟩ := hall j jR
      refine iteF ⟨_, rfl, o, dx, _, rfl, ho4, rfl, _, rfl, ?_⟩
      refine ⟨o, dx, rl, ld, k, tl, m, r, j, mm + 8 + 8, c, s2, s3', rr, R, rfl, ho4, no, hrl4, ta4, jR, kt4, by omega, w2, by omega, by omega, by omega, by omega, to, fun H5 o5 kt5 => ?_⟩
      have ho5 := o5 _ _ no ho4
      have hrl5 := o5 _ _ nrl hrl4
      have ta5 := ta4.offs o5 nt4
      obtain ⟨u1, u2, d1, d2, d3⟩ := to
      have i1 : ∀ h ∈ (Dd.turn (m + j)).hs, h < s2.length := fun h q => by rw [List.mem_singleton.mp q]; omega
      have l3 := dd_wf (D := .turn (m + j)) d1
      have w3 := dd_Wf (D := .turn (m + j)) d1 w2 i1
      have i2 : ∀ h ∈ (Dd.cut (tie R j).a).hs, h < u1.length := fun h q => by rw [List.mem_singleton.mp q]; omega
      have l4 := dd_wf (D := .cut (tie R j).a) d2
      have w4 := dd_Wf (D := .cut (tie R j).a) d2 w3 i2
      have i3 : ∀ h ∈ (Dd.cut (tie R j).b).hs, h < u2.length := fun h q => by rw [List.mem_singleton.mp q]; omega
      have l5 := dd_wf (D := .cut (tie R j).b) d3
      have w5 := dd_Wf (D := .cut (tie R j).b) d3 w4 i3
      refine ⟨_, rfl, o, dx, _, rfl, ho5, rfl, _, rfl, ?_⟩
      refine ⟨o, dx, rl, ld, k, tl, m, r, i, mm + 8 + 8 + 18, c, s3', s', rr, R, rfl, ho5, no, hrl5, ta5, hi, kt5, by omega, w5, by omega, by omega, by omega, by omega, ti, fun H6 o6 kt6 => ?_⟩
      exact ⟨_, rfl, q H6 ((((o1.trans o2).same s34).trans o5).trans o6) (kt6.mono (by omega))⟩
end
end G3
set_option Elab.async false
set_option linter.all false
set_option maxRecDepth 100000
set_option maxHeartbeats 4000000
/-! Roads: one tie comes. -/
namespace G3
open PySem PySem.Spec PyProof.Rows L2
open Lk (Part g isSon Wf PIn In Forests Tie tie key TieIn TieOut Settle RS KeptP)
def LeftOk (kvs : List (Key × V)) (R : Lk.Rows) : Prop := ∀ i : Nat, valV kvs (.inl (i : Int)) = none ↔ KeptP R i ∨ R.length ≤ i
/-- the roads at o -/
def RdS (K : PySem.W.Frag) (H : Hp) (o rl ld k tl : Addr) (m r : Nat) (R : Lk.Rows) (c : Int) (mm : Nat) : Prop := ∃ (dx : Addr) (rr : List Addr) (kvs : List (Key × V)) (s : Shp), H o = some (.ins (cR K) dx (rFs m r rl ld k c)) ∧ H rl = some (.lst (rr.map V.ref)) ∧ TieAt H rr R ∧ H ld = some (.dK kvs) ∧ kvs.length ≤ R.length ∧ LeftOk kvs R ∧ KtS K H k tl s mm ∧ RS m (m + r) R (KeptP R) s ∧ o ∉ [k, tl] ∧ rl ∉ [k, tl]
theorem putK_len {kvs : List (Key × V)} {k : Key} {v : V} : (putK kvs k v).length ≤ kvs.length + 1 := by
  unfold putK
  split <;> simp
theorem RS.wf {m n : Nat} {R : Lk.Rows} {X : Nat → Prop} {s : Shp} (h : RS m n R X s) : Forests s := by
  obtain ⟨par, d, A, T, _⟩ := h.web
  have := h.len
  exact Lk.forests_ok A h.n64 this T
theorem RS.kept_ {m n : Nat} {R : Lk.Rows} {X : Nat → Prop} {s : Shp} (h : RS m n R X s) : RS m n R (KeptP R) s := by
  have e : X = KeptP R := funext fun i => propext (h.kept i)
  rw [← e]; exact h
theorem left_next {kvs : List (Key × V)} {R : Lk.Rows} {t : Tie} {out : Option Nat} (l : LeftOk kvs R) (hk : ∀ i, ((KeptP R i ∨ i = R.length) ∧ out ≠ some i) ↔ KeptP (R ++ [t]) i) (hout : ∀ i, out = some i → i ≤ R.length) :
    (out = none → LeftOk kvs (R ++ [t])) ∧ ∀ j v, out = some j → LeftOk (putK kvs (.inl (j : Int)) v) (R ++ [t]) := by
  have lR : (R ++ [t]).length = R.length + 1 := by simp
  have kl : ∀ i, KeptP R i → i < R.length := fun i h => h.1
  constructor
  · intro e i
    rw [l i, ← hk i, e, lR]
    constructor
    · rintro (h | h)
      · exact .inl ⟨.inl h, by simp⟩
      · by_cases q : i = R.length
        · exact .inl ⟨.inr q, by simp⟩
        · exact .inr (by omega)
    · rintro (⟨h | h, _⟩ | h)
      · exact .inl h
      · exact .inr (by omega)
      · exact .inr (by omega)
  · intro j v e i
    have jl := hout j e
    rw [valV_put, ← hk i, e, lR]
    by_cases q : i = j
    · subst q
      rw [if_pos rfl]
      constructor
      · intro z; cases z
      · rintro (⟨_, h⟩ | h)
        · exact absurd rfl h
        · omega
    · rw [if_neg (fun z => q (by injection z with z; omega)), l i]
      have q' : some j ≠ some i := fun z => q (Option.some.inj z).symm
      constructor
      · rintro (h | h)
        · exact .inl ⟨.inl h, q'⟩
        · by_cases z : i = R.length
          · exact .inl ⟨.inr z, q'⟩
          · exact .inr (by omega)
      · rintro (⟨h | h, _⟩ | h)
        · exact .inl h
        · exact .inr (by omega)
        · exact .inr (by omega)
theorem TieAt.snoc {H : Hp} {rr : List Addr} {R : Lk.Rows} {p : Addr} {t : Tie} (h : TieAt H rr R) (e : H p = some (.tup [nI t.a, nI t.b, .int t.w])) : TieAt H (rr ++ [p]) (R ++ [t]) := by
  refine ⟨by simp [h.len], fun i q u h1 h2 => ?_⟩
  by_cases il : i < rr.length
  · rw [List.getElem?_append_left il] at h1
    rw [List.getElem?_append_left (by rw [← h.len]; exact il)] at h2
    exact h.at_ i q u h1 h2
  · have := (List.getElem?_eq_some_iff.mp h1).1
    rw [List.length_append, List.length_singleton] at this
    obtain rfl : i = rr.length := by omega
    rw [List.getElem?_append_right (Nat.le_refl _), Nat.sub_self] at h1
    rw [h.len, List.getElem?_append_right (Nat.le_refl _), Nat.sub_self] at h2
    cases h1; cases h2
    exact e
section
variable {P : Program} {w : World} {K : PySem.W.Frag} {mg : Str → Option Value} {base : Heap}
def spComeR : Sp := fun vs H Q _ => ∃ (o rl ld k tl : Addr) (m r a b mm : Nat) (R : Lk.Rows) (wt c : Int), vs = [.ref o, .int a, .int b, .int wt] ∧ RdS K H o rl ld k tl m r R c mm ∧ mm ≤ 50000 ∧ a < m ∧ b < m ∧ a ≠ b ∧ -(10 ^ 20) ≤ wt ∧ wt ≤ 10 ^ 20 ∧ R.length < r ∧
  ∀ H' v, Offs [o, rl, ld, k, tl] H H' → RdS K H' o rl ld k tl m r (R ++ [⟨a, b, wt⟩]) (c + 1) (mm + 58) → Q v H'
theorem sc_Roads_come : FnScope ["self", "one", "other", "weight", "out"] ["self", "one", "other", "weight"] (defScope s_Roads_come) := ⟨rfl, rfl, rfl, by decide +kernel, rfl, by decide +kernel, by decide +kernel⟩
theorem ok_Roads_come (T : Txt w K mg) : OkM P w K mg base 73 "Roads" "come" ["self", "one", "other", "weight"] (spComeR (K := K)) := by
  obtain ⟨fC, dC, GC, mC, cC, bC⟩ := (ok_Roads_check (P := P) (base := base) T).ex
  obtain ⟨fI, dI, GI, mI, kI, bI⟩ := (ok_is_integer (P := P) (base := base) T).ex
  obtain ⟨fS, dS, GS, mS, cS, bS⟩ := (ok_Roads_settle (P := P) (base := base) T).ex
  refine okm T.meth_Roads_come T.cls_Roads T.fn_Roads_come sc_Roads_come (fun _ _ _ _ _ _ us hl => match us, hl with | [_, _, _, _], _ => rfl) (fun vs H Q E h => ?_) (fun cdv A outer s H vs Q E hr h => ?_)
  · obtain ⟨o, rl, ld, k, tl, m, r, a, b, mm, R, wt, c, rfl, _⟩ := h; rfl
  · obtain ⟨o, rl, ld, k, tl, m, r, a, b, mm, R, wt, c, rfl, ⟨dx, rr, kvs, s, ho, hrl, ta, hld, kvl, lok, kt, rs, no, nrl⟩, hm, ha, hb, hab, w1, w2, hR, q⟩ := h
    have hr1 : Room 1 _ := hr.mono (by decide)
    have hr4 : Room 4 _ := hr.mono (by decide)
    have hu := Nat.lt_of_le_of_lt (Nat.add_le_add_left (show 1 ≤ 64 by decide) _) hr.units
    refine ⟨_, (pss_cons (ps_expr (pe_meth (pv 0) cC mC GC hr4 bC .nil pass0 (pa_cons (pv 1) pa_nil))) (pss_cons (ps_expr (pe_meth (pv 0) cC mC GC hr4 bC .nil pass0 (pa_cons (pv 2) pa_nil))) (pss_cons (ps_if (pt_cmpR op_eq (pv 1) (pv 2) (nomark _)) pss_never pss_nil) (pss_cons (ps_if (pt_not (pt_val (pe_call GI hr1 (by rfl) mI kI bI .nil pass0 (pa_cons (pv 3) pa_nil)))) pss_never pss_nil) (pss_cons (ps_if (pt_cmpR op_eq (pe_callB call_len_seq (by rfl) T.free_len PySem.boot_len (pa_cons (pe_fld (pv 0) (by rfl)) pa_nil)) (pe_fld (pv 0) (by rfl)) (nomark _)) pss_never pss_nil) (pss_cons (ps_fldaug (pv 0) pe_int in_add) (pss_cons (ps_expr (pe_bm PySem.F.plainAttrs_list PySem.F.slot_list_append PySem.F.type_list_append mt_append (pe_fld (pv 0) (by rfl)) (pa_cons (pe_tup (pa_cons (pv 1) (pa_cons (pv 2) (pa_cons (pv 3) pa_nil)))) pa_nil))) (pss_cons (ps_set (i := 4) sc_Roads_come.nd rfl (.inl rfl) (pe_meth (pv 0) cS mS GS hr bS .nil pass0 (pa_cons (pe_op op_sub (pe_callB call_len_seq (by rfl) T.free_len PySem.boot_len (pa_cons (pe_fld (pv 0) (by rfl)) pa_nil)) pe_int) pa_nil))) (pss_cons (ps_if (pt_cmpR op_notN (pv 4) pe_non (nomark _)) (pss_one (ps_dput hu (pe_fld (pv 0) (by rfl)) (pv 4) pe_bl (by rfl))) pss_nil) (pss_one (ps_ret (pv 4)))))))))))), ?_⟩
    have rlen := ta.len
    obtain ⟨kdx, ka, kz, kn, kps, hk, ksh, ktl, kne, nt, _⟩ := kt.ins
    have n64 := rs.n64
    have slen := rs.len
    -- the checks
    refine ⟨_, rfl, o, dx, _, rfl, ho, rfl, _, rfl, o, dx, rl, ld, k, m, r, a, c, rfl, ho, ha, ?_⟩
    refine ⟨_, rfl, o, dx, _, rfl, ho, rfl, _, rfl, o, dx, rl, ld, k, m, r, b, c, rfl, ho, hb, ?_⟩
    refine ⟨_, rfl, _, rfl, rfl, _, rfl, ?_⟩
    rw [show decide (V.int (a : Int) = V.int (b : Int)) = false from by rw [dec_int]; exact beq_eq_false_iff_ne.mpr (by omega)]
    refine iteF ⟨_, rfl, wt, rfl, _, rfl, iteF ?_⟩
    refine ⟨_, rfl, o, _, dx, _, _, rfl, ho, T.cls_Roads, T.noat_Roads_rows, rfl, rl, _, rfl, .inl (SqL.of hrl), _, rfl, o, _, dx, _, _, rfl, ho, T.cls_Roads, T.noat_Roads_room, rfl, rfl, _, rfl, ?_⟩
    rw [show decide (V.int ((rr.map V.ref).length : Int) = V.int (r : Int)) = false from by rw [dec_int]; exact beq_eq_false_iff_ne.mpr (by simp <;> omega)]
    -- calls, rows
    refine iteF ⟨_, rfl, o, _, dx, _, _, rfl, ho, T.cls_Roads, T.noat_Roads_calls, rfl, c, 1, rfl, rfl, dx, _, ho, (show (6 : Nat) < 1000 by decide), ?_⟩
    have orl : o ≠ rl := fun z => by rw [z, hrl] at ho; cases ho
    have old : o ≠ ld := fun z => by rw [z, hld] at ho; cases ho
    have rld : rl ≠ ld := fun z => by rw [z, hld] at hrl; cases hrl
    have o1 : Offs [o, rl] H (upd H o (.ins (cR K) dx (rFs m r rl ld k (c + 1)))) := (Offs.of (.refl _)).upd (by simp)
    have ho1 : upd H o (.ins (cR K) dx (rFs m r rl ld k (c + 1))) o = some (.ins (cR K) dx (rFs m r rl ld k (c + 1))) := upd_same
    have hrl1 : upd H o (.ins (cR K) dx (rFs m r rl ld k (c + 1))) rl = some (.lst (rr.map V.ref)) := by rw [upd_ne (Ne.symm orl)]; exact hrl
    generalize hH1 : upd H o (.ins (cR K) dx (rFs m r rl ld k (c + 1))) = H1 at o1 ho1 hrl1
    show tSeq _ _ _ _ (upd H o (.ins (cR K) dx (rFs m r rl ld k (c + 1))))
    rw [hH1]
    refine ⟨_, rfl, o, _, dx, _, _, rfl, ho1, T.cls_Roads, T.noat_Roads_rows, rfl, .inl ⟨rfl, _, SqL.of hrl1⟩, ?_⟩
    refine ⟨_, rfl, _, rfl, _, rfl, by show 3 ≤ sizeLine; decide, fun p np => ?_⟩
    have s2 := same_upd (o := .tup [V.int (a : Nat), V.int (b : Nat), V.int wt]) np
    have hp2 : upd H1 p (.tup [V.int (a : Nat), V.int (b : Nat), V.int wt]) p = some (.tup [nI a, nI b, .int wt]) := upd_same
    generalize upd H1 p (.tup [V.int (a : Nat), V.int (b : Nat), V.int wt]) = H2 at s2 hp2
    refine ⟨rl, _, _, rfl, rfl, s2 _ _ hrl1, small1000 (by simp <;> omega), ?_⟩
    have o3 : Offs [o, rl] H (upd H2 rl (.lst (rr.map V.ref ++ [.ref p]))) := (o1.same s2).upd (by simp)
    have prl : p ≠ rl := fun z => by rw [z, s2 _ _ hrl1] at hp2; cases hp2
    have ho3 : upd H2 rl (.lst (rr.map V.ref ++ [.ref p])) o = some (.ins (cR K) dx (rFs m r rl ld k (c + 1))) := by rw [upd_ne orl]; exact s2 _ _ ho1
    have hp3 : upd H2 rl (.lst (rr.map V.ref ++ [.ref p])) p = some (.tup [nI a, nI b, .int wt]) := by rw [upd_ne prl]; exact hp2
    have hrl3 : upd H2 rl (.lst (rr.map V.ref ++ [.ref p])) rl = some (.lst ((rr ++ [p]).map V.ref)) := by rw [upd_same, List.map_append]; rfl
    generalize upd H2 rl (.lst (rr.map V.ref ++ [.ref p])) = H3 at o3 ho3 hp3 hrl3
    have ntt : ∀ b ∈ [o, rl], ∀ vs, H b ≠ some (.tup vs) := fun b hb vs e => by
      rcases List.mem_cons.mp hb with z | z
      · rw [z, ho] at e; cases e
      · rw [List.mem_singleton.mp z, hrl] at e; cases e
    have kno : k ∉ [o, rl] := fun z => by
      rcases List.mem_cons.mp z with z | z
      · exact no (by simp [z])
      · exact nrl (by simp [List.mem_singleton.mp z])
    have tno : tl ∉ [o, rl] := fun z => by
      rcases List.mem_cons.mp z with z | z
      · exact no (by simp [z])
      · exact nrl (by simp [List.mem_singleton.mp z])
    have kt3 := kt.offs o3 ntt kno tno
    have ta3 : TieAt H3 (rr ++ [p]) (R ++ [⟨a, b, wt⟩]) := (ta.offs o3 ntt).snoc hp3
    have hld3 : H3 ld = some (.dK kvs) := o3 _ _ (by simp [Ne.symm old, Ne.symm rld]) hld
    obtain ⟨s', out, st, hout, rs'⟩ := Lk.settle_ok rs (t := ⟨a, b, wt⟩) ha hb hab w1 w2 (by omega)
    have lR : (R ++ [(⟨a, b, wt⟩ : Tie)]).length = R.length + 1 := by simp
    refine ⟨_, rfl, o, dx, _, rfl, ho3, rfl, ?_⟩
    refine ⟨_, rfl, o, _, dx, _, _, rfl, ho3, T.cls_Roads, T.noat_Roads_rows, rfl, rl, _, rfl, .inl (SqL.of hrl3), _, _, rfl, rfl, ?_⟩
    have ei : ((((rr ++ [p]).map V.ref).length : Nat) : Int) - 1 = (R.length : Int) := by simp [rlen]
    refine ⟨o, dx, rl, ld, k, tl, m, r, R.length, mm, c + 1, s, s', rr ++ [p], R ++ [⟨a, b, wt⟩], out, ?_, ho3, no, nrl, hrl3, ta3, by omega, kt3, by omega, (RS.wf rs).wf, by omega, by omega, fun j hj => ?_, st, fun H4 o4 kt4 => ?_⟩
    · show [V.ref o, V.int (((((rr ++ [p]).map V.ref).length : Nat) : Int) - 1)] ++ [] = _
      rw [ei]; rfl
    · obtain ⟨k1, k2, _⟩ := rs'.ok.2 j hj
      rw [lR] at hj
      exact ⟨by omega, by omega, by omega⟩
    have ho4 := o4 _ _ no ho3
    have hrl4 := o4 _ _ nrl hrl3
    obtain ⟨kdx3, ka3, kz3, kn3, kps3, hk3, _, htl3, _, nt3, _⟩ := kt3.ins
    have nld : ld ∉ [k, tl] := fun z => by
      rcases List.mem_cons.mp z with z | z
      · rw [z, hk3] at hld3; cases hld3
      · rw [List.mem_singleton.mp z, htl3] at hld3; cases hld3
    have hld4 := o4 _ _ nld hld3
    have ta4 := ta3.offs o4 nt3
    have oA : Offs [o, rl, ld, k, tl] H H4 := (o3.more (by simp)).trans (o4.more (by simp))
    obtain ⟨ln, lp⟩ := left_next (t := ⟨a, b, wt⟩) lok rs'.kept hout
    cases out with
    | none =>
      refine ⟨_, rfl, rfl, _, rfl, iteF ⟨_, rfl, ?_⟩⟩
      exact q H4 _ oA ⟨dx, rr ++ [p], kvs, s', ho4, hrl4, ta4, hld4, by omega, ln rfl, kt4, RS.kept_ rs', no, nrl⟩
    | some j =>
      refine ⟨_, rfl, rfl, _, rfl, iteT ?_⟩
      have lk := @putK_len kvs (.inl (j : Int)) (.bl true)
      refine ⟨_, rfl, o, _, dx, _, _, rfl, ho4, T.cls_Roads, T.noat_Roads_left, rfl, _, rfl, ld, _, rfl, DPut.k (k := .inl (j : Int)) hld4 (small1000 (by omega)), _, rfl, ?_⟩
      have o5 : Offs [o, rl, ld, k, tl] H4 (upd H4 ld (.dK (putK kvs (.inl (j : Int)) (.bl true)))) := (Offs.of (.refl _)).upd (by simp)
      have o5' : Offs [ld] H4 (upd H4 ld (.dK (putK kvs (.inl (j : Int)) (.bl true)))) := (Offs.of (.refl _)).upd (by simp)
      have nt4 : ∀ b ∈ [ld], ∀ vs, H4 b ≠ some (.tup vs) := fun b hb vs e => by rw [List.mem_singleton.mp hb, hld4] at e; cases e
      refine q _ _ (oA.trans o5) ⟨dx, rr ++ [p], _, s', by rw [upd_ne old]; exact ho4, by rw [upd_ne rld]; exact hrl4, ta4.offs o5' nt4, upd_same, by omega, lp j _ rfl, kt4.offs o5' nt4 ?_ ?_, RS.kept_ rs', no, nrl⟩
      · intro z; exact nld (by simp [List.mem_singleton.mp z])
      · intro z; exact nld (by simp [List.mem_singleton.mp z])
end
end G3
set_option Elab.async false
set_option linter.all false
set_option maxRecDepth 100000
set_option maxHeartbeats 4000000
/-! Roads: made, told, copied. -/
namespace G3
open PySem PySem.Spec PyProof.Rows L2
open Lk (Part g isSon Wf PIn In Forests Acy Tie tie key RS KeptP)
theorem par_none {n : Nat} (h : 0 < n) (h2 : n ≤ 64) : ParOk (List.replicate n none) := by
  refine ⟨by simpa using h, by simpa using h2, fun _ => 0, fun x y _ e => ?_⟩
  unfold psF at e
  rw [List.getD_eq_getElem?_getD, List.getElem?_replicate] at e
  split at e <;> cases e
theorem rest_none {n : Nat} {v : Int} : restS (List.replicate n none) (List.replicate n v) = List.replicate n ⟨none, none, none, false, v⟩ := by
  unfold restS
  rw [List.zip_replicate, Nat.min_self, List.map_replicate]
section
variable {P : Program} {w : World} {K : PySem.W.Frag} {mg : Str → Option Value} {base : Heap}
def spRoadsI : Sp := fun vs H Q _ => ∃ (o dx : Addr) (m r : Nat), vs = [.ref o, .int m, .int r] ∧ H o = some (.ins (cR K) dx []) ∧ 1 ≤ m ∧ m ≤ 32 ∧ 2 ≤ m + r ∧ m + r ≤ 64 ∧
  ∀ H' rl ld k tl, Offs [o] H H' → H rl = none → H ld = none → H k = none → H tl = none → RdS K H' o rl ld k tl m r [] 0 0 → Q .non H'
theorem sc_Roads_init : FnScope ["self", "many", "most"] ["self", "many", "most"] (defScope s_Roads___init__) := ⟨rfl, rfl, rfl, by decide +kernel, rfl, by decide +kernel, by decide +kernel⟩
theorem ok_Roads_init (T : Txt w K mg) : OkI P w K mg base 7 "Roads" ["self", "many", "most"] (spRoadsI (K := K)) := by
  obtain ⟨fC, dC, GC, mC, kC, bC⟩ := (ok_check_within (P := P) (base := base) T).ex
  obtain ⟨fI, dI, GI, mI, kI, bI⟩ := (ok_is_integer (P := P) (base := base) T).ex
  obtain ⟨fN, dN, GN, mN, gN, bN⟩ := (ok_Kept_init (P := P) (base := base) T).ex
  obtain ⟨fF, dF, GF, mF, gF, bF⟩ := (ok_Forest_init (P := P) (base := base) T).ex
  refine oki T.mkr_Roads T.glo_Roads T.fn_Roads___init__ sc_Roads_init (fun _ _ _ _ _ _ us hl => match us, hl with | [_, _, _], _ => rfl) (fun vs H Q E h => ?_) (fun cdv A outer s H vs Q E hr h => ?_)
  · obtain ⟨o, dx, m, r, rfl, _⟩ := h; rfl
  · obtain ⟨o, dx, m, r, rfl, ho, h1, h2, h3, h4, q⟩ := h
    have hr1 : Room 1 _ := hr.mono (by decide)
    have hr3 : Room 3 _ := hr.mono (by decide)
    have hr5 : Room 5 _ := hr.mono (by decide)
    refine ⟨_, (pss_cons (ps_expr (pe_call GC hr3 (by rfl) mC kC bC .nil pass0 (pa_cons (pv 1) (pa_cons pe_int (pa_cons (gi T.int_MOST_HOUSES_roads) pa_nil))))) (pss_cons (ps_if (pw_or (pt_not (pt_val (pe_call GI hr1 (by rfl) mI kI bI .nil pass0 (pa_cons (pv 2) pa_nil)))) (pw_or1 (pt_not (pt_chain op_le op_le pe_int (pv 2) (pe_op op_sub (gi T.int_MOST_ROOM) (pv 1)))))).pt pss_never pss_nil) (pss_cons (ps_fld (pv 0) (pv 1) (by rfl)) (pss_cons (ps_fld (pv 0) (pv 2) (by rfl)) (pss_cons (ps_fld (pv 0) (pe_lst pa_nil) (by rfl)) (pss_cons (ps_fld (pv 0) pe_dnewK (by rfl)) (pss_cons (ps_fld (pv 0) (pe_make mN GN hr5 (by rfl) gN bN .nil pass0 (pa_cons (pe_make mF GF hr (by rfl) gF bF .nil pass0 (pa_cons (pe_op op_repT (pe_tup (pa_cons pe_non pa_nil)) (pe_op op_add (pv 1) (pv 2))) (pa_cons (pe_op op_repT (pe_tup (pa_cons (gi T.int_LEAST_VALUE) pa_nil)) (pe_op op_add (pv 1) (pv 2))) pa_nil))) pa_nil)) (by rfl)) (pss_one (ps_fld (pv 0) pe_int (by rfl)))))))))), ?_⟩
    refine ⟨_, rfl, (m : Int), 1, 32, rfl, by omega, by omega, ?_⟩
    refine ⟨_, rfl, (r : Int), rfl, _, rfl, iteF ?_⟩
    refine ⟨_, rfl, _, _, rfl, rfl, _, rfl, ?_⟩
    rw [decide_eq_true (show (0 : Int) ≤ (r : Int) by omega)]
    refine iteT ⟨_, rfl, _, _, rfl, rfl, _, _, rfl, rfl, _, rfl, ?_⟩
    rw [decide_eq_true (show (r : Int) ≤ 64 - (m : Int) by omega)]
    refine iteF ?_
    refine ⟨_, rfl, _, rfl, o, _, dx, [], rfl, ho, T.cls_Roads, T.noat_Roads_size, (show (0 : Nat) < 1000 by decide), ?_⟩
    refine ⟨_, rfl, _, rfl, o, _, dx, [("size", .int (m : Nat))], rfl, upd_same, T.cls_Roads, T.noat_Roads_room, (show (1 : Nat) < 1000 by decide), ?_⟩
    refine ⟨by show 0 ≤ sizeLine; decide, fun rl nrl => ?_⟩
    have onrl : o ≠ rl := ne_of_none upd_same nrl
    have nrl0 : H rl = none := by rw [upd_ne (Ne.symm onrl), upd_ne (Ne.symm onrl)] at nrl; exact nrl
    refine ⟨_, rfl, o, _, dx, [("size", .int (m : Nat)), ("room", .int (r : Nat))], rfl, by rw [upd_ne onrl]; exact upd_same, T.cls_Roads, T.noat_Roads_rows, (show (2 : Nat) < 1000 by decide), fun ld nld => ?_⟩
    have onld : o ≠ ld := ne_of_none upd_same nld
    have rnld : rl ≠ ld := fun z => by
      rw [← z, upd_ne (Ne.symm onrl), upd_same] at nld; cases nld
    have nld0 : H ld = none := by
      rw [upd_ne (Ne.symm onld), upd_ne (Ne.symm rnld), upd_ne (Ne.symm onld), upd_ne (Ne.symm onld)] at nld; exact nld
    refine ⟨_, rfl, o, _, dx, [("size", .int (m : Nat)), ("room", .int (r : Nat)), ("rows", .ref rl)], rfl, by rw [upd_ne onld]; exact upd_same, T.cls_Roads, T.noat_Roads_left, (show (3 : Nat) < 1000 by decide), ?_⟩
    obtain ⟨HL, hHL, oL, hoL, hrlL, hldL⟩ : ∃ HL : Hp, HL = upd (upd (upd (upd (upd (upd H o (.ins (cR K) dx (putF "size" (.int (m : Nat)) []))) o (.ins (cR K) dx (putF "room" (.int (r : Nat)) [("size", .int (m : Nat))]))) rl (.lst [])) o (.ins (cR K) dx (putF "rows" (.ref rl) [("size", .int (m : Nat)), ("room", .int (r : Nat))]))) ld (.dK [])) o (.ins (cR K) dx (putF "left" (.ref ld) [("size", .int (m : Nat)), ("room", .int (r : Nat)), ("rows", .ref rl)])) ∧
        Offs [o] H HL ∧ HL o = some (.ins (cR K) dx [("size", .int (m : Nat)), ("room", .int (r : Nat)), ("rows", .ref rl), ("left", .ref ld)]) ∧ HL rl = some (.lst []) ∧ HL ld = some (.dK []) := by
      refine ⟨_, rfl, ?_, upd_same, ?_, ?_⟩
      · exact Offs.upd (Offs.same (Offs.upd (Offs.same (Offs.upd (Offs.upd (.of (.refl _)) (by simp)) (by simp)) (same_upd nrl)) (by simp)) (same_upd nld)) (by simp)
      · rw [upd_ne (Ne.symm onrl), upd_ne rnld, upd_ne (Ne.symm onrl), upd_same]
      · rw [upd_ne (Ne.symm onld), upd_same]
    rw [← hHL]
    have fr : ∀ {b}, HL b = none → H b = none := fun {b} e => by
      cases q : H b with
      | none => rfl
      | some u =>
        by_cases z : b = o
        · rw [z, hoL] at e; cases e
        · rw [oL b u (by simpa using z) q] at e; cases e
    have ek : ((m : Nat) : Int) + ((r : Nat) : Int) = ((m + r : Nat) : Int) := by omega
    have tn : (((m + r : Nat) : Int)).toNat = m + r := Int.toNat_natCast _
    refine ⟨by show 1 ≤ sizeLine; decide, fun t1 n1 => ?_⟩
    refine ⟨_, rfl, _, rfl, _, _, rfl, rfl, t1, _, [.non], rfl, rfl, SqT.of upd_same, by simp, by omega, by omega, by simp, fun p1 np1 => ?_⟩
    have s1 := (same_upd (o := .tup [.non]) n1).trans (same_upd (o := .tup (List.replicate (((m : Nat) : Int) + ((r : Nat) : Int)).toNat [V.non]).flatten) np1)
    have hp1 : upd (upd HL t1 (.tup [.non])) p1 (.tup (List.replicate (((m : Nat) : Int) + ((r : Nat) : Int)).toNat [V.non]).flatten) p1 = some (.tup ((List.replicate (m + r) (none : Option Nat)).map optV)) := by
      rw [upd_same, rep_flat, ek, tn, List.map_replicate]; rfl
    generalize upd (upd HL t1 (.tup [.non])) p1 (.tup (List.replicate (((m : Nat) : Int) + ((r : Nat) : Int)).toNat [V.non]).flatten) = H1 at s1 hp1
    refine ⟨by show 1 ≤ sizeLine; decide, fun t2 n2 => ?_⟩
    refine ⟨_, rfl, _, rfl, _, _, rfl, rfl, t2, _, [.int (-10000000000000000000000000000000000000000)], rfl, rfl, SqT.of upd_same, by simp, by omega, by omega, by simp, fun p2 np2 => ?_⟩
    have s2 := (same_upd (o := .tup [.int (-10000000000000000000000000000000000000000)]) n2).trans (same_upd (o := .tup (List.replicate (((m : Nat) : Int) + ((r : Nat) : Int)).toNat [V.int (-10000000000000000000000000000000000000000)]).flatten) np2)
    have hp2 : upd (upd H1 t2 (.tup [.int (-10000000000000000000000000000000000000000)])) p2 (.tup (List.replicate (((m : Nat) : Int) + ((r : Nat) : Int)).toNat [V.int (-10000000000000000000000000000000000000000)]).flatten) p2 = some (.tup ((List.replicate (m + r) (-10000000000000000000000000000000000000000 : Int)).map V.int)) := by
      rw [upd_same, rep_flat, ek, tn, List.map_replicate]
    have hp1' := s2 _ _ hp1
    have s12 := s1.trans s2
    generalize upd (upd H1 t2 (.tup [.int (-10000000000000000000000000000000000000000)])) p2 (.tup (List.replicate (((m : Nat) : Int) + ((r : Nat) : Int)).toNat [V.int (-10000000000000000000000000000000000000000)]).flatten) = H2 at s12 hp2 hp1'
    intro f fdx nf nfdx nef
    have s3 := (same_upd (o := .own f) nfdx).trans (same_upd (o := .ins (cF K) fdx []) (p := f) (H := upd H2 fdx (.own f)) (by rw [upd_ne (Ne.symm nef)]; exact nf))
    have hf3 : upd (upd H2 fdx (.own f)) f (.ins (cF K) fdx []) f = some (.ins (cF K) fdx []) := upd_same
    generalize upd (upd H2 fdx (.own f)) f (.ins (cF K) fdx []) = H3 at s3 hf3
    have po := par_none (n := m + r) (by omega) (by omega)
    refine ⟨f, p1, p2, fdx, List.replicate (m + r) none, List.replicate (m + r) (-10000000000000000000000000000000000000000), rfl, hf3, s3 _ _ hp1', po, s3 _ _ hp2, by simp, fun H4 o4 hf4 => ⟨rfl, ?_⟩⟩
    have s14 : Same HL H4 := Offs.new (s12.trans s3) o4 fun b hb => by rw [List.mem_singleton.mp hb]; exact s12.free nf
    have fp : ∀ {b vs}, H3 b = some (.tup vs) → b ∉ [f] := fun {b vs} e z => by rw [List.mem_singleton.mp z, hf3] at e; cases e
    have hp14 := o4 _ _ (fp (s3 _ _ hp1')) (s3 _ _ hp1')
    have hp24 := o4 _ _ (fp (s3 _ _ hp2)) (s3 _ _ hp2)
    intro k kdx nk nkdx nek
    have s5 := (same_upd (o := .own k) nkdx).trans (same_upd (o := .ins (cK K) kdx []) (p := k) (H := upd H4 kdx (.own k)) (by rw [upd_ne (Ne.symm nek)]; exact nk))
    have hk5 : upd (upd H4 kdx (.own k)) k (.ins (cK K) kdx []) k = some (.ins (cK K) kdx []) := upd_same
    generalize upd (upd H4 kdx (.own k)) k (.ins (cK K) kdx []) = H5 at s5 hk5
    refine ⟨k, f, kdx, List.replicate (m + r) none, List.replicate (m + r) (-10000000000000000000000000000000000000000), rfl, hk5, ⟨fdx, p1, p2, s5 _ _ hf4, s5 _ _ hp14, s5 _ _ hp24⟩, by simp, po, fun H6 a tl z o6 hk6 ntl htl6 sh6 => ⟨rfl, ?_⟩⟩
    have nkL : HL k = none := s14.free nk
    have s16 : Same HL H6 := Offs.new (s14.trans s5) o6 fun b hb => by rw [List.mem_singleton.mp hb]; exact nkL
    have ntL : HL tl = none := (s14.trans s5).free ntl
    have ok : o ≠ k := ne_of_none hoL nkL
    have otl : o ≠ tl := ne_of_none hoL ntL
    have rtl : rl ≠ tl := ne_of_none hrlL ntL
    have rk : rl ≠ k := ne_of_none hrlL nkL
    have ho6 := s16 _ _ hoL
    refine ⟨_, rfl, o, _, dx, _, rfl, ho6, T.cls_Roads, T.noat_Roads_web, (show (4 : Nat) < 1000 by decide), ?_⟩
    refine ⟨_, rfl, o, _, dx, [("size", .int (m : Nat)), ("room", .int (r : Nat)), ("rows", .ref rl), ("left", .ref ld), ("web", .ref k)], rfl, upd_same, T.cls_Roads, T.noat_Roads_calls, (show (5 : Nat) < 1000 by decide), ?_⟩
    have oF : ∀ u v, Offs [o] H6 (upd (upd H6 o u) o v) := fun u v => ((Offs.of (.refl _)).upd (by simp)).upd (by simp)
    have nt6 : ∀ b ∈ [o], ∀ vs, H6 b ≠ some (.tup vs) := fun b hb vs e => by rw [List.mem_singleton.mp hb, ho6] at e; cases e
    refine q _ rl ld k tl ((oL.same s16).trans (oF _ _)) nrl0 nld0 (fr nkL) (fr ntL) ⟨dx, [], [], List.replicate (m + r) ⟨none, none, none, false, -(10 ^ 40)⟩, upd_same, ?_, ⟨rfl, by simp⟩, ?_, Nat.le_refl _, fun i => by simp [valV_nil], ?_, RS.kept_ (Lk.rs_nil (by omega) (by omega)), by simp [ok, otl], by simp [rk, rtl]⟩
    · exact oF _ _ _ _ (by simpa using Ne.symm onrl) (s16 _ _ hrlL)
    · exact oF _ _ _ _ (by simpa using Ne.symm onld) (s16 _ _ hldL)
    · rw [rest_none, show (-10000000000000000000000000000000000000000 : Int) = -(10 ^ 40) by decide] at sh6
      exact ⟨kdx, a, z, 0, [], [], oF _ _ _ _ (by simpa using Ne.symm ok) hk6, sh6.offs (oF _ _) nt6, oF _ _ _ _ (by simpa using Ne.symm otl) htl6, ⟨rfl, by simp⟩, Nat.le_refl _⟩
end
end G3
set_option Elab.async false
set_option linter.all false
set_option maxRecDepth 100000
set_option maxHeartbeats 4000000
/-! Roads: what they tell. -/
namespace G3
open PySem PySem.Spec PyProof.Rows L2
open Lk (Part g isSon Wf PIn In Forests Acy Tie tie key RS KeptP)
def keptL (kvs : List (Key × V)) (n : Nat) : List Nat := (List.range n).filter fun i => (valV kvs (.inl (i : Int))).isNone
section
variable {P : Program} {w : World} {K : PySem.W.Frag} {mg : Str → Option Value} {base : Heap}
def spTies : Sp := fun vs H Q _ => ∃ (o dx rl ld k : Addr) (m r : Nat) (c : Int) (xs : List V), vs = [.ref o] ∧ H o = some (.ins (cR K) dx (rFs m r rl ld k c)) ∧ H rl = some (.lst xs) ∧ ∀ p, H p = none → Q (.ref p) (upd H p (.lst xs))
theorem sc_Roads_ties : FnScope ["self"] ["self"] (defScope s_Roads_ties) := ⟨rfl, rfl, rfl, by decide +kernel, rfl, by decide +kernel, by decide +kernel⟩
theorem ok_Roads_ties (T : Txt w K mg) : OkM P w K mg base 1 "Roads" "ties" ["self"] (spTies (K := K)) := by
  refine okm T.meth_Roads_ties T.cls_Roads T.fn_Roads_ties sc_Roads_ties (fun _ _ _ _ _ _ us hl => match us, hl with | [_], _ => rfl) (fun vs H Q E h => ?_) (fun cdv A outer s H vs Q E hr h => ?_)
  · obtain ⟨o, dx, rl, ld, k, m, r, c, xs, rfl, _⟩ := h; rfl
  · obtain ⟨o, dx, rl, ld, k, m, r, c, xs, rfl, ho, hrl, q⟩ := h
    refine ⟨_, (pss_one (ps_ret (pe_callTy call_list_of (by rfl) T.free_list (by decide +kernel) (pa_cons (pe_fld (pv 0) (by rfl)) pa_nil)))), ?_⟩
    exact ⟨_, rfl, o, _, dx, _, _, rfl, ho, T.cls_Roads, T.noat_Roads_rows, rfl, rl, xs, rfl, .inl (SqL.of hrl), q⟩
def spKeptR : Sp := fun vs H Q _ => ∃ (o dx rl ld k : Addr) (m r : Nat) (c : Int) (xs : List V) (kvs : List (Key × V)), vs = [.ref o] ∧ H o = some (.ins (cR K) dx (rFs m r rl ld k c)) ∧ H rl = some (.lst xs) ∧ xs.length ≤ 64 ∧ H ld = some (.dK kvs) ∧ ∀ H' p, Same H H' → H' p = some (.tup ((keptL kvs xs.length).map nI)) → Q (.ref p) H'
theorem sc_Roads_kept : FnScope ["self", "number"] ["self"] (defScope s_Roads_kept) := ⟨rfl, rfl, rfl, by decide +kernel, rfl, by decide +kernel, by decide +kernel⟩
theorem ok_Roads_kept (T : Txt w K mg) : OkM P w K mg base 1 "Roads" "kept" ["self"] (spKeptR (K := K)) := by
  refine okm T.meth_Roads_kept T.cls_Roads T.fn_Roads_kept sc_Roads_kept (fun _ _ _ _ _ _ us hl => match us, hl with | [_], _ => rfl) (fun vs H Q E h => ?_) (fun cdv A outer s H vs Q E hr h => ?_)
  · obtain ⟨o, dx, rl, ld, k, m, r, c, xs, kvs, rfl, _⟩ := h; rfl
  · obtain ⟨o, dx, rl, ld, k, m, r, c, xs, kvs, rfl, ho, hrl, l64, hld, q⟩ := h
    have hu := Nat.lt_of_le_of_lt (Nat.add_le_add_left (show 1 ≤ 64 by decide) _) hr.units
    refine ⟨_, (pss_one (ps_ret (pe_callTy call_tuple_of (by rfl) T.free_tuple (by decide +kernel) (pa_cons (pe_lc (own := [("number", 1)]) (g := gName 1) (te := tVar 1) (tt := tB (tDNotIn (tVar 1) (tFld K (tVar 0) "left"))) rfl sc_Roads_kept.nd (pi_range1 (by rfl) T.free_range (pa_cons (pe_callB call_len_seq (by rfl) T.free_len PySem.boot_len (pa_cons (pe_fld (pv 0) (by rfl)) pa_nil)) pa_nil)) (blkOk_by (N := ["self", "number"]) (sc := defScope s_Roads_kept) (by decide +kernel)) (fun _ _ _ _ _ => pg_name (i := 1) sc_Roads_kept.nd rfl (.inl rfl)) (fun _ _ _ _ _ => pts_one (pt_cmp (pc_dnotin hu (pv 1) (pe_fld (pv 0) (by rfl))) (by rfl))) (fun _ _ _ _ _ => pv 1)) pa_nil)))), ?_⟩
    refine ⟨_, rfl, o, _, dx, _, _, rfl, ho, T.cls_Roads, T.noat_Roads_rows, rfl, rl, xs, rfl, .inl (SqL.of hrl), _, rfl, by omega, by omega, fun D nD => ?_⟩
    rw [Int.toNat_natCast]
    refine lc_range (fun i H1 => Same H H1 ∧ H1 D = some (.lst ((keptL kvs i).map nI))) ?_ ?_ ?_
    · exact ⟨same_upd nD, upd_same⟩
    · rintro i H1 hi ⟨s1, hD⟩
      have ks : keptL kvs (i + 1) = keptL kvs i ++ if (valV kvs (.inl (i : Int))).isNone then [i] else [] := by
        unfold keptL
        rw [List.range_succ, List.filter_append]
        congr 1
        cases h : (valV kvs (.inl (i : Int))).isNone <;> simp only [List.filter_cons, List.filter_nil, h, if_true, if_false, Bool.false_eq_true]
      have kl : (keptL kvs i).length ≤ i := by
        unfold keptL
        have := List.length_filter_le (fun i : Nat => (valV kvs (.inl (i : Int))).isNone) (List.range i)
        simpa using this
      refine ⟨rfl, _, rfl, _, rfl, o, _, dx, _, _, rfl, s1 _ _ ho, T.cls_Roads, T.noat_Roads_left, rfl, ld, valV kvs (.inl (i : Int)), rfl, ?_, _, rfl, ?_⟩
      · have := DGet.k (k := .inl (i : Int)) (s1 _ _ hld)
        simpa [kV] using this
      · cases e : valV kvs (.inl (i : Int)) with
        | none =>
          rw [e] at ks
          refine iteT ⟨_, rfl, _, hD, small1000 (by simp <;> omega), same_off s1 nD, ?_⟩
          rw [upd_same, ks]; simp [nI]
        | some v =>
          rw [e] at ks
          refine iteF ⟨s1, ?_⟩
          rw [ks]; simpa using hD
    · rintro H1 ⟨s1, hD⟩
      exact ⟨D, _, rfl, .inl ⟨SqL.of hD, fun p np => q _ p (s1.trans (same_upd np)) upd_same⟩⟩
def spWhole : Sp := fun vs H Q _ => ∃ (o dx rl ld k : Addr) (m r : Nat) (c : Int) (rr : List Addr) (R : Lk.Rows) (kvs : List (Key × V)), vs = [.ref o] ∧ H o = some (.ins (cR K) dx (rFs m r rl ld k c)) ∧ H rl = some (.lst (rr.map V.ref)) ∧ TieAt H rr R ∧ R.length ≤ 64 ∧ H ld = some (.dK kvs) ∧ ∀ H', Same H H' → Q (.int ((keptL kvs R.length).map fun i => (tie R i).w).sum) H'
theorem sc_Roads_whole : FnScope ["self", "number"] ["self"] (defScope s_Roads_whole) := ⟨rfl, rfl, rfl, by decide +kernel, rfl, by decide +kernel, by decide +kernel⟩
theorem keptL_lt {kvs : List (Key × V)} {n i : Nat} (h : i ∈ keptL kvs n) : i < n := List.mem_range.mp (List.mem_filter.mp h).1
theorem ok_Roads_whole (T : Txt w K mg) : OkM P w K mg base 2 "Roads" "whole" ["self"] (spWhole (K := K)) := by
  obtain ⟨fG, dG, GG, mG, cG, bG⟩ := (ok_Roads_kept (P := P) (base := base) T).ex
  refine okm T.meth_Roads_whole T.cls_Roads T.fn_Roads_whole sc_Roads_whole (fun _ _ _ _ _ _ us hl => match us, hl with | [_], _ => rfl) (fun vs H Q E h => ?_) (fun cdv A outer s H vs Q E hr h => ?_)
  · obtain ⟨o, dx, rl, ld, k, m, r, c, rr, R, kvs, rfl, _⟩ := h; rfl
  · obtain ⟨o, dx, rl, ld, k, m, r, c, rr, R, kvs, rfl, ho, hrl, ta, R64, hld, q⟩ := h
    have lR := ta.len
    refine ⟨_, (pss_one (ps_ret (pe_callB (cr_sum rfl) (by rfl) T.free_sum (by decide +kernel) (pa_cons (pe_lc (own := [("number", 1)]) (g := gName 1) (te := tOp (rIxT K) (tOp (rIxL K) (tFld K (tVar 0) "rows") (tVar 1)) (tC (.int 2))) rfl sc_Roads_whole.nd (pi_tup (pe_meth0 (pv 0) cG mG GG hr bG .nil pass0)) (blkOk_by (N := ["self", "number"]) (sc := defScope s_Roads_whole) (by decide +kernel)) (fun _ _ _ _ _ => pg_name (i := 1) sc_Roads_whole.nd rfl (.inl rfl)) (fun _ _ _ _ _ => pts_nil) (fun _ _ _ _ _ => (pe_ix ix_tup (pe_ix ix_list (pe_fld (pv 0) (by rfl)) (pv 1) (fun _ _ => rfl)) pe_int (fun _ _ => rfl)))) pa_nil)))), ?_⟩
    refine ⟨_, rfl, o, dx, _, rfl, ho, rfl, ?_⟩
    refine ⟨o, dx, rl, ld, k, m, r, c, rr.map V.ref, kvs, rfl, ho, hrl, by simp <;> omega, hld, fun H1 p s1 hp => ?_⟩
    rw [List.length_map, lR] at hp
    refine ⟨p, rfl, ⟨_, SqT.of hp⟩, fun D nD => ?_⟩
    have kl : (keptL kvs R.length).length ≤ R.length := by
      unfold keptL
      have := List.length_filter_le (fun i : Nat => (valV kvs (.inl (i : Int))).isNone) (List.range R.length)
      simpa using this
    refine lc_rel (walk_tup (K := K) (a := p) (xs := (keptL kvs R.length).map nI)) nD (by simp <;> omega) (fun i v _ => ∃ j, (keptL kvs R.length)[i]? = some j ∧ v = .int (tie R j).w) (fun _ _ _ _ _ h => h) (fun H s2 => SqT.of (s2 _ _ hp)) ?_ ?_
    · rintro i v H2 _ Fin N hi s2 _ ⟨rfl, hv⟩ fin
      rw [List.getElem?_map] at hv
      obtain ⟨j, hj, rfl⟩ := Option.map_eq_some_iff.mp hv
      have jl := keptL_lt (List.mem_of_getElem? hj)
      have s12 := s1.trans s2
      obtain ⟨pj, hpj, hpjt⟩ := (ta.same s12).get jl
      have hpji : (rr.map V.ref)[j]? = some (.ref pj) := by rw [List.getElem?_map, hpj]; rfl
      refine ⟨rfl, tyes ⟨_, rfl, o, _, dx, _, _, rfl, s12 _ _ ho, T.cls_Roads, T.noat_Roads_rows, rfl, _, rfl, _, _, _, .ref pj, rfl, rfl, SqL.of (s12 _ _ hrl), atI_nat hpji, _, _, _, _, rfl, rfl, SqT.of (hpjt),  rfl, fin _ _ (.refl _) ⟨j, hj, rfl⟩⟩⟩
    · intro H2 acc s2 la hD hR
      have e : acc = ((keptL kvs R.length).map fun i => (tie R i).w).map V.int := by
        refine List.ext_getElem? fun i => ?_
        rw [List.getElem?_map, List.getElem?_map]
        by_cases il : i < acc.length
        · obtain ⟨l, h1, h2⟩ := hR i acc[i] (List.getElem?_eq_getElem il)
          rw [List.getElem?_eq_getElem il, h1, h2]; rfl
        · rw [List.getElem?_eq_none (by omega), List.getElem?_eq_none (by simp at la; omega)]; rfl
      subst e
      exact ⟨D, _, rfl, SqL.of hD, q _ (s1.trans s2)⟩
def PapsOf (K : PySem.W.Frag) (H : Hp) (k tl : Addr) (pss : List (List Int)) : Prop := ∃ dx a z n ps, H k = some (.ins (cK K) dx (kFs a tl z n)) ∧ H tl = some (.lst (ps.map V.ref)) ∧ Pap H ps pss ∧ ps.length ≤ 100000
def spSpentR : Sp := fun vs H Q _ => ∃ (o dx rl ld k tl : Addr) (m r : Nat) (c : Int) (pss : List (List Int)), vs = [.ref o] ∧ H o = some (.ins (cR K) dx (rFs m r rl ld k c)) ∧ PapsOf K H k tl pss ∧ ∀ H', Same H H' → Q (.int (spent pss)) H'
theorem sc_Roads_spent : FnScope ["self"] ["self"] (defScope s_Roads_spent) := ⟨rfl, rfl, rfl, by decide +kernel, rfl, by decide +kernel, by decide +kernel⟩
theorem ok_Roads_spent (T : Txt w K mg) : OkM P w K mg base 2 "Roads" "spent" ["self"] (spSpentR (K := K)) := by
  obtain ⟨fG, dG, GG, mG, cG, bG⟩ := (ok_Kept_spent (P := P) (base := base) T).ex
  refine okm T.meth_Roads_spent T.cls_Roads T.fn_Roads_spent sc_Roads_spent (fun _ _ _ _ _ _ us hl => match us, hl with | [_], _ => rfl) (fun vs H Q E h => ?_) (fun cdv A outer s H vs Q E hr h => ?_)
  · obtain ⟨o, dx, rl, ld, k, tl, m, r, c, pss, rfl, _⟩ := h; rfl
  · obtain ⟨o, dx, rl, ld, k, tl, m, r, c, pss, rfl, ho, ⟨kdx, a, z, n, ps, hk, htl, pp, pl⟩, q⟩ := h
    refine ⟨_, (pss_one (ps_ret (pe_meth0 (pe_fld (pv 0) (by rfl)) cG mG GG hr bG .nil pass0))), ?_⟩
    refine ⟨_, rfl, o, _, dx, _, _, rfl, ho, T.cls_Roads, T.noat_Roads_web, rfl, k, kdx, _, rfl, hk, rfl, ?_⟩
    exact ⟨k, a, tl, kdx, z, n, ps, pss, rfl, hk, htl, pp, pl, q⟩
/-! ### the bound -/
def rkL : Nat → Int → Int → Int → Int
  | 0, _, _, f => f
  | n + 1, x, size, f => if size ≤ x then rkL n x (2 * size) (f + 1) else f
def spRkN : Sp := fun vs H Q _ => ∃ i : Int, vs = [.int i] ∧ 0 ≤ i ∧ i ≤ 64 ∧ Q (.int (rkL 7 i 2 0)) H
theorem sc_rank_number : FnScope ["number", "found", "size"] ["number"] (defScope s_rank_number) := ⟨rfl, rfl, rfl, by decide +kernel, rfl, by decide +kernel, by decide +kernel⟩
theorem ok_rank_number (T : Txt w K mg) : OkF P w K mg base 1 "rank_number" ["number"] spRkN := by
  refine okf T.glo_rank_number T.fn_rank_number sc_rank_number (fun _ _ _ _ _ _ us hl => match us, hl with | [_], _ => rfl) (fun vs H Q E h => ?_) (fun cdv A outer s H vs Q E hr h => ?_)
  · obtain ⟨i, rfl, _⟩ := h; rfl
  · obtain ⟨i, rfl, h0, h64, q⟩ := h
    refine ⟨_, (pss_cons (ps_set (i := 1) sc_rank_number.nd rfl (.inl rfl) pe_int) (pss_cons (ps_set (i := 2) sc_rank_number.nd rfl (.inl rfl) pe_int) (pss_cons (ps_while PassesOwn.never (pt_cmpR op_le (pv 2) (pv 0) (nomark _)) (pss_cons (ps_aug (i := 1) sc_rank_number.nd rfl (.inl rfl) pe_int ip_add) (pss_one (ps_set (i := 2) sc_rank_number.nd rfl (.inl rfl) (pe_op op_mul pe_int (pv 2)))))) (pss_one (ps_ret (pv 1)))))), ?_⟩
    refine ⟨fun n σ H' => H' = H ∧ ∃ (f z : Int), n ≤ 7 ∧ (i : Int) < z * 2 ^ n ∧ 0 < z ∧ rkL n i z f = rkL 7 i 2 0 ∧ σ = [some (.int i), some (.int f), some (.int z)], ⟨7, rfl, 0, 2, Nat.le_refl _, by omega, by omega, rfl, rfl⟩, ?_⟩
    rintro n σ H' ⟨rfl, f, z, hn, hz, zp, e, rfl⟩
    refine ⟨_, rfl, _, rfl, z, i, rfl, rfl, _, rfl, ?_⟩
    by_cases c : z ≤ i
    · cases n with
      | zero => omega
      | succ n =>
        rw [decide_eq_true c]
        unfold rkL at e
        rw [if_pos c] at e
        refine iteT ⟨fun σ' H'' => H'' = H' ∧ ∃ (f z : Int), n ≤ 7 ∧ (i : Int) < z * 2 ^ n ∧ 0 < z ∧ rkL n i z f = rkL 7 i 2 0 ∧ σ' = [some (.int i), some (.int f), some (.int z)], fun σ' H'' z => ⟨n, Nat.lt_succ_self _, z⟩, ?_⟩
        refine ⟨_, rfl, _, _, rfl, rfl, _, rfl, 2, z, rfl, rfl, .inl ⟨by decide, by decide⟩, rfl, f + 1, 2 * z, by omega, ?_, by omega, e, rfl⟩
        rw [Int.pow_succ] at hz
        have : 2 * z * 2 ^ n = z * (2 ^ n * 2) := by rw [Int.mul_comm 2 z, Int.mul_assoc, Int.mul_comm 2]
        omega
    · rw [decide_eq_false c]
      have e' : f = rkL 7 i 2 0 := by
        cases n with
        | zero => exact e
        | succ n => unfold rkL at e; rw [if_neg c] at e; exact e
      exact iteF ⟨_, rfl, by rw [e']; exact q⟩
end
end G3
set_option Elab.async false
set_option linter.all false
set_option maxRecDepth 100000
set_option maxHeartbeats 4000000
/-! Roads: the bound, a copy. -/
namespace G3
open PySem PySem.Spec PyProof.Rows L2
open Lk (Part g isSon Wf PIn In Forests Acy Tie tie key RS KeptP)
section
variable {P : Program} {w : World} {K : PySem.W.Frag} {mg : Str → Option Value} {base : Heap}
theorem rkL_le : ∀ (n : Nat) (x z f : Int), f ≤ rkL n x z f ∧ rkL n x z f ≤ f + n := by
  intro n
  induction n with
  | zero => intro x z f; exact ⟨Int.le_refl _, by show f ≤ f + 0; omega⟩
  | succ n ih =>
    intro x z f
    unfold rkL
    split
    · have := ih x (2 * z) (f + 1); omega
    · omega
def bndV (m r : Nat) (c : Int) (n : Nat) : Int := 40 * (30 * rkL 7 ((m : Int) + r) 2 0 + 7) * c + 10 * rkL 7 ((m : Int) + r) 2 0 * n
def spBound : Sp := fun vs H Q _ => ∃ (o dx rl ld k : Addr) (m r : Nat) (c : Int) (xs : List V), vs = [.ref o] ∧ H o = some (.ins (cR K) dx (rFs m r rl ld k c)) ∧ H rl = some (.lst xs) ∧ xs.length ≤ 64 ∧ m + r ≤ 64 ∧ 0 ≤ c ∧ c ≤ 1000 ∧ Q (.int (bndV m r c xs.length)) H
theorem sc_Roads_bound : FnScope ["self", "height"] ["self"] (defScope s_Roads_bound) := ⟨rfl, rfl, rfl, by decide +kernel, rfl, by decide +kernel, by decide +kernel⟩
theorem ok_Roads_bound (T : Txt w K mg) : OkM P w K mg base 2 "Roads" "bound" ["self"] (spBound (K := K)) := by
  obtain ⟨fR, dR, GR, mR, kR, bR⟩ := (ok_rank_number (P := P) (base := base) T).ex
  refine okm T.meth_Roads_bound T.cls_Roads T.fn_Roads_bound sc_Roads_bound (fun _ _ _ _ _ _ us hl => match us, hl with | [_], _ => rfl) (fun vs H Q E h => ?_) (fun cdv A outer s H vs Q E hr h => ?_)
  · obtain ⟨o, dx, rl, ld, k, m, r, c, xs, rfl, _⟩ := h; rfl
  · obtain ⟨o, dx, rl, ld, k, m, r, c, xs, rfl, ho, hrl, l64, mr, c0, c1, q⟩ := h
    refine ⟨_, (pss_cons (ps_set (i := 1) sc_Roads_bound.nd rfl (.inl rfl) (pe_call GR hr (by rfl) mR kR bR .nil pass0 (pa_cons (pe_op op_add (pe_fld (pv 0) (by rfl)) (pe_fld (pv 0) (by rfl))) pa_nil))) (pss_one (ps_ret (pe_op op_add (pe_op op_mul (pe_op op_mul (gi T.int_FOR_EACH) (pe_op op_add (pe_op op_mul pe_int (pv 1)) pe_int)) (pe_fld (pv 0) (by rfl))) (pe_op op_mul (pe_op op_mul pe_int (pv 1)) (pe_callB call_len_seq (by rfl) T.free_len PySem.boot_len (pa_cons (pe_fld (pv 0) (by rfl)) pa_nil))))))), ?_⟩
    refine ⟨_, rfl, o, _, dx, _, _, rfl, ho, T.cls_Roads, T.noat_Roads_size, rfl, _, rfl, o, _, dx, _, _, rfl, ho, T.cls_Roads, T.noat_Roads_room, rfl, _, _, rfl, rfl, (m : Int) + r, rfl, by omega, by omega, ?_⟩
    refine ⟨_, rfl, _, _, rfl, rfl, .inl ⟨by decide, by decide⟩, _, _, rfl, rfl, _, _, rfl, rfl, .inl ⟨by decide, by decide⟩, ?_⟩
    refine ⟨_, rfl, o, _, dx, _, _, rfl, ho, T.cls_Roads, T.noat_Roads_calls, rfl, _, _, rfl, rfl, .inr ⟨by omega, by omega⟩, ?_⟩
    refine ⟨_, rfl, _, _, rfl, rfl, .inl ⟨by decide, by decide⟩, _, rfl, o, _, dx, _, _, rfl, ho, T.cls_Roads, T.noat_Roads_rows, rfl, rl, xs, rfl, .inl (SqL.of hrl), _, _, rfl, rfl, .inr ⟨by omega, by omega⟩, _, _, rfl, rfl, ?_⟩
    exact q
def spRCopy : Sp := fun vs H Q _ => ∃ (o rl ld k tl : Addr) (m r : Nat) (R : Lk.Rows) (c : Int) (mm : Nat) (pss : List (List Int)), vs = [.ref o] ∧ RdS K H o rl ld k tl m r R c mm ∧ PapsOf K H k tl pss ∧ 1 ≤ m ∧ m ≤ 32 ∧ 2 ≤ m + r ∧
  ∀ H' o2 rl2 ld2 k2 tl2, Same H H' → (∀ b ∈ [o2, rl2, ld2, k2, tl2], H b = none) → RdS K H' o2 rl2 ld2 k2 tl2 m r R c mm → PapsOf K H' k2 tl2 pss → Q (.ref o2) H'
theorem sc_Roads_copy : FnScope ["self", "found"] ["self"] (defScope s_Roads_copy) := ⟨rfl, rfl, rfl, by decide +kernel, rfl, by decide +kernel, by decide +kernel⟩
theorem ok_Roads_copy (T : Txt w K mg) : OkM P w K mg base 71 "Roads" "copy" ["self"] (spRCopy (K := K)) := by
  obtain ⟨fN, dN, GN, mN, gN, bN⟩ := (ok_Roads_init (P := P) (base := base) T).ex
  obtain ⟨fC, dC, GC, mC, cC, bC⟩ := (ok_Kept_copy (P := P) (base := base) T).ex
  refine okm T.meth_Roads_copy T.cls_Roads T.fn_Roads_copy sc_Roads_copy (fun _ _ _ _ _ _ us hl => match us, hl with | [_], _ => rfl) (fun vs H Q E h => ?_) (fun cdv A outer s H vs Q E hr h => ?_)
  · obtain ⟨o, rl, ld, k, tl, m, r, R, c, mm, pss, rfl, _⟩ := h; rfl
  · obtain ⟨o, rl, ld, k, tl, m, r, R, c, mm, pss, rfl, ⟨dx, rr, kvs, s, ho, hrl, ta, hld, kvl, lok, ⟨kdx, a, z, n, ps, pss0, hk, sh, htl, pp0, pl⟩, rs, no, nrl⟩, ⟨kdx', a', z', n', ps', hk', htl', pp, pl'⟩, m1, m32, mr, q⟩ := h
    have n64 := rs.n64
    have slen := rs.len
    have fo := RS.wf rs
    have hr8 : Room 8 _ := hr.mono (by decide)
    refine ⟨_, (pss_cons (ps_set (i := 1) sc_Roads_copy.nd rfl (.inl rfl) (pe_make mN GN hr8 (by rfl) gN bN .nil pass0 (pa_cons (pe_fld (pv 0) (by rfl)) (pa_cons (pe_fld (pv 0) (by rfl)) pa_nil)))) (pss_cons (ps_fld (pv 1) (pe_callTy call_list_of (by rfl) T.free_list (by decide +kernel) (pa_cons (pe_fld (pv 0) (by rfl)) pa_nil)) (by rfl)) (pss_cons (ps_fld (pv 1) (pe_callTy call_dictD (by rfl) T.free_dict (by decide +kernel) (pa_cons (pe_fld (pv 0) (by rfl)) pa_nil)) (by rfl)) (pss_cons (ps_fld (pv 1) (pe_meth0 (pe_fld (pv 0) (by rfl)) cC mC GC hr bC .nil pass0) (by rfl)) (pss_cons (ps_fld (pv 1) (pe_fld (pv 0) (by rfl)) (by rfl)) (pss_one (ps_ret (pv 1)))))))), ?_⟩
    refine ⟨_, rfl, o, _, dx, _, _, rfl, ho, T.cls_Roads, T.noat_Roads_size, rfl, _, rfl, o, _, dx, _, _, rfl, ho, T.cls_Roads, T.noat_Roads_room, rfl, fun x xdx nx nxdx ne => ?_⟩
    have s1 := (same_upd (o := .own x) nxdx).trans (same_upd (o := .ins (cR K) xdx []) (p := x) (H := upd H xdx (.own x)) (by rw [upd_ne (Ne.symm ne)]; exact nx))
    have hx1 : upd (upd H xdx (.own x)) x (.ins (cR K) xdx []) x = some (.ins (cR K) xdx []) := upd_same
    generalize upd (upd H xdx (.own x)) x (.ins (cR K) xdx []) = H1 at s1 hx1
    refine ⟨x, xdx, m, r, rfl, hx1, m1, m32, mr, by omega, fun H2 rl1 ld1 k1 tl1 o2 _ _ _ _ rd2 => ⟨rfl, ?_⟩⟩
    have s2 : Same H H2 := Offs.new s1 o2 fun b hb => by rw [List.mem_singleton.mp hb]; exact nx
    obtain ⟨xd, rr1, kv1, sa, hx2, _⟩ := rd2
    have ox : o ≠ x := ne_of_none ho nx
    have ho2 := s2 _ _ ho
    -- rows
    refine ⟨_, rfl, o, _, dx, _, _, rfl, ho2, T.cls_Roads, T.noat_Roads_rows, rfl, rl, _, rfl, .inl (SqL.of (s2 _ _ hrl)), fun rl2 nrl2 => ?_⟩
    have xr : x ≠ rl2 := ne_of_none hx2 nrl2
    have or_ : o ≠ rl2 := ne_of_none ho2 nrl2
    refine ⟨_, rfl, x, _, xd, rFs m r rl1 ld1 k1 0, rfl, by rw [upd_ne xr]; exact hx2, T.cls_Roads, T.noat_Roads_rows, (show (6 : Nat) < 1000 by decide), ?_⟩
    obtain ⟨H3, hH3, o3, hx3, hr3⟩ : ∃ H3 : Hp, H3 = upd (upd H2 rl2 (.lst (rr.map V.ref))) x (.ins (cR K) xd (putF "rows" (.ref rl2) (rFs m r rl1 ld1 k1 0))) ∧ Offs [x] H2 H3 ∧ H3 x = some (.ins (cR K) xd (rFs m r rl2 ld1 k1 0)) ∧ H3 rl2 = some (.lst (rr.map V.ref)) :=
      ⟨_, rfl, Offs.upd (Offs.of (same_upd nrl2)) (by simp), upd_same, by rw [upd_ne (Ne.symm xr), upd_same]⟩
    rw [← hH3]
    have nrlH : H rl2 = none := s2.free nrl2
    have s3 : Same H H3 := Offs.new s2 o3 fun b hb => by rw [List.mem_singleton.mp hb]; exact nx
    -- left
    refine ⟨_, rfl, o, _, dx, _, _, rfl, s3 _ _ ho, T.cls_Roads, T.noat_Roads_left, rfl, ld, kvs, rfl, .inl (s3 _ _ hld), fun ld2 nld2 => ?_⟩
    have xl : x ≠ ld2 := ne_of_none hx3 nld2
    have rl_ : rl2 ≠ ld2 := ne_of_none hr3 nld2
    refine ⟨_, rfl, x, _, xd, rFs m r rl2 ld1 k1 0, rfl, by rw [upd_ne xl]; exact hx3, T.cls_Roads, T.noat_Roads_left, (show (6 : Nat) < 1000 by decide), ?_⟩
    obtain ⟨H4, hH4, o4, hx4, hr4, hl4⟩ : ∃ H4 : Hp, H4 = upd (upd H3 ld2 (.dK kvs)) x (.ins (cR K) xd (putF "left" (.ref ld2) (rFs m r rl2 ld1 k1 0))) ∧ Offs [x] H3 H4 ∧ H4 x = some (.ins (cR K) xd (rFs m r rl2 ld2 k1 0)) ∧ H4 rl2 = some (.lst (rr.map V.ref)) ∧ H4 ld2 = some (.dK kvs) :=
      ⟨_, rfl, Offs.upd (Offs.of (same_upd nld2)) (by simp), upd_same, by rw [upd_ne (Ne.symm xr), upd_ne rl_]; exact hr3, by rw [upd_ne (Ne.symm xl), upd_same]⟩
    rw [← hH4]
    have nldH : H ld2 = none := s3.free nld2
    have s4 : Same H H4 := Offs.new s3 o4 fun b hb => by rw [List.mem_singleton.mp hb]; exact nx
    -- web
    refine ⟨_, rfl, o, _, dx, _, _, rfl, s4 _ _ ho, T.cls_Roads, T.noat_Roads_web, rfl, k, kdx, _, rfl, s4 _ _ hk, rfl, ?_⟩
    refine ⟨k, a, tl, kdx, z, n, s, _, rfl, s4 _ _ hk, sh.same s4, fo, by omega, by omega, s4 _ _ htl, fun H5 k2 tl2 kdx2 s5 nk2 ntl2 kt2 hk5 htl5 => ?_⟩
    have hx5 := s5 _ _ hx4
    refine ⟨_, rfl, x, _, xd, _, rfl, hx5, T.cls_Roads, T.noat_Roads_web, (show (6 : Nat) < 1000 by decide), ?_⟩
    have s05 := s4.trans s5
    refine ⟨_, rfl, o, _, dx, _, _, rfl, by rw [upd_ne ox]; exact s05 _ _ ho, T.cls_Roads, T.noat_Roads_calls, rfl, ?_⟩
    refine ⟨_, rfl, x, _, xd, rFs m r rl2 ld2 k2 0, rfl, upd_same, T.cls_Roads, T.noat_Roads_calls, (show (6 : Nat) < 1000 by decide), ?_⟩
    have oF : ∀ u v, Offs [x] H5 (upd (upd H5 x u) x v) := fun u v => ((Offs.of (.refl _)).upd (by simp)).upd (by simp)
    have nt5 : ∀ b ∈ [x], ∀ vs, H5 b ≠ some (.tup vs) := fun b hb vs e => by rw [List.mem_singleton.mp hb, hx5] at e; cases e
    have xk : x ≠ k2 := ne_of_none hx4 nk2
    have xt : x ≠ tl2 := ne_of_none hx4 ntl2
    have rk : rl2 ≠ k2 := ne_of_none hr4 nk2
    have rt : rl2 ≠ tl2 := ne_of_none hr4 ntl2
    rw [hk] at hk'
    cases hk'
    rw [htl] at htl'
    have eps : ps.map V.ref = ps'.map V.ref := by injection htl' with e; injection e
    refine ⟨_, rfl, q _ x rl2 ld2 k2 tl2 (Offs.new s05 (oF _ _) fun b hb => by rw [List.mem_singleton.mp hb]; exact nx) ?_ ⟨xd, rr, kvs, s, upd_same, oF _ _ _ _ (by simpa using Ne.symm xr) (s5 _ _ hr4), (ta.same s05).offs (oF _ _) nt5, oF _ _ _ _ (by simpa using Ne.symm xl) (s5 _ _ hl4), kvl, lok, ⟨kdx2, a, z, n, ps, pss0, oF _ _ _ _ (by simpa using Ne.symm xk) hk5, (sh.same s05).offs (oF _ _) nt5, oF _ _ _ _ (by simpa using Ne.symm xt) htl5, (pp0.same s05).offs (oF _ _) nt5, pl⟩, rs, by simp [xk, xt], by simp [rk, rt]⟩ ⟨kdx2, a, z, n, ps', oF _ _ _ _ (by simpa using Ne.symm xk) hk5, by rw [← eps]; exact oF _ _ _ _ (by simpa using Ne.symm xt) htl5, (pp.same s05).offs (oF _ _) nt5, pl'⟩⟩
    intro b hb
    simp only [List.mem_cons, List.not_mem_nil, or_false] at hb
    rcases hb with rfl | rfl | rfl | rfl | rfl
    · exact nx
    · exact nrlH
    · exact nldH
    · exact s4.free nk2
    · exact s4.free ntl2
end
end G3
set_option Elab.async false
set_option linter.all false
set_option maxRecDepth 100000
set_option maxHeartbeats 4000000
/-! The law's draws. -/
namespace G3
open PySem PySem.Spec PyProof.Rows L2
open Lk (Part g isSon Wf PIn In Forests Acy Tie tie key RS KeptP)
section
variable {X : Cx}
/-- one statement, then the rest from a word between them -/
def tMid (t u : TS) : TS := fun D σ H => ∃ J : L2.St → Hp → Prop, t { D with nx := J } σ H ∧ ∀ σ1 H1, J σ1 H1 → u D σ1 H1
theorem pss_mid {st : Stmt} {rest : List Stmt} {t u : TS} (a : PS X st t) (b : PSs X rest u) : PSs X (st :: rest) (tMid t u) :=
  ⟨fun pins s σ H D I ⟨J, hj, hu⟩ => wpAny_execs_cons (thn (a.run pins s σ H { D with nx := J } I hj) fun f s1 q => by
    cases f with
    | next => exact (fun ⟨σ1, H1, I1, q1⟩ => b.run pins s1 σ1 H1 D I1 (hu σ1 H1 q1)) q
    | _ => exact q)⟩
end
/-- the hand that draws -/
def HandAt (H : Hp) (h cl : Addr) : Prop := ∃ (cells : List Int) (p : Nat) (d z n : Int), H h = some (.lst [.ref cl, .int p, .int d, .int z, .int n]) ∧ H cl = some (.lst (cells.map V.int)) ∧ cells.length ≤ 64 ∧ cl ≠ h
section
variable {P : Program} {w : World} {K : PySem.W.Frag} {mg : Str → Option Value} {base : Heap}
def spDraw : Sp := fun vs H Q _ => ∃ (h cl : Addr) (many : Int), vs = [.ref h, .int many] ∧ 1 ≤ many ∧ many.natAbs < 2 ^ 64 ∧ HandAt H h cl ∧ ∀ H' (x : Int), 0 ≤ x → x < many → Offs [h] H H' → HandAt H' h cl → Q (.int x) H'
theorem sc__law_draw : FnScope ["_law_hand_here", "_law_many", "_law_cell", "_law_digit", "_law_number"] ["_law_hand_here", "_law_many"] (defScope s__law_draw) := ⟨rfl, rfl, rfl, by decide +kernel, rfl, by decide +kernel, by decide +kernel⟩
theorem ok__law_draw (T : Txt w K mg) : OkF P w K mg base 1 "_law_draw" ["_law_hand_here", "_law_many"] spDraw := by
  refine okf T.glo__law_draw T.fn__law_draw sc__law_draw (fun _ _ _ _ _ _ us hl => match us, hl with | [_, _], _ => rfl) (fun vs H Q E h => ?_) (fun cdv A outer s H vs Q E hr h => ?_)
  · obtain ⟨h, cl, many, rfl, _⟩ := h; rfl
  · obtain ⟨h, cl, many, rfl, m1, m64, ha, q⟩ := h
    refine ⟨_, pss_mid (ps_if (pw_and (pt_cmpR op_eq (pe_ix ix_list (pv 0) pe_int (fun _ _ => rfl)) pe_int (nomark _)) (pw_and1 (pt_cmpR op_lt (pe_ix ix_list (pv 0) pe_int (fun _ _ => rfl)) (pe_callB call_len_seq (by rfl) T.free_len PySem.boot_len (pa_cons (pe_ix ix_list (pv 0) pe_int (fun _ _ => rfl)) pa_nil)) (nomark _)))).pt
        (pss_cons (ps_set (i := 2) sc__law_draw.nd rfl (.inl rfl) (pe_ix ix_list (pe_ix ix_list (pv 0) pe_int (fun _ _ => rfl)) (pe_ix ix_list (pv 0) pe_int (fun _ _ => rfl)) (fun _ _ => rfl))) (pss_cons (ps_asg (pe_op op_add (pe_ix ix_list (pv 0) pe_int (fun _ _ => rfl)) pe_int) (pg_sub (pv 0) pe_int set_list)) (pss_cons (ps_asg (pe_op op_mod (pe_callTy call_int1 (by rfl) T.free_int (by decide +kernel) (pa_cons (pe_op op_add (pe_op op_add (pe_op op_mul (pe_ix ix_list (pv 0) pe_int (fun _ _ => rfl)) pe_int) (pv 2)) pe_int) pa_nil)) pe_int) (pg_sub (pv 0) pe_int set_list)) (pss_one (ps_if (pt_cmpR op_ge (pv 2) (pe_op op_pow pe_int pe_int) (nomark _)) (pss_one (ps_asg (pv 2) (pg_sub (pv 0) pe_int set_list))) pss_nil))))) pss_nil)
      (pss_cons (ps_if (pt_cmpR op_gt (pe_ix ix_list (pv 0) pe_int (fun _ _ => rfl)) pe_int (nomark _)) (pss_cons (ps_set (i := 3) sc__law_draw.nd rfl (.inl rfl) (pe_op op_mod (pe_callTy call_int1 (by rfl) T.free_int (by decide +kernel) (pa_cons (pe_ix ix_list (pv 0) pe_int (fun _ _ => rfl)) pa_nil)) (pv 1))) (pss_cons (ps_asg (pe_op op_fdivW (pe_ix ix_list (pv 0) pe_int (fun _ _ => rfl)) (pv 1)) (pg_sub (pv 0) pe_int set_list)) (pss_one (ps_ret (pv 3))))) pss_nil) (pss_cons (ps_asg (pe_op op_add (pe_ix ix_list (pv 0) pe_int (fun _ _ => rfl)) pe_int) (pg_sub (pv 0) pe_int set_list)) (pss_cons (ps_set (i := 4) sc__law_draw.nd rfl (.inl rfl) (pe_op op_mod (pe_callTy call_int1 (by rfl) T.free_int (by decide +kernel) (pa_cons (pe_op op_mul (pe_callTy call_int1 (by rfl) T.free_int (by decide +kernel) (pa_cons (pe_op op_add (pe_ix ix_list (pv 0) pe_int (fun _ _ => rfl)) (pe_op op_mul pe_int (pe_ix ix_list (pv 0) pe_int (fun _ _ => rfl)))) pa_nil)) pe_int) pa_nil)) pe_int)) (pss_cons (ps_set (i := 4) sc__law_draw.nd rfl (.inl rfl) (pe_op op_mod (pe_callTy call_int1 (by rfl) T.free_int (by decide +kernel) (pa_cons (pe_op op_mul (pv 4) (pe_op op_add (pe_op op_fdiv (pv 4) pe_int) pe_int)) pa_nil)) pe_int)) (pss_cons (ps_set (i := 4) sc__law_draw.nd rfl (.inl rfl) (pe_op op_mod (pe_callTy call_int1 (by rfl) T.free_int (by decide +kernel) (pa_cons (pe_op op_mul (pv 4) (pe_op op_add (pe_op op_fdiv (pv 4) pe_int) pe_int)) pa_nil)) pe_int)) (pss_one (ps_ret (pe_op op_mod (pe_callTy call_int1 (by rfl) T.free_int (by decide +kernel) (pa_cons (pe_op op_fdiv (pv 4) pe_int) pa_nil)) (pv 1))))))))), ?_⟩
    refine ⟨fun σ1 H1 => ∃ v2, σ1 = [some (.ref h), some (.int many), v2, none, none] ∧ Offs [h] H H1 ∧ HandAt H1 h cl, ?_, ?_⟩
    · obtain ⟨cells, p, d, z, n, hh, hc, c64, ch⟩ := ha
      have ha' : HandAt H h cl := ⟨cells, p, d, z, n, hh, hc, c64, ch⟩
      refine ⟨_, rfl, _, _, _, _, rfl, rfl, SqL.of hh, rfl, rfl, _, rfl, ?_⟩
      by_cases d0 : d = 0
      · rw [show decide (V.int d = V.int 0) = true from by rw [d0]; simp]
        refine iteT ⟨_, rfl, _, _, _, _, rfl, rfl, SqL.of hh, rfl, _, rfl, _, _, _, _, rfl, rfl, SqL.of hh, rfl, cl, _, rfl, .inl (SqL.of hc), _, _, rfl, rfl, _, rfl, ?_⟩
        by_cases pl : (p : Int) < ((cells.map V.int).length : Int)
        · rw [decide_eq_true pl]
          have pl' : p < cells.length := by simpa using pl
          have hcp : (cells.map V.int)[p]? = some (.int (cells[p])) := by rw [List.getElem?_map, List.getElem?_eq_getElem pl']; rfl
          refine iteT ⟨_, rfl, _, _, _, _, rfl, rfl, SqL.of hh, rfl, _, rfl, _, _, _, _, rfl, rfl, SqL.of hh, rfl, _, _, _, _, rfl, rfl, SqL.of hc, atI_nat hcp, ?_⟩
          refine ⟨_, rfl, _, _, _, _, rfl, rfl, SqL.of hh, rfl, _, _, rfl, rfl, _, rfl, h, _, 1, 1, rfl, rfl, hh, rfl, ?_⟩
          obtain ⟨H1, hH1, o1, hh1, hc1⟩ : ∃ H1 : Hp, H1 = upd H h (.lst ([V.ref cl, V.int p, V.int d, V.int z, V.int n].set 1 (V.int ((p : Int) + 1)))) ∧ Offs [h] H H1 ∧ H1 h = some (.lst [.ref cl, .int ((p + 1 : Nat) : Int), .int d, .int z, .int n]) ∧ H1 cl = some (.lst (cells.map V.int)) :=
            ⟨_, rfl, (Offs.of (.refl _)).upd (by simp), upd_same, by rw [upd_ne ch]; exact hc⟩
          rw [← hH1]
          refine ⟨_, rfl, _, _, _, _, rfl, rfl, SqL.of hh1, rfl, _, _, rfl, rfl, .inr ⟨by decide, by decide⟩, _, rfl, _, _, rfl, rfl, _, _, rfl, rfl, .inl ⟨_, rfl, _, _, rfl, rfl, (show (0 : Int) < 2147483629 by decide), _, rfl, h, _, 3, 3, rfl, rfl, hh1, rfl, ?_⟩⟩
          obtain ⟨z2, H2, hH2, o2, hh2, hc2⟩ : ∃ (z2 : Int) (H2 : Hp), H2 = upd H1 h (.lst ([V.ref cl, V.int ((p + 1 : Nat) : Int), V.int d, V.int z, V.int n].set 3 (V.int ((z * 69621 + cells[p] + 11) % 2147483629)))) ∧ Offs [h] H1 H2 ∧ H2 h = some (.lst [.ref cl, .int ((p + 1 : Nat) : Int), .int d, .int z2, .int n]) ∧ H2 cl = some (.lst (cells.map V.int)) :=
            ⟨_, _, rfl, (Offs.of (.refl _)).upd (by simp), upd_same, by rw [upd_ne ch]; exact hc1⟩
          rw [← hH2]
          refine ⟨_, rfl, _, _, rfl, rfl, ⟨by decide, by decide, by decide⟩, _, _, rfl, rfl, _, rfl, ?_⟩
          have h2' : HandAt H2 h cl := ⟨cells, p + 1, d, z2, n, hh2, hc2, c64, ch⟩
          cases decide ((10 : Int) ^ (18 : Int).toNat ≤ cells[p]) with
          | false => exact iteF ⟨_, rfl, o1.trans o2, h2'⟩
          | true =>
            refine iteT ⟨_, rfl, _, rfl, h, _, 2, 2, rfl, rfl, hh2, rfl, ?_⟩
            exact ⟨_, rfl, (o1.trans o2).trans ((Offs.of (.refl _)).upd (by simp)), cells, p + 1, _, z2, n, upd_same, by rw [upd_ne ch]; exact hc2, c64, ch⟩
        · rw [decide_eq_false pl]
          exact iteF ⟨none, rfl, Offs.of (.refl _), ha'⟩
      · rw [show decide (V.int d = V.int 0) = false from by rw [dec_int]; exact beq_eq_false_iff_ne.mpr d0]
        exact iteF (iteF ⟨none, rfl, Offs.of (.refl _), ha'⟩)
    · rintro σ1 H1 ⟨v2, rfl, o1, cells, p, d, z, n, hh, hc, c64, ch⟩
      have mp : (0 : Int) < many := by omega
      refine ⟨_, rfl, _, _, _, _, rfl, rfl, SqL.of hh, rfl, _, _, rfl, rfl, _, rfl, ?_⟩
      by_cases dp : 0 < d
      · rw [decide_eq_true dp]
        refine iteT ⟨_, rfl, _, _, _, _, rfl, rfl, SqL.of hh, rfl, .inl ⟨_, rfl, _, rfl, _, _, rfl, rfl, mp, ?_⟩⟩
        refine ⟨_, rfl, _, _, _, _, rfl, rfl, SqL.of hh, rfl, _, rfl, _, _, rfl, rfl, wide_div mp m64 (by decide) (by decide), _, rfl, h, _, 2, 2, rfl, rfl, hh, rfl, ?_⟩
        exact ⟨_, rfl, q _ _ (Int.emod_nonneg _ (by omega)) (Int.emod_lt_of_pos _ mp) (o1.trans ((Offs.of (.refl _)).upd (by simp))) ⟨cells, p, _, z, n, upd_same, by rw [upd_ne ch]; exact hc, c64, ch⟩⟩
      · rw [decide_eq_false dp]
        refine iteF ⟨_, rfl, _, _, _, _, rfl, rfl, SqL.of hh, rfl, _, _, rfl, rfl, _, rfl, h, _, 4, 4, rfl, rfl, hh, rfl, ?_⟩
        obtain ⟨H2, hH2, o2, hh2, hc2⟩ : ∃ H2 : Hp, H2 = upd H1 h (.lst ([V.ref cl, V.int (p : Nat), V.int d, V.int z, V.int n].set 4 (V.int (n + 1)))) ∧ Offs [h] H1 H2 ∧ H2 h = some (.lst [.ref cl, .int (p : Nat), .int d, .int z, .int (n + 1)]) ∧ H2 cl = some (.lst (cells.map V.int)) :=
          ⟨_, rfl, (Offs.of (.refl _)).upd (by simp), upd_same, by rw [upd_ne ch]; exact hc⟩
        rw [← hH2]
        refine ⟨_, rfl, _, _, _, _, rfl, rfl, SqL.of hh2, rfl, _, rfl, _, _, _, _, rfl, rfl, SqL.of hh2, rfl, _, _, rfl, rfl, .inl ⟨by decide, by decide⟩, _, _, rfl, rfl, .inl ⟨_, rfl, _, _, rfl, rfl, .inr ⟨by decide, by decide⟩, .inl ⟨_, rfl, _, _, rfl, rfl, (show (0 : Int) < 2147483647 by decide), ?_⟩⟩⟩
        generalize e1 : (z + 7919 * (n + 1)) * 48271 % 2147483647 = n1
        have b1 : 0 ≤ n1 ∧ n1 < 2147483647 := by rw [← e1]; exact ⟨Int.emod_nonneg _ (by decide), Int.emod_lt_of_pos _ (by decide)⟩
        refine ⟨_, rfl, _, rfl, _, _, rfl, rfl, ⟨by decide, by decide⟩, _, _, rfl, rfl, _, _, rfl, rfl, .inl ⟨by omega, by omega⟩, .inl ⟨_, rfl, _, _, rfl, rfl, (show (0 : Int) < 2147483647 by decide), ?_⟩⟩
        generalize e2 : n1 * (n1 / 1009 + 69621) % 2147483647 = n2
        have b2 : 0 ≤ n2 ∧ n2 < 2147483647 := by rw [← e2]; exact ⟨Int.emod_nonneg _ (by decide), Int.emod_lt_of_pos _ (by decide)⟩
        refine ⟨_, rfl, _, rfl, _, _, rfl, rfl, ⟨by decide, by decide⟩, _, _, rfl, rfl, _, _, rfl, rfl, .inl ⟨by omega, by omega⟩, .inl ⟨_, rfl, _, _, rfl, rfl, (show (0 : Int) < 2147483399 by decide), ?_⟩⟩
        refine ⟨_, rfl, _, _, rfl, rfl, ⟨by decide, by decide⟩, .inl ⟨_, rfl, _, rfl, _, _, rfl, rfl, mp, ?_⟩⟩
        exact q _ _ (Int.emod_nonneg _ (by omega)) (Int.emod_lt_of_pos _ mp) (o1.trans o2) ⟨cells, p, d, z, n + 1, hh2, hc2, c64, ch⟩
end
end G3
set_option Elab.async false
set_option linter.all false
set_option maxRecDepth 100000
set_option maxHeartbeats 4000000
/-! Weights, sizes, the hand. -/
namespace G3
open PySem PySem.Spec PyProof.Rows L2
open Lk (Part g isSon Wf PIn In Forests Acy Tie tie key RS KeptP)
theorem offs_h {h : Addr} {H H' : Hp} {L : Addr} {u : HO} (o : Offs [h] H H') (e : H L = some u) (n : L ≠ h) : H' L = some u := o _ _ (by simpa using n) e
theorem HandAt.ne {H : Hp} {h cl L : Addr} (ha : HandAt H h cl) (n : H L = none) : L ≠ h := fun z => by
  obtain ⟨cells, p, d, zz, nn, hh, _⟩ := ha
  rw [z, hh] at n; cases n
theorem HandAt.same {H H' : Hp} {h cl : Addr} (ha : HandAt H h cl) (e : Same H H') : HandAt H' h cl := by
  obtain ⟨cells, p, d, z, n, hh, hc, c64, ch⟩ := ha
  exact ⟨cells, p, d, z, n, e _ _ hh, e _ _ hc, c64, ch⟩
section
variable {P : Program} {w : World} {K : PySem.W.Frag} {mg : Str → Option Value} {base : Heap}
def spWt : Sp := fun vs H Q _ => ∃ (h cl : Addr), vs = [.ref h] ∧ HandAt H h cl ∧ ∀ H' (x : Int), -(10 ^ 20) ≤ x → x ≤ 10 ^ 20 → Offs [h] H H' → HandAt H' h cl → Q (.int x) H'
theorem sc__law_weight : FnScope ["_law_hand_here"] ["_law_hand_here"] (defScope s__law_weight) := ⟨rfl, rfl, rfl, by decide +kernel, rfl, by decide +kernel, by decide +kernel⟩
theorem ok__law_weight (T : Txt w K mg) : OkF P w K mg base 2 "_law_weight" ["_law_hand_here"] spWt := by
  obtain ⟨fD, dD, GD, mD, kD, bD⟩ := (ok__law_draw (P := P) (base := base) T).ex
  refine okf T.glo__law_weight T.fn__law_weight sc__law_weight (fun _ _ _ _ _ _ us hl => match us, hl with | [_], _ => rfl) (fun vs H Q E h => ?_) (fun cdv A outer s H vs Q E hr h => ?_)
  · obtain ⟨h, cl, rfl, _⟩ := h; rfl
  · obtain ⟨h, cl, rfl, ha, q⟩ := h
    refine ⟨_, (pss_one (ps_ret (pe_ix ix_list (pe_lst (pa_cons (pe_call GD hr (by rfl) mD kD bD .nil pass0 (pa_cons (pv 0) (pa_cons pe_int pa_nil))) (pa_cons (pe_op op_sub (pe_call GD hr (by rfl) mD kD bD .nil pass0 (pa_cons (pv 0) (pa_cons pe_int pa_nil))) pe_int) (pa_cons (pe_op op_pow pe_int pe_int) (pa_cons (pe_op op_sub pe_int (pe_op op_pow pe_int pe_int)) (pa_cons pe_int (pa_cons (pe_call GD hr (by rfl) mD kD bD .nil pass0 (pa_cons (pv 0) (pa_cons (pe_op op_pow pe_int pe_int) pa_nil))) pa_nil))))))) (pe_call GD hr (by rfl) mD kD bD .nil pass0 (pa_cons (pv 0) (pa_cons pe_int pa_nil))) (fun _ _ => rfl)))), ?_⟩
    refine ⟨_, rfl, h, cl, 6, rfl, by decide, by decide, ha, fun H1 x1 a1 b1 o1 ha1 => ?_⟩
    refine ⟨_, rfl, h, cl, 200, rfl, by decide, by decide, ha1, fun H2 x2 a2 b2 o2 ha2 => ⟨_, _, rfl, rfl, ?_⟩⟩
    refine ⟨_, _, rfl, rfl, ⟨by decide, by decide, by decide⟩, _, _, rfl, rfl, ⟨by decide, by decide, by decide⟩, _, _, rfl, rfl, ?_⟩
    refine ⟨_, rfl, _, _, rfl, rfl, ⟨by decide, by decide, by decide⟩, h, cl, _, rfl, by decide +kernel, by decide +kernel, ha2, fun H3 x3 a3 b3 o3 ha3 => ?_⟩
    refine ⟨by show 6 ≤ sizeLine; decide, fun L nL => ?_⟩
    have hL := ha3.ne nL
    refine ⟨_, rfl, h, cl, 6, rfl, by decide, by decide, ha3.same (same_upd nL), fun H4 x4 a4 b4 o4 ha4 => ?_⟩
    have hL4 := offs_h o4 (upd_same (H := H3) (a := L)) hL
    obtain ⟨j, hj⟩ : ∃ j : Nat, x4 = (j : Int) := ⟨x4.toNat, by omega⟩
    subst hj
    have b3' : x3 < 1000000000000 := by
      have : (10 : Int) ^ (12 : Int).toNat = 1000000000000 := by decide +kernel
      rw [this] at b3; exact b3
    have e19 : (10 : Int) ^ (19 : Int).toNat = 10000000000000000000 := by decide +kernel
    have oo := (((o1.trans o2).trans o3).same (same_upd nL)).trans o4
    have fin : ∀ y : Int, -(10 ^ 20) ≤ y → y ≤ 10 ^ 20 → ([V.int x1, V.int (x2 - 100), V.int ((10 : Int) ^ (19 : Int).toNat), V.int (1 - (10 : Int) ^ (19 : Int).toNat), V.int 0, V.int x3] : List V)[j]? = some (.int y) → rIxL K (.ref L) (.int (j : Nat)) H4 Q := fun y y1 y2 e => ⟨_, _, _, _, rfl, rfl, SqL.of hL4, atI_nat e, q _ y y1 y2 oo ha4⟩
    match j, b4 with
    | 0, _ => exact fin x1 (by omega) (by omega) rfl
    | 1, _ => exact fin (x2 - 100) (by omega) (by omega) rfl
    | 2, _ => exact fin _ (by rw [e19]; decide) (by rw [e19]; decide) rfl
    | 3, _ => exact fin _ (by rw [e19]; decide) (by rw [e19]; decide) rfl
    | 4, _ => exact fin 0 (by decide) (by decide) rfl
    | 5, _ => exact fin x3 (by omega) (by omega) rfl
    | j + 6, hb => omega
/-! ### sizes -/
def Sz (H : Hp) (v : V) : Prop := ∃ (p : Addr) (m r : Nat), v = .ref p ∧ H p = some (.tup [.int (m : Nat), .int (r : Nat)]) ∧ 1 ≤ m ∧ m ≤ 32 ∧ 2 ≤ m + r ∧ m + r ≤ 64
theorem Sz.same {H H' : Hp} {v : V} (h : Sz H v) (e : Same H H') : Sz H' v := by
  obtain ⟨p, m, r, h1, h2, h3⟩ := h
  exact ⟨p, m, r, h1, e _ _ h2, h3⟩
theorem Sz.offs {h cl : Addr} {H H' : Hp} {v : V} (z : Sz H v) (ha : HandAt H h cl) (e : Offs [h] H H') : Sz H' v := by
  obtain ⟨p, m, r, h1, h2, h3⟩ := z
  obtain ⟨cells, pp, d, zz, nn, hh, _⟩ := ha
  exact ⟨p, m, r, h1, offs_h e h2 (fun q => by rw [q, hh] at h2; cases h2), h3⟩
theorem sz_new {H : Hp} {p : Addr} (n : H p = none) {m r : Nat} (h : 1 ≤ m ∧ m ≤ 32 ∧ 2 ≤ m + r ∧ m + r ≤ 64) : Sz (upd H p (.tup [.int (m : Nat), .int (r : Nat)])) (.ref p) := ⟨p, m, r, rfl, upd_same, h⟩
def spSize : Sp := fun vs H Q _ => ∃ (h cl : Addr), vs = [.ref h] ∧ HandAt H h cl ∧ ∀ H' v, Sz H' v → Offs [h] H H' → HandAt H' h cl → Q v H'
theorem sc__law_size : FnScope ["_law_hand_here"] ["_law_hand_here"] (defScope s__law_size) := ⟨rfl, rfl, rfl, by decide +kernel, rfl, by decide +kernel, by decide +kernel⟩
theorem ok__law_size (T : Txt w K mg) : OkF P w K mg base 2 "_law_size" ["_law_hand_here"] spSize := by
  obtain ⟨fD, dD, GD, mD, kD, bD⟩ := (ok__law_draw (P := P) (base := base) T).ex
  refine okf T.glo__law_size T.fn__law_size sc__law_size (fun _ _ _ _ _ _ us hl => match us, hl with | [_], _ => rfl) (fun vs H Q E h => ?_) (fun cdv A outer s H vs Q E hr h => ?_)
  · obtain ⟨h, cl, rfl, _⟩ := h; rfl
  · obtain ⟨h, cl, rfl, ha, q⟩ := h
    refine ⟨_, (pss_one (ps_ret (pe_ix ix_list (pe_lst (pa_cons (pe_tup (pa_cons pe_int (pa_cons pe_int pa_nil))) (pa_cons (pe_tup (pa_cons pe_int (pa_cons pe_int pa_nil))) (pa_cons (pe_tup (pa_cons pe_int (pa_cons pe_int pa_nil))) (pa_cons (pe_tup (pa_cons pe_int (pa_cons pe_int pa_nil))) (pa_cons (pe_tup (pa_cons pe_int (pa_cons pe_int pa_nil))) (pa_cons (pe_tup (pa_cons pe_int (pa_cons pe_int pa_nil))) (pa_cons (pe_tup (pa_cons pe_int (pa_cons pe_int pa_nil))) (pa_cons (pe_tup (pa_cons pe_int (pa_cons pe_int pa_nil))) (pa_cons (pe_ix ix_list (pe_lst (pa_cons (pe_tup (pa_cons pe_int (pa_cons pe_int pa_nil))) (pa_cons (pe_tup (pa_cons pe_int (pa_cons pe_int pa_nil))) (pa_cons (pe_tup (pa_cons pe_int (pa_cons pe_int pa_nil))) pa_nil)))) (pe_call GD hr (by rfl) mD kD bD .nil pass0 (pa_cons (pv 0) (pa_cons pe_int pa_nil))) (fun _ _ => rfl)) pa_nil)))))))))) (pe_op op_add (pe_call GD hr (by rfl) mD kD bD .nil pass0 (pa_cons (pv 0) (pa_cons pe_int pa_nil))) (pe_callTy call_int1 (by rfl) T.free_int (by decide +kernel) (pa_cons (pe_cmpR op_eq (pe_call GD hr (by rfl) mD kD bD .nil pass0 (pa_cons (pv 0) (pa_cons pe_int pa_nil))) pe_int (nomark _)) pa_nil))) (fun _ _ => rfl)))), ?_⟩
    refine ⟨by show 2 ≤ sizeLine; decide, fun t1 n1 => ?_⟩
    have z1 := sz_new (m := 1) (r := 3) n1 (by decide)
    have u1 := same_upd (o := .tup [.int ((1 : Nat) : Int), .int ((3 : Nat) : Int)]) n1
    refine ⟨by show 2 ≤ sizeLine; decide, fun t2 n2 => ?_⟩
    have z2 := sz_new (m := 2) (r := 8) n2 (by decide)
    have u2 := same_upd (o := .tup [.int ((2 : Nat) : Int), .int ((8 : Nat) : Int)]) n2
    refine ⟨by show 2 ≤ sizeLine; decide, fun t3 n3 => ?_⟩
    have z3 := sz_new (m := 3) (r := 12) n3 (by decide)
    have u3 := same_upd (o := .tup [.int ((3 : Nat) : Int), .int ((12 : Nat) : Int)]) n3
    refine ⟨by show 2 ≤ sizeLine; decide, fun t4 n4 => ?_⟩
    have z4 := sz_new (m := 5) (r := 16) n4 (by decide)
    have u4 := same_upd (o := .tup [.int ((5 : Nat) : Int), .int ((16 : Nat) : Int)]) n4
    refine ⟨by show 2 ≤ sizeLine; decide, fun t5 n5 => ?_⟩
    have z5 := sz_new (m := 4) (r := 10) n5 (by decide)
    have u5 := same_upd (o := .tup [.int ((4 : Nat) : Int), .int ((10 : Nat) : Int)]) n5
    refine ⟨by show 2 ≤ sizeLine; decide, fun t6 n6 => ?_⟩
    have z6 := sz_new (m := 8) (r := 14) n6 (by decide)
    have u6 := same_upd (o := .tup [.int ((8 : Nat) : Int), .int ((14 : Nat) : Int)]) n6
    refine ⟨by show 2 ≤ sizeLine; decide, fun t7 n7 => ?_⟩
    have z7 := sz_new (m := 4) (r := 0) n7 (by decide)
    have u7 := same_upd (o := .tup [.int ((4 : Nat) : Int), .int ((0 : Nat) : Int)]) n7
    refine ⟨by show 2 ≤ sizeLine; decide, fun t8 n8 => ?_⟩
    have z8 := sz_new (m := 10) (r := 16) n8 (by decide)
    have u8 := same_upd (o := .tup [.int ((10 : Nat) : Int), .int ((16 : Nat) : Int)]) n8
    refine ⟨by show 2 ≤ sizeLine; decide, fun t9 n9 => ?_⟩
    have z9 := sz_new (m := 6) (r := 58) n9 (by decide)
    have u9 := same_upd (o := .tup [.int ((6 : Nat) : Int), .int ((58 : Nat) : Int)]) n9
    refine ⟨by show 2 ≤ sizeLine; decide, fun ta na => ?_⟩
    have za := sz_new (m := 32) (r := 32) na (by decide)
    have ua := same_upd (o := .tup [.int ((32 : Nat) : Int), .int ((32 : Nat) : Int)]) na
    refine ⟨by show 2 ≤ sizeLine; decide, fun tb nb => ?_⟩
    have zb := sz_new (m := 5) (r := 40) nb (by decide)
    have ub := same_upd (o := .tup [.int ((5 : Nat) : Int), .int ((40 : Nat) : Int)]) nb
    refine ⟨by show 3 ≤ sizeLine; decide, fun L nL => ?_⟩
    have ul := same_upd (o := .lst [.ref t9, .ref ta, .ref tb]) nL
    have xb := zb.same ul
    have ubl := ub.trans ul
    have xa := za.same ubl
    have ual := ua.trans ubl
    have x9 := z9.same ual
    have u9l := u9.trans ual
    have x8 := z8.same u9l
    have u8l := u8.trans u9l
    have x7 := z7.same u8l
    have u7l := u7.trans u8l
    have x6 := z6.same u7l
    have u6l := u6.trans u7l
    have x5 := z5.same u6l
    have u5l := u5.trans u6l
    have x4 := z4.same u5l
    have u4l := u4.trans u5l
    have x3 := z3.same u4l
    have u3l := u3.trans u4l
    have x2 := z2.same u3l
    have u2l := u2.trans u3l
    have x1 := z1.same u2l
    have u1l := u1.trans u2l
    have haL := ha.same u1l
    have Lh : L ≠ h := (ha.same (u1.trans (u2.trans (u3.trans (u4.trans (u5.trans (u6.trans (u7.trans (u8.trans (u9.trans (ua.trans ub))))))))))).ne nL
    refine ⟨_, rfl, h, cl, 3, rfl, by decide, by decide, haL, fun H1 y1 a1 b1 o1 ha1 => ?_⟩
    have hL1 := offs_h o1 upd_same Lh
    obtain ⟨j, hj⟩ : ∃ j : Nat, y1 = (j : Int) := ⟨y1.toNat, by omega⟩
    subst hj
    have all3 : ∀ v ∈ ([.ref t9, .ref ta, .ref tb] : List V), Sz H1 v := fun v hv => by
      simp only [List.mem_cons, List.not_mem_nil, or_false] at hv
      rcases hv with rfl | rfl | rfl
      · exact x9.offs haL o1
      · exact xa.offs haL o1
      · exact xb.offs haL o1
    have j3 : j < ([.ref t9, .ref ta, .ref tb] : List V).length := by show j < 3; omega
    have ej := List.getElem?_eq_getElem j3
    have zj := all3 _ (List.getElem_mem j3)
    generalize ([.ref t9, .ref ta, .ref tb] : List V)[j] = v9 at ej zj
    refine ⟨_, _, _, _, rfl, rfl, SqL.of hL1, atI_nat ej, by show 9 ≤ sizeLine; decide, fun M nM => ?_⟩
    have um := same_upd (o := .lst [.ref t1, .ref t2, .ref t3, .ref t4, .ref t5, .ref t6, .ref t7, .ref t8, v9]) nM
    have ha2 := ha1.same um
    have Mh := ha1.ne nM
    refine ⟨_, rfl, h, cl, 8, rfl, by decide, by decide, ha2, fun H2 y2 a2 b2 o2 ha3 => ?_⟩
    refine ⟨_, rfl, h, cl, 12, rfl, by decide, by decide, ha3, fun H3 y3 a3 b3 o3 ha4 => ⟨rfl, .inr ⟨_, rfl, _, _, rfl, rfl, ?_⟩⟩⟩
    have hM3 := offs_h o3 (offs_h o2 upd_same Mh) Mh
    have all9 : ∀ v ∈ ([.ref t1, .ref t2, .ref t3, .ref t4, .ref t5, .ref t6, .ref t7, .ref t8, v9] : List V), Sz H3 v := fun v hv => by
      simp only [List.mem_cons, List.not_mem_nil, or_false] at hv
      have go : ∀ {v}, Sz H1 v → Sz H3 v := fun {v} z => ((z.same um).offs ha2 o2).offs ha3 o3
      rcases hv with rfl | rfl | rfl | rfl | rfl | rfl | rfl | rfl | rfl
      · exact go (x1.offs haL o1)
      · exact go (x2.offs haL o1)
      · exact go (x3.offs haL o1)
      · exact go (x4.offs haL o1)
      · exact go (x5.offs haL o1)
      · exact go (x6.offs haL o1)
      · exact go (x7.offs haL o1)
      · exact go (x8.offs haL o1)
      · exact go zj
    obtain ⟨i, hi⟩ : ∃ i : Nat, y2 + (if decide (V.int y3 = V.int 0) = true then (1 : Int) else 0) = (i : Int) := ⟨(y2 + (if decide (V.int y3 = V.int 0) = true then (1 : Int) else 0)).toNat, by split <;> omega⟩
    have i9 : i < ([.ref t1, .ref t2, .ref t3, .ref t4, .ref t5, .ref t6, .ref t7, .ref t8, v9] : List V).length := by show i < 9; split at hi <;> omega
    show rIxL K (.ref M) (.int (y2 + (if decide (V.int y3 = V.int 0) = true then (1 : Int) else 0))) H3 _
    rw [hi]
    refine ⟨_, _, _, _, rfl, rfl, SqL.of hM3, atI_nat (List.getElem?_eq_getElem i9), ?_⟩
    exact q _ _ (all9 _ (List.getElem_mem i9)) (((Offs.of u1l).trans o1).trans (((Offs.of um).trans o2).trans o3)) ha4
end
end G3
set_option Elab.async false
set_option linter.all false
set_option maxRecDepth 100000
set_option maxHeartbeats 4000000
/-! The hand, one tie drawn. -/
namespace G3
open PySem PySem.Spec PyProof.Rows L2
open Lk (Part g isSon Wf PIn In Forests Acy Tie tie key RS KeptP)
section
variable {P : Program} {w : World} {K : PySem.W.Frag} {mg : Str → Option Value} {base : Heap}
def spHand : Sp := fun vs H Q _ => ∃ (a : Addr) (ns : List Int), vs = [.ref a] ∧ SqL K H a (ns.map V.int) ∧ ∀ H' h cl, Same H H' → H h = none → H cl = none → HandAt H' h cl → Q (.ref h) H'
theorem sc__law_hand : FnScope ["_law_script", "_law_cells", "_law_cell"] ["_law_script"] (defScope s__law_hand) := ⟨rfl, rfl, rfl, by decide +kernel, rfl, by decide +kernel, by decide +kernel⟩
theorem cut63 (xs : List V) : (cutV xs none (some 63)).length ≤ 63 ∧ ∀ v ∈ cutV xs none (some 63), v ∈ xs := by
  unfold cutV
  rw [show (63 : Int) = ((63 : Nat) : Int) from rfl, HT.sIx_nat, HT.sIx_none]
  refine ⟨by rw [List.length_take, List.length_drop]; omega, fun v hv => ?_⟩
  exact List.mem_of_mem_drop (List.mem_of_mem_take hv)
theorem ok__law_hand (T : Txt w K mg) : OkF P w K mg base 1 "_law_hand" ["_law_script"] (spHand (K := K)) := by
  refine okf T.glo__law_hand T.fn__law_hand sc__law_hand (fun _ _ _ _ _ _ us hl => match us, hl with | [_], _ => rfl) (fun vs H Q E h => ?_) (fun cdv A outer s H vs Q E hr h => ?_)
  · obtain ⟨a, ns, rfl, _⟩ := h; rfl
  · obtain ⟨a, ns, rfl, ha, q⟩ := h
    refine ⟨_, (pss_cons (ps_setLc (i := 1) (g := gName 2) (own := [("_law_cell", 2)]) rfl sc__law_hand.nd rfl rfl (sw_true rfl rfl rfl (by decide +kernel)) (pi_list (pe_slice sl_list (pv 0) po_none (po_some pe_int))) (blkOk_by (N := ["_law_script", "_law_cells", "_law_cell"]) (sc := defScope s__law_hand) (by decide +kernel)) (fun _ _ _ _ _ => pg_name (i := 2) sc__law_hand.nd rfl (.inl rfl)) (fun _ _ _ _ _ => pts_nil) (fun _ _ _ _ _ => pe_callB call_abs (by rfl) T.free_abs (by decide +kernel) (pa_cons (pe_callTy call_int1 (by rfl) T.free_int (by decide +kernel) (pa_cons (pv 2) pa_nil)) pa_nil))) (pss_one (ps_ret (pe_lst (pa_cons (pv 1) (pa_cons pe_int (pa_cons pe_int (pa_cons (pe_op op_add pe_int (pe_callB call_len_seq (by rfl) T.free_len PySem.boot_len (pa_cons (pv 1) pa_nil))) (pa_cons pe_int pa_nil))))))))), ?_⟩
    obtain ⟨c63, cin⟩ := cut63 (ns.map V.int)
    refine ⟨_, rfl, _, rfl, a, _, rfl, ha, fun p np => ?_⟩
    have s1 := same_upd (o := .lst (cutV (ns.map V.int) none (some 63))) np
    have hp1 : upd H p (.lst (cutV (ns.map V.int) none (some 63))) p = some (.lst (cutV (ns.map V.int) none (some 63))) := upd_same
    generalize cutV (ns.map V.int) none (some 63) = cs at c63 cin s1 hp1
    generalize upd H p (.lst cs) = H1 at s1 hp1
    refine ⟨p, rfl, ⟨_, SqL.of hp1⟩, fun D nD => ?_⟩
    refine lc_rel (walk_list (K := K) (a := p) (xs := cs)) nD (by omega) (fun _ v _ => ∃ z : Int, v = V.int z) (fun _ _ _ _ _ h => h) (fun H s2 => SqL.of (s2 _ _ hp1)) ?_ ?_
    · rintro i v H2 _ Fin N hi s2 _ ⟨rfl, hv⟩ fin
      obtain ⟨z, _, rfl⟩ := List.mem_map.mp (cin v (List.mem_of_getElem? hv))
      exact ⟨rfl, tyes ⟨_, rfl, .inl ⟨z, rfl, z, rfl, fin _ _ (.refl _) ⟨_, rfl⟩⟩⟩⟩
    · intro H2 acc s2 la hD hR
      obtain ⟨zs, rfl⟩ := ints_of hR
      refine ⟨_, rfl, _, rfl, D, _, rfl, .inl (SqL.of hD), _, _, rfl, rfl, by show 5 ≤ sizeLine; decide, fun h nh => ?_⟩
      have s3 := same_upd (o := .lst [.ref D, .int 0, .int 0, .int (1 + ((zs.map V.int).length : Int)), .int 0]) nh
      have Dh : D ≠ h := ne_of_none hD nh
      refine q _ h D ((s1.trans s2).trans s3) ((s1.trans s2).free nh) (s1.free nD) ⟨zs, 0, 0, _, 0, upd_same, by rw [upd_ne Dh]; exact hD, by simp at la; omega, Dh⟩
end
end G3
set_option Elab.async false
set_option linter.all false
set_option maxRecDepth 100000
set_option maxHeartbeats 4000000
/-! One tie drawn comes. -/
namespace G3
open PySem PySem.Spec PyProof.Rows L2
open Lk (Part g isSon Wf PIn In Forests Acy Tie tie key RS KeptP)
def LRows (H : Hp) (lr : Addr) (R : Lk.Rows) : Prop := ∃ rr : List Addr, H lr = some (.lst (rr.map V.ref)) ∧ TieAt H rr R
/-- roads at o, the asker's own rows at lr; the addresses that may change -/
structure Side (K : PySem.W.Frag) (H : Hp) (lr o rl ld k tl : Addr) (m r : Nat) (R : Lk.Rows) (c : Int) (mm : Nat) : Prop where
  rd : RdS K H o rl ld k tl m r R c mm
  rows : LRows H lr R
  ne : lr ∉ [o, rl, ld, k, tl]
def cells (lr o rl ld k tl : Addr) : List Addr := [lr, o, rl, ld, k, tl]
/-- no tuple lies there -/
theorem Side.nt {K : PySem.W.Frag} {H : Hp} {lr o rl ld k tl : Addr} {m r : Nat} {R : Lk.Rows} {c : Int} {mm : Nat} (S : Side K H lr o rl ld k tl m r R c mm) : ∀ b ∈ cells lr o rl ld k tl, (∀ vs, H b ≠ some (.tup vs)) ∧ H b ≠ none := by
  obtain ⟨dx, rr, kvs, s, ho, hrl, ta, hld, _, _, ⟨kdx, a, z, n, ps, pss, hk, _, htl, _⟩, _⟩ := S.rd
  obtain ⟨r2, hlr, _⟩ := S.rows
  intro b hb
  have : ∀ {u}, H b = some u → (∀ vs, u ≠ .tup vs) → (∀ vs, H b ≠ some (.tup vs)) ∧ H b ≠ none := fun {u} e n => ⟨fun vs q => by rw [e] at q; exact n vs (Option.some.inj q), fun q => by rw [e] at q; cases q⟩
  simp only [cells, List.mem_cons, List.not_mem_nil, or_false] at hb
  rcases hb with rfl | rfl | rfl | rfl | rfl | rfl
  · exact this hlr (fun _ q => by cases q)
  · exact this ho (fun _ q => by cases q)
  · exact this hrl (fun _ q => by cases q)
  · exact this hld (fun _ q => by cases q)
  · exact this hk (fun _ q => by cases q)
  · exact this htl (fun _ q => by cases q)
theorem RdS.offs {K : PySem.W.Frag} {xs : List Addr} {H H' : Hp} {o rl ld k tl : Addr} {m r : Nat} {R : Lk.Rows} {c : Int} {mm : Nat} (h : RdS K H o rl ld k tl m r R c mm) (e : Offs xs H H') (nt : ∀ b ∈ xs, ∀ vs, H b ≠ some (.tup vs)) (n : ∀ b ∈ [o, rl, ld, k, tl], b ∉ xs) : RdS K H' o rl ld k tl m r R c mm := by
  obtain ⟨dx, rr, kvs, s, ho, hrl, ta, hld, h1, h2, kt, h3, h4, h5⟩ := h
  exact ⟨dx, rr, kvs, s, e _ _ (n _ (by simp)) ho, e _ _ (n _ (by simp)) hrl, ta.offs e nt, e _ _ (n _ (by simp)) hld, h1, h2, kt.offs e nt (n _ (by simp)) (n _ (by simp)), h3, h4, h5⟩
theorem LRows.offs {xs : List Addr} {H H' : Hp} {lr : Addr} {R : Lk.Rows} (h : LRows H lr R) (e : Offs xs H H') (nt : ∀ b ∈ xs, ∀ vs, H b ≠ some (.tup vs)) (n : lr ∉ xs) : LRows H' lr R := by
  obtain ⟨rr, h1, h2⟩ := h
  exact ⟨rr, e _ _ n h1, h2.offs e nt⟩
theorem Side.offs {K : PySem.W.Frag} {xs : List Addr} {H H' : Hp} {lr o rl ld k tl : Addr} {m r : Nat} {R : Lk.Rows} {c : Int} {mm : Nat} (h : Side K H lr o rl ld k tl m r R c mm) (e : Offs xs H H') (nt : ∀ b ∈ xs, ∀ vs, H b ≠ some (.tup vs)) (n : ∀ b ∈ cells lr o rl ld k tl, b ∉ xs) : Side K H' lr o rl ld k tl m r R c mm :=
  ⟨h.rd.offs e nt fun b hb => n b (List.mem_cons_of_mem _ hb), h.rows.offs e nt (n _ (List.mem_cons_self ..)), h.ne⟩
theorem Side.same {K : PySem.W.Frag} {H H' : Hp} {lr o rl ld k tl : Addr} {m r : Nat} {R : Lk.Rows} {c : Int} {mm : Nat} (h : Side K H lr o rl ld k tl m r R c mm) (e : Same H H') : Side K H' lr o rl ld k tl m r R c mm := h.offs (Offs.of (xs := []) e) (by simp) (by simp)
theorem HandAt.nt {H : Hp} {h cl : Addr} (ha : HandAt H h cl) : ∀ b ∈ [h], ∀ vs, H b ≠ some (.tup vs) := fun b hb vs e => by
  obtain ⟨cs, p, d, z, n, hh, _⟩ := ha
  rw [List.mem_singleton.mp hb, hh] at e; cases e
theorem HandAt.offs {xs : List Addr} {H H' : Hp} {h cl : Addr} (ha : HandAt H h cl) (e : Offs xs H H') (n1 : h ∉ xs) (n2 : cl ∉ xs) : HandAt H' h cl := by
  obtain ⟨cs, p, d, z, n, hh, hc, c64, ch⟩ := ha
  exact ⟨cs, p, d, z, n, e _ _ n1 hh, e _ _ n2 hc, c64, ch⟩
section
variable {P : Program} {w : World} {K : PySem.W.Frag} {mg : Str → Option Value} {base : Heap}
def spCame : Sp := fun vs H Q _ => ∃ (h cl lr o rl ld k tl : Addr) (m r mm : Nat) (R : Lk.Rows) (c : Int), vs = [.ref h, .ref o, .int m, .int r, .ref lr] ∧ HandAt H h cl ∧ Side K H lr o rl ld k tl m r R c mm ∧ h ∉ cells lr o rl ld k tl ∧ cl ∉ cells lr o rl ld k tl ∧ 1 ≤ m ∧ m ≤ 64 ∧ mm ≤ 50000 ∧
  ∀ H' R' c' mm', Offs (h :: cells lr o rl ld k tl) H H' → HandAt H' h cl → Side K H' lr o rl ld k tl m r R' c' mm' → c ≤ c' → c' ≤ c + 1 → mm' ≤ mm + 58 → Q .non H'
theorem sc__law_came : FnScope ["_law_hand_here", "_law_roads", "_law_many", "_law_most", "_law_rows", "_law_one", "_law_other"] ["_law_hand_here", "_law_roads", "_law_many", "_law_most", "_law_rows"] (defScope s__law_came) := ⟨rfl, rfl, rfl, by decide +kernel, rfl, by decide +kernel, by decide +kernel⟩
theorem ok__law_came (T : Txt w K mg) : OkF P w K mg base 74 "_law_came" ["_law_hand_here", "_law_roads", "_law_many", "_law_most", "_law_rows"] (spCame (K := K)) := by
  obtain ⟨fD, dD, GD, mD, kD, bD⟩ := (ok__law_draw (P := P) (base := base) T).ex
  obtain ⟨fW, dW, GW, mW, kW, bW⟩ := (ok__law_weight (P := P) (base := base) T).ex
  obtain ⟨fC, dC, GC, mC, cC, bC⟩ := (ok_Roads_come (P := P) (base := base) T).ex
  refine okf T.glo__law_came T.fn__law_came sc__law_came (fun _ _ _ _ _ _ us hl => match us, hl with | [_, _, _, _, _], _ => rfl) (fun vs H Q E h => ?_) (fun cdv A outer s H vs Q E hr h => ?_)
  · obtain ⟨h, cl, lr, o, rl, ld, k, tl, m, r, mm, R, c, rfl, _⟩ := h; rfl
  · obtain ⟨h, cl, lr, o, rl, ld, k, tl, m, r, mm, R, c, rfl, ha, S, nh, nc, m1, m64, hm, q⟩ := h
    have hr1 : Room 1 _ := hr.mono (by decide)
    have hr2 : Room 2 _ := hr.mono (by decide)
    refine ⟨_, (pss_cons (ps_par (i := 5) (j := 6) rfl sc__law_came.nd rfl rfl (by decide) rfl rfl (pa_cons (pe_call GD hr1 (by rfl) mD kD bD .nil pass0 (pa_cons (pv 0) (pa_cons (pv 2) pa_nil))) (pa_cons (pe_call GD hr1 (by rfl) mD kD bD .nil pass0 (pa_cons (pv 0) (pa_cons (pv 2) pa_nil))) pa_nil)) (by rfl)) (pss_one (ps_if (pw_and (pt_cmpR op_ne (pv 5) (pv 6) (nomark _)) (pw_and1 (pt_cmpR op_lt (pe_callB call_len_seq (by rfl) T.free_len PySem.boot_len (pa_cons (pv 4) pa_nil)) (pv 3) (nomark _)))).pt (pss_cons (ps_expr (pe_bm PySem.F.plainAttrs_list PySem.F.slot_list_append PySem.F.type_list_append mt_append (pv 4) (pa_cons (pe_tup (pa_cons (pv 5) (pa_cons (pv 6) (pa_cons (pe_call GW hr2 (by rfl) mW kW bW .nil pass0 (pa_cons (pv 0) pa_nil)) pa_nil)))) pa_nil))) (pss_one (ps_expr (pe_meth (pv 1) cC mC GC hr bC .nil pass0 (pa_cons (pv 5) (pa_cons (pv 6) (pa_cons (pe_ix ix_tup (pe_ix ix_list (pv 4) (pe_un un_neg pe_int) (fun _ _ => rfl)) pe_int (fun _ _ => rfl)) pa_nil))))))) pss_nil))), ?_⟩
    have offH : ∀ {H H' : Hp}, HandAt H h cl → Offs [h] H H' → Side K H lr o rl ld k tl m r R c mm → Side K H' lr o rl ld k tl m r R c mm := fun {H H'} a e S => S.offs e a.nt fun b hb z => nh (by rw [← List.mem_singleton.mp z]; exact hb)
    refine ⟨_, rfl, _, rfl, h, cl, (m : Int), rfl, by omega, by omega, ha, fun H1 x1 a1 b1 o1 ha1 => ?_⟩
    refine ⟨_, rfl, _, rfl, h, cl, (m : Int), rfl, by omega, by omega, ha1, fun H2 x2 a2 b2 o2 ha2 => ⟨_, _, rfl, ?_⟩⟩
    have S2 := offH ha1 o2 (offH ha o1 S)
    obtain ⟨i, rfl⟩ : ∃ i : Nat, x1 = (i : Int) := ⟨x1.toNat, by omega⟩
    obtain ⟨j, rfl⟩ : ∃ j : Nat, x2 = (j : Int) := ⟨x2.toNat, by omega⟩
    have o12 : Offs (h :: cells lr o rl ld k tl) H H2 := (o1.trans o2).more (by simp)
    have quit : Q .non H2 := q H2 R c mm o12 ha2 S2 (Int.le_refl _) (by omega) (by omega)
    refine ⟨_, rfl, _, rfl, rfl, _, rfl, ?_⟩
    by_cases ij : i = j
    · subst ij
      rw [show (!decide (V.int (i : Int) = V.int (i : Int))) = false from by simp]
      exact iteF (iteF quit)
    rw [show (!decide (V.int (i : Int) = V.int (j : Int))) = true from by
      have : decide (V.int (i : Int) = V.int (j : Int)) = false := by rw [dec_int]; exact beq_eq_false_iff_ne.mpr (by omega)
      rw [this]; rfl]
    obtain ⟨rr, hlr, ta⟩ := S2.rows
    have rl_ := ta.len
    refine iteT ⟨_, rfl, lr, _, rfl, .inl (SqL.of hlr), _, rfl, _, _, rfl, rfl, _, rfl, ?_⟩
    by_cases lt : ((rr.map V.ref).length : Int) < (r : Int)
    · rw [decide_eq_true lt]
      have lt' : R.length < r := by simp at lt; omega
      refine iteT ⟨_, rfl, .inl ⟨rfl, _, SqL.of hlr⟩, _, rfl, _, rfl, _, rfl, h, cl, rfl, ha2, fun H3 wt w1 w2 o3 ha3 => ?_⟩
      have S3 := offH ha2 o3 S2
      obtain ⟨rr3, hlr3, ta3⟩ := S3.rows
      have nlr : lr ∉ [h] := fun z => nh (by rw [← List.mem_singleton.mp z]; simp [cells])
      rw [o3 _ _ nlr hlr] at hlr3
      have err : rr.map V.ref = rr3.map V.ref := by injection hlr3 with e; injection e
      refine ⟨by show 3 ≤ sizeLine; decide, fun p np => ?_⟩
      have s4 := same_upd (o := .tup [V.int (i : Nat), V.int (j : Nat), V.int wt]) np
      have hlr4 := s4 _ _ (o3 _ _ nlr hlr)
      have R64 : R.length ≤ 64 := by
        obtain ⟨_, _, _, _, _, _, _, _, _, _, _, rs, _⟩ := S3.rd
        exact rs.ok.1
      refine ⟨lr, _, _, rfl, rfl, hlr4, small1000 (by simp <;> omega), ?_⟩
      have S4 := S3.same s4
      obtain ⟨H4, hH4, hp4⟩ : ∃ H4 : Hp, H4 = upd H3 p (.tup [V.int (i : Nat), V.int (j : Nat), V.int wt]) ∧ H4 p = some (.tup [nI i, nI j, .int wt]) := ⟨_, rfl, upd_same⟩
      obtain ⟨H5, hH5, o5, hlr5⟩ : ∃ H5 : Hp, H5 = upd H4 lr (.lst (rr.map V.ref ++ [.ref p])) ∧ Offs [lr] H4 H5 ∧ H5 lr = some (.lst (rr.map V.ref ++ [.ref p])) := ⟨_, rfl, (Offs.of (.refl _)).upd (by simp), upd_same⟩
      rw [← hH4] at S4 hlr4 s4
      have plr : p ≠ lr := fun z => by rw [z, hlr4] at hp4; cases hp4
      have hp5 := o5 _ _ (by simpa using plr) hp4
      have nt4 : ∀ b ∈ [lr], ∀ vs, H4 b ≠ some (.tup vs) := fun b hb vs e => by rw [List.mem_singleton.mp hb, hlr4] at e; cases e
      have rd5 := S4.rd.offs o5 nt4 fun b hb z => S4.ne (by rw [← List.mem_singleton.mp z]; exact hb)
      have lrows5 : LRows H5 lr (R ++ [⟨i, j, wt⟩]) := by
        obtain ⟨rr4, hlr4', ta4⟩ := S4.rows
        rw [hlr4] at hlr4'
        have e4 : rr.map V.ref = rr4.map V.ref := by injection hlr4' with e; injection e
        exact ⟨rr4 ++ [p], by rw [hlr5, e4, List.map_append]; rfl, (ta4.offs o5 nt4).snoc hp5⟩
      have ha4 := ha3.same s4
      have hlh : lr ≠ h := fun z => nlr (by simp [z])
      have lcl : cl ≠ lr := fun z => nc (by simp [cells, z])
      have ha5 := ha4.offs o5 (by simpa using Ne.symm hlh) (by simpa using lcl)
      rw [← hH4, ← hH5]
      obtain ⟨dx, rr', kvs, s', ho5, _⟩ := id rd5
      refine ⟨_, rfl, o, dx, _, rfl, ho5, rfl, _, rfl, _, rfl, _, rfl, _, rfl, _, _, _, _, rfl, rfl, SqL.of hlr5, atI_last _ _, _, _, _, _, rfl, rfl, SqT.of (hp5),  rfl, ?_⟩
      refine ⟨o, rl, ld, k, tl, m, r, i, j, mm, R, wt, c, rfl, rd5, hm, by omega, by omega, by omega, w1, w2, lt', fun H6 v o6 rd6 => ?_⟩
      have nt5 : ∀ b ∈ [o, rl, ld, k, tl], ∀ vs, H5 b ≠ some (.tup vs) := fun b hb vs => by
        have := (S4.nt b (List.mem_cons_of_mem _ hb)).1
        intro e
        by_cases z : b = lr
        · exact S4.ne (z ▸ hb)
        · obtain ⟨u, hu⟩ := Option.ne_none_iff_exists'.mp (S4.nt b (List.mem_cons_of_mem _ hb)).2
          have h5 := o5 _ _ (by simpa using z) hu
          rw [e] at h5
          cases h5
          exact this vs hu
      have sub : ∀ b ∈ [o, rl, ld, k, tl], b ∈ h :: cells lr o rl ld k tl := fun b hb => List.mem_cons_of_mem _ (List.mem_cons_of_mem _ hb)
      refine q H6 (R ++ [⟨i, j, wt⟩]) (c + 1) (mm + 58) ?_ ?_ ⟨rd6, lrows5.offs o6 nt5 S4.ne, S4.ne⟩ (by omega) (Int.le_refl _) (Nat.le_refl _)
      · exact ((((o12.trans (o3.more (by simp))).same s4).trans (o5.more (by simp [cells]))).trans (o6.more sub))
      · exact ha5.offs o6 (fun z => nh (List.mem_cons_of_mem _ z)) (fun z => nc (List.mem_cons_of_mem _ z))
    · rw [decide_eq_false lt]
      exact iteF quit
end
end G3
set_option Elab.async false
set_option linter.all false
set_option maxRecDepth 100000
set_option maxHeartbeats 4000000
/-! The law's parts and its least forest. -/
namespace G3
open PySem PySem.Spec PyProof.Rows L2
open Lk (Part g isSon Wf PIn In Forests Acy Tie tie key RS KeptP pstep partsBy kstep)
theorem rgV_nat (m : Nat) : rgV 0 (m : Int) = (List.range m).map nI := by
  unfold rgV
  rw [Int.sub_zero, Int.toNat_natCast]
  refine List.map_congr_left fun i _ => ?_
  show V.int (0 + (i : Int)) = V.int (i : Int)
  rw [Int.zero_add]
theorem pstep_len {P : List Nat} {t : Tie} : (pstep P t).length = P.length := by simp [pstep]
theorem inV2 {a b p : Nat} : inV (nI p) [nI a, nI b] = decide (p = a ∨ p = b) := by
  show (([nI a, nI b] : List V).any fun y => eqV y (nI p)) = _
  simp only [List.any_cons, List.any_nil, Bool.or_false]
  have e : ∀ x : Nat, eqV (nI x) (nI p) = decide (p = x) := fun x => by
    show (((x : Int) == (p : Int)) : Bool) = _
    rw [Bool.eq_iff_iff]; simp; omega
  rw [e, e, Bool.decide_or]
section
variable {P : Program} {w : World} {K : PySem.W.Frag} {mg : Str → Option Value} {base : Heap}
def spParts : Sp := fun vs H Q _ => ∃ (lt : Addr) (m : Nat) (rr : List Addr) (ts : List Tie), vs = [.int m, .ref lt] ∧ H lt = some (.lst (rr.map V.ref)) ∧ TieAt H rr ts ∧ m ≤ 64 ∧ ts.length ≤ 64 ∧ (∀ t ∈ ts, t.a < m ∧ t.b < m) ∧ ∀ H' p, Same H H' → H p = none → H' p = some (.lst ((partsBy m ts).map nI)) → Q (.ref p) H'
theorem sc__law_parts_by : FnScope ["_law_many", "_law_ties", "_law_found", "_law_tie", "_law_one", "_law_other", "_law_part"] ["_law_many", "_law_ties"] (defScope s__law_parts_by) := ⟨rfl, rfl, rfl, by decide +kernel, rfl, by decide +kernel, by decide +kernel⟩
theorem ok__law_parts_by (T : Txt w K mg) : OkF P w K mg base 1 "_law_parts_by" ["_law_many", "_law_ties"] spParts := by
  refine okf T.glo__law_parts_by T.fn__law_parts_by sc__law_parts_by (fun _ _ _ _ _ _ us hl => match us, hl with | [_, _], _ => rfl) (fun vs H Q E h => ?_) (fun cdv A outer s H vs Q E hr h => ?_)
  · obtain ⟨lt, m, rr, ts, rfl, _⟩ := h; rfl
  · obtain ⟨lt, m, rr, ts, rfl, hlt, ta, m64, t64, hin, q⟩ := h
    have rlen := ta.len
    refine ⟨_, (pss_cons (ps_set (i := 2) sc__law_parts_by.nd rfl (.inl rfl) (pe_listRg rfl (by rfl) T.free_list (prg_1 (by rfl) T.free_range (pv 0)))) (pss_cons (ps_for PassesOwn.never rfl (pi_list (pv 1)) (pg_name (i := 3) sc__law_parts_by.nd rfl (.inl rfl)) (pss_cons (ps_asg (pe_tup (pa_cons (pe_ix ix_list (pv 2) (pe_ix ix_tup (pv 3) pe_int (fun _ _ => rfl)) (fun _ _ => rfl)) (pa_cons (pe_ix ix_list (pv 2) (pe_ix ix_tup (pv 3) pe_int (fun _ _ => rfl)) (fun _ _ => rfl)) pa_nil))) (pg_tup rfl (pgs_cons (pg_name (i := 4) sc__law_parts_by.nd rfl (.inr rfl)) (pgs_cons (pg_name (i := 5) sc__law_parts_by.nd rfl (.inr rfl)) pgs_nil)))) (pss_one (ps_setLc (i := 2) (own := [("_law_part", 6)]) (g := gName 6) (te := tIf (tTest (tOp (rIn K false) (tVar 6) (tTup (tCons (tVar 4) (tCons (tVar 5) tNil))))) (tCB (fun xs H Q => ∃ i j, xs = [V.int i, V.int j] ∧ Q (.int (if j < i then j else i)) H) (tCons (tVar 4) (tCons (tVar 5) tNil))) (tVar 6)) rfl sc__law_parts_by.nd rfl rfl (sw_true rfl rfl rfl (by decide +kernel)) (pi_list (pv 2)) (blkOk_by (N := ["_law_many", "_law_ties", "_law_found", "_law_tie", "_law_one", "_law_other", "_law_part"]) (sc := defScope s__law_parts_by) (by decide +kernel)) (fun _ _ _ _ _ => pg_name (i := 6) sc__law_parts_by.nd rfl (.inl rfl)) (fun _ _ _ _ _ => pts_nil)
          (fun _ _ _ _ _ => pe_ifExp (pt_cmpR op_in_seq (pv 6) (pe_tup (pa_cons (pv 4) (pa_cons (pv 5) pa_nil))) (by rfl)) (pe_callB (call_min2 rfl) (by rfl) T.free_min (by decide +kernel) (pa_cons (pv 4) (pa_cons (pv 5) pa_nil))) (pv 6)))))) (pss_one (ps_ret (pv 2))))), ?_⟩
    refine ⟨_, rfl, _, rfl, ⟨by omega, by omega, by omega, by omega, by omega⟩, fun p0 np0 => ?_⟩
    rw [rgV_nat]
    have s0 := same_upd (o := .lst ((List.range m).map nI)) np0
    have hp0 : upd H p0 (.lst ((List.range m).map nI)) p0 = some (.lst ((List.range m).map nI)) := upd_same
    generalize upd H p0 (.lst ((List.range m).map nI)) = H0 at s0 hp0
    refine ⟨_, rfl, lt, rfl, ⟨_, SqL.of (s0 _ _ hlt)⟩, for_list (K := K) (a := lt) (xs := rr.map V.ref)
      (fun i σ H1 => ∃ (p : Addr) (v3 v4 v5 : Option V), Same H H1 ∧ H p = none ∧ H1 p = some (.lst (((ts.take i).foldl pstep (List.range m)).map nI)) ∧ σ = [some (.int m), some (.ref lt), some (.ref p), v3, v4, v5, none]) ?_ ?_ ?_ ?_⟩
    · exact ⟨p0, none, none, none, s0, np0, hp0, rfl⟩
    · rintro i σ H1 _ ⟨p, v3, v4, v5, s1, _⟩
      exact SqL.of (s1 _ _ hlt)
    · rintro i x σ H1 hx ⟨p, v3, v4, v5, s1, np, hp, rfl⟩
      rw [List.getElem?_map] at hx
      obtain ⟨t, ht, rfl⟩ := Option.map_eq_some_iff.mp hx
      have il : i < ts.length := by rw [← rlen]; exact (List.getElem?_eq_some_iff.mp ht).1
      have hti : ts[i]? = some ts[i] := List.getElem?_eq_getElem il
      have htt := s1 _ _ (ta.at_ i t _ ht hti)
      obtain ⟨ha, hb⟩ := hin _ (List.getElem_mem il)
      have pl : ∀ (us : List Tie) (P0 : List Nat), (us.foldl pstep P0).length = P0.length := fun us => by
        induction us with
        | nil => exact fun _ => rfl
        | cons u us ih => exact fun P0 => (ih _).trans pstep_len
      have tk : ts.take (i + 1) = ts.take i ++ [ts[i]] := by rw [List.take_add_one, hti]; rfl
      generalize hu : ts[i] = u at htt ha hb tk
      generalize hPi : (ts.take i).foldl pstep (List.range m) = Pi at hp
      have Pl : Pi.length = m := by rw [← hPi, pl]; simp
      have ga : (Pi.map nI)[u.a]? = some (nI (Pi.getD u.a 0)) := by rw [List.getElem?_map, List.getD_eq_getElem?_getD, List.getElem?_eq_getElem (by omega)]; rfl
      have gb : (Pi.map nI)[u.b]? = some (nI (Pi.getD u.b 0)) := by rw [List.getElem?_map, List.getD_eq_getElem?_getD, List.getElem?_eq_getElem (by omega)]; rfl
      refine ⟨_, rfl, _, rfl, _, _, _, _, rfl, rfl, SqT.of (htt),  rfl, _, _, _, _, rfl, rfl, SqL.of hp, atI_nat ga, _, rfl, _, rfl, _, _, _, _, rfl, rfl, SqT.of (htt),  rfl, _, _, _, _, rfl, rfl, SqL.of hp, atI_nat gb, by show 2 ≤ sizeLine; decide, fun t2 n2 => ?_⟩
      have s2 := same_upd (o := .tup [nI (Pi.getD u.a 0), nI (Pi.getD u.b 0)]) n2
      have h2 : upd H1 t2 (.tup [nI (Pi.getD u.a 0), nI (Pi.getD u.b 0)]) t2 = some (.tup [nI (Pi.getD u.a 0), nI (Pi.getD u.b 0)]) := upd_same
      have hp2 := s2 _ _ hp
      have s12 := s1.trans s2
      generalize upd H1 t2 (.tup [nI (Pi.getD u.a 0), nI (Pi.getD u.b 0)]) = H2 at s2 h2 hp2 s12
      refine ⟨t2, _, rfl, SqT.of h2, rfl, _, _, rfl, _, _, rfl, rfl, ?_⟩
      refine ⟨_, rfl, p, rfl, ⟨_, SqL.of hp2⟩, fun D nD => ?_⟩
      refine lc_rel (walk_list (K := K) (a := p) (xs := Pi.map nI)) nD (by simp <;> omega) (fun i v _ => ∃ x, (pstep Pi u)[i]? = some x ∧ v = nI x) (fun _ _ _ _ _ h => h) (fun H s3 => SqL.of (s3 _ _ hp2)) ?_ ?_
      · rintro i' v H3 _ Fin N hi s3 _ ⟨rfl, hv⟩ fin
        rw [List.getElem?_map] at hv
        obtain ⟨y, hy, rfl⟩ := Option.map_eq_some_iff.mp hv
        have ey : (pstep Pi u)[i']? = some (if y = Pi.getD u.a 0 ∨ y = Pi.getD u.b 0 then min (Pi.getD u.a 0) (Pi.getD u.b 0) else y) := by
          unfold pstep; rw [List.getElem?_map, hy]; rfl
        refine ⟨rfl, tyes ⟨_, rfl, _, rfl, _, rfl, by show 2 ≤ sizeLine; decide, fun q2 nq => ?_⟩⟩
        refine ⟨q2, _, rfl, .inr (SqT.of upd_same), rfl, rfl, _, rfl, ?_⟩
        rw [if_neg Bool.false_ne_true]
        have e2 := @inV2 (Pi.getD u.a 0) (Pi.getD u.b 0) y
        rw [e2]
        have s4 := same_upd (o := .tup [nI (Pi.getD u.a 0), nI (Pi.getD u.b 0)]) nq
        by_cases c : y = Pi.getD u.a 0 ∨ y = Pi.getD u.b 0
        · rw [decide_eq_true c]
          rw [if_pos c] at ey
          refine iteT ⟨_, rfl, _, rfl, _, _, rfl, fin _ _ s4 ⟨_, ey, ?_⟩⟩
          show V.int _ = V.int _
          congr 1
          split <;> omega
        · rw [decide_eq_false c]
          rw [if_neg c] at ey
          exact iteF ⟨_, rfl, fin _ _ s4 ⟨_, ey, rfl⟩⟩
      · intro H3 acc s3 la hD hR
        have e : acc = (pstep Pi u).map nI := by
          refine List.ext_getElem? fun i' => ?_
          rw [List.getElem?_map]
          by_cases il' : i' < acc.length
          · obtain ⟨l, h1, h2⟩ := hR i' acc[i'] (List.getElem?_eq_getElem il')
            rw [List.getElem?_eq_getElem il', h1, h2]; rfl
          · rw [List.getElem?_eq_none (by omega), List.getElem?_eq_none (by rw [pstep_len]; simp at la; omega)]; rfl
        subst e
        refine ⟨D, _, _, _, s12.trans s3, s12.free nD, ?_, rfl⟩
        rw [hD, tk, List.foldl_append, hPi]; rfl
    · rintro σ H1 ⟨p, v3, v4, v5, s1, np, hp, rfl⟩
      rw [List.length_map, rlen, List.take_length] at hp
      exact ⟨_, rfl, q _ p s1 np hp⟩
end
end G3
set_option Elab.async false
set_option linter.all false
set_option maxRecDepth 100000
set_option maxHeartbeats 4000000
/-! The law's least forest. -/
namespace G3
open PySem PySem.Spec PyProof.Rows L2
open Lk (Part g isSon Wf PIn In Forests Acy Tie tie key RS KeptP pstep partsBy kstep RowsOk)
/-- a sorted list of pairs that tell the rows' keys: the numbers in the order of their keys -/
theorem order_of {R : Lk.Rows} {k : V → Int × Int} {lt : V → V → Bool} {xs ys : List V} (R64 : R.length ≤ 64) (hlt : ∀ x y, lt x y = decide ((k x).1 < (k y).1 ∨ ((k x).1 = (k y).1 ∧ (k x).2 < (k y).2)))
    (hx : ∀ i, i < R.length → ∃ x, xs[i]? = some x ∧ k x = ((tie R i).w, (i : Int))) (hl : xs.length = R.length) (hp : ys.Perm xs) (hs : ys.Pairwise fun x y => lt y x = false) :
    ∃ ns : List Nat, (∀ j, j ∈ ns ↔ j < R.length) ∧ ns.Pairwise (fun i j => key R i < key R j) ∧ ns = ys.map (fun y => (k y).2.toNat) ∧ ∀ y ∈ ys, k y = ((tie R (k y).2.toNat).w, ((k y).2.toNat : Int)) := by
  have hk : ∀ y ∈ ys, ∃ i, i < R.length ∧ k y = ((tie R i).w, (i : Int)) := fun y hy => by
    obtain ⟨i, hi⟩ := List.getElem?_of_mem (hp.mem_iff.mp hy)
    have il : i < R.length := by rw [← hl]; exact (List.getElem?_eq_some_iff.mp hi).1
    obtain ⟨x, e1, e2⟩ := hx i il
    rw [hi] at e1; cases e1
    exact ⟨i, il, e2⟩
  have hk2 : ∀ y ∈ ys, k y = ((tie R (k y).2.toNat).w, ((k y).2.toNat : Int)) ∧ (k y).2.toNat < R.length := fun y hy => by
    obtain ⟨i, il, e⟩ := hk y hy
    rw [e]; simpa using il
  have pm : (ys.map fun y => (k y).2.toNat).Perm (List.range R.length) := by
    have e : xs.map (fun y => (k y).2.toNat) = List.range R.length := by
      refine List.ext_getElem? fun i => ?_
      rw [List.getElem?_map]
      by_cases il : i < R.length
      · obtain ⟨x, e1, e2⟩ := hx i il
        rw [e1, List.getElem?_range il]; simp [e2]
      · rw [List.getElem?_eq_none (by omega), List.getElem?_eq_none (by simp; omega)]; rfl
    rw [← e]; exact hp.map _
  have nd : (ys.map fun y => (k y).2.toNat).Nodup := pm.nodup_iff.mpr List.nodup_range
  refine ⟨_, fun j => by rw [pm.mem_iff, List.mem_range], ?_, rfl, fun y hy => (hk2 y hy).1⟩
  rw [List.pairwise_map]
  have nd' : ys.Pairwise fun x y => (k x).2.toNat ≠ (k y).2.toNat := List.pairwise_map.mp nd
  have both := List.Pairwise.and hs nd'
  refine List.Pairwise.imp_of_mem ?_ both
  rintro x y hxm hym ⟨h1, h2⟩
  obtain ⟨ex, lx⟩ := hk2 x hxm
  obtain ⟨ey, ly⟩ := hk2 y hym
  rw [hlt] at h1
  have h1' := of_decide_eq_false h1
  have e1 : (k x).1 = (tie R (k x).2.toNat).w := congrArg Prod.fst ex
  have e2 : (k x).2 = ((k x).2.toNat : Int) := congrArg Prod.snd ex
  have e3 : (k y).1 = (tie R (k y).2.toNat).w := congrArg Prod.fst ey
  have e4 : (k y).2 = ((k y).2.toNat : Int) := congrArg Prod.snd ey
  unfold key
  omega
theorem kfold {m : Nat} {R : Lk.Rows} : ∀ (l F : List Nat), (∀ x ∈ F, x < R.length) → (∀ x ∈ l, x < R.length) → (∀ x ∈ l.foldl (kstep m R) F, x < R.length) ∧ (l.foldl (kstep m R) F).length ≤ F.length + l.length := by
  intro l
  induction l with
  | nil => intro F h _; exact ⟨h, Nat.le_refl _⟩
  | cons a l ih =>
    intro F h h2
    have hs : (∀ x ∈ kstep m R F a, x < R.length) ∧ (kstep m R F a).length ≤ F.length + 1 := by
      unfold kstep
      split
      · exact ⟨h, by omega⟩
      · refine ⟨fun x hx => ?_, by simp⟩
        rcases List.mem_append.mp hx with q | q
        · exact h x q
        · rw [List.mem_singleton.mp q]; exact h2 a (by simp)
    obtain ⟨i1, i2⟩ := ih (kstep m R F a) hs.1 fun x hx => h2 x (by simp [hx])
    exact ⟨i1, by rw [List.length_cons]; show _ ≤ _; have := hs.2; simp only [List.foldl_cons]; omega⟩
section
variable {P : Program} {w : World} {K : PySem.W.Frag} {mg : Str → Option Value} {base : Heap}
def spLeast : Sp := fun vs H Q _ => ∃ (lr : Addr) (m : Nat) (R : Lk.Rows), vs = [.int m, .ref lr] ∧ LRows H lr R ∧ RowsOk m R ∧ 1 ≤ m ∧ m + R.length ≤ 64 ∧ ∀ H' p (kl : List Nat), Same H H' → H' p = some (.lst (kl.map nI)) → kl.Pairwise (· < ·) → (∀ i, i ∈ kl ↔ KeptP R i) → Q (.ref p) H'
theorem sc__law_least : FnScope ["_law_many", "_law_rows", "_law_found", "_law_order", "_law_rank", "_law_number", "_law_one", "_law_other", "_law_parts", "_law_row", "_law_elder"] ["_law_many", "_law_rows"] (defScope s__law_least) := ⟨rfl, rfl, rfl, by decide +kernel, rfl, by decide +kernel, by decide +kernel⟩
theorem ok__law_least (T : Txt w K mg) : OkF P w K mg base 2 "_law_least" ["_law_many", "_law_rows"] (spLeast) := by
  obtain ⟨fR, dR, GR, mR, kR, bR⟩ := (ok__law_parts_by (P := P) (base := base) T).ex
  refine okf T.glo__law_least T.fn__law_least sc__law_least (fun _ _ _ _ _ _ us hl => match us, hl with | [_, _], _ => rfl) (fun vs H Q E h => ?_) (fun cdv A outer s H vs Q E hr h => ?_)
  · obtain ⟨lr, m, R, rfl, _⟩ := h; rfl
  · obtain ⟨lr, m, R, rfl, lrows, ok, m1, m64, q⟩ := h
    refine ⟨_, (pss_cons (ps_set (i := 2) sc__law_least.nd rfl (.inl rfl) (pe_lst pa_nil)) (pss_cons (ps_set (i := 3) sc__law_least.nd rfl (.inl rfl) (pe_callB cr_sortedPO (by rfl) T.free_sorted (by decide +kernel) (pa_cons (pe_lc (own := [("_law_number", 5), ("_law_row", 9)]) (g := gTup K 2 (gCons (gName 5) (gCons (gName 9) gNil))) (te := tTup (tCons (tOp (rIxT K) (tVar 9) (tC (.int 2))) (tCons (tVar 5) tNil))) rfl sc__law_least.nd (pi_enum (by rfl) T.free_enumerate (pa_cons (pv 1) pa_nil)) (blkOk_by (N := ["_law_many", "_law_rows", "_law_found", "_law_order", "_law_rank", "_law_number", "_law_one", "_law_other", "_law_parts", "_law_row", "_law_elder"]) (sc := defScope s__law_least) (by decide +kernel)) (fun _ _ _ _ _ => pg_tup rfl (pgs_cons (pg_name (i := 5) sc__law_least.nd rfl (.inl rfl) (.inr rfl)) (pgs_cons (pg_name (i := 9) sc__law_least.nd rfl (.inl rfl) (.inr rfl)) pgs_nil))) (fun _ _ _ _ _ => pts_nil) (fun _ _ _ _ _ => pe_tup (pa_cons (pe_ix ix_tup (pv 9) pe_int (fun _ _ => rfl)) (pa_cons (pv 5) pa_nil)))) pa_nil))) (pss_cons (ps_for PassesOwn.never rfl (pi_list (pv 3)) (pg_tup rfl (pgs_cons (pg_name (i := 4) sc__law_least.nd rfl (.inl rfl)) (pgs_cons (pg_name (i := 5) sc__law_least.nd rfl (.inl rfl)) pgs_nil))) (pss_cons (ps_asg (pe_slice sl_tupA (pe_ix ix_list (pv 1) (pv 5) (fun _ _ => rfl)) po_none (po_some pe_int)) (pg_tup rfl (pgs_cons (pg_name (i := 6) sc__law_least.nd rfl (.inl rfl)) (pgs_cons (pg_name (i := 7) sc__law_least.nd rfl (.inl rfl)) pgs_nil)))) (pss_cons (ps_set (i := 8) sc__law_least.nd rfl (.inl rfl) (pe_call GR hr (by rfl) mR kR bR .nil pass0 (pa_cons (pv 0) (pa_cons (pe_lc (own := [("_law_elder", 10)]) (g := gName 10) (te := tOp (rIxL K) (tVar 1) (tVar 10)) rfl sc__law_least.nd (pi_list (pv 2)) (blkOk_by (N := ["_law_many", "_law_rows", "_law_found", "_law_order", "_law_rank", "_law_number", "_law_one", "_law_other", "_law_parts", "_law_row", "_law_elder"]) (sc := defScope s__law_least) (by decide +kernel)) (fun _ _ _ _ _ => pg_name (i := 10) sc__law_least.nd rfl (.inl rfl)) (fun _ _ _ _ _ => pts_nil) (fun _ _ _ _ _ => (pe_ix ix_list (pv 1) (pv 10) (fun _ _ => rfl)))) pa_nil)))) (pss_one (ps_if (pt_cmpR op_ne (pe_ix ix_list (pv 8) (pv 6) (fun _ _ => rfl)) (pe_ix ix_list (pv 8) (pv 7) (fun _ _ => rfl)) (nomark _)) (pss_one (ps_expr (pe_bm PySem.F.plainAttrs_list PySem.F.slot_list_append PySem.F.type_list_append mt_append (pv 2) (pa_cons (pv 5) pa_nil)))) pss_nil))))) (pss_one (ps_ret (pe_callB cr_sorted (by rfl) T.free_sorted (by decide +kernel) (pa_cons (pv 2) pa_nil))))))), ?_⟩
    obtain ⟨rr, hlr, ta⟩ := lrows
    have rlen := ta.len
    have R64 : R.length ≤ 64 := by omega
    refine ⟨by show 0 ≤ sizeLine; decide, fun p0 n0 => ?_⟩
    have s0 := same_upd (o := .lst []) n0
    have hp0 : upd H p0 (.lst []) p0 = some (.lst []) := upd_same
    generalize upd H p0 (.lst []) = H0 at s0 hp0
    have hlr0 := s0 _ _ hlr
    refine ⟨_, rfl, lr, _, rfl, .of hlr0, fun D nD => ?_⟩
    refine lc_rel (walk_enum (K := K) (a := lr) (xs := rr.map V.ref)) nD (by simp <;> omega) (fun i v H => ∃ r, v = .ref r ∧ r ≠ D ∧ H r = some (.tup [.int (tie R i).w, .int (i : Nat)])) (by rintro i v H H' st ⟨r, e1, e2, e3⟩; exact ⟨r, e1, e2, st _ _ e2 e3⟩) (fun H s2 => SqL.of (s2 _ _ hlr0)) ?_ ?_
    · rintro i x H2 H3 Fin N hi s2 ⟨acc, hD⟩ ⟨Tq, x1, x2, rfl, nT, rfl, g1, g2⟩ fin
      have il : i < R.length := by simp at hi; omega
      cases g1
      have g2 : (rr.map V.ref)[i]? = some x2 := g2
      obtain ⟨pi, hpi, hpt⟩ := ((ta.same s0).same s2).get il
      rw [List.getElem?_map, hpi] at g2
      cases g2
      have s3 := same_upd (o := .tup [V.int (i : Nat), V.ref pi]) nT
      refine ⟨Tq, _, rfl, SqT.of upd_same, rfl, _, _, rfl, _, _, rfl, rfl, rfl, tyes ?_⟩
      refine ⟨_, rfl, _, _, _, _, rfl, rfl, SqT.of (s3 _ _ hpt),  rfl, _, rfl, by show 2 ≤ sizeLine; decide, fun r nr => ?_⟩
      exact fin _ _ (s3.trans (same_upd nr)) ⟨r, rfl, (ne_of_none (s3 _ _ hD) nr).symm, upd_same⟩
    · intro H2 acc s2 la hD hR
      obtain ⟨kf, hkf⟩ : ∃ kf : V → Int × Int, ∀ r a b, H2 r = some (.tup [.int a, .int b]) → kf (.ref r) = (a, b) :=
        ⟨fun v => match v with
          | .ref t => (match H2 t with
            | some (.tup [.int a, .int b]) => (a, b)
            | _ => (0, 0))
          | _ => (0, 0), fun r a b e => by simp only [e]⟩
      have la' : acc.length = R.length := by simpa [rlen] using la
      refine ⟨D, acc, kf, rfl, SqL.of hD, fun x hx => ?_, fun ys p hs hb np => ?_⟩
      · obtain ⟨i, hi⟩ := List.getElem?_of_mem hx
        obtain ⟨r, rfl, _, e3⟩ := hR i x hi
        exact ⟨r, rfl, by rw [hkf _ _ _ e3]; exact e3⟩
      obtain ⟨ns, hns, hsort, ens, hky⟩ := order_of (R := R) (k := kf) (xs := acc) (ys := ys) R64 (lt := ltP kf) (fun x y => by rw [Bool.eq_iff_iff, SrtO.lexB_iff, decide_eq_true_eq]) (fun i hi => by
        have hi' : i < acc.length := by omega
        obtain ⟨r, e1, _, e3⟩ := hR i acc[i] (List.getElem?_eq_getElem hi')
        exact ⟨acc[i], List.getElem?_eq_getElem hi', by rw [e1]; exact hkf _ _ _ e3⟩) la' hb.perm hs
      have s3 := same_upd (o := .lst ys) np
      have hp3 : upd H2 p (.lst ys) p = some (.lst ys) := upd_same
      generalize upd H2 p (.lst ys) = H3 at s3 hp3
      have s03 := (s0.trans s2).trans s3
      have hp03 := s3 _ _ (s2 _ _ hp0)
      have pp0 : p ≠ p0 := fun z => by
        rw [z] at np; rw [s2 _ _ hp0] at np; cases np
      have nt3 : ∀ b ∈ [p0], ∀ vs, H3 b ≠ some (.tup vs) := fun b hb vs e => by rw [List.mem_singleton.mp hb, hp03] at e; cases e
      have lrp : lr ∉ [p0] := fun z => by rw [List.mem_singleton.mp z] at hlr; rw [hlr] at n0; cases n0
      refine ⟨_, rfl, p, rfl, ⟨_, SqL.of hp3⟩, for_list (K := K) (a := p) (xs := ys)
        (fun i σ H4 => ∃ v4 v5 v6 v7 v8, Offs [p0] H3 H4 ∧ H4 p0 = some (.lst (((ns.take i).foldl (kstep m R) []).map nI)) ∧ σ = [some (.int m), some (.ref lr), some (.ref p0), some (.ref p), v4, v5, v6, v7, v8, none, none]) ?_ ?_ ?_ ?_⟩
      · exact ⟨none, none, none, none, none, .of (.refl _), hp03, rfl⟩
      · rintro i σ H4 _ ⟨_, _, _, _, _, o4, _⟩
        exact SqL.of (o4 _ _ (by simpa using pp0) hp3)
      · rintro i x σ H4 hx ⟨v4, v5, v6, v7, v8, o4, hF, rfl⟩
        have xm : x ∈ ys := List.mem_of_getElem? hx
        obtain ⟨ia, hia⟩ := List.getElem?_of_mem (hb.perm.mem_iff.mp xm)
        obtain ⟨r, rfl, _, hr2⟩ := hR ia x hia
        have kx := hkf _ _ _ hr2
        have hni : ns[i]? = some ia := by rw [ens, List.getElem?_map, hx, Option.map_some, kx]; simp
        have ial : ia < R.length := (hns ia).mp (List.mem_of_getElem? hni)
        have tkn : ns.take (i + 1) = ns.take i ++ [ia] := by rw [List.take_add_one, hni]; rfl
        obtain ⟨Fl, Fn⟩ := kfold (m := m) (R := R) (ns.take i) [] (fun _ z => (nomatch z)) (fun x hx => (hns x).mp (List.mem_of_mem_take hx))
        have nsl : ns.length = R.length := by rw [ens, List.length_map, hb.perm.length_eq, la']
        have Fn' : ((ns.take i).foldl (kstep m R) []).length ≤ 64 := by
          have : (ns.take i).length ≤ ns.length := by rw [List.length_take]; omega
          simp at Fn; omega
        have knext : (ns.take (i + 1)).foldl (kstep m R) [] = kstep m R ((ns.take i).foldl (kstep m R) []) ia := by rw [tkn, List.foldl_append]; rfl
        generalize (ns.take i).foldl (kstep m R) [] = F at hF Fl Fn' knext
        have hr4 := o4 _ _ (fun z => nt3 _ z _ (s3 _ _ hr2)) (s3 _ _ hr2)
        have hlr4 := o4 _ _ lrp (s03 _ _ hlr)
        have ta4 := (ta.same s03).offs o4 nt3
        obtain ⟨pj, hpj, hpjt⟩ := ta4.get ial
        have hpji : (rr.map V.ref)[ia]? = some (.ref pj) := by rw [List.getElem?_map, hpj]; rfl
        refine ⟨r, _, rfl, SqT.of hr4, rfl, _, _, rfl, _, _, rfl, rfl, ?_⟩
        refine ⟨_, rfl, _, rfl, _, _, _, _, rfl, rfl, SqL.of hlr4, atI_nat hpji, _, rfl, pj, _, rfl, .of hpjt, fun z => absurd (show (2 : Nat) = 3 from z.2) (by decide), fun _ t nt => ?_⟩
        have s5 := same_upd (o := .tup [nI (tie R ia).a, nI (tie R ia).b]) nt
        have ht5 : upd H4 t (.tup (cutV [nI (tie R ia).a, nI (tie R ia).b, V.int (tie R ia).w] none (some 2))) t = some (.tup [nI (tie R ia).a, nI (tie R ia).b]) := upd_same
        refine ⟨t, _, rfl, SqT.of ht5, rfl, _, _, rfl, _, _, rfl, rfl, ?_⟩
        have s5' : Same H4 (upd H4 t (.tup (cutV [nI (tie R ia).a, nI (tie R ia).b, V.int (tie R ia).w] none (some 2)))) := same_upd nt
        generalize upd H4 t (.tup (cutV [nI (tie R ia).a, nI (tie R ia).b, V.int (tie R ia).w] none (some 2))) = H5 at ht5 s5'
        have hF5 := s5' _ _ hF
        have hlr5 := s5' _ _ hlr4
        have ta5 := ta4.same s5'
        refine ⟨_, rfl, _, rfl, p0, rfl, ⟨_, SqL.of hF5⟩, fun D2 nD2 => ?_⟩
        refine lc_rel (walk_list (K := K) (a := p0) (xs := F.map nI)) nD2 (by simp <;> omega) (fun e v _ => ∃ f q, F[e]? = some f ∧ rr[f]? = some q ∧ v = .ref q) (fun _ _ _ _ _ h => h) (fun H s => SqL.of (s _ _ hF5)) ?_ ?_
        · rintro e v H6 _ Fin N he s6 _ ⟨rfl, hv⟩ fin
          rw [List.getElem?_map] at hv
          obtain ⟨f, hf, rfl⟩ := Option.map_eq_some_iff.mp hv
          obtain ⟨q, hq, _⟩ := ta5.get (Fl f (List.mem_of_getElem? hf))
          refine ⟨rfl, tyes ⟨_, rfl, _, rfl, _, _, _, _, rfl, rfl, SqL.of (s6 _ _ hlr5), atI_nat (by rw [List.getElem?_map, hq]; rfl), fin _ _ (.refl _) ⟨f, q, hf, hq, rfl⟩⟩⟩
        · intro H6 acc2 s6 la2 hD2 hR2
          obtain ⟨qs, rfl⟩ : ∃ qs : List Addr, acc2 = qs.map V.ref := refs_of fun e v hv => by
            obtain ⟨f, q, _, _, e3⟩ := hR2 e v hv
            exact ⟨q, e3⟩
          have ta6 : TieAt H6 qs (F.map (tie R)) := by
            refine ⟨by simpa using la2, fun e q t h1 h2 => ?_⟩
            obtain ⟨f, q', e1, e2, e3⟩ := hR2 e (.ref q) (by rw [List.getElem?_map, h1]; rfl)
            cases e3
            rw [List.getElem?_map, e1] at h2
            cases h2
            have fl := Fl f (List.mem_of_getElem? e1)
            have ef : R[f]? = some (tie R f) := by rw [tie, List.getD_eq_getElem?_getD, List.getElem?_eq_getElem fl]; rfl
            exact s6 _ _ (ta5.at_ f q _ e2 ef)
          refine ⟨D2, m, qs, F.map (tie R), rfl, hD2, ta6, by omega, by simp <;> omega, fun t ht => ?_, fun H7 pp s7 np7 hp7 => ?_⟩
          · obtain ⟨f, hf, rfl⟩ := List.mem_map.mp ht
            obtain ⟨a1, a2, _⟩ := ok.2 f (Fl f hf)
            exact ⟨a1, a2⟩
          have PL : (partsBy m (F.map (tie R))).length = m := (Lk.parts_ok ok F Fl).len
          obtain ⟨la_, lb_, _⟩ := ok.2 ia ial
          generalize hPP : partsBy m (F.map (tie R)) = PP at hp7 PL
          have ga : (PP.map nI)[(tie R ia).a]? = some (nI (PP.getD (tie R ia).a 0)) := by rw [List.getElem?_map, List.getD_eq_getElem?_getD, List.getElem?_eq_getElem (by omega)]; rfl
          have gb : (PP.map nI)[(tie R ia).b]? = some (nI (PP.getD (tie R ia).b 0)) := by rw [List.getElem?_map, List.getD_eq_getElem?_getD, List.getElem?_eq_getElem (by omega)]; rfl
          refine ⟨_, rfl, _, rfl, _, _, _, _, rfl, rfl, SqL.of hp7, atI_nat ga, _, rfl, _, rfl, _, _, _, _, rfl, rfl, SqL.of hp7, atI_nat gb, rfl, _, rfl, ?_⟩
          rw [dec_nI]
          have hF7 := s7 _ _ (s6 _ _ hF5)
          have s47 := (s5'.trans s6).trans s7
          by_cases c : PP.getD (tie R ia).a 0 = PP.getD (tie R ia).b 0
          · rw [decide_eq_true c]
            have e : kstep m R F ia = F := by unfold kstep; rw [hPP, if_pos c]
            rw [e] at knext
            exact iteF ⟨_, _, _, _, _, o4.same s47, by rw [knext]; exact hF7, rfl⟩
          · rw [decide_eq_false c]
            have e : kstep m R F ia = F ++ [ia] := by unfold kstep; rw [hPP, if_neg c]
            rw [e] at knext
            refine iteT ⟨_, rfl, .inl ⟨rfl, _, SqL.of hF7⟩, _, rfl, p0, _, _, rfl, rfl, hF7, small1000 (by simp <;> omega), ?_⟩
            exact ⟨_, _, _, _, _, (o4.same s47).upd (by simp), by rw [upd_same, knext]; simp [nI], rfl⟩
      · rintro σ H4 ⟨v4, v5, v6, v7, v8, o4, hF, rfl⟩
        have nsl : ns.length = ys.length := by rw [ens, List.length_map]
        rw [← nsl, List.take_length] at hF
        obtain ⟨Fnd, Fmem⟩ := Lk.kruskal_ok ok hns hsort
        have Flen : (ns.foldl (kstep m R) []).length ≤ R.length := by
          have := (kfold (m := m) (R := R) ns [] (fun _ z => (nomatch z)) (fun x hx => (hns x).mp hx)).2
          have e : ns.length = R.length := by rw [nsl, hb.perm.length_eq, la']
          simp at this; omega
        generalize ns.foldl (kstep m R) [] = F at hF Fnd Fmem Flen
        have eF : F.map nI = (F.map fun k : Nat => (k : Int)).map V.int := by rw [List.map_map]; rfl
        rw [eF] at hF
        refine ⟨_, rfl, p0, _, rfl, SqL.of hF, by rw [List.length_map]; omega, fun ns' pz pm srt npz => ?_⟩
        have pos : ∀ z ∈ ns', ∃ k : Nat, k ∈ F ∧ (k : Int) = z := fun z hz => List.mem_map.mp (pm.mem_iff.mp hz)
        have ek : ns'.map V.int = (ns'.map Int.toNat).map nI := by
          rw [List.map_map]
          refine List.map_congr_left fun z hz => ?_
          obtain ⟨k, _, rfl⟩ := pos z hz
          show V.int (k : Int) = V.int (((k : Int).toNat : Nat) : Int)
          rw [Int.toNat_natCast]
        have pmk : (ns'.map Int.toNat).Perm F := by
          have := pm.map Int.toNat
          rw [List.map_map] at this
          have e : F.map (Int.toNat ∘ fun k : Nat => (k : Int)) = F := by
            rw [show (Int.toNat ∘ fun k : Nat => (k : Int)) = id from funext fun k => Int.toNat_natCast k, List.map_id]
          rw [e] at this; exact this
        refine q _ pz (ns'.map Int.toNat) ?_ (by rw [upd_same, ek]) ?_ fun j => by rw [pmk.mem_iff]; exact Fmem j
        · have sA : Same H H4 := Offs.new s03 o4 fun b hb => by rw [List.mem_singleton.mp hb]; exact n0
          exact sA.trans (same_upd npz)
        · have nd : (ns'.map Int.toNat).Nodup := pmk.nodup_iff.mpr Fnd
          rw [List.pairwise_map]
          have nd' := List.pairwise_map.mp nd
          refine List.Pairwise.imp_of_mem ?_ (List.Pairwise.and srt nd')
          rintro x y hx hy ⟨h1, h2⟩
          obtain ⟨a, _, rfl⟩ := pos x hx
          obtain ⟨b, _, rfl⟩ := pos y hy
          simp only [Int.toNat_natCast] at h2 ⊢
          omega
end
end G3
set_option Elab.async false
set_option linter.all false
set_option maxRecDepth 100000
set_option maxHeartbeats 4000000
/-! The law's likeness. -/
namespace G3
open PySem PySem.Spec PyProof.Rows L2
open Lk (Part g isSon Wf PIn In Forests Acy Tie tie key RS KeptP pstep partsBy kstep RowsOk)
/-- the same data, at most n deep -/
def Alike : Nat → Hp → V → V → Prop
  | 0, _, x, y => ∃ z : Int, x = .int z ∧ y = .int z
  | n + 1, H, x, y => (∃ z : Int, x = .int z ∧ y = .int z) ∨ ∃ (a b : Addr) (xs ys : List V), x = .ref a ∧ y = .ref b ∧ ((H a = some (.tup xs) ∧ H b = some (.tup ys)) ∨ (H a = some (.lst xs) ∧ H b = some (.lst ys))) ∧ xs.length = ys.length ∧ xs.length ≤ 100 ∧ ∀ (i : Nat) (u v : V), xs[i]? = some u → ys[i]? = some v → Alike n H u v
theorem Alike.same : ∀ {n : Nat} {H H' : Hp} {x y : V}, Alike n H x y → Same H H' → Alike n H' x y
  | 0, _, _, _, _, h, _ => h
  | n + 1, H, H', x, y, h, e => by
    rcases h with h | ⟨a, b, xs, ys, h1, h2, h3, h4, h5, h6⟩
    · exact .inl h
    · refine .inr ⟨a, b, xs, ys, h1, h2, ?_, h4, h5, fun i u v hu hv => (h6 i u v hu hv).same e⟩
      rcases h3 with ⟨p, q⟩ | ⟨p, q⟩
      · exact .inl ⟨e _ _ p, e _ _ q⟩
      · exact .inr ⟨e _ _ p, e _ _ q⟩
theorem kit2 {K : PySem.W.Frag} {t a b : String} {b1 b2 r : Bool} (h1 : kitB t a = some b1) (h2 : kitB t b = some b2) (e : (b1 || b2) = r) : PySem.W.kitAny K (.type t) [.type a, .type b] = some r := by
  refine kitAny_cons (kit_ty h1) (fun z => kitAny_cons (kit_ty h2) (fun z2 => ?_) fun z2 => ?_) fun z => ?_
  · subst z z2; rw [← e]; exact kitAny_nil
  · subst z z2; rw [← e]; rfl
  · subst z; rw [← e]; rfl
section
variable {P : Program} {w : World} {K : PySem.W.Frag} {mg : Str → Option Value} {base : Heap}
def spIs (n : Nat) : Sp := fun vs H Q _ => ∃ x y : V, vs = [x, y] ∧ Alike n H x y ∧ ∀ H', Same H H' → Q (.bl true) H'
theorem sc__law_is : FnScope ["_law_told", "_law_due", "_law_one", "_law_two"] ["_law_told", "_law_due"] (defScope s__law_is) := ⟨rfl, rfl, rfl, by decide +kernel, rfl, by decide +kernel, by decide +kernel⟩
theorem ok__law_is0 (T : Txt w K mg) : OkF P w K mg base 1 "_law_is" ["_law_told", "_law_due"] (spIs 0) := by
  refine okf T.glo__law_is T.fn__law_is sc__law_is (fun _ _ _ _ _ _ us hl => match us, hl with | [_, _], _ => rfl) (fun vs H Q E h => ?_) (fun cdv A outer s H vs Q E hr h => ?_)
  · obtain ⟨x, y, rfl, _⟩ := h; rfl
  · obtain ⟨x, y, rfl, ⟨z, rfl, rfl⟩, q⟩ := h
    refine ⟨_, (pss_cons (ps_if (pt_val (pe_callB call_isiT (by rfl) T.free_isinstance (by decide +kernel) (pa_cons (pv 1) (pa_cons (pe_tup (pa_cons (gt (T := "tuple") T.free_tuple (by decide +kernel)) (pa_cons (gt (T := "list") T.free_list (by decide +kernel)) pa_nil))) pa_nil)))) pss_never pss_nil) (pss_one (ps_ret (pe_and (pe_cmpR op_eq (pe_callB call_isi (by rfl) T.free_isinstance (by decide +kernel) (pa_cons (pv 0) (pa_cons (gt (T := "bool") T.free_bool (by decide +kernel)) pa_nil))) (pe_callB call_isi (by rfl) T.free_isinstance (by decide +kernel) (pa_cons (pv 1) (pa_cons (gt (T := "bool") T.free_bool (by decide +kernel)) pa_nil))) (nomark _)) (pe_one (pe_cmpR op_eq (pv 0) (pv 1) (nomark _))))))), ?_⟩
    refine ⟨_, rfl, by show 2 ≤ sizeLine; decide, fun p np => ?_⟩
    refine ⟨_, p, _, _, _, false, rfl, upd_same, .cons (.ty "tuple") (.cons (.ty "list") .nil), .base (.int z), kit2 (b1 := false) (b2 := false) (by decide +kernel) (by decide +kernel) rfl, false, rfl, iteF ?_⟩
    refine ⟨_, rfl, _, _, _, _, false, rfl, .ty "bool", .base (.int z), kit_ty (by decide +kernel), _, rfl, _, _, _, _, false, rfl, .ty "bool", .base (.int z), kit_ty (by decide +kernel), rfl, _, rfl, iteT ?_⟩
    refine ⟨_, rfl, _, rfl, rfl, ?_⟩
    rw [show decide (V.int z = V.int z) = true from by simp]
    exact q _ (same_upd np)
theorem ok__law_is (T : Txt w K mg) (n : Nat) : OkF P w K mg base (n + 1) "_law_is" ["_law_told", "_law_due"] (spIs n) := by
  induction n with
  | zero => exact ok__law_is0 T
  | succ n ih =>
    obtain ⟨fR, dR, GR, mR, kR, bR⟩ := ih.ex
    refine okf T.glo__law_is T.fn__law_is sc__law_is (fun _ _ _ _ _ _ us hl => match us, hl with | [_, _], _ => rfl) (fun vs H Q E h => ?_) (fun cdv A outer s H vs Q E hr h => ?_)
    · obtain ⟨x, y, rfl, _⟩ := h; rfl
    · obtain ⟨x, y, rfl, al, q⟩ := h
      refine ⟨_, (pss_cons (ps_if (pt_val (pe_callB call_isiT (by rfl) T.free_isinstance (by decide +kernel) (pa_cons (pv 1) (pa_cons (pe_tup (pa_cons (gt (T := "tuple") T.free_tuple (by decide +kernel)) (pa_cons (gt (T := "list") T.free_list (by decide +kernel)) pa_nil))) pa_nil))))
          (pss_cons (ps_if (pw_or (pt_cmpR op_ne (pe_callB call_isi (by rfl) T.free_isinstance (by decide +kernel) (pa_cons (pv 0) (pa_cons (gt (T := "tuple") T.free_tuple (by decide +kernel)) pa_nil))) (pe_callB call_isi (by rfl) T.free_isinstance (by decide +kernel) (pa_cons (pv 1) (pa_cons (gt (T := "tuple") T.free_tuple (by decide +kernel)) pa_nil))) (nomark _)) (pw_or1 (pt_not (pt_val (pe_callB call_isiT (by rfl) T.free_isinstance (by decide +kernel) (pa_cons (pv 0) (pa_cons (pe_tup (pa_cons (gt (T := "tuple") T.free_tuple (by decide +kernel)) (pa_cons (gt (T := "list") T.free_list (by decide +kernel)) pa_nil))) pa_nil))))))).pt (pss_one (ps_ret pe_bl)) pss_nil) (pss_one (ps_ret (pe_and (pe_cmpR op_eq (pe_callB call_len_seq (by rfl) T.free_len PySem.boot_len (pa_cons (pv 0) pa_nil)) (pe_callB call_len_seq (by rfl) T.free_len PySem.boot_len (pa_cons (pv 1) pa_nil)) (nomark _)) (pe_one (pe_callB (cr_all rfl) (by rfl) T.free_all (by decide +kernel) (pa_cons (pe_lc (own := [("_law_one", 2), ("_law_two", 3)]) (g := gTup K 2 (gCons (gName 2) (gCons (gName 3) gNil))) (te := tCall (spIs n) [] E0 (tCons (tVar 2) (tCons (tVar 3) tNil))) rfl sc__law_is.nd (RZ.pi_zipA (by rfl) T.free_zip (pa_cons (pv 0) (pa_cons (pv 1) pa_nil))) (blkOk_by (N := ["_law_told", "_law_due", "_law_one", "_law_two"]) (sc := defScope s__law_is) (by decide +kernel)) (fun _ _ _ _ _ => pg_tup rfl (pgs_cons (pg_name (i := 2) sc__law_is.nd rfl (.inl rfl) (.inr rfl)) (pgs_cons (pg_name (i := 3) sc__law_is.nd rfl (.inl rfl) (.inr rfl)) pgs_nil))) (fun _ _ _ _ _ => pts_nil) (fun _ _ _ _ _ => (pe_call GR hr (by rfl) mR kR bR .nil pass0 (pa_cons (pv 2) (pa_cons (pv 3) pa_nil))))) pa_nil))))))) pss_nil) (pss_one (ps_ret (pe_and (pe_cmpR op_eq (pe_callB call_isi (by rfl) T.free_isinstance (by decide +kernel) (pa_cons (pv 0) (pa_cons (gt (T := "bool") T.free_bool (by decide +kernel)) pa_nil))) (pe_callB call_isi (by rfl) T.free_isinstance (by decide +kernel) (pa_cons (pv 1) (pa_cons (gt (T := "bool") T.free_bool (by decide +kernel)) pa_nil))) (nomark _)) (pe_one (pe_cmpR op_eq (pv 0) (pv 1) (nomark _))))))), ?_⟩
      refine ⟨_, rfl, by show 2 ≤ sizeLine; decide, fun p np => ?_⟩
      have s1 := same_upd (o := .tup [.ty "tuple", .ty "list"]) np
      rcases al with ⟨z, rfl, rfl⟩ | ⟨a, b, xs, ys, rfl, rfl, hk, le, l100, each⟩
      · refine ⟨_, p, _, _, _, false, rfl, upd_same, .cons (.ty "tuple") (.cons (.ty "list") .nil), .base (.int z), kit2 (b1 := false) (b2 := false) (by decide +kernel) (by decide +kernel) rfl, false, rfl, iteF ?_⟩
        refine ⟨_, rfl, _, _, _, _, false, rfl, .ty "bool", .base (.int z), kit_ty (by decide +kernel), _, rfl, _, _, _, _, false, rfl, .ty "bool", .base (.int z), kit_ty (by decide +kernel), rfl, _, rfl, iteT ?_⟩
        refine ⟨_, rfl, _, rfl, rfl, ?_⟩
        rw [show decide (V.int z = V.int z) = true from by simp]
        exact q _ s1
      · rcases hk with ⟨hx, hy⟩ | ⟨hx, hy⟩
        · refine ⟨_, p, _, _, _, true, rfl, upd_same, .cons (.ty "tuple") (.cons (.ty "list") .nil), .base (.tup (s1 _ _ hy)), kit2 (b1 := true) (b2 := false) (by decide +kernel) (by decide +kernel) rfl, true, rfl, iteT ?_⟩
          refine ⟨_, rfl, _, _, _, _, true, rfl, .ty "tuple", .base (.tup (s1 _ _ hx)), kit_ty (by decide +kernel), _, rfl, _, _, _, _, true, rfl, .ty "tuple", .base (.tup (s1 _ _ hy)), kit_ty (by decide +kernel), rfl, _, rfl, iteF ?_⟩
          refine ⟨_, rfl, by show 2 ≤ sizeLine; decide, fun p2 np2 => ?_⟩
          have s2 := s1.trans (same_upd (o := .tup [.ty "tuple", .ty "list"]) np2)
          refine ⟨_, p2, _, _, _, true, rfl, upd_same, .cons (.ty "tuple") (.cons (.ty "list") .nil), .base (.tup (s2 _ _ hx)), kit2 (b1 := true) (b2 := false) (by decide +kernel) (by decide +kernel) rfl, true, rfl, iteF ?_⟩
          refine ⟨_, rfl, a, xs, rfl, .inr (.of (s2 _ _ hx)), _, rfl, b, ys, rfl, .inr (.of (s2 _ _ hy)), rfl, _, rfl, ?_⟩
          rw [show decide (V.int (xs.length : Int) = V.int (ys.length : Int)) = true from by rw [le]; simp]
          refine iteT ⟨_, rfl, _, rfl, a, b, xs, ys, rfl, .inr ⟨.of (s2 _ _ hx), .of (s2 _ _ hy), fun D nD => ?_⟩⟩
          refine lc_rel (walk_zipT (K := K) (a := a) (b := b) (xs := xs) (ys := ys) (n := xs.length) (by omega)) nD (by omega) (fun _ v _ => v = .bl true) (fun _ _ _ _ _ h => h) (fun H s3 => ⟨SqT.of (s3 _ _ (s2 _ _ hx)), SqT.of (s3 _ _ (s2 _ _ hy))⟩) ?_ ?_
          · rintro i x H2 H3 Fin N hi s3 _ ⟨t, u, v, rfl, nt, rfl, g1, g2⟩ fin
            have s4 := same_upd (o := .tup [u, v]) nt
            refine ⟨t, _, rfl, SqT.of upd_same, rfl, _, _, rfl, _, _, rfl, rfl, rfl, tyes ?_⟩
            exact ⟨_, rfl, _, rfl, u, v, rfl, (each i u v g1 g2).same ((s2.trans s3).trans s4), fun H5 s5 => fin _ _ (s4.trans s5) rfl⟩
          · intro H2 acc s3 _ hD hR
            obtain ⟨bs, rfl, hb⟩ := bls_of hR
            refine ⟨D, bs, rfl, SqL.of hD, ?_⟩
            rw [hb]
            exact q _ (s2.trans s3)
        · refine ⟨_, p, _, _, _, true, rfl, upd_same, .cons (.ty "tuple") (.cons (.ty "list") .nil), .base (.lst (s1 _ _ hy)), kit2 (b1 := false) (b2 := true) (by decide +kernel) (by decide +kernel) rfl, true, rfl, iteT ?_⟩
          refine ⟨_, rfl, _, _, _, _, false, rfl, .ty "tuple", .base (.lst (s1 _ _ hx)), kit_ty (by decide +kernel), _, rfl, _, _, _, _, false, rfl, .ty "tuple", .base (.lst (s1 _ _ hy)), kit_ty (by decide +kernel), rfl, _, rfl, iteF ?_⟩
          refine ⟨_, rfl, by show 2 ≤ sizeLine; decide, fun p2 np2 => ?_⟩
          have s2 := s1.trans (same_upd (o := .tup [.ty "tuple", .ty "list"]) np2)
          refine ⟨_, p2, _, _, _, true, rfl, upd_same, .cons (.ty "tuple") (.cons (.ty "list") .nil), .base (.lst (s2 _ _ hx)), kit2 (b1 := false) (b2 := true) (by decide +kernel) (by decide +kernel) rfl, true, rfl, iteF ?_⟩
          refine ⟨_, rfl, a, xs, rfl, .inl (.of (s2 _ _ hx)), _, rfl, b, ys, rfl, .inl (.of (s2 _ _ hy)), rfl, _, rfl, ?_⟩
          rw [show decide (V.int (xs.length : Int) = V.int (ys.length : Int)) = true from by rw [le]; simp]
          refine iteT ⟨_, rfl, _, rfl, a, b, xs, ys, rfl, .inl ⟨.of (s2 _ _ hx), .of (s2 _ _ hy), fun D nD => ?_⟩⟩
          refine lc_rel (walk_zip (K := K) (a := a) (b := b) (xs := xs) (ys := ys) (n := xs.length) (by omega)) nD (by omega) (fun _ v _ => v = .bl true) (fun _ _ _ _ _ h => h) (fun H s3 => ⟨SqL.of (s3 _ _ (s2 _ _ hx)), SqL.of (s3 _ _ (s2 _ _ hy))⟩) ?_ ?_
          · rintro i x H2 H3 Fin N hi s3 _ ⟨t, u, v, rfl, nt, rfl, g1, g2⟩ fin
            have s4 := same_upd (o := .tup [u, v]) nt
            refine ⟨t, _, rfl, SqT.of upd_same, rfl, _, _, rfl, _, _, rfl, rfl, rfl, tyes ?_⟩
            exact ⟨_, rfl, _, rfl, u, v, rfl, (each i u v g1 g2).same ((s2.trans s3).trans s4), fun H5 s5 => fin _ _ (s4.trans s5) rfl⟩
          · intro H2 acc s3 _ hD hR
            obtain ⟨bs, rfl, hb⟩ := bls_of hR
            refine ⟨D, bs, rfl, SqL.of hD, ?_⟩
            rw [hb]
            exact q _ (s2.trans s3)
end
end G3
set_option Elab.async false
set_option linter.all false
set_option maxRecDepth 100000
set_option maxHeartbeats 4000000
/-! The law's look at one side. -/
namespace G3
open PySem PySem.Spec PyProof.Rows L2
open Lk (Part g isSon Wf PIn In Forests Acy Tie tie key RS KeptP pstep partsBy kstep RowsOk)
theorem keptL_eq {kvs : List (Key × V)} {R : Lk.Rows} {kl : List Nat} (l : LeftOk kvs R) (hs : kl.Pairwise (· < ·)) (hm : ∀ i, i ∈ kl ↔ KeptP R i) : keptL kvs R.length = kl := by
  refine Lk.rising_eq ?_ hs fun i => ?_
  · exact List.Pairwise.sublist List.filter_sublist List.pairwise_lt_range
  · rw [hm]
    unfold keptL
    rw [List.mem_filter, List.mem_range, Option.isNone_iff_eq_none, l i]
    constructor
    · rintro ⟨h1, h2 | h2⟩
      · exact h2
      · omega
    · intro h; exact ⟨h.1, .inl h⟩
theorem alike_int (n : Nat) (H : Hp) (z : Int) : Alike n H (.int z) (.int z) := by
  cases n with
  | zero => exact ⟨z, rfl, rfl⟩
  | succ n => exact .inl ⟨z, rfl, rfl⟩
theorem alike_tup {n : Nat} {H : Hp} {a b : Addr} {xs : List V} (ha : H a = some (.tup xs)) (hb : H b = some (.tup xs)) (l : xs.length ≤ 100) (e : ∀ x ∈ xs, ∃ z : Int, x = .int z) : Alike (n + 1) H (.ref a) (.ref b) :=
  .inr ⟨a, b, xs, xs, rfl, rfl, .inl ⟨ha, hb⟩, rfl, l, fun i u v h1 h2 => by
    rw [h1] at h2; cases h2
    obtain ⟨z, rfl⟩ := e u (List.mem_of_getElem? h1)
    exact alike_int _ _ _⟩
theorem alike_rows {n : Nat} {H : Hp} {a b : Addr} {r1 r2 : List Addr} {R : Lk.Rows} (ha : H a = some (.lst (r1.map V.ref))) (hb : H b = some (.lst (r2.map V.ref))) (t1 : TieAt H r1 R) (t2 : TieAt H r2 R) (l : R.length ≤ 100) : Alike (n + 2) H (.ref a) (.ref b) := by
  have l1 := t1.len
  have l2 := t2.len
  refine .inr ⟨a, b, _, _, rfl, rfl, .inr ⟨ha, hb⟩, by simp [l1, l2], by simpa [l1] using l, fun i u v h1 h2 => ?_⟩
  rw [List.getElem?_map] at h1 h2
  obtain ⟨p, hp, rfl⟩ := Option.map_eq_some_iff.mp h1
  obtain ⟨q, hq, rfl⟩ := Option.map_eq_some_iff.mp h2
  have il : i < R.length := by rw [← l1]; exact (List.getElem?_eq_some_iff.mp hp).1
  have hR : R[i]? = some R[i] := List.getElem?_eq_getElem il
  refine alike_tup (t1.at_ i p _ hp hR) (t2.at_ i q _ hq hR) (by show 3 ≤ 100; decide) fun x hx => ?_
  simp only [List.mem_cons, List.not_mem_nil, or_false] at hx
  rcases hx with rfl | rfl | rfl
  · exact ⟨_, rfl⟩
  · exact ⟨_, rfl⟩
  · exact ⟨_, rfl⟩
section
variable {P : Program} {w : World} {K : PySem.W.Frag} {mg : Str → Option Value} {base : Heap}
def spRight : Sp := fun vs H Q _ => ∃ (lr o rl ld k tl : Addr) (m r mm : Nat) (R : Lk.Rows) (c : Int), vs = [.ref o, .int m, .ref lr] ∧ Side K H lr o rl ld k tl m r R c mm ∧ 1 ≤ m ∧ ∀ H', Same H H' → Q (.bl true) H'
theorem sc__law_right : FnScope ["_law_roads", "_law_many", "_law_rows", "_law_kept", "_law_told", "_law_number"] ["_law_roads", "_law_many", "_law_rows"] (defScope s__law_right) := ⟨rfl, rfl, rfl, by decide +kernel, rfl, by decide +kernel, by decide +kernel⟩
theorem ok__law_right (T : Txt w K mg) : OkF P w K mg base 5 "_law_right" ["_law_roads", "_law_many", "_law_rows"] (spRight (K := K)) := by
  obtain ⟨fL, dL, GL, mL, kL, bL⟩ := (ok__law_least (P := P) (base := base) T).ex
  obtain ⟨fI, dI, GI, mI, kI, bI⟩ := (ok__law_is (P := P) (base := base) T 3).ex
  obtain ⟨fA, dA, GA, mA, cA, bA⟩ := (ok_Roads_ties (P := P) (base := base) T).ex
  obtain ⟨fB, dB, GB, mB, cB, bB⟩ := (ok_Roads_kept (P := P) (base := base) T).ex
  obtain ⟨fC, dC, GC, mC, cC, bC⟩ := (ok_Roads_whole (P := P) (base := base) T).ex
  refine okf T.glo__law_right T.fn__law_right sc__law_right (fun _ _ _ _ _ _ us hl => match us, hl with | [_, _, _], _ => rfl) (fun vs H Q E h => ?_) (fun cdv A outer s H vs Q E hr h => ?_)
  · obtain ⟨lr, o, rl, ld, k, tl, m, r, mm, R, c, rfl, _⟩ := h; rfl
  · obtain ⟨lr, o, rl, ld, k, tl, m, r, mm, R, c, rfl, S, m1, q⟩ := h
    have hr1 : Room 1 _ := hr.mono (by decide)
    have hr2 : Room 2 _ := hr.mono (by decide)
    refine ⟨_, (pss_cons (ps_set (i := 3) sc__law_right.nd rfl (.inl rfl) (pe_call GL hr2 (by rfl) mL kL bL .nil pass0 (pa_cons (pv 1) (pa_cons (pv 2) pa_nil)))) (pss_cons (ps_set (i := 4) sc__law_right.nd rfl (.inl rfl) (pe_lst (pa_cons (pe_meth0 (pv 0) cA mA GA hr1 bA .nil pass0) (pa_cons (pe_meth0 (pv 0) cB mB GB hr1 bB .nil pass0) (pa_cons (pe_meth0 (pv 0) cC mC GC hr2 bC .nil pass0) pa_nil))))) (pss_one (ps_ret (pe_call GI hr (by rfl) mI kI bI .nil pass0 (pa_cons (pv 4) (pa_cons (pe_lst (pa_cons (pv 2) (pa_cons (pe_callTy call_tuple_of (by rfl) T.free_tuple (by decide +kernel) (pa_cons (pv 3) pa_nil)) (pa_cons (pe_callB (cr_sum rfl) (by rfl) T.free_sum (by decide +kernel) (pa_cons (pe_lc (own := [("_law_number", 5)]) (g := gName 5) (te := tOp (rIxT K) (tOp (rIxL K) (tVar 2) (tVar 5)) (tC (.int 2))) rfl sc__law_right.nd (pi_list (pv 3)) (blkOk_by (N := ["_law_roads", "_law_many", "_law_rows", "_law_kept", "_law_told", "_law_number"]) (sc := defScope s__law_right) (by decide +kernel)) (fun _ _ _ _ _ => pg_name (i := 5) sc__law_right.nd rfl (.inl rfl)) (fun _ _ _ _ _ => pts_nil) (fun _ _ _ _ _ => (pe_ix ix_tup (pe_ix ix_list (pv 2) (pv 5) (fun _ _ => rfl)) pe_int (fun _ _ => rfl)))) pa_nil)) pa_nil)))) pa_nil))))))), ?_⟩
    obtain ⟨dx, rr, kvs, s, ho, hrl, ta, hld, kvl, lok, kt, rs, no, nrl⟩ := S.rd
    obtain ⟨r2, hlr, ta2⟩ := S.rows
    have n64 := rs.n64
    have room := rs.room
    have l1 := ta.len
    have l2 := ta2.len
    refine ⟨_, rfl, _, rfl, lr, m, R, rfl, ⟨r2, hlr, ta2⟩, rs.ok, m1, by omega, fun H1 pk kl s1 hpk srt mem => ?_⟩
    have ek : keptL kvs R.length = kl := keptL_eq lok srt mem
    have kll : ∀ x ∈ kl, x < R.length := fun x hx => ((mem x).mp hx).1
    have kln : kl.length ≤ 64 := by
      have : (keptL kvs R.length).length ≤ R.length := by
        unfold keptL
        have := List.length_filter_le (fun i : Nat => (valV kvs (.inl (i : Int))).isNone) (List.range R.length)
        simpa using this
      rw [ek] at this; omega
    -- told
    refine ⟨_, rfl, o, dx, _, rfl, s1 _ _ ho, rfl, ?_⟩
    refine ⟨o, dx, rl, ld, k, m, r, c, _, rfl, s1 _ _ ho, s1 _ _ hrl, fun p1 np1 => ?_⟩
    have s2 := s1.trans (same_upd (o := .lst (rr.map V.ref)) np1)
    have hp1 : upd H1 p1 (.lst (rr.map V.ref)) p1 = some (.lst (rr.map V.ref)) := upd_same
    have hpk2 := same_upd (o := .lst (rr.map V.ref)) np1 _ _ hpk
    generalize upd H1 p1 (.lst (rr.map V.ref)) = H2 at s2 hp1 hpk2
    refine ⟨_, rfl, o, dx, _, rfl, s2 _ _ ho, rfl, ?_⟩
    refine ⟨o, dx, rl, ld, k, m, r, c, _, kvs, rfl, s2 _ _ ho, s2 _ _ hrl, by simp <;> omega, s2 _ _ hld, fun H3 p2 s3 hp2 => ?_⟩
    rw [List.length_map, l1, ek] at hp2
    have s13 := s2.trans s3
    refine ⟨_, rfl, o, dx, _, rfl, s13 _ _ ho, rfl, ?_⟩
    refine ⟨o, dx, rl, ld, k, m, r, c, rr, R, kvs, rfl, s13 _ _ ho, s13 _ _ hrl, ta.same s13, by omega, s13 _ _ hld, fun H4 s4 => ?_⟩
    rw [ek]
    have s14 := s13.trans s4
    refine ⟨by show 3 ≤ sizeLine; decide, fun p3 np3 => ?_⟩
    have s5 := same_upd (o := .lst [.ref p1, .ref p2, .int ((kl.map fun i => (tie R i).w).sum)]) np3
    have hp3 : upd H4 p3 (.lst [.ref p1, .ref p2, .int ((kl.map fun i => (tie R i).w).sum)]) p3 = some (.lst [.ref p1, .ref p2, .int ((kl.map fun i => (tie R i).w).sum)]) := upd_same
    generalize upd H4 p3 (.lst [.ref p1, .ref p2, .int ((kl.map fun i => (tie R i).w).sum)]) = H5 at s5 hp3
    have s15 := s14.trans s5
    have hp15 := s5 _ _ (s4 _ _ (s3 _ _ hp1))
    have hp25 := s5 _ _ (s4 _ _ hp2)
    have hpk5 := s5 _ _ (s4 _ _ (s3 _ _ hpk2))
    -- due
    refine ⟨_, rfl, _, rfl, _, rfl, pk, _, rfl, .inl ⟨SqL.of hpk5, fun p4 np4 => ?_⟩⟩
    have s6 := same_upd (o := .tup (kl.map nI)) np4
    have hp4 : upd H5 p4 (.tup (kl.map nI)) p4 = some (.tup (kl.map nI)) := upd_same
    generalize upd H5 p4 (.tup (kl.map nI)) = H6 at s6 hp4
    have s16 := s15.trans s6
    have hlr6 := s16 _ _ hlr
    have ta6 := ta2.same s16
    refine ⟨_, rfl, pk, rfl, ⟨_, SqL.of (s6 _ _ hpk5)⟩, fun D nD => ?_⟩
    refine lc_rel (walk_list (K := K) (a := pk) (xs := kl.map nI)) nD (by simp <;> omega) (fun i v _ => ∃ j, kl[i]? = some j ∧ v = .int (tie R j).w) (fun _ _ _ _ _ h => h) (fun H s => SqL.of (s _ _ (s6 _ _ hpk5))) ?_ ?_
    · rintro i v H7 _ Fin N hi s7 _ ⟨rfl, hv⟩ fin
      rw [List.getElem?_map] at hv
      obtain ⟨j, hj, rfl⟩ := Option.map_eq_some_iff.mp hv
      obtain ⟨pj, hpj, hpjt⟩ := (ta6.same s7).get (kll j (List.mem_of_getElem? hj))
      have hpji : (r2.map V.ref)[j]? = some (.ref pj) := by rw [List.getElem?_map, hpj]; rfl
      exact ⟨rfl, tyes ⟨_, rfl, _, rfl, _, _, _, _, rfl, rfl, SqL.of (s7 _ _ hlr6), atI_nat hpji, _, _, _, _, rfl, rfl, SqT.of (hpjt),  rfl, fin _ _ (.refl _) ⟨j, hj, rfl⟩⟩⟩
    · intro H7 acc s7 la hD hR
      have e : acc = (kl.map fun i => (tie R i).w).map V.int := by
        refine List.ext_getElem? fun i => ?_
        rw [List.getElem?_map, List.getElem?_map]
        by_cases il : i < acc.length
        · obtain ⟨l, h1, h2⟩ := hR i acc[i] (List.getElem?_eq_getElem il)
          rw [List.getElem?_eq_getElem il, h1, h2]; rfl
        · rw [List.getElem?_eq_none (by omega), List.getElem?_eq_none (by simp at la; omega)]; rfl
      subst e
      refine ⟨D, _, rfl, SqL.of hD, by show 3 ≤ sizeLine; decide, fun p5 np5 => ?_⟩
      have s8 := same_upd (o := .lst [.ref lr, .ref p4, .int ((kl.map fun i => (tie R i).w).sum)]) np5
      have hp5 : upd H7 p5 (.lst [.ref lr, .ref p4, .int ((kl.map fun i => (tie R i).w).sum)]) p5 = some (.lst [.ref lr, .ref p4, .int ((kl.map fun i => (tie R i).w).sum)]) := upd_same
      have s68 := s7.trans s8
      have s18 := s16.trans s68
      refine ⟨.ref p3, .ref p5, rfl, ?_, fun H' s => q _ (s18.trans s)⟩
      refine .inr ⟨p3, p5, [.ref p1, .ref p2, .int ((kl.map fun i => (tie R i).w).sum)], [.ref lr, .ref p4, .int ((kl.map fun i => (tie R i).w).sum)], rfl, rfl, .inr ⟨s68 _ _ (s6 _ _ hp3), hp5⟩, rfl, by show 3 ≤ 100; decide, fun i u v h1 h2 => ?_⟩
      match i with
      | 0 =>
        cases h1; cases h2
        exact alike_rows (s68 _ _ (s6 _ _ hp15)) (s68 _ _ hlr6) (ta.same s18) (ta2.same s18) (by omega)
      | 1 =>
        cases h1; cases h2
        refine alike_tup (s68 _ _ (s6 _ _ hp25)) (s68 _ _ hp4) (by simp <;> omega) fun x hx => ?_
        obtain ⟨y, _, rfl⟩ := List.mem_map.mp hx
        exact ⟨_, rfl⟩
      | 2 =>
        cases h1; cases h2
        exact alike_int _ _ _
      | i + 3 => cases h1
end
end G3
set_option Elab.async false
set_option linter.all false
set_option maxRecDepth 100000
set_option maxHeartbeats 4000000
/-! The two sides, the law. -/
namespace G3
open PySem PySem.Spec PyProof.Rows L2
open Lk (Part g isSon Wf PIn In Forests Acy Tie tie key RS KeptP pstep partsBy kstep RowsOk)
theorem RdS.ins {K : PySem.W.Frag} {H : Hp} {o rl ld k tl : Addr} {m r : Nat} {R : Lk.Rows} {c : Int} {mm : Nat} (h : RdS K H o rl ld k tl m r R c mm) : ∃ dx, H o = some (.ins (cR K) dx (rFs m r rl ld k c)) := by
  obtain ⟨dx, rr, kvs, s, ho, _⟩ := h
  exact ⟨dx, ho⟩
theorem RdS.live {K : PySem.W.Frag} {H : Hp} {o rl ld k tl : Addr} {m r : Nat} {R : Lk.Rows} {c : Int} {mm : Nat} (h : RdS K H o rl ld k tl m r R c mm) : ∀ b ∈ [o, rl, ld, k, tl], H b ≠ none := by
  obtain ⟨dx, rr, kvs, s, ho, hrl, ta, hld, _, _, ⟨kdx, a, z, n, ps, pss, hk, _, htl, _⟩, _⟩ := h
  intro b hb e
  simp only [List.mem_cons, List.not_mem_nil, or_false] at hb
  rcases hb with rfl | rfl | rfl | rfl | rfl
  · rw [ho] at e; cases e
  · rw [hrl] at e; cases e
  · rw [hld] at e; cases e
  · rw [hk] at e; cases e
  · rw [htl] at e; cases e
theorem RdS.paps {K : PySem.W.Frag} {H : Hp} {o rl ld k tl : Addr} {m r : Nat} {R : Lk.Rows} {c : Int} {mm : Nat} (h : RdS K H o rl ld k tl m r R c mm) (l : mm ≤ 100000) : ∃ pss, PapsOf K H k tl pss := by
  obtain ⟨dx, rr, kvs, s, ho, hrl, ta, hld, _, _, ⟨kdx, a, z, n, ps, pss, hk, _, htl, pp, pl⟩, _⟩ := h
  exact ⟨pss, kdx, a, z, n, ps, hk, htl, pp, by omega⟩
theorem RdS.mono {K : PySem.W.Frag} {H : Hp} {o rl ld k tl : Addr} {m r : Nat} {R : Lk.Rows} {c : Int} {mm nn : Nat} (h : RdS K H o rl ld k tl m r R c mm) (l : mm ≤ nn) : RdS K H o rl ld k tl m r R c nn := by
  obtain ⟨dx, rr, kvs, s, ho, hrl, ta, hld, h1, h2, kt, h3⟩ := h
  exact ⟨dx, rr, kvs, s, ho, hrl, ta, hld, h1, h2, kt.mono l, h3⟩
theorem Side.mono {K : PySem.W.Frag} {H : Hp} {lr o rl ld k tl : Addr} {m r : Nat} {R : Lk.Rows} {c : Int} {mm nn : Nat} (S : Side K H lr o rl ld k tl m r R c mm) (l : mm ≤ nn) : Side K H lr o rl ld k tl m r R c nn := ⟨S.rd.mono l, S.rows, S.ne⟩
theorem Side.live {K : PySem.W.Frag} {H : Hp} {lr o rl ld k tl : Addr} {m r : Nat} {R : Lk.Rows} {c : Int} {mm : Nat} (S : Side K H lr o rl ld k tl m r R c mm) {b : Addr} (hb : b ∈ cells lr o rl ld k tl) : H b ≠ none := (S.nt b hb).2
theorem HandAt.live {H : Hp} {h cl : Addr} (ha : HandAt H h cl) : H h ≠ none ∧ H cl ≠ none := by
  obtain ⟨cs, p, d, z, n, hh, hc, _⟩ := ha
  exact ⟨fun e => (by rw [hh] at e; cases e), fun e => (by rw [hc] at e; cases e)⟩
theorem HandAt.draw {H H' : Hp} {h cl : Addr} (ha : HandAt H h cl) {K : PySem.W.Frag} {lr o rl ld k tl : Addr} {m r : Nat} {R : Lk.Rows} {c : Int} {mm : Nat} (S : Side K H lr o rl ld k tl m r R c mm) (nh : h ∉ cells lr o rl ld k tl) (e : Offs [h] H H') : Side K H' lr o rl ld k tl m r R c mm :=
  S.offs e ha.nt fun b hb z => nh (by rw [← List.mem_singleton.mp z]; exact hb)
theorem RdS.same {K : PySem.W.Frag} {H H' : Hp} {o rl ld k tl : Addr} {m r : Nat} {R : Lk.Rows} {c : Int} {mm : Nat} (h : RdS K H o rl ld k tl m r R c mm) (e : Same H H') : RdS K H' o rl ld k tl m r R c mm := h.offs (Offs.of (xs := []) e) (by simp) (by simp)
theorem RdS.list {K : PySem.W.Frag} {H : Hp} {o rl ld k tl : Addr} {m r : Nat} {R : Lk.Rows} {c : Int} {mm : Nat} (h : RdS K H o rl ld k tl m r R c mm) : ∃ xs, H rl = some (.lst xs) ∧ xs.length = R.length ∧ xs.length ≤ 64 := by
  obtain ⟨dx, rr, kvs, s, ho, hrl, ta, hld, _, _, _, rs, _⟩ := h
  have := rs.ok.1
  have l := ta.len
  exact ⟨_, hrl, by simpa using l, by simp <;> omega⟩
theorem RdS.dict {K : PySem.W.Frag} {H : Hp} {o rl ld k tl : Addr} {m r : Nat} {R : Lk.Rows} {c : Int} {mm : Nat} (h : RdS K H o rl ld k tl m r R c mm) : ∃ kvs, H ld = some (.dK kvs) := by
  obtain ⟨dx, rr, kvs, s, ho, hrl, ta, hld, _⟩ := h
  exact ⟨_, hld⟩
theorem PapsOf.same {K : PySem.W.Frag} {H H' : Hp} {k tl : Addr} {pss : List (List Int)} (h : PapsOf K H k tl pss) (e : Same H H') : PapsOf K H' k tl pss := by
  obtain ⟨dx, a, z, n, ps, h1, h2, h3, h4⟩ := h
  exact ⟨dx, a, z, n, ps, e _ _ h1, e _ _ h2, h3.same e, h4⟩
/-- one side, whatever its rows are -/
def Sd (K : PySem.W.Frag) (H : Hp) (lr o rl ld k tl : Addr) (m r n : Nat) : Prop := ∃ R c, Side K H lr o rl ld k tl m r R c n
section
variable {P : Program} {w : World} {K : PySem.W.Frag} {mg : Str → Option Value} {base : Heap}
/-- the other side, where one side and the hand have changed -/
theorem Sd.other {H H' : Hp} {h cl lr o rl ld k tl lr2 o2 rl2 ld2 k2 tl2 : Addr} {m r n n2 : Nat} {R : Lk.Rows} {c : Int} (ha : HandAt H h cl) (S : Side K H lr o rl ld k tl m r R c n) (T2 : Sd K H lr2 o2 rl2 ld2 k2 tl2 m r n2)
    (nh : h ∉ cells lr2 o2 rl2 ld2 k2 tl2) (dis : ∀ b, b ∈ cells lr o rl ld k tl → b ∉ cells lr2 o2 rl2 ld2 k2 tl2) (e : Offs (h :: cells lr o rl ld k tl) H H') : Sd K H' lr2 o2 rl2 ld2 k2 tl2 m r n2 := by
  obtain ⟨R2, c2, S2⟩ := T2
  refine ⟨R2, c2, S2.offs e (fun b hb => ?_) fun b hb z => ?_⟩
  · rcases List.mem_cons.mp hb with z | z
    · subst z; exact ha.nt b (by simp)
    · exact (S.nt b z).1
  · rcases List.mem_cons.mp z with z | z
    · exact nh (z ▸ hb)
    · exact dis b z hb
def spLaw : Sp := fun vs H Q _ => ∃ (a : Addr) (ns : List Int), vs = [.ref a] ∧ SqL K H a (ns.map V.int) ∧ ∀ H', Q (.bl true) H'
theorem sc_law : FnScope ["_law_script", "_law_hand_here", "_law_many", "_law_most", "_law_one", "_law_first", "_law_turn", "_law_other", "_law_second"] ["_law_script"] (defScope s_law) := ⟨rfl, rfl, rfl, by decide +kernel, rfl, by decide +kernel, by decide +kernel⟩
theorem ok_law (T : Txt w K mg) {fd : FuncData} (F : FunD K "law" "law" (defArgs s_law) (defBody s_law) (defScope s_law) [] [] (He.ga K "law") fd) : FnOk P w K mg base CX0 75 (He.ga K "law") fd ["_law_script"] (spLaw (K := K)) := by
  obtain ⟨fA, dA, GA, mA, kA, bA⟩ := (ok__law_hand (P := P) (base := base) T).ex
  obtain ⟨fZ, dZ, GZ, mZ, kZ, bZ⟩ := (ok__law_size (P := P) (base := base) T).ex
  obtain ⟨fD, dD, GD, mD, kD, bD⟩ := (ok__law_draw (P := P) (base := base) T).ex
  obtain ⟨fC, dC, GC, mC, kC, bC⟩ := (ok__law_came (P := P) (base := base) T).ex
  obtain ⟨fR, dR, GR, mR, kR, bR⟩ := (ok__law_right (P := P) (base := base) T).ex
  obtain ⟨fN, dN, GN, mN, gN, bN⟩ := (ok_Roads_init (P := P) (base := base) T).ex
  obtain ⟨fY, dY, GY, mY, cY, bY⟩ := (ok_Roads_copy (P := P) (base := base) T).ex
  obtain ⟨fS, dS, GS, mS, cS, bS⟩ := (ok_Roads_spent (P := P) (base := base) T).ex
  obtain ⟨fB, dB, GB, mB, cB, bB⟩ := (ok_Roads_bound (P := P) (base := base) T).ex
  obtain ⟨fI, dI, GI, mI, cI, bI⟩ := (ok_Roads_ties (P := P) (base := base) T).ex
  obtain ⟨fJ, dJ, GJ, mJ, cJ, bJ⟩ := (ok_Roads_kept (P := P) (base := base) T).ex
  refine fnok F sc_law (fun vs H Q E h => ?_) (fun cdv A outer s H vs Q E hr h => ?_)
  · obtain ⟨a, ns, rfl, _⟩ := h; rfl
  · obtain ⟨a, ns, rfl, ha, q⟩ := h
    have hr1 : Room 1 _ := hr.mono (by decide)
    have hr2 : Room 2 _ := hr.mono (by decide)
    have hr5 : Room 5 _ := hr.mono (by decide)
    have hr8 : Room 8 _ := hr.mono (by decide)
    have hr71 : Room 71 _ := hr.mono (by decide)
    refine ⟨_, (pss_cons (ps_set (i := 1) sc_law.nd rfl (.inl rfl) (pe_call GA hr1 (by rfl) mA kA bA .nil pass0 (pa_cons (pv 0) pa_nil))) (pss_cons (ps_asg (pe_call GZ hr2 (by rfl) mZ kZ bZ .nil pass0 (pa_cons (pv 1) pa_nil)) (pg_tup rfl (pgs_cons (pg_name (i := 2) sc_law.nd rfl (.inl rfl)) (pgs_cons (pg_name (i := 3) sc_law.nd rfl (.inl rfl)) pgs_nil)))) (pss_cons (ps_par (i := 4) (j := 5) rfl sc_law.nd rfl rfl (by decide) rfl rfl (pa_cons (pe_make mN GN hr8 (by rfl) gN bN .nil pass0 (pa_cons (pv 2) (pa_cons (pv 3) pa_nil))) (pa_cons (pe_lst pa_nil) pa_nil)) (by rfl)) (pss_cons (ps_for PassesOwn.never rfl (pi_range1 (by rfl) T.free_range (pa_cons (pe_call GD hr1 (by rfl) mD kD bD .nil pass0 (pa_cons (pv 1) (pa_cons pe_int pa_nil))) pa_nil)) (pg_name (i := 6) sc_law.nd rfl (.inl rfl)) (pss_one (ps_expr (pe_call GC hr (by rfl) mC kC bC .nil pass0 (pa_cons (pv 1) (pa_cons (pv 4) (pa_cons (pv 2) (pa_cons (pv 3) (pa_cons (pv 5) pa_nil))))))))) (pss_cons (ps_par (i := 7) (j := 8) rfl sc_law.nd rfl rfl (by decide) rfl rfl (pa_cons (pe_meth0 (pv 4) cY mY GY hr71 bY .nil pass0) (pa_cons (pe_callTy call_list_of (by rfl) T.free_list (by decide +kernel) (pa_cons (pv 5) pa_nil)) pa_nil)) (by rfl)) (pss_cons (ps_if (pw_or (pt_cmpR op_ne (pe_meth0 (pv 7) cS mS GS hr2 bS .nil pass0) (pe_meth0 (pv 4) cS mS GS hr2 bS .nil pass0) (nomark _)) (pw_or1 (pt_cmpR op_ne (pe_meth0 (pv 7) cB mB GB hr2 bB .nil pass0) (pe_meth0 (pv 4) cB mB GB hr2 bB .nil pass0) (nomark _)))).pt (pss_one (ps_ret pe_bl)) pss_nil) (pss_cons (ps_for PassesOwn.never rfl (pi_range1 (by rfl) T.free_range (pa_cons pe_int pa_nil)) (pg_name (i := 6) sc_law.nd rfl (.inl rfl)) (pss_mid (ps_if (pt_cmpR op_eq (pe_call GD hr1 (by rfl) mD kD bD .nil pass0 (pa_cons (pv 1) (pa_cons pe_int pa_nil))) pe_int (nomark _)) (pss_one (ps_expr (pe_call GC hr (by rfl) mC kC bC .nil pass0 (pa_cons (pv 1) (pa_cons (pv 4) (pa_cons (pv 2) (pa_cons (pv 3) (pa_cons (pv 5) pa_nil)))))))) (pss_one (ps_expr (pe_call GC hr (by rfl) mC kC bC .nil pass0 (pa_cons (pv 1) (pa_cons (pv 7) (pa_cons (pv 2) (pa_cons (pv 3) (pa_cons (pv 8) pa_nil)))))))))
        (pss_cons (ps_expr (pe_bm PySem.F.plainAttrs_list PySem.F.slot_list_append PySem.F.type_list_append mt_append (pe_meth0 (pv 4) cI mI GI hr1 bI .nil pass0) (pa_cons (pe_tup (pa_cons pe_int (pa_cons pe_int (pa_cons pe_int pa_nil)))) pa_nil))) (pss_one (ps_if (pw_or (pt_not (pt_val (pe_call GR hr5 (by rfl) mR kR bR .nil pass0 (pa_cons (pv 4) (pa_cons (pv 2) (pa_cons (pv 5) pa_nil)))))) (pw_or1 (pt_not (pt_val (pe_call GR hr5 (by rfl) mR kR bR .nil pass0 (pa_cons (pv 7) (pa_cons (pv 2) (pa_cons (pv 8) pa_nil)))))))).pt (pss_one (ps_ret pe_bl)) pss_nil))))) (pss_one (ps_ret (pe_and (pe_callB call_isi (by rfl) T.free_isinstance (by decide +kernel) (pa_cons (pv 7) (pa_cons (gr T.glo_Roads) pa_nil))) (pe_one (pe_callB call_isi (by rfl) T.free_isinstance (by decide +kernel) (pa_cons (pe_meth0 (pe_meth0 (pv 4) cY mY GY hr71 bY .nil pass0) cJ mJ GJ hr1 bJ .nil pass0) (pa_cons (gt (T := "tuple") T.free_tuple (by decide +kernel)) pa_nil)))))))))))))), ?_⟩
    -- hand, size
    refine ⟨_, rfl, a, ns, rfl, ha, fun H1 h cl s1 nh ncl hd1 => ?_⟩
    refine ⟨_, rfl, h, cl, rfl, hd1, fun H2 v sz o2 hd2 => ?_⟩
    obtain ⟨p, m, r, rfl, hp, m1, m32, mr2, mr64⟩ := sz
    refine ⟨p, _, rfl, SqT.of hp, rfl, _, _, rfl, _, _, rfl, rfl, ?_⟩
    -- the roads
    refine ⟨_, rfl, _, rfl, fun x xdx nx nxdx ne => ?_⟩
    have s3 := (same_upd (o := .own x) nxdx).trans (same_upd (o := .ins (cR K) xdx []) (p := x) (H := upd H2 xdx (.own x)) (by rw [upd_ne (Ne.symm ne)]; exact nx))
    have hx3 : upd (upd H2 xdx (.own x)) x (.ins (cR K) xdx []) x = some (.ins (cR K) xdx []) := upd_same
    generalize upd (upd H2 xdx (.own x)) x (.ins (cR K) xdx []) = H3 at s3 hx3
    refine ⟨x, xdx, m, r, rfl, hx3, m1, m32, mr2, mr64, fun H4 rl ld k tl o4 n1 n2 n3 n4 rd4 => ⟨rfl, ?_⟩⟩
    have s4 : Same H2 H4 := Offs.new s3 o4 fun b hb => by rw [List.mem_singleton.mp hb]; exact nx
    refine ⟨by show 0 ≤ sizeLine; decide, fun lr nlr => ⟨_, _, rfl, ?_⟩⟩
    have s5 := same_upd (o := .lst []) nlr
    have hlr5 : upd H4 lr (.lst []) lr = some (.lst (([] : List Addr).map V.ref)) := upd_same
    generalize upd H4 lr (.lst []) = H5 at s5 hlr5
    have hd5 := (hd2.same s4).same s5
    have S5 : Side K H5 lr x rl ld k tl m r [] 0 0 := ⟨rd4.same s5, ⟨[], hlr5, ⟨rfl, fun i p t h1 => by simp at h1⟩⟩, fun z => rd4.live lr z nlr⟩
    have nn : ∀ b ∈ cells lr x rl ld k tl, H2 b = none := by
      intro b hb
      simp only [cells, List.mem_cons, List.not_mem_nil, or_false] at hb
      rcases hb with rfl | rfl | rfl | rfl | rfl | rfl
      · exact s4.free nlr
      · exact nx
      · exact s3.free n1
      · exact s3.free n2
      · exact s3.free n3
      · exact s3.free n4
    have nhx : h ∉ cells lr x rl ld k tl := fun z => hd2.live.1 (nn h z)
    have ncx : cl ∉ cells lr x rl ld k tl := fun z => hd2.live.2 (nn cl z)
    -- the first ties
    refine ⟨_, rfl, h, cl, 12, rfl, by decide, by decide, hd5, fun H6 x1 a1 b1 o6 hd6 => ?_⟩
    obtain ⟨n1, rfl⟩ : ∃ n1 : Nat, x1 = (n1 : Int) := ⟨x1.toNat, by omega⟩
    refine ⟨_, rfl, by omega, by omega, ?_⟩
    rw [Int.toNat_natCast]
    have n12 : n1 < 12 := by omega
    refine for_range (fun i σ H7 => ∃ v6 R c, HandAt H7 h cl ∧ Side K H7 lr x rl ld k tl m r R c (58 * i) ∧ 0 ≤ c ∧ c ≤ i ∧ σ = [some (.ref a), some (.ref h), some (.int m), some (.int r), some (.ref x), some (.ref lr), v6, none, none]) ?_ ?_ ?_
    · exact ⟨none, [], 0, hd6, hd5.draw S5 nhx o6, Int.le_refl _, Int.le_refl _, rfl⟩
    · rintro i σ H7 hi ⟨v6, R, c, hd7, S7, c0, c1, rfl⟩
      refine ⟨_, rfl, _, rfl, _, rfl, _, rfl, _, rfl, ?_⟩
      refine ⟨h, cl, lr, x, rl, ld, k, tl, m, r, 58 * i, R, c, rfl, hd7, S7, nhx, ncx, m1, by omega, by omega, fun H8 R' c' mm' o8 hd8 S8 d1 d2 d3 => ?_⟩
      exact ⟨_, R', c', hd8, S8.mono (by omega), by omega, by omega, rfl⟩
    rintro σ H7 ⟨v6, R, c, hd7, S7, c0, c1, rfl⟩
    -- the copy
    obtain ⟨pss, pp⟩ := S7.rd.paps (by omega)
    obtain ⟨dx, hx7⟩ := S7.rd.ins
    refine ⟨_, rfl, x, dx, _, rfl, hx7, rfl, ?_⟩
    refine ⟨x, rl, ld, k, tl, m, r, R, c, 58 * n1, pss, rfl, S7.rd, pp, m1, m32, mr2, fun H8 y rl2 ld2 k2 tl2 s8 n8 rd8 pp8 => ?_⟩
    obtain ⟨rr, hlr7, ta7⟩ := S7.rows
    refine ⟨_, rfl, lr, _, rfl, .inl (SqL.of (s8 _ _ hlr7)), fun lr2 nlr2 => ⟨_, _, rfl, ?_⟩⟩
    have s9 := same_upd (o := .lst (rr.map V.ref)) nlr2
    have hlr9 : upd H8 lr2 (.lst (rr.map V.ref)) lr2 = some (.lst (rr.map V.ref)) := upd_same
    generalize upd H8 lr2 (.lst (rr.map V.ref)) = H9 at s9 hlr9
    have hd9 := (hd7.same s8).same s9
    have S9 := (S7.same s8).same s9
    have U9 : Side K H9 lr2 y rl2 ld2 k2 tl2 m r R c (58 * n1) := ⟨rd8.same s9, ⟨rr, hlr9, (ta7.same s8).same s9⟩, fun z => rd8.live lr2 z nlr2⟩
    have nn2 : ∀ b ∈ cells lr2 y rl2 ld2 k2 tl2, H7 b = none := by
      intro b hb
      rcases List.mem_cons.mp hb with z | z
      · rw [z]; exact s8.free nlr2
      · exact n8 b z
    have nhy : h ∉ cells lr2 y rl2 ld2 k2 tl2 := fun z => hd7.live.1 (nn2 h z)
    have ncy : cl ∉ cells lr2 y rl2 ld2 k2 tl2 := fun z => hd7.live.2 (nn2 cl z)
    have dis : ∀ b, b ∈ cells lr x rl ld k tl → b ∉ cells lr2 y rl2 ld2 k2 tl2 := fun b hb z => S7.live hb (nn2 b z)
    -- the sums
    obtain ⟨dy, hy9⟩ := U9.rd.ins
    have hx9 := s9 _ _ (s8 _ _ hx7)
    refine ⟨_, rfl, y, dy, _, rfl, hy9, rfl, ?_⟩
    refine ⟨y, dy, rl2, ld2, k2, tl2, m, r, c, pss, rfl, hy9, pp8.same s9, fun H10 s10 => ?_⟩
    refine ⟨_, rfl, x, dx, _, rfl, s10 _ _ hx9, rfl, ?_⟩
    refine ⟨x, dx, rl, ld, k, tl, m, r, c, pss, rfl, s10 _ _ hx9, ((pp.same s8).same s9).same s10, fun H11 s11 => ⟨rfl, _, rfl, ?_⟩⟩
    rw [show (!decide (V.int (spent pss) = V.int (spent pss))) = false from by simp]
    have s911 := s10.trans s11
    obtain ⟨ys, hys, lys, ly64⟩ := U9.rd.list
    obtain ⟨xs, hxs, lxs, lx64⟩ := S9.rd.list
    refine iteF ⟨_, rfl, y, dy, _, rfl, s911 _ _ hy9, rfl, ?_⟩
    refine ⟨y, dy, rl2, ld2, k2, m, r, c, ys, rfl, s911 _ _ hy9, s911 _ _ hys, ly64, mr64, c0, by omega, ?_⟩
    refine ⟨_, rfl, x, dx, _, rfl, s911 _ _ hx9, rfl, ?_⟩
    refine ⟨x, dx, rl, ld, k, m, r, c, xs, rfl, s911 _ _ hx9, s911 _ _ hxs, lx64, mr64, c0, by omega, rfl, _, rfl, ?_⟩
    rw [lys, lxs, show (!decide (V.int (bndV m r c R.length) = V.int (bndV m r c R.length))) = false from by simp]
    refine iteF ?_
    -- ten turns
    refine ⟨_, rfl, by decide, by decide, ?_⟩
    rw [show (10 : Int).toNat = 10 from rfl]
    refine for_range (fun i σ H12 => ∃ v6, HandAt H12 h cl ∧ Sd K H12 lr x rl ld k tl m r (58 * (12 + i)) ∧ Sd K H12 lr2 y rl2 ld2 k2 tl2 m r (58 * (12 + i)) ∧ σ = [some (.ref a), some (.ref h), some (.int m), some (.int r), some (.ref x), some (.ref lr), v6, some (.ref y), some (.ref lr2)]) ?_ ?_ ?_
    · exact ⟨v6, hd9.same s911, ⟨R, c, (S9.same s911).mono (by omega)⟩, ⟨R, c, (U9.same s911).mono (by omega)⟩, rfl⟩
    · rintro i σ H12 hi ⟨v6, hd, ⟨R1, c1, T1⟩, ⟨R2, c2, T2⟩, rfl⟩
      refine ⟨fun σ H13 => HandAt H13 h cl ∧ Sd K H13 lr x rl ld k tl m r (58 * (12 + (i + 1))) ∧ Sd K H13 lr2 y rl2 ld2 k2 tl2 m r (58 * (12 + (i + 1))) ∧ σ = [some (.ref a), some (.ref h), some (.int m), some (.int r), some (.ref x), some (.ref lr), some (.int (0 + (i : Int))), some (.ref y), some (.ref lr2)], ?_, ?_⟩
      · refine ⟨_, rfl, h, cl, 2, rfl, by decide, by decide, hd, fun H13 z a1 b1 o13 hd13 => ⟨rfl, _, rfl, ?_⟩⟩
        have S13 := hd.draw T1 nhx o13
        have U13 := hd.draw T2 nhy o13
        cases decide (V.int z = V.int 0) with
        | true =>
          refine iteT ⟨_, rfl, _, rfl, _, rfl, _, rfl, _, rfl, ?_⟩
          refine ⟨h, cl, lr, x, rl, ld, k, tl, m, r, _, R1, c1, rfl, hd13, S13, nhx, ncx, m1, by omega, by omega, fun H14 R' c' mm' o14 hd14 S14 _ _ d3 => ?_⟩
          obtain ⟨R3, c3, U14⟩ := Sd.other hd13 S13 ⟨R2, c2, U13⟩ nhy dis o14
          exact ⟨hd14, ⟨R', c', S14.mono (by omega)⟩, ⟨R3, c3, U14.mono (by omega)⟩, rfl⟩
        | false =>
          refine iteF ⟨_, rfl, _, rfl, _, rfl, _, rfl, _, rfl, ?_⟩
          refine ⟨h, cl, lr2, y, rl2, ld2, k2, tl2, m, r, _, R2, c2, rfl, hd13, U13, nhy, ncy, m1, by omega, by omega, fun H14 R' c' mm' o14 hd14 U14 _ _ d3 => ?_⟩
          obtain ⟨R3, c3, S14⟩ := Sd.other hd13 U13 ⟨R1, c1, S13⟩ nhx (fun b hb z => dis b z hb) o14
          exact ⟨hd14, ⟨R3, c3, S14.mono (by omega)⟩, ⟨R', c', U14.mono (by omega)⟩, rfl⟩
      · rintro σ H13 ⟨hd13, ⟨R1, c1, S13⟩, ⟨R2, c2, U13⟩, rfl⟩
        obtain ⟨dx, hx⟩ := S13.rd.ins
        obtain ⟨xs, hxs, lxs, lx64⟩ := S13.rd.list
        refine ⟨_, rfl, x, dx, _, rfl, hx, rfl, ?_⟩
        refine ⟨x, dx, rl, ld, k, m, r, c1, xs, rfl, hx, hxs, fun p np => ⟨.inl ⟨rfl, _, SqL.of upd_same⟩, ?_⟩⟩
        refine ⟨by show 3 ≤ sizeLine; decide, fun t nt => ?_⟩
        have s14 := same_upd (o := .lst xs) np
        have hp14 : upd H13 p (.lst xs) p = some (.lst xs) := upd_same
        generalize upd H13 p (.lst xs) = H14 at s14 hp14 nt
        have s15 := same_upd (o := .tup [.int 0, .int 0, .int 0]) nt
        have hp15 := s15 _ _ hp14
        refine ⟨p, _, _, rfl, rfl, hp15, small1000 (by omega), ?_⟩
        have s16 : Same H13 (upd (upd H14 t (.tup [.int 0, .int 0, .int 0])) p (.lst (xs ++ [.ref t]))) := Offs.new (xs := [p]) (s14.trans s15) ((Offs.of (.refl _)).upd (by simp)) fun b hb => by rw [List.mem_singleton.mp hb]; exact np
        generalize upd (upd H14 t (.tup [.int 0, .int 0, .int 0])) p (.lst (xs ++ [.ref t])) = H16 at s16
        refine ⟨_, rfl, _, rfl, _, rfl, lr, x, rl, ld, k, tl, m, r, _, R1, c1, rfl, S13.same s16, m1, fun H17 s17 => ⟨_, rfl, iteF ?_⟩⟩
        refine ⟨_, rfl, _, rfl, _, rfl, lr2, y, rl2, ld2, k2, tl2, m, r, _, R2, c2, rfl, (U13.same s16).same s17, m1, fun H18 s18 => ⟨_, rfl, iteF ?_⟩⟩
        have s1318 := (s16.trans s17).trans s18
        exact ⟨_, hd13.same s1318, ⟨R1, c1, S13.same s1318⟩, ⟨R2, c2, U13.same s1318⟩, rfl⟩
    · rintro σ H12 ⟨v6, hd, ⟨R1, c1, S12⟩, ⟨R2, c2, U12⟩, rfl⟩
      obtain ⟨dy, hy⟩ := U12.rd.ins
      obtain ⟨dx, hx⟩ := S12.rd.ins
      obtain ⟨pss, pp⟩ := S12.rd.paps (by omega)
      have ib := T.more.2.2.2.2.2.2
      unfold insB at ib
      obtain ⟨i1, ib⟩ := He.ba ib
      obtain ⟨i2, ib⟩ := He.ba ib
      obtain ⟨i3, i4⟩ := He.ba ib
      refine ⟨_, rfl, _, _, _, _, true, rfl, .own _, .base (.ins hy T.cls_Roads (He.eqO_ok i1) (He.eqO_ok i2) (of_decide_eq_true i3) (of_decide_eq_true i4)), T.more.2.2.2.2.2.1, _, rfl, iteT ?_⟩
      refine ⟨_, rfl, x, dx, _, rfl, hx, rfl, ?_⟩
      refine ⟨x, rl, ld, k, tl, m, r, R1, c1, _, pss, rfl, S12.rd, pp, m1, m32, mr2, fun H13 z rl3 ld3 k3 tl3 s13 _ rd13 _ => ?_⟩
      obtain ⟨dz, hz⟩ := rd13.ins
      obtain ⟨zs, hzs, lzs, lz64⟩ := rd13.list
      obtain ⟨kvs, hkv⟩ := rd13.dict
      refine ⟨z, dz, _, rfl, hz, rfl, ?_⟩
      refine ⟨z, dz, rl3, ld3, k3, m, r, c1, zs, kvs, rfl, hz, hzs, lz64, hkv, fun H14 p s14 hp => ?_⟩
      exact ⟨_, _, _, _, true, rfl, .ty "tuple", .base (.tup hp), kit_ty (by decide +kernel), q _⟩
end
end G3
set_option Elab.async false
set_option linter.all false
set_option maxRecDepth 100000
set_option maxHeartbeats 0
/-! The head's end. -/
namespace G3
open PySem PySem.Spec PyProof.Rows L2
theorem facts {P : Program} {w : World} {K : PySem.W.Frag} {h : Heap} {mg : Str → Option Value} {f : Addr} (X : K.In h) (G : h.Ns mainGlobals mg) (hfa : mg ("law" : Str) = some (.ref f)) (c : Says w K) :
    ∃ fd : FuncData, (∀ (s : Shared) (v : Value), BindsTo s fd ⟨[v], []⟩ [("_law_script", v)]) ∧ ∀ base : Heap, K.In base → base.Ns mainGlobals mg → FnOk P w K mg base CX0 75 f fd ["_law_script"] (spLaw (K := K)) := by
  have T : Txt w K mg := ⟨c, h, X, G⟩
  obtain ⟨fd, F⟩ := T.fn_law
  have e := hfa.symm.trans T.glo_law
  cases e
  have b := FunD.bindsA (ps := ["_law_script"]) F fun _ _ _ _ _ _ us hl => match us, hl with | [_], _ => rfl
  exact ⟨fd, fun s v => b s [v] rfl, fun base _ _ => ok_law T F⟩
end G3
open PySem PySem.W PySem.Calls PyProof.Rows
theorem PySem.Challenge.cw_cutlinked_k25_whole_roads_that_go_on_apa_holds : PySem.Challenge.rw_cutlinked_k25_whole_roads_that_go_on_apa.Holds := by
  w_on; o_law
  refine HandSHeadRun.head_any (r := G3.R) (q := G3.qv) (H := G3.hk) (ob := G3.ob) (M := 7000) (loose := G3.loose) (d := HandSHeadRun.topDef G3.R.prog 112) (kwd := []) G3.ob_eq
    (by kernel_rfl) (fun s => by kernel_rfl) G3.run (by kernel_rfl) (by kernel_rfl) (by kernel_rfl) (by rfl) (by first | assumption | decide +kernel) (by decide +kernel) ⟨rfl, rfl, rfl, rfl, rfl, by decide +kernel⟩ ?hw ?hc
  case hw => w_witness2
  case hc =>
    refine L2.walk_ofE (l := PySem.Challenge.rw_cutlinked_k25_whole_roads_that_go_on_apa) (n := 63) (k := 75) (x := "_law_script") (CX := L2.CX0) rfl (by decide) (by kernel_rfl) ⟨rfl, by decide, by decide⟩ ?F (fun _ _ _ _ z => z)
    intro w mg fa h Y G hmg0
    obtain ⟨K, KX, c⟩ := Y
    have hmg : mg ("law" : PySem.Str) = some (.ref fa) := by
      have e : (HandSHeadRun.topDef G3.R.prog 112).name = ("law" : PySem.Str) := by kernel_rfl
      rw [← e]
      exact hmg0
    obtain ⟨fd, hb, hF⟩ := G3.facts (P := G3.R.prog) (w := w) KX G hmg c
    exact ⟨K, fd, G3.spLaw (K := K), KX, hb, fun H a ns hl _ hS => ⟨a, ns, rfl, hS, fun _ => rfl⟩, hF⟩
