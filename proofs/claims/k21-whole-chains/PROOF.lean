import PyProof.Rows.All
import Wide.All
import OpenK.AllK
import Wide.FinOn
import KE.KStateDown
import HandS.ForMost
import HandS.Codes
import HandS.Defaults
import HandS.MakeKwOnly
import HandS.Property
import HandS.FStr
import HandS.Zip
import HandS.Walk
import HandS.TupAny
import HandS.TupMul
import HandS.WideBits
import HandS.Strs
import HandS.Deep
import HandS.Style
import HandS.Flow
import HandS.Conv
import HandS.Evl
import HandS.Records
import HandS.TupLen
import HandS.Head0
import HandS.Head1
import HandS.Head2
import HandS.Head3
import HandS.HeadEnd
import HandS.HeadHook1
import HandS.HeadHook2
import HandS.HeadHook3
import HandS.HeadHook4
import HandS.HeadNt
import PySem.Challenge.RW_raisedwreck_k21_whole_chains
import KE.GoesNew
import PyProof.ZipIter
import PyProof.CallType
import PyProof.RulesTry
import KE.KxText
import KE.BitLaws
set_option Elab.async false
set_option linter.all false
set_option maxRecDepth 100000
set_option maxHeartbeats 4000000
/-! The text by places, the head's facts, the head's run. -/
namespace RW
open PySem PySem.Spec PyProof.Rows L2
abbrev PR : Program := PySem.Challenge.pw_raisedwreck_k21_whole_chains
def topS (i : Nat) : Stmt := PySem.Challenge.pw_raisedwreck_k21_whole_chains.main.body.getD i (.Pass ⟨0, 0, 0, 0⟩)
/-- the getter of a property of a class -/
def getterOf (K : PySem.W.Frag) (C m : Str) : Addr := match PySem.W.recIn K (He.ma K (He.ga K C) m) "property" with
  | some (.ref g :: _) => g
  | _ => 0
abbrev s_is_name : Stmt := topS 15
abbrev s_check_names : Stmt := topS 16
abbrev s_is_mask : Stmt := topS 17
abbrev s_check_order : Stmt := topS 18
abbrev s_Machine_init : Stmt := inClass (topS 19) 0
abbrev s_Machine_check_deed : Stmt := inClass (topS 19) 1
abbrev s_Machine_full : Stmt := inClass (topS 19) 2
abbrev s_check_sketch : Stmt := topS 20
abbrev s_digits : Stmt := topS 22
abbrev s_block_tuples : Stmt := topS 23
abbrev s_all_contents : Stmt := topS 24
abbrev s_check_range : Stmt := topS 25
abbrev s_check_count : Stmt := topS 26
abbrev s_check_file : Stmt := topS 27
abbrev s_check_contents : Stmt := topS 28
abbrev s_one : Stmt := topS 29
abbrev s_set_to : Stmt := topS 30
abbrev s_ChainForm_init : Stmt := inClass (topS 34) 0
abbrev s_ChainForm_link : Stmt := inClass (topS 34) 1
abbrev s_ChainForm_data : Stmt := inClass (topS 34) 2
abbrev s_ChainForm_live : Stmt := inClass (topS 34) 3
abbrev s_ChainForm_gone : Stmt := inClass (topS 34) 4
abbrev s_links : Stmt := topS 35
abbrev s_cells : Stmt := topS 36
abbrev s_file_guard : Stmt := topS 37
abbrev s_data_changes : Stmt := topS 38
abbrev s_write_deed : Stmt := topS 39
abbrev s_file_deeds : Stmt := topS 40
abbrev s_chain_machine : Stmt := topS 41
abbrev s_chain_piece : Stmt := topS 42
abbrev s_sketch_before : Stmt := topS 44
abbrev s_meet : Stmt := topS 46
abbrev s_split : Stmt := topS 47
abbrev s_without : Stmt := topS 48
abbrev s_values_of : Stmt := topS 49
abbrev s_least_disk : Stmt := topS 50
abbrev s_Paper_init : Stmt := inClass (topS 52) 0
abbrev s_Answer_init : Stmt := inClass (topS 53) 0
abbrev s_check_question : Stmt := topS 54
abbrev s_packed_sketch : Stmt := topS 55
abbrev s_Search_init : Stmt := inClass (topS 56) 0
abbrev s_Search_place : Stmt := inClass (topS 56) 1
abbrev s_Search_places : Stmt := inClass (topS 56) 2
abbrev s_Search_row : Stmt := inClass (topS 56) 3
abbrev s_Search_history : Stmt := inClass (topS 56) 4
abbrev s_tell : Stmt := topS 57
abbrev s_law_cell : Stmt := topS 59
abbrev s_law_mix : Stmt := topS 60
abbrev s_law_contents : Stmt := topS 63
abbrev s_law_links : Stmt := topS 65
abbrev s_law_blocks : Stmt := topS 66
abbrev s_law_put : Stmt := topS 67
abbrev s_law_do : Stmt := topS 68
abbrev s_law_ways : Stmt := topS 69
abbrev s_law_reached : Stmt := topS 70
abbrev s_law_avoid : Stmt := topS 71
abbrev s_law_fits : Stmt := topS 72
abbrev s_law_spoil : Stmt := topS 73
abbrev s_law_end : Stmt := topS 74
abbrev s_law_live : Stmt := topS 75
abbrev s_law_starts : Stmt := topS 76
abbrev s_law_sizes : Stmt := topS 77
abbrev s_law : Stmt := topS 78
def d_is_name : He5.DefA := ⟨fun K => He.ga K "is_name", "is_name", "is_name", defArgs s_is_name, defBody s_is_name, defScope s_is_name, [], []⟩
def d_check_names : He5.DefA := ⟨fun K => He.ga K "_check_names", "_check_names", "_check_names", defArgs s_check_names, defBody s_check_names, defScope s_check_names, [], []⟩
def d_is_mask : He5.DefA := ⟨fun K => He.ga K "is_mask", "is_mask", "is_mask", defArgs s_is_mask, defBody s_is_mask, defScope s_is_mask, [], []⟩
def d_check_order : He5.DefA := ⟨fun K => He.ga K "_check_order", "_check_order", "_check_order", defArgs s_check_order, defBody s_check_order, defScope s_check_order, [], []⟩
def d_Machine_init : He5.DefA := ⟨fun K => He.ma K (He.ga K "Machine") "__init__", "__init__", "Machine.__init__", defArgs s_Machine_init, defBody s_Machine_init, defScope s_Machine_init, [], []⟩
def d_Machine_check_deed : He5.DefA := ⟨fun K => He.ma K (He.ga K "Machine") "_check_deed", "_check_deed", "Machine._check_deed", defArgs s_Machine_check_deed, defBody s_Machine_check_deed, defScope s_Machine_check_deed, [], []⟩
def d_Machine_full : He5.DefA := ⟨fun K => getterOf K "Machine" "full", "full", "Machine.full", defArgs s_Machine_full, defBody s_Machine_full, defScope s_Machine_full, [], []⟩
def d_check_sketch : He5.DefA := ⟨fun K => He.ga K "check_sketch", "check_sketch", "check_sketch", defArgs s_check_sketch, defBody s_check_sketch, defScope s_check_sketch, [], []⟩
def d_digits : He5.DefA := ⟨fun K => He.ga K "digits", "digits", "digits", defArgs s_digits, defBody s_digits, defScope s_digits, [], []⟩
def d_block_tuples : He5.DefA := ⟨fun K => He.ga K "block_tuples", "block_tuples", "block_tuples", defArgs s_block_tuples, defBody s_block_tuples, defScope s_block_tuples, [], []⟩
def d_all_contents : He5.DefA := ⟨fun K => He.ga K "all_contents", "all_contents", "all_contents", defArgs s_all_contents, defBody s_all_contents, defScope s_all_contents, [], []⟩
def d_check_range : He5.DefA := ⟨fun K => He.ga K "check_range", "check_range", "check_range", defArgs s_check_range, defBody s_check_range, defScope s_check_range, [], []⟩
def d_check_count : He5.DefA := ⟨fun K => He.ga K "check_count", "check_count", "check_count", defArgs s_check_count, defBody s_check_count, defScope s_check_count, [], []⟩
def d_check_file : He5.DefA := ⟨fun K => He.ga K "check_file", "check_file", "check_file", defArgs s_check_file, defBody s_check_file, defScope s_check_file, [], []⟩
def d_check_contents : He5.DefA := ⟨fun K => He.ga K "check_contents", "check_contents", "check_contents", defArgs s_check_contents, defBody s_check_contents, defScope s_check_contents, [], []⟩
def d_one : He5.DefA := ⟨fun K => He.ga K "one", "one", "one", defArgs s_one, defBody s_one, defScope s_one, [], []⟩
def d_set_to : He5.DefA := ⟨fun K => He.ga K "set_to", "set_to", "set_to", defArgs s_set_to, defBody s_set_to, defScope s_set_to, [], []⟩
def d_ChainForm_init : He5.DefA := ⟨fun K => He.ma K (He.ga K "ChainForm") "__init__", "__init__", "ChainForm.__init__", defArgs s_ChainForm_init, defBody s_ChainForm_init, defScope s_ChainForm_init, [], [("wiped", .bl true)]⟩
def d_ChainForm_link : He5.DefA := ⟨fun K => He.ma K (He.ga K "ChainForm") "link", "link", "ChainForm.link", defArgs s_ChainForm_link, defBody s_ChainForm_link, defScope s_ChainForm_link, [], []⟩
def d_ChainForm_data : He5.DefA := ⟨fun K => He.ma K (He.ga K "ChainForm") "data", "data", "ChainForm.data", defArgs s_ChainForm_data, defBody s_ChainForm_data, defScope s_ChainForm_data, [], []⟩
def d_ChainForm_live : He5.DefA := ⟨fun K => He.ma K (He.ga K "ChainForm") "live", "live", "ChainForm.live", defArgs s_ChainForm_live, defBody s_ChainForm_live, defScope s_ChainForm_live, [], []⟩
def d_ChainForm_gone : He5.DefA := ⟨fun K => He.ma K (He.ga K "ChainForm") "gone", "gone", "ChainForm.gone", defArgs s_ChainForm_gone, defBody s_ChainForm_gone, defScope s_ChainForm_gone, [], []⟩
def d_links : He5.DefA := ⟨fun K => He.ga K "_links", "_links", "_links", defArgs s_links, defBody s_links, defScope s_links, [], []⟩
def d_cells : He5.DefA := ⟨fun K => He.ga K "_cells", "_cells", "_cells", defArgs s_cells, defBody s_cells, defScope s_cells, [], []⟩
def d_file_guard : He5.DefA := ⟨fun K => He.ga K "_file_guard", "_file_guard", "_file_guard", defArgs s_file_guard, defBody s_file_guard, defScope s_file_guard, [], []⟩
def d_data_changes : He5.DefA := ⟨fun K => He.ga K "_data_changes", "_data_changes", "_data_changes", defArgs s_data_changes, defBody s_data_changes, defScope s_data_changes, [], []⟩
def d_write_deed : He5.DefA := ⟨fun K => He.ga K "_write_deed", "_write_deed", "_write_deed", defArgs s_write_deed, defBody s_write_deed, defScope s_write_deed, [], []⟩
def d_file_deeds : He5.DefA := ⟨fun K => He.ga K "_file_deeds", "_file_deeds", "_file_deeds", defArgs s_file_deeds, defBody s_file_deeds, defScope s_file_deeds, [], []⟩
def d_chain_machine : He5.DefA := ⟨fun K => He.ga K "chain_machine", "chain_machine", "chain_machine", defArgs s_chain_machine, defBody s_chain_machine, defScope s_chain_machine, [], []⟩
def d_chain_piece : He5.DefA := ⟨fun K => He.ga K "chain_piece", "chain_piece", "chain_piece", defArgs s_chain_piece, defBody s_chain_piece, defScope s_chain_piece, [], []⟩
def d_sketch_before : He5.DefA := ⟨fun K => He.ga K "sketch_before", "sketch_before", "sketch_before", defArgs s_sketch_before, defBody s_sketch_before, defScope s_sketch_before, [], []⟩
def d_meet : He5.DefA := ⟨fun K => He.ga K "meet", "meet", "meet", defArgs s_meet, defBody s_meet, defScope s_meet, [], []⟩
def d_split : He5.DefA := ⟨fun K => He.ga K "_split", "_split", "_split", defArgs s_split, defBody s_split, defScope s_split, [], []⟩
def d_without : He5.DefA := ⟨fun K => He.ga K "without", "without", "without", defArgs s_without, defBody s_without, defScope s_without, [], []⟩
def d_values_of : He5.DefA := ⟨fun K => He.ga K "values_of", "values_of", "values_of", defArgs s_values_of, defBody s_values_of, defScope s_values_of, [], []⟩
def d_least_disk : He5.DefA := ⟨fun K => He.ga K "least_disk", "least_disk", "least_disk", defArgs s_least_disk, defBody s_least_disk, defScope s_least_disk, [], []⟩
def d_Paper_init : He5.DefA := ⟨fun K => He.ma K (He.ga K "Paper") "__init__", "__init__", "Paper.__init__", defArgs s_Paper_init, defBody s_Paper_init, defScope s_Paper_init, [], []⟩
def d_Answer_init : He5.DefA := ⟨fun K => He.ma K (He.ga K "Answer") "__init__", "__init__", "Answer.__init__", defArgs s_Answer_init, defBody s_Answer_init, defScope s_Answer_init, [], []⟩
def d_check_question : He5.DefA := ⟨fun K => He.ga K "check_question", "check_question", "check_question", defArgs s_check_question, defBody s_check_question, defScope s_check_question, [], []⟩
def d_packed_sketch : He5.DefA := ⟨fun K => He.ga K "packed_sketch", "packed_sketch", "packed_sketch", defArgs s_packed_sketch, defBody s_packed_sketch, defScope s_packed_sketch, [], []⟩
def d_Search_init : He5.DefA := ⟨fun K => He.ma K (He.ga K "Search") "__init__", "__init__", "Search.__init__", defArgs s_Search_init, defBody s_Search_init, defScope s_Search_init, [], []⟩
def d_Search_place : He5.DefA := ⟨fun K => He.ma K (He.ga K "Search") "place", "place", "Search.place", defArgs s_Search_place, defBody s_Search_place, defScope s_Search_place, [], []⟩
def d_Search_places : He5.DefA := ⟨fun K => He.ma K (He.ga K "Search") "places", "places", "Search.places", defArgs s_Search_places, defBody s_Search_places, defScope s_Search_places, [], []⟩
def d_Search_row : He5.DefA := ⟨fun K => He.ma K (He.ga K "Search") "row", "row", "Search.row", defArgs s_Search_row, defBody s_Search_row, defScope s_Search_row, [], []⟩
def d_Search_history : He5.DefA := ⟨fun K => He.ma K (He.ga K "Search") "history", "history", "Search.history", defArgs s_Search_history, defBody s_Search_history, defScope s_Search_history, [], []⟩
def d_tell : He5.DefA := ⟨fun K => He.ga K "tell", "tell", "tell", defArgs s_tell, defBody s_tell, defScope s_tell, [], []⟩
def d_law_cell : He5.DefA := ⟨fun K => He.ga K "_law_cell", "_law_cell", "_law_cell", defArgs s_law_cell, defBody s_law_cell, defScope s_law_cell, [], []⟩
def d_law_mix : He5.DefA := ⟨fun K => He.ga K "_law_mix", "_law_mix", "_law_mix", defArgs s_law_mix, defBody s_law_mix, defScope s_law_mix, [], []⟩
def d_law_contents : He5.DefA := ⟨fun K => He.ga K "_law_contents", "_law_contents", "_law_contents", defArgs s_law_contents, defBody s_law_contents, defScope s_law_contents, [], []⟩
def d_law_links : He5.DefA := ⟨fun K => He.ga K "_law_links", "_law_links", "_law_links", defArgs s_law_links, defBody s_law_links, defScope s_law_links, [], []⟩
def d_law_blocks : He5.DefA := ⟨fun K => He.ga K "_law_blocks", "_law_blocks", "_law_blocks", defArgs s_law_blocks, defBody s_law_blocks, defScope s_law_blocks, [], []⟩
def d_law_put : He5.DefA := ⟨fun K => He.ga K "_law_put", "_law_put", "_law_put", defArgs s_law_put, defBody s_law_put, defScope s_law_put, [], []⟩
def d_law_do : He5.DefA := ⟨fun K => He.ga K "_law_do", "_law_do", "_law_do", defArgs s_law_do, defBody s_law_do, defScope s_law_do, [], []⟩
def d_law_ways : He5.DefA := ⟨fun K => He.ga K "_law_ways", "_law_ways", "_law_ways", defArgs s_law_ways, defBody s_law_ways, defScope s_law_ways, [], []⟩
def d_law_reached : He5.DefA := ⟨fun K => He.ga K "_law_reached", "_law_reached", "_law_reached", defArgs s_law_reached, defBody s_law_reached, defScope s_law_reached, [], []⟩
def d_law_avoid : He5.DefA := ⟨fun K => He.ga K "_law_avoid", "_law_avoid", "_law_avoid", defArgs s_law_avoid, defBody s_law_avoid, defScope s_law_avoid, [], []⟩
def d_law_fits : He5.DefA := ⟨fun K => He.ga K "_law_fits", "_law_fits", "_law_fits", defArgs s_law_fits, defBody s_law_fits, defScope s_law_fits, [], []⟩
def d_law_spoil : He5.DefA := ⟨fun K => He.ga K "_law_spoil", "_law_spoil", "_law_spoil", defArgs s_law_spoil, defBody s_law_spoil, defScope s_law_spoil, [], []⟩
def d_law_end : He5.DefA := ⟨fun K => He.ga K "_law_end", "_law_end", "_law_end", defArgs s_law_end, defBody s_law_end, defScope s_law_end, [], []⟩
def d_law_live : He5.DefA := ⟨fun K => He.ga K "_law_live", "_law_live", "_law_live", defArgs s_law_live, defBody s_law_live, defScope s_law_live, [], []⟩
def d_law_starts : He5.DefA := ⟨fun K => He.ga K "_law_starts", "_law_starts", "_law_starts", defArgs s_law_starts, defBody s_law_starts, defScope s_law_starts, [], []⟩
def d_law_sizes : He5.DefA := ⟨fun K => He.ga K "_law_sizes", "_law_sizes", "_law_sizes", defArgs s_law_sizes, defBody s_law_sizes, defScope s_law_sizes, [], []⟩
def d_law : He5.DefA := ⟨fun K => He.ga K "law", "law", "law", defArgs s_law, defBody s_law, defScope s_law, [], []⟩
def fn1 : List He5.DefA := [d_is_name, d_check_names, d_is_mask, d_check_order, d_Machine_init, d_Machine_check_deed, d_Machine_full, d_check_sketch, d_digits, d_block_tuples, d_all_contents, d_check_range, d_check_count, d_check_file, d_check_contents, d_one, d_set_to, d_ChainForm_init, d_ChainForm_link, d_ChainForm_data, d_ChainForm_live, d_ChainForm_gone, d_links, d_cells, d_file_guard, d_data_changes, d_write_deed, d_file_deeds, d_chain_machine, d_chain_piece, d_sketch_before]
def fn2 : List He5.DefA := [d_meet, d_split, d_without, d_values_of, d_least_disk, d_Paper_init, d_Answer_init, d_check_question, d_packed_sketch, d_Search_init, d_Search_place, d_Search_places, d_Search_row, d_Search_history, d_tell, d_law_cell, d_law_mix, d_law_contents, d_law_links, d_law_blocks, d_law_put, d_law_do, d_law_ways, d_law_reached, d_law_avoid, d_law_fits, d_law_spoil, d_law_end, d_law_live, d_law_starts, d_law_sizes, d_law]
def fn : List He5.DefA := fn1 ++ fn2
def fa1 : List He.Fa := [.glo "is_name", .glo "_check_names", .glo "is_mask", .glo "_check_order", .glo "check_sketch", .glo "digits", .glo "block_tuples", .glo "all_contents", .glo "check_range", .glo "check_count", .glo "check_file", .glo "check_contents", .glo "one", .glo "set_to", .glo "_links", .glo "_cells", .glo "_file_guard", .glo "_data_changes", .glo "_write_deed", .glo "_file_deeds", .glo "chain_machine", .glo "chain_piece", .glo "sketch_before", .glo "meet", .glo "_split", .glo "without", .glo "values_of", .glo "least_disk"]
def fa1b : List He.Fa := [.glo "check_question", .glo "packed_sketch", .glo "tell", .glo "_law_cell", .glo "_law_mix", .glo "_law_contents", .glo "_law_links", .glo "_law_blocks", .glo "_law_put", .glo "_law_do", .glo "_law_ways", .glo "_law_reached", .glo "_law_avoid", .glo "_law_fits", .glo "_law_spoil", .glo "_law_end", .glo "_law_live", .glo "_law_starts", .glo "_law_sizes", .glo "law"]
def fa2 : List He.Fa := [.free "len", .free "range", .free "zip", .free "tuple", .free "list", .free "set", .free "all", .free "enumerate", .free "int", .free "str", .free "min", .int "MOST_CELLS" 24, .int "MOST_VALUES" 16, .int "MOST_DEEDS" 400, .int "LONGEST_NAME" 12, .int "FREE" 0, .int "LAST" 1, .str "LOWER" "abcdefghijklmnopqrstuvwxyz", .str "DIGITS" "0123456789", .glo "Machine", .cls "Machine", .mkr "Machine", .noat "Machine" "cells", .noat "Machine" "deeds", .noat "Machine" "first", .meth "Machine" "_check_deed", .glo "ChainForm", .cls "ChainForm", .mkr "ChainForm", .noat "ChainForm" "files", .noat "ChainForm" "blocks", .noat "ChainForm" "alphabet", .noat "ChainForm" "longest", .noat "ChainForm" "wiped", .meth "ChainForm" "link", .meth "ChainForm" "data", .meth "ChainForm" "live", .meth "ChainForm" "gone"]
def fa3 : List He.Fa := [.glo "Paper", .cls "Paper", .mkr "Paper", .noat "Paper" "sketches", .noat "Paper" "cover", .noat "Paper" "table", .glo "Answer", .cls "Answer", .mkr "Answer", .noat "Answer" "told", .noat "Answer" "paper", .noat "Answer" "disk", .noat "Answer" "deeds", .glo "Search", .cls "Search", .mkr "Search", .noat "Search" "_machine", .noat "Search" "_piece", .noat "Search" "_packed", .noat "Search" "sketches", .noat "Search" "origins", .noat "Search" "found", .meth "Search" "place", .meth "Search" "places", .meth "Search" "row", .meth "Search" "history"]
def fa : List He.Fa := (fa1 ++ fa1b) ++ (fa2 ++ fa3)
/-- what the hooks of the layer do not tell: two imported types, a property -/
def exB (K : PySem.W.Frag) : Bool :=
  He.eqO (PySem.W.nsIn K mainGlobals "combinations") (some (some (.type "itertools.combinations"))) && (He.eqO (PySem.W.nsIn K mainGlobals "product") (some (some (.type "itertools.product"))) &&
  (He.eqO (PySem.W.findIn K (.ref (He.ga K "Machine")) "full") (some (some (.ref (He.ma K (He.ga K "Machine") "full")))) &&
  (He.eqO (PySem.W.specialIn K (.ref (He.ma K (He.ga K "Machine") "full")) "__get__") (some (some (.builtin "property.__get__"))) &&
  (decide (PySem.W.takesIn K (.ref (He.ma K (He.ga K "Machine") "full")) = some true) && (match PySem.W.recIn K (He.ma K (He.ga K "Machine") "full") "property" with
    | some (.ref _ :: _) => true
    | _ => false)))))
abbrev AlM : Type := He.AlD × Bool
def obsM (K : PySem.W.Frag) : AlM := (He5.obsA fa fn K, exB K)
def valM : AlM := (He5.valA fn, true)
def SaysM (K : PySem.W.Frag) : Prop := obsM K = valM
def obsMG (g : Addr → Option Obj) : AlM := obsM (He.frG g (He5.asA g 5))
abbrev hk : PySem.W.Hook where
  α := AlM
  obs := fun s => obsMG s.heap.get?
  val := fun _ => valM
  says := fun _ h => ∃ K : PySem.W.Frag, K.In h ∧ SaysM K
  of := fun _ _ e => ⟨_, He.frG_in, e⟩
  keeps := fun _ _ _ ⟨K, hK, c⟩ k => ⟨K, PySem.W.Frag.In.keeps hK k, c⟩
def ob (s : PySem.W.SharedT) : AlM := obsMG (HandSHeadRun.getT s)
theorem ob_eq (s : PySem.W.SharedT) : ob s = hk.obs s.abs := by
  have e : HandSHeadRun.getT s = s.abs.heap.get? := funext (HandSHeadRun.getT_eq s)
  unfold ob
  rw [e] <;> rfl
abbrev ROW : PySem.W.OpenRow := PySem.W.OpenLaw.row PySem.Challenge.rw_raisedwreck_k21_whole_chains
def loose0 : List Str := ["WreckError", "InvalidMachine", "InvalidSketch", "NoSuchDeed", "InvalidForm", "InvalidFile", "MOST_CELLS", "MOST_VALUES", "MOST_DEEDS", "LONGEST_NAME", "LOWER", "DIGITS"]
def loose1 : List Str := ["is_name", "_check_names", "is_mask", "_check_order", "Machine", "check_sketch", "digits", "block_tuples", "all_contents", "check_range", "check_count", "check_file"]
def loose2 : List Str := ["check_contents", "one", "set_to", "FREE", "LAST", "ChainForm", "_links", "_cells", "_file_guard", "_data_changes", "_write_deed", "_file_deeds"]
def loose3 : List Str := ["chain_machine", "chain_piece", "sketch_before", "meet", "_split", "without", "values_of", "least_disk", "Paper", "Answer", "check_question", "packed_sketch"]
def loose4 : List Str := ["Search", "tell", "_law_cell", "_law_mix", "_law_is_int", "_law_subsets", "_law_contents", "_law_digits", "_law_links", "_law_blocks", "_law_put", "_law_do"]
def loose5 : List Str := ["_law_ways", "_law_reached", "_law_avoid", "_law_fits", "_law_spoil", "_law_end", "_law_live", "_law_starts", "_law_sizes"]
def loose : List Str := loose0 ++ loose1 ++ loose2 ++ loose3 ++ loose4 ++ loose5
end RW
set_option Elab.async false
set_option linter.all false
set_option maxRecDepth 100000
set_option maxHeartbeats 0
namespace RW
open PySem PySem.Spec PyProof.Rows L2
theorem run (w : World) : HandSHeadRun.RunEqI ROW (PySem.W.view ROW.prog [0, 78]) hk ob 6000 loose w := by
  unfold HandSHeadRun.RunEqI
  kernel_rfl
end RW
set_option Elab.async false
set_option linter.all false
set_option maxRecDepth 100000
set_option maxHeartbeats 0
namespace RW
open PySem PySem.Spec PyProof.Rows L2
def spLaw (K : PySem.W.Frag) : Sp := fun vs H Q _ => ∃ (a : Addr) (ns : List Int), vs = [.ref a] ∧ SqL K H a (ns.map V.int) ∧ ns.length ≤ 63 ∧ ∀ H', Q (.bl true) H'
theorem holds_of (hF : ∀ (w : World) (K : PySem.W.Frag) (h : Heap) (mg : Str → Option Value) (f : Addr), K.In h → h.Ns mainGlobals mg → mg ("law" : Str) = some (.ref f) → SaysM K →
    ∃ fd : FuncData, (∀ (s : Shared) (v : Value), BindsTo s fd ⟨[v], []⟩ [("_law_script", v)]) ∧ ∀ base : Heap, K.In base → base.Ns mainGlobals mg → FnOk PR w K mg base CX0 15 f fd ["_law_script"] (spLaw K)) :
    PySem.Challenge.rw_raisedwreck_k21_whole_chains.Holds := by
  open PySem.W PySem.Calls in
  w_on; o_law
  refine HandSHeadRun.head_imp (r := OpenLaw.row PySem.Challenge.rw_raisedwreck_k21_whole_chains) (q := view (OpenLaw.row PySem.Challenge.rw_raisedwreck_k21_whole_chains).prog [0, 78]) (H := RW.hk) (ob := RW.ob) (M := 6000) (loose := loose) (d := HandSHeadRun.topDef (OpenLaw.row PySem.Challenge.rw_raisedwreck_k21_whole_chains).prog 78) (kwd := []) RW.ob_eq
    RW.run (by kernel_rfl) (by kernel_rfl) (by kernel_rfl) (by rfl) (by first | assumption | decide +kernel) (by decide +kernel) ⟨rfl, rfl, rfl, rfl, rfl, by decide +kernel⟩ ?hw ?hc
  case hw => w_witness2
  case hc =>
    refine L2.walk_ofE (l := PySem.Challenge.rw_raisedwreck_k21_whole_chains) (n := 63) (k := 15) (x := "_law_script") (CX := L2.CX0) rfl (by decide) (by kernel_rfl) ⟨rfl, by decide, by decide⟩ ?F (fun _ _ _ _ z => z)
    intro w mg fa h Y G hmg0
    obtain ⟨K, KX, c⟩ := Y
    have hmg : mg ("law" : PySem.Str) = some (.ref fa) := by
      have e : (HandSHeadRun.topDef (OpenLaw.row PySem.Challenge.rw_raisedwreck_k21_whole_chains).prog 78).name = ("law" : PySem.Str) := by kernel_rfl
      rw [← e]
      exact hmg0
    obtain ⟨fd, hb, hF⟩ := hF w K h mg fa KX G hmg c
    exact ⟨K, fd, spLaw K, KX, hb, fun H a ns hl _ hS => ⟨a, ns, rfl, hS, hl, fun _ => rfl⟩, hF⟩
end RW
set_option Elab.async false
set_option linter.all false
set_option maxRecDepth 100000
set_option maxHeartbeats 4000000
/-! What values stand for: typed data, sorts; what a reading evaluates to. -/
namespace RW
open PySem PySem.Spec PyProof.Rows L2

/-! ### tuples stay -/
def Tx (H H' : Hp) : Prop := ∀ a xs, H a = some (.tup xs) → H' a = some (.tup xs)
theorem Tx.refl (H : Hp) : Tx H H := fun _ _ h => h
theorem Tx.trans {H H1 H2 : Hp} (a : Tx H H1) (b : Tx H1 H2) : Tx H H2 := fun x o h => b x o (a x o h)
theorem tx_of {H H' : Hp} (e : Same H H') : Tx H H' := fun a xs h => e a _ h
theorem same_new {H : Hp} {p : Addr} {o : HO} (h : H p = none) : Same H (upd H p o) := fun b x e => by
  rw [upd_ne (ne_of_none e h)]
  exact e
theorem same_mut {H H' : Hp} {p : Addr} {o : HO} (e : Same H H') (h : H p = none) : Same H (upd H' p o) := fun b x hb => by
  rw [upd_ne (ne_of_none hb h)]
  exact e b x hb
theorem tx_lst {H : Hp} {p : Addr} {o : HO} {xs : List V} (h : H p = some (.lst xs)) : Tx H (upd H p o) := fun b ys hb => by
  rw [upd_ne (ne_of hb h (by intro z; cases z))]
  exact hb
theorem tx_ins {H : Hp} {p C dx : Addr} {o : HO} {fs : List (Str × V)} (h : H p = some (.ins C dx fs)) : Tx H (upd H p o) := fun b ys hb => by
  rw [upd_ne (ne_of hb h (by intro z; cases z))]
  exact hb
theorem tx_dT {H : Hp} {p : Addr} {o : HO} {kvs : List (List Key × V)} (h : H p = some (.dT kvs)) : Tx H (upd H p o) := fun b ys hb => by
  rw [upd_ne (ne_of hb h (by intro z; cases z))]
  exact hb
theorem fresh_of {H H' : Hp} {p : Addr} (e : Same H H') (h : H' p = none) : H p = none := e.free h

/-! ### data -/
class Rep (α : Type) where
  rp : Hp → α → V → Prop
  mono : ∀ {H H' : Hp} {x : α} {v : V}, Tx H H' → rp H x v → rp H' x v
instance : Rep Int := ⟨fun _ i v => v = .int i, fun _ h => h⟩
instance : Rep Nat := ⟨fun _ n v => v = .int (n : Int), fun _ h => h⟩
instance : Rep Bool := ⟨fun _ b v => v = .bl b, fun _ h => h⟩
instance : Rep Str := ⟨fun _ x v => v = .str x, fun _ h => h⟩
instance : Rep Unit := ⟨fun _ _ v => v = .non, fun _ h => h⟩
/-- items one by one -/
abbrev Rps {α : Type} [Rep α] (H : Hp) (xs : List α) (vs : List V) : Prop := Paired (Rep.rp H) xs vs
theorem Rps.mono {α : Type} [Rep α] {H H' : Hp} (t : Tx H H') : ∀ {xs : List α} {vs : List V}, Rps H xs vs → Rps H' xs vs
  | _, _, .nil => .nil
  | _, _, .cons r h => .cons (Rep.mono t r) (Rps.mono t h)
instance instRepList {α : Type} [Rep α] : Rep (List α) := ⟨fun H xs v => ∃ a vs, v = .ref a ∧ H a = some (.tup vs) ∧ Rps H xs vs, fun t ⟨a, vs, e, h, r⟩ => ⟨a, vs, e, t _ _ h, Rps.mono t r⟩⟩
instance instRepProd {α β : Type} [Rep α] [Rep β] : Rep (α × β) := ⟨fun H p v => ∃ a x y, v = .ref a ∧ H a = some (.tup [x, y]) ∧ Rep.rp H p.1 x ∧ Rep.rp H p.2 y,
  fun t ⟨a, x, y, e, h, r, r2⟩ => ⟨a, x, y, e, t _ _ h, Rep.mono t r, Rep.mono t r2⟩⟩
/-- triples, quadruples -/
structure T3 (α β γ : Type) where
  a : α
  b : β
  c : γ
  deriving DecidableEq
structure T4 (α β γ δ : Type) where
  a : α
  b : β
  c : γ
  d : δ
  deriving DecidableEq
instance instRepT3 {α β γ : Type} [Rep α] [Rep β] [Rep γ] : Rep (T3 α β γ) := ⟨fun H p v => ∃ a x y z, v = .ref a ∧ H a = some (.tup [x, y, z]) ∧ Rep.rp H p.a x ∧ Rep.rp H p.b y ∧ Rep.rp H p.c z,
  fun t ⟨a, x, y, z, e, h, r, r2, r3⟩ => ⟨a, x, y, z, e, t _ _ h, Rep.mono t r, Rep.mono t r2, Rep.mono t r3⟩⟩
instance instRepT4 {α β γ δ : Type} [Rep α] [Rep β] [Rep γ] [Rep δ] : Rep (T4 α β γ δ) := ⟨fun H p v => ∃ a x y z w, v = .ref a ∧ H a = some (.tup [x, y, z, w]) ∧ Rep.rp H p.a x ∧ Rep.rp H p.b y ∧ Rep.rp H p.c z ∧ Rep.rp H p.d w,
  fun t ⟨a, x, y, z, w, e, h, r, r2, r3, r4⟩ => ⟨a, x, y, z, w, e, t _ _ h, Rep.mono t r, Rep.mono t r2, Rep.mono t r3, Rep.mono t r4⟩⟩
instance instRepOption {α : Type} [Rep α] : Rep (Option α) := ⟨fun H o v => match o with
  | none => v = .non
  | some x => v ≠ .non ∧ Rep.rp H x v, fun {H H' o v} t h => by
  cases o with
  | none => exact h
  | some x => exact ⟨h.1, Rep.mono t h.2⟩⟩

/-! ### sorts -/
abbrev Srt := V → Hp → Prop
def R {α : Type} [Rep α] (x : α) : Srt := fun v H => Rep.rp H x v
/-- a list that stands -/
def Ls {α : Type} [Rep α] (xs : List α) : Srt := fun v H => ∃ a vs, v = .ref a ∧ H a = some (.lst vs) ∧ Rps H xs vs
/-- a new list -/
def NLs {α : Type} [Rep α] (H0 : Hp) (xs : List α) : Srt := fun v H => ∃ a vs, v = .ref a ∧ H0 a = none ∧ H a = some (.lst vs) ∧ Rps H xs vs
def Is (w : V) : Srt := fun v _ => v = w
class Mo (φ : Srt) : Prop where
  mo : ∀ {v : V} {H H' : Hp}, Same H H' → φ v H → φ v H'
instance {α : Type} [Rep α] (x : α) : Mo (R x) := ⟨fun e h => Rep.mono (tx_of e) h⟩
instance {α : Type} [Rep α] (xs : List α) : Mo (Ls xs) := ⟨fun e ⟨a, vs, h1, h2, h3⟩ => ⟨a, vs, h1, e _ _ h2, Rps.mono (tx_of e) h3⟩⟩
instance {α : Type} [Rep α] (H0 : Hp) (xs : List α) : Mo (NLs H0 xs) := ⟨fun e ⟨a, vs, h1, h0, h2, h3⟩ => ⟨a, vs, h1, h0, e _ _ h2, Rps.mono (tx_of e) h3⟩⟩
instance (w : V) : Mo (Is w) := ⟨fun _ h => h⟩
theorem NLs.ls {α : Type} [Rep α] {H0 : Hp} {xs : List α} {v : V} {H : Hp} (h : NLs H0 xs v H) : Ls xs v H := let ⟨a, vs, h1, _, h2, h3⟩ := h; ⟨a, vs, h1, h2, h3⟩
theorem NLs.back {α : Type} [Rep α] {H0 H1 : Hp} {xs : List α} {v : V} {H : Hp} (e : Same H0 H1) (h : NLs H1 xs v H) : NLs H0 xs v H := let ⟨a, vs, h1, h0, h2, h3⟩ := h; ⟨a, vs, h1, e.free h0, h2, h3⟩

/-! ### lists of data -/
section
variable {α : Type} [Rep α] {H : Hp} {xs ys : List α} {vs ws : List V}
theorem Rps.length (r : Rps H xs vs) : xs.length = vs.length := Paired.length r
theorem Rps.get : ∀ {xs : List α} {vs : List V} {i : Nat} {x : α}, Rps H xs vs → xs[i]? = some x → ∃ v, vs[i]? = some v ∧ Rep.rp H x v
  | _, _, _, _, .nil, e => by simp at e
  | _, _, 0, _, .cons r _, e => by simp at e; subst e; exact ⟨_, rfl, r⟩
  | _, _, i + 1, x, .cons _ t, e => by
    obtain ⟨u, h1, h2⟩ := Rps.get (i := i) (x := x) t (by simpa using e)
    exact ⟨u, by simpa using h1, h2⟩
theorem Rps.getV : ∀ {xs : List α} {vs : List V} {i : Nat} {v : V}, Rps H xs vs → vs[i]? = some v → ∃ x, xs[i]? = some x ∧ Rep.rp H x v
  | _, _, _, _, .nil, e => by simp at e
  | _, _, 0, _, .cons r _, e => by simp at e; subst e; exact ⟨_, rfl, r⟩
  | _, _, i + 1, x, .cons _ t, e => by
    obtain ⟨u, h1, h2⟩ := Rps.getV (i := i) (v := x) t (by simpa using e)
    exact ⟨u, by simpa using h1, h2⟩
theorem Rps.append : ∀ {xs : List α} {vs : List V}, Rps H xs vs → Rps H ys ws → Rps H (xs ++ ys) (vs ++ ws)
  | _, _, .nil, s => s
  | _, _, .cons r t, s => .cons r (Rps.append t s)
theorem Rps.snoc {x : α} {v : V} (r : Rps H xs vs) (h : Rep.rp H x v) : Rps H (xs ++ [x]) (vs ++ [v]) := r.append (.cons h .nil)
theorem Rps.take : ∀ {xs : List α} {vs : List V} (n : Nat), Rps H xs vs → Rps H (xs.take n) (vs.take n)
  | _, _, 0, _ => .nil
  | _, _, _ + 1, .nil => .nil
  | _, _, n + 1, .cons r t => .cons r (Rps.take n t)
theorem Rps.drop : ∀ {xs : List α} {vs : List V} (n : Nat), Rps H xs vs → Rps H (xs.drop n) (vs.drop n)
  | _, _, 0, r => r
  | _, _, _ + 1, .nil => .nil
  | _, _, n + 1, .cons _ t => Rps.drop n t
theorem Rps.set {x : α} {v : V} (h : Rep.rp H x v) : ∀ {xs : List α} {vs : List V} (i : Nat), Rps H xs vs → Rps H (xs.set i x) (vs.set i v)
  | _, _, _, .nil => .nil
  | _, _, 0, .cons _ t => .cons h t
  | _, _, i + 1, .cons q t => .cons q (Rps.set h i t)
theorem Rps.atI {i : Int} {x : α} (r : Rps H xs vs) (h : atI xs i = some x) : ∃ v, L2.atI vs i = some v ∧ Rep.rp H x v := by
  unfold L2.atI at h ⊢
  rw [← r.length]
  cases e : ixN xs.length i with
  | none => rw [e] at h; cases h
  | some j =>
    rw [e] at h
    exact r.get h
theorem Rps.ints : ∀ {xs : List Int} {vs : List V}, Rps H xs vs → vs = xs.map V.int
  | _, _, .nil => rfl
  | _, _, .cons r t => by rw [show _ = V.int _ from r, Rps.ints t]; rfl
theorem Rps.nats : ∀ {xs : List Nat} {vs : List V}, Rps H xs vs → vs = xs.map (fun n : Nat => V.int (n : Int))
  | _, _, .nil => rfl
  | _, _, .cons r t => by rw [show _ = V.int _ from r, Rps.nats t]; rfl
theorem Rps.bools : ∀ {xs : List Bool} {vs : List V}, Rps H xs vs → vs = xs.map V.bl
  | _, _, .nil => rfl
  | _, _, .cons r t => by rw [show _ = V.bl _ from r, Rps.bools t]; rfl
theorem Rps.strs : ∀ {xs : List Str} {vs : List V}, Rps H xs vs → vs = xs.map V.str
  | _, _, .nil => rfl
  | _, _, .cons r t => by rw [show _ = V.str _ from r, Rps.strs t]; rfl
theorem Rps.of_ints : ∀ (xs : List Int), Rps H xs (xs.map V.int)
  | [] => .nil
  | x :: xs => .cons rfl (Rps.of_ints xs)
theorem Rps.of_nats : ∀ (xs : List Nat), Rps H xs (xs.map (fun n : Nat => V.int (n : Int)))
  | [] => .nil
  | x :: xs => .cons rfl (Rps.of_nats xs)
theorem Rps.repl {x : α} {v : V} (h : Rep.rp H x v) : ∀ n, Rps H (List.replicate n x) (List.replicate n v)
  | 0 => .nil
  | n + 1 => .cons h (Rps.repl h n)
theorem atI_at {xs : List α} {i : Int} {x : α} (h0 : 0 ≤ i) (h : xs[i.toNat]? = some x) : atI xs i = some x := by
  have e : i = ((i.toNat : Nat) : Int) := by omega
  rw [e]
  exact atI_nat h
theorem atI_in [Inhabited α] {xs : List α} {i : Int} (h0 : 0 ≤ i) (h : i < xs.length) : atI xs i = some (xs.getD i.toNat default) := by
  refine atI_at h0 ?_
  have hl : i.toNat < xs.length := by omega
  rw [List.getD_eq_getElem?_getD, List.getElem?_eq_getElem hl] <;> rfl
end

/-! ### what evaluates to what -/
def Ev (te : TE) (σ : L2.St) (H : Hp) (φ : Srt) : Prop := ∀ H1, Same H H1 → ∀ Q : VK, (∀ v H2, Same H1 H2 → φ v H2 → Q v H2) → te σ H1 Q
def EvT (tt : TT) (σ : L2.St) (H : Hp) (b : Bool) : Prop := ∀ H1, Same H H1 → ∀ Q : Bool → Hp → Prop, (∀ H2, Same H1 H2 → Q b H2) → tt σ H1 Q
/-- values of these sorts -/
def Fas : List Srt → List V → Hp → Prop
  | [], vs, _ => vs = []
  | φ :: φs, vs, H => ∃ v r, vs = v :: r ∧ φ v H ∧ Fas φs r H
def EvA (ta : TA) (σ : L2.St) (H : Hp) (φs : List Srt) : Prop := ∀ H1, Same H H1 → ∀ Q : List V → Hp → Prop, (∀ vs H2, Same H1 H2 → Fas φs vs H2 → Q vs H2) → ta σ H1 Q
section
variable {σ : L2.St} {H H' : Hp} {ta tb tc te : TE} {tt uu : TT} {φ ψ χ : Srt} {v : V}
theorem Ev.up (e : Same H H') (h : Ev te σ H φ) : Ev te σ H' φ := fun H1 a Q q => h H1 (e.trans a) Q q
theorem Ev.imp (h : Ev te σ H φ) (i : ∀ v H', φ v H' → ψ v H') : Ev te σ H ψ := fun H1 a Q q => h H1 a Q fun v H2 e p => q v H2 e (i v H2 p)
theorem Ev.go (h : Ev te σ H φ) {Q : VK} (q : ∀ v H2, Same H H2 → φ v H2 → Q v H2) : te σ H Q := h H (Same.refl H) Q q
theorem EvT.go {b : Bool} (h : EvT tt σ H b) {Q : Bool → Hp → Prop} (q : ∀ H2, Same H H2 → Q b H2) : tt σ H Q := h H (Same.refl H) Q q
theorem EvT.up {b : Bool} (e : Same H H') (h : EvT tt σ H b) : EvT tt σ H' b := fun H1 a Q q => h H1 (e.trans a) Q q
theorem EvT.to {b c : Bool} (h : EvT tt σ H b) (e : b = c) : EvT tt σ H c := e ▸ h
theorem Ev.to {α : Type} [Rep α] {x y : α} (h : Ev te σ H (R x)) (e : x = y) : Ev te σ H (R y) := e ▸ h
theorem ev_var {i : Nat} [Mo φ] (hs : σ[i]? = some (some v)) (h : φ v H) : Ev (tVar i) σ H φ := fun H1 e Q q => ⟨v, hs, q v H1 (Same.refl H1) (Mo.mo e h)⟩
theorem ev_rv {i : Nat} {α : Type} [Rep α] {x : α} (hs : σ[i]? = some (some v)) (h : Rep.rp H x v) : Ev (tVar i) σ H (R x) := ev_var hs h
theorem ev_ci {i : Int} : Ev (tC (.int i)) σ H (R i) := fun H1 _ Q q => q _ H1 (Same.refl H1) rfl
theorem ev_cs {x : Str} : Ev (tC (.str x)) σ H (R x) := fun H1 _ Q q => q _ H1 (Same.refl H1) rfl
theorem ev_cb {b : Bool} : Ev (tC (.bl b)) σ H (R b) := fun H1 _ Q q => q _ H1 (Same.refl H1) rfl
theorem ev_cn : Ev (tC .non) σ H (R ()) := fun H1 _ Q q => q _ H1 (Same.refl H1) rfl
theorem ev_op {r : R2} [Mo φ] (ha : Ev ta σ H φ) (hb : Ev tb σ H ψ) (hr : ∀ x y H1, Same H H1 → φ x H1 → ψ y H1 → ∀ Q : VK, (∀ v H2, Same H1 H2 → χ v H2 → Q v H2) → r x y H1 Q) : Ev (tOp r ta tb) σ H χ := fun H1 e Q q =>
  ha H1 e _ fun x H2 e2 h2 => hb H2 (e.trans e2) _ fun y H3 e3 h3 => hr x y H3 ((e.trans e2).trans e3) (Mo.mo e3 h2) h3 Q fun v H4 e4 h4 => q v H4 ((e2.trans e3).trans e4) h4
theorem ev_un {r : V → Hp → VK → Prop} (ha : Ev ta σ H φ) (hr : ∀ x H1, Same H H1 → φ x H1 → ∀ Q : VK, (∀ v H2, Same H1 H2 → χ v H2 → Q v H2) → r x H1 Q) : Ev (tUn r ta) σ H χ := fun H1 e Q q =>
  ha H1 e _ fun x H2 e2 h2 => hr x H2 (e.trans e2) h2 Q fun v H4 e4 h4 => q v H4 (e2.trans e4) h4
/-- ints -/
theorem ev_ii {g : Int → Int → Int} {i j : Int} (ha : Ev ta σ H (R i)) (hb : Ev tb σ H (R j)) : Ev (tOp (rI0 fun i j => .int (g i j)) ta tb) σ H (R (g i j)) :=
  ev_op ha hb fun x y H1 _ h1 h2 Q q => ⟨i, j, h1, h2, q _ _ (Same.refl _) rfl⟩
theorem ev_iiC {g : Int → Int → Int} {C : Int → Int → Prop} {i j : Int} (ha : Ev ta σ H (R i)) (hb : Ev tb σ H (R j)) (hc : C i j) : Ev (tOp (rI C fun i j => .int (g i j)) ta tb) σ H (R (g i j)) :=
  ev_op ha hb fun x y H1 _ h1 h2 Q q => ⟨i, j, h1, h2, hc, q _ _ (Same.refl _) rfl⟩
theorem ev_ib {g : Int → Int → Bool} {i j : Int} (ha : Ev ta σ H (R i)) (hb : Ev tb σ H (R j)) : Ev (tOp (rI0 fun i j => .bl (g i j)) ta tb) σ H (R (g i j)) :=
  ev_op ha hb fun x y H1 _ h1 h2 Q q => ⟨i, j, h1, h2, q _ _ (Same.refl _) rfl⟩
theorem ev_eqI {i j : Int} (ha : Ev ta σ H (R i)) (hb : Ev tb σ H (R j)) : Ev (tOp rEq ta tb) σ H (R (decide (i = j))) :=
  ev_op ha hb fun x y H1 _ h1 h2 Q q => by
    rw [show x = .int i from h1, show y = .int j from h2]
    refine ⟨rfl, ?_⟩
    have e : decide (V.int i = V.int j) = decide (i = j) := by
      by_cases h : i = j
      · rw [h, decide_eq_true rfl, decide_eq_true rfl]
      · rw [decide_eq_false h, decide_eq_false (fun z => h (V.int.inj z))]
    rw [e]
    exact q _ _ (Same.refl _) rfl
theorem ev_neI {i j : Int} (ha : Ev ta σ H (R i)) (hb : Ev tb σ H (R j)) : Ev (tOp rNe ta tb) σ H (R (!decide (i = j))) :=
  ev_op ha hb fun x y H1 _ h1 h2 Q q => by
    rw [show x = .int i from h1, show y = .int j from h2]
    refine ⟨rfl, ?_⟩
    have e : decide (V.int i = V.int j) = decide (i = j) := by
      by_cases h : i = j
      · rw [h, decide_eq_true rfl, decide_eq_true rfl]
      · rw [decide_eq_false h, decide_eq_false (fun z => h (V.int.inj z))]
    rw [e]
    exact q _ _ (Same.refl _) rfl
theorem ev_neB {i j : Bool} (ha : Ev ta σ H (R i)) (hb : Ev tb σ H (R j)) : Ev (tOp rNe ta tb) σ H (R (i != j)) :=
  ev_op ha hb fun x y H1 _ h1 h2 Q q => by
    rw [show x = .bl i from h1, show y = .bl j from h2]
    refine ⟨rfl, ?_⟩
    have e : (!decide (V.bl i = V.bl j)) = (i != j) := by cases i <;> cases j <;> rfl
    rw [e]
    exact q _ _ (Same.refl _) rfl
theorem ev_eqS {i j : Str} (ha : Ev ta σ H (R i)) (hb : Ev tb σ H (R j)) : Ev (tOp rEq ta tb) σ H (R (decide (i = j))) :=
  ev_op ha hb fun x y H1 _ h1 h2 Q q => by
    rw [show x = .str i from h1, show y = .str j from h2]
    refine ⟨rfl, ?_⟩
    have e : decide (V.str i = V.str j) = decide (i = j) := by
      by_cases h : i = j
      · rw [h, decide_eq_true rfl, decide_eq_true rfl]
      · rw [decide_eq_false h, decide_eq_false (fun z => h (V.str.inj z))]
    rw [e]
    exact q _ _ (Same.refl _) rfl
theorem ev_neS {i j : Str} (ha : Ev ta σ H (R i)) (hb : Ev tb σ H (R j)) : Ev (tOp rNe ta tb) σ H (R (!decide (i = j))) :=
  ev_op ha hb fun x y H1 _ h1 h2 Q q => by
    rw [show x = .str i from h1, show y = .str j from h2]
    refine ⟨rfl, ?_⟩
    have e : decide (V.str i = V.str j) = decide (i = j) := by
      by_cases h : i = j
      · rw [h, decide_eq_true rfl, decide_eq_true rfl]
      · rw [decide_eq_false h, decide_eq_false (fun z => h (V.str.inj z))]
    rw [e]
    exact q _ _ (Same.refl _) rfl
/-- is None, is not None -/
theorem ev_isN {α : Type} [Rep α] {o : Option α} (ha : Ev ta σ H (R o)) : Ev (tOp (fun x y H Q => y = .non ∧ Q (.bl (decide (x = .non))) H) ta (tC .non)) σ H (R o.isNone) :=
  ev_op ha ev_cn fun x y H1 _ h1 h2 Q q => by
    refine ⟨h2, ?_⟩
    have e : decide (x = V.non) = o.isNone := by
      cases o with
      | none => rw [show x = .non from h1]; rfl
      | some z => exact decide_eq_false h1.1
    rw [e]
    exact q _ _ (Same.refl _) rfl
theorem ev_notN {α : Type} [Rep α] {o : Option α} (ha : Ev ta σ H (R o)) : Ev (tOp (fun x y H Q => y = .non ∧ Q (.bl (!decide (x = .non))) H) ta (tC .non)) σ H (R o.isSome) :=
  ev_op ha ev_cn fun x y H1 _ h1 h2 Q q => by
    refine ⟨h2, ?_⟩
    have e : (!decide (x = V.non)) = o.isSome := by
      cases o with
      | none => rw [show x = .non from h1]; rfl
      | some z => rw [decide_eq_false h1.1]; rfl
    rw [e]
    exact q _ _ (Same.refl _) rfl
/-- tests -/
theorem et_test {b : Bool} (h : Ev te σ H (R b)) : EvT (tTest te) σ H b := fun H1 e Q q => h H1 e _ fun v H2 e2 hv => ⟨b, hv, q H2 e2⟩
theorem et_B {b : Bool} (h : Ev te σ H (R b)) : EvT (tB te) σ H b := fun H1 e Q q => h H1 e _ fun v H2 e2 hv => ⟨b, hv, q H2 e2⟩
theorem et_not {b : Bool} (h : EvT tt σ H b) : EvT (tNot tt) σ H (!b) := fun H1 e Q q => h H1 e _ fun H2 e2 => q H2 e2
theorem et_and {a b : Bool} (h1 : EvT tt σ H a) (h2 : a = true → EvT uu σ H b) : EvT (tAnd tt uu) σ H (a && b) := fun H1 e Q q => h1 H1 e _ fun H2 e2 => by
  cases a with
  | true => exact iteT (h2 rfl H2 (e.trans e2) Q fun H3 e3 => q H3 (e2.trans e3))
  | false => exact iteF (q H2 e2)
theorem et_or {a b : Bool} (h1 : EvT tt σ H a) (h2 : a = false → EvT uu σ H b) : EvT (tOr tt uu) σ H (a || b) := fun H1 e Q q => h1 H1 e _ fun H2 e2 => by
  cases a with
  | true => exact iteT (q H2 e2)
  | false => exact iteF (h2 rfl H2 (e.trans e2) Q fun H3 e3 => q H3 (e2.trans e3))
theorem ev_andV {a b : Bool} (h1 : Ev ta σ H (R a)) (h2 : a = true → Ev tb σ H (R b)) : Ev (tAndV ta tb) σ H (R (a && b)) := fun H1 e Q q => h1 H1 e _ fun v H2 e2 hv => ⟨a, hv, by
  cases a with
  | true => exact iteT (h2 rfl H2 (e.trans e2) Q fun v H3 e3 hv => q v H3 (e2.trans e3) hv)
  | false => exact iteF (q _ H2 e2 rfl)⟩
theorem ev_orV {a b : Bool} (h1 : Ev ta σ H (R a)) (h2 : a = false → Ev tb σ H (R b)) : Ev (tOrV ta tb) σ H (R (a || b)) := fun H1 e Q q => h1 H1 e _ fun v H2 e2 hv => ⟨a, hv, by
  cases a with
  | true => exact iteT (q _ H2 e2 rfl)
  | false => exact iteF (h2 rfl H2 (e.trans e2) Q fun v H3 e3 hv => q v H3 (e2.trans e3) hv)⟩
theorem ev_notV {b : Bool} (h : Ev ta σ H (R b)) : Ev (tNotV ta) σ H (R (!b)) := fun H1 e Q q => h H1 e _ fun v H2 e2 hv => ⟨b, hv, q _ H2 e2 rfl⟩
theorem ev_chain {f g : Int → Int → Bool} {i j k : Int} (ha : Ev ta σ H (R i)) (hb : Ev tb σ H (R j)) (hc : f i j = true → Ev tc σ H (R k)) :
    Ev (tChain (rI0 fun i j => .bl (f i j)) (rI0 fun i j => .bl (g i j)) ta tb tc) σ H (R (f i j && g j k)) := fun H1 e Q q =>
  ha H1 e _ fun x H2 e2 hx => hb H2 (e.trans e2) _ fun y H3 e3 hy => ⟨i, j, hx, hy, f i j, rfl, by
    cases h : f i j with
    | true =>
      refine iteT (hc h H3 ((e.trans e2).trans e3) _ fun z H4 e4 hz => ⟨j, k, hy, hz, ?_⟩)
      have q' := q (.bl (g j k)) H4 ((e2.trans e3).trans e4)
      rw [h] at q'
      exact q' rfl
    | false =>
      refine iteF ?_
      have q' := q (.bl false) H3 (e2.trans e3)
      rw [h] at q'
      exact q' rfl⟩
theorem ev_if {b : Bool} (h : EvT tt σ H b) (h1 : b = true → Ev ta σ H φ) (h2 : b = false → Ev tb σ H φ) : Ev (tIf tt ta tb) σ H φ := fun H1 e Q q => h H1 e _ fun H2 e2 => by
  cases b with
  | true => exact iteT (h1 rfl H2 (e.trans e2) Q fun v H3 e3 hv => q v H3 (e2.trans e3) hv)
  | false => exact iteF (h2 rfl H2 (e.trans e2) Q fun v H3 e3 hv => q v H3 (e2.trans e3) hv)
/-- arguments -/
theorem ea_nil : EvA tNil σ H [] := fun H1 _ Q q => q [] H1 (Same.refl H1) rfl
theorem ea_cons {tr : TA} {φs : List Srt} [Mo φ] (h : Ev ta σ H φ) (hr : EvA tr σ H φs) : EvA (tCons ta tr) σ H (φ :: φs) := fun H1 e Q q =>
  h H1 e _ fun v H2 e2 hv => hr H2 (e.trans e2) _ fun vs H3 e3 hvs => q _ H3 (e2.trans e3) ⟨v, vs, rfl, Mo.mo e3 hv, hvs⟩
/-- a new tuple of anything, of data -/
theorem ev_tup {ta : TA} {φs : List Srt} (h : EvA ta σ H φs) (hl : φs.length ≤ 1000) (hq : ∀ a vs H1, H1 a = some (.tup vs) → Fas φs vs H1 → χ (.ref a) H1) (hm : ∀ vs H1 H2, Same H1 H2 → Fas φs vs H1 → Fas φs vs H2) : Ev (tTup ta) σ H χ := fun H1 e Q q =>
  h H1 e _ fun vs H2 e2 hv => by
    have hlen : vs.length = φs.length := by
      clear hq hm hl h
      induction φs generalizing vs with
      | nil => rw [show vs = [] from hv]; rfl
      | cons φ φs ih =>
        obtain ⟨v, r, e, _, h2⟩ := hv
        rw [e, List.length_cons, List.length_cons, ih r h2]
    refine ⟨Nat.le_trans (by omega) (show 1000 ≤ sizeLine by decide), fun p hp => q _ _ (e2.trans (same_new hp)) (hq p vs _ upd_same (hm _ _ _ (same_new hp) hv))⟩
theorem ev_pair {α β : Type} [Rep α] [Rep β] {x : α} {y : β} (ha : Ev ta σ H (R x)) (hb : Ev tb σ H (R y)) : Ev (tTup (tCons ta (tCons tb tNil))) σ H (R (x, y)) :=
  ev_tup (ea_cons ha (ea_cons hb ea_nil)) (by simp) (fun a vs H1 h1 h2 => by
    obtain ⟨v, r, rfl, hv, w, r2, rfl, hw, rfl⟩ := h2
    exact ⟨a, v, w, rfl, h1, hv, hw⟩) (fun vs H1 H2 e h2 => by
    obtain ⟨v, r, rfl, hv, w, r2, rfl, hw, rfl⟩ := h2
    exact ⟨v, _, rfl, Mo.mo e hv, w, _, rfl, Mo.mo e hw, rfl⟩)
theorem ev_t3 {α β γ : Type} [Rep α] [Rep β] [Rep γ] {x : α} {y : β} {z : γ} (ha : Ev ta σ H (R x)) (hb : Ev tb σ H (R y)) (hc : Ev tc σ H (R z)) : Ev (tTup (tCons ta (tCons tb (tCons tc tNil)))) σ H (R (T3.mk x y z)) :=
  ev_tup (ea_cons ha (ea_cons hb (ea_cons hc ea_nil))) (by simp) (fun a vs H1 h1 h2 => by
    obtain ⟨v, r, rfl, hv, w, r2, rfl, hw, u, r3, rfl, hu, rfl⟩ := h2
    exact ⟨a, v, w, u, rfl, h1, hv, hw, hu⟩) (fun vs H1 H2 e h2 => by
    obtain ⟨v, r, rfl, hv, w, r2, rfl, hw, u, r3, rfl, hu, rfl⟩ := h2
    exact ⟨v, _, rfl, Mo.mo e hv, w, _, rfl, Mo.mo e hw, u, _, rfl, Mo.mo e hu, rfl⟩)
theorem ev_t4 {α β γ δ : Type} [Rep α] [Rep β] [Rep γ] [Rep δ] {td : TE} {x : α} {y : β} {z : γ} {w : δ} (ha : Ev ta σ H (R x)) (hb : Ev tb σ H (R y)) (hc : Ev tc σ H (R z)) (hd : Ev td σ H (R w)) : Ev (tTup (tCons ta (tCons tb (tCons tc (tCons td tNil))))) σ H (R (T4.mk x y z w)) :=
  ev_tup (ea_cons ha (ea_cons hb (ea_cons hc (ea_cons hd ea_nil)))) (by simp) (fun a vs H1 h1 h2 => by
    obtain ⟨v, r, rfl, hv, w, r2, rfl, hw, u, r3, rfl, hu, t, r4, rfl, ht, rfl⟩ := h2
    exact ⟨a, v, w, u, t, rfl, h1, hv, hw, hu, ht⟩) (fun vs H1 H2 e h2 => by
    obtain ⟨v, r, rfl, hv, w, r2, rfl, hw, u, r3, rfl, hu, t, r4, rfl, ht, rfl⟩ := h2
    exact ⟨v, _, rfl, Mo.mo e hv, w, _, rfl, Mo.mo e hw, u, _, rfl, Mo.mo e hu, t, _, rfl, Mo.mo e ht, rfl⟩)
theorem ev_tl0 {α : Type} [Rep α] : Ev (tTup tNil) σ H (R ([] : List α)) :=
  ev_tup ea_nil (by simp) (fun a vs H1 h1 h2 => ⟨a, [], rfl, by rw [show vs = [] from h2] at h1; exact h1, .nil⟩) (fun vs H1 H2 e h2 => h2)
theorem ev_tl1 {α : Type} [Rep α] {x : α} (ha : Ev ta σ H (R x)) : Ev (tTup (tCons ta tNil)) σ H (R [x]) :=
  ev_tup (ea_cons ha ea_nil) (by simp) (fun a vs H1 h1 h2 => by
    obtain ⟨v, r, rfl, hv, rfl⟩ := h2
    exact ⟨a, [v], rfl, h1, .cons hv .nil⟩) (fun vs H1 H2 e h2 => by
    obtain ⟨v, r, rfl, hv, rfl⟩ := h2
    exact ⟨v, _, rfl, Mo.mo e hv, rfl⟩)
/-- a new list -/
theorem ev_nl {ta : TA} {φs : List Srt} {α : Type} [Rep α] {xs : List α} (h : EvA ta σ H φs) (hl : xs.length ≤ 1000) (hq : ∀ vs H1, Fas φs vs H1 → Rps H1 xs vs) : Ev (tLst ta) σ H (NLs H xs) := fun H1 e Q q =>
  h H1 e _ fun vs H2 e2 hv => by
    have r := hq vs H2 hv
    refine ⟨by rw [← r.length]; exact Nat.le_trans hl (show 1000 ≤ sizeLine by decide), fun p hp => q _ _ (e2.trans (same_new hp)) ⟨p, vs, rfl, (e.trans e2).free hp, upd_same, Rps.mono (tx_of (same_new hp)) r⟩⟩
theorem ev_nl0 {α : Type} [Rep α] : Ev (tLst tNil) σ H (NLs H ([] : List α)) := ev_nl ea_nil (by simp) fun vs H1 h => by rw [show vs = [] from h]; exact .nil
theorem ev_nl1 {α : Type} [Rep α] {x : α} (ha : Ev ta σ H (R x)) : Ev (tLst (tCons ta tNil)) σ H (NLs H [x]) := ev_nl (ea_cons ha ea_nil) (by simp) fun vs H1 h => by
  obtain ⟨v, r, rfl, hv, rfl⟩ := h
  exact .cons hv .nil
theorem ev_nl2 {α : Type} [Rep α] {x y : α} (ha : Ev ta σ H (R x)) (hb : Ev tb σ H (R y)) : Ev (tLst (tCons ta (tCons tb tNil))) σ H (NLs H [x, y]) := ev_nl (ea_cons ha (ea_cons hb ea_nil)) (by simp) fun vs H1 h => by
  obtain ⟨v, r, rfl, hv, w, r2, rfl, hw, rfl⟩ := h
  exact .cons hv (.cons hw .nil)
end
end RW
set_option Elab.async false
set_option linter.all false
set_option maxRecDepth 100000
set_option maxHeartbeats 4000000
/-! Statements, calls, loops, comprehensions, promises. -/
namespace RW
open PySem PySem.Spec PyProof.Rows L2

section
variable {φ ψ χ ω : Srt} {vs : List V} {H : Hp}
theorem fas1 (h : Fas [φ] vs H) : ∃ a, vs = [a] ∧ φ a H := by
  obtain ⟨a, r, rfl, ha, rfl⟩ := h
  exact ⟨a, rfl, ha⟩
theorem fas2 (h : Fas [φ, ψ] vs H) : ∃ a b, vs = [a, b] ∧ φ a H ∧ ψ b H := by
  obtain ⟨a, r, rfl, ha, b, r2, rfl, hb, rfl⟩ := h
  exact ⟨a, b, rfl, ha, hb⟩
theorem fas3 (h : Fas [φ, ψ, χ] vs H) : ∃ a b c, vs = [a, b, c] ∧ φ a H ∧ ψ b H ∧ χ c H := by
  obtain ⟨a, r, rfl, ha, b, r2, rfl, hb, c, r3, rfl, hc, rfl⟩ := h
  exact ⟨a, b, c, rfl, ha, hb, hc⟩
theorem fas4 (h : Fas [φ, ψ, χ, ω] vs H) : ∃ a b c d, vs = [a, b, c, d] ∧ φ a H ∧ ψ b H ∧ χ c H ∧ ω d H := by
  obtain ⟨a, r, rfl, ha, b, r2, rfl, hb, c, r3, rfl, hc, d, r4, rfl, hd, rfl⟩ := h
  exact ⟨a, b, c, d, rfl, ha, hb, hc, hd⟩
theorem fas5 {ο : Srt} (h : Fas [φ, ψ, χ, ω, ο] vs H) : ∃ a b c d e, vs = [a, b, c, d, e] ∧ φ a H ∧ ψ b H ∧ χ c H ∧ ω d H ∧ ο e H := by
  obtain ⟨a, r, rfl, ha, b, r2, rfl, hb, c, r3, rfl, hc, d, r4, rfl, hd, e, r5, rfl, he, rfl⟩ := h
  exact ⟨a, b, c, d, e, rfl, ha, hb, hc, hd, he⟩
theorem fas7 {ο π ρ : Srt} (h : Fas [φ, ψ, χ, ω, ο, π, ρ] vs H) : ∃ a b c d e f g, vs = [a, b, c, d, e, f, g] ∧ φ a H ∧ ψ b H ∧ χ c H ∧ ω d H ∧ ο e H ∧ π f H ∧ ρ g H := by
  obtain ⟨a, r, rfl, ha, b, r2, rfl, hb, c, r3, rfl, hc, d, r4, rfl, hd, e, r5, rfl, he, f, r6, rfl, hf, g, r7, rfl, hg, rfl⟩ := h
  exact ⟨a, b, c, d, e, f, g, rfl, ha, hb, hc, hd, he, hf, hg⟩
end
theorem fas_len : ∀ {φs : List Srt} {vs : List V} {H : Hp}, Fas φs vs H → vs.length = φs.length
  | [], vs, H, h => by rw [show vs = [] from h]; rfl
  | φ :: φs, vs, H, h => by
    obtain ⟨v, r, e, _, h2⟩ := h
    rw [e, List.length_cons, List.length_cons, fas_len h2]

/-! ### a promise: arguments of these sorts, an answer of that sort, what stood stands -/
def Pp {γ : Type} (φs : γ → List Srt) (pre : γ → Prop) (ψ : γ → Srt) : Sp := fun vs H Q _ => ∃ g, Fas (φs g) vs H ∧ pre g ∧ ∀ v H', Same H H' → ψ g v H' → Q v H'
/-- .. the answer's sort over the heap at the entry -/
def Pn {γ : Type} (φs : γ → List Srt) (pre : γ → Prop) (ψ : γ → Hp → Srt) : Sp := fun vs H Q _ => ∃ g, Fas (φs g) vs H ∧ pre g ∧ ∀ v H', Same H H' → ψ g H v H' → Q v H'
class Bk (ψ : Hp → Srt) : Prop where
  bk : ∀ {H H1 : Hp} {v : V} {H2 : Hp}, Same H H1 → ψ H1 v H2 → ψ H v H2
instance {α : Type} [Rep α] (xs : List α) : Bk (fun H => NLs H xs) := ⟨fun e h => h.back e⟩
section
variable {γ : Type} {σ : L2.St} {H : Hp} {ta : TA} {φs : γ → List Srt} {pre : γ → Prop} {E : XK}
theorem ev_pp {ψ : γ → Srt} (g : γ) (ha : EvA ta σ H (φs g)) (hp : pre g) : Ev (tCall (Pp φs pre ψ) [] E ta) σ H (ψ g) := fun H1 e Q q =>
  ha H1 e _ fun vs H2 e2 hv => ⟨g, by rw [List.append_nil]; exact hv, hp, fun v H3 e3 h3 => q v H3 (e2.trans e3) h3⟩
theorem ev_pn {ψ : γ → Hp → Srt} (g : γ) [Bk (ψ g)] (ha : EvA ta σ H (φs g)) (hp : pre g) : Ev (tCall (Pn φs pre ψ) [] E ta) σ H (ψ g H) := fun H1 e Q q =>
  ha H1 e _ fun vs H2 e2 hv => ⟨g, by rw [List.append_nil]; exact hv, hp, fun v H3 e3 h3 => q v H3 (e2.trans e3) (Bk.bk (e.trans e2) h3)⟩
end

/-! ### the written part: defs -/
section
variable {P : Program} {w : World} {K : PySem.W.Frag} {mg : Str → Option Value} {base : Heap}
/-- a def, told to keep a promise -/
theorem cal_of {x : Str} {st : Stmt} {f : Addr} {fd : FuncData} {N ps : List Str} {k : Nat} {sp : Sp} (F : FunD K x x (defArgs st) (defBody st) (defScope st) [] [] f fd) (hm : mg x = some (.ref f)) (S : FnScope N ps (defScope st))
    (hbd : ∀ (kV doc pm : Value) (an : Option Addr) (cdv ct : Value) (us : List Value), us.length = ps.length → bindArgs (PySem.W.fnOf x x (defArgs st) (defBody st) (defScope st) .none kV doc pm an cdv ct) ⟨us, []⟩ = pure (ps.zip us))
    (len : ∀ vs H Q E, sp vs H Q E → vs.length = ps.length)
    (hbody : ∀ (cdv : Value) (A : Around) (outer : List Env) (s : Shared) (H : Hp) (vs : List V) (Q : VK) (E : XK), Room k (A.deeper (envOfC x (defScope st) s.heap.objs.size f cdv)) → sp vs H Q E →
      ∃ t, PSs (cxOf CX0 P w K mg base N x (defScope st) f cdv A outer s H E).nox (defBody st) t ∧ t { nx := fun _ H' => Q .non H', rt := Q } (start N vs) H) : C8.Cal P w K mg base (k + 1) x sp [] :=
  ⟨f, fd, ps, [], F.ok S len (fun cdv A outer s H vs Q E hr h => by
    obtain ⟨t, h1, h2⟩ := hbody cdv A outer s H vs Q E hr h
    exact ⟨t, h1.nox, h2⟩), hm, F.kp, F.bindsN hbd, .nil⟩
end

/-! ### statements -/
section
variable {σ : L2.St} {H : Hp} {te ta tb tl : TE} {tt : TT} {φ ψ : Srt} {D : Ends} {tz tu tw : TS} {i : Nat}
theorem q_seq (h : tu { D with nx := tz D } σ H) : tSeq tu tz D σ H := h
theorem s_asg (h : Ev te σ H φ) (k : ∀ v H1, Same H H1 → φ v H1 → D.nx (σ.set i (some v)) H1) : tAsg te (gName i) D σ H := h.go k
theorem q_asg (h : Ev te σ H φ) (k : ∀ v H1, Same H H1 → φ v H1 → tz D (σ.set i (some v)) H1) : tSeq (tAsg te (gName i)) tz D σ H := h.go k
theorem s_asgG {g : TG} (h : Ev te σ H φ) (k : ∀ v H1, Same H H1 → φ v H1 → g v σ H1 D.nx) : tAsg te g D σ H := h.go k
theorem q_asgG {g : TG} (h : Ev te σ H φ) (k : ∀ v H1, Same H H1 → φ v H1 → g v σ H1 (tz D)) : tSeq (tAsg te g) tz D σ H := h.go k
theorem s_ret (h : Ev te σ H φ) (k : ∀ v H1, Same H H1 → φ v H1 → D.rt v H1) : tRet te D σ H := h.go k
theorem s_if {b : Bool} (h : EvT tt σ H b) (h1 : b = true → ∀ H1, Same H H1 → tu D σ H1) (h2 : b = false → ∀ H1, Same H H1 → tw D σ H1) : tIfS tt tu tw D σ H := h.go fun H1 e => by
  cases b with
  | true => exact iteT (h1 rfl H1 e)
  | false => exact iteF (h2 rfl H1 e)
theorem q_if {b : Bool} (h : EvT tt σ H b) (h1 : b = true → ∀ H1, Same H H1 → tu { D with nx := tz D } σ H1) (h2 : b = false → ∀ H1, Same H H1 → tw { D with nx := tz D } σ H1) : tSeq (tIfS tt tu tw) tz D σ H := s_if (D := { D with nx := tz D }) h h1 h2
theorem q_when {b : Bool} (h : EvT tt σ H b) (h1 : b = true → ∀ H1, Same H H1 → tu { D with nx := tz D } σ H1) (h2 : b = false → ∀ H1, Same H H1 → tz D σ H1) : tSeq (tIfS tt tu tNext) tz D σ H := s_if (D := { D with nx := tz D }) h h1 h2
theorem s_when {b : Bool} (h : EvT tt σ H b) (h1 : b = true → ∀ H1, Same H H1 → tu D σ H1) (h2 : b = false → ∀ H1, Same H H1 → D.nx σ H1) : tIfS tt tu tNext D σ H := s_if h h1 h2
/-- if t: raise ..: not taken -/
theorem q_guard {b : Bool} (h : EvT tt σ H b) (hb : b = false) (k : ∀ H1, Same H H1 → tz D σ H1) : tSeq (tIfS tt tNever tNext) tz D σ H := q_when h (fun z => by rw [hb] at z; cases z) fun _ => k
theorem s_guard {b : Bool} (h : EvT tt σ H b) (hb : b = false) (k : ∀ H1, Same H H1 → D.nx σ H1) : tIfS tt tNever tNext D σ H := s_when h (fun z => by rw [hb] at z; cases z) fun _ => k
theorem s_drop (h : Ev te σ H φ) (k : ∀ H1, Same H H1 → D.nx σ H1) : tDrop te D σ H := h.go fun _ H1 e _ => k H1 e
theorem q_drop (h : Ev te σ H φ) (k : ∀ H1, Same H H1 → tz D σ H1) : tSeq (tDrop te) tz D σ H := h.go fun _ H1 e _ => k H1 e
theorem s_app {K : PySem.W.Frag} {l : Addr} {xs : List V} (hl : H l = some (.lst xs)) (ho : Ev ta σ H (Is (.ref l))) (h : Ev te σ H φ) (hz : xs.length < sizeLine) (k : ∀ v H1, Same H H1 → φ v H1 → D.nx σ (upd H1 l (.lst (xs ++ [v])))) :
    tDrop (tBM K "list" rAppend ta (tCons te tNil)) D σ H := ho.go fun x H1 e1 hx => by
  rw [show x = .ref l from hx]
  exact ⟨.inl ⟨rfl, _, .inl (.inl (e1 _ _ hl))⟩, (h.up e1).go fun v H2 e2 hv => ⟨l, xs, v, rfl, rfl, e2 _ _ (e1 _ _ hl), hz, k v H2 (e1.trans e2) hv⟩⟩
theorem q_app {K : PySem.W.Frag} {l : Addr} {xs : List V} (hl : H l = some (.lst xs)) (ho : Ev ta σ H (Is (.ref l))) (h : Ev te σ H φ) (hz : xs.length < sizeLine) (k : ∀ v H1, Same H H1 → φ v H1 → tz D σ (upd H1 l (.lst (xs ++ [v])))) :
    tSeq (tDrop (tBM K "list" rAppend ta (tCons te tNil))) tz D σ H := s_app (D := { D with nx := tz D }) hl ho h hz k
/-- xs[i] = e -/
theorem s_setL {l : Addr} {xs : List V} {i : Int} (hl : H l = some (.lst xs)) (h : Ev te σ H φ) (ho : Ev ta σ H (Is (.ref l))) (hi : Ev tb σ H (R i)) (h0 : 0 ≤ i) (h1 : i < xs.length) (k : ∀ v H1, Same H H1 → φ v H1 → D.nx σ (upd H1 l (.lst (xs.set i.toNat v)))) [Mo φ] :
    tAsg te (gSub ta tb rSetL) D σ H := h.go fun v H1 e1 hv => (ho.up e1).go fun x H2 e2 hx => (hi.up (e1.trans e2)).go fun y H3 e3 hy => by
  rw [show x = .ref l from hx, show y = .int i from hy]
  refine ⟨l, xs, i, i.toNat, rfl, rfl, e3 _ _ (e2 _ _ (e1 _ _ hl)), ?_, k v H3 ((e1.trans e2).trans e3) (Mo.mo (e2.trans e3) hv)⟩
  unfold ixN
  rw [if_pos h0, if_pos h1]
theorem q_setL {l : Addr} {xs : List V} {i : Int} (hl : H l = some (.lst xs)) (h : Ev te σ H φ) (ho : Ev ta σ H (Is (.ref l))) (hi : Ev tb σ H (R i)) (h0 : 0 ≤ i) (h1 : i < xs.length) (k : ∀ v H1, Same H H1 → φ v H1 → tz D σ (upd H1 l (.lst (xs.set i.toNat v)))) [Mo φ] :
    tSeq (tAsg te (gSub ta tb rSetL)) tz D σ H := s_setL (D := { D with nx := tz D }) hl h ho hi h0 h1 k
/-- x op= e on ints -/
theorem s_aug {g : Int → Int → Int} {a b : Int} (hx : σ[i]? = some (some (.int a))) (h : Ev te σ H (R b)) (k : ∀ H1, Same H H1 → D.nx (σ.set i (some (.int (g a b)))) H1) : tAug i te (ipI g) D σ H :=
  ⟨_, hx, h.go fun v H1 e hv => ⟨a, b, rfl, hv, k H1 e⟩⟩
theorem q_aug {g : Int → Int → Int} {a b : Int} (hx : σ[i]? = some (some (.int a))) (h : Ev te σ H (R b)) (k : ∀ H1, Same H H1 → tz D (σ.set i (some (.int (g a b)))) H1) : tSeq (tAug i te (ipI g)) tz D σ H := s_aug (D := { D with nx := tz D }) hx h k
end

/-! ### targets -/
section
variable {K : PySem.W.Frag} {σ : L2.St} {H : Hp} {v : V} {Q : L2.St → Hp → Prop} {g1 g2 g3 g4 : TG}
theorem g_pair {α β : Type} [Rep α] [Rep β] {p : α × β} (h : Rep.rp H p v) (k : ∀ x y, Rep.rp H p.1 x → Rep.rp H p.2 y → g1 x σ H fun σ1 H1 => g2 y σ1 H1 Q) : gTup K 2 (gCons g1 (gCons g2 gNil)) v σ H Q := by
  obtain ⟨a, x, y, rfl, ha, h1, h2⟩ := h
  refine ⟨a, [x, y], rfl, .inl (.inl ha), rfl, x, [y], rfl, ?_⟩
  have := k x y h1 h2
  show g1 x σ H fun σ' H' => gCons g2 gNil [y] σ' H' Q
  have e : (fun σ' H' => gCons g2 gNil [y] σ' H' Q) = fun σ1 H1 => ∃ v r, [y] = v :: r ∧ g2 v σ1 H1 fun σ' H' => r = [] ∧ Q σ' H' := rfl
  rw [e]
  have e2 : (fun σ1 H1 => ∃ v r, [y] = v :: r ∧ g2 v σ1 H1 fun σ' H' => r = [] ∧ Q σ' H') = fun σ1 H1 => g2 y σ1 H1 Q := by
    funext σ1 H1
    apply propext
    constructor
    · rintro ⟨v, r, e, h⟩
      cases e
      have e3 : (fun (σ' : L2.St) (H' : Hp) => ([] : List V) = [] ∧ Q σ' H') = Q := by
        funext a b
        exact propext ⟨fun h => h.2, fun h => ⟨rfl, h⟩⟩
      rw [e3] at h
      exact h
    · intro h
      refine ⟨y, [], rfl, ?_⟩
      have e3 : (fun (σ' : L2.St) (H' : Hp) => ([] : List V) = [] ∧ Q σ' H') = Q := by
        funext a b
        exact propext ⟨fun h => h.2, fun h => ⟨rfl, h⟩⟩
      rw [e3]
      exact h
  rw [e2]
  exact this
/-- a new pair, just made -/
theorem g_two {a : Addr} {x y : V} (ha : H a = some (.tup [x, y])) (k : g1 x σ H fun σ1 H1 => g2 y σ1 H1 Q) : gTup K 2 (gCons g1 (gCons g2 gNil)) (.ref a) σ H Q := by
  refine ⟨a, [x, y], rfl, .inl (.inl ha), rfl, x, [y], rfl, ?_⟩
  have e2 : (fun σ' H' => gCons g2 gNil [y] σ' H' Q) = fun σ1 H1 => g2 y σ1 H1 Q := by
    funext σ1 H1
    apply propext
    have e3 : (fun (σ' : L2.St) (H' : Hp) => ([] : List V) = [] ∧ Q σ' H') = Q := by
      funext a b
      exact propext ⟨fun h => h.2, fun h => ⟨rfl, h⟩⟩
    constructor
    · rintro ⟨v, r, e, h⟩
      cases e
      have h : g2 y σ1 H1 fun σ' H' => ([] : List V) = [] ∧ Q σ' H' := h
      rw [e3] at h
      exact h
    · intro h
      refine ⟨y, [], rfl, ?_⟩
      show g2 y σ1 H1 fun σ' H' => ([] : List V) = [] ∧ Q σ' H'
      rw [e3]
      exact h
  rw [e2]
  exact k
theorem g_t3n {α β γ : Type} [Rep α] [Rep β] [Rep γ] {p : T3 α β γ} {i j l : Nat} (h : Rep.rp H p v) (k : ∀ x y z, Rep.rp H p.a x → Rep.rp H p.b y → Rep.rp H p.c z → Q (((σ.set i (some x)).set j (some y)).set l (some z)) H) :
    gTup K 3 (gCons (gName i) (gCons (gName j) (gCons (gName l) gNil))) v σ H Q := by
  obtain ⟨a, x, y, z, rfl, ha, h1, h2, h3⟩ := h
  exact ⟨a, [x, y, z], rfl, .inl (.inl ha), rfl, x, _, rfl, y, _, rfl, z, _, rfl, rfl, k x y z h1 h2 h3⟩
theorem g_t4n {α β γ δ : Type} [Rep α] [Rep β] [Rep γ] [Rep δ] {p : T4 α β γ δ} {i j l m : Nat} (h : Rep.rp H p v) (k : ∀ x y z w, Rep.rp H p.a x → Rep.rp H p.b y → Rep.rp H p.c z → Rep.rp H p.d w → Q ((((σ.set i (some x)).set j (some y)).set l (some z)).set m (some w)) H) :
    gTup K 4 (gCons (gName i) (gCons (gName j) (gCons (gName l) (gCons (gName m) gNil)))) v σ H Q := by
  obtain ⟨a, x, y, z, w, rfl, ha, h1, h2, h3, h4⟩ := h
  exact ⟨a, [x, y, z, w], rfl, .inl (.inl ha), rfl, x, _, rfl, y, _, rfl, z, _, rfl, w, _, rfl, rfl, k x y z w h1 h2 h3 h4⟩
end

/-! ### attributes, built-ins by values -/
/-- an instance's attributes, by sorts -/
def FasN : List (Str × Srt) → List (Str × V) → Hp → Prop
  | [], ws, _ => ws = []
  | (n, φ) :: fs, ws, H => ∃ v r, ws = (n, v) :: r ∧ φ v H ∧ FasN fs r H
def Ins (C : Addr) (fs : List (Str × Srt)) : Srt := fun v H => ∃ a dx ws, v = .ref a ∧ H a = some (.ins C dx ws) ∧ FasN fs ws H
class MoN (fs : List (Str × Srt)) : Prop where
  mo : ∀ {ws : List (Str × V)} {H H' : Hp}, Same H H' → FasN fs ws H → FasN fs ws H'
instance : MoN [] := ⟨fun _ h => h⟩
instance {n : Str} {φ : Srt} {fs : List (Str × Srt)} [Mo φ] [MoN fs] : MoN ((n, φ) :: fs) := ⟨fun e ⟨v, r, e1, h1, h2⟩ => ⟨v, r, e1, Mo.mo e h1, MoN.mo e h2⟩⟩
instance {C : Addr} {fs : List (Str × Srt)} [MoN fs] : Mo (Ins C fs) := ⟨fun e ⟨a, dx, ws, e1, h1, h2⟩ => ⟨a, dx, ws, e1, e _ _ h1, MoN.mo e h2⟩⟩
instance : Mo (fun _ _ => True) := ⟨fun _ h => h⟩
theorem fasN_names : ∀ {fs : List (Str × Srt)} {ws : List (Str × V)} {H : Hp}, FasN fs ws H → ws.map (·.1) = fs.map (·.1)
  | [], ws, H, h => by rw [show ws = [] from h]; rfl
  | (n, φ) :: fs, ws, H, h => by
    obtain ⟨v, r, e, _, h2⟩ := h
    rw [e]
    show n :: r.map (·.1) = n :: fs.map (·.1)
    rw [fasN_names h2]
theorem fasN_look {f : Str} : ∀ {fs : List (Str × Srt)} {ws : List (Str × V)} {H : Hp} {φ : Srt} {i : Nat}, FasN fs ws H → (fs.map (·.1)).idxOf? f = some i → (fs.map (·.2))[i]? = some φ → ∃ v, ws.lookup f = some v ∧ φ v H
  | [], ws, H, φ, i, h, h1, _ => by simp at h1
  | (n, ψ) :: fs, ws, H, φ, i, h, h1, h2 => by
    obtain ⟨v, r, e, hv, hr⟩ := h
    subst e
    have h1 : List.idxOf? f (n :: fs.map (·.1)) = some i := h1
    rw [List.idxOf?_cons] at h1
    by_cases c : (n == f) = true
    · rw [if_pos c] at h1
      cases h1
      have e2 : ψ = φ := Option.some.inj h2
      subst e2
      have e3 : n = f := eq_of_beq c
      subst e3
      exact ⟨v, by simp [List.lookup], hv⟩
    · rw [if_neg c] at h1
      cases h3 : List.idxOf? f (fs.map (·.1)) with
      | none => rw [h3] at h1; cases h1
      | some j =>
        rw [h3] at h1
        have e4 : j + 1 = i := Option.some.inj h1
        subst e4
        obtain ⟨u, l1, l2⟩ := fasN_look hr h3 h2
        refine ⟨u, ?_, l2⟩
        have e5 : (f == n) = false := by
          cases z : (f == n) with
          | false => rfl
          | true => exact absurd (beq_iff_eq.mpr (eq_of_beq z).symm) c
        show (match f == n with | true => some v | false => r.lookup f) = some u
        rw [e5]
        exact l1
theorem lookup_memS {m : Str} {v : V} : ∀ {ws : List (Str × V)}, ws.lookup m = some v → (m, v) ∈ ws
  | [], h => by cases h
  | (n, u) :: r, h => by
    have h2 : (match m == n with | true => some u | false => r.lookup m) = some v := h
    cases z : (m == n) with
    | true =>
      rw [z] at h2
      rw [eq_of_beq z, Option.some.inj h2]
      exact List.mem_cons_self
    | false =>
      rw [z] at h2
      exact List.mem_cons_of_mem _ (lookup_memS h2)
section
variable {K : PySem.W.Frag} {σ : L2.St} {H : Hp} {ta tb tl te : TE} {C : Addr} {f : Str} {φ : Srt}
theorem ev_fld {fs : List (Str × Srt)} (i : Nat) (h : Ev ta σ H (Ins C fs)) (c : Cls K C) (n : NoAttr K C f) (h1 : (fs.map (·.1)).idxOf? f = some i) (h2 : (fs.map (·.2))[i]? = some φ) : Ev (tFld K ta f) σ H φ := fun H1 e Q q =>
  h H1 e _ fun v H2 e2 hv => by
    obtain ⟨a, dx, ws, rfl, ha, hf⟩ := hv
    obtain ⟨u, l1, l2⟩ := fasN_look hf h1 h2
    exact ⟨a, C, dx, ws, u, rfl, ha, c, n, l1, q u H2 e2 l2⟩
theorem fasN_none {fs : List (Str × Srt)} {ws : List (Str × V)} {m : Str} (h : FasN fs ws H) (hn : (fs.map (·.1)).contains m = false) : ws.lookup m = none := by
  have e := fasN_names h
  cases q : ws.lookup m with
  | none => rfl
  | some v =>
    have h3 : (m, v) ∈ ws := lookup_memS q
    have h4 : m ∈ fs.map (·.1) := by rw [← e]; exact List.mem_map.mpr ⟨_, h3, rfl⟩
    have h5 := List.contains_iff_mem.mpr h4
    rw [hn] at h5
    cases h5
end
end RW
set_option Elab.async false
set_option linter.all false
set_option maxRecDepth 100000
set_option maxHeartbeats 4000000
/-! Loops and comprehensions over typed walks; built-ins by values. -/
namespace RW
open PySem PySem.Spec PyProof.Rows L2

/-! ### what is walked -/
def YS (S : Nat → Srt) : Nat → Hp → V → Hp → Prop := fun i H v H' => Same H H' ∧ S i v H'
/-- n turns, the i-th gives a value of the sort S i -/
def EvI (wi : TI) (σ : L2.St) (H : Hp) (n : Nat) (S : Nat → Srt) : Prop := ∀ H1, Same H H1 → ∀ Rr : It → Hp → Prop, (∀ J H2, Same H1 H2 → Walk J n (fun H3 => Same H2 H3) (YS S) → Rr J H2) → wi σ H1 Rr
/-- the items of xs -/
def RI {α : Type} [Rep α] (xs : List α) : Nat → Srt := fun i v H => ∃ x, xs[i]? = some x ∧ Rep.rp H x v
def rg (n : Nat) : List Int := (List.range n).map fun k : Nat => (k : Int)
theorem rg_len (n : Nat) : (rg n).length = n := by simp [rg]
theorem rg_get {n i : Nat} (h : i < n) : (rg n)[i]? = some (i : Int) := by simp [rg, h]
section
variable {K : PySem.W.Frag} {σ : L2.St} {H : Hp} {tl : TE} {ta : TA}
theorem evi_list {α : Type} [Rep α] {xs : List α} (h : Ev tl σ H (Ls xs)) : EvI (iList K tl) σ H xs.length (RI xs) := fun H1 e Rr q =>
  h H1 e _ fun v H2 e2 hv => by
    obtain ⟨a, vs, rfl, ha, r⟩ := hv
    refine ⟨a, rfl, ⟨vs, .inl (.inl ha)⟩, q _ H2 e2 ?_⟩
    rw [r.length]
    exact walk_list.mono (fun H3 e3 => .inl (.inl (e3 _ _ ha))) fun i H3 x H' hi e3 y => by
      obtain ⟨rfl, y⟩ := y
      obtain ⟨z, hz, hr⟩ := r.getV y
      exact ⟨Same.refl _, z, hz, Rep.mono (tx_of e3) hr⟩
theorem evi_tup {α : Type} [Rep α] {xs : List α} (h : Ev tl σ H (R xs)) : EvI (iTup K tl) σ H xs.length (RI xs) := fun H1 e Rr q =>
  h H1 e _ fun v H2 e2 hv => by
    obtain ⟨a, vs, rfl, ha, r⟩ := hv
    refine ⟨a, rfl, ⟨vs, .inl (.inl ha)⟩, q _ H2 e2 ?_⟩
    rw [r.length]
    exact walk_tup.mono (fun H3 e3 => .inl (.inl (e3 _ _ ha))) fun i H3 x H' hi e3 y => by
      obtain ⟨rfl, y⟩ := y
      obtain ⟨z, hz, hr⟩ := r.getV y
      exact ⟨Same.refl _, z, hz, Rep.mono (tx_of e3) hr⟩
theorem evi_range1 {n : Int} (h : EvA ta σ H [R n]) (h1 : -(2 ^ 62) ≤ n) (h2 : n < 2 ^ 62) : EvI (iRng1 ta) σ H n.toNat (RI (rg n.toNat)) := fun H1 e Rr q =>
  h H1 e _ fun vs H2 e2 hv => by
    obtain ⟨v, rfl, hv1⟩ := fas1 hv
    exact ⟨n, by rw [show v = .int n from hv1], h1, h2, q _ H2 e2 (walk_range.mono (fun _ _ => trivial) fun i H3 x H' hi _ y => by
      obtain ⟨rfl, rfl⟩ := y
      exact ⟨Same.refl _, (i : Int), rg_get hi, by show V.int ((0 : Int) + i) = V.int i; rw [Int.zero_add]⟩)⟩
theorem evi_range2 {a b : Int} (h : EvA ta σ H [R a, R b]) (h1 : -(2 ^ 62) ≤ a ∧ a < 2 ^ 62 ∧ -(2 ^ 62) ≤ b ∧ b < 2 ^ 62) : EvI (iRng2 ta) σ H (b - a).toNat (RI ((rg (b - a).toNat).map fun k => a + k)) := fun H1 e Rr q =>
  h H1 e _ fun vs H2 e2 hv => by
    obtain ⟨v, w, rfl, hv1, hw⟩ := fas2 hv
    exact ⟨a, b, by rw [show v = .int a from hv1, show w = .int b from hw], h1, q _ H2 e2 (walk_range.mono (fun _ _ => trivial) fun i H3 x H' hi _ y => by
      obtain ⟨rfl, rfl⟩ := y
      exact ⟨Same.refl _, a + (i : Int), by rw [List.getElem?_map, rg_get hi]; rfl, rfl⟩)⟩
theorem evi_str {z : Str} (h : Ev tl σ H (R z)) : EvI (iStr tl) σ H z.cps.size (RI (z.cps.toList.map fun c => (⟨#[c]⟩ : Str))) := fun H1 e Rr q =>
  h H1 e _ fun v H2 e2 hv => by
    refine ⟨z, hv, q _ H2 e2 (walk_str.mono (fun _ _ => trivial) fun i H3 x H' hi _ y => ?_)⟩
    obtain ⟨rfl, c, hc, rfl⟩ := y
    exact ⟨Same.refl _, ⟨#[c]⟩, by rw [List.getElem?_map, Array.getElem?_toList, hc]; rfl, rfl⟩
/-- zip of two tuples -/
theorem evi_zipTT {α β : Type} [Rep α] [Rep β] {xs : List α} {ys : List β} (h : EvA ta σ H [R xs, R ys]) : EvI (RZ.iZipA K ta) σ H (xs.zip ys).length (RI (xs.zip ys)) := fun H1 e Rr q =>
  h H1 e _ fun vs H2 e2 hv => by
    obtain ⟨v, w, rfl, ⟨a, us, rfl, ha, r⟩, b, ws, rfl, hb, r2⟩ := fas2 hv
    refine ⟨a, b, us, ws, rfl, .inr ⟨.inl (.inl ha), .inl (.inl hb), q _ H2 e2 ?_⟩⟩
    refine ⟨fun i H3 hi e3 => ?_, fun H3 e3 => ⟨us, ws, .inl (.inl (e3 _ _ ha)), .inl (.inl (e3 _ _ hb)), ?_⟩, fun i H3 x H' hi e3 y => ?_⟩
    · rw [List.length_zip] at hi
      have l1 : i < us.length := by have := r.length; omega
      have l2 : i < ws.length := by have := r2.length; omega
      exact ⟨us, ws, us[i], ws[i], .inl (.inl (e3 _ _ ha)), .inl (.inl (e3 _ _ hb)), by simp [l1], by simp [l2]⟩
    · rw [List.length_zip]
      have := r.length
      have := r2.length
      omega
    · obtain ⟨T, x1, y1, rfl, hT, rfl, h1, h2⟩ := y
      have g1 := h1 us (.inl (.inl (e3 _ _ ha)))
      have g2 := h2 ws (.inl (.inl (e3 _ _ hb)))
      obtain ⟨z1, hz1, hr1⟩ := r.getV g1
      obtain ⟨z2, hz2, hr2⟩ := r2.getV g2
      have s := same_new (o := .tup [x1, y1]) hT
      exact ⟨s, (z1, z2), List.getElem?_zip_eq_some.mpr ⟨hz1, hz2⟩, T, x1, y1, rfl, upd_same, Rep.mono (tx_of (e3.trans s)) hr1, Rep.mono (tx_of (e3.trans s)) hr2⟩
/-- zip of two lists -/
theorem evi_zipLL {α β : Type} [Rep α] [Rep β] {xs : List α} {ys : List β} (h : EvA ta σ H [Ls xs, Ls ys]) : EvI (RZ.iZipA K ta) σ H (xs.zip ys).length (RI (xs.zip ys)) := fun H1 e Rr q =>
  h H1 e _ fun vs H2 e2 hv => by
    obtain ⟨v, w, rfl, ⟨a, us, rfl, ha, r⟩, b, ws, rfl, hb, r2⟩ := fas2 hv
    refine ⟨a, b, us, ws, rfl, .inl ⟨.inl (.inl ha), .inl (.inl hb), q _ H2 e2 ?_⟩⟩
    refine ⟨fun i H3 hi e3 => ?_, fun H3 e3 => ⟨us, ws, .inl (.inl (e3 _ _ ha)), .inl (.inl (e3 _ _ hb)), ?_⟩, fun i H3 x H' hi e3 y => ?_⟩
    · rw [List.length_zip] at hi
      have l1 : i < us.length := by have := r.length; omega
      have l2 : i < ws.length := by have := r2.length; omega
      exact ⟨us, ws, us[i], ws[i], .inl (.inl (e3 _ _ ha)), .inl (.inl (e3 _ _ hb)), by simp [l1], by simp [l2]⟩
    · rw [List.length_zip]
      have := r.length
      have := r2.length
      omega
    · obtain ⟨T, x1, y1, rfl, hT, rfl, h1, h2⟩ := y
      have g1 := h1 us (.inl (.inl (e3 _ _ ha)))
      have g2 := h2 ws (.inl (.inl (e3 _ _ hb)))
      obtain ⟨z1, hz1, hr1⟩ := r.getV g1
      obtain ⟨z2, hz2, hr2⟩ := r2.getV g2
      have s := same_new (o := .tup [x1, y1]) hT
      exact ⟨s, (z1, z2), List.getElem?_zip_eq_some.mpr ⟨hz1, hz2⟩, T, x1, y1, rfl, upd_same, Rep.mono (tx_of (e3.trans s)) hr1, Rep.mono (tx_of (e3.trans s)) hr2⟩
/-- enumerate of a list -/
theorem evi_enumL {α : Type} [Rep α] {xs : List α} (h : EvA ta σ H [Ls xs]) : EvI (iEnum K ta) σ H ((rg xs.length).zip xs).length (RI ((rg xs.length).zip xs)) := fun H1 e Rr q =>
  h H1 e _ fun vs H2 e2 hv => by
    obtain ⟨v, rfl, a, us, rfl, ha, r⟩ := fas1 hv
    refine ⟨a, us, rfl, .inl (.inl ha), q _ H2 e2 ?_⟩
    have hn : ((rg xs.length).zip xs).length = us.length := by rw [List.length_zip, rg_len, ← r.length]; omega
    rw [hn]
    refine walk_enum.mono (fun H3 e3 => .inl (.inl (e3 _ _ ha))) fun i H3 x H' hi e3 y => ?_
    obtain ⟨T, x1, y1, rfl, hT, rfl, h1, h2⟩ := y
    obtain ⟨z2, hz2, hr2⟩ := r.getV h2
    have e1 : x1 = .int (i : Int) := (Option.some.inj h1).symm
    have s := same_new (o := .tup [x1, y1]) hT
    exact ⟨s, ((i : Int), z2), List.getElem?_zip_eq_some.mpr ⟨rg_get (by rw [r.length]; exact hi), hz2⟩, T, x1, y1, rfl, upd_same, e1, Rep.mono (tx_of (e3.trans s)) hr2⟩
end

/-! ### for -/
section
variable {σ : L2.St} {H : Hp} {wi : TI} {g : TG} {tb tz : TS} {D : Ends} {n : Nat} {S : Nat → Srt}
theorem s_for (h : EvI wi σ H n S) (Pv : Hp → Nat → L2.St → Hp → Prop) (h0 : ∀ H1, Same H H1 → Pv H1 0 σ H1) (hk : ∀ H1 i σ' H', Pv H1 i σ' H' → Same H1 H')
    (hs : ∀ H1 i x σ' H' H'', Same H H1 → i < n → Pv H1 i σ' H' → Same H' H'' → S i x H'' → g x σ' H'' fun σ2 H2 => tb { D with nx := Pv H1 (i + 1), ct := Pv H1 (i + 1), bk := D.nx } σ2 H2)
    (hd : ∀ H1 σ' H', Same H H1 → Pv H1 n σ' H' → D.nx σ' H') : tFor wi g tb D σ H :=
  h H (Same.refl H) _ fun J H2 e2 w => for_it w (Pv H2) (h0 H2 e2) (fun i σ' H' _ p => hk H2 i σ' H' p) (fun i x σ' H' H'' hi p y => hs H2 i x σ' H' H'' e2 hi p y.1 y.2) fun σ' H' p => hd H2 σ' H' e2 p
theorem q_for (h : EvI wi σ H n S) (Pv : Hp → Nat → L2.St → Hp → Prop) (h0 : ∀ H1, Same H H1 → Pv H1 0 σ H1) (hk : ∀ H1 i σ' H', Pv H1 i σ' H' → Same H1 H')
    (hs : ∀ H1 i x σ' H' H'', Same H H1 → i < n → Pv H1 i σ' H' → Same H' H'' → S i x H'' → g x σ' H'' fun σ2 H2 => tb { D with nx := Pv H1 (i + 1), ct := Pv H1 (i + 1), bk := tz D } σ2 H2)
    (hd : ∀ H1 σ' H', Same H H1 → Pv H1 n σ' H' → tz D σ' H') : tSeq (tFor wi g tb) tz D σ H := s_for (D := { D with nx := tz D }) h Pv h0 hk hs hd
end

/-! ### comprehensions -/
section
variable {σ : L2.St} {H : Hp} {wi : TI} {g : TG} {tt : TT} {te : TE} {vs : List Nat} {n : Nat} {S : Nat → Srt} {γ : Type} [Rep γ]
def pick {γ : Type} (n : Nat) (b : Nat → Bool) (f : Nat → γ) : List γ := ((List.range n).filter b).map f
theorem pick_yes {n : Nat} {b : Nat → Bool} {f : Nat → γ} (h : b n = true) : pick (n + 1) b f = pick n b f ++ [f n] := by
  unfold pick
  rw [List.range_succ, List.filter_append, List.map_append, List.filter_cons, if_pos h]
  rfl
theorem pick_no {n : Nat} {b : Nat → Bool} {f : Nat → γ} (h : b n = false) : pick (n + 1) b f = pick n b f := by
  unfold pick
  rw [List.range_succ, List.filter_append, List.map_append, List.filter_cons, if_neg (by rw [h]; decide)]
  show _ ++ [] = _
  rw [List.append_nil]
theorem pick_len (n : Nat) (b : Nat → Bool) (f : Nat → γ) : (pick n b f).length ≤ n := by
  unfold pick
  rw [List.length_map]
  have h := List.length_filter_le b (List.range n)
  rw [List.length_range] at h
  exact h
theorem ev_lc (b : Nat → Bool) (f : Nat → γ) (h : EvI wi σ H n S) (hl : n ≤ sizeLine)
    (hs : ∀ i x H1, Same H H1 → i < n → S i x H1 → g x (wipe σ vs) H1 fun σ2 H2 => H2 = H1 ∧ wipe σ2 vs = wipe σ vs ∧ EvT tt σ2 H1 (b i) ∧ (b i = true → Ev te σ2 H1 (R (f i)))) :
    (mono : ∀ x σ' H' (Q Q' : L2.St → Hp → Prop), (∀ σ2 H2, Q σ2 H2 → Q' σ2 H2) → g x σ' H' Q → g x σ' H' Q') → Ev (tLc wi g tt te vs) σ H (NLs H (pick n b f)) := fun mono H1 e Q q => by
  refine h H1 e _ fun J H2 e2 w D hD => ?_
  refine lc_it w (fun i H' => Same H2 H' ∧ ∃ us, H' D = some (.lst us) ∧ Rps H' (pick i b f) us) ⟨same_new hD, [], upd_same, .nil⟩ (fun i H' _ p => p.1) ?_ ?_
  · rintro i x H' H'' hi ⟨s1, us, hu, ru⟩ ⟨s2, hx⟩
    refine mono _ _ _ _ _ (fun σ3 H3 k => ?_) (hs i x H'' (((e.trans e2).trans s1).trans s2) hi hx)
    obtain ⟨rfl, k1, k2, k3⟩ := k
    refine ⟨k1, k2.go fun H4 e4 => ?_⟩
    have a1 : Same H2 H4 := (s1.trans s2).trans e4
    have a2 : Tx H' H4 := tx_of (s2.trans e4)
    cases hb : b i with
    | true =>
      refine iteT ((k3 hb).up e4 |>.go fun y H5 e5 hy => ?_)
      have a3 : H5 D = some (.lst us) := e5 _ _ (e4 _ _ (s2 _ _ hu))
      have l1 := (ru.length).symm
      have l2 := pick_len i b f
      refine ⟨us, a3, by omega, same_mut (a1.trans e5) hD, _, upd_same, ?_⟩
      rw [pick_yes hb]
      exact Rps.mono (tx_lst a3) ((Rps.mono (a2.trans (tx_of e5)) ru).snoc hy)
    | false =>
      refine iteF ⟨a1, us, e4 _ _ (s2 _ _ hu), ?_⟩
      rw [pick_no hb]
      exact Rps.mono a2 ru
  · rintro H' ⟨s1, us, hu, ru⟩
    exact q _ H' (e2.trans s1) ⟨D, us, rfl, (e.trans e2).free hD, hu, ru⟩
theorem mono_name {j : Nat} : ∀ (x : V) (σ' : L2.St) (H' : Hp) (Q Q' : L2.St → Hp → Prop), (∀ σ2 H2, Q σ2 H2 → Q' σ2 H2) → gName j x σ' H' Q → gName j x σ' H' Q' := fun _ _ _ _ _ h q => h _ _ q
theorem mono_two {K : PySem.W.Frag} {i j : Nat} : ∀ (x : V) (σ' : L2.St) (H' : Hp) (Q Q' : L2.St → Hp → Prop), (∀ σ2 H2, Q σ2 H2 → Q' σ2 H2) → gTup K 2 (gCons (gName i) (gCons (gName j) gNil)) x σ' H' Q → gTup K 2 (gCons (gName i) (gCons (gName j) gNil)) x σ' H' Q' := fun _ _ _ _ _ h q => by
  obtain ⟨a, xs, e, s, l, x, r, e2, y, r2, e3, e4, q⟩ := q
  exact ⟨a, xs, e, s, l, x, r, e2, y, r2, e3, e4, h _ _ q⟩
theorem getD_map {β : Type} {zs : List β} {d : β} : (List.range zs.length).map (fun i => zs.getD i d) = zs := by
  refine List.ext_getElem (by simp) fun i h1 h2 => ?_
  simp at h1 ⊢
  simp [h1]
theorem pick_filter {β γ : Type} {b : β → Bool} {f : β → γ} {d : β} {zs : List β} : pick zs.length (fun i => b (zs.getD i d)) (fun i => f (zs.getD i d)) = (zs.filter b).map f := by
  have e : (zs.filter b).map f = (((List.range zs.length).map (fun i => zs.getD i d)).filter b).map f := by rw [getD_map]
  rw [e, List.filter_map, List.map_map]
  rfl
theorem pick_map {β γ : Type} {zs : List β} {f : β → γ} {d : β} : pick zs.length (fun _ => true) (fun i => f (zs.getD i d)) = zs.map f := by
  unfold pick
  rw [List.filter_eq_self.mpr (fun _ _ => rfl)]
  refine List.ext_getElem (by simp) fun i h1 h2 => ?_
  simp at h1 ⊢
  simp [h1]
end
end RW
set_option Elab.async false
set_option linter.all false
set_option maxRecDepth 100000
set_option maxHeartbeats 4000000
/-! Built-ins by values, items, slices, typed comprehensions. -/
namespace RW
open PySem PySem.Spec PyProof.Rows L2

section
variable {K : PySem.W.Frag} {σ : L2.St} {H : Hp} {ta tb tl te : TE} {φ : Srt}
theorem ev_is {i : Nat} {v : V} (hs : σ[i]? = some (some v)) : Ev (tVar i) σ H (Is v) := ev_var hs rfl
/-! items -/
theorem ev_ixT {α : Type} [Rep α] {xs : List α} {i : Int} {x : α} (ha : Ev ta σ H (R xs)) (hb : Ev tb σ H (R i)) (h : atI xs i = some x) : Ev (tOp (rIxT K) ta tb) σ H (R x) :=
  ev_op ha hb fun v w H1 _ h1 h2 Q q => by
    obtain ⟨a, vs, rfl, ha, r⟩ := h1
    obtain ⟨u, hu, hr⟩ := r.atI h
    exact ⟨a, vs, i, u, rfl, h2, .inl (.inl ha), hu, q _ _ (Same.refl _) hr⟩
theorem ev_ixL {α : Type} [Rep α] {xs : List α} {i : Int} {x : α} (ha : Ev ta σ H (Ls xs)) (hb : Ev tb σ H (R i)) (h : atI xs i = some x) : Ev (tOp (rIxL K) ta tb) σ H (R x) :=
  ev_op ha hb fun v w H1 _ h1 h2 Q q => by
    obtain ⟨a, vs, rfl, ha, r⟩ := h1
    obtain ⟨u, hu, hr⟩ := r.atI h
    exact ⟨a, vs, i, u, rfl, h2, .inl (.inl ha), hu, q _ _ (Same.refl _) hr⟩
theorem ev_ixP0 {α β : Type} [Rep α] [Rep β] {p : α × β} (ha : Ev ta σ H (R p)) : Ev (tOp (rIxT K) ta (tC (.int 0))) σ H (R p.1) :=
  ev_op ha (ev_ci (i := 0)) fun v w H1 _ h1 h2 Q q => by
    obtain ⟨a, x, y, rfl, ha, r1, r2⟩ := h1
    exact ⟨a, [x, y], 0, x, rfl, h2, .inl (.inl ha), rfl, q _ _ (Same.refl _) r1⟩
theorem ev_ixP1 {α β : Type} [Rep α] [Rep β] {p : α × β} (ha : Ev ta σ H (R p)) : Ev (tOp (rIxT K) ta (tC (.int 1))) σ H (R p.2) :=
  ev_op ha (ev_ci (i := 1)) fun v w H1 _ h1 h2 Q q => by
    obtain ⟨a, x, y, rfl, ha, r1, r2⟩ := h1
    exact ⟨a, [x, y], 1, y, rfl, h2, .inl (.inl ha), rfl, q _ _ (Same.refl _) r2⟩
theorem ev_ix30 {α β γ : Type} [Rep α] [Rep β] [Rep γ] {p : T3 α β γ} (ha : Ev ta σ H (R p)) : Ev (tOp (rIxT K) ta (tC (.int 0))) σ H (R p.a) :=
  ev_op ha (ev_ci (i := 0)) fun v w H1 _ h1 h2 Q q => by
    obtain ⟨a, x, y, z, rfl, ha, r1, r2, r3⟩ := h1
    exact ⟨a, [x, y, z], 0, x, rfl, h2, .inl (.inl ha), rfl, q _ _ (Same.refl _) r1⟩
theorem ev_ix32 {α β γ : Type} [Rep α] [Rep β] [Rep γ] {p : T3 α β γ} (ha : Ev ta σ H (R p)) : Ev (tOp (rIxT K) ta (tC (.int 2))) σ H (R p.c) :=
  ev_op ha (ev_ci (i := 2)) fun v w H1 _ h1 h2 Q q => by
    obtain ⟨a, x, y, z, rfl, ha, r1, r2, r3⟩ := h1
    exact ⟨a, [x, y, z], 2, z, rfl, h2, .inl (.inl ha), rfl, q _ _ (Same.refl _) r3⟩
theorem ev_ixS {z : Str} {i : Int} {c : Nat} (ha : Ev ta σ H (R z)) (hb : Ev tb σ H (R i)) (hz : z.length ≤ sizeLine) (h : atI z.cps.toList i = some c) : Ev (tOp rIxS ta tb) σ H (R (⟨#[c]⟩ : Str)) :=
  ev_op ha hb fun v w H1 _ h1 h2 Q q => ⟨z, i, c, h1, h2, hz, h, q _ _ (Same.refl _) rfl⟩
/-! len, tuple, list, int, min, all -/
theorem ev_lenT {α : Type} [Rep α] {xs : List α} (ha : Ev ta σ H (R xs)) : Ev (tCB (fun xs H Q => ∃ p ys, xs = [.ref p] ∧ (SqL K H p ys ∨ SqT K H p ys) ∧ Q (.int ys.length) H) (tCons ta tNil)) σ H (R (xs.length : Int)) := fun H1 e Q q =>
  ha H1 e _ fun v H2 e2 hv => by
    obtain ⟨a, vs, rfl, ha, r⟩ := hv
    refine ⟨a, vs, rfl, .inr (.inl (.inl ha)), q _ H2 e2 ?_⟩
    show V.int _ = V.int _
    rw [r.length]
theorem ev_lenL {α : Type} [Rep α] {xs : List α} (ha : Ev ta σ H (Ls xs)) : Ev (tCB (fun xs H Q => ∃ p ys, xs = [.ref p] ∧ (SqL K H p ys ∨ SqT K H p ys) ∧ Q (.int ys.length) H) (tCons ta tNil)) σ H (R (xs.length : Int)) := fun H1 e Q q =>
  ha H1 e _ fun v H2 e2 hv => by
    obtain ⟨a, vs, rfl, ha, r⟩ := hv
    refine ⟨a, vs, rfl, .inl (.inl (.inl ha)), q _ H2 e2 ?_⟩
    show V.int _ = V.int _
    rw [r.length]
theorem ev_lenS {z : Str} (ha : Ev ta σ H (R z)) (hz : z.length ≤ sizeLine) : Ev (tCB (fun xs H Q => ∃ z, xs = [.str z] ∧ z.length ≤ sizeLine ∧ Q (.int z.length) H) (tCons ta tNil)) σ H (R (z.length : Int)) := fun H1 e Q q =>
  ha H1 e _ fun v H2 e2 hv => ⟨z, by rw [show v = .str z from hv], hz, q _ H2 e2 rfl⟩
theorem ev_tupL {α : Type} [Rep α] {xs : List α} (ha : Ev ta σ H (Ls xs)) : Ev (tCB (fun xs H Q => ∃ p ys, xs = [.ref p] ∧ ((SqL K H p ys ∧ ∀ l, H l = none → Q (.ref l) (upd H l (.tup ys))) ∨ (SqT K H p ys ∧ Q (.ref p) H))) (tCons ta tNil)) σ H (R xs) := fun H1 e Q q =>
  ha H1 e _ fun v H2 e2 hv => by
    obtain ⟨a, vs, rfl, ha, r⟩ := hv
    exact ⟨a, vs, rfl, .inl ⟨.inl (.inl ha), fun l hl => q _ _ (e2.trans (same_new hl)) ⟨l, vs, rfl, upd_same, Rps.mono (tx_of (same_new hl)) r⟩⟩⟩
theorem ev_tupT {α : Type} [Rep α] {xs : List α} (ha : Ev ta σ H (R xs)) : Ev (tCB (fun xs H Q => ∃ p ys, xs = [.ref p] ∧ ((SqL K H p ys ∧ ∀ l, H l = none → Q (.ref l) (upd H l (.tup ys))) ∨ (SqT K H p ys ∧ Q (.ref p) H))) (tCons ta tNil)) σ H (R xs) := fun H1 e Q q =>
  ha H1 e _ fun v H2 e2 hv => by
    obtain ⟨a, vs, rfl, ha, r⟩ := hv
    exact ⟨a, vs, rfl, .inr ⟨.inl (.inl ha), q _ H2 e2 ⟨a, vs, rfl, ha, r⟩⟩⟩
theorem ev_listT {α : Type} [Rep α] {xs : List α} (ha : Ev ta σ H (R xs)) : Ev (tCB (fun xs H Q => ∃ p ys, xs = [.ref p] ∧ (SqL K H p ys ∨ SqT K H p ys) ∧ ∀ l, H l = none → Q (.ref l) (upd H l (.lst ys))) (tCons ta tNil)) σ H (NLs H xs) := fun H1 e Q q =>
  ha H1 e _ fun v H2 e2 hv => by
    obtain ⟨a, vs, rfl, ha, r⟩ := hv
    exact ⟨a, vs, rfl, .inr (.inl (.inl ha)), fun l hl => q _ _ (e2.trans (same_new hl)) ⟨l, vs, rfl, (e.trans e2).free hl, upd_same, Rps.mono (tx_of (same_new hl)) r⟩⟩
theorem ev_listL {α : Type} [Rep α] {xs : List α} (ha : Ev ta σ H (Ls xs)) : Ev (tCB (fun xs H Q => ∃ p ys, xs = [.ref p] ∧ (SqL K H p ys ∨ SqT K H p ys) ∧ ∀ l, H l = none → Q (.ref l) (upd H l (.lst ys))) (tCons ta tNil)) σ H (NLs H xs) := fun H1 e Q q =>
  ha H1 e _ fun v H2 e2 hv => by
    obtain ⟨a, vs, rfl, ha, r⟩ := hv
    exact ⟨a, vs, rfl, .inl (.inl (.inl ha)), fun l hl => q _ _ (e2.trans (same_new hl)) ⟨l, vs, rfl, (e.trans e2).free hl, upd_same, Rps.mono (tx_of (same_new hl)) r⟩⟩
theorem ev_int1 {i : Int} (ha : Ev ta σ H (R i)) : Ev (tCB (fun xs H Q => (∃ i, xs = [.int i] ∧ Q (.int i) H) ∨ ∃ k, xs = [.bl k] ∧ Q (.int (if k then 1 else 0)) H) (tCons ta tNil)) σ H (R i) := fun H1 e Q q =>
  ha H1 e _ fun v H2 e2 hv => .inl ⟨i, by rw [show v = .int i from hv], q _ H2 e2 rfl⟩
theorem ev_str1 {i : Int} (ha : Ev ta σ H (R i)) (hi : i.natAbs.log2 < 1920) : Ev (tCB (fun xs H Q => ∃ i, xs = [.int i] ∧ i.natAbs.log2 < 1920 ∧ Q (.str (toString i)) H) (tCons ta tNil)) σ H (R (toString i : Str)) := fun H1 e Q q =>
  ha H1 e _ fun v H2 e2 hv => ⟨i, by rw [show v = .int i from hv], hi, q _ H2 e2 rfl⟩
theorem ev_min2 {i j : Int} (ha : Ev ta σ H (R i)) (hb : Ev tb σ H (R j)) : Ev (tCB (fun xs H Q => ∃ i j, xs = [.int i, .int j] ∧ Q (.int (if j < i then j else i)) H) (tCons ta (tCons tb tNil))) σ H (R (if j < i then j else i)) := fun H1 e Q q =>
  ha H1 e _ fun v H2 e2 hv => hb H2 (e.trans e2) _ fun w H3 e3 hw => ⟨i, j, by rw [show v = .int i from hv, show w = .int j from hw], q _ H3 (e2.trans e3) rfl⟩
theorem ev_all {bs : List Bool} (ha : Ev ta σ H (Ls bs)) : Ev (tCB (rAll K) (tCons ta tNil)) σ H (R (bs.all id)) := fun H1 e Q q =>
  ha H1 e _ fun v H2 e2 hv => by
    obtain ⟨a, vs, rfl, ha, r⟩ := hv
    rw [r.bools] at ha
    exact ⟨a, bs, rfl, .inl (.inl ha), q _ H2 e2 rfl⟩
/-! new lists from lists -/
theorem ev_cat {α : Type} [Rep α] {xs ys : List α} (ha : Ev ta σ H (Ls xs)) (hb : Ev tb σ H (Ls ys)) (hl : xs.length + ys.length ≤ sizeLine) : Ev (tOp rCat ta tb) σ H (NLs H (xs ++ ys)) :=
  ev_op ha hb fun v w H1 e h1 h2 Q q => by
    obtain ⟨a, vs, rfl, ha, r⟩ := h1
    obtain ⟨b, ws, rfl, hb, r2⟩ := h2
    exact ⟨a, b, vs, ws, rfl, rfl, ha, hb, by rw [← r.length, ← r2.length]; exact hl, fun p hp => q _ _ (same_new hp) ⟨p, _, rfl, e.free hp, upd_same, Rps.mono (tx_of (same_new hp)) (r.append r2)⟩⟩
theorem rps_flat {α : Type} [Rep α] {xs : List α} {vs : List V} (r : Rps H xs vs) : ∀ n, Rps H (List.replicate n xs).flatten (List.replicate n vs).flatten
  | 0 => .nil
  | n + 1 => by
    rw [List.replicate_succ, List.replicate_succ, List.flatten_cons, List.flatten_cons]
    exact r.append (rps_flat r n)
theorem ev_rep {α : Type} [Rep α] {xs : List α} {k : Int} (ha : Ev ta σ H (Ls xs)) (hb : Ev tb σ H (R k)) (h1 : -(2 ^ 63) ≤ k) (h2 : k < 2 ^ 63) (hl : xs.length * k.toNat ≤ sizeLine) : Ev (tOp rRep ta tb) σ H (NLs H (List.replicate k.toNat xs).flatten) :=
  ev_op ha hb fun v w H1 e h3 h4 Q q => by
    obtain ⟨a, vs, rfl, ha, r⟩ := h3
    exact ⟨a, k, vs, rfl, h4, ha, h1, h2, by rw [← r.length]; exact hl, fun p hp => q _ _ (same_new hp) ⟨p, _, rfl, e.free hp, upd_same, Rps.mono (tx_of (same_new hp)) (rps_flat r _)⟩⟩
/-- tuple + tuple -/
theorem ev_catT {α : Type} [Rep α] {xs ys : List α} (ha : Ev ta σ H (R xs)) (hb : Ev tb σ H (R ys)) (hl : xs.length + ys.length ≤ sizeLine) : Ev (tOp (rCatA K) ta tb) σ H (R (xs ++ ys)) :=
  ev_op ha hb fun v w H1 e h1 h2 Q q => by
    obtain ⟨a, vs, rfl, ha, r⟩ := h1
    obtain ⟨b, ws, rfl, hb, r2⟩ := h2
    refine ⟨a, b, vs, ws, rfl, rfl, .inl (.inl ha), .inl (.inl hb), by rw [← r.length, ← r2.length]; exact hl, fun h => ?_, fun _ h => ?_, fun _ _ p hp => q _ _ (same_new hp) ⟨p, _, rfl, upd_same, Rps.mono (tx_of (same_new hp)) (r.append r2)⟩⟩
    · subst h
      cases r
      exact q _ _ (Same.refl _) ⟨b, ws, rfl, hb, r2⟩
    · subst h
      cases r2
      exact q _ _ (Same.refl _) ⟨a, vs, rfl, ha, by rw [List.append_nil]; exact r⟩
/-- slices -/
def cutX {α : Type} (xs : List α) (lo hi : Option Int) : List α := (xs.drop (HT.sIx xs.length 0 lo)).take (HT.sIx xs.length xs.length hi - HT.sIx xs.length 0 lo)
theorem rps_cut {α : Type} [Rep α] {xs : List α} {vs : List V} (r : Rps H xs vs) (lo hi : Option Int) : Rps H (cutX xs lo hi) (cutV vs lo hi) := by
  unfold cutX cutV
  rw [r.length]
  exact (r.drop _).take _
def EvO (to : TO) (σ : L2.St) (H : Hp) (o : Option Int) : Prop := ∀ H1, Same H H1 → ∀ Q : Option Int → Hp → Prop, (∀ H2, Same H1 H2 → Q o H2) → to σ H1 Q
theorem eo_none : EvO tNoPart σ H none := fun H1 _ Q q => q H1 (Same.refl _)
theorem eo_some {i : Int} (h : Ev te σ H (R i)) : EvO (tPart te) σ H (some i) := fun H1 e Q q => h H1 e _ fun v H2 e2 hv => ⟨i, hv, q H2 e2⟩
theorem ev_slT {α : Type} [Rep α] {xs : List α} {tlo thi : TO} {lo hi : Option Int} (ha : Ev ta σ H (R xs)) (hlo : EvO tlo σ H lo) (hhi : EvO thi σ H hi) : Ev (L2.tSl (rSlA K) ta tlo thi) σ H (R (cutX xs lo hi)) := fun H1 e Q q =>
  ha H1 e _ fun v H2 e2 hv => hlo H2 (e.trans e2) _ fun H3 e3 => hhi H3 ((e.trans e2).trans e3) _ fun H4 e4 => by
    obtain ⟨a, vs, rfl, ha, r⟩ := hv
    have s := e3.trans e4
    have r' := Rps.mono (tx_of s) r
    refine ⟨a, vs, rfl, .inl (.inl (s _ _ ha)), fun hw => q _ H4 (e2.trans s) ⟨a, vs, rfl, s _ _ ha, ?_⟩, fun _ p hp => q _ _ ((e2.trans s).trans (same_new hp)) ⟨p, _, rfl, upd_same, Rps.mono (tx_of (same_new hp)) (rps_cut r' lo hi)⟩⟩
    have c := rps_cut r' lo hi
    have e : cutV vs lo hi = vs := by
      unfold cutV
      rw [hw.1, hw.2, List.drop_zero, Nat.sub_zero, List.take_length]
    rw [e] at c
    exact c
theorem ev_slL {α : Type} [Rep α] {xs : List α} {tlo thi : TO} {lo hi : Option Int} (ha : Ev ta σ H (Ls xs)) (hlo : EvO tlo σ H lo) (hhi : EvO thi σ H hi) : Ev (L2.tSl (rSlL K) ta tlo thi) σ H (NLs H (cutX xs lo hi)) := fun H1 e Q q =>
  ha H1 e _ fun v H2 e2 hv => hlo H2 (e.trans e2) _ fun H3 e3 => hhi H3 ((e.trans e2).trans e3) _ fun H4 e4 => by
    obtain ⟨a, vs, rfl, ha, r⟩ := hv
    have s := e3.trans e4
    exact ⟨a, vs, rfl, .inl (.inl (s _ _ ha)), fun p hp => q _ _ ((e2.trans s).trans (same_new hp)) ⟨p, _, rfl, ((e.trans e2).trans s).free hp, upd_same, Rps.mono (tx_of ((s).trans (same_new hp))) (rps_cut r lo hi)⟩⟩
theorem cutX_from {α : Type} {xs : List α} {i : Nat} : cutX xs (some (i : Int)) none = xs.drop i := by
  unfold cutX
  rw [HT.sIx_nat, HT.sIx_none]
  rcases Nat.lt_or_ge xs.length i with h | h
  · rw [Nat.min_eq_right (Nat.le_of_lt h), Nat.sub_self, List.take_zero, List.drop_eq_nil_of_le (Nat.le_of_lt h)]
  · rw [Nat.min_eq_left h, List.take_of_length_le (by rw [List.length_drop] <;> omega)]
theorem cutX_to {α : Type} {xs : List α} {i : Nat} : cutX xs none (some (i : Int)) = xs.take i := by
  unfold cutX
  rw [HT.sIx_nat, HT.sIx_none, List.drop_zero, Nat.sub_zero]
  rcases Nat.lt_or_ge xs.length i with h | h
  · rw [Nat.min_eq_right (Nat.le_of_lt h), List.take_of_length_le (Nat.le_refl _), List.take_of_length_le (Nat.le_of_lt h)]
  · rw [Nat.min_eq_left h]
/-! texts -/
theorem ev_join {z : Str} {ys : List Str} (ha : Ev ta σ H (R z)) (hb : Ev tb σ H (Ls ys)) (hl : (ys.map (·.length)).sum + ys.length * z.length ≤ 16777216) :
    Ev (tM1 (fun x xs H Q => ∃ a p, ∃ ys : List Str, x = .str a ∧ xs = [.ref p] ∧ (SqL K H p (ys.map V.str) ∨ SqT K H p (ys.map V.str)) ∧ (ys.map (·.length)).sum + ys.length * a.length ≤ 16777216 ∧ Q (.str (Txt.join a ys)) H) ta tb) σ H (R (Txt.join z ys)) := fun H1 e Q q =>
  ha H1 e _ fun v H2 e2 hv => ⟨⟨z, hv⟩, hb H2 (e.trans e2) _ fun w H3 e3 hw => by
    obtain ⟨a, vs, rfl, ha, r⟩ := hw
    rw [r.strs] at ha
    exact ⟨z, a, ys, hv, rfl, .inl (.inl (.inl ha)), hl, q _ H3 (e2.trans e3) rfl⟩⟩
theorem ev_fmtI {i : Int} (ha : Ev ta σ H (R i)) (hi : i.natAbs.log2 < 1920) : Ev (tFmt ta) σ H (R (toString i : Str)) := fun H1 e Q q =>
  ha H1 e _ fun v H2 e2 hv => .inr ⟨i, hv, hi, q _ H2 e2 rfl⟩
theorem ev_fmtS {z : Str} (ha : Ev ta σ H (R z)) (hz : z.length ≤ sizeLine) : Ev (tFmt ta) σ H (R z) := fun H1 e Q q =>
  ha H1 e _ fun v H2 e2 hv => .inl ⟨z, hv, hz, q _ H2 e2 rfl⟩
/-- the parts of an f-string -/
inductive EvJ (σ : L2.St) (H : Hp) : List TE → List Str → Prop where
  | nil : EvJ σ H [] []
  | cons {t : TE} {ts : List TE} {y : Str} {ys : List Str} (h : Ev t σ H (R y)) (r : EvJ σ H ts ys) : EvJ σ H (t :: ts) (y :: ys)
theorem tJs_go {σ : L2.St} {H : Hp} : ∀ {ts : List TE} {ys : List Str} (h : EvJ σ H ts ys) {acc : Str} {Q : Str → Hp → Prop} {H1 : Hp}, Same H H1 → acc.length + (ys.map (·.length)).sum ≤ sizeLine → (∀ H2, Same H1 H2 → Q (ys.foldl (· ++ ·) acc) H2) → tJs ts acc σ H1 Q
  | _, _, .nil, acc, Q, H1, e, hl, q => q H1 (Same.refl _)
  | _, _, .cons (y := y) (ys := ys) h r, acc, Q, H1, e, hl, q => h H1 e _ fun v H2 e2 hv => by
    have el : (acc ++ y).length = acc.length + y.length := PySem.Str.length_append acc y
    have hl : acc.length + (y.length + (ys.map (·.length)).sum) ≤ sizeLine := hl
    exact ⟨y, hv, by omega, tJs_go r (e.trans e2) (by omega) fun H3 e3 => q H3 (e2.trans e3)⟩
theorem ev_fstr {ts : List TE} {ys : List Str} (h : EvJ σ H ts ys) (hl : (ys.map (·.length)).sum ≤ sizeLine) : Ev (fun σ H Q => tJs ts Str.empty σ H fun out H1 => Q (.str out) H1) σ H (R (ys.foldl (· ++ ·) Str.empty)) := fun H1 e Q q =>
  tJs_go h e (by show 0 + _ ≤ _; omega) fun H2 e2 => q _ H2 e2 rfl
end

/-! ### typed comprehensions -/
section
variable {σ : L2.St} {H : Hp} {wi : TI} {tt : TT} {te : TE} {vs : List Nat} {β γ : Type} [Rep β] [Rep γ] {zs : List β} {j : Nat}
theorem ri_get {i : Nat} {v : V} {H : Hp} (d : β) (h : RI zs i v H) : Rep.rp H (zs.getD i d) v ∧ zs.getD i d ∈ zs := by
  obtain ⟨z, hz, hr⟩ := h
  rw [List.getD_eq_getElem?_getD, hz]
  exact ⟨hr, List.mem_of_getElem? hz⟩
theorem et_yes : EvT tYes σ H true := fun H1 _ Q q => q H1 (Same.refl _)
/-- [f(z) for z in ..] -/
theorem ev_lcm (f : β → γ) (d : β) (h : EvI wi σ H zs.length (RI zs)) (hl : zs.length ≤ sizeLine) (hw : ∀ x, wipe ((wipe σ vs).set j (some x)) vs = wipe σ vs)
    (he : ∀ z x H1, z ∈ zs → Same H H1 → Rep.rp H1 z x → Ev te ((wipe σ vs).set j (some x)) H1 (R (f z))) : Ev (tLc wi (gName j) tYes te vs) σ H (NLs H (zs.map f)) := by
  have := ev_lc (g := gName j) (tt := tYes) (te := te) (vs := vs) (fun _ => true) (fun i => f (zs.getD i d)) h hl (fun i x H1 e hi hx => by
    obtain ⟨h1, h2⟩ := ri_get d hx
    exact ⟨rfl, hw x, et_yes, fun _ => he _ x H1 h2 e h1⟩) mono_name
  rw [pick_map] at this
  exact this
/-- [f(z) for z in .. if b(z)] -/
theorem ev_lcf (b : β → Bool) (f : β → γ) (d : β) (h : EvI wi σ H zs.length (RI zs)) (hl : zs.length ≤ sizeLine) (hw : ∀ x, wipe ((wipe σ vs).set j (some x)) vs = wipe σ vs)
    (ht : ∀ z x H1, z ∈ zs → Same H H1 → Rep.rp H1 z x → EvT tt ((wipe σ vs).set j (some x)) H1 (b z))
    (he : ∀ z x H1, z ∈ zs → Same H H1 → Rep.rp H1 z x → b z = true → Ev te ((wipe σ vs).set j (some x)) H1 (R (f z))) : Ev (tLc wi (gName j) tt te vs) σ H (NLs H ((zs.filter b).map f)) := by
  have := ev_lc (g := gName j) (tt := tt) (te := te) (vs := vs) (fun i => b (zs.getD i d)) (fun i => f (zs.getD i d)) h hl (fun i x H1 e hi hx => by
    obtain ⟨h1, h2⟩ := ri_get d hx
    exact ⟨rfl, hw x, ht _ x H1 h2 e h1, fun hb => he _ x H1 h2 e h1 hb⟩) mono_name
  rw [pick_filter] at this
  exact this
end
section
variable {K : PySem.W.Frag} {σ : L2.St} {H : Hp} {wi : TI} {tt : TT} {te : TE} {vs : List Nat} {α β γ : Type} [Rep α] [Rep β] [Rep γ] {zs : List (α × β)} {i j : Nat}
/-- [f(a, b) for a, b in ..] -/
theorem ev_lc2m (f : α × β → γ) (d : α × β) (h : EvI wi σ H zs.length (RI zs)) (hl : zs.length ≤ sizeLine) (hw : ∀ x y, wipe (((wipe σ vs).set i (some x)).set j (some y)) vs = wipe σ vs)
    (he : ∀ z x y H1, z ∈ zs → Same H H1 → Rep.rp H1 z.1 x → Rep.rp H1 z.2 y → Ev te (((wipe σ vs).set i (some x)).set j (some y)) H1 (R (f z))) : Ev (tLc wi (gTup K 2 (gCons (gName i) (gCons (gName j) gNil))) tYes te vs) σ H (NLs H (zs.map f)) := by
  have := ev_lc (g := gTup K 2 (gCons (gName i) (gCons (gName j) gNil))) (tt := tYes) (te := te) (vs := vs) (fun _ => true) (fun i => f (zs.getD i d)) h hl (fun k x H1 e hi hx => by
    obtain ⟨h1, h2⟩ := ri_get d hx
    exact g_pair h1 fun x y hx hy => ⟨rfl, hw x y, et_yes, fun _ => he _ x y H1 h2 e hx hy⟩) mono_two
  rw [pick_map] at this
  exact this
end
end RW
set_option Elab.async false
set_option linter.all false
set_option maxRecDepth 100000
set_option maxHeartbeats 4000000
namespace RW
open PySem PySem.Spec PyProof.Rows L2
/-- the classes' addresses -/
abbrev CMachine (K : PySem.W.Frag) : Addr := He.ga K "Machine"
abbrev CChainForm (K : PySem.W.Frag) : Addr := He.ga K "ChainForm"
abbrev CPaper (K : PySem.W.Frag) : Addr := He.ga K "Paper"
abbrev CAnswer (K : PySem.W.Frag) : Addr := He.ga K "Answer"
abbrev CSearch (K : PySem.W.Frag) : Addr := He.ga K "Search"
/-- what the text's names stand for -/
structure Txt (K : PySem.W.Frag) (mg : Str → Option Value) : Prop where
  len : mg "len" = none
  range : mg "range" = none
  zip : mg "zip" = none
  tuple : mg "tuple" = none
  list : mg "list" = none
  set : mg "set" = none
  all : mg "all" = none
  enumerate : mg "enumerate" = none
  int : mg "int" = none
  str : mg "str" = none
  min : mg "min" = none
  MOST_CELLS : ∃ u, mg "MOST_CELLS" = some u ∧ RelV (.int 24) u
  MOST_VALUES : ∃ u, mg "MOST_VALUES" = some u ∧ RelV (.int 16) u
  MOST_DEEDS : ∃ u, mg "MOST_DEEDS" = some u ∧ RelV (.int 400) u
  LONGEST_NAME : ∃ u, mg "LONGEST_NAME" = some u ∧ RelV (.int 12) u
  FREE : ∃ u, mg "FREE" = some u ∧ RelV (.int 0) u
  LAST : ∃ u, mg "LAST" = some u ∧ RelV (.int 1) u
  LOWER : ∃ u, mg "LOWER" = some u ∧ RelV (.str "abcdefghijklmnopqrstuvwxyz") u
  DIGITS : ∃ u, mg "DIGITS" = some u ∧ RelV (.str "0123456789") u
  combinations : mg "combinations" = some (.type "itertools.combinations")
  product : mg "product" = some (.type "itertools.product")
  gMachine : mg "Machine" = some (.ref (CMachine K))
  cMachine : Cls K (CMachine K)
  kMachine : Mk K (CMachine K) (He.ma K (CMachine K) "__init__")
  nMachine_cells : NoAttr K (CMachine K) "cells"
  nMachine_deeds : NoAttr K (CMachine K) "deeds"
  nMachine_first : NoAttr K (CMachine K) "first"
  mMachine_check_deed : Meth K (CMachine K) "_check_deed" (He.ma K (CMachine K) "_check_deed")
  gChainForm : mg "ChainForm" = some (.ref (CChainForm K))
  cChainForm : Cls K (CChainForm K)
  kChainForm : Mk K (CChainForm K) (He.ma K (CChainForm K) "__init__")
  nChainForm_files : NoAttr K (CChainForm K) "files"
  nChainForm_blocks : NoAttr K (CChainForm K) "blocks"
  nChainForm_alphabet : NoAttr K (CChainForm K) "alphabet"
  nChainForm_longest : NoAttr K (CChainForm K) "longest"
  nChainForm_wiped : NoAttr K (CChainForm K) "wiped"
  mChainForm_link : Meth K (CChainForm K) "link" (He.ma K (CChainForm K) "link")
  mChainForm_data : Meth K (CChainForm K) "data" (He.ma K (CChainForm K) "data")
  mChainForm_live : Meth K (CChainForm K) "live" (He.ma K (CChainForm K) "live")
  mChainForm_gone : Meth K (CChainForm K) "gone" (He.ma K (CChainForm K) "gone")
  gPaper : mg "Paper" = some (.ref (CPaper K))
  cPaper : Cls K (CPaper K)
  kPaper : Mk K (CPaper K) (He.ma K (CPaper K) "__init__")
  nPaper_sketches : NoAttr K (CPaper K) "sketches"
  nPaper_cover : NoAttr K (CPaper K) "cover"
  nPaper_table : NoAttr K (CPaper K) "table"
  gAnswer : mg "Answer" = some (.ref (CAnswer K))
  cAnswer : Cls K (CAnswer K)
  kAnswer : Mk K (CAnswer K) (He.ma K (CAnswer K) "__init__")
  nAnswer_told : NoAttr K (CAnswer K) "told"
  nAnswer_paper : NoAttr K (CAnswer K) "paper"
  nAnswer_disk : NoAttr K (CAnswer K) "disk"
  nAnswer_deeds : NoAttr K (CAnswer K) "deeds"
  gSearch : mg "Search" = some (.ref (CSearch K))
  cSearch : Cls K (CSearch K)
  kSearch : Mk K (CSearch K) (He.ma K (CSearch K) "__init__")
  nSearch_machine : NoAttr K (CSearch K) "_machine"
  nSearch_piece : NoAttr K (CSearch K) "_piece"
  nSearch_packed : NoAttr K (CSearch K) "_packed"
  nSearch_sketches : NoAttr K (CSearch K) "sketches"
  nSearch_origins : NoAttr K (CSearch K) "origins"
  nSearch_found : NoAttr K (CSearch K) "found"
  mSearch_place : Meth K (CSearch K) "place" (He.ma K (CSearch K) "place")
  mSearch_places : Meth K (CSearch K) "places" (He.ma K (CSearch K) "places")
  mSearch_row : Meth K (CSearch K) "row" (He.ma K (CSearch K) "row")
  mSearch_history : Meth K (CSearch K) "history" (He.ma K (CSearch K) "history")
  pFull : PropOf K (CMachine K) "full" (He.ma K (CMachine K) "full") (getterOf K "Machine" "full")
section
variable {K : PySem.W.Frag} {h : Heap} {mg : Str → Option Value}
theorem saysA (c : SaysM K) : He5.SaysA fa fn K := congrArg (fun z : AlM => z.1) c
theorem exB_of (c : SaysM K) : exB K = true := congrArg (fun z : AlM => z.2) c
theorem mem_ok (c : SaysM K) {f : He.Fa} (hf : f ∈ fa) : f.ok K = true := by
  obtain ⟨i, hi, e⟩ := List.mem_iff_getElem.mp hf
  exact (saysA c).fact i (f := f) (by rw [List.getElem?_eq_getElem hi, e])
theorem i_ok (X : K.In h) (G : h.Ns mainGlobals mg) {x : Str} {i : Int} (c : (He.Fa.int x i).ok K = true) : ∃ u, mg x = some u ∧ RelV (.int i) u := by
  obtain ⟨t, e⟩ := He.int_ok X G c
  exact ⟨_, e, t, rfl⟩
theorem s_ok (X : K.In h) (G : h.Ns mainGlobals mg) {x z : Str} (c : (He.Fa.str x z).ok K = true) : ∃ u, mg x = some u ∧ RelV (.str z) u := by
  obtain ⟨t, e⟩ := He.str_ok X G c
  exact ⟨_, e, t, rfl⟩
theorem txt_of (X : K.In h) (G : h.Ns mainGlobals mg) (c : SaysM K) : Txt K mg := by
  obtain ⟨x1, x2⟩ := He.ba (exB_of c)
  obtain ⟨x2, x3⟩ := He.ba x2
  obtain ⟨x3, x4⟩ := He.ba x3
  obtain ⟨x4, x5⟩ := He.ba x4
  obtain ⟨x5, x6⟩ := He.ba x5
  exact {
    len := He.free_ok X G ((saysA c).fact 48 rfl)
    range := He.free_ok X G ((saysA c).fact 49 rfl)
    zip := He.free_ok X G ((saysA c).fact 50 rfl)
    tuple := He.free_ok X G ((saysA c).fact 51 rfl)
    list := He.free_ok X G ((saysA c).fact 52 rfl)
    set := He.free_ok X G ((saysA c).fact 53 rfl)
    all := He.free_ok X G ((saysA c).fact 54 rfl)
    enumerate := He.free_ok X G ((saysA c).fact 55 rfl)
    int := He.free_ok X G ((saysA c).fact 56 rfl)
    str := He.free_ok X G ((saysA c).fact 57 rfl)
    min := He.free_ok X G ((saysA c).fact 58 rfl)
    MOST_CELLS := i_ok X G ((saysA c).fact 59 rfl)
    MOST_VALUES := i_ok X G ((saysA c).fact 60 rfl)
    MOST_DEEDS := i_ok X G ((saysA c).fact 61 rfl)
    LONGEST_NAME := i_ok X G ((saysA c).fact 62 rfl)
    FREE := i_ok X G ((saysA c).fact 63 rfl)
    LAST := i_ok X G ((saysA c).fact 64 rfl)
    LOWER := s_ok X G ((saysA c).fact 65 rfl)
    DIGITS := s_ok X G ((saysA c).fact 66 rfl)
    combinations := PySem.W.mg_of X G (He.eqO_ok x1)
    product := PySem.W.mg_of X G (He.eqO_ok x2)
    gMachine := He.glo_ok X G ((saysA c).fact 67 rfl)
    cMachine := He.cls_ok ((saysA c).fact 68 rfl)
    kMachine := He.mkr_ok ((saysA c).fact 69 rfl)
    nMachine_cells := He.noat_ok ((saysA c).fact 70 rfl)
    nMachine_deeds := He.noat_ok ((saysA c).fact 71 rfl)
    nMachine_first := He.noat_ok ((saysA c).fact 72 rfl)
    mMachine_check_deed := He.meth_ok ((saysA c).fact 73 rfl)
    gChainForm := He.glo_ok X G ((saysA c).fact 74 rfl)
    cChainForm := He.cls_ok ((saysA c).fact 75 rfl)
    kChainForm := He.mkr_ok ((saysA c).fact 76 rfl)
    nChainForm_files := He.noat_ok ((saysA c).fact 77 rfl)
    nChainForm_blocks := He.noat_ok ((saysA c).fact 78 rfl)
    nChainForm_alphabet := He.noat_ok ((saysA c).fact 79 rfl)
    nChainForm_longest := He.noat_ok ((saysA c).fact 80 rfl)
    nChainForm_wiped := He.noat_ok ((saysA c).fact 81 rfl)
    mChainForm_link := He.meth_ok ((saysA c).fact 82 rfl)
    mChainForm_data := He.meth_ok ((saysA c).fact 83 rfl)
    mChainForm_live := He.meth_ok ((saysA c).fact 84 rfl)
    mChainForm_gone := He.meth_ok ((saysA c).fact 85 rfl)
    gPaper := He.glo_ok X G ((saysA c).fact 86 rfl)
    cPaper := He.cls_ok ((saysA c).fact 87 rfl)
    kPaper := He.mkr_ok ((saysA c).fact 88 rfl)
    nPaper_sketches := He.noat_ok ((saysA c).fact 89 rfl)
    nPaper_cover := He.noat_ok ((saysA c).fact 90 rfl)
    nPaper_table := He.noat_ok ((saysA c).fact 91 rfl)
    gAnswer := He.glo_ok X G ((saysA c).fact 92 rfl)
    cAnswer := He.cls_ok ((saysA c).fact 93 rfl)
    kAnswer := He.mkr_ok ((saysA c).fact 94 rfl)
    nAnswer_told := He.noat_ok ((saysA c).fact 95 rfl)
    nAnswer_paper := He.noat_ok ((saysA c).fact 96 rfl)
    nAnswer_disk := He.noat_ok ((saysA c).fact 97 rfl)
    nAnswer_deeds := He.noat_ok ((saysA c).fact 98 rfl)
    gSearch := He.glo_ok X G ((saysA c).fact 99 rfl)
    cSearch := He.cls_ok ((saysA c).fact 100 rfl)
    kSearch := He.mkr_ok ((saysA c).fact 101 rfl)
    nSearch_machine := He.noat_ok ((saysA c).fact 102 rfl)
    nSearch_piece := He.noat_ok ((saysA c).fact 103 rfl)
    nSearch_packed := He.noat_ok ((saysA c).fact 104 rfl)
    nSearch_sketches := He.noat_ok ((saysA c).fact 105 rfl)
    nSearch_origins := He.noat_ok ((saysA c).fact 106 rfl)
    nSearch_found := He.noat_ok ((saysA c).fact 107 rfl)
    mSearch_place := He.meth_ok ((saysA c).fact 108 rfl)
    mSearch_places := He.meth_ok ((saysA c).fact 109 rfl)
    mSearch_row := He.meth_ok ((saysA c).fact 110 rfl)
    mSearch_history := He.meth_ok ((saysA c).fact 111 rfl)
    pFull := ⟨He.eqO_ok x3, He.eqO_ok x4, of_decide_eq_true x5, by
      unfold getterOf
      cases e : PySem.W.recIn K (He.ma K (He.ga K "Machine") "full") "property" with
      | none =>
        rw [e] at x6
        cases x6
      | some l =>
        rw [e] at x6
        cases l with
        | nil => cases x6
        | cons v r =>
          cases v with
          | ref g => exact ⟨r, rfl⟩
          | _ => cases x6⟩ }
theorem g_is_name (X : K.In h) (G : h.Ns mainGlobals mg) (c : SaysM K) : mg "is_name" = some (.ref (He.ga K "is_name")) := He.glo_ok X G ((saysA c).fact 0 rfl)
theorem g_check_names (X : K.In h) (G : h.Ns mainGlobals mg) (c : SaysM K) : mg "_check_names" = some (.ref (He.ga K "_check_names")) := He.glo_ok X G ((saysA c).fact 1 rfl)
theorem g_is_mask (X : K.In h) (G : h.Ns mainGlobals mg) (c : SaysM K) : mg "is_mask" = some (.ref (He.ga K "is_mask")) := He.glo_ok X G ((saysA c).fact 2 rfl)
theorem g_check_order (X : K.In h) (G : h.Ns mainGlobals mg) (c : SaysM K) : mg "_check_order" = some (.ref (He.ga K "_check_order")) := He.glo_ok X G ((saysA c).fact 3 rfl)
theorem g_check_sketch (X : K.In h) (G : h.Ns mainGlobals mg) (c : SaysM K) : mg "check_sketch" = some (.ref (He.ga K "check_sketch")) := He.glo_ok X G ((saysA c).fact 4 rfl)
theorem g_digits (X : K.In h) (G : h.Ns mainGlobals mg) (c : SaysM K) : mg "digits" = some (.ref (He.ga K "digits")) := He.glo_ok X G ((saysA c).fact 5 rfl)
theorem g_block_tuples (X : K.In h) (G : h.Ns mainGlobals mg) (c : SaysM K) : mg "block_tuples" = some (.ref (He.ga K "block_tuples")) := He.glo_ok X G ((saysA c).fact 6 rfl)
theorem g_all_contents (X : K.In h) (G : h.Ns mainGlobals mg) (c : SaysM K) : mg "all_contents" = some (.ref (He.ga K "all_contents")) := He.glo_ok X G ((saysA c).fact 7 rfl)
theorem g_check_range (X : K.In h) (G : h.Ns mainGlobals mg) (c : SaysM K) : mg "check_range" = some (.ref (He.ga K "check_range")) := He.glo_ok X G ((saysA c).fact 8 rfl)
theorem g_check_count (X : K.In h) (G : h.Ns mainGlobals mg) (c : SaysM K) : mg "check_count" = some (.ref (He.ga K "check_count")) := He.glo_ok X G ((saysA c).fact 9 rfl)
theorem g_check_file (X : K.In h) (G : h.Ns mainGlobals mg) (c : SaysM K) : mg "check_file" = some (.ref (He.ga K "check_file")) := He.glo_ok X G ((saysA c).fact 10 rfl)
theorem g_check_contents (X : K.In h) (G : h.Ns mainGlobals mg) (c : SaysM K) : mg "check_contents" = some (.ref (He.ga K "check_contents")) := He.glo_ok X G ((saysA c).fact 11 rfl)
theorem g_one (X : K.In h) (G : h.Ns mainGlobals mg) (c : SaysM K) : mg "one" = some (.ref (He.ga K "one")) := He.glo_ok X G ((saysA c).fact 12 rfl)
theorem g_set_to (X : K.In h) (G : h.Ns mainGlobals mg) (c : SaysM K) : mg "set_to" = some (.ref (He.ga K "set_to")) := He.glo_ok X G ((saysA c).fact 13 rfl)
theorem g_links (X : K.In h) (G : h.Ns mainGlobals mg) (c : SaysM K) : mg "_links" = some (.ref (He.ga K "_links")) := He.glo_ok X G ((saysA c).fact 14 rfl)
theorem g_cells (X : K.In h) (G : h.Ns mainGlobals mg) (c : SaysM K) : mg "_cells" = some (.ref (He.ga K "_cells")) := He.glo_ok X G ((saysA c).fact 15 rfl)
theorem g_file_guard (X : K.In h) (G : h.Ns mainGlobals mg) (c : SaysM K) : mg "_file_guard" = some (.ref (He.ga K "_file_guard")) := He.glo_ok X G ((saysA c).fact 16 rfl)
theorem g_data_changes (X : K.In h) (G : h.Ns mainGlobals mg) (c : SaysM K) : mg "_data_changes" = some (.ref (He.ga K "_data_changes")) := He.glo_ok X G ((saysA c).fact 17 rfl)
theorem g_write_deed (X : K.In h) (G : h.Ns mainGlobals mg) (c : SaysM K) : mg "_write_deed" = some (.ref (He.ga K "_write_deed")) := He.glo_ok X G ((saysA c).fact 18 rfl)
theorem g_file_deeds (X : K.In h) (G : h.Ns mainGlobals mg) (c : SaysM K) : mg "_file_deeds" = some (.ref (He.ga K "_file_deeds")) := He.glo_ok X G ((saysA c).fact 19 rfl)
theorem g_chain_machine (X : K.In h) (G : h.Ns mainGlobals mg) (c : SaysM K) : mg "chain_machine" = some (.ref (He.ga K "chain_machine")) := He.glo_ok X G ((saysA c).fact 20 rfl)
theorem g_chain_piece (X : K.In h) (G : h.Ns mainGlobals mg) (c : SaysM K) : mg "chain_piece" = some (.ref (He.ga K "chain_piece")) := He.glo_ok X G ((saysA c).fact 21 rfl)
theorem g_sketch_before (X : K.In h) (G : h.Ns mainGlobals mg) (c : SaysM K) : mg "sketch_before" = some (.ref (He.ga K "sketch_before")) := He.glo_ok X G ((saysA c).fact 22 rfl)
theorem g_meet (X : K.In h) (G : h.Ns mainGlobals mg) (c : SaysM K) : mg "meet" = some (.ref (He.ga K "meet")) := He.glo_ok X G ((saysA c).fact 23 rfl)
theorem g_split (X : K.In h) (G : h.Ns mainGlobals mg) (c : SaysM K) : mg "_split" = some (.ref (He.ga K "_split")) := He.glo_ok X G ((saysA c).fact 24 rfl)
theorem g_without (X : K.In h) (G : h.Ns mainGlobals mg) (c : SaysM K) : mg "without" = some (.ref (He.ga K "without")) := He.glo_ok X G ((saysA c).fact 25 rfl)
theorem g_values_of (X : K.In h) (G : h.Ns mainGlobals mg) (c : SaysM K) : mg "values_of" = some (.ref (He.ga K "values_of")) := He.glo_ok X G ((saysA c).fact 26 rfl)
theorem g_least_disk (X : K.In h) (G : h.Ns mainGlobals mg) (c : SaysM K) : mg "least_disk" = some (.ref (He.ga K "least_disk")) := He.glo_ok X G ((saysA c).fact 27 rfl)
theorem g_check_question (X : K.In h) (G : h.Ns mainGlobals mg) (c : SaysM K) : mg "check_question" = some (.ref (He.ga K "check_question")) := He.glo_ok X G ((saysA c).fact 28 rfl)
theorem g_packed_sketch (X : K.In h) (G : h.Ns mainGlobals mg) (c : SaysM K) : mg "packed_sketch" = some (.ref (He.ga K "packed_sketch")) := He.glo_ok X G ((saysA c).fact 29 rfl)
theorem g_tell (X : K.In h) (G : h.Ns mainGlobals mg) (c : SaysM K) : mg "tell" = some (.ref (He.ga K "tell")) := He.glo_ok X G ((saysA c).fact 30 rfl)
theorem g_law_cell (X : K.In h) (G : h.Ns mainGlobals mg) (c : SaysM K) : mg "_law_cell" = some (.ref (He.ga K "_law_cell")) := He.glo_ok X G ((saysA c).fact 31 rfl)
theorem g_law_mix (X : K.In h) (G : h.Ns mainGlobals mg) (c : SaysM K) : mg "_law_mix" = some (.ref (He.ga K "_law_mix")) := He.glo_ok X G ((saysA c).fact 32 rfl)
theorem g_law_contents (X : K.In h) (G : h.Ns mainGlobals mg) (c : SaysM K) : mg "_law_contents" = some (.ref (He.ga K "_law_contents")) := He.glo_ok X G ((saysA c).fact 33 rfl)
theorem g_law_links (X : K.In h) (G : h.Ns mainGlobals mg) (c : SaysM K) : mg "_law_links" = some (.ref (He.ga K "_law_links")) := He.glo_ok X G ((saysA c).fact 34 rfl)
theorem g_law_blocks (X : K.In h) (G : h.Ns mainGlobals mg) (c : SaysM K) : mg "_law_blocks" = some (.ref (He.ga K "_law_blocks")) := He.glo_ok X G ((saysA c).fact 35 rfl)
theorem g_law_put (X : K.In h) (G : h.Ns mainGlobals mg) (c : SaysM K) : mg "_law_put" = some (.ref (He.ga K "_law_put")) := He.glo_ok X G ((saysA c).fact 36 rfl)
theorem g_law_do (X : K.In h) (G : h.Ns mainGlobals mg) (c : SaysM K) : mg "_law_do" = some (.ref (He.ga K "_law_do")) := He.glo_ok X G ((saysA c).fact 37 rfl)
theorem g_law_ways (X : K.In h) (G : h.Ns mainGlobals mg) (c : SaysM K) : mg "_law_ways" = some (.ref (He.ga K "_law_ways")) := He.glo_ok X G ((saysA c).fact 38 rfl)
theorem g_law_reached (X : K.In h) (G : h.Ns mainGlobals mg) (c : SaysM K) : mg "_law_reached" = some (.ref (He.ga K "_law_reached")) := He.glo_ok X G ((saysA c).fact 39 rfl)
theorem g_law_avoid (X : K.In h) (G : h.Ns mainGlobals mg) (c : SaysM K) : mg "_law_avoid" = some (.ref (He.ga K "_law_avoid")) := He.glo_ok X G ((saysA c).fact 40 rfl)
theorem g_law_fits (X : K.In h) (G : h.Ns mainGlobals mg) (c : SaysM K) : mg "_law_fits" = some (.ref (He.ga K "_law_fits")) := He.glo_ok X G ((saysA c).fact 41 rfl)
theorem g_law_spoil (X : K.In h) (G : h.Ns mainGlobals mg) (c : SaysM K) : mg "_law_spoil" = some (.ref (He.ga K "_law_spoil")) := He.glo_ok X G ((saysA c).fact 42 rfl)
theorem g_law_end (X : K.In h) (G : h.Ns mainGlobals mg) (c : SaysM K) : mg "_law_end" = some (.ref (He.ga K "_law_end")) := He.glo_ok X G ((saysA c).fact 43 rfl)
theorem g_law_live (X : K.In h) (G : h.Ns mainGlobals mg) (c : SaysM K) : mg "_law_live" = some (.ref (He.ga K "_law_live")) := He.glo_ok X G ((saysA c).fact 44 rfl)
theorem g_law_starts (X : K.In h) (G : h.Ns mainGlobals mg) (c : SaysM K) : mg "_law_starts" = some (.ref (He.ga K "_law_starts")) := He.glo_ok X G ((saysA c).fact 45 rfl)
theorem g_law_sizes (X : K.In h) (G : h.Ns mainGlobals mg) (c : SaysM K) : mg "_law_sizes" = some (.ref (He.ga K "_law_sizes")) := He.glo_ok X G ((saysA c).fact 46 rfl)
theorem g_law (X : K.In h) (G : h.Ns mainGlobals mg) (c : SaysM K) : mg "law" = some (.ref (He.ga K "law")) := He.glo_ok X G ((saysA c).fact 47 rfl)
theorem f_is_name (c : SaysM K) : ∃ fd, FunD K "is_name" "is_name" (defArgs s_is_name) (defBody s_is_name) (defScope s_is_name) [] [] (He.ga K "is_name") fd := (saysA c).def_ 0 (d := d_is_name) rfl
theorem f_check_names (c : SaysM K) : ∃ fd, FunD K "_check_names" "_check_names" (defArgs s_check_names) (defBody s_check_names) (defScope s_check_names) [] [] (He.ga K "_check_names") fd := (saysA c).def_ 1 (d := d_check_names) rfl
theorem f_is_mask (c : SaysM K) : ∃ fd, FunD K "is_mask" "is_mask" (defArgs s_is_mask) (defBody s_is_mask) (defScope s_is_mask) [] [] (He.ga K "is_mask") fd := (saysA c).def_ 2 (d := d_is_mask) rfl
theorem f_check_order (c : SaysM K) : ∃ fd, FunD K "_check_order" "_check_order" (defArgs s_check_order) (defBody s_check_order) (defScope s_check_order) [] [] (He.ga K "_check_order") fd := (saysA c).def_ 3 (d := d_check_order) rfl
theorem f_Machine_init (c : SaysM K) : ∃ fd, FunD K "__init__" "Machine.__init__" (defArgs s_Machine_init) (defBody s_Machine_init) (defScope s_Machine_init) [] [] (He.ma K (He.ga K "Machine") "__init__") fd := (saysA c).def_ 4 (d := d_Machine_init) rfl
theorem f_Machine_check_deed (c : SaysM K) : ∃ fd, FunD K "_check_deed" "Machine._check_deed" (defArgs s_Machine_check_deed) (defBody s_Machine_check_deed) (defScope s_Machine_check_deed) [] [] (He.ma K (He.ga K "Machine") "_check_deed") fd := (saysA c).def_ 5 (d := d_Machine_check_deed) rfl
theorem f_Machine_full (c : SaysM K) : ∃ fd, FunD K "full" "Machine.full" (defArgs s_Machine_full) (defBody s_Machine_full) (defScope s_Machine_full) [] [] (getterOf K "Machine" "full") fd := (saysA c).def_ 6 (d := d_Machine_full) rfl
theorem f_check_sketch (c : SaysM K) : ∃ fd, FunD K "check_sketch" "check_sketch" (defArgs s_check_sketch) (defBody s_check_sketch) (defScope s_check_sketch) [] [] (He.ga K "check_sketch") fd := (saysA c).def_ 7 (d := d_check_sketch) rfl
theorem f_digits (c : SaysM K) : ∃ fd, FunD K "digits" "digits" (defArgs s_digits) (defBody s_digits) (defScope s_digits) [] [] (He.ga K "digits") fd := (saysA c).def_ 8 (d := d_digits) rfl
theorem f_block_tuples (c : SaysM K) : ∃ fd, FunD K "block_tuples" "block_tuples" (defArgs s_block_tuples) (defBody s_block_tuples) (defScope s_block_tuples) [] [] (He.ga K "block_tuples") fd := (saysA c).def_ 9 (d := d_block_tuples) rfl
theorem f_all_contents (c : SaysM K) : ∃ fd, FunD K "all_contents" "all_contents" (defArgs s_all_contents) (defBody s_all_contents) (defScope s_all_contents) [] [] (He.ga K "all_contents") fd := (saysA c).def_ 10 (d := d_all_contents) rfl
theorem f_check_range (c : SaysM K) : ∃ fd, FunD K "check_range" "check_range" (defArgs s_check_range) (defBody s_check_range) (defScope s_check_range) [] [] (He.ga K "check_range") fd := (saysA c).def_ 11 (d := d_check_range) rfl
theorem f_check_count (c : SaysM K) : ∃ fd, FunD K "check_count" "check_count" (defArgs s_check_count) (defBody s_check_count) (defScope s_check_count) [] [] (He.ga K "check_count") fd := (saysA c).def_ 12 (d := d_check_count) rfl
theorem f_check_file (c : SaysM K) : ∃ fd, FunD K "check_file" "check_file" (defArgs s_check_file) (defBody s_check_file) (defScope s_check_file) [] [] (He.ga K "check_file") fd := (saysA c).def_ 13 (d := d_check_file) rfl
theorem f_check_contents (c : SaysM K) : ∃ fd, FunD K "check_contents" "check_contents" (defArgs s_check_contents) (defBody s_check_contents) (defScope s_check_contents) [] [] (He.ga K "check_contents") fd := (saysA c).def_ 14 (d := d_check_contents) rfl
theorem f_one (c : SaysM K) : ∃ fd, FunD K "one" "one" (defArgs s_one) (defBody s_one) (defScope s_one) [] [] (He.ga K "one") fd := (saysA c).def_ 15 (d := d_one) rfl
theorem f_set_to (c : SaysM K) : ∃ fd, FunD K "set_to" "set_to" (defArgs s_set_to) (defBody s_set_to) (defScope s_set_to) [] [] (He.ga K "set_to") fd := (saysA c).def_ 16 (d := d_set_to) rfl
theorem f_ChainForm_init (c : SaysM K) : ∃ fd, FunD K "__init__" "ChainForm.__init__" (defArgs s_ChainForm_init) (defBody s_ChainForm_init) (defScope s_ChainForm_init) [] [("wiped", V.bl true)] (He.ma K (He.ga K "ChainForm") "__init__") fd := (saysA c).def_ 17 (d := d_ChainForm_init) rfl
theorem f_ChainForm_link (c : SaysM K) : ∃ fd, FunD K "link" "ChainForm.link" (defArgs s_ChainForm_link) (defBody s_ChainForm_link) (defScope s_ChainForm_link) [] [] (He.ma K (He.ga K "ChainForm") "link") fd := (saysA c).def_ 18 (d := d_ChainForm_link) rfl
theorem f_ChainForm_data (c : SaysM K) : ∃ fd, FunD K "data" "ChainForm.data" (defArgs s_ChainForm_data) (defBody s_ChainForm_data) (defScope s_ChainForm_data) [] [] (He.ma K (He.ga K "ChainForm") "data") fd := (saysA c).def_ 19 (d := d_ChainForm_data) rfl
theorem f_ChainForm_live (c : SaysM K) : ∃ fd, FunD K "live" "ChainForm.live" (defArgs s_ChainForm_live) (defBody s_ChainForm_live) (defScope s_ChainForm_live) [] [] (He.ma K (He.ga K "ChainForm") "live") fd := (saysA c).def_ 20 (d := d_ChainForm_live) rfl
theorem f_ChainForm_gone (c : SaysM K) : ∃ fd, FunD K "gone" "ChainForm.gone" (defArgs s_ChainForm_gone) (defBody s_ChainForm_gone) (defScope s_ChainForm_gone) [] [] (He.ma K (He.ga K "ChainForm") "gone") fd := (saysA c).def_ 21 (d := d_ChainForm_gone) rfl
theorem f_links (c : SaysM K) : ∃ fd, FunD K "_links" "_links" (defArgs s_links) (defBody s_links) (defScope s_links) [] [] (He.ga K "_links") fd := (saysA c).def_ 22 (d := d_links) rfl
theorem f_cells (c : SaysM K) : ∃ fd, FunD K "_cells" "_cells" (defArgs s_cells) (defBody s_cells) (defScope s_cells) [] [] (He.ga K "_cells") fd := (saysA c).def_ 23 (d := d_cells) rfl
theorem f_file_guard (c : SaysM K) : ∃ fd, FunD K "_file_guard" "_file_guard" (defArgs s_file_guard) (defBody s_file_guard) (defScope s_file_guard) [] [] (He.ga K "_file_guard") fd := (saysA c).def_ 24 (d := d_file_guard) rfl
theorem f_data_changes (c : SaysM K) : ∃ fd, FunD K "_data_changes" "_data_changes" (defArgs s_data_changes) (defBody s_data_changes) (defScope s_data_changes) [] [] (He.ga K "_data_changes") fd := (saysA c).def_ 25 (d := d_data_changes) rfl
theorem f_write_deed (c : SaysM K) : ∃ fd, FunD K "_write_deed" "_write_deed" (defArgs s_write_deed) (defBody s_write_deed) (defScope s_write_deed) [] [] (He.ga K "_write_deed") fd := (saysA c).def_ 26 (d := d_write_deed) rfl
theorem f_file_deeds (c : SaysM K) : ∃ fd, FunD K "_file_deeds" "_file_deeds" (defArgs s_file_deeds) (defBody s_file_deeds) (defScope s_file_deeds) [] [] (He.ga K "_file_deeds") fd := (saysA c).def_ 27 (d := d_file_deeds) rfl
theorem f_chain_machine (c : SaysM K) : ∃ fd, FunD K "chain_machine" "chain_machine" (defArgs s_chain_machine) (defBody s_chain_machine) (defScope s_chain_machine) [] [] (He.ga K "chain_machine") fd := (saysA c).def_ 28 (d := d_chain_machine) rfl
theorem f_chain_piece (c : SaysM K) : ∃ fd, FunD K "chain_piece" "chain_piece" (defArgs s_chain_piece) (defBody s_chain_piece) (defScope s_chain_piece) [] [] (He.ga K "chain_piece") fd := (saysA c).def_ 29 (d := d_chain_piece) rfl
theorem f_sketch_before (c : SaysM K) : ∃ fd, FunD K "sketch_before" "sketch_before" (defArgs s_sketch_before) (defBody s_sketch_before) (defScope s_sketch_before) [] [] (He.ga K "sketch_before") fd := (saysA c).def_ 30 (d := d_sketch_before) rfl
theorem f_meet (c : SaysM K) : ∃ fd, FunD K "meet" "meet" (defArgs s_meet) (defBody s_meet) (defScope s_meet) [] [] (He.ga K "meet") fd := (saysA c).def_ 31 (d := d_meet) rfl
theorem f_split (c : SaysM K) : ∃ fd, FunD K "_split" "_split" (defArgs s_split) (defBody s_split) (defScope s_split) [] [] (He.ga K "_split") fd := (saysA c).def_ 32 (d := d_split) rfl
theorem f_without (c : SaysM K) : ∃ fd, FunD K "without" "without" (defArgs s_without) (defBody s_without) (defScope s_without) [] [] (He.ga K "without") fd := (saysA c).def_ 33 (d := d_without) rfl
theorem f_values_of (c : SaysM K) : ∃ fd, FunD K "values_of" "values_of" (defArgs s_values_of) (defBody s_values_of) (defScope s_values_of) [] [] (He.ga K "values_of") fd := (saysA c).def_ 34 (d := d_values_of) rfl
theorem f_least_disk (c : SaysM K) : ∃ fd, FunD K "least_disk" "least_disk" (defArgs s_least_disk) (defBody s_least_disk) (defScope s_least_disk) [] [] (He.ga K "least_disk") fd := (saysA c).def_ 35 (d := d_least_disk) rfl
theorem f_Paper_init (c : SaysM K) : ∃ fd, FunD K "__init__" "Paper.__init__" (defArgs s_Paper_init) (defBody s_Paper_init) (defScope s_Paper_init) [] [] (He.ma K (He.ga K "Paper") "__init__") fd := (saysA c).def_ 36 (d := d_Paper_init) rfl
theorem f_Answer_init (c : SaysM K) : ∃ fd, FunD K "__init__" "Answer.__init__" (defArgs s_Answer_init) (defBody s_Answer_init) (defScope s_Answer_init) [] [] (He.ma K (He.ga K "Answer") "__init__") fd := (saysA c).def_ 37 (d := d_Answer_init) rfl
theorem f_check_question (c : SaysM K) : ∃ fd, FunD K "check_question" "check_question" (defArgs s_check_question) (defBody s_check_question) (defScope s_check_question) [] [] (He.ga K "check_question") fd := (saysA c).def_ 38 (d := d_check_question) rfl
theorem f_packed_sketch (c : SaysM K) : ∃ fd, FunD K "packed_sketch" "packed_sketch" (defArgs s_packed_sketch) (defBody s_packed_sketch) (defScope s_packed_sketch) [] [] (He.ga K "packed_sketch") fd := (saysA c).def_ 39 (d := d_packed_sketch) rfl
theorem f_Search_init (c : SaysM K) : ∃ fd, FunD K "__init__" "Search.__init__" (defArgs s_Search_init) (defBody s_Search_init) (defScope s_Search_init) [] [] (He.ma K (He.ga K "Search") "__init__") fd := (saysA c).def_ 40 (d := d_Search_init) rfl
theorem f_Search_place (c : SaysM K) : ∃ fd, FunD K "place" "Search.place" (defArgs s_Search_place) (defBody s_Search_place) (defScope s_Search_place) [] [] (He.ma K (He.ga K "Search") "place") fd := (saysA c).def_ 41 (d := d_Search_place) rfl
theorem f_Search_places (c : SaysM K) : ∃ fd, FunD K "places" "Search.places" (defArgs s_Search_places) (defBody s_Search_places) (defScope s_Search_places) [] [] (He.ma K (He.ga K "Search") "places") fd := (saysA c).def_ 42 (d := d_Search_places) rfl
theorem f_Search_row (c : SaysM K) : ∃ fd, FunD K "row" "Search.row" (defArgs s_Search_row) (defBody s_Search_row) (defScope s_Search_row) [] [] (He.ma K (He.ga K "Search") "row") fd := (saysA c).def_ 43 (d := d_Search_row) rfl
theorem f_Search_history (c : SaysM K) : ∃ fd, FunD K "history" "Search.history" (defArgs s_Search_history) (defBody s_Search_history) (defScope s_Search_history) [] [] (He.ma K (He.ga K "Search") "history") fd := (saysA c).def_ 44 (d := d_Search_history) rfl
theorem f_tell (c : SaysM K) : ∃ fd, FunD K "tell" "tell" (defArgs s_tell) (defBody s_tell) (defScope s_tell) [] [] (He.ga K "tell") fd := (saysA c).def_ 45 (d := d_tell) rfl
theorem f_law_cell (c : SaysM K) : ∃ fd, FunD K "_law_cell" "_law_cell" (defArgs s_law_cell) (defBody s_law_cell) (defScope s_law_cell) [] [] (He.ga K "_law_cell") fd := (saysA c).def_ 46 (d := d_law_cell) rfl
theorem f_law_mix (c : SaysM K) : ∃ fd, FunD K "_law_mix" "_law_mix" (defArgs s_law_mix) (defBody s_law_mix) (defScope s_law_mix) [] [] (He.ga K "_law_mix") fd := (saysA c).def_ 47 (d := d_law_mix) rfl
theorem f_law_contents (c : SaysM K) : ∃ fd, FunD K "_law_contents" "_law_contents" (defArgs s_law_contents) (defBody s_law_contents) (defScope s_law_contents) [] [] (He.ga K "_law_contents") fd := (saysA c).def_ 48 (d := d_law_contents) rfl
theorem f_law_links (c : SaysM K) : ∃ fd, FunD K "_law_links" "_law_links" (defArgs s_law_links) (defBody s_law_links) (defScope s_law_links) [] [] (He.ga K "_law_links") fd := (saysA c).def_ 49 (d := d_law_links) rfl
theorem f_law_blocks (c : SaysM K) : ∃ fd, FunD K "_law_blocks" "_law_blocks" (defArgs s_law_blocks) (defBody s_law_blocks) (defScope s_law_blocks) [] [] (He.ga K "_law_blocks") fd := (saysA c).def_ 50 (d := d_law_blocks) rfl
theorem f_law_put (c : SaysM K) : ∃ fd, FunD K "_law_put" "_law_put" (defArgs s_law_put) (defBody s_law_put) (defScope s_law_put) [] [] (He.ga K "_law_put") fd := (saysA c).def_ 51 (d := d_law_put) rfl
theorem f_law_do (c : SaysM K) : ∃ fd, FunD K "_law_do" "_law_do" (defArgs s_law_do) (defBody s_law_do) (defScope s_law_do) [] [] (He.ga K "_law_do") fd := (saysA c).def_ 52 (d := d_law_do) rfl
theorem f_law_ways (c : SaysM K) : ∃ fd, FunD K "_law_ways" "_law_ways" (defArgs s_law_ways) (defBody s_law_ways) (defScope s_law_ways) [] [] (He.ga K "_law_ways") fd := (saysA c).def_ 53 (d := d_law_ways) rfl
theorem f_law_reached (c : SaysM K) : ∃ fd, FunD K "_law_reached" "_law_reached" (defArgs s_law_reached) (defBody s_law_reached) (defScope s_law_reached) [] [] (He.ga K "_law_reached") fd := (saysA c).def_ 54 (d := d_law_reached) rfl
theorem f_law_avoid (c : SaysM K) : ∃ fd, FunD K "_law_avoid" "_law_avoid" (defArgs s_law_avoid) (defBody s_law_avoid) (defScope s_law_avoid) [] [] (He.ga K "_law_avoid") fd := (saysA c).def_ 55 (d := d_law_avoid) rfl
theorem f_law_fits (c : SaysM K) : ∃ fd, FunD K "_law_fits" "_law_fits" (defArgs s_law_fits) (defBody s_law_fits) (defScope s_law_fits) [] [] (He.ga K "_law_fits") fd := (saysA c).def_ 56 (d := d_law_fits) rfl
theorem f_law_spoil (c : SaysM K) : ∃ fd, FunD K "_law_spoil" "_law_spoil" (defArgs s_law_spoil) (defBody s_law_spoil) (defScope s_law_spoil) [] [] (He.ga K "_law_spoil") fd := (saysA c).def_ 57 (d := d_law_spoil) rfl
theorem f_law_end (c : SaysM K) : ∃ fd, FunD K "_law_end" "_law_end" (defArgs s_law_end) (defBody s_law_end) (defScope s_law_end) [] [] (He.ga K "_law_end") fd := (saysA c).def_ 58 (d := d_law_end) rfl
theorem f_law_live (c : SaysM K) : ∃ fd, FunD K "_law_live" "_law_live" (defArgs s_law_live) (defBody s_law_live) (defScope s_law_live) [] [] (He.ga K "_law_live") fd := (saysA c).def_ 59 (d := d_law_live) rfl
theorem f_law_starts (c : SaysM K) : ∃ fd, FunD K "_law_starts" "_law_starts" (defArgs s_law_starts) (defBody s_law_starts) (defScope s_law_starts) [] [] (He.ga K "_law_starts") fd := (saysA c).def_ 60 (d := d_law_starts) rfl
theorem f_law_sizes (c : SaysM K) : ∃ fd, FunD K "_law_sizes" "_law_sizes" (defArgs s_law_sizes) (defBody s_law_sizes) (defScope s_law_sizes) [] [] (He.ga K "_law_sizes") fd := (saysA c).def_ 61 (d := d_law_sizes) rfl
theorem f_law (c : SaysM K) : ∃ fd, FunD K "law" "law" (defArgs s_law) (defBody s_law) (defScope s_law) [] [] (He.ga K "law") fd := (saysA c).def_ 62 (d := d_law) rfl
end
end RW
set_option Elab.async false
set_option linter.all false
set_option maxRecDepth 100000
set_option maxHeartbeats 4000000
namespace RW
open PySem PySem.Spec PyProof.Rows L2
local macro_rules | `(tactic| walk_at "sm") => `(tactic| first
  | exact Same.refl _
  | assumption
  | exact same_new (by assumption)
  | (refine Same.trans ?_ (by assumption); walk_at "sm")
  | (refine Same.trans ?_ (same_new (by assumption)); walk_at "sm"))
local macro_rules | `(tactic| walk_at "rp") => `(tactic| first
  | assumption
  | exact rfl
  | (refine Rep.mono (tx_of ?_) (by assumption); walk_at "sm")
  | (refine Mo.mo ?_ (by assumption); walk_at "sm"))
local macro_rules | `(tactic| walk_at "ev") => `(tactic| first
  | exact ev_ci
  | exact ev_cs
  | exact ev_cb
  | exact ev_cn
  | (refine @ev_rv _ _ _ _ _ _ _ rfl ?_; walk_at "rp")
  | (refine @ev_var _ _ _ _ _ ?_ rfl ?_; (first | infer_instance | skip); walk_at "rp")
  | (refine ev_ii ?_ ?_ <;> walk_at "ev")
  | (refine ev_ib ?_ ?_ <;> walk_at "ev")
  | (refine ev_eqI ?_ ?_ <;> walk_at "ev")
  | (refine ev_neI ?_ ?_ <;> walk_at "ev")
  | (refine ev_lenT ?_ <;> walk_at "ev")
  | (refine ev_lenL ?_ <;> walk_at "ev")
  | (refine ev_int1 ?_ <;> walk_at "ev")
  | (refine et_test ?_ <;> walk_at "ev")
  | (refine et_B ?_ <;> walk_at "ev")
  | (refine et_not ?_ <;> walk_at "ev")
  | (refine et_or ?_ (fun _ => ?_) <;> walk_at "ev")
  | (refine et_and ?_ (fun _ => ?_) <;> walk_at "ev"))
/-! forms -/
structure Form where
  files : Int
  blocks : Int
  alphabet : Int
  longest : Int
  wiped : Bool
  deriving DecidableEq
abbrev FormS (K : PySem.W.Frag) (F : Form) : Srt := Ins (CChainForm K) [("files", R F.files), ("blocks", R F.blocks), ("alphabet", R F.alphabet), ("longest", R F.longest), ("wiped", R F.wiped)]
theorem ev_fldN {K : PySem.W.Frag} {σ : L2.St} {H : Hp} {ta : TE} {C : Addr} {f : Str} {φ : Srt} {fs : List (Str × Srt)} (names : List Str) (i : Nat) (h : Ev ta σ H (Ins C fs)) (c : Cls K C) (n : NoAttr K C f) (hn : fs.map (·.1) = names) (h1 : names.idxOf? f = some i) (h2 : (fs.map (·.2))[i]? = some φ) : Ev (tFld K ta f) σ H φ :=
  ev_fld i h c n (by rw [hn]; exact h1) h2
section
variable {K : PySem.W.Frag} {mg : Str → Option Value} {σ : L2.St} {H : Hp} {ta : TE} {F : Form}
theorem ev_files (T : Txt K mg) (h : Ev ta σ H (FormS K F)) : Ev (tFld K ta "files") σ H (R F.files) := ev_fldN ["files", "blocks", "alphabet", "longest", "wiped"] 0 h T.cChainForm T.nChainForm_files rfl (by decide +kernel) rfl
theorem ev_blocks (T : Txt K mg) (h : Ev ta σ H (FormS K F)) : Ev (tFld K ta "blocks") σ H (R F.blocks) := ev_fldN ["files", "blocks", "alphabet", "longest", "wiped"] 1 h T.cChainForm T.nChainForm_blocks rfl (by decide +kernel) rfl
theorem ev_alphabet (T : Txt K mg) (h : Ev ta σ H (FormS K F)) : Ev (tFld K ta "alphabet") σ H (R F.alphabet) := ev_fldN ["files", "blocks", "alphabet", "longest", "wiped"] 2 h T.cChainForm T.nChainForm_alphabet rfl (by decide +kernel) rfl
theorem ev_longest (T : Txt K mg) (h : Ev ta σ H (FormS K F)) : Ev (tFld K ta "longest") σ H (R F.longest) := ev_fldN ["files", "blocks", "alphabet", "longest", "wiped"] 3 h T.cChainForm T.nChainForm_longest rfl (by decide +kernel) rfl
theorem ev_wiped (T : Txt K mg) (h : Ev ta σ H (FormS K F)) : Ev (tFld K ta "wiped") σ H (R F.wiped) := ev_fldN ["files", "blocks", "alphabet", "longest", "wiped"] 4 h T.cChainForm T.nChainForm_wiped rfl (by decide +kernel) rfl
end
abbrev bd0 (h : True) : True := h
section
variable {P : Program} {w : World} {K : PySem.W.Frag} {mg : Str → Option Value} {base : Heap}

/-! is_mask -/
abbrev N_is_mask : List Str := ["mask", "size"]
theorem sc_is_mask : FnScope N_is_mask ["mask", "size"] (defScope s_is_mask) := ⟨rfl, rfl, rfl, by decide +kernel, rfl, by decide +kernel, by decide +kernel⟩
def isMaskI (m s : Int) : Bool := decide (0 < m) && decide (m < 1 * 2 ^ s.toNat)
abbrev sp_is_mask : Sp := Pp (fun g : Int × Int => [R g.1, R g.2]) (fun g => 0 ≤ g.2 ∧ g.2 ≤ 1000) (fun g => R (isMaskI g.1 g.2))
theorem ok_is_mask {f : Addr} {fd : FuncData} (F : FunD K "is_mask" "is_mask" (defArgs s_is_mask) (defBody s_is_mask) (defScope s_is_mask) [] [] f fd) (hm : mg "is_mask" = some (.ref f)) : C8.Cal P w K mg base 1 "is_mask" sp_is_mask [] := by
  refine cal_of F hm sc_is_mask (fun _ _ _ _ _ _ us hl => match us, hl with | [_, _], _ => rfl) (fun vs H Q E ⟨g, h, _⟩ => fas_len h) (fun cdv A outer s H vs Q E hr h => ?_)
  obtain ⟨⟨m, z⟩, h, hp, q⟩ := h
  obtain ⟨a, b, rfl, h1, h2⟩ := fas2 h
  refine ⟨_, (pss_one (ps_ret (pe_chain op_lt op_lt pe_int (pv 0) (pe_op op_shl pe_int (pv 1))))), ?_⟩
  refine s_ret (ev_chain ev_ci (ev_rv rfl h1) fun _ => ev_iiC ev_ci (ev_rv rfl h2) ⟨hp.1, by have := hp.2; omega, by decide⟩) fun v H1 e hv => q v H1 e hv

/-! one, set_to -/
abbrev N_one : List Str := ["value"]
theorem sc_one : FnScope N_one ["value"] (defScope s_one) := ⟨rfl, rfl, rfl, by decide +kernel, rfl, by decide +kernel, by decide +kernel⟩
abbrev sp_one : Sp := Pp (fun g : Int => [R g]) (fun g => 0 ≤ g ∧ g ≤ 1000) (fun g => R ((2 : Int) ^ g.toNat))
theorem ok_one {f : Addr} {fd : FuncData} (F : FunD K "one" "one" (defArgs s_one) (defBody s_one) (defScope s_one) [] [] f fd) (hm : mg "one" = some (.ref f)) : C8.Cal P w K mg base 1 "one" sp_one [] := by
  refine cal_of F hm sc_one (fun _ _ _ _ _ _ us hl => match us, hl with | [_], _ => rfl) (fun vs H Q E ⟨g, h, _⟩ => fas_len h) (fun cdv A outer s H vs Q E hr h => ?_)
  obtain ⟨m, h, hp, q⟩ := h
  obtain ⟨a, rfl, h1⟩ := fas1 h
  refine ⟨_, (pss_one (ps_ret (pe_op op_shl pe_int (pv 0)))), ?_⟩
  exact s_ret ((ev_iiC ev_ci (ev_rv rfl h1) ⟨hp.1, by have := hp.2; omega, by decide⟩).to (Int.one_mul _)) fun v H1 e hv => q v H1 e hv
abbrev N_set_to : List Str := ["cell", "value"]
theorem sc_set_to : FnScope N_set_to ["cell", "value"] (defScope s_set_to) := ⟨rfl, rfl, rfl, by decide +kernel, rfl, by decide +kernel, by decide +kernel⟩
abbrev sp_set_to : Sp := Pp (fun g : Int × Int => [R g.1, R g.2]) (fun g => True) (fun g => R (g.1, (("set" : Str), g.2)))
theorem ok_set_to {f : Addr} {fd : FuncData} (F : FunD K "set_to" "set_to" (defArgs s_set_to) (defBody s_set_to) (defScope s_set_to) [] [] f fd) (hm : mg "set_to" = some (.ref f)) : C8.Cal P w K mg base 1 "set_to" sp_set_to [] := by
  refine cal_of F hm sc_set_to (fun _ _ _ _ _ _ us hl => match us, hl with | [_, _], _ => rfl) (fun vs H Q E ⟨g, h, _⟩ => fas_len h) (fun cdv A outer s H vs Q E hr h => ?_)
  obtain ⟨⟨m, z⟩, h, hp, q⟩ := h
  obtain ⟨a, b, rfl, h1, h2⟩ := fas2 h
  refine ⟨_, (pss_one (ps_ret (pe_tup (pa_cons (pv 0) (pa_cons (pe_tup (pa_cons pe_str (pa_cons (pv 1) pa_nil))) pa_nil))))), ?_⟩
  exact s_ret (ev_pair (ev_rv rfl h1) (ev_pair ev_cs (ev_rv rfl h2))) fun v H1 e hv => q v H1 e hv

/-! check_range -/
abbrev N_check_range : List Str := ["number", "least", "greatest"]
theorem sc_check_range : FnScope N_check_range ["number", "least", "greatest"] (defScope s_check_range) := ⟨rfl, rfl, rfl, by decide +kernel, rfl, by decide +kernel, by decide +kernel⟩
abbrev sp_check_range : Sp := Pp (fun g : T3 Int Int Int => [R g.a, R g.b, R g.c]) (fun g => g.b ≤ g.a ∧ g.a ≤ g.c) (fun g => R ())
theorem ok_check_range {f : Addr} {fd : FuncData} (F : FunD K "check_range" "check_range" (defArgs s_check_range) (defBody s_check_range) (defScope s_check_range) [] [] f fd) (hm : mg "check_range" = some (.ref f)) : C8.Cal P w K mg base 1 "check_range" sp_check_range [] := by
  refine cal_of F hm sc_check_range (fun _ _ _ _ _ _ us hl => match us, hl with | [_, _, _], _ => rfl) (fun vs H Q E ⟨g, h, _⟩ => fas_len h) (fun cdv A outer s H vs Q E hr h => ?_)
  obtain ⟨⟨x, y, z⟩, h, hp, q⟩ := h
  obtain ⟨a, b, c, rfl, h1, h2, h3⟩ := fas3 h
  refine ⟨_, (pss_one (ps_if (PW.pt (pw_or (pt_cmpR op_lt (pv 0) (pv 1) (nomark _)) (pw_or1 (pt_cmpR op_gt (pv 0) (pv 2) (nomark _))))) pss_never pss_nil)), ?_⟩
  refine s_guard (b := decide (x < y) || decide (z < x)) (by walk_at "ev") ?_ fun H1 e => q _ H1 e rfl
  have e1 : ¬ x < y := by have := hp.1; exact Int.not_lt.mpr this
  have e2 : ¬ z < x := by have := hp.2; exact Int.not_lt.mpr this
  rw [decide_eq_false e1, decide_eq_false e2] <;> rfl
/-! check_count -/
abbrev N_check_count : List Str := ["count"]
theorem sc_check_count : FnScope N_check_count ["count"] (defScope s_check_count) := ⟨rfl, rfl, rfl, by decide +kernel, rfl, by decide +kernel, by decide +kernel⟩
abbrev sp_check_count : Sp := Pp (fun g : Int => [R g]) (fun g => g ≤ 400) (fun g => R ())
theorem ok_check_count {f : Addr} {fd : FuncData} (T : Txt K mg) (F : FunD K "check_count" "check_count" (defArgs s_check_count) (defBody s_check_count) (defScope s_check_count) [] [] f fd) (hm : mg "check_count" = some (.ref f)) : C8.Cal P w K mg base 1 "check_count" sp_check_count [] := by
  refine cal_of F hm sc_check_count (fun _ _ _ _ _ _ us hl => match us, hl with | [_], _ => rfl) (fun vs H Q E ⟨g, h, _⟩ => fas_len h) (fun cdv A outer s H vs Q E hr h => ?_)
  obtain ⟨x, h, hp, q⟩ := h
  obtain ⟨a, rfl, h1⟩ := fas1 h
  refine ⟨_, (pss_one (ps_if (pt_cmpR op_gt (pv 0) (C8.pe_gc (by rfl) T.MOST_DEEDS) (nomark _)) pss_never pss_nil)), ?_⟩
  refine s_guard (b := decide (400 < x)) (et_test (ev_ib (ev_rv rfl h1) ev_ci)) ?_ fun H1 e => q _ H1 e rfl
  have e1 : ¬ 400 < x := Int.not_lt.mpr hp
  rw [decide_eq_false e1]
end
end RW
set_option Elab.async false
set_option linter.all false
set_option maxRecDepth 100000
set_option maxHeartbeats 4000000
namespace RW
open PySem PySem.Spec PyProof.Rows L2
local macro_rules | `(tactic| walk_at "sm") => `(tactic| first
  | exact Same.refl _
  | assumption
  | exact same_new (by assumption)
  | (refine Same.trans ?_ (by assumption); walk_at "sm")
  | (refine Same.trans ?_ (same_new (by assumption)); walk_at "sm"))
local macro_rules | `(tactic| walk_at "rp") => `(tactic| first
  | assumption
  | exact rfl
  | (refine Rep.mono (tx_of ?_) (by assumption); walk_at "sm")
  | (refine Mo.mo ?_ (by assumption); walk_at "sm"))
local macro_rules | `(tactic| walk_at "ev") => `(tactic| first
  | exact ev_ci
  | exact ev_cs
  | exact ev_cb
  | exact ev_cn
  | (refine @ev_rv _ _ _ _ _ _ _ rfl ?_; walk_at "rp")
  | (refine @ev_var _ _ _ _ _ ?_ rfl ?_; (first | infer_instance | skip); walk_at "rp")
  | (refine ev_ii ?_ ?_ <;> walk_at "ev")
  | (refine ev_ib ?_ ?_ <;> walk_at "ev")
  | (refine ev_eqI ?_ ?_ <;> walk_at "ev")
  | (refine ev_neI ?_ ?_ <;> walk_at "ev")
  | (refine ev_lenT ?_ <;> walk_at "ev")
  | (refine ev_lenL ?_ <;> walk_at "ev")
  | (refine ev_int1 ?_ <;> walk_at "ev")
  | (refine et_test ?_ <;> walk_at "ev")
  | (refine et_B ?_ <;> walk_at "ev")
  | (refine et_not ?_ <;> walk_at "ev")
  | (refine et_or ?_ (fun _ => ?_) <;> walk_at "ev")
  | (refine et_and ?_ (fun _ => ?_) <;> walk_at "ev"))
/-! methods, classes -/
class MoA (φs : List Srt) : Prop where
  mo : ∀ {vs : List V} {H H' : Hp}, Same H H' → Fas φs vs H → Fas φs vs H'
instance : MoA [] := ⟨fun _ h => h⟩
instance {φ : Srt} {φs : List Srt} [Mo φ] [MoA φs] : MoA (φ :: φs) := ⟨fun e ⟨v, r, e1, h1, h2⟩ => ⟨v, r, e1, Mo.mo e h1, MoA.mo e h2⟩⟩
/-- all but what stands at x stays -/
def Off (x : Addr) (H H' : Hp) : Prop := ∀ b o, b ≠ x → H b = some o → H' b = some o
theorem Off.refl (x : Addr) (H : Hp) : Off x H H := fun _ _ _ h => h
theorem Off.trans {x : Addr} {H H1 H2 : Hp} (a : Off x H H1) (b : Off x H1 H2) : Off x H H2 := fun c o n h => b c o n (a c o n h)
theorem Off.of {x : Addr} {H H' : Hp} (e : Same H H') : Off x H H' := fun b o _ h => e b o h
theorem Off.upd {x : Addr} {H : Hp} {o : HO} : Off x H (upd H x o) := fun b u n h => by
  rw [upd_ne n]
  exact h
/-- __init__: makes an instance with attributes of these sorts -/
def Pi {γ : Type} (C : Addr) (φs : γ → List Srt) (pre : γ → Prop) (fs : γ → List (Str × Srt)) : Sp := fun vs H Q _ => ∃ g x dx rest, vs = .ref x :: rest ∧ H x = some (.ins C dx []) ∧ Fas (φs g) rest H ∧ pre g ∧
  ∀ H', Off x H H' → (∃ dx' ws, H' x = some (.ins C dx' ws) ∧ FasN (fs g) ws H') → Q .non H'
theorem pi_len {γ : Type} {C : Addr} {φs : γ → List Srt} {pre : γ → Prop} {fs : γ → List (Str × Srt)} {n : Nat} (hn : ∀ g, (φs g).length = n) (vs : List V) (H : Hp) (Q : VK) (E : XK) (h : Pi C φs pre fs vs H Q E) : vs.length = n + 1 := by
  obtain ⟨g, x, dx, rest, rfl, _, h, _⟩ := h
  rw [List.length_cons, fas_len h, hn g]
theorem made_same {H : Hp} {x dx C : Addr} (hx : H x = none) (hd : H dx = none) : Same H (upd (upd H dx (.own x)) x (.ins C dx [])) := fun b o e => by
  rw [upd_ne (ne_of_none e hx), upd_ne (ne_of_none e hd)]
  exact e
section
variable {γ : Type} {σ : L2.St} {H : Hp} {ta : TE} {t : TA} {φs : γ → List Srt} {pre : γ → Prop} {E : XK} {C : Addr} {m : Str}
theorem ev_mk {fs : γ → List (Str × Srt)} (g : γ) [MoA (φs g)] (ha : EvA t σ H (φs g)) (hp : pre g) : Ev (tMake C (Pi C φs pre fs) [] E t) σ H (Ins C (fs g)) := fun H1 e Q q =>
  ha H1 e _ fun vs H2 e2 hv x dx hx hd ne => by
    have s := made_same (C := C) hx hd
    refine ⟨g, x, dx, vs ++ [], rfl, upd_same, by rw [List.append_nil]; exact MoA.mo s hv, hp, fun H' off ⟨dx', ws, h1, h2⟩ => ⟨rfl, q _ H' (e2.trans fun b o hb => off b o (ne_of_none hb hx) (s b o hb)) ⟨x, dx', ws, rfl, h1, h2⟩⟩⟩
theorem ev_mpp {ψ : γ → Srt} {fs : List (Str × Srt)} {φt : List Srt} (names : List Str) (g : γ) [MoN fs] (ho : Ev ta σ H (Ins C fs)) (hn : fs.map (·.1) = names) (hm : names.contains m = false) (ha : EvA t σ H φt) (hg : φs g = Ins C fs :: φt) (hp : pre g) :
    Ev (tMeth C m (Pp φs pre ψ) [] E ta t) σ H (ψ g) := fun H1 e Q q =>
  ho H1 e _ fun x H2 e2 hx => by
    obtain ⟨a, dx, ws, rfl, h1, h2⟩ := hx
    refine ⟨a, dx, ws, rfl, h1, fasN_none h2 (by rw [hn]; exact hm), ha H2 (e.trans e2) _ fun vs H3 e3 hv => ⟨g, ?_, hp, fun v H4 e4 h4 => q v H4 ((e2.trans e3).trans e4) h4⟩⟩
    rw [hg, List.append_nil]
    exact ⟨_, vs, rfl, ⟨a, dx, ws, rfl, e3 _ _ h1, MoN.mo e3 h2⟩, hv⟩
end
section
variable {P : Program} {w : World} {K : PySem.W.Frag} {mg : Str → Option Value} {base : Heap}
theorem met_of {m qual : Str} {C : Addr} {st : Stmt} {f : Addr} {fd : FuncData} {N ps : List Str} {k : Nat} {sp : Sp} (F : FunD K m qual (defArgs st) (defBody st) (defScope st) [] [] f fd) (c : Cls K C) (me : Meth K C m f) (S : FnScope N ps (defScope st))
    (hbd : ∀ (kV doc pm : Value) (an : Option Addr) (cdv ct : Value) (us : List Value), us.length = ps.length → bindArgs (PySem.W.fnOf m qual (defArgs st) (defBody st) (defScope st) .none kV doc pm an cdv ct) ⟨us, []⟩ = pure (ps.zip us))
    (len : ∀ vs H Q E, sp vs H Q E → vs.length = ps.length)
    (hbody : ∀ (cdv : Value) (A : Around) (outer : List Env) (s : Shared) (H : Hp) (vs : List V) (Q : VK) (E : XK), Room k (A.deeper (envOfC qual (defScope st) s.heap.objs.size f cdv)) → sp vs H Q E →
      ∃ t, PSs (cxOf CX0 P w K mg base N qual (defScope st) f cdv A outer s H E).nox (defBody st) t ∧ t { nx := fun _ H' => Q .non H', rt := Q } (start N vs) H) : C8.Met P w K mg base (k + 1) C m sp [] :=
  ⟨f, fd, ps, [], c, me, F.ok S len (fun cdv A outer s H vs Q E hr h => by
    obtain ⟨t, h1, h2⟩ := hbody cdv A outer s H vs Q E hr h
    exact ⟨t, h1.nox, h2⟩), F.bindsN hbd, .nil⟩
theorem mak_of {x qual : Str} {C : Addr} {st : Stmt} {f : Addr} {fd : FuncData} {N ps : List Str} {k : Nat} {sp : Sp} (F : FunD K "__init__" qual (defArgs st) (defBody st) (defScope st) [] [] f fd) (M : Mk K C f) (hm : mg x = some (.ref C)) (S : FnScope N ps (defScope st))
    (hbd : ∀ (kV doc pm : Value) (an : Option Addr) (cdv ct : Value) (us : List Value), us.length = ps.length → bindArgs (PySem.W.fnOf "__init__" qual (defArgs st) (defBody st) (defScope st) .none kV doc pm an cdv ct) ⟨us, []⟩ = pure (ps.zip us))
    (len : ∀ vs H Q E, sp vs H Q E → vs.length = ps.length)
    (hbody : ∀ (cdv : Value) (A : Around) (outer : List Env) (s : Shared) (H : Hp) (vs : List V) (Q : VK) (E : XK), Room k (A.deeper (envOfC qual (defScope st) s.heap.objs.size f cdv)) → sp vs H Q E →
      ∃ t, PSs (cxOf CX0 P w K mg base N qual (defScope st) f cdv A outer s H E).nox (defBody st) t ∧ t { nx := fun _ H' => Q .non H', rt := Q } (start N vs) H) : C8.Mak P w K mg base (k + 1) x C sp [] :=
  ⟨f, fd, ps, [], M, F.ok S len (fun cdv A outer s H vs Q E hr h => by
    obtain ⟨t, h1, h2⟩ := hbody cdv A outer s H vs Q E hr h
    exact ⟨t, h1.nox, h2⟩), hm, F.bindsN hbd, .nil⟩
end
section
variable {K : PySem.W.Frag} {σ : L2.St} {H : Hp} {ta tv : TE} {φ : Srt} {D : Ends} {tz : TS} {f : Str} {a C dx : Addr} {fs : List (Str × V)}
theorem s_fld (ha : H a = some (.ins C dx fs)) (ho : Ev ta σ H (Is (.ref a))) (hv : Ev tv σ H φ) (c : Cls K C) (n : NoAttr K C f) (hl : fs.length < 1000) [Mo φ] (k : ∀ v H1, Same H H1 → φ v H1 → D.nx σ (upd H1 a (.ins C dx (putF f v fs)))) : sFld K ta tv f D σ H :=
  hv.go fun v H1 e1 h1 => (ho.up e1).go fun x H2 e2 hx => ⟨a, C, dx, fs, hx, e2 _ _ (e1 _ _ ha), c, n, hl, k v H2 (e1.trans e2) (Mo.mo e2 h1)⟩
theorem q_fld (ha : H a = some (.ins C dx fs)) (ho : Ev ta σ H (Is (.ref a))) (hv : Ev tv σ H φ) (c : Cls K C) (n : NoAttr K C f) (hl : fs.length < 1000) [Mo φ] (k : ∀ v H1, Same H H1 → φ v H1 → tz D σ (upd H1 a (.ins C dx (putF f v fs)))) : tSeq (sFld K ta tv f) tz D σ H :=
  s_fld (D := { D with nx := tz D }) ha ho hv c n hl k
end
/-- new attributes go to the end -/
theorem putF_new {f : Str} {v : V} : ∀ {fs : List (Str × V)}, (fs.map (·.1)).contains f = false → putF f v fs = fs ++ [(f, v)]
  | [], _ => rfl
  | (g, x) :: r, h => by
    have h1 : (f == g || (r.map (·.1)).contains f) = false := by simpa [List.contains_cons] using h
    have h2 : (f == g) = false := (Bool.or_eq_false_iff.mp h1).1
    have h3 : ¬ g = f := fun e => by rw [e, beq_self_eq_true] at h2; cases h2
    show (if g = f then (g, v) :: r else (g, x) :: putF f v r) = (g, x) :: (r ++ [(f, v)])
    rw [if_neg h3, putF_new (Bool.or_eq_false_iff.mp h1).2]
/-! ip rules -/
theorem ip_xor {X : Cx} : PIp X .BitXor (ipI fun i j => Builtin.bitXor i j) := iop_xor
theorem ip_and {X : Cx} : PIp X .BitAnd (ipI fun i j => Builtin.bitAnd i j) := iop_and
theorem ip_ext {X : Cx} : PIp X .Add rExt2 := iop_ext
end RW
set_option Elab.async false
set_option linter.all false
set_option maxRecDepth 100000
set_option maxHeartbeats 4000000
namespace RW
open PySem PySem.Spec PyProof.Rows L2
local macro_rules | `(tactic| walk_at "sm") => `(tactic| first
  | exact Same.refl _
  | assumption
  | exact same_new (by assumption)
  | (refine Same.trans ?_ (by assumption); walk_at "sm")
  | (refine Same.trans ?_ (same_new (by assumption)); walk_at "sm"))
local macro_rules | `(tactic| walk_at "rp") => `(tactic| first
  | assumption
  | exact rfl
  | (refine Rep.mono (tx_of ?_) (by assumption); walk_at "sm")
  | (refine Mo.mo ?_ (by assumption); walk_at "sm"))
local macro_rules | `(tactic| walk_at "ev") => `(tactic| first
  | exact ev_ci
  | exact ev_cs
  | exact ev_cb
  | exact ev_cn
  | (refine @ev_rv _ _ _ _ _ _ _ rfl ?_; walk_at "rp")
  | (refine @ev_var _ _ _ _ _ ?_ rfl ?_; (first | infer_instance | skip); walk_at "rp")
  | (refine ev_ii ?_ ?_ <;> walk_at "ev")
  | (refine ev_ib ?_ ?_ <;> walk_at "ev")
  | (refine ev_eqI ?_ ?_ <;> walk_at "ev")
  | (refine ev_neI ?_ ?_ <;> walk_at "ev")
  | (refine ev_lenT ?_ <;> walk_at "ev")
  | (refine ev_lenL ?_ <;> walk_at "ev")
  | (refine ev_int1 ?_ <;> walk_at "ev")
  | (refine et_test ?_ <;> walk_at "ev")
  | (refine et_B ?_ <;> walk_at "ev")
  | (refine et_not ?_ <;> walk_at "ev")
  | (refine et_or ?_ (fun _ => ?_) <;> walk_at "ev")
  | (refine et_and ?_ (fun _ => ?_) <;> walk_at "ev"))
section
variable {P : Program} {w : World} {K : PySem.W.Frag} {mg : Str → Option Value} {base : Heap}
/-! check_file, check_contents -/
abbrev N_check_file : List Str := ["form", "file"]
theorem sc_check_file : FnScope N_check_file ["form", "file"] (defScope s_check_file) := ⟨rfl, rfl, rfl, by decide +kernel, rfl, by decide +kernel, by decide +kernel⟩
abbrev sp_check_file (K : PySem.W.Frag) : Sp := Pp (fun g : Form × Int => [FormS K g.1, R g.2]) (fun g => 0 ≤ g.2 ∧ g.2 < g.1.files) (fun g => R ())
theorem ok_check_file {f : Addr} {fd : FuncData} (T : Txt K mg)  (F : FunD K "check_file" "check_file" (defArgs s_check_file) (defBody s_check_file) (defScope s_check_file) [] [] f fd) (hm : mg "check_file" = some (.ref f)) : C8.Cal P w K mg base 1 "check_file" (sp_check_file K) [] := by
  refine cal_of F hm sc_check_file (fun _ _ _ _ _ _ us hl => match us, hl with | [_, _], _ => rfl) (fun vs H Q E ⟨g, h, _⟩ => fas_len h) (fun cdv A outer s H vs Q E hr h => ?_)
  obtain ⟨⟨F0, x⟩, h, hp, q⟩ := h
  obtain ⟨a, b, rfl, h1, h2⟩ := fas2 h
  refine ⟨_, (pss_one (ps_if (PW.pt (pw_or (pt_cmpR op_lt (pv 1) pe_int (nomark _)) (pw_or1 (pt_cmpR op_ge (pv 1) (pe_fld (pv 0) rfl) (nomark _))))) pss_never pss_nil)), ?_⟩
  have v1 := ev_files (σ := [some a, some b]) (ta := tVar 0) T (ev_var rfl h1)
  refine s_guard (b := decide (x < 0) || decide (F0.files ≤ x)) (et_or (et_test (ev_ib (ev_rv rfl h2) ev_ci)) fun _ => et_test (ev_ib (ev_rv rfl h2) v1)) ?_ fun H1 e => q _ H1 e rfl
  have e1 : ¬ x < 0 := Int.not_lt.mpr hp.1
  have e2 : ¬ F0.files ≤ x := Int.not_le.mpr hp.2
  rw [decide_eq_false e1, decide_eq_false e2] <;> rfl
abbrev N_check_contents : List Str := ["form", "contents", "value"]
theorem sc_check_contents : FnScope N_check_contents ["form", "contents"] (defScope s_check_contents) := ⟨rfl, rfl, rfl, by decide +kernel, rfl, by decide +kernel, by decide +kernel⟩
abbrev sp_check_contents (K : PySem.W.Frag) : Sp := Pp (fun g : Form × List Int => [FormS K g.1, R g.2]) (fun g => 1 ≤ g.2.length ∧ (g.2.length : Int) ≤ g.1.longest ∧ ∀ v ∈ g.2, 0 ≤ v ∧ v < g.1.alphabet) (fun g => R ())
theorem ok_check_contents {f : Addr} {fd : FuncData} (T : Txt K mg)  (F : FunD K "check_contents" "check_contents" (defArgs s_check_contents) (defBody s_check_contents) (defScope s_check_contents) [] [] f fd) (hm : mg "check_contents" = some (.ref f)) : C8.Cal P w K mg base 1 "check_contents" (sp_check_contents K) [] := by
  refine cal_of F hm sc_check_contents (fun _ _ _ _ _ _ us hl => match us, hl with | [_, _], _ => rfl) (fun vs H Q E ⟨g, h, _⟩ => fas_len h) (fun cdv A outer s H vs Q E hr h => ?_)
  obtain ⟨⟨F0, xs⟩, h, hp, q⟩ := h
  obtain ⟨a, b, rfl, h1, h2⟩ := fas2 h
  refine ⟨_, (pss_cons (ps_if (PW.pt (pw_or (pt_cmpR op_lt (pe_callB call_len_seq (by rfl) T.len PySem.boot_len (pa_cons (pv 1) pa_nil)) pe_int (nomark _)) (pw_or1 (pt_cmpR op_gt (pe_callB call_len_seq (by rfl) T.len PySem.boot_len (pa_cons (pv 1) pa_nil)) (pe_fld (pv 0) rfl) (nomark _))))) pss_never pss_nil)
      (pss_one (ps_for PassesOwn.never rfl (pi_tup (pv 1)) (pg_name (i := 2) sc_check_contents.nd rfl (by first | exact .inl rfl | exact .inr rfl))
        (pss_one (ps_if (PW.pt (pw_or (pt_cmpR op_lt (pv 2) pe_int (nomark _)) (pw_or1 (pt_cmpR op_ge (pv 2) (pe_fld (pv 0) rfl) (nomark _))))) pss_never pss_nil))))), ?_⟩
  have v1 := ev_longest (σ := [some a, some b, none]) (ta := tVar 0) T (ev_var rfl h1)
  refine q_guard (b := decide ((xs.length : Int) < 1) || decide (F0.longest < (xs.length : Int))) (et_or (et_test (ev_ib (ev_lenT (ev_rv rfl h2)) ev_ci)) fun _ => et_test (ev_ib (ev_lenT (ev_rv rfl h2)) v1)) ?_ fun H1 e => ?_
  · have e1 : ¬ (xs.length : Int) < 1 := by have h9 : 1 ≤ xs.length := hp.1; omega
    have e2 : ¬ F0.longest < (xs.length : Int) := Int.not_lt.mpr hp.2.1
    rw [decide_eq_false e1, decide_eq_false e2] <;> rfl
  · refine s_for (evi_tup (ev_rv rfl (Rep.mono (tx_of e) h2))) (fun H2 i σ' H' => Same H2 H' ∧ ∃ y, σ' = [some a, some b, y]) (fun H2 e2 => ⟨Same.refl _, none, rfl⟩) (fun H2 i σ' H' p => p.1) ?_ ?_
    · rintro H2 i x σ' H' H'' e2 hi ⟨s1, y, rfl⟩ s2 ⟨z, hz, hx⟩
      have sA : Same H H'' := ((e.trans e2).trans s1).trans s2
      have v2 := ev_alphabet (σ := [some a, some b, some x]) (ta := tVar 0) T (ev_var rfl (Mo.mo sA h1))
      refine s_guard (b := decide (z < 0) || decide (F0.alphabet ≤ z)) (et_or (et_test (ev_ib (ev_rv rfl hx) ev_ci)) fun _ => et_test (ev_ib (ev_rv rfl hx) v2)) ?_ fun H3 e3 => ⟨(s1.trans s2).trans e3, some x, rfl⟩
      have hz2 := hp.2.2 z (List.mem_of_getElem? hz)
      have e1 : ¬ z < 0 := Int.not_lt.mpr hz2.1
      have e2 : ¬ F0.alphabet ≤ z := Int.not_le.mpr hz2.2
      rw [decide_eq_false e1, decide_eq_false e2] <;> rfl
    · rintro H2 σ' H' e2 ⟨s1, _⟩
      exact q _ H' ((e.trans e2).trans s1) rfl
/-! the form's own numbers -/
abbrev N_ChainForm_link : List Str := ["self", "block"]
theorem sc_ChainForm_link : FnScope N_ChainForm_link ["self", "block"] (defScope s_ChainForm_link) := ⟨rfl, rfl, rfl, by decide +kernel, rfl, by decide +kernel, by decide +kernel⟩
abbrev sp_ChainForm_link (K : PySem.W.Frag) : Sp := Pp (fun g : Form × Int => [FormS K g.1, R g.2]) (fun g => True) (fun g => R (g.1.files + g.2))
theorem ok_ChainForm_link {f : Addr} {fd : FuncData} (T : Txt K mg)  (F : FunD K "link" "ChainForm.link" (defArgs s_ChainForm_link) (defBody s_ChainForm_link) (defScope s_ChainForm_link) [] [] f fd) (me : Meth K (CChainForm K) "link" f) : C8.Met P w K mg base 1 (CChainForm K) "link" (sp_ChainForm_link K) [] := by
  refine met_of F T.cChainForm me sc_ChainForm_link (fun _ _ _ _ _ _ us hl => match us, hl with | [_, _], _ => rfl) (fun vs H Q E ⟨g, h, _⟩ => fas_len h) (fun cdv A outer s H vs Q E hr h => ?_)
  obtain ⟨⟨F0, x⟩, h, hp, q⟩ := h
  obtain ⟨a, b, rfl, h1, h2⟩ := fas2 h
  refine ⟨_, (pss_one (ps_ret (pe_op op_add (pe_fld (pv 0) rfl) (pv 1)))), ?_⟩
  exact s_ret (ev_ii (ev_files (ta := tVar 0) T (ev_var rfl h1)) (ev_rv rfl h2)) fun v H1 e hv => q v H1 e hv
abbrev N_ChainForm_data : List Str := ["self", "block"]
theorem sc_ChainForm_data : FnScope N_ChainForm_data ["self", "block"] (defScope s_ChainForm_data) := ⟨rfl, rfl, rfl, by decide +kernel, rfl, by decide +kernel, by decide +kernel⟩
abbrev sp_ChainForm_data (K : PySem.W.Frag) : Sp := Pp (fun g : Form × Int => [FormS K g.1, R g.2]) (fun g => True) (fun g => R (g.1.files + g.1.blocks + g.2))
theorem ok_ChainForm_data {f : Addr} {fd : FuncData} (T : Txt K mg)  (F : FunD K "data" "ChainForm.data" (defArgs s_ChainForm_data) (defBody s_ChainForm_data) (defScope s_ChainForm_data) [] [] f fd) (me : Meth K (CChainForm K) "data" f) : C8.Met P w K mg base 1 (CChainForm K) "data" (sp_ChainForm_data K) [] := by
  refine met_of F T.cChainForm me sc_ChainForm_data (fun _ _ _ _ _ _ us hl => match us, hl with | [_, _], _ => rfl) (fun vs H Q E ⟨g, h, _⟩ => fas_len h) (fun cdv A outer s H vs Q E hr h => ?_)
  obtain ⟨⟨F0, x⟩, h, hp, q⟩ := h
  obtain ⟨a, b, rfl, h1, h2⟩ := fas2 h
  refine ⟨_, (pss_one (ps_ret (pe_op op_add (pe_op op_add (pe_fld (pv 0) rfl) (pe_fld (pv 0) rfl)) (pv 1)))), ?_⟩
  exact s_ret (ev_ii (ev_ii (ev_files (ta := tVar 0) T (ev_var rfl h1)) (ev_blocks (ta := tVar 0) T (ev_var rfl h1))) (ev_rv rfl h2)) fun v H1 e hv => q v H1 e hv
abbrev N_ChainForm_live : List Str := ["self", "block"]
theorem sc_ChainForm_live : FnScope N_ChainForm_live ["self", "block"] (defScope s_ChainForm_live) := ⟨rfl, rfl, rfl, by decide +kernel, rfl, by decide +kernel, by decide +kernel⟩
abbrev sp_ChainForm_live (K : PySem.W.Frag) : Sp := Pp (fun g : Form × Int => [FormS K g.1, R g.2]) (fun g => True) (fun g => R (1 + g.2))
theorem ok_ChainForm_live {f : Addr} {fd : FuncData} (T : Txt K mg)  (F : FunD K "live" "ChainForm.live" (defArgs s_ChainForm_live) (defBody s_ChainForm_live) (defScope s_ChainForm_live) [] [] f fd) (me : Meth K (CChainForm K) "live" f) : C8.Met P w K mg base 1 (CChainForm K) "live" (sp_ChainForm_live K) [] := by
  refine met_of F T.cChainForm me sc_ChainForm_live (fun _ _ _ _ _ _ us hl => match us, hl with | [_, _], _ => rfl) (fun vs H Q E ⟨g, h, _⟩ => fas_len h) (fun cdv A outer s H vs Q E hr h => ?_)
  obtain ⟨⟨F0, x⟩, h, hp, q⟩ := h
  obtain ⟨a, b, rfl, h1, h2⟩ := fas2 h
  refine ⟨_, (pss_one (ps_ret (pe_op op_add pe_int (pv 1)))), ?_⟩
  exact s_ret (ev_ii ev_ci (ev_rv rfl h2)) fun v H1 e hv => q v H1 e hv
abbrev N_ChainForm_gone : List Str := ["self", "block"]
theorem sc_ChainForm_gone : FnScope N_ChainForm_gone ["self", "block"] (defScope s_ChainForm_gone) := ⟨rfl, rfl, rfl, by decide +kernel, rfl, by decide +kernel, by decide +kernel⟩
abbrev sp_ChainForm_gone (K : PySem.W.Frag) : Sp := Pp (fun g : Form × Int => [FormS K g.1, R g.2]) (fun g => True) (fun g => R (1 + g.1.blocks + g.2))
theorem ok_ChainForm_gone {f : Addr} {fd : FuncData} (T : Txt K mg)  (F : FunD K "gone" "ChainForm.gone" (defArgs s_ChainForm_gone) (defBody s_ChainForm_gone) (defScope s_ChainForm_gone) [] [] f fd) (me : Meth K (CChainForm K) "gone" f) : C8.Met P w K mg base 1 (CChainForm K) "gone" (sp_ChainForm_gone K) [] := by
  refine met_of F T.cChainForm me sc_ChainForm_gone (fun _ _ _ _ _ _ us hl => match us, hl with | [_, _], _ => rfl) (fun vs H Q E ⟨g, h, _⟩ => fas_len h) (fun cdv A outer s H vs Q E hr h => ?_)
  obtain ⟨⟨F0, x⟩, h, hp, q⟩ := h
  obtain ⟨a, b, rfl, h1, h2⟩ := fas2 h
  refine ⟨_, (pss_one (ps_ret (pe_op op_add (pe_op op_add pe_int (pe_fld (pv 0) rfl)) (pv 1)))), ?_⟩
  exact s_ret (ev_ii (ev_ii ev_ci (ev_blocks (ta := tVar 0) T (ev_var rfl h1))) (ev_rv rfl h2)) fun v H1 e hv => q v H1 e hv
/-! _links -/
def linksI (bs : List Int) : List Int := (bs.drop 1).map (fun b => 2 + b) ++ [1]
abbrev N_links : List Str := ["blocks", "block"]
theorem sc_links : FnScope N_links ["blocks"] (defScope s_links) := ⟨rfl, rfl, rfl, by decide +kernel, rfl, by decide +kernel, by decide +kernel⟩
abbrev sp_links : Sp := Pn (fun g : List Int => [R g]) (fun g => g.length ≤ 1000) (fun g H => NLs H (linksI g))
theorem ok_links {f : Addr} {fd : FuncData} (T : Txt K mg)  (F : FunD K "_links" "_links" (defArgs s_links) (defBody s_links) (defScope s_links) [] [] f fd) (hm : mg "_links" = some (.ref f)) : C8.Cal P w K mg base 1 "_links" sp_links [] := by
  refine cal_of F hm sc_links (fun _ _ _ _ _ _ us hl => match us, hl with | [_], _ => rfl) (fun vs H Q E ⟨g, h, _⟩ => fas_len h) (fun cdv A outer s H vs Q E hr h => ?_)
  obtain ⟨xs, h, hp, q⟩ := h
  obtain ⟨a, rfl, h1⟩ := fas1 h
  refine ⟨_, (pss_one (ps_ret (pe_op op_cat (pe_lc (own := [("block", 1)]) rfl sc_links.nd (pi_tup (pe_slice sl_tupA (pv 0) (po_some pe_int) po_none)) (blkOk_by (N := N_links) (sc := defScope s_links) (by decide +kernel)) (fun _ _ _ _ _ => (pg_name (i := 1) sc_links.nd rfl (by first | exact .inl rfl | exact .inr rfl))) (fun _ _ _ _ _ => pts_nil) (fun _ _ _ _ _ => (pe_op op_add pe_int (pv 1)))) (pe_lst (pa_cons (C8.pe_gc (by rfl) T.LAST) pa_nil))))), ?_⟩
  have v1 := ev_slT (K := K) (ta := tVar 0) (σ := [some a, none]) (ev_rv rfl h1) (eo_some (i := ((1 : Nat) : Int)) ev_ci) eo_none
  rw [cutX_from] at v1
  have v2 := ev_lcm (vs := [1]) (j := 1) (fun b : Int => 2 + b) 0 (evi_tup (K := K) v1) (by rw [List.length_drop, sizeLine_eq]; omega) (fun _ => rfl) (te := tOp (rI0 fun i j => .int (i + j)) (tC (.int 2)) (tVar 1)) (fun z x H1 hz e hx => ev_ii ev_ci (ev_rv rfl hx))
  refine s_ret (ev_cat (v2.imp fun _ _ h => h.ls) ((ev_nl1 ev_ci).imp fun _ _ h => h.ls) ?_) fun v H1 e hv => q v H1 e hv
  rw [List.length_map, List.length_drop, List.length_singleton, sizeLine_eq]
  omega
/-! digits -/
def digitsI (ns : List Int) : Str := Txt.join Str.empty (ns.map fun n => (toString n : Str))
theorem small_log {n : Int} (h0 : 0 ≤ n) (h : n < 1000) : n.natAbs.log2 < 1920 := by
  by_cases h : n = 0
  · subst h; decide
  · have h1 : n.natAbs ≠ 0 := by omega
    exact (Nat.log2_lt h1).mpr (Nat.lt_of_lt_of_le (show n.natAbs < 2 ^ 10 by omega) (Nat.pow_le_pow_right (by decide) (by decide)))
theorem dig_len {n : Int} (h0 : 0 ≤ n) (h : n < 10) : (toString n : Str).length = 1 := by
  have : n = 0 ∨ n = 1 ∨ n = 2 ∨ n = 3 ∨ n = 4 ∨ n = 5 ∨ n = 6 ∨ n = 7 ∨ n = 8 ∨ n = 9 := by omega
  rcases this with h | h | h | h | h | h | h | h | h | h <;> subst h <;> decide +kernel
theorem digs_sum : ∀ {ns : List Int}, (∀ n ∈ ns, 0 ≤ n ∧ n < 10) → ((ns.map fun n => (toString n : Str)).map (·.length)).sum = ns.length
  | [], _ => rfl
  | n :: ns, h => by
    have h1 := h n List.mem_cons_self
    rw [List.map_cons, List.map_cons, List.sum_cons, dig_len h1.1 h1.2, digs_sum fun m hm => h m (List.mem_cons_of_mem _ hm), List.length_cons]
    omega
abbrev N_digits : List Str := ["numbers", "number"]
theorem sc_digits : FnScope N_digits ["numbers"] (defScope s_digits) := ⟨rfl, rfl, rfl, by decide +kernel, rfl, by decide +kernel, by decide +kernel⟩
abbrev sp_digits : Sp := Pp (fun g : List Int => [R g]) (fun g => g.length ≤ 1000 ∧ ∀ n ∈ g, 0 ≤ n ∧ n < 10) (fun g => R (digitsI g))
theorem ok_digits {f : Addr} {fd : FuncData} (T : Txt K mg)  (F : FunD K "digits" "digits" (defArgs s_digits) (defBody s_digits) (defScope s_digits) [] [] f fd) (hm : mg "digits" = some (.ref f)) : C8.Cal P w K mg base 1 "digits" sp_digits [] := by
  refine cal_of F hm sc_digits (fun _ _ _ _ _ _ us hl => match us, hl with | [_], _ => rfl) (fun vs H Q E ⟨g, h, _⟩ => fas_len h) (fun cdv A outer s H vs Q E hr h => ?_)
  obtain ⟨xs, h, hp, q⟩ := h
  obtain ⟨a, rfl, h1⟩ := fas1 h
  refine ⟨_, (pss_one (ps_ret (pe_join pe_str (pe_lc (own := [("number", 1)]) rfl sc_digits.nd (pi_tup (pv 0)) (blkOk_by (N := N_digits) (sc := defScope s_digits) (by decide +kernel)) (fun _ _ _ _ _ => (pg_name (i := 1) sc_digits.nd rfl (by first | exact .inl rfl | exact .inr rfl))) (fun _ _ _ _ _ => pts_nil) (fun _ _ _ _ _ => (pe_callTy call_str_int (by rfl) T.str (by decide +kernel) (pa_cons (pv 1) pa_nil))))))), ?_⟩
  have v2 := ev_lcm (vs := [1]) (j := 1) (fun n : Int => (toString n : Str)) 0 (evi_tup (K := K) (σ := [some a, none]) (tl := tVar 0) (ev_rv rfl h1)) (by rw [sizeLine_eq]; omega) (fun _ => rfl) (te := tCB (fun xs H Q => ∃ i, xs = [.int i] ∧ i.natAbs.log2 < 1920 ∧ Q (.str (toString i)) H) (tCons (tVar 1) tNil)) (fun z x H1 hz e hx => by
    have hz2 := hp.2 z hz
    exact ev_str1 (ev_rv rfl hx) (small_log hz2.1 (by omega)))
  refine s_ret (ev_join (z := Str.empty) ev_cs (v2.imp fun _ _ h => h.ls) ?_) fun v H1 e hv => q v H1 e hv
  rw [digs_sum hp.2, show Str.empty.length = 0 from rfl]
  omega
end
end RW
set_option Elab.async false
set_option linter.all false
set_option maxRecDepth 100000
set_option maxHeartbeats 4000000
namespace RW
open PySem PySem.Spec PyProof.Rows L2
local macro_rules | `(tactic| walk_at "sm") => `(tactic| first
  | exact Same.refl _
  | assumption
  | exact same_new (by assumption)
  | (refine Same.trans ?_ (by assumption); walk_at "sm")
  | (refine Same.trans ?_ (same_new (by assumption)); walk_at "sm"))
local macro_rules | `(tactic| walk_at "rp") => `(tactic| first
  | assumption
  | exact rfl
  | (refine Rep.mono (tx_of ?_) (by assumption); walk_at "sm")
  | (refine Mo.mo ?_ (by assumption); walk_at "sm"))
local macro_rules | `(tactic| walk_at "ev") => `(tactic| first
  | exact ev_ci
  | exact ev_cs
  | exact ev_cb
  | exact ev_cn
  | (refine @ev_rv _ _ _ _ _ _ _ rfl ?_; walk_at "rp")
  | (refine @ev_var _ _ _ _ _ ?_ rfl ?_; (first | infer_instance | skip); walk_at "rp")
  | (refine ev_ii ?_ ?_ <;> walk_at "ev")
  | (refine ev_ib ?_ ?_ <;> walk_at "ev")
  | (refine ev_eqI ?_ ?_ <;> walk_at "ev")
  | (refine ev_neI ?_ ?_ <;> walk_at "ev")
  | (refine ev_lenT ?_ <;> walk_at "ev")
  | (refine ev_lenL ?_ <;> walk_at "ev")
  | (refine ev_int1 ?_ <;> walk_at "ev")
  | (refine et_test ?_ <;> walk_at "ev")
  | (refine et_B ?_ <;> walk_at "ev")
  | (refine et_not ?_ <;> walk_at "ev")
  | (refine et_or ?_ (fun _ => ?_) <;> walk_at "ev")
  | (refine et_and ?_ (fun _ => ?_) <;> walk_at "ev"))
/-! ### rules of iterators that the layer has not: zip of a tuple and a list, enumerate of a tuple; a list's item under an operator -/
def rGetL (K : PySem.W.Frag) : V → V → Hp → VK → Prop := fun o i H Q => ∃ p xs k z, o = .ref p ∧ i = .int k ∧ 0 ≤ k ∧ SqL K H p xs ∧ xs[k.toNat]? = some z ∧ Q z H
theorem pget_list {X : Cx} : PGet X (rGetL X.K) := by
  intro pins s σ H o i ov iv Q I ro ri h
  obtain ⟨p, xs, k, z, rfl, rfl, h0, hq, e1, q⟩ := h
  cases ro
  obtain ⟨t, rfl⟩ := ri
  obtain ⟨its, r, pl, hz⟩ := I.list hq
  obtain ⟨u, hu, ru⟩ := r.get e1
  have hl : k.toNat < xs.length := (List.getElem?_eq_some_iff.mp e1).1
  rw [sizeLine_eq] at hz
  exact PyProof.Rows.getItem_listL pl.isList h0 (by omega) hu ⟨z, H, I, ru, q⟩

/-- the tuple at a, the list at b as they stand, n turns -/
def ItM (K : PySem.W.Frag) (a b : Addr) : It :=
  ⟨fun i H => ∃ (xs ys : List V) (x y : V), SqT K H a xs ∧ SqL K H b ys ∧ xs[i]? = some x ∧ ys[i]? = some y,
    fun i H v H' => ∃ T x y, v = .ref T ∧ H T = none ∧ H' = upd H T (.tup [x, y]) ∧ (∀ xs, SqT K H a xs → xs[i]? = some x) ∧ ∀ ys, SqL K H b ys → ys[i]? = some y,
    fun i H => ∃ xs ys : List V, SqT K H a xs ∧ SqL K H b ys ∧ i = min xs.length ys.length⟩
theorem fpOk_ne {X : Cx} {pins : List (Addr × Obj)} {H : Hp} {b c : Addr} {o : HO} (h : FpOk X pins H b) (hc : H c = some o) : c ≠ b := fun e => by
  rw [e, h.1] at hc
  cases hc
theorem sub4 {z TI TO i1 i2 c : Addr} (m : c ∈ [z, TO, i1, i2]) : c ∈ [z, TI, TO, i1, i2] := by
  have : c = z ∨ c = TO ∨ c = i1 ∨ c = i2 := by simpa using m
  rcases this with q | q | q | q <;> simp [q]
theorem turn_mix {P : Program} {w : World} {K : PySem.W.Frag} {elts : List Expr} {kk : Nat} {tpos : Pos} {a b z TI TO i1 i2 : Addr} (D : ZipSep2 z TI TO i1 i2 [i1, a] [i2, b]) (d12 : i1 ≠ i2) (na : a ≠ i1) (nb : b ≠ i2) :
    Turn P w K (.Tuple elts kk tpos) (ItM K a b) [z, TI, TO, i1, i2] z (fun i h => IsZip h z TI TO .none ∧ IsTupOf2 h TI (.ref i1) (.ref i2) ∧ (∃ x y, IsTupOf2 h TO x y) ∧ h.IsTupleIter i1 a i ∧ h.IsListIter i2 b i) := by
  have mem5 : ∀ c, c ∈ [z, TI, TO, i1, i2] → c = z ∨ c = TI ∨ c = TO ∨ c = i1 ∨ c = i2 := fun c hc => by simpa using hc
  have cells : ∀ i h, (IsZip h z TI TO .none ∧ IsTupOf2 h TI (.ref i1) (.ref i2) ∧ (∃ x y, IsTupOf2 h TO x y) ∧ h.IsTupleIter i1 a i ∧ h.IsListIter i2 b i) → ∀ c ∈ [z, TI, TO, i1, i2], ∃ o, h.get? c = some o ∧ ∀ v, o.data ≠ .cell v := fun i h st c hc => by
    obtain ⟨hz, hTI, ⟨x, y, hTO⟩, ⟨o1, e1, _, d1⟩, ⟨o2, e2, _, d2⟩⟩ := st
    rcases mem5 c hc with q | q | q | q | q <;> subst q
    · exact ⟨_, hz, fun _ e => nomatch e⟩
    · exact ⟨_, hTI, fun _ e => nomatch e⟩
    · exact ⟨_, hTO, fun _ e => nomatch e⟩
    · exact ⟨o1, e1, fun _ e => by rw [d1] at e; cases e⟩
    · exact ⟨o2, e2, fun _ e => by rw [d2] at e; cases e⟩
  refine { mem := List.mem_cons_self, obj := cells, keep := fun i h h' st k => ?_, item := ?_, done := ?_, self := fun _ _ _ _ _ st h => wpAny_pyIter_zip st.1 h }
  · obtain ⟨hz, hTI, ⟨x, y, hTO⟩, h1, h2⟩ := st
    exact ⟨k z (by simp) _ hz, k TI (by simp) _ hTI, ⟨x, y, k TO (by simp) _ hTO⟩, h1.at fun o e => k i1 (by simp) o e, h2.at fun o e => k i2 (by simp) o e⟩
  · rintro X rfl rfl rfl hc i pins s σ H E I hf st ⟨xs, ys, x, y, qx, qy, hx, hy⟩
    obtain ⟨its, r1, p1, _⟩ := I.tuple qx
    obtain ⟨its2, r2, p2, _⟩ := I.list qy
    have hh : X.A.in1.handled = none := by
      have := I.ok.hd hc
      simpa using this
    have W := GoesN.zip2 (elts := elts) (x1 := kk) (pos := tpos) D (Draws.tuple (prog := X.prog) (w := X.w) hh i1 a na its.toArray) (Draws.list (prog := X.prog) (w := X.w) hh i2 b nb its2.toArray)
    have l1 := r1.length
    have l2 := r2.length
    have b1 := (List.getElem?_eq_some_iff.mp hx).1
    have b2 := (List.getElem?_eq_some_iff.mp hy).1
    obtain ⟨hz, hTI, hTO, h1, h2⟩ := id st
    refine W.goes i s _ _ (by rw [List.size_toArray, List.size_toArray]; omega) ⟨hz, hTI, hTO, ⟨h1, p1⟩, h2, p2.isList⟩ fun v h' tk hY st' hk htk => ?_
    obtain ⟨T, u, u2, rfl, hT, hu, hu2, o, ho, hcl, n, hd⟩ := hY
    obtain ⟨u', hu', ru⟩ := r1.get hx
    obtain ⟨u2', hu2', ru2⟩ := r2.get hy
    have e1 : u = u' := by rw [List.getElem?_toArray, hu'] at hu; exact (Option.some.inj hu).symm
    have e2 : u2 = u2' := by rw [List.getElem?_toArray, hu2'] at hu2; exact (Option.some.inj hu2).symm
    subst e1 e2
    have new : ObjOk X.prog X.w (upd H T (.tup [x, y])) h' T (.tup [x, y]) := ⟨by show 2 ≤ sizeLine; decide, [u, u2], .cons ru (.cons ru2 .nil), o, ho, hcl, n, hd⟩
    refine ⟨.ref T, _, I.turnedNew (t' := tk) (ch := [z, TI, TO, i1, i2]) (fun c ob hb e => hk c ob (fun m => hb (sub4 m)) e) hf hT new, rfl, ⟨T, x, y, rfl, I.hok.fresh hT, rfl, fun l hl => by rw [I.tuple_inj hl qx]; exact hx, fun l hl => by rw [I.list_inj hl qy]; exact hy⟩, ⟨st'.1, st'.2.1, st'.2.2.1, st'.2.2.2.1.1, st'.2.2.2.2.1⟩, fun c hcm => ?_⟩
    obtain ⟨oc, ec, _⟩ := cells i s.heap st c hcm
    have : c ≠ T := Nat.ne_of_lt (Nat.lt_of_lt_of_le (Heap.lt_size ec) hT)
    rw [upd_ne this]
    exact (hf c hcm).1
  · rintro X rfl rfl rfl hc i pins s σ H E I hf st ⟨xs, ys, qx, qy, he⟩
    obtain ⟨its, r1, p1, _⟩ := I.tuple qx
    obtain ⟨its2, r2, p2, _⟩ := I.list qy
    have hh : X.A.in1.handled = none := by
      have := I.ok.hd hc
      simpa using this
    have W := GoesN.zip2 (elts := elts) (x1 := kk) (pos := tpos) D (Draws.tuple (prog := X.prog) (w := X.w) hh i1 a na its.toArray) (Draws.list (prog := X.prog) (w := X.w) hh i2 b nb its2.toArray)
    have l1 := r1.length
    have l2 := r2.length
    obtain ⟨hz, hTI, hTO, h1, h2⟩ := id st
    have en : i = min its.toArray.size its2.toArray.size := by rw [List.size_toArray, List.size_toArray]; omega
    subst en
    exact W.stops s _ _ ⟨hz, hTI, hTO, ⟨h1, p1⟩, h2, p2.isList⟩ fun h' tk hk htk => I.turnedL (t' := tk) (ch := [z, TI, TO, i1, i2]) (fun c ob hb e => hk c ob (fun m => hb (sub4 m)) e) hf
def iZipM (K : PySem.W.Frag) (ta : TA) : TI := fun σ H Rr => ta σ H fun vs H1 => ∃ a b xs ys, vs = [.ref a, .ref b] ∧ SqT K H1 a xs ∧ SqL K H1 b ys ∧ Rr (ItM K a b) H1
theorem pi_zipTL {X : Cx} {e e2 : Expr} {ta : TA} {p pos tpos : Pos} {elts : List Expr} {kk : Nat} (hg : Gl X "zip") (hm : X.mg "zip" = none) (ha : PA X [e, e2] ta)
    (hs : starEach [e, e2] X.env = (false, eval e X.env) :: starEach [e2] X.env := by rfl) (hpl : (backTo pos (starEach [e2] X.env)).any (·.1) = false := by rfl) :
    PI X (.Tuple elts kk tpos) (.Call (.Name "zip" p) [e, e2] [] pos) (iZipM X.K ta) := by
  refine ⟨fun pins s σ H Rr I h => ?_⟩
  refine Call_ (ld_blt I hg hm PyProof.Rows.boot_zip (PyProof.Rows.callWith_type1 (thn (ha.run pos pins s σ H _ I h) fun us s1 ⟨vs, H1, I1, r1, q1⟩ => ?_) hs hpl))
  obtain ⟨a, b, xs, ys, rfl, qx, qy, q⟩ := q1
  obtain ⟨u, u2, rfl, ra, rb⟩ := vals2 r1
  cases ra
  cases rb
  obtain ⟨its, rv, p1, _⟩ := I1.tuple qx
  obtain ⟨its2, rv2, p2, _⟩ := I1.list qy
  refine zip_begins2 (begins_tuple a its.toArray) (begins_list b its2.toArray) p1 p2.isList fun h' hz hTI hTO h1 h2 hsz hk => wpAny_pyIter_zip hz ?_
  have la : a < s1.heap.objs.size := by obtain ⟨o, ho, _⟩ := id p1; exact Heap.lt_size ho
  have lb : b < s1.heap.objs.size := p2.lt
  refine ⟨_, [s1.heap.objs.size + 4, s1.heap.objs.size + 2, s1.heap.objs.size + 3, s1.heap.objs.size, s1.heap.objs.size + 1], _, _, H1, rfl, I1.kept (t' := s1.toks) hk,
    turn_mix (zip_sep2 (fp1 := [a]) (fp2 := [b]) (by simpa using la) (by simpa using lb)) (Nat.ne_of_lt (Nat.lt_succ_self _)) (Nat.ne_of_lt la) (Nat.ne_of_lt (Nat.lt_succ_of_lt lb)), ⟨hz, hTI, ⟨_, _, hTO⟩, ⟨_, h1, rfl, rfl⟩, ⟨_, h2, rfl, rfl⟩⟩, fun c hc => ?_, q⟩
  have hle : s1.heap.objs.size ≤ c := by
    have : c = s1.heap.objs.size + 4 ∨ c = s1.heap.objs.size + 2 ∨ c = s1.heap.objs.size + 3 ∨ c = s1.heap.objs.size ∨ c = s1.heap.objs.size + 1 := by simpa using hc
    rcases this with z | z | z | z | z <;> rw [z] <;> first | exact Nat.le_add_right _ _ | exact Nat.le_refl _
  exact I1.fpOk hle (I1.hok.fresh hle)
section
variable {K : PySem.W.Frag} {σ : L2.St} {H : Hp} {ta : TA}
theorem evi_zipTL {α β : Type} [Rep α] [Rep β] {xs : List α} {ys : List β} (h : EvA ta σ H [R xs, Ls ys]) : EvI (iZipM K ta) σ H (xs.zip ys).length (RI (xs.zip ys)) := fun H1 e Rr q =>
  h H1 e _ fun vs H2 e2 hv => by
    obtain ⟨v, w, rfl, ⟨a, us, rfl, ha, r⟩, b, ws, rfl, hb, r2⟩ := fas2 hv
    refine ⟨a, b, us, ws, rfl, .inl (.inl ha), .inl (.inl hb), q _ H2 e2 ?_⟩
    have k1 := r.length
    have k2 := r2.length
    refine ⟨fun i H3 hi e3 => ?_, fun H3 e3 => ⟨us, ws, .inl (.inl (e3 _ _ ha)), .inl (.inl (e3 _ _ hb)), ?_⟩, fun i H3 x H' hi e3 y => ?_⟩
    · rw [List.length_zip] at hi
      exact ⟨us, ws, us[i]'(by omega), ws[i]'(by omega), .inl (.inl (e3 _ _ ha)), .inl (.inl (e3 _ _ hb)), List.getElem?_eq_getElem (by omega), List.getElem?_eq_getElem (by omega)⟩
    · rw [List.length_zip]
      omega
    · obtain ⟨T, x1, y1, rfl, hT, rfl, h1, h2⟩ := y
      obtain ⟨z1, hz1, hr1⟩ := r.getV (h1 us (.inl (.inl (e3 _ _ ha))))
      obtain ⟨z2, hz2, hr2⟩ := r2.getV (h2 ws (.inl (.inl (e3 _ _ hb))))
      have s := same_new (o := .tup [x1, y1]) hT
      exact ⟨s, (z1, z2), List.getElem?_zip_eq_some.mpr ⟨hz1, hz2⟩, T, x1, y1, rfl, upd_same, Rep.mono (tx_of (e3.trans s)) hr1, Rep.mono (tx_of (e3.trans s)) hr2⟩
end

/-! enumerate of a tuple -/
theorem meets_enum1 {v : Value} {o : Obj} {J : Heap → Prop} (B : Begins v o J) : Meets (Builtin.«enumerate.__new__» ⟨[.type "enumerate", v], []⟩) (fun _ Rr s => J s.heap ∧
      Rr (.ok (.ret (.ref (s.heap.push o).objs.size))) { s with heap := (s.heap.push o).push { cls := .type "enumerate", data := .fields #[.none, .bool false, .ref s.heap.objs.size, rawInt 0, .none, .none] } }) :=
  .of_wp fun prog w A Rr s h => by
    obtain ⟨hp, gs, dr, tk, os⟩ := s
    obtain ⟨h1, h⟩ := h
    have hsub := sub_enumerate
    have begin1 : ∀ {A' : Around} {E : Value → Shared → Prop} {Q : Value → Shared → Prop}, Q (.ref hp.objs.size) ⟨hp.push o, gs, dr, tk, os⟩ → wpAny (model prog w) A' (pyIter v) Q E ⟨hp, gs, dr, tk, os⟩ := B.iter prog w _ _ ⟨hp, gs, dr, tk, os⟩ _ h1
    wp_walk using begin1
    refine wpAny_stack_any fun st => wpAny_pure ?_
    split
    case h_1 c _ _ _ _ _ => cases (c == Value.type "enumerate") <;> (wp_walk using begin1; exact ⟨_, rfl, h⟩)
    all_goals (wp_walk using begin1; exact ⟨_, rfl, h⟩)
def ItN (K : PySem.W.Frag) (a : Addr) : It :=
  ⟨fun i H => ∃ (xs : List V) (x : V), SqT K H a xs ∧ xs[i]? = some x,
    fun i H v H' => ∃ T x, v = .ref T ∧ H T = none ∧ H' = upd H T (.tup [.int (i : Nat), x]) ∧ ∀ xs, SqT K H a xs → xs[i]? = some x,
    fun i H => ∃ xs : List V, SqT K H a xs ∧ i = xs.length⟩
theorem turn_enumT {P : Program} {w : World} {K : PySem.W.Frag} {elts : List Expr} {kk : Nat} {tpos : Pos} {a e it : Addr} (hne : e ≠ it) (nea : e ≠ a) (na : a ≠ it) :
    Turn P w K (.Tuple elts kk tpos) (ItN K a) [e, it] e (fun i h => (∃ old, IsEnum h e it ((i : Nat) : Int) old) ∧ h.IsTupleIter it a i) := by
  have cells : ∀ i h, ((∃ old, IsEnum h e it ((i : Nat) : Int) old) ∧ h.IsTupleIter it a i) → ∀ c ∈ [e, it], ∃ o, h.get? c = some o ∧ ∀ v, o.data ≠ .cell v := fun i h st c hc => by
    obtain ⟨⟨old, he⟩, ⟨o1, e1, _, d1⟩⟩ := st
    have : c = e ∨ c = it := by simpa using hc
    rcases this with q | q <;> subst q
    · exact ⟨_, he, fun _ e => nomatch e⟩
    · exact ⟨o1, e1, fun _ e => by rw [d1] at e; cases e⟩
  refine { mem := List.mem_cons_self, obj := cells, keep := fun i h h' st k => ?_, item := ?_, done := ?_, self := fun _ _ _ _ _ st h => let ⟨⟨_, he⟩, _⟩ := st; wpAny_pyIter_enum he h }
  · obtain ⟨⟨old, he⟩, h1⟩ := st
    exact ⟨⟨old, k e (by simp) _ he⟩, h1.at fun o e => k it (by simp) o e⟩
  · rintro X rfl rfl rfl hc i pins s σ H E I hf st ⟨xs, x, qx, hx⟩
    obtain ⟨its, r1, p1, _⟩ := I.tuple qx
    have hh : X.A.in1.handled = none := by
      have := I.ok.hd hc
      simpa using this
    have W := GoesN.enumFrom (elts := elts) (x1 := kk) (pos := tpos) 0 (Draws.tuple (prog := X.prog) (w := X.w) hh it a na its.toArray) e hne (by simp; exact ⟨hne, nea⟩) (by simp)
    have l1 := r1.length
    have b1 := (List.getElem?_eq_some_iff.mp hx).1
    obtain ⟨⟨old, he⟩, h1⟩ := id st
    refine W.goes i s _ _ (by rw [List.size_toArray]; omega) ⟨⟨old, by rw [Int.zero_add]; exact he⟩, h1, p1⟩ fun v h' tk hY st' hk htk => ?_
    obtain ⟨T, t, u, rfl, hT, hu, o, ho, hcl, n, hd⟩ := hY
    obtain ⟨u', hu', ru⟩ := r1.get hx
    have e1 : u = u' := by rw [List.getElem?_toArray, hu'] at hu; exact (Option.some.inj hu).symm
    subst e1
    rw [Int.zero_add] at hd
    have new : ObjOk X.prog X.w (upd H T (.tup [.int (i : Nat), x])) h' T (.tup [.int (i : Nat), x]) := ⟨by show 2 ≤ sizeLine; decide, [.int (i : Nat) t, u], .cons ⟨_, rfl⟩ (.cons ru .nil), o, ho, hcl, n, hd⟩
    obtain ⟨⟨old', he'⟩, h1', _⟩ := st'
    refine ⟨.ref T, _, I.turnedNew (t' := tk) (ch := [e, it]) hk hf hT new, rfl, ⟨T, x, rfl, I.hok.fresh hT, rfl, fun l hl => by rw [I.tuple_inj hl qx]; exact hx⟩, ⟨⟨old', by rw [Int.zero_add] at he'; exact he'⟩, h1'⟩, fun c hcm => ?_⟩
    obtain ⟨oc, ec, _⟩ := cells i s.heap st c hcm
    have : c ≠ T := Nat.ne_of_lt (Nat.lt_of_lt_of_le (Heap.lt_size ec) hT)
    rw [upd_ne this]
    exact (hf c hcm).1
  · rintro X rfl rfl rfl hc i pins s σ H E I hf st ⟨xs, qx, hi⟩
    obtain ⟨its, r1, p1, _⟩ := I.tuple qx
    have hh : X.A.in1.handled = none := by
      have := I.ok.hd hc
      simpa using this
    have W := GoesN.enumFrom (elts := elts) (x1 := kk) (pos := tpos) 0 (Draws.tuple (prog := X.prog) (w := X.w) hh it a na its.toArray) e hne (by simp; exact ⟨hne, nea⟩) (by simp)
    have l1 := r1.length
    obtain ⟨⟨old, he⟩, h1⟩ := id st
    have en : i = its.toArray.size := by rw [List.size_toArray]; omega
    subst en
    exact W.stops s _ _ ⟨⟨old, by rw [Int.zero_add]; exact he⟩, h1, p1⟩ fun h' tk hk htk => I.turnedL (t' := tk) (ch := [e, it]) hk hf
def iEnumT (K : PySem.W.Frag) (ta : TA) : TI := fun σ H Rr => ta σ H fun vs H1 => ∃ a xs, vs = [.ref a] ∧ SqT K H1 a xs ∧ Rr (ItN K a) H1
theorem pi_enumT {X : Cx} {e : Expr} {ta : TA} {p pos tpos : Pos} {elts : List Expr} {kk : Nat} (hg : Gl X "enumerate") (hm : X.mg "enumerate" = none) (ha : PA X [e] ta) (hs : starEach [e] X.env = [(false, eval e X.env)] := by rfl) :
    PI X (.Tuple elts kk tpos) (.Call (.Name "enumerate" p) [e] [] pos) (iEnumT X.K ta) := by
  refine ⟨fun pins s σ H Rr I h => ?_⟩
  refine Call_ (ld_blt I hg hm boot_enumerate (PyProof.Rows.callWith_type1 (thn (ha.run pos pins s σ H _ I h) fun us s1 ⟨vs, H1, I1, r1, q1⟩ => ?_) hs rfl))
  obtain ⟨a, xs, rfl, qx, q⟩ := q1
  obtain ⟨u, rfl, ra⟩ := vals1 r1
  cases ra
  obtain ⟨its, rv, p1, _⟩ := I1.tuple qx
  have la : a < s1.heap.objs.size := by obtain ⟨o, ho, _⟩ := id p1; exact Heap.lt_size ho
  refine callType_new PySem.F.called_enumerate (by decide) (PySem.F.typeCall_enumerate_1 _) (PySem.F.newCall_enumerate_1 _) (fun obj => PySem.F.args_object_init_2 obj _) PySem.F.entry_enumerate_new (meets_enum1 (begins_tuple a its.toArray)) ⟨p1, ?_⟩
  generalize ho : ({ cls := .type "tuple_iterator", data := .fields #[.ref a, .int 0 0] } : Obj) = o1
  have hz : (s1.heap.push o1).objs.size = s1.heap.objs.size + 1 := Heap.size_push ..
  generalize ho2 : ({ cls := .type "enumerate", data := .fields #[.none, .bool false, .ref s1.heap.objs.size, rawInt 0, .none, .none] } : Obj) = o2
  have g2 : ((s1.heap.push o1).push o2).get? (s1.heap.objs.size + 1) = some o2 := by
    have := Heap.get?_push_size (s1.heap.push o1) (o := o2) (by rw [← ho2]; rfl)
    rw [hz] at this
    exact this
  have g1 : ((s1.heap.push o1).push o2).get? s1.heap.objs.size = some o1 := Heap.get?_push_of_some _ (Heap.get?_push_size _ (by rw [← ho]; rfl))
  have he : IsEnum ((s1.heap.push o1).push o2) (s1.heap.objs.size + 1) s1.heap.objs.size 0 .none := by rw [← ho2] at g2 ⊢; exact g2
  have hi : ((s1.heap.push o1).push o2).IsTupleIter s1.heap.objs.size a 0 := ⟨o1, g1, by rw [← ho], by rw [← ho] <;> rfl⟩
  show _ ∧ _
  rw [hz]
  refine ⟨⟨o2, g2, by rw [← ho2]⟩, wpAny_pyIter_enum he ?_⟩
  refine ⟨_, [s1.heap.objs.size + 1, s1.heap.objs.size], _, _, H1, rfl, I1.kept (t' := s1.toks) fun b o e => Heap.get?_push_of_some _ (Heap.get?_push_of_some _ e), turn_enumT (Nat.succ_ne_self _) (Nat.ne_of_gt (Nat.lt_succ_of_lt la)) (Nat.ne_of_lt la), ⟨⟨.none, he⟩, hi⟩, fun c hc => ?_, q⟩
  have hle : s1.heap.objs.size ≤ c := by
    have : c = s1.heap.objs.size + 1 ∨ c = s1.heap.objs.size := by simpa using hc
    rcases this with z | z <;> rw [z] <;> first | exact Nat.le_add_right _ _ | exact Nat.le_refl _
  exact I1.fpOk hle (I1.hok.fresh hle)
section
variable {K : PySem.W.Frag} {σ : L2.St} {H : Hp} {ta : TA}
theorem evi_enumT {α : Type} [Rep α] {xs : List α} (h : EvA ta σ H [R xs]) : EvI (iEnumT K ta) σ H ((rg xs.length).zip xs).length (RI ((rg xs.length).zip xs)) := fun H1 e Rr q =>
  h H1 e _ fun vs H2 e2 hv => by
    obtain ⟨v, rfl, a, us, rfl, ha, r⟩ := fas1 hv
    refine ⟨a, us, rfl, .inl (.inl ha), q _ H2 e2 ?_⟩
    have k1 := r.length
    have hn : ((rg xs.length).zip xs).length = us.length := by rw [List.length_zip, rg_len]; omega
    rw [hn]
    refine ⟨fun i H3 hi e3 => ⟨us, us[i], .inl (.inl (e3 _ _ ha)), List.getElem?_eq_getElem hi⟩, fun H3 e3 => ⟨us, .inl (.inl (e3 _ _ ha)), rfl⟩, fun i H3 x H' hi e3 y => ?_⟩
    obtain ⟨T, y1, rfl, hT, rfl, h2⟩ := y
    obtain ⟨z2, hz2, hr2⟩ := r.getV (h2 us (.inl (.inl (e3 _ _ ha))))
    have s := same_new (o := .tup [.int (i : Nat), y1]) hT
    exact ⟨s, ((i : Int), z2), List.getElem?_zip_eq_some.mpr ⟨rg_get (by rw [k1]; exact hi), hz2⟩, T, _, y1, rfl, upd_same, rfl, Rep.mono (tx_of (e3.trans s)) hr2⟩
end
end RW
set_option Elab.async false
set_option linter.all false
set_option maxRecDepth 100000
set_option maxHeartbeats 4000000
namespace RW
open PySem PySem.Spec PyProof.Rows L2
local macro_rules | `(tactic| walk_at "sm") => `(tactic| first
  | exact Same.refl _
  | assumption
  | exact same_new (by assumption)
  | (refine Same.trans ?_ (by assumption); walk_at "sm")
  | (refine Same.trans ?_ (same_new (by assumption)); walk_at "sm"))
local macro_rules | `(tactic| walk_at "rp") => `(tactic| first
  | assumption
  | exact rfl
  | (refine Rep.mono (tx_of ?_) (by assumption); walk_at "sm")
  | (refine Mo.mo ?_ (by assumption); walk_at "sm"))
local macro_rules | `(tactic| walk_at "ev") => `(tactic| first
  | exact ev_ci
  | exact ev_cs
  | exact ev_cb
  | exact ev_cn
  | (refine @ev_rv _ _ _ _ _ _ _ rfl ?_; walk_at "rp")
  | (refine @ev_var _ _ _ _ _ ?_ rfl ?_; (first | infer_instance | skip); walk_at "rp")
  | (refine ev_ii ?_ ?_ <;> walk_at "ev")
  | (refine ev_ib ?_ ?_ <;> walk_at "ev")
  | (refine ev_eqI ?_ ?_ <;> walk_at "ev")
  | (refine ev_neI ?_ ?_ <;> walk_at "ev")
  | (refine ev_lenT ?_ <;> walk_at "ev")
  | (refine ev_lenL ?_ <;> walk_at "ev")
  | (refine ev_int1 ?_ <;> walk_at "ev")
  | (refine et_test ?_ <;> walk_at "ev")
  | (refine et_B ?_ <;> walk_at "ev")
  | (refine et_not ?_ <;> walk_at "ev")
  | (refine et_or ?_ (fun _ => ?_) <;> walk_at "ev")
  | (refine et_and ?_ (fun _ => ?_) <;> walk_at "ev"))
theorem mro_cb : mroOf (.type "itertools.combinations") = pure [.type "itertools.combinations", .type "object"] := by rw [mroOf_type]; kernel_rfl
theorem new_cb : typeLookup (.type "itertools.combinations") "__new__" = pure (some (.builtin "itertools.combinations.__new__")) := by rw [typeLookup_type, builtinLookup_eq_fast]; kernel_rfl
theorem ini_cb : Slot "itertools.combinations" "__init__" "object.__init__" := .of (owner := "object") (n := "__init__") (by rw [typeLookup_type, builtinLookup_eq_fast]; kernel_rfl) (by decide +kernel) (by decide +kernel) (by decide +kernel) (by first | exact .inl (by decide +kernel) | exact .inr (by decide +kernel)) (by rw [isSubtype_type]; kernel_rfl)
theorem sub_cb : isSubtype (.type "itertools.combinations") (.type "itertools.combinations") = pure true := by rw [isSubtype_type]; kernel_rfl
theorem called_cb : TypeCalled "itertools.combinations" "itertools.combinations.__new__" "object.__init__" := ⟨by decide +kernel, by decide +kernel, ⟨_, _, mro_cb⟩, madeBy_type mro_cb new_cb (by decide +kernel), by decide +kernel, sub_cb, ini_cb⟩
theorem tc_cb (a b : Value) : checkTypeCall "itertools.combinations" ⟨[a, b], []⟩ = pure () := by kernel_rfl
theorem nc_cb (a b : Value) : checkBuiltinCall "itertools.combinations.__new__" ⟨[.type "itertools.combinations", a, b], []⟩ = pure () := by kernel_rfl
theorem en_cb : entryFor table "itertools.combinations.__new__" = some Builtin.«itertools.combinations.__new__» := entryFor_of_tree (by kernel_rfl)
theorem slot_cb_iter : Slot "itertools.combinations" "__iter__" "itertools.combinations.__iter__" := .of (owner := "itertools.combinations") (n := "__iter__") (by rw [typeLookup_type, builtinLookup_eq_fast]; kernel_rfl) (by decide +kernel) (by decide +kernel) (by decide +kernel) (by first | exact .inl (by decide +kernel) | exact .inr (by decide +kernel)) sub_cb
theorem slot_cb_next : Slot "itertools.combinations" "__next__" "itertools.combinations.__next__" := .of (owner := "itertools.combinations") (n := "__next__") (by rw [typeLookup_type, builtinLookup_eq_fast]; kernel_rfl) (by decide +kernel) (by decide +kernel) (by decide +kernel) (by first | exact .inl (by decide +kernel) | exact .inr (by decide +kernel)) sub_cb
theorem ei_cb : entryFor table "itertools.combinations.__iter__" = some Builtin.«dict_keyiterator.__iter__» := entryFor_alias (id' := "dict_keyiterator.__iter__") (by kernel_rfl) (by first | rfl | decide +kernel | (unfold String.splitOn; simp +decide [String.splitOnAux])) (by decide +kernel) (by kernel_rfl)
theorem ex_cb : entryFor table "itertools.combinations.__next__" = some Builtin.«itertools.combinations.__next__» := entryFor_of_tree (by kernel_rfl)
theorem ow_cb : Manifest.owners.lookup (String.ofList ['s', 'n', 'o', 'i', 't', 'a', 'n', 'i', 'b', 'm', 'o', 'c', '.', 's', 'l', 'o', 'o', 't', 'r', 'e', 't', 'i'].reverse) = some Manifest.sig_itertools_combinations := by kernel_rfl
theorem aiter_cb (a : Value) : argsOk "itertools.combinations.__iter__" ⟨[a], []⟩ := by unfold argsOk; rw [signature?_of (id := "itertools.combinations.__iter__") (n := ['_', '_', 'r', 'e', 't', 'i', '_', '_']) (o := ['s', 'n', 'o', 'i', 't', 'a', 'n', 'i', 'b', 'm', 'o', 'c', '.', 's', 'l', 'o', 'o', 't', 'r', 'e', 't', 'i']) (by kernel_rfl) ow_cb]; kernel_rfl
theorem anext_cb (a : Value) : argsOk "itertools.combinations.__next__" ⟨[a], []⟩ := by unfold argsOk; rw [signature?_of (id := "itertools.combinations.__next__") (n := ['_', '_', 't', 'x', 'e', 'n', '_', '_']) (o := ['s', 'n', 'o', 'i', 't', 'a', 'n', 'i', 'b', 'm', 'o', 'c', '.', 's', 'l', 'o', 'o', 't', 'r', 'e', 't', 'i']) (by kernel_rfl) ow_cb]; kernel_rfl
theorem nd_cb : typeHasDict (.type "itertools.combinations") = false := by decide +kernel
theorem mro_pd : mroOf (.type "itertools.product") = pure [.type "itertools.product", .type "object"] := by rw [mroOf_type]; kernel_rfl
theorem new_pd : typeLookup (.type "itertools.product") "__new__" = pure (some (.builtin "itertools.product.__new__")) := by rw [typeLookup_type, builtinLookup_eq_fast]; kernel_rfl
theorem ini_pd : Slot "itertools.product" "__init__" "object.__init__" := .of (owner := "object") (n := "__init__") (by rw [typeLookup_type, builtinLookup_eq_fast]; kernel_rfl) (by decide +kernel) (by decide +kernel) (by decide +kernel) (by first | exact .inl (by decide +kernel) | exact .inr (by decide +kernel)) (by rw [isSubtype_type]; kernel_rfl)
theorem sub_pd : isSubtype (.type "itertools.product") (.type "itertools.product") = pure true := by rw [isSubtype_type]; kernel_rfl
theorem called_pd : TypeCalled "itertools.product" "itertools.product.__new__" "object.__init__" := ⟨by decide +kernel, by decide +kernel, ⟨_, _, mro_pd⟩, madeBy_type mro_pd new_pd (by decide +kernel), by decide +kernel, sub_pd, ini_pd⟩
theorem tc_pd (a b : Value) : checkTypeCall "itertools.product" ⟨[a, b], []⟩ = pure () := by kernel_rfl
theorem nc_pd (a b : Value) : checkBuiltinCall "itertools.product.__new__" ⟨[.type "itertools.product", a, b], []⟩ = pure () := by kernel_rfl
theorem en_pd : entryFor table "itertools.product.__new__" = some Builtin.«itertools.product.__new__» := entryFor_of_tree (by kernel_rfl)
theorem slot_pd_iter : Slot "itertools.product" "__iter__" "itertools.product.__iter__" := .of (owner := "itertools.product") (n := "__iter__") (by rw [typeLookup_type, builtinLookup_eq_fast]; kernel_rfl) (by decide +kernel) (by decide +kernel) (by decide +kernel) (by first | exact .inl (by decide +kernel) | exact .inr (by decide +kernel)) sub_pd
theorem slot_pd_next : Slot "itertools.product" "__next__" "itertools.product.__next__" := .of (owner := "itertools.product") (n := "__next__") (by rw [typeLookup_type, builtinLookup_eq_fast]; kernel_rfl) (by decide +kernel) (by decide +kernel) (by decide +kernel) (by first | exact .inl (by decide +kernel) | exact .inr (by decide +kernel)) sub_pd
theorem ei_pd : entryFor table "itertools.product.__iter__" = some Builtin.«dict_keyiterator.__iter__» := entryFor_alias (id' := "dict_keyiterator.__iter__") (by kernel_rfl) (by first | rfl | decide +kernel | (unfold String.splitOn; simp +decide [String.splitOnAux])) (by decide +kernel) (by kernel_rfl)
theorem ex_pd : entryFor table "itertools.product.__next__" = some Builtin.«itertools.product.__next__» := entryFor_of_tree (by kernel_rfl)
theorem ow_pd : Manifest.owners.lookup (String.ofList ['t', 'c', 'u', 'd', 'o', 'r', 'p', '.', 's', 'l', 'o', 'o', 't', 'r', 'e', 't', 'i'].reverse) = some Manifest.sig_itertools_product := by kernel_rfl
theorem aiter_pd (a : Value) : argsOk "itertools.product.__iter__" ⟨[a], []⟩ := by unfold argsOk; rw [signature?_of (id := "itertools.product.__iter__") (n := ['_', '_', 'r', 'e', 't', 'i', '_', '_']) (o := ['t', 'c', 'u', 'd', 'o', 'r', 'p', '.', 's', 'l', 'o', 'o', 't', 'r', 'e', 't', 'i']) (by kernel_rfl) ow_pd]; kernel_rfl
theorem anext_pd (a : Value) : argsOk "itertools.product.__next__" ⟨[a], []⟩ := by unfold argsOk; rw [signature?_of (id := "itertools.product.__next__") (n := ['_', '_', 't', 'x', 'e', 'n', '_', '_']) (o := ['t', 'c', 'u', 'd', 'o', 'r', 'p', '.', 's', 'l', 'o', 'o', 't', 'r', 'e', 't', 'i']) (by kernel_rfl) ow_pd]; kernel_rfl
theorem nd_pd : typeHasDict (.type "itertools.product") = false := by decide +kernel
end RW
set_option Elab.async false
set_option linter.all false
set_option maxRecDepth 100000
set_option maxHeartbeats 4000000
namespace RW
open PySem PySem.Spec PyProof.Rows L2
local macro_rules | `(tactic| walk_at "sm") => `(tactic| first
  | exact Same.refl _
  | assumption
  | exact same_new (by assumption)
  | (refine Same.trans ?_ (by assumption); walk_at "sm")
  | (refine Same.trans ?_ (same_new (by assumption)); walk_at "sm"))
local macro_rules | `(tactic| walk_at "rp") => `(tactic| first
  | assumption
  | exact rfl
  | (refine Rep.mono (tx_of ?_) (by assumption); walk_at "sm")
  | (refine Mo.mo ?_ (by assumption); walk_at "sm"))
local macro_rules | `(tactic| walk_at "ev") => `(tactic| first
  | exact ev_ci
  | exact ev_cs
  | exact ev_cb
  | exact ev_cn
  | (refine @ev_rv _ _ _ _ _ _ _ rfl ?_; walk_at "rp")
  | (refine @ev_var _ _ _ _ _ ?_ rfl ?_; (first | infer_instance | skip); walk_at "rp")
  | (refine ev_ii ?_ ?_ <;> walk_at "ev")
  | (refine ev_ib ?_ ?_ <;> walk_at "ev")
  | (refine ev_eqI ?_ ?_ <;> walk_at "ev")
  | (refine ev_neI ?_ ?_ <;> walk_at "ev")
  | (refine ev_lenT ?_ <;> walk_at "ev")
  | (refine ev_lenL ?_ <;> walk_at "ev")
  | (refine ev_int1 ?_ <;> walk_at "ev")
  | (refine et_test ?_ <;> walk_at "ev")
  | (refine et_B ?_ <;> walk_at "ev")
  | (refine et_not ?_ <;> walk_at "ev")
  | (refine et_or ?_ (fun _ => ?_) <;> walk_at "ev")
  | (refine et_and ?_ (fun _ => ?_) <;> walk_at "ev"))
section
variable {prog : Program} {w : World} {A : Around} {E : Value → Shared → Prop} {s : Shared}
/-- combinations' own record -/
def cbO (p : Addr) (st : Int) (last : Value) (ix : List Nat) : Obj := { cls := .type "itertools.combinations", dict := none, data := .fields ([.ref p, .int st 0, last] ++ ix.map fun n : Nat => Value.int (n : Int) 0).toArray, slots := #[] }
theorem cb_new1 {r : Addr} {n : Nat} {t t1 t2 t3 : Tok} (hn : 1 ≤ n) (hn2 : n ≤ 10) :
    MeetsIn prog w (Builtin.«itertools.combinations.__new__» ⟨[.type "itertools.combinations", .ref r, .int 1 t], []⟩) (fun A R s => A.handled = none ∧ IsRange s.heap r 0 n 1 t1 t2 t3 ∧ s.heap.objs.size ≤ r + 1 ∧ ∀ (h' : Heap) (it p : Addr) (tk : Nat) (us : Array Value), (∀ b o, s.heap.get? b = some o → h'.get? b = some o) →
      s.heap.objs.size ≤ p → p < it → h'.get? it = some (cbO p 0 .none [0]) → h'.get? p = some { cls := .type "tuple", data := .seq us } → ItemsOf (fun i v => ∃ t, v = .int (0 + i * 1) t) us n → R (.ok (.ret (.ref it))) { s with heap := h', toks := tk }) :=
  .of_wp fun A R s h => by
    obtain ⟨hp, gs, dr, tk, os⟩ := s
    obtain ⟨hh, hr, hr1, h⟩ := h
    have hsub : isSubtype (.type "itertools.combinations") (.type ("itertools." ++ "combinations")) = pure true := by
      rw [show ("itertools." ++ "combinations" : String) = "itertools.combinations" from by decide +kernel]
      exact sub_cb
    have hd := nd_cb
    have hTI : (Shared.mk hp gs dr tk os).TypeIs (.ref r) "range" := ⟨_, hr, rfl⟩
    have hh1 : A.in1.handled = none := hh
    have hs1 : Builtin.Range.small 0 n 1 = true := small_one (by omega) (by omega) (by omega) (by omega)
    have hs2 : Builtin.Range.rangeSize 0 n 1 = n := by rw [rangeSize_nat]; omega
    wp_walk using wpAny_typeOf hTI, collect_range (A := A.in1) hh1 hr hs1 hs2 (by omega)
    intro g tk1 us hk hacc
    show wpAny _ _ (newTuple us.toList >>= fun x => pure ((Value.type "itertools.combinations", x, us.toList.length, 1) : Value × Value × Nat × Nat)) _ _ _
    have hl : us.toList.length = n := by rw [Array.length_toList]; exact hacc.1
    refine wpAny_bind (wpAny_newTuple ?_ (by rw [hl, sizeLine_eq]; omega))
    refine wpAny_pure ?_
    rw [hl]
    show wpAny _ _ (Builtin.Itertools.itNewRecord (.type "itertools.combinations") ([.ref g.objs.size, rawInt (if 1 > n then 2 else 0), .none] ++ [rawInt 0]) >>= _) _ _ _
    rw [if_neg (by omega)]
    unfold Builtin.Itertools.itNewRecord
    rw [hd]
    refine wpAny_bind ?_
    show wpAny _ _ (newObj (.type "itertools.combinations") (.fields ([.ref g.objs.size, rawInt 0, .none] ++ [rawInt 0]).toArray)) _ _ _
    refine wpAny_newObj_type ?_ (by show 4 ≤ _; rw [sizeLine_eq]; omega)
    refine wpAny_pure ⟨_, rfl, ?_⟩
    have e : us.toList.toArray = us := by simp
    simp only [e]
    refine h _ _ g.objs.size tk1 us (fun b o q => Heap.get?_push_of_some _ (Heap.get?_push_of_some _ (hk b o q))) (Nat.le_trans hr1 (Heap.lt_size (hk _ _ hr))) ?_ ?_ ?_ hacc
    · show g.objs.size < (g.push _).objs.size
      rw [Heap.size_push]; exact Nat.lt_succ_self _
    · exact Heap.get?_push_size _ rfl
    · exact Heap.get?_push_of_some _ (Heap.get?_push_size _ rfl)
theorem cb_new2 {r : Addr} {n : Nat} {t t1 t2 t3 : Tok} (hn : 2 ≤ n) (hn2 : n ≤ 10) :
    MeetsIn prog w (Builtin.«itertools.combinations.__new__» ⟨[.type "itertools.combinations", .ref r, .int 2 t], []⟩) (fun A R s => A.handled = none ∧ IsRange s.heap r 0 n 1 t1 t2 t3 ∧ s.heap.objs.size ≤ r + 1 ∧ ∀ (h' : Heap) (it p : Addr) (tk : Nat) (us : Array Value), (∀ b o, s.heap.get? b = some o → h'.get? b = some o) →
      s.heap.objs.size ≤ p → p < it → h'.get? it = some (cbO p 0 .none [0, 1]) → h'.get? p = some { cls := .type "tuple", data := .seq us } → ItemsOf (fun i v => ∃ t, v = .int (0 + i * 1) t) us n → R (.ok (.ret (.ref it))) { s with heap := h', toks := tk }) :=
  .of_wp fun A R s h => by
    obtain ⟨hp, gs, dr, tk, os⟩ := s
    obtain ⟨hh, hr, hr1, h⟩ := h
    have hsub : isSubtype (.type "itertools.combinations") (.type ("itertools." ++ "combinations")) = pure true := by
      rw [show ("itertools." ++ "combinations" : String) = "itertools.combinations" from by decide +kernel]
      exact sub_cb
    have hd := nd_cb
    have hTI : (Shared.mk hp gs dr tk os).TypeIs (.ref r) "range" := ⟨_, hr, rfl⟩
    have hh1 : A.in1.handled = none := hh
    have hs1 : Builtin.Range.small 0 n 1 = true := small_one (by omega) (by omega) (by omega) (by omega)
    have hs2 : Builtin.Range.rangeSize 0 n 1 = n := by rw [rangeSize_nat]; omega
    wp_walk using wpAny_typeOf hTI, collect_range (A := A.in1) hh1 hr hs1 hs2 (by omega)
    intro g tk1 us hk hacc
    show wpAny _ _ (newTuple us.toList >>= fun x => pure ((Value.type "itertools.combinations", x, us.toList.length, 2) : Value × Value × Nat × Nat)) _ _ _
    have hl : us.toList.length = n := by rw [Array.length_toList]; exact hacc.1
    refine wpAny_bind (wpAny_newTuple ?_ (by rw [hl, sizeLine_eq]; omega))
    refine wpAny_pure ?_
    rw [hl]
    show wpAny _ _ (Builtin.Itertools.itNewRecord (.type "itertools.combinations") ([.ref g.objs.size, rawInt (if 2 > n then 2 else 0), .none] ++ [rawInt 0, rawInt 1]) >>= _) _ _ _
    rw [if_neg (by omega)]
    unfold Builtin.Itertools.itNewRecord
    rw [hd]
    refine wpAny_bind ?_
    show wpAny _ _ (newObj (.type "itertools.combinations") (.fields ([.ref g.objs.size, rawInt 0, .none] ++ [rawInt 0, rawInt 1]).toArray)) _ _ _
    refine wpAny_newObj_type ?_ (by show 5 ≤ _; rw [sizeLine_eq]; omega)
    refine wpAny_pure ⟨_, rfl, ?_⟩
    have e : us.toList.toArray = us := by simp
    simp only [e]
    refine h _ _ g.objs.size tk1 us (fun b o q => Heap.get?_push_of_some _ (Heap.get?_push_of_some _ (hk b o q))) (Nat.le_trans hr1 (Heap.lt_size (hk _ _ hr))) ?_ ?_ ?_ hacc
    · show g.objs.size < (g.push _).objs.size
      rw [Heap.size_push]; exact Nat.lt_succ_self _
    · exact Heap.get?_push_size _ rfl
    · exact Heap.get?_push_of_some _ (Heap.get?_push_size _ rfl)
end
end RW
set_option Elab.async false
set_option linter.all false
set_option maxRecDepth 100000
set_option maxHeartbeats 4000000
namespace RW
open PySem PySem.Spec PyProof.Rows L2
local macro_rules | `(tactic| walk_at "sm") => `(tactic| first
  | exact Same.refl _
  | assumption
  | exact same_new (by assumption)
  | (refine Same.trans ?_ (by assumption); walk_at "sm")
  | (refine Same.trans ?_ (same_new (by assumption)); walk_at "sm"))
local macro_rules | `(tactic| walk_at "rp") => `(tactic| first
  | assumption
  | exact rfl
  | (refine Rep.mono (tx_of ?_) (by assumption); walk_at "sm")
  | (refine Mo.mo ?_ (by assumption); walk_at "sm"))
local macro_rules | `(tactic| walk_at "ev") => `(tactic| first
  | exact ev_ci
  | exact ev_cs
  | exact ev_cb
  | exact ev_cn
  | (refine @ev_rv _ _ _ _ _ _ _ rfl ?_; walk_at "rp")
  | (refine @ev_var _ _ _ _ _ ?_ rfl ?_; (first | infer_instance | skip); walk_at "rp")
  | (refine ev_ii ?_ ?_ <;> walk_at "ev")
  | (refine ev_ib ?_ ?_ <;> walk_at "ev")
  | (refine ev_eqI ?_ ?_ <;> walk_at "ev")
  | (refine ev_neI ?_ ?_ <;> walk_at "ev")
  | (refine ev_lenT ?_ <;> walk_at "ev")
  | (refine ev_lenL ?_ <;> walk_at "ev")
  | (refine ev_int1 ?_ <;> walk_at "ev")
  | (refine et_test ?_ <;> walk_at "ev")
  | (refine et_B ?_ <;> walk_at "ev")
  | (refine et_not ?_ <;> walk_at "ev")
  | (refine et_or ?_ (fun _ => ?_) <;> walk_at "ev")
  | (refine et_and ?_ (fun _ => ?_) <;> walk_at "ev"))
section
variable {prog : Program} {w : World} {A : Around} {E : Value → Shared → Prop} {s : Shared}
inductive CbStep : Nat → List Nat → Option (List Nat) → Prop where
  | a : CbStep 3 [0] (some [1])
  | b : CbStep 3 [1] (some [2])
  | c : CbStep 3 [2] none
  | d : CbStep 2 [0] (some [1])
  | e : CbStep 2 [1] none
  | f : CbStep 3 [0, 1] (some [0, 2])
  | g : CbStep 3 [0, 2] (some [1, 2])
  | h : CbStep 3 [1, 2] none
  | i : CbStep 2 [0, 1] none
theorem cb_fields {p : Addr} {st : Int} {last : Value} {ix : List Nat} : (cbO p st last ix).data = .fields ([.ref p, .int st 0, last] ++ ix.map fun n : Nat => Value.int (n : Int) 0).toArray := rfl
theorem cb_set1 {p : Addr} {st st' : Int} {last : Value} {ix : List Nat} : (cbO p st last ix).mapFields (·.setIfInBounds 1 (.int st' 0)) = cbO p st' last ix := by
  unfold cbO Obj.mapFields
  simp
theorem cb_set2 {p : Addr} {st : Int} {last last' : Value} {ix : List Nat} : (cbO p st last ix).mapFields (·.setIfInBounds 2 last') = cbO p st last' ix := by
  unfold cbO Obj.mapFields
  simp
theorem cb_setN {p : Addr} {st : Int} {last : Value} {ix ix' : List Nat} : (cbO p st last ix).mapFields (fun fs => fs.extract 0 3 ++ (ix'.map fun n : Nat => rawInt n).toArray) = cbO p st last ix' := by
  unfold cbO Obj.mapFields
  simp [rawInt]
theorem ix_back : ∀ ix : List Nat, List.map (fun x => match x with | Value.int n _ => n.toNat | _ => 0) (ix.map fun n : Nat => Value.int (n : Int) 0) = ix
  | [] => rfl
  | a :: l => by rw [List.map_cons, List.map_cons, ix_back l]; rfl
theorem cb_nums {p : Addr} {st : Int} {last : Value} {ix : List Nat} {Q : List Nat → Shared → Prop} {it : Addr} (hit : s.heap.get? it = some (cbO p st last ix)) (hQ : Q ix s) : wpAny (model prog w) A (Builtin.Itertools.itNumbersFrom (.ref it) 3) Q E s := by
  show wpAny _ _ (load it >>= _) _ _ _
  refine wpAny_bind (wpAny_load hit ?_)
  show wpAny _ _ (pure _) _ _ _
  refine wpAny_pure ?_
  have e : (List.map (fun x => match x with | Value.int n _ => n.toNat | _ => 0) (([.ref p, .int st 0, last] ++ ix.map fun n : Nat => Value.int (n : Int) 0).toArray.toList.drop 3)) = ix := by
    rw [List.toList_toArray]
    exact ix_back ix
  rw [← e] at hQ
  exact hQ
theorem cb_end {it p : Addr} {last : Value} {ix : List Nat} {us : Array Value} {n : Nat} {Q : Option Value → Shared → Prop} (hh : A.handled = none) (hit : s.heap.get? it = some (cbO p 1 last ix)) (hp : s.heap.get? p = some { cls := .type "tuple", data := .seq us }) (hn : us.size = n) (hs : CbStep n ix none)
    (hQ : ∀ h', Heap.ExtBut it s.heap h' → Q none { s with heap := h' }) : wpAny (model prog w) A (pyNext (.ref it)) Q E s := by
  have hT : s.TypeIs (.ref it) "itertools.combinations" := ⟨_, hit, rfl⟩
  unfold pyNext
  refine wpAny_bind (wpAny_attempt (wpAny_callSpecial?_slot (name := Str.ofString "__next__") hT slot_cb_next (wpAny_call_entry slot_cb_next hT ex_cb ?_ (anext_cb _))))
  show wpAny _ _ (field (.ref it) 0 >>= _) _ _ s
  refine wpAny_bind (wpAny_field hit rfl (x := .ref p) (by simp) ?_)
  show wpAny _ _ (Builtin.Itertools.itNumbersFrom (.ref it) 3 >>= _) _ _ s
  refine wpAny_bind (cb_nums hit ?_)
  show wpAny _ _ ((field (.ref it) 1 >>= _) >>= _) _ _ s
  refine wpAny_bind (wpAny_bind (wpAny_field hit rfl (x := .int 1 0) (by simp) (wpAny_pure ?_)))
  show wpAny _ _ ((seqItems? (.ref p) >>= _) >>= _) _ _ s
  refine wpAny_bind (wpAny_bind (wpAny_seqItems hp rfl (wpAny_pure ?_)))
  dsimp only
  split
  · rename_i next hnext
    have e : none = some next := by rw [← hnext, hn]; cases hs <;> decide +kernel
    cases e
  · refine wpAny_bind (wpAny_setField hit rfl (by simp) ?_)
    show wpAny _ _ (newExc (.type "StopIteration") [] >>= _) _ _ _
    refine wpAny_bind ?_
    simp only [newExc, newTuple]
    refine wpAny_bind (wpAny_newObj_type ?_ (by size_fits))
    refine wpAny_bind (m := firstArgMember _ _) (wpAny_of_eq (a := Value.none) (by first | rfl | (simp only [firstArgMember]; rfl)) ?_)
    refine wpAny_newObj_type ?_ (by size_fits)
    simp only [raiseNew]
    refine wpAny_bind (wpAny_handled ?_)
    rw [show A.in1.handled = none from hh]
    refine wpAny_bind (wpAny_pure (wpAny_throw ?_))
    refine wpAny_bind (wpAny_isInstance (T := "StopIteration") (b := true) ⟨_, Heap.get?_push_size _ rfl, rfl⟩ isSubtype_stop (wpAny_pure ?_))
    exact hQ _ (((Heap.SameBut.update ..).extBut.push _).push _)
/-- the tuple that goes out -/
def cbT (us : Array Value) (ix : List Nat) : Obj := { cls := .type "tuple", data := .seq (ix.map fun i => us.getD i .none).toArray }
theorem cb_item {it p : Addr} {st : Int} {last : Value} {ix jx : List Nat} {us : Array Value} {n : Nat} {Q : Option Value → Shared → Prop} (hit : s.heap.get? it = some (cbO p st last ix)) (hp : s.heap.get? p = some { cls := .type "tuple", data := .seq us }) (hn : us.size = n) (hne : it ≠ p)
    (hs : (st = 0 ∧ jx = ix) ∨ (st = 1 ∧ CbStep n ix (some jx))) (hj : jx.length ≤ 10)
    (hQ : ∀ h', h'.get? it = some (cbO p 1 (.ref s.heap.objs.size) jx) → h'.get? s.heap.objs.size = some (cbT us jx) → (∀ b o, b ≠ it → s.heap.get? b = some o → h'.get? b = some o) → Q (some (.ref s.heap.objs.size)) { s with heap := h' }) : wpAny (model prog w) A (pyNext (.ref it)) Q E s := by
  have hT : s.TypeIs (.ref it) "itertools.combinations" := ⟨_, hit, rfl⟩
  have out : ∀ (h1 : Heap), h1.objs.size = s.heap.objs.size → h1.get? it = some (cbO p 1 last jx) → (∀ b o, b ≠ it → s.heap.get? b = some o → h1.get? b = some o) → ∀ (R : Fin → Shared → Prop) (E' : Value → Shared → Prop),
      (∀ h', h'.get? it = some (cbO p 1 (.ref s.heap.objs.size) jx) → h'.get? s.heap.objs.size = some (cbT us jx) → (∀ b o, b ≠ it → s.heap.get? b = some o → h'.get? b = some o) → R (.done (.ret (.ref s.heap.objs.size))) { s with heap := h' }) →
      wpAny (model prog w) A.in1 (do
        let result ← (do
          let items ← Builtin.Itertools.itPoolItems (.ref p)
          newTuple (jx.map fun i => items.getD i .none))
        let before ← field (.ref it) 2
        setField (.ref it) 2 result
        letGo [before] [result]
        ret result) R E' { s with heap := h1 } := by
    intro h1 hz h1it hk R E' q
    have hp1 : h1.get? p = some { cls := .type "tuple", data := .seq us } := hk p _ (Ne.symm hne) hp
    have hlt : it < h1.objs.size := Heap.lt_size h1it
    refine wpAny_bind (wpAny_bind ?_)
    show wpAny _ _ (seqItems? (.ref p) >>= _) _ _ _
    refine wpAny_bind (wpAny_seqItems (s := { s with heap := h1 }) hp1 rfl (wpAny_pure ?_))
    refine wpAny_newTuple ?_ (by rw [List.length_map, sizeLine_eq]; omega)
    have hit2 : (h1.push (cbT us jx)).get? it = some (cbO p 1 last jx) := Heap.get?_push_of_some _ h1it
    refine wpAny_bind (wpAny_field (s := { s with heap := h1.push (cbT us jx) }) hit2 cb_fields (x := last) (by simp) ?_)
    refine wpAny_bind (wpAny_setField (s := { s with heap := h1.push (cbT us jx) }) hit2 cb_fields (by simp) (wpAny_bind (wpAny_letGo (wpAny_pure ?_))))
    show R (.done (.ret (.ref h1.objs.size))) _
    rw [hz]
    refine q _ ?_ ?_ fun b o hb e => ?_
    · rw [Heap.get?_update_self _ hit2 rfl, cb_set2]
    · rw [Heap.get?_update_other _ _ (Nat.ne_of_lt (hz ▸ hlt)), ← hz]
      exact Heap.get?_push_size _ rfl
    · rw [Heap.get?_update_other _ _ (Ne.symm hb)]
      exact Heap.get?_push_of_some _ (hk b o hb e)
  unfold pyNext
  refine wpAny_bind (wpAny_attempt (wpAny_callSpecial?_slot (name := Str.ofString "__next__") hT slot_cb_next (wpAny_call_entry slot_cb_next hT ex_cb ?_ (anext_cb _))))
  show wpAny _ _ (field (.ref it) 0 >>= _) _ _ s
  refine wpAny_bind (wpAny_field hit rfl (x := .ref p) (by simp) ?_)
  show wpAny _ _ (Builtin.Itertools.itNumbersFrom (.ref it) 3 >>= _) _ _ s
  refine wpAny_bind (cb_nums hit ?_)
  show wpAny _ _ ((field (.ref it) 1 >>= _) >>= _) _ _ s
  refine wpAny_bind (wpAny_bind (wpAny_field hit cb_fields (x := .int st 0) (by simp) (wpAny_pure ?_)))
  rcases hs with ⟨rfl, rfl⟩ | ⟨rfl, hs⟩
  · refine wpAny_bind (wpAny_setField hit cb_fields (by simp) ?_)
    refine out _ (by simp) ?_ (fun b o hb e => ?_) _ _ fun h' a b c => ?_
    · rw [Heap.get?_update_self _ hit rfl]
      exact congrArg some cb_set1
    · rw [Heap.get?_update_other _ _ (Ne.symm hb)]
      exact e
    · exact ⟨_, rfl, wpAny_pure (hQ h' a b c)⟩
  · show wpAny _ _ ((seqItems? (.ref p) >>= _) >>= _) _ _ s
    refine wpAny_bind (wpAny_bind (wpAny_seqItems hp rfl (wpAny_pure ?_)))
    dsimp only
    split
    · rename_i next hnext
      have e : some jx = some next := by rw [← hnext, hn]; cases hs <;> decide +kernel
      cases e
      show wpAny _ _ (updateFields it _ >>= _) _ _ _
      refine wpAny_bind (wpAny_updateFields hit cb_fields ?_ ?_)
      · refine out _ (by simp) ?_ (fun b o hb e => ?_) _ _ fun h' a b c => ?_
        · rw [Heap.get?_update_self _ hit rfl]
          exact congrArg some cb_setN
        · rw [Heap.get?_update_other _ _ (Ne.symm hb)]
          exact e
        · exact ⟨_, rfl, wpAny_pure (hQ h' a b c)⟩
      · simp
        rw [sizeLine_eq]
        omega
    · rename_i hnext
      have e : some jx = none := by rw [← hnext, hn]; cases hs <;> decide +kernel
      cases e
theorem cb_iter {it p : Addr} {st : Int} {last : Value} {ix : List Nat} {Q : Value → Shared → Prop} (hit : s.heap.get? it = some (cbO p st last ix)) (h : Q (.ref it) s) : wpAny (model prog w) A (pyIter (.ref it)) Q E s := by
  have hT : s.TypeIs (.ref it) "itertools.combinations" := ⟨_, hit, rfl⟩
  refine wpAny_pyIter_slot hT slot_cb_iter (wpAny_call_entry slot_cb_iter hT ei_cb ?_ (aiter_cb _))
  show wpAny _ _ (ret (.ref it)) _ _ s
  exact wpAny_pure ⟨_, rfl, "itertools.combinations", _, hT, slot_cb_next.lookup, h⟩
end
end RW
set_option Elab.async false
set_option linter.all false
set_option maxRecDepth 100000
set_option maxHeartbeats 4000000
namespace RW
open PySem PySem.Spec PyProof.Rows L2
local macro_rules | `(tactic| walk_at "sm") => `(tactic| first
  | exact Same.refl _
  | assumption
  | exact same_new (by assumption)
  | (refine Same.trans ?_ (by assumption); walk_at "sm")
  | (refine Same.trans ?_ (same_new (by assumption)); walk_at "sm"))
local macro_rules | `(tactic| walk_at "rp") => `(tactic| first
  | assumption
  | exact rfl
  | (refine Rep.mono (tx_of ?_) (by assumption); walk_at "sm")
  | (refine Mo.mo ?_ (by assumption); walk_at "sm"))
local macro_rules | `(tactic| walk_at "ev") => `(tactic| first
  | exact ev_ci
  | exact ev_cs
  | exact ev_cb
  | exact ev_cn
  | (refine @ev_rv _ _ _ _ _ _ _ rfl ?_; walk_at "rp")
  | (refine @ev_var _ _ _ _ _ ?_ rfl ?_; (first | infer_instance | skip); walk_at "rp")
  | (refine ev_ii ?_ ?_ <;> walk_at "ev")
  | (refine ev_ib ?_ ?_ <;> walk_at "ev")
  | (refine ev_eqI ?_ ?_ <;> walk_at "ev")
  | (refine ev_neI ?_ ?_ <;> walk_at "ev")
  | (refine ev_lenT ?_ <;> walk_at "ev")
  | (refine ev_lenL ?_ <;> walk_at "ev")
  | (refine ev_int1 ?_ <;> walk_at "ev")
  | (refine et_test ?_ <;> walk_at "ev")
  | (refine et_B ?_ <;> walk_at "ev")
  | (refine et_not ?_ <;> walk_at "ev")
  | (refine et_or ?_ (fun _ => ?_) <;> walk_at "ev")
  | (refine et_and ?_ (fun _ => ?_) <;> walk_at "ev"))
section
variable {prog : Program} {w : World} {A : Around} {E : Value → Shared → Prop} {s : Shared}
/-- product's own record: two pools -/
def pdO (p : Addr) (st : Int) (last : Value) (i j : Nat) : Obj := { cls := .type "itertools.product", dict := none, data := .fields #[.ref p, .int st 0, last, .int (i : Int) 0, .int (j : Int) 0], slots := #[] }
abbrev tpO (us : Array Value) : Obj := { cls := .type "tuple", data := .seq us }
inductive PdStep : Nat → Nat → Nat × Nat → Option (Nat × Nat) → Prop where
  | a : PdStep 1 2 (0, 0) (some (0, 1))
  | b : PdStep 1 2 (0, 1) none
  | c : PdStep 2 2 (0, 0) (some (0, 1))
  | d : PdStep 2 2 (0, 1) (some (1, 0))
  | e : PdStep 2 2 (1, 0) (some (1, 1))
  | f : PdStep 2 2 (1, 1) none
theorem pd_fields {p : Addr} {st : Int} {last : Value} {i j : Nat} : (pdO p st last i j).data = .fields #[.ref p, .int st 0, last, .int (i : Int) 0, .int (j : Int) 0] := rfl
theorem pd_set1 {p : Addr} {st st' : Int} {last : Value} {i j : Nat} : (pdO p st last i j).mapFields (·.setIfInBounds 1 (.int st' 0)) = pdO p st' last i j := rfl
theorem pd_set2 {p : Addr} {st : Int} {last last' : Value} {i j : Nat} : (pdO p st last i j).mapFields (·.setIfInBounds 2 last') = pdO p st last' i j := rfl
theorem pd_nums {p : Addr} {st : Int} {last : Value} {i j : Nat} {Q : List Nat → Shared → Prop} {it : Addr} (hit : s.heap.get? it = some (pdO p st last i j)) (hQ : Q [i, j] s) : wpAny (model prog w) A (Builtin.Itertools.itNumbersFrom (.ref it) 3) Q E s := by
  show wpAny _ _ (load it >>= _) _ _ _
  refine wpAny_bind (wpAny_load hit ?_)
  show wpAny _ _ (pure _) _ _ _
  exact wpAny_pure hQ
/-- the tuple that goes out -/
def pdT (us vs : Array Value) (i j : Nat) : Obj := { cls := .type "tuple", data := .seq #[us.getD i .none, vs.getD j .none] }
section
variable {it p p1 p2 : Addr} {st : Int} {last : Value} {i j : Nat} {us vs : Array Value} {Q : Option Value → Shared → Prop}
theorem pd_open (hit : s.heap.get? it = some (pdO p st last i j)) (hp : s.heap.get? p = some (tpO #[.ref p1, .ref p2])) (h1 : s.heap.get? p1 = some (tpO us)) (h2 : s.heap.get? p2 = some (tpO vs)) {F : List (Array Value) → List Nat → Sem Fin} {R : Fin → Shared → Prop} {E' : Value → Shared → Prop}
    (h : wpAny (model prog w) A (F [us, vs] [i, j]) R E' s) : wpAny (model prog w) A (do
      let pools ← (← Builtin.Itertools.itPoolItems (← field (.ref it) 0)).toList.mapM Builtin.Itertools.itPoolItems
      let indices ← Builtin.Itertools.itNumbersFrom (.ref it) 3
      F pools indices) R E' s := by
  refine wpAny_bind (wpAny_field hit rfl (x := .ref p) rfl ?_)
  refine wpAny_bind ?_
  show wpAny _ _ (seqItems? (.ref p) >>= _) _ _ s
  refine wpAny_bind (wpAny_seqItems hp rfl (wpAny_pure ?_))
  refine wpAny_bind ?_
  rw [show (#[Value.ref p1, Value.ref p2] : Array Value).toList = [Value.ref p1, Value.ref p2] from rfl, List.mapM_cons, List.mapM_cons, List.mapM_nil]
  refine wpAny_bind ?_
  show wpAny _ _ (seqItems? (.ref p1) >>= _) _ _ s
  refine wpAny_bind (wpAny_seqItems h1 rfl (wpAny_pure (wpAny_bind (wpAny_bind ?_))))
  show wpAny _ _ (seqItems? (.ref p2) >>= _) _ _ s
  exact wpAny_bind (wpAny_seqItems h2 rfl (wpAny_pure (wpAny_bind (wpAny_pure (wpAny_pure (wpAny_pure (wpAny_bind (pd_nums hit h))))))))
theorem pd_end (hh : A.handled = none) (hit : s.heap.get? it = some (pdO p 1 last i j)) (hp : s.heap.get? p = some (tpO #[.ref p1, .ref p2])) (h1 : s.heap.get? p1 = some (tpO us)) (h2 : s.heap.get? p2 = some (tpO vs)) (hs : PdStep us.size vs.size (i, j) none)
    (hQ : ∀ h', (∀ b o, b ≠ it → s.heap.get? b = some o → h'.get? b = some o) → Q none { s with heap := h' }) : wpAny (model prog w) A (pyNext (.ref it)) Q E s := by
  have hT : s.TypeIs (.ref it) "itertools.product" := ⟨_, hit, rfl⟩
  unfold pyNext
  refine wpAny_bind (wpAny_attempt (wpAny_callSpecial?_slot (name := Str.ofString "__next__") hT slot_pd_next (wpAny_call_entry slot_pd_next hT ex_pd ?_ (anext_pd _))))
  refine pd_open (A := A.in1) hit hp h1 h2 ?_
  show wpAny _ _ ((field (.ref it) 1 >>= _) >>= _) _ _ s
  refine wpAny_bind (wpAny_bind (wpAny_field hit pd_fields (x := .int 1 0) rfl (wpAny_pure ?_)))
  split
  · rename_i hc
    exact absurd hc (by decide)
  · split
    · rename_i next hnext
      have e : none = some next := by
        rw [← hnext, List.map_cons, List.map_cons, List.map_nil]
        revert hs
        generalize us.size = a, vs.size = b
        intro hs
        cases hs <;> decide +kernel
      cases e
    · refine wpAny_bind (wpAny_setField hit pd_fields (by simp) (wpAny_bind ?_))
      have hit2 : (s.heap.update it (Obj.mapFields (·.setIfInBounds 1 (rawInt 2)))).get? it = some (pdO p 2 last i j) := (Heap.get?_update_self _ hit rfl).trans (congrArg some pd_set1)
      generalize hg : s.heap.update it (Obj.mapFields (·.setIfInBounds 1 (rawInt 2))) = g at hit2
      have kg : ∀ b o, b ≠ it → s.heap.get? b = some o → g.get? b = some o := fun b o hb e => by
        rw [← hg, Heap.get?_update_other _ _ (Ne.symm hb)]
        exact e
      show wpAny _ _ (newTuple [us.getD 0 .none, vs.getD 0 .none] >>= _) _ _ _
      refine wpAny_bind (wpAny_newTuple (items := [_, _]) (s := { s with heap := g }) ?_ (by show 2 ≤ _; rw [sizeLine_eq]; omega))
      have hit3 : (g.push (pdT us vs 0 0)).get? it = some (pdO p 2 last i j) := Heap.get?_push_of_some _ hit2
      refine wpAny_bind (wpAny_field (s := { s with heap := g.push (pdT us vs 0 0) }) hit3 pd_fields (x := last) rfl ?_)
      refine wpAny_bind (wpAny_setField (s := { s with heap := g.push (pdT us vs 0 0) }) hit3 pd_fields (by simp) (wpAny_bind (wpAny_letGo (wpAny_pure ?_))))
      show wpAny _ _ (newExc (.type "StopIteration") [] >>= _) _ _ _
      refine wpAny_bind ?_
      simp only [newExc, newTuple]
      refine wpAny_bind (wpAny_newObj_type ?_ (by size_fits))
      refine wpAny_bind (m := firstArgMember _ _) (wpAny_of_eq (a := Value.none) (by first | rfl | (simp only [firstArgMember]; rfl)) ?_)
      refine wpAny_newObj_type ?_ (by size_fits)
      simp only [raiseNew]
      refine wpAny_bind (wpAny_handled ?_)
      rw [show A.in1.handled = none from hh]
      refine wpAny_bind (wpAny_pure (wpAny_throw ?_))
      refine wpAny_bind (wpAny_isInstance (T := "StopIteration") (b := true) ⟨_, Heap.get?_push_size _ rfl, rfl⟩ isSubtype_stop (wpAny_pure ?_))
      refine hQ _ fun b o hb e => ?_
      exact Heap.get?_push_of_some _ (Heap.get?_push_of_some _ ((Heap.get?_update_other _ _ (Ne.symm hb)).trans (Heap.get?_push_of_some _ (kg b o hb e))))
  · rename_i hc
    exact absurd rfl hc
theorem pd_item {i' j' : Nat} (hit : s.heap.get? it = some (pdO p st last i j)) (hp : s.heap.get? p = some (tpO #[.ref p1, .ref p2])) (h1 : s.heap.get? p1 = some (tpO us)) (h2 : s.heap.get? p2 = some (tpO vs))
    (hs : (st = 0 ∧ 0 < us.size ∧ 0 < vs.size ∧ i' = i ∧ j' = j) ∨ (st = 1 ∧ PdStep us.size vs.size (i, j) (some (i', j'))))
    (hQ : ∀ h', h'.get? it = some (pdO p 1 (.ref s.heap.objs.size) i' j') → h'.get? s.heap.objs.size = some (pdT us vs i' j') → (∀ b o, b ≠ it → s.heap.get? b = some o → h'.get? b = some o) → Q (some (.ref s.heap.objs.size)) { s with heap := h' }) : wpAny (model prog w) A (pyNext (.ref it)) Q E s := by
  have hT : s.TypeIs (.ref it) "itertools.product" := ⟨_, hit, rfl⟩
  have out : ∀ (g : Heap), g.objs.size = s.heap.objs.size → g.get? it = some (pdO p 1 last i' j') → (∀ b o, b ≠ it → s.heap.get? b = some o → g.get? b = some o) → ∀ (R : Value → Shared → Prop) (E' : Value → Shared → Prop),
      (∀ h', h'.get? it = some (pdO p 1 (.ref s.heap.objs.size) i' j') → h'.get? s.heap.objs.size = some (pdT us vs i' j') → (∀ b o, b ≠ it → s.heap.get? b = some o → h'.get? b = some o) → R (.ref s.heap.objs.size) { s with heap := h' }) →
      wpAny (model prog w) A.in1 (do
        let t ← newTuple [us.getD i' .none, vs.getD j' .none]
        let before ← field (.ref it) 2
        setField (.ref it) 2 t
        letGo [before] [t]
        return t) R E' { s with heap := g } := by
    intro g hz hg k R E' q
    have hlt : it < g.objs.size := Heap.lt_size hg
    refine wpAny_bind (wpAny_newTuple (items := [_, _]) (s := { s with heap := g }) ?_ (by show 2 ≤ _; rw [sizeLine_eq]; omega))
    have hg2 : (g.push (pdT us vs i' j')).get? it = some (pdO p 1 last i' j') := Heap.get?_push_of_some _ hg
    refine wpAny_bind (wpAny_field (s := { s with heap := g.push (pdT us vs i' j') }) hg2 pd_fields (x := last) rfl ?_)
    refine wpAny_bind (wpAny_setField (s := { s with heap := g.push (pdT us vs i' j') }) hg2 pd_fields (by simp) (wpAny_bind (wpAny_letGo (wpAny_pure ?_))))
    show R (.ref g.objs.size) _
    rw [hz]
    refine q _ ?_ ?_ fun b o hb e => ?_
    · rw [Heap.get?_update_self _ hg2 rfl, pd_set2]
    · rw [Heap.get?_update_other _ _ (Nat.ne_of_lt (hz ▸ hlt)), ← hz]
      exact Heap.get?_push_size _ rfl
    · rw [Heap.get?_update_other _ _ (Ne.symm hb)]
      exact Heap.get?_push_of_some _ (k b o hb e)
  unfold pyNext
  refine wpAny_bind (wpAny_attempt (wpAny_callSpecial?_slot (name := Str.ofString "__next__") hT slot_pd_next (wpAny_call_entry slot_pd_next hT ex_pd ?_ (anext_pd _))))
  refine pd_open (A := A.in1) hit hp h1 h2 ?_
  show wpAny _ _ ((field (.ref it) 1 >>= _) >>= _) _ _ s
  refine wpAny_bind (wpAny_bind (wpAny_field hit pd_fields (x := .int st 0) rfl (wpAny_pure ?_)))
  rcases hs with ⟨rfl, hu, hv, rfl, rfl⟩ | ⟨rfl, hs⟩
  · split
    · have en : ([us, vs].any fun x => x.isEmpty) = false := by
        rw [List.any_cons, List.any_cons, List.any_nil, Bool.or_false, Array.isEmpty, Array.isEmpty, decide_eq_false (Nat.ne_of_gt hu), decide_eq_false (Nat.ne_of_gt hv)]
        rfl
      rw [en]
      show wpAny _ _ (setField (.ref it) 1 _ >>= _) _ _ s
      refine wpAny_bind (wpAny_setField hit pd_fields (by simp) (wpAny_bind ?_))
      refine out _ (by simp) ?_ (fun b o hb e => ?_) _ _ fun h' a b c => ?_
      · rw [Heap.get?_update_self _ hit rfl]
        exact congrArg some pd_set1
      · rw [Heap.get?_update_other _ _ (Ne.symm hb)]
        exact e
      · exact wpAny_pure ⟨_, rfl, wpAny_pure (hQ h' a b c)⟩
    · rename_i hc
      exact absurd hc (by decide)
    · rename_i hc _
      exact absurd rfl hc
  · split
    · rename_i hc
      exact absurd hc (by decide)
    · split
      · rename_i next hnext
        have e : some [j', i'] = some next := by
          rw [← hnext, List.map_cons, List.map_cons, List.map_nil]
          revert hs
          generalize us.size = a, vs.size = b
          intro hs
          cases hs <;> decide +kernel
        cases e
        show wpAny _ _ (updateFields it _ >>= _) _ _ _
        refine wpAny_bind (wpAny_updateFields hit pd_fields ?_ ?_)
        · refine wpAny_bind (out _ (by simp) ?_ (fun b o hb e => ?_) _ _ fun h' a b c => ?_)
          · rw [Heap.get?_update_self _ hit rfl]
            rfl
          · rw [Heap.get?_update_other _ _ (Ne.symm hb)]
            exact e
          · exact wpAny_pure ⟨_, rfl, wpAny_pure (hQ h' a b c)⟩
        · simp
          rw [sizeLine_eq]
          omega
      · rename_i hnext
        have e : some [j', i'] = none := by
          rw [← hnext, List.map_cons, List.map_cons, List.map_nil]
          revert hs
          generalize us.size = a, vs.size = b
          intro hs
          cases hs <;> decide +kernel
        cases e
    · rename_i hc
      exact absurd rfl hc
theorem pd_iter {Q : Value → Shared → Prop} (hit : s.heap.get? it = some (pdO p st last i j)) (h : Q (.ref it) s) : wpAny (model prog w) A (pyIter (.ref it)) Q E s := by
  have hT : s.TypeIs (.ref it) "itertools.product" := ⟨_, hit, rfl⟩
  refine wpAny_pyIter_slot hT slot_pd_iter (wpAny_call_entry slot_pd_iter hT ei_pd ?_ (aiter_pd _))
  show wpAny _ _ (ret (.ref it)) _ _ s
  exact wpAny_pure ⟨_, rfl, "itertools.product", _, hT, slot_pd_next.lookup, h⟩
end
end
end RW
set_option Elab.async false
set_option linter.all false
set_option maxRecDepth 100000
set_option maxHeartbeats 4000000
namespace RW
open PySem PySem.Spec PyProof.Rows L2
local macro_rules | `(tactic| walk_at "sm") => `(tactic| first
  | exact Same.refl _
  | assumption
  | exact same_new (by assumption)
  | (refine Same.trans ?_ (by assumption); walk_at "sm")
  | (refine Same.trans ?_ (same_new (by assumption)); walk_at "sm"))
local macro_rules | `(tactic| walk_at "rp") => `(tactic| first
  | assumption
  | exact rfl
  | (refine Rep.mono (tx_of ?_) (by assumption); walk_at "sm")
  | (refine Mo.mo ?_ (by assumption); walk_at "sm"))
local macro_rules | `(tactic| walk_at "ev") => `(tactic| first
  | exact ev_ci
  | exact ev_cs
  | exact ev_cb
  | exact ev_cn
  | (refine @ev_rv _ _ _ _ _ _ _ rfl ?_; walk_at "rp")
  | (refine @ev_var _ _ _ _ _ ?_ rfl ?_; (first | infer_instance | skip); walk_at "rp")
  | (refine ev_ii ?_ ?_ <;> walk_at "ev")
  | (refine ev_ib ?_ ?_ <;> walk_at "ev")
  | (refine ev_eqI ?_ ?_ <;> walk_at "ev")
  | (refine ev_neI ?_ ?_ <;> walk_at "ev")
  | (refine ev_lenT ?_ <;> walk_at "ev")
  | (refine ev_lenL ?_ <;> walk_at "ev")
  | (refine ev_int1 ?_ <;> walk_at "ev")
  | (refine et_test ?_ <;> walk_at "ev")
  | (refine et_B ?_ <;> walk_at "ev")
  | (refine et_not ?_ <;> walk_at "ev")
  | (refine et_or ?_ (fun _ => ?_) <;> walk_at "ev")
  | (refine et_and ?_ (fun _ => ?_) <;> walk_at "ev"))
section
variable {prog : Program} {w : World} {A : Around} {E : Value → Shared → Prop} {s : Shared}
theorem pd_new {a r : Addr} {n k : Nat} {t1 t2 t3 : Tok} {us : Array Value} {ol : Obj} (hn2 : n ≤ 10) (hz : us.size ≤ sizeLine) :
    MeetsIn prog w (Builtin.«itertools.product.__new__» ⟨[.type "itertools.product", .ref a, .ref r], []⟩) (fun A R s => A.handled = none ∧ IsRange s.heap r 0 n 1 t1 t2 t3 ∧ s.heap.objs.size ≤ r + 1 ∧ s.heap.get? a = some ol ∧ ol.cls = .type "list" ∧ ol.data = .seq us k ∧
      ∀ (h' : Heap) (it pp p1 p2 : Addr) (tk : Nat) (vs : Array Value), (∀ b o, s.heap.get? b = some o → h'.get? b = some o) → s.heap.objs.size ≤ p1 → p1 < p2 → p2 < pp → pp < it → h'.get? it = some (pdO pp 0 .none 0 0) → h'.get? pp = some (tpO #[.ref p1, .ref p2]) → h'.get? p1 = some (tpO us) → h'.get? p2 = some (tpO vs) →
      ItemsOf (fun i v => ∃ t, v = .int (0 + i * 1) t) vs n → R (.ok (.ret (.ref it))) { s with heap := h', toks := tk }) :=
  .of_wp fun A R s h => by
    obtain ⟨hp, gs, dr, tk, os⟩ := s
    obtain ⟨hh, hr, hr1, hol, hc, hd1, h⟩ := h
    have hsub : isSubtype (.type "itertools.product") (.type ("itertools." ++ "product")) = pure true := by
      rw [show ("itertools." ++ "product" : String) = "itertools.product" from by decide +kernel]
      exact sub_pd
    have hd := nd_pd
    have hh1 : A.in1.handled = none := hh
    have hs1 : Builtin.Range.small 0 n 1 = true := small_one (by omega) (by omega) (by omega) (by omega)
    have hs2 : Builtin.Range.rangeSize 0 n 1 = n := by rw [rangeSize_nat]; omega
    have c1 : ∀ {E : Value → Shared → Prop} {Q : List Value → Shared → Prop}, (∀ h' : Heap, (∀ b o', hp.get? b = some o' → h'.get? b = some o') → Q us.toList { heap := h', gens := gs, drawn := dr, toks := tk, os := os }) → wpAny (model prog w) A.in1 (collect (.ref a)) Q E { heap := hp, gens := gs, drawn := dr, toks := tk, os := os } :=
      fun q => wpAny_collect_seq (s := { heap := hp, gens := gs, drawn := dr, toks := tk, os := os }) a (.inl rfl) hol hc hd1 q hz
    wp_walk using c1
    intro h1 k1
    refine wpAny_bind (wpAny_newTuple ?_ (by rw [Array.length_toList]; exact hz))
    refine wpAny_pure ?_
    have g1 : (h1.push (tpO us.toList.toArray)).get? h1.objs.size = some (tpO us.toList.toArray) := Heap.get?_push_size _ rfl
    have hr2 : IsRange (h1.push (tpO us.toList.toArray)) r 0 n 1 t1 t2 t3 := Heap.get?_push_of_some _ (k1 _ _ hr)
    show wpAny _ _ ((holding _ (collect (.ref r)) >>= _) >>= _) _ _ _
    refine wpAny_bind (wpAny_bind (wpAny_holding (collect_range (s := { heap := h1.push (tpO us.toList.toArray), gens := gs, drawn := dr, toks := tk, os := os }) hh1 hr2 hs1 hs2 (by omega) fun h2 tk2 vs k2 hv => ?_)))
    have hlv : vs.toList.length = n := by rw [Array.length_toList]; exact hv.1
    refine wpAny_bind (wpAny_newTuple ?_ (by rw [hlv, sizeLine_eq]; omega))
    refine wpAny_pure ?_
    show wpAny _ _ (pure _) _ _ _
    refine wpAny_pure ?_
    show wpAny _ _ (newTuple [.ref h1.objs.size, .ref h2.objs.size] >>= _) _ _ _
    refine wpAny_bind (wpAny_newTuple ?_ (by show 2 ≤ _; rw [sizeLine_eq]; omega))
    unfold Builtin.Itertools.itNewRecord
    rw [hd]
    refine wpAny_bind ?_
    show wpAny _ _ (newObj (.type "itertools.product") (.fields #[.ref _, .int 0 0, .none, .int 0 0, .int 0 0])) _ _ _
    refine wpAny_newObj_type ?_ (by show 5 ≤ _; rw [sizeLine_eq]; omega)
    refine wpAny_pure ⟨_, rfl, ?_⟩
    have z2 : h1.objs.size + 1 ≤ h2.objs.size := by
      have := Heap.lt_size (k2 _ _ g1)
      exact this
    have e1 : us.toList.toArray = us := by simp
    have e2 : vs.toList.toArray = vs := by simp
    rw [e1] at g1 k2
    simp only [e1, e2]
    refine h _ _ ((h2.push (tpO vs)).objs.size) h1.objs.size h2.objs.size tk2 vs (fun b o e => ?_) ?_ ?_ ?_ ?_ ?_ ?_ ?_ ?_ hv
    · exact Heap.get?_push_of_some _ (Heap.get?_push_of_some _ (Heap.get?_push_of_some _ (k2 _ _ (Heap.get?_push_of_some _ (k1 _ _ e)))))
    · exact Nat.le_trans hr1 (Heap.lt_size (k1 _ _ hr))
    · exact z2
    · show h2.objs.size < (h2.push _).objs.size
      rw [Heap.size_push]; exact Nat.lt_succ_self _
    · show (h2.push _).objs.size < ((h2.push _).push _).objs.size
      rw [Heap.size_push (h := h2.push _)]; exact Nat.lt_succ_self _
    · exact Heap.get?_push_size _ rfl
    · exact Heap.get?_push_of_some _ (Heap.get?_push_size _ rfl)
    · exact Heap.get?_push_of_some _ (Heap.get?_push_of_some _ (Heap.get?_push_of_some _ (k2 _ _ g1)))
    · exact Heap.get?_push_of_some _ (Heap.get?_push_of_some _ (Heap.get?_push_size _ rfl))
end
end RW
set_option Elab.async false
set_option linter.all false
set_option maxRecDepth 100000
set_option maxHeartbeats 4000000
namespace RW
open PySem PySem.Spec PyProof.Rows L2
local macro_rules | `(tactic| walk_at "sm") => `(tactic| first
  | exact Same.refl _
  | assumption
  | exact same_new (by assumption)
  | (refine Same.trans ?_ (by assumption); walk_at "sm")
  | (refine Same.trans ?_ (same_new (by assumption)); walk_at "sm"))
local macro_rules | `(tactic| walk_at "rp") => `(tactic| first
  | assumption
  | exact rfl
  | (refine Rep.mono (tx_of ?_) (by assumption); walk_at "sm")
  | (refine Mo.mo ?_ (by assumption); walk_at "sm"))
local macro_rules | `(tactic| walk_at "ev") => `(tactic| first
  | exact ev_ci
  | exact ev_cs
  | exact ev_cb
  | exact ev_cn
  | (refine @ev_rv _ _ _ _ _ _ _ rfl ?_; walk_at "rp")
  | (refine @ev_var _ _ _ _ _ ?_ rfl ?_; (first | infer_instance | skip); walk_at "rp")
  | (refine ev_ii ?_ ?_ <;> walk_at "ev")
  | (refine ev_ib ?_ ?_ <;> walk_at "ev")
  | (refine ev_eqI ?_ ?_ <;> walk_at "ev")
  | (refine ev_neI ?_ ?_ <;> walk_at "ev")
  | (refine ev_lenT ?_ <;> walk_at "ev")
  | (refine ev_lenL ?_ <;> walk_at "ev")
  | (refine ev_int1 ?_ <;> walk_at "ev")
  | (refine et_test ?_ <;> walk_at "ev")
  | (refine et_B ?_ <;> walk_at "ev")
  | (refine et_not ?_ <;> walk_at "ev")
  | (refine et_or ?_ (fun _ => ?_) <;> walk_at "ev")
  | (refine et_and ?_ (fun _ => ?_) <;> walk_at "ev"))
/-! ### combinations of a range, product of a list and a range, as what a loop walks -/
/-- the lists of numbers, one by one -/
structure CbL (n : Nat) (L : List (List Nat)) : Prop where
  step : ∀ i ix jx, L[i]? = some ix → L[i + 1]? = some jx → CbStep n ix (some jx)
  stop : ∀ i ix, i + 1 = L.length → L[i]? = some ix → CbStep n ix none
  lt : ∀ ix ∈ L, ix.length ≤ 10 ∧ ∀ k ∈ ix, k < n
  ne : 0 < L.length
def ItC (L : List (List Nat)) : It :=
  ⟨fun i _ => i < L.length, fun i H v H' => ∃ T ix, v = .ref T ∧ H T = none ∧ L[i]? = some ix ∧ H' = upd H T (.tup (ix.map fun k : Nat => V.int (k : Int))), fun i _ => i = L.length⟩
def CbSt (L : List (List Nat)) (it p : Addr) (us : Array Value) (i : Nat) (h : Heap) : Prop :=
  ∃ last st ix, h.get? it = some (cbO p st last ix) ∧ h.get? p = some { cls := .type "tuple", data := .seq us } ∧ ((i = 0 ∧ st = 0 ∧ L[0]? = some ix) ∨ (st = 1 ∧ ∃ j, i = j + 1 ∧ L[j]? = some ix))
theorem turn_comb {P : Program} {w : World} {K : PySem.W.Frag} {tg : Expr} {n : Nat} {L : List (List Nat)} {it p : Addr} {us : Array Value} (c : CbL n L) (hne : it ≠ p) (hu : ItemsOf (fun i v => ∃ t, v = .int (0 + i * 1) t) us n) : Turn P w K tg (ItC L) [it, p] it (CbSt L it p us) := by
  have cells : ∀ i h, CbSt L it p us i h → ∀ b ∈ [it, p], ∃ o, h.get? b = some o ∧ ∀ v, o.data ≠ .cell v := fun i h st b hb => by
    obtain ⟨last, st, ix, h1, h2, _⟩ := st
    have : b = it ∨ b = p := by simpa using hb
    rcases this with q | q <;> subst q
    · exact ⟨_, h1, fun _ e => nomatch e⟩
    · exact ⟨_, h2, fun _ e => nomatch e⟩
  refine { mem := List.mem_cons_self, obj := cells, keep := fun i h h' st k => ?_, item := ?_, done := ?_, self := fun A i s Q E st h => ?_ }
  · obtain ⟨last, st, ix, h1, h2, h3⟩ := st
    exact ⟨last, st, ix, k it (by simp) _ h1, k p (by simp) _ h2, h3⟩
  · rintro X rfl rfl rfl hc i pins s σ H E I hf st hlt
    have hlt : i < L.length := hlt
    have c0 := cells i s.heap st
    obtain ⟨last, st, ix, h1, h2, h3⟩ := st
    have hj : L[i]? = some L[i] := List.getElem?_eq_getElem hlt
    have hm := c.lt L[i] (List.getElem_mem hlt)
    refine cb_item h1 h2 hu.1 hne (jx := L[i]) ?_ hm.1 fun h' g1 g2 hk => ?_
    · rcases h3 with ⟨rfl, h4, h5⟩ | ⟨h4, j, rfl, h5⟩
      · exact .inl ⟨h4, Option.some.inj (hj.symm.trans h5)⟩
      · exact .inr ⟨h4, c.step j ix _ h5 hj⟩
    have hT : it < s.heap.objs.size := Heap.lt_size h1
    have hTp : p < s.heap.objs.size := Heap.lt_size h2
    have new : ObjOk X.prog X.w (upd H s.heap.objs.size (.tup (L[i].map fun k : Nat => V.int (k : Int)))) h' s.heap.objs.size (.tup (L[i].map fun k : Nat => V.int (k : Int))) := by
      refine ⟨by rw [List.length_map, sizeLine_eq]; omega, L[i].map fun k => us.getD k .none, ?_, ⟨_, g2, rfl, _, rfl⟩⟩
      have : ∀ l : List Nat, (∀ k ∈ l, k < n) → Vals (l.map fun k : Nat => V.int (k : Int)) (l.map fun k => us.getD k .none) := by
        intro l
        induction l with
        | nil => intro _; exact .nil
        | cons a r ih =>
          intro hl
          refine .cons ?_ (ih fun k hk => hl k (List.mem_cons_of_mem _ hk))
          have ha : a < us.size := by rw [hu.1]; exact hl a List.mem_cons_self
          obtain ⟨t, e⟩ := hu.2 a us[a] (Array.getElem?_eq_getElem ha)
          refine ⟨t, ?_⟩
          show us.getD a .none = _
          rw [Array.getD_eq_getD_getElem?, Array.getElem?_eq_getElem ha]
          show us[a] = _
          rw [e]
          congr 1
          omega
      exact this _ hm.2
    have I1 := I.turnedNew (t' := s.toks) (ch := [it, p]) (fun b o hb e => hk b o (fun z => hb (by simp [z])) e) hf (Nat.le_refl _) new
    refine ⟨_, rfl, go_of (s := { s with heap := h' }) g1 rfl rfl (by decide) ⟨.ref s.heap.objs.size, _, I1, rfl, ⟨_, _, rfl, I.hok.fresh (Nat.le_refl _), hj, rfl⟩, ⟨_, 1, L[i], g1, hk p _ (Ne.symm hne) h2, .inr ⟨rfl, i, rfl, hj⟩⟩, fun b hb => ?_⟩⟩
    have hbl : b < s.heap.objs.size := by
      obtain ⟨o, ho, _⟩ := c0 b hb
      exact Heap.lt_size ho
    rw [upd_ne (Nat.ne_of_lt hbl)]
    exact (hf b hb).1
  · rintro X rfl rfl rfl hc i pins s σ H E I hf st hlt
    obtain rfl : i = L.length := hlt
    obtain ⟨last, st, ix, h1, h2, h3⟩ := st
    rcases h3 with ⟨h4, _, _⟩ | ⟨h4, j, h6, h5⟩
    · have := c.ne
      omega
    · subst h4
      exact cb_end (I.ok.hd hc) h1 h2 hu.1 (c.stop j ix h6.symm h5) fun h' eb => ⟨rfl, I.turnedL (t' := s.toks) (ch := [it, p]) (fun b o hb e => eb b o (fun z => hb (by simp [z])) e) hf⟩
  · obtain ⟨last, st, ix, h1, _⟩ := st
    exact cb_iter h1 h
/-- pairs of places, one by one -/
structure PdL (a b : Nat) (L : List (Nat × Nat)) : Prop where
  step : ∀ i x y, L[i]? = some x → L[i + 1]? = some y → PdStep a b x (some y)
  stop : ∀ i x, i + 1 = L.length → L[i]? = some x → PdStep a b x none
  lt : ∀ x ∈ L, x.1 < a ∧ x.2 < b
  start : L[0]? = some (0, 0)
def ItP (xs : List V) (L : List (Nat × Nat)) : It :=
  ⟨fun i _ => i < L.length, fun i H v H' => ∃ T c x, v = .ref T ∧ H T = none ∧ L[i]? = some c ∧ xs[c.1]? = some x ∧ H' = upd H T (.tup [x, .int (c.2 : Nat)]), fun i _ => i = L.length⟩
def PdSt (L : List (Nat × Nat)) (it p p1 p2 : Addr) (us vs : Array Value) (i : Nat) (h : Heap) : Prop :=
  ∃ last st c, h.get? it = some (pdO p st last c.1 c.2) ∧ (h.get? p = some (tpO #[.ref p1, .ref p2]) ∧ h.get? p1 = some (tpO us) ∧ h.get? p2 = some (tpO vs)) ∧ ((i = 0 ∧ st = 0 ∧ L[0]? = some c) ∨ (st = 1 ∧ ∃ j, i = j + 1 ∧ L[j]? = some c))
theorem vals_at {xs : List V} {us : List Value} (r : Vals xs us) {i : Nat} (h : i < us.length) : ∃ x, xs[i]? = some x ∧ RelV x (us.toArray.getD i .none) := by
  have hl : i < xs.length := by rw [r.length]; exact h
  obtain ⟨u, hu, ru⟩ := r.get (List.getElem?_eq_getElem hl)
  refine ⟨xs[i], List.getElem?_eq_getElem hl, ?_⟩
  rw [Array.getD_eq_getD_getElem?, List.getElem?_toArray, hu]
  exact ru
theorem turn_prod {P : Program} {w : World} {K : PySem.W.Frag} {tg : Expr} {n : Nat} {L : List (Nat × Nat)} {it p p1 p2 : Addr} {us : List Value} {vs : Array Value} {xs : List V} (c : PdL us.length n L) (hne : p ≠ it ∧ p1 ≠ it ∧ p2 ≠ it) (rx : Vals xs us) (hu : ItemsOf (fun i v => ∃ t, v = .int (0 + i * 1) t) vs n) : Turn P w K tg (ItP xs L) [it, p, p1, p2] it (PdSt L it p p1 p2 us.toArray vs) := by
  have mem4 : ∀ b, b ∈ [it, p, p1, p2] → b = it ∨ b = p ∨ b = p1 ∨ b = p2 := fun b hb => by simpa using hb
  have cells : ∀ i h, PdSt L it p p1 p2 us.toArray vs i h → ∀ b ∈ [it, p, p1, p2], ∃ o, h.get? b = some o ∧ ∀ v, o.data ≠ .cell v := fun i h st b hb => by
    obtain ⟨last, st, ix, h1, ⟨h2, h3, h4⟩, _⟩ := st
    rcases mem4 b hb with q | q | q | q <;> subst q
    · exact ⟨_, h1, fun _ e => nomatch e⟩
    · exact ⟨_, h2, fun _ e => nomatch e⟩
    · exact ⟨_, h3, fun _ e => nomatch e⟩
    · exact ⟨_, h4, fun _ e => nomatch e⟩
  have sz : us.toArray.size = us.length := List.size_toArray
  refine { mem := List.mem_cons_self, obj := cells, keep := fun i h h' st k => ?_, item := ?_, done := ?_, self := fun A i s Q E st h => ?_ }
  · obtain ⟨last, st, ix, h1, ⟨h2, h3, h4⟩, h5⟩ := st
    exact ⟨last, st, ix, k it (by simp) _ h1, ⟨k p (by simp) _ h2, k p1 (by simp) _ h3, k p2 (by simp) _ h4⟩, h5⟩
  · rintro X rfl rfl rfl hc i pins s σ H E I hf st hlt
    have hlt : i < L.length := hlt
    have c0 := cells i s.heap st
    obtain ⟨last, st, ix, h1, ⟨h2, h3, h4⟩, h5⟩ := st
    have hj : L[i]? = some L[i] := List.getElem?_eq_getElem hlt
    have hm := c.lt L[i] (List.getElem_mem hlt)
    refine pd_item (i' := L[i].1) (j' := L[i].2) h1 h2 h3 h4 ?_ fun h' g1 g2 hk => ?_
    · rw [sz, hu.1]
      rcases h5 with ⟨rfl, h6, h7⟩ | ⟨h6, j, rfl, h7⟩
      · have e := Option.some.inj (hj.symm.trans h7)
        exact .inl ⟨h6, Nat.lt_of_le_of_lt (Nat.zero_le _) hm.1, Nat.lt_of_le_of_lt (Nat.zero_le _) hm.2, by rw [e], by rw [e]⟩
      · exact .inr ⟨h6, c.step j ix _ h7 hj⟩
    obtain ⟨x, hx, rxx⟩ := vals_at rx hm.1
    have hv2 : L[i].2 < vs.size := by rw [hu.1]; exact hm.2
    obtain ⟨t, e⟩ := hu.2 L[i].2 vs[L[i].2] (Array.getElem?_eq_getElem hv2)
    have e2 : vs.getD L[i].2 .none = .int (L[i].2 : Nat) t := by
      rw [Array.getD_eq_getD_getElem?, Array.getElem?_eq_getElem hv2]
      show vs[L[i].2] = _
      rw [e]
      congr 1
      omega
    have new : ObjOk X.prog X.w (upd H s.heap.objs.size (.tup [x, .int (L[i].2 : Nat)])) h' s.heap.objs.size (.tup [x, .int (L[i].2 : Nat)]) :=
      ⟨by show 2 ≤ sizeLine; decide, [us.toArray.getD L[i].1 .none, vs.getD L[i].2 .none], .cons rxx (.cons ⟨t, e2⟩ .nil), ⟨_, g2, rfl, _, rfl⟩⟩
    have I1 := I.turnedNew (t' := s.toks) (ch := [it, p, p1, p2]) (fun b o hb e => hk b o (fun z => hb (by simp [z])) e) hf (Nat.le_refl _) new
    refine ⟨_, rfl, go_of (s := { s with heap := h' }) g1 rfl rfl (by decide) ⟨.ref s.heap.objs.size, _, I1, rfl, ⟨_, _, x, rfl, I.hok.fresh (Nat.le_refl _), hj, hx, rfl⟩, ⟨_, 1, L[i], g1, ⟨hk p _ hne.1 h2, hk p1 _ hne.2.1 h3, hk p2 _ hne.2.2 h4⟩, .inr ⟨rfl, i, rfl, hj⟩⟩, fun b hb => ?_⟩⟩
    have hbl : b < s.heap.objs.size := by
      obtain ⟨o, ho, _⟩ := c0 b hb
      exact Heap.lt_size ho
    rw [upd_ne (Nat.ne_of_lt hbl)]
    exact (hf b hb).1
  · rintro X rfl rfl rfl hc i pins s σ H E I hf st hlt
    obtain rfl : i = L.length := hlt
    obtain ⟨last, st, ix, h1, ⟨h2, h3, h4⟩, h5⟩ := st
    rcases h5 with ⟨h6, _, h7⟩ | ⟨h6, j, h8, h7⟩
    · have := (List.getElem?_eq_some_iff.mp h7).1
      omega
    · subst h6
      refine pd_end (I.ok.hd hc) h1 h2 h3 h4 ?_ fun h' eb => ⟨rfl, I.turnedL (t' := s.toks) (ch := [it, p, p1, p2]) (fun b o hb e => eb b o (fun z => hb (by simp [z])) e) hf⟩
      rw [sz, hu.1]
      exact c.stop j ix h8.symm h7
  · obtain ⟨last, st, ix, h1, _⟩ := st
    exact pd_iter h1 h
/-! the expressions -/
/-- range(e), just made -/
def PRz (X : Cx) (e : Expr) (t : L2.St → Hp → (Int → Int → Hp → Prop) → Prop) : Prop :=
  ∀ (pins : List (Addr × Obj)) (s : Shared) (σ : L2.St) (H : Hp) (Q : Int → Int → Hp → Prop), Inv X pins σ H s → t σ H Q →
    wpAny (model X.prog X.w) X.A (eval e X.env) (fun x s' => ∃ r a b t u v H', x = .ref r ∧ IsRange s'.heap r a b 1 t u v ∧ s'.heap.objs.size ≤ r + 1 ∧ Inv X pins σ H' s' ∧ Q a b H') X.xe s
theorem prz_1 {X : Cx} {a : Expr} {ta : TE} {p pos : Pos} (hg : Gl X "range") (hm : X.mg "range" = none) (ha : PE X a ta) (na : starEach [a] X.env = (false, eval a X.env) :: starEach [] X.env := by rfl) : PRz X (.Call (.Name "range" p) [a] [] pos) (tRg1 ta) := by
  intro pins s σ H Q I h
  refine Call_ (ld_blt I hg hm boot_range (PyProof.Rows.callWith_type1 (one_arg ha I h (fun v s2 x H2 I2 r q => ?_) na) na))
  obtain ⟨n, rfl, q⟩ := q
  obtain ⟨t, rfl⟩ := r
  refine call_range_1 ⟨s2.heap.objs.size, 0, n, _, _, _, H2, rfl, IsRange.new _ _ _ _ _ _ _, ?_, I2.kept fun b u e => Heap.get?_push_of_some _ e, q⟩
  show (s2.heap.push _).objs.size ≤ _
  rw [Heap.size_push]
  exact Nat.le_refl _
/-- a local name: nothing changes -/
theorem ld_here {X : Cx} {i : Nat} {x : Str} {pos : Pos} {pins : List (Addr × Obj)} {s : Shared} {σ : L2.St} {H : Hp} {v : V} {Q : Value → Shared → Prop} {E : Value → Shared → Prop} (I : Inv X pins σ H s) (hN : X.N[i]? = some x) (hv : Vis X.env.scope x) (e : σ[i]? = some (some v)) (hd : (x == ("__debug__" : Str)) = false) (hcd : (x == ("__classdict__" : Str)) = false)
    (q : ∀ u, RelV v u → Q u s) : wpAny (model X.prog X.w) X.A (eval (.Name x pos) X.env) Q E s := by
  obtain ⟨m, hn, hl⟩ := I.loc
  obtain ⟨u, r, l⟩ := hl i x v hN e hv
  have fin := q u r
  rcases l with ⟨hk, hm⟩ | ⟨hk | hk, c, hc, hcell⟩
  · exact wpAny_Name (wpAny_loadName_local I.ok.kind hk hn hm fin) hd
  · exact wpAny_Name (wpAny_loadName_cell I.ok.kind hk hc hcell fin) hd
  · exact wpAny_Name (wpAny_loadName_free I.ok.kind hk hc hcell fin hcd) hd
def iComb (ta : L2.St → Hp → (Int → Int → Hp → Prop) → Prop) (j : Nat) : TI := fun σ H Rr => ta σ H fun a b H1 => ∃ (n k : Nat) (L : List (List Nat)), a = 0 ∧ b = (n : Int) ∧ σ[j]? = some (some (.int (k : Int))) ∧ (k = 1 ∨ k = 2) ∧ k ≤ n ∧ n ≤ 10 ∧ CbL n L ∧ L[0]? = some (List.range k) ∧ Rr (ItC L) H1
theorem pi_comb {X : Cx} {tg e : Expr} {x : Str} {j : Nat} {te : L2.St → Hp → (Int → Int → Hp → Prop) → Prop} {p p2 pos : Pos} (hg : Gl X "combinations") (hm : X.mg "combinations" = some (.type "itertools.combinations")) (he : PRz X e te) (hN : X.N[j]? = some x) (hv : Vis X.env.scope x) (hc : X.calm = true)
    (hs : starEach [e, .Name x p2] X.env = (false, eval e X.env) :: starEach [.Name x p2] X.env := by rfl) (hs2 : starEach [.Name x p2] X.env = (false, eval (.Name x p2) X.env) :: starEach [] X.env := by rfl) (hpl : (backTo pos (starEach [.Name x p2] X.env)).any (·.1) = false := by rfl)
    (hd : (x == ("__debug__" : Str)) = false := by decide) (hcd : (x == ("__classdict__" : Str)) = false := by decide) : PI X tg (.Call (.Name "combinations" p) [e, .Name x p2] [] pos) (iComb te j) := by
  refine ⟨fun pins s σ H Rr I h => ?_⟩
  refine Call_ (ld_glob I hg hm (PyProof.Rows.callWith_type1 (args_cons (thn (he pins s σ H _ I h) fun v s1 ⟨r, a, b, t1, t2, t3, H1, ev, hr, hz, I1, n, k, L, ha, hb, hk, hk2, hkn, hn, cl, cs, q⟩ => args_cons (ld_here I1 hN hv hk hd hcd fun u hu => args_nil ?_) hs2) hs) hs hpl))
  subst ev ha hb
  obtain ⟨t, rfl⟩ := hu
  have fin : ∀ (h' : Heap) (it p : Addr) (tk : Nat) (us : Array Value), (∀ b o, s1.heap.get? b = some o → h'.get? b = some o) → s1.heap.objs.size ≤ p → p < it → h'.get? it = some (cbO p 0 .none (List.range k)) → h'.get? p = some { cls := .type "tuple", data := .seq us } → ItemsOf (fun i v => ∃ t, v = .int (0 + i * 1) t) us n →
      Shared.TypeIs { s1 with heap := h', toks := tk } (.ref it) "itertools.combinations" ∧ wpAny (model X.prog X.w) X.A (pyIter (.ref it)) (PIE X pins σ tg Rr) X.xe { s1 with heap := h', toks := tk } := by
    intro h' it p tk us keep hp hpi g1 g2 hus
    refine ⟨⟨_, g1, rfl⟩, cb_iter (s := { s1 with heap := h', toks := tk }) g1 ?_⟩
    refine ⟨it, [it, p], _, ItC L, H1, rfl, I1.kept keep, turn_comb cl (Nat.ne_of_gt hpi) hus, ⟨_, 0, List.range k, g1, g2, .inl ⟨rfl, rfl, cs⟩⟩, fun b hb => ?_, q⟩
    have hle : s1.heap.objs.size ≤ b := by
      have : b = it ∨ b = p := by simpa using hb
      rcases this with z | z <;> rw [z]
      · exact Nat.le_trans hp (Nat.le_of_lt hpi)
      · exact hp
    exact I1.fpOk hle (I1.hok.fresh hle)
  rcases hk2 with rfl | rfl
  · exact callType_newIn called_cb (by decide +kernel) (tc_cb _ _) (nc_cb _ _) (fun obj => PySem.F.args_object_init_3 obj _ _) en_cb (cb_new1 hkn hn) ⟨I1.ok.hd hc, hr, hz, fun h' it p tk us a1 a2 a3 a4 a5 a6 => fin h' it p tk us a1 a2 a3 a4 a5 a6⟩
  · exact callType_newIn called_cb (by decide +kernel) (tc_cb _ _) (nc_cb _ _) (fun obj => PySem.F.args_object_init_3 obj _ _) en_cb (cb_new2 hkn hn) ⟨I1.ok.hd hc, hr, hz, fun h' it p tk us a1 a2 a3 a4 a5 a6 => fin h' it p tk us a1 a2 a3 a4 a5 a6⟩
def iProd (K : PySem.W.Frag) (tl : TE) (ta : L2.St → Hp → (Int → Int → Hp → Prop) → Prop) : TI := fun σ H Rr => tl σ H fun x H1 => ∃ l xs, x = .ref l ∧ SqL K H1 l xs ∧ ta σ H1 fun a b H2 => SqL K H2 l xs ∧ ∃ (n : Nat) (L : List (Nat × Nat)), a = 0 ∧ b = (n : Int) ∧ n ≤ 10 ∧ PdL xs.length n L ∧ Rr (ItP xs L) H2
theorem pi_product {X : Cx} {tg e e2 : Expr} {tl : TE} {te : L2.St → Hp → (Int → Int → Hp → Prop) → Prop} {p pos : Pos} (hg : Gl X "product") (hm : X.mg "product" = some (.type "itertools.product")) (hl : PE X e tl) (he : PRz X e2 te) (hc : X.calm = true)
    (hs : starEach [e, e2] X.env = (false, eval e X.env) :: starEach [e2] X.env := by rfl) (hs2 : starEach [e2] X.env = (false, eval e2 X.env) :: starEach [] X.env := by rfl) (hpl : (backTo pos (starEach [e2] X.env)).any (·.1) = false := by rfl) : PI X tg (.Call (.Name "product" p) [e, e2] [] pos) (iProd X.K tl te) := by
  refine ⟨fun pins s σ H Rr I h => ?_⟩
  refine Call_ (ld_glob I hg hm (PyProof.Rows.callWith_type1 (args_cons (thn (hl.run pins s σ H _ I h) fun v s0 ⟨x, H0, I0, r0, l, xs, ex, hq0, h0⟩ => args_cons (thn (he pins s0 σ H0 _ I0 h0) fun v2 s1 ⟨r, a, b, t1, t2, t3, H1, ev, hr, hz, I1, hq, n, L, ha, hb, hn, cl, q⟩ => args_nil ?_) hs2) hs) hs hpl))
  subst ex ev ha hb
  cases r0
  obtain ⟨us, rv, pl, hsz⟩ := I1.list hq
  obtain ⟨ol, hol, hcl, k, hdl⟩ := pl.isList
  refine callType_newIn called_pd (by decide +kernel) (tc_pd _ _) (nc_pd _ _) (fun obj => PySem.F.args_object_init_3 obj _ _) en_pd (pd_new hn (by rw [List.size_toArray, ← rv.length]; exact hsz)) ⟨I1.ok.hd hc, hr, hz, hol, hcl, hdl, fun h' it pp p1 p2 tk vs keep z1 z2 z3 z4 g0 g1 g2 g3 hvs => ⟨⟨_, g0, rfl⟩, pd_iter (s := { s1 with heap := h', toks := tk }) g0 ?_⟩⟩
  have z5 : p1 < it := Nat.lt_trans z2 (Nat.lt_trans z3 z4)
  have z6 : p2 < it := Nat.lt_trans z3 z4
  rw [rv.length] at cl
  refine ⟨it, [it, pp, p1, p2], _, ItP xs L, H1, rfl, I1.kept keep, turn_prod cl ⟨Nat.ne_of_lt z4, Nat.ne_of_lt z5, Nat.ne_of_lt z6⟩ rv hvs, ⟨_, 0, (0, 0), g0, ⟨g1, g2, g3⟩, .inl ⟨rfl, rfl, cl.start⟩⟩, fun b hb => ?_, q⟩
  have hle : s1.heap.objs.size ≤ b := by
    have : b = it ∨ b = pp ∨ b = p1 ∨ b = p2 := by simpa using hb
    rcases this with z | z | z | z <;> rw [z]
    · exact Nat.le_trans z1 (Nat.le_of_lt z5)
    · exact Nat.le_trans z1 (Nat.le_of_lt (Nat.lt_trans z2 z3))
    · exact z1
    · exact Nat.le_trans z1 (Nat.le_of_lt z2)
  exact I1.fpOk hle (I1.hok.fresh hle)
end RW
set_option Elab.async false
set_option linter.all false
set_option maxRecDepth 100000
set_option maxHeartbeats 4000000
namespace RW
open PySem PySem.Spec PyProof.Rows L2
local macro_rules | `(tactic| walk_at "sm") => `(tactic| first
  | exact Same.refl _
  | assumption
  | exact same_new (by assumption)
  | (refine Same.trans ?_ (by assumption); walk_at "sm")
  | (refine Same.trans ?_ (same_new (by assumption)); walk_at "sm"))
local macro_rules | `(tactic| walk_at "rp") => `(tactic| first
  | assumption
  | exact rfl
  | (refine Rep.mono (tx_of ?_) (by assumption); walk_at "sm")
  | (refine Mo.mo ?_ (by assumption); walk_at "sm"))
local macro_rules | `(tactic| walk_at "ev") => `(tactic| first
  | exact ev_ci
  | exact ev_cs
  | exact ev_cb
  | exact ev_cn
  | (refine @ev_rv _ _ _ _ _ _ _ rfl ?_; walk_at "rp")
  | (refine @ev_var _ _ _ _ _ ?_ rfl ?_; (first | infer_instance | skip); walk_at "rp")
  | (refine ev_ii ?_ ?_ <;> walk_at "ev")
  | (refine ev_ib ?_ ?_ <;> walk_at "ev")
  | (refine ev_eqI ?_ ?_ <;> walk_at "ev")
  | (refine ev_neI ?_ ?_ <;> walk_at "ev")
  | (refine ev_lenT ?_ <;> walk_at "ev")
  | (refine ev_lenL ?_ <;> walk_at "ev")
  | (refine ev_int1 ?_ <;> walk_at "ev")
  | (refine et_test ?_ <;> walk_at "ev")
  | (refine et_B ?_ <;> walk_at "ev")
  | (refine et_not ?_ <;> walk_at "ev")
  | (refine et_or ?_ (fun _ => ?_) <;> walk_at "ev")
  | (refine et_and ?_ (fun _ => ?_) <;> walk_at "ev"))
/-! ### len(set(names)): a list of texts, no two alike -/
def metS (xs : List Str) (i : Nat) : Str → Bool := fun k => (xs.take i).contains k
theorem metS_succ {xs : List Str} {i : Nat} (hi : i < xs.length) (k : Str) : (metS xs i k || decide (k = xs.getD i Str.empty)) = metS xs (i + 1) k := by
  unfold metS
  have e : xs.getD i Str.empty = xs[i] := by rw [List.getD_eq_getElem?_getD, List.getElem?_eq_getElem hi]; rfl
  rw [List.take_add_one, List.getElem?_eq_getElem hi, e]
  show _ = (xs.take i ++ [xs[i]]).contains k
  rw [List.contains_append, List.contains_cons, List.contains_nil, Bool.or_false]
  congr 1
theorem metS_new {xs : List Str} {i : Nat} (hd : xs.Nodup) (hi : i < xs.length) : metS xs i (xs.getD i Str.empty) = false := by
  have e : xs.getD i Str.empty = xs[i] := by rw [List.getD_eq_getElem?_getD, List.getElem?_eq_getElem hi]; rfl
  unfold metS
  rw [e]
  cases h : (xs.take i).contains xs[i] with
  | false => rfl
  | true =>
    obtain ⟨j, hj, ej⟩ := List.mem_iff_getElem.mp (List.contains_iff_mem.mp h)
    rw [List.length_take] at hj
    rw [List.getElem_take] at ej
    have := List.pairwise_iff_getElem.mp hd j i (by omega) hi (by omega)
    exact absurd ej this
section
variable {prog : Program} {w : World} {A : Around} {R : Result → Shared → Prop} {I S : Addr} {fp wr : List Addr} {G : Array GenState → Array GenState → Prop} {n : Nat} {P : Nat → Value → Prop} {St : Nat → Shared → Prop}
theorem loopN (W : WalksS prog w A.in1 I fp wr G n P St) (hSf : S ∉ fp) {xs : List Str} (hx : xs.length = n) (hd : xs.Nodup) (hb : n + 1 < scanBound) (hv : ∀ i v, P i v → ∃ t, v = .str (xs.getD i Str.empty) t) :
    ∀ (m i : Nat) (s : Shared), i + m = n → St i s → s.heap.SetOf (PySem.strKind prog w) S (metS xs i) i → (∀ s', Moved (S :: wr) G s s' → s'.heap.SetOf (PySem.strKind prog w) S (metS xs n) n → R (.ok (.ret .none)) s') →
      codeAny (model prog w) A (.builtin "set.update.loop" ⟨[.ref S, .ref I], []⟩) R s := by
  have stays : ∀ {i : Nat} {s s' : Shared}, s.heap.SetOf (PySem.strKind prog w) S (metS xs i) i → Moved wr G s s' → s'.heap.SetOf (PySem.strKind prog w) S (metS xs i) i := fun ⟨o, es, ep, t, ho, r⟩ hm => ⟨o, es, ep, t, hm.heap S _ (fun z => hSf (W.sub _ z)) ho, r⟩
  have more : ∀ b ∈ wr, b ∈ S :: wr := fun b hb => List.mem_cons_of_mem _ hb
  intro m
  induction m with
  | zero =>
    rintro i s rfl hst hS hR
    refine codeAny_builtin PyProof.Rows.F.entry_set_update_loop ?_
    rw [Around.under_plainId PyProof.Rows.F.plain_set_update_loop _]
    show wpAny _ A.in1 (pyNext (.ref I) >>= _) _ _ s
    exact wpAny_bind (W.done s _ _ hst fun s' hm => wpAny_pure (hR s' (hm.mono more) (stays hS hm)))
  | succ m ih =>
    intro i s hi hst hS hR
    have hlt : i < n := by omega
    refine codeAny_builtin PyProof.Rows.F.entry_set_update_loop ?_
    rw [Around.under_plainId PyProof.Rows.F.plain_set_update_loop _]
    show wpAny _ A.in1 (pyNext (.ref I) >>= _) _ _ s
    refine wpAny_bind (W.item i s _ _ hlt hst fun v s1 hP hst1 hm => ?_)
    obtain ⟨t, rfl⟩ := hv i v hP
    show wpAny _ A.in1 (holding [Value.str (xs.getD i Str.empty) t] (setAdd S (.str (xs.getD i Str.empty) t)) >>= _) _ _ s1
    refine wpAny_bind (wpAny_holding ?_)
    unfold setAdd
    refine wpAny_holding (wpAny_bind ((PySem.strKind prog w).pyHash (k := xs.getD i Str.empty) (strKind_is _ _ _ _) ?_))
    have hS1 : s1.heap.SetOf (PySem.strKind prog w) S (metS xs i) i := stays hS hm
    refine wpAny_setAddHashed_of (knd := PySem.strKind prog w) (s := { s1 with toks := s1.toks + 1 }) (strKind_is _ _ _ _) rfl hS1 (by omega) fun h' hsb hS2 => ?_
    rw [metS_new hd (by omega)] at hS2
    have hS3 : h'.SetOf (PySem.strKind prog w) S (metS xs (i + 1)) (i + 1) := PyProof.Rows.SetOf_congr hS2 (fun k => metS_succ (by omega) k) rfl
    have other : ∀ b o, b ≠ S → s1.heap.get? b = some o → h'.get? b = some o := fun b o hb e => (hsb.2 b hb).trans e
    refine wpAny_pure ⟨plainId_quiet PyProof.Rows.F.plain_set_update_loop _, ih (i + 1) _ (by omega) (W.frame _ s1 _ _ hst1 (Nat.le_succ _) fun b hb o e => other b o (fun z => hSf (z ▸ hb)) e) hS3 fun s2 hm2 hS4 => ?_⟩
    exact hR s2 (Moved.trans W.gtrans ((hm.mono more).then_heap (Nat.le_succ _) fun b o hb e => other b o (fun z => hb (z ▸ List.mem_cons_self)) e) hm2) hS4
end
section
variable {prog : Program} {w : World} {A : Around} {E : Value → Shared → Prop} {s : Shared}
abbrev freshSet (led : Bool) : Obj := { cls := .type "set", dict := none, data := .set #[] 0 (.fresh 0 0 led) }
theorem call_setN {l : Addr} {items : Array Value} {xs : List Str} {Q : Value → Shared → Prop} (hh : A.handled = none) (hl : s.heap.IsList l items) (hi : PyProof.Rows.StrsAre items.toList xs) (hd : xs.Nodup) (hb : xs.length + 1 < scanBound)
    (q : ∀ (h' : Heap) (tk : Nat), h'.SetOf (PySem.strKind prog w) s.heap.objs.size (metS xs xs.length) xs.length → (∀ b o, b < s.heap.objs.size → s.heap.get? b = some o → h'.get? b = some o) → Q (.ref s.heap.objs.size) { s with heap := h', toks := tk }) :
    wpAny (model prog w) A (call (.type "set") [.ref l]) Q E s := by
  have hsz : xs.length = items.size := by rw [← StrsAre.len_eq hi, Array.length_toList]
  obtain ⟨cx, rest, hmro⟩ := PySem.F.called_set.mro
  have k1 := PySem.F.called_set.made
  have k2 := PySem.F.called_set.sub
  have k3 := PySem.F.called_set.notType
  have k4 := PySem.F.called_set.canCreate
  have k5 := PySem.F.typeCall_set_1 (.ref l)
  refine wpAny_call (codeAny_of_tree ?_)
  show wpAny _ _ (callAny (.type "set") _) _ _ _
  refine wpAny_pure ⟨Code.quiet_builtin _ (by decide +kernel), codeAny_builtin PySem.F.entry_type_call ?_⟩
  rw [Around.under_plain (weight_type_call_type "set" [.ref l] []) rfl]
  repeat (any_goals (first | assumption | wp_step))
  refine codeAny_mono (code_set_new_1 (.ref l) (E := E) (Q₁ := fun v s1 => ∃ led : Bool, v = .ref s.heap.objs.size ∧ s1 = { s with heap := s.heap.push (freshSet led) }) fun led => ⟨led, rfl, rfl⟩) fun r s1 hr => ?_
  rcases r with e | fl
  · exact hr
  cases fl <;> first | exact hr.elim | skip
  obtain ⟨led, rfl, rfl⟩ := hr
  have hS : (s.heap.push (freshSet led)).get? s.heap.objs.size = some (freshSet led) := Heap.get?_push_size _ rfl
  have hT : Shared.TypeIs { s with heap := s.heap.push (freshSet led) } (.ref s.heap.objs.size) "set" := ⟨_, hS, rfl⟩
  have k6 := PySem.F.called_set.init.lookup
  have k7 := PySem.F.called_set.init.bind (.ref s.heap.objs.size)
  repeat (any_goals (first | assumption | wp_step))
  refine codeAny_mono (codeAny_call_builtin (R := wants (fun v s2 => v = .none ∧ ∃ h' tk, s2 = { s with heap := h', toks := tk } ∧ h'.SetOf (PySem.strKind prog w) s.heap.objs.size (metS xs xs.length) xs.length ∧ ∀ b o, b < s.heap.objs.size → s.heap.get? b = some o → h'.get? b = some o) E)
    PySem.F.called_set.init.plain PySem.F.entry_set_init (check_set_init_1 hT ?_)) fun r2 s2 hr2 => ?_
  · obtain ⟨⟨_, dc, _, sl⟩, hol, rfl, nl, rfl⟩ := hl
    have hl1 : (s.heap.push (freshSet led)).IsList l items := ⟨_, Heap.get?_push_of_some _ hol, rfl, nl, rfl⟩
    have hol2 : (s.heap.push (freshSet led)).get? l = some { cls := .type "list", dict := dc, data := .seq items nl, slots := sl } := Heap.get?_push_of_some _ hol
    have k8 := PySem.F.sub_list_set
    have k9 := PySem.F.sub_list_frozenset
    have k10 : (Value.type "list" == Value.type "dict") = false := by decide
    unfold Builtin.«set.__init__» noKeywords Builtin.Frozenset.updateFrom
    generalize hPI : pyIter = PI
    wp_walk
    subst hPI
    have hlS : l < s.heap.objs.size := Heap.lt_size hol
    have hz : (s.heap.push (freshSet led)).objs.size = s.heap.objs.size + 1 := Heap.size_push ..
    have far : ∀ b, b < s.heap.objs.size → b ≠ (s.heap.push (freshSet led)).objs.size := fun b hb => by rw [hz]; exact Nat.ne_of_lt (Nat.lt_succ_of_lt hb)
    refine wpAny_pyIter_list hl1 (wpAny_bind (wpAny_runValue ?_))
    have hv : ∀ (i : Nat) (v : Value), items[i]? = some v → ∃ t, v = .str (xs.getD i Str.empty) t := fun i v hv => SS.strs_at hi i v (by rw [Array.getElem?_toList]; exact hv)
    have hh3 : A.in1.in1.in1.handled = none := by simp [hh]
    refine loopN (S := s.heap.objs.size) ((Walks.list hh3 _ l (far l hlS) items).toS) ?_ hsz hd (by rw [← hsz]; exact hb) hv items.size 0 _ (Nat.zero_add _) ⟨⟨_, Heap.get?_push_size _ rfl, rfl, rfl⟩, hl1.push _⟩ ?_ fun s3 hm hS3 => ?_
    · intro hmem
      have : s.heap.objs.size = (s.heap.push (freshSet led)).objs.size ∨ s.heap.objs.size = l := by simpa using hmem
      rcases this with z | z
      · rw [hz] at z
        exact Nat.ne_of_lt (Nat.lt_succ_self _) z
      · exact Nat.ne_of_gt hlS z
    · have g : ((s.heap.push (freshSet led)).push { cls := .type "list_iterator", data := .fields #[.ref l, .int 0 0] }).get? s.heap.objs.size = some (freshSet led) := Heap.get?_push_of_some _ hS
      exact PyProof.Rows.SetOf_congr ((PyProof.Rows.setObjOf_fresh (knd := PySem.strKind prog w) led).setOf g (by unfold scanBound; omega)) (fun _ => rfl) rfl
    · obtain ⟨h', g', d', tk', os'⟩ := s3
      obtain rfl : g' = s.gens := hm.gens
      obtain rfl : d' = s.drawn := hm.drawn
      obtain rfl : os' = s.os := hm.os
      rw [← hsz] at hS3
      refine wpAny_pure ?_
      show wpAny _ _ (ret Value.none) _ _ _
      refine wpAny_pure ⟨rfl, h', tk', rfl, hS3, fun b o hb e => ?_⟩
      refine hm.heap b o (fun z => ?_) (Heap.get?_push_of_some _ (Heap.get?_push_of_some _ e))
      have : b = s.heap.objs.size ∨ b = (s.heap.push (freshSet led)).objs.size := by simpa using z
      rcases this with z | z
      · exact Nat.ne_of_lt hb z
      · exact far b hb z
  · rcases r2 with e | fl2
    · exact hr2
    cases fl2 <;> first | exact hr2.elim | skip
    obtain ⟨rfl, h', tk, rfl, hS2, hk⟩ := hr2
    repeat (any_goals (first | assumption | wp_step))
    exact q _ _ hS2 hk
end
end RW
set_option Elab.async false
set_option linter.all false
set_option maxRecDepth 100000
set_option maxHeartbeats 4000000
namespace RW
open PySem PySem.Spec PyProof.Rows L2
local macro_rules | `(tactic| walk_at "sm") => `(tactic| first
  | exact Same.refl _
  | assumption
  | exact same_new (by assumption)
  | (refine Same.trans ?_ (by assumption); walk_at "sm")
  | (refine Same.trans ?_ (same_new (by assumption)); walk_at "sm"))
local macro_rules | `(tactic| walk_at "rp") => `(tactic| first
  | assumption
  | exact rfl
  | (refine Rep.mono (tx_of ?_) (by assumption); walk_at "sm")
  | (refine Mo.mo ?_ (by assumption); walk_at "sm"))
local macro_rules | `(tactic| walk_at "ev") => `(tactic| first
  | exact ev_ci
  | exact ev_cs
  | exact ev_cb
  | exact ev_cn
  | (refine @ev_rv _ _ _ _ _ _ _ rfl ?_; walk_at "rp")
  | (refine @ev_var _ _ _ _ _ ?_ rfl ?_; (first | infer_instance | skip); walk_at "rp")
  | (refine ev_ii ?_ ?_ <;> walk_at "ev")
  | (refine ev_ib ?_ ?_ <;> walk_at "ev")
  | (refine ev_eqI ?_ ?_ <;> walk_at "ev")
  | (refine ev_neI ?_ ?_ <;> walk_at "ev")
  | (refine ev_lenT ?_ <;> walk_at "ev")
  | (refine ev_lenL ?_ <;> walk_at "ev")
  | (refine ev_int1 ?_ <;> walk_at "ev")
  | (refine et_test ?_ <;> walk_at "ev")
  | (refine et_B ?_ <;> walk_at "ev")
  | (refine et_not ?_ <;> walk_at "ev")
  | (refine et_or ?_ (fun _ => ?_) <;> walk_at "ev")
  | (refine et_and ?_ (fun _ => ?_) <;> walk_at "ev"))
/-! ### typed rules: combinations, product, sets of texts, bits, tuples by numbers, data -/
/-- the lists of k of the numbers below n -/
def combN (n k : Nat) : List (List Nat) :=
  if (n, k) = (3, 1) then [[0], [1], [2]] else if (n, k) = (2, 1) then [[0], [1]] else if (n, k) = (3, 2) then [[0, 1], [0, 2], [1, 2]] else if (n, k) = (2, 2) then [[0, 1]] else []
def okComb (n k : Nat) : Prop := (n = 3 ∨ n = 2) ∧ (k = 1 ∨ k = 2)
def natsI (l : List Nat) : List Int := l.map fun k : Nat => (k : Int)
def combI (n k : Nat) : List (List Int) := (combN n k).map natsI
theorem cbl31 : CbL 3 [[0], [1], [2]] where
  step i ix jx h1 h2 := by
    rcases i with _ | _ | _ | i <;> simp at h1 h2 <;> subst h1 <;> subst h2 <;> first | exact CbStep.a | exact CbStep.b
  stop i ix h0 h1 := by
    obtain rfl : i = 2 := by simpa using h0
    simp at h1
    subst h1
    exact CbStep.c
  lt := by decide
  ne := by decide
theorem cbl21 : CbL 2 [[0], [1]] where
  step i ix jx h1 h2 := by
    rcases i with _ | _ | i <;> simp at h1 h2 <;> subst h1 <;> subst h2 <;> exact CbStep.d
  stop i ix h0 h1 := by
    obtain rfl : i = 1 := by simpa using h0
    simp at h1
    subst h1
    exact CbStep.e
  lt := by decide
  ne := by decide
theorem cbl32 : CbL 3 [[0, 1], [0, 2], [1, 2]] where
  step i ix jx h1 h2 := by
    rcases i with _ | _ | _ | i <;> simp at h1 h2 <;> subst h1 <;> subst h2 <;> first | exact CbStep.f | exact CbStep.g
  stop i ix h0 h1 := by
    obtain rfl : i = 2 := by simpa using h0
    simp at h1
    subst h1
    exact CbStep.h
  lt := by decide
  ne := by decide
theorem cbl22 : CbL 2 [[0, 1]] where
  step i ix jx h1 h2 := by
    rcases i with _ | i <;> simp at h1 h2
  stop i ix h0 h1 := by
    obtain rfl : i = 0 := by simpa using h0
    simp at h1
    subst h1
    exact CbStep.i
  lt := by decide
  ne := by decide
theorem comb_ok {n k : Nat} (h : okComb n k) : CbL n (combN n k) ∧ (combN n k)[0]? = some (List.range k) := by
  obtain ⟨rfl | rfl, rfl | rfl⟩ := h
  · exact ⟨cbl31, rfl⟩
  · exact ⟨cbl32, rfl⟩
  · exact ⟨cbl21, rfl⟩
  · exact ⟨cbl22, rfl⟩
theorem rps_nats {H : Hp} : ∀ l : List Nat, Rps H (natsI l) (l.map fun k : Nat => V.int (k : Int))
  | [] => .nil
  | _ :: l => .cons rfl (rps_nats l)
section
variable {K : PySem.W.Frag} {σ : L2.St} {H : Hp} {ta tb tl te : TE}
theorem evi_comb {n k j : Nat} (h : Ev ta σ H (R (n : Int))) (hj : σ[j]? = some (some (.int (k : Int)))) (ok : okComb n k) : EvI (iComb (tRg1 ta) j) σ H (combI n k).length (RI (combI n k)) := fun H1 e Rr q =>
  h H1 e _ fun v H2 e2 hv => by
    obtain ⟨c1, c2⟩ := comb_ok ok
    refine ⟨(n : Int), hv, n, k, combN n k, rfl, rfl, hj, ok.2, ?_, ?_, c1, c2, q _ H2 e2 ?_⟩
    · obtain ⟨rfl | rfl, rfl | rfl⟩ := ok <;> decide
    · obtain ⟨rfl | rfl, _⟩ := ok <;> decide
    have hl : (combI n k).length = (combN n k).length := by unfold combI; rw [List.length_map]
    rw [hl]
    refine ⟨fun i H3 hi e3 => hi, fun H3 e3 => rfl, fun i H3 x H' hi e3 y => ?_⟩
    obtain ⟨T, ix, rfl, hT, hL, rfl⟩ := y
    have s := same_new (o := .tup (ix.map fun k : Nat => V.int (k : Int))) hT
    exact ⟨s, natsI ix, by unfold combI; rw [List.getElem?_map, hL]; rfl, T, _, rfl, upd_same, rps_nats ix⟩
/-- places in a list of a and in the numbers below b -/
def prodN (a b : Nat) : List (Nat × Nat) := if (a, b) = (1, 2) then [(0, 0), (0, 1)] else if (a, b) = (2, 2) then [(0, 0), (0, 1), (1, 0), (1, 1)] else []
def okProd (a b : Nat) : Prop := (a = 1 ∨ a = 2) ∧ b = 2
theorem pdl12 : PdL 1 2 [(0, 0), (0, 1)] where
  step i ix jx h1 h2 := by
    rcases i with _ | _ | i <;> simp at h1 h2 <;> subst h1 <;> subst h2 <;> exact PdStep.a
  stop i ix h0 h1 := by
    obtain rfl : i = 1 := by simpa using h0
    simp at h1
    subst h1
    exact PdStep.b
  lt := by decide
  start := rfl
theorem pdl22 : PdL 2 2 [(0, 0), (0, 1), (1, 0), (1, 1)] where
  step i ix jx h1 h2 := by
    rcases i with _ | _ | _ | _ | i <;> simp at h1 h2 <;> subst h1 <;> subst h2 <;> first | exact PdStep.c | exact PdStep.d | exact PdStep.e
  stop i ix h0 h1 := by
    obtain rfl : i = 3 := by simpa using h0
    simp at h1
    subst h1
    exact PdStep.f
  lt := by decide
  start := rfl
theorem prod_ok {a b : Nat} (h : okProd a b) : PdL a b (prodN a b) := by
  obtain ⟨rfl | rfl, rfl⟩ := h
  · exact pdl12
  · exact pdl22
def prodI {α : Type} (d : α) (xs : List α) (n : Nat) : List (α × Int) := (prodN xs.length n).map fun c => (xs.getD c.1 d, (c.2 : Int))
theorem evi_prod {α : Type} [Rep α] (d : α) {xs : List α} {n : Nat} (hl : Ev tl σ H (Ls xs)) (h : Ev ta σ H (R (n : Int))) (ok : okProd xs.length n) : EvI (iProd K tl (tRg1 ta)) σ H (prodI d xs n).length (RI (prodI d xs n)) := fun H1 e Rr q =>
  hl H1 e _ fun u H2 e2 ⟨l, vs, hu, hlv, r⟩ => by
    refine ⟨l, vs, hu, .inl (.inl hlv), h H2 (e.trans e2) _ fun v H3 e3 hv => ?_⟩
    have rl := r.length
    refine ⟨(n : Int), hv, .inl (.inl (e3 _ _ hlv)), n, prodN xs.length n, rfl, rfl, by have := ok.2; omega, by rw [← rl]; exact prod_ok ok, q _ H3 (e2.trans e3) ?_⟩
    have hz : (prodI d xs n).length = (prodN xs.length n).length := by unfold prodI; rw [List.length_map]
    rw [hz]
    refine ⟨fun i H4 hi e4 => hi, fun H4 e4 => rfl, fun i H4 x H' hi e4 y => ?_⟩
    obtain ⟨T, c, x1, rfl, hT, hL, hx, rfl⟩ := y
    have s := same_new (o := .tup [x1, .int (c.2 : Nat)]) hT
    obtain ⟨z, hz2, hr⟩ := r.getV hx
    refine ⟨s, (z, (c.2 : Int)), ?_, T, _, _, rfl, upd_same, Rep.mono (tx_of ((e3.trans e4).trans s)) hr, rfl⟩
    unfold prodI
    rw [List.getElem?_map, hL]
    show some (xs.getD c.1 d, (c.2 : Int)) = _
    rw [List.getD_eq_getElem?_getD, hz2]
    rfl
end
/-! len(set(..)) -/
def tLenSetN (K : PySem.W.Frag) (ta : TE) : TE := fun σ H Q => ta σ H fun x H1 => ∃ (l : Addr) (xs : List Str), x = .ref l ∧ SqL K H1 l (xs.map V.str) ∧ xs.Nodup ∧ xs.length ≤ 4000 ∧ Q (.int (xs.length : Nat)) H1
theorem pe_lenSetN {X : Cx} {a : Expr} {ta : TE} {p p2 r pos : Pos} (hc : X.calm = true) (hg : Gl X "len") (hm : X.mg "len" = none) (hg2 : Gl X "set") (hm2 : X.mg "set" = none) (ha : PE X a ta)
    (na : starEach [a] X.env = (false, eval a X.env) :: starEach [] X.env := by rfl) : PE X (.Call (.Name "len" p) [.Call (.Name "set" p2) [a] [] r] [] pos) (tLenSetN X.K ta) := by
  refine ⟨fun pins s σ H Q I h => Call_ (ld_blt I hg hm boot_len (PyProof.Rows.callWith_builtin1 (PyProof.Rows.args_cons ?_ rfl) rfl rfl))⟩
  refine Call_ (ld_blt I hg2 hm2 boot_set (PyProof.Rows.callWith_type1 (PyProof.Rows.args_cons (thn (ha.run pins s σ H _ I h) fun v s1 ⟨x, H1, I1, r1, l, xs, ex, hq, hnd, hl, q⟩ => PyProof.Rows.args_nil ?_) na) na rfl))
  subst ex
  cases r1
  obtain ⟨its, rv, pl, hz⟩ := I1.list hq
  refine call_setN (I1.ok.hd hc) pl.isList (by simpa using strsAre_of rv) hnd (by unfold scanBound; omega) fun h' tk hS hk => PyProof.Rows.args_nil ?_
  obtain ⟨o, es, ep, t, ho, hex, hd, _, _, _, hf, hn⟩ := hS
  have I2 : Inv X pins σ H1 { s1 with heap := h', toks := tk } := I1.kept fun b o e => hk b o (Heap.lt_size e) e
  exact call_len_set ho hex hd hf (by rw [hn]; omega) ⟨.int (xs.length : Nat), H1, I2.tok _, ⟨_, by rw [hn]⟩, q⟩
section
variable {K : PySem.W.Frag} {σ : L2.St} {H : Hp} {ta tb tl te : TE}
theorem ev_lenSet {xs : List Str} (h : Ev ta σ H (Ls xs)) (hd : xs.Nodup) (hl : xs.length ≤ 4000) : Ev (tLenSetN K ta) σ H (R (xs.length : Int)) := fun H1 e Q q =>
  h H1 e _ fun v H2 e2 ⟨a, vs, hv, ha, r⟩ => ⟨a, xs, hv, .inl (.inl (by rw [ha, r.strs])), hd, hl, q _ H2 e2 rfl⟩
theorem ev_bits {i : Int} (h : Ev ta σ H (R i)) : Ev (tBits ta) σ H (R ((Builtin.Int.intBits i : Nat) : Int)) := fun H1 e Q q =>
  h H1 e _ fun v H2 e2 hv => ⟨i, hv, q _ H2 e2 rfl⟩
theorem ev_repT {α : Type} [Rep α] {xs : List α} {k : Int} (ha : Ev ta σ H (R xs)) (hb : Ev tb σ H (R k)) (h0 : xs ≠ []) (hx : xs.length ≤ 1000) (h1 : 2 ≤ k) (h2 : k ≤ 1000) : Ev (tOp (rRepT K) ta tb) σ H (R (List.replicate k.toNat xs).flatten) :=
  ev_op ha hb fun v w H1 e h3 h4 Q q => by
    obtain ⟨a, vs, rfl, ha, r⟩ := h3
    have rl := r.length
    refine ⟨a, k, vs, rfl, h4, .inl (.inl ha), ?_, h1, h2, by omega, fun p hp => q _ _ (same_new hp) ⟨p, _, rfl, upd_same, Rps.mono (tx_of (same_new hp)) (rps_flat r _)⟩⟩
    intro z
    subst z
    cases xs with
    | nil => exact h0 rfl
    | cons x t => simp at rl
/-! data of tuples of ints -/
def dI (ns : List Int) : PyData := .tuple (ns.map PyData.int)
theorem dp_ints {H : Hp} : ∀ {ns : List Int} {vs : List V}, Rps H ns vs → DpAll K H vs (ns.map PyData.int)
  | _, _, .nil => .nil
  | _, _, .cons r t => by
    rw [show _ = V.int _ from r]
    exact .cons (.int _) (dp_ints t)
theorem dp_tup {H : Hp} {ns : List Int} {v : V} (h : Rep.rp H ns v) : Dp K H v (dI ns) := by
  obtain ⟨a, vs, rfl, ha, r⟩ := h
  exact .tup (.inl (.inl ha)) (dp_ints r)
theorem dp_tups {H : Hp} : ∀ {nss : List (List Int)} {vs : List V}, Rps H nss vs → DpAll K H vs (nss.map dI)
  | _, _, .nil => .nil
  | _, _, .cons r t => .cons (dp_tup r) (dp_tups t)
theorem eqv_ints : ∀ ns ms : List Int, PyData.eqvAll (ns.map PyData.int) (ms.map PyData.int) = decide (ns = ms)
  | [], [] => rfl
  | [], _ :: _ => rfl
  | _ :: _, [] => rfl
  | n :: ns, m :: ms => by
    show (n == m && PyData.eqvAll (ns.map PyData.int) (ms.map PyData.int)) = _
    rw [eqv_ints ns ms]
    by_cases h : n = m
    · subst h
      by_cases h2 : ns = ms
      · subst h2; simp
      · simp [h2]
    · simp [h]
theorem eqv_dI (ns ms : List Int) : PyData.eqv (dI ns) (dI ms) = decide (ns = ms) := eqv_ints ns ms
end
end RW
set_option Elab.async false
set_option linter.all false
set_option maxRecDepth 100000
set_option maxHeartbeats 4000000
namespace RW
open PySem PySem.Spec PyProof.Rows L2
local macro_rules | `(tactic| walk_at "sm") => `(tactic| first
  | exact Same.refl _
  | assumption
  | exact same_new (by assumption)
  | (refine Same.trans ?_ (by assumption); walk_at "sm")
  | (refine Same.trans ?_ (same_new (by assumption)); walk_at "sm"))
local macro_rules | `(tactic| walk_at "rp") => `(tactic| first
  | assumption
  | exact rfl
  | (refine Rep.mono (tx_of ?_) (by assumption); walk_at "sm")
  | (refine Mo.mo ?_ (by assumption); walk_at "sm"))
local macro_rules | `(tactic| walk_at "ev") => `(tactic| first
  | exact ev_ci
  | exact ev_cs
  | exact ev_cb
  | exact ev_cn
  | (refine @ev_rv _ _ _ _ _ _ _ rfl ?_; walk_at "rp")
  | (refine @ev_var _ _ _ _ _ ?_ rfl ?_; (first | infer_instance | skip); walk_at "rp")
  | (refine ev_ii ?_ ?_ <;> walk_at "ev")
  | (refine ev_ib ?_ ?_ <;> walk_at "ev")
  | (refine ev_eqI ?_ ?_ <;> walk_at "ev")
  | (refine ev_neI ?_ ?_ <;> walk_at "ev")
  | (refine ev_lenT ?_ <;> walk_at "ev")
  | (refine ev_lenL ?_ <;> walk_at "ev")
  | (refine ev_int1 ?_ <;> walk_at "ev")
  | (refine et_test ?_ <;> walk_at "ev")
  | (refine et_B ?_ <;> walk_at "ev")
  | (refine et_not ?_ <;> walk_at "ev")
  | (refine et_or ?_ (fun _ => ?_) <;> walk_at "ev")
  | (refine et_and ?_ (fun _ => ?_) <;> walk_at "ev"))
/-! ### loops that change lists: all but the lists ls stays -/
def OffL (ls : List Addr) (H H' : Hp) : Prop := ∀ b o, b ∉ ls → H b = some o → H' b = some o
/-- lists stand at ls -/
def Ll (ls : List Addr) (H : Hp) : Prop := ∀ l ∈ ls, ∃ xs, H l = some (.lst xs)
theorem OffL.refl (ls : List Addr) (H : Hp) : OffL ls H H := fun _ _ _ h => h
theorem OffL.trans {ls : List Addr} {H H1 H2 : Hp} (a : OffL ls H H1) (b : OffL ls H1 H2) : OffL ls H H2 := fun c o n h => b c o n (a c o n h)
theorem OffL.of {ls : List Addr} {H H' : Hp} (e : Same H H') : OffL ls H H' := fun b o _ h => e b o h
theorem OffL.upd {ls : List Addr} {l : Addr} {H : Hp} {o : HO} (h : l ∈ ls) : OffL ls H (upd H l o) := fun b u n e => by
  rw [upd_ne (fun z : b = l => n (by rw [z]; exact h))]
  exact e
theorem OffL.more {ls ms : List Addr} {H H' : Hp} (a : OffL ls H H') (h : ∀ l ∈ ls, l ∈ ms) : OffL ms H H' := fun b o n e => a b o (fun z => n (h b z)) e
theorem Ll.same {ls : List Addr} {H H' : Hp} (h : Ll ls H) (e : Same H H') : Ll ls H' := fun l hl => let ⟨xs, hx⟩ := h l hl; ⟨xs, e _ _ hx⟩
theorem ll1 {a : Addr} {H : Hp} {xs : List V} (h : H a = some (.lst xs)) : Ll [a] H := fun l hl => by
  obtain rfl : l = a := by simpa using hl
  exact ⟨xs, h⟩
theorem ll2 {a b : Addr} {H : Hp} {xs ys : List V} (h : H a = some (.lst xs)) (h2 : H b = some (.lst ys)) : Ll [a, b] H := fun l hl => by
  have : l = a ∨ l = b := by simpa using hl
  rcases this with rfl | rfl
  · exact ⟨xs, h⟩
  · exact ⟨ys, h2⟩
theorem ll3 {a b c : Addr} {H : Hp} {xs ys zs : List V} (h : H a = some (.lst xs)) (h2 : H b = some (.lst ys)) (h3 : H c = some (.lst zs)) : Ll [a, b, c] H := fun l hl => by
  have : l = a ∨ l = b ∨ l = c := by simpa using hl
  rcases this with rfl | rfl | rfl
  · exact ⟨xs, h⟩
  · exact ⟨ys, h2⟩
  · exact ⟨zs, h3⟩
theorem Ll.not {ls : List Addr} {H : Hp} {a : Addr} {o : HO} (h : Ll ls H) (e : H a = some o) (n : ∀ xs, o ≠ .lst xs) : a ∉ ls := fun hm => by
  obtain ⟨xs, hx⟩ := h a hm
  rw [hx] at e
  exact n xs (Option.some.inj e).symm
theorem tx_off {ls : List Addr} {H H' : Hp} (h : Ll ls H) (e : OffL ls H H') : Tx H H' := fun a xs ha => e a _ (h.not ha (by intro _ z; cases z)) ha
/-- what was before the lists still stands -/
theorem same_off {ls : List Addr} {H H1 H2 : Hp} (a : Same H H1) (b : OffL ls H1 H2) (h : ∀ l ∈ ls, H l = none) : Same H H2 := fun c o hc => b c o (fun z => by rw [h c z] at hc; cases hc) (a c o hc)
/-- sorts that a change of lists does not touch -/
class MoL (φ : Srt) : Prop where
  mo : ∀ {ls : List Addr} {v : V} {H H' : Hp}, Ll ls H → OffL ls H H' → φ v H → φ v H'
class MoLN (fs : List (Str × Srt)) : Prop where
  mo : ∀ {ls : List Addr} {ws : List (Str × V)} {H H' : Hp}, Ll ls H → OffL ls H H' → FasN fs ws H → FasN fs ws H'
instance {α : Type} [Rep α] (x : α) : MoL (R x) := ⟨fun l e h => Rep.mono (tx_off l e) h⟩
instance (w : V) : MoL (Is w) := ⟨fun _ _ h => h⟩
instance : MoLN [] := ⟨fun _ _ h => h⟩
instance {n : Str} {φ : Srt} {fs : List (Str × Srt)} [MoL φ] [MoLN fs] : MoLN ((n, φ) :: fs) := ⟨fun l e ⟨v, r, e1, h1, h2⟩ => ⟨v, r, e1, MoL.mo l e h1, MoLN.mo l e h2⟩⟩
instance {C : Addr} {fs : List (Str × Srt)} [MoLN fs] : MoL (Ins C fs) := ⟨fun l e ⟨a, dx, ws, e1, h1, h2⟩ => ⟨a, dx, ws, e1, e _ _ (l.not h1 (by intro _ z; cases z)) h1, MoLN.mo l e h2⟩⟩
/-- walked while Gd says what stays -/
def EvG (Gd : Hp → Hp → Prop) (wi : TI) (σ : L2.St) (H : Hp) (n : Nat) (S : Nat → Srt) : Prop := ∀ H1, Same H H1 → ∀ Rr : It → Hp → Prop, (∀ J H2, Same H1 H2 → Walk J n (fun H3 => Gd H2 H3) (YS S) → Rr J H2) → wi σ H1 Rr
section
variable {Gd : Hp → Hp → Prop} {σ : L2.St} {H : Hp} {wi : TI} {g : TG} {tb tz : TS} {D : Ends} {n : Nat} {S : Nat → Srt}
theorem s_forG (h : EvG Gd wi σ H n S) (Pv : Hp → Nat → L2.St → Hp → Prop) (h0 : ∀ H1, Same H H1 → Pv H1 0 σ H1) (hk : ∀ H1 i σ' H', Pv H1 i σ' H' → Gd H1 H')
    (hs : ∀ H1 i x σ' H' H'', Same H H1 → i < n → Pv H1 i σ' H' → Same H' H'' → S i x H'' → g x σ' H'' fun σ2 H2 => tb { D with nx := Pv H1 (i + 1), ct := Pv H1 (i + 1), bk := D.nx } σ2 H2)
    (hd : ∀ H1 σ' H', Same H H1 → Pv H1 n σ' H' → D.nx σ' H') : tFor wi g tb D σ H :=
  h H (Same.refl H) _ fun J H2 e2 w => for_it w (Pv H2) (h0 H2 e2) (fun i σ' H' _ p => hk H2 i σ' H' p) (fun i x σ' H' H'' hi p y => hs H2 i x σ' H' H'' e2 hi p y.1 y.2) fun σ' H' p => hd H2 σ' H' e2 p
theorem q_forG (h : EvG Gd wi σ H n S) (Pv : Hp → Nat → L2.St → Hp → Prop) (h0 : ∀ H1, Same H H1 → Pv H1 0 σ H1) (hk : ∀ H1 i σ' H', Pv H1 i σ' H' → Gd H1 H')
    (hs : ∀ H1 i x σ' H' H'', Same H H1 → i < n → Pv H1 i σ' H' → Same H' H'' → S i x H'' → g x σ' H'' fun σ2 H2 => tb { D with nx := Pv H1 (i + 1), ct := Pv H1 (i + 1), bk := tz D } σ2 H2)
    (hd : ∀ H1 σ' H', Same H H1 → Pv H1 n σ' H' → tz D σ' H') : tSeq (tFor wi g tb) tz D σ H := s_forG (D := { D with nx := tz D }) h Pv h0 hk hs hd
end
section
variable {K : PySem.W.Frag} {σ : L2.St} {H : Hp} {tl : TE} {ta : TA} {ls : List Addr}
theorem evg_tup {α : Type} [Rep α] {xs : List α} (hl : Ll ls H) (h : Ev tl σ H (R xs)) : EvG (OffL ls) (iTup K tl) σ H xs.length (RI xs) := fun H1 e Rr q =>
  h H1 e _ fun v H2 e2 hv => by
    obtain ⟨a, vs, rfl, ha, r⟩ := hv
    have na : a ∉ ls := (hl.same (e.trans e2)).not ha (by intro _ z; cases z)
    refine ⟨a, rfl, ⟨vs, .inl (.inl ha)⟩, q _ H2 e2 ?_⟩
    rw [r.length]
    exact walk_tup.mono (fun H3 e3 => .inl (.inl (e3 _ _ na ha))) fun i H3 x H' hi e3 y => by
      obtain ⟨rfl, y⟩ := y
      obtain ⟨z, hz, hr⟩ := r.getV y
      exact ⟨Same.refl _, z, hz, Rep.mono (tx_off (hl.same (e.trans e2)) e3) hr⟩
theorem evg_new {α : Type} [Rep α] {xs : List α} (hl : Ll ls H) (h : Ev tl σ H (NLs H xs)) : EvG (OffL ls) (iList K tl) σ H xs.length (RI xs) := fun H1 e Rr q =>
  h H1 e _ fun v H2 e2 hv => by
    obtain ⟨a, vs, rfl, h0, ha, r⟩ := hv
    have na : a ∉ ls := fun hm => by
      obtain ⟨xs, hx⟩ := hl a hm
      rw [h0] at hx
      cases hx
    refine ⟨a, rfl, ⟨vs, .inl (.inl ha)⟩, q _ H2 e2 ?_⟩
    rw [r.length]
    exact walk_list.mono (fun H3 e3 => .inl (.inl (e3 _ _ na ha))) fun i H3 x H' hi e3 y => by
      obtain ⟨rfl, y⟩ := y
      obtain ⟨z, hz, hr⟩ := r.getV y
      exact ⟨Same.refl _, z, hz, Rep.mono (tx_off (hl.same (e.trans e2)) e3) hr⟩
/-- a list that stands elsewhere -/
theorem evg_list {α : Type} [Rep α] {xs : List α} {vs : List V} {a : Addr} (hl : Ll ls H) (h : Ev tl σ H (Is (.ref a))) (ha : H a = some (.lst vs)) (r : Rps H xs vs) (na : a ∉ ls) : EvG (OffL ls) (iList K tl) σ H xs.length (RI xs) := fun H1 e Rr q =>
  h H1 e _ fun v H2 e2 hv => by
    have s := e.trans e2
    refine ⟨a, hv, ⟨vs, .inl (.inl (s _ _ ha))⟩, q _ H2 e2 ?_⟩
    rw [r.length]
    exact walk_list.mono (fun H3 e3 => .inl (.inl (e3 _ _ na (s _ _ ha)))) fun i H3 x H' hi e3 y => by
      obtain ⟨rfl, y⟩ := y
      obtain ⟨z, hz, hr⟩ := r.getV y
      exact ⟨Same.refl _, z, hz, Rep.mono ((tx_of s).trans (tx_off (hl.same s) e3)) hr⟩
theorem evg_range1 {Gd : Hp → Hp → Prop} {n : Int} (h : EvA ta σ H [R n]) (h1 : -(2 ^ 62) ≤ n) (h2 : n < 2 ^ 62) : EvG Gd (iRng1 ta) σ H n.toNat (RI (rg n.toNat)) := fun H1 e Rr q =>
  h H1 e _ fun vs H2 e2 hv => by
    obtain ⟨v, rfl, hv1⟩ := fas1 hv
    exact ⟨n, by rw [show v = .int n from hv1], h1, h2, q _ H2 e2 (walk_range.mono (fun _ _ => trivial) fun i H3 x H' hi _ y => by
      obtain ⟨rfl, rfl⟩ := y
      exact ⟨Same.refl _, (i : Int), rg_get hi, by show V.int ((0 : Int) + i) = V.int i; rw [Int.zero_add]⟩)⟩
theorem evg_range2 {Gd : Hp → Hp → Prop} {a b : Int} (h : EvA ta σ H [R a, R b]) (h1 : -(2 ^ 62) ≤ a ∧ a < 2 ^ 62 ∧ -(2 ^ 62) ≤ b ∧ b < 2 ^ 62) : EvG Gd (iRng2 ta) σ H (b - a).toNat (RI ((rg (b - a).toNat).map fun k => a + k)) := fun H1 e Rr q =>
  h H1 e _ fun vs H2 e2 hv => by
    obtain ⟨v, w, rfl, hv1, hw⟩ := fas2 hv
    exact ⟨a, b, by rw [show v = .int a from hv1, show w = .int b from hw], h1, q _ H2 e2 (walk_range.mono (fun _ _ => trivial) fun i H3 x H' hi _ y => by
      obtain ⟨rfl, rfl⟩ := y
      exact ⟨Same.refl _, a + (i : Int), by rw [List.getElem?_map, rg_get hi]; rfl, rfl⟩)⟩
theorem pair_up {α β : Type} [Rep α] [Rep β] {H2 H3 : Hp} {xs : List α} {ys : List β} {us ws : List V} {i : Nat} {T : Addr} {x1 y1 : V} (r : Rps H2 xs us) (r2 : Rps H2 ys ws) (t : Tx H2 H3) (hT : H3 T = none) (g1 : us[i]? = some x1) (g2 : ws[i]? = some y1) :
    YS (RI (xs.zip ys)) i H3 (.ref T) (upd H3 T (.tup [x1, y1])) := by
  obtain ⟨z1, hz1, hr1⟩ := r.getV g1
  obtain ⟨z2, hz2, hr2⟩ := r2.getV g2
  have s := same_new (o := .tup [x1, y1]) hT
  exact ⟨s, (z1, z2), List.getElem?_zip_eq_some.mpr ⟨hz1, hz2⟩, T, x1, y1, rfl, upd_same, Rep.mono (t.trans (tx_of s)) hr1, Rep.mono (t.trans (tx_of s)) hr2⟩
theorem evg_zipTT {α β : Type} [Rep α] [Rep β] {xs : List α} {ys : List β} (hl : Ll ls H) (h : EvA ta σ H [R xs, R ys]) : EvG (OffL ls) (RZ.iZipA K ta) σ H (xs.zip ys).length (RI (xs.zip ys)) := fun H1 e Rr q =>
  h H1 e _ fun vs H2 e2 hv => by
    obtain ⟨v, w, rfl, ⟨a, us, rfl, ha, r⟩, b, ws, rfl, hb, r2⟩ := fas2 hv
    have hl2 := hl.same (e.trans e2)
    have na : a ∉ ls := hl2.not ha (by intro _ z; cases z)
    have nb : b ∉ ls := hl2.not hb (by intro _ z; cases z)
    have k1 := r.length
    have k2 := r2.length
    refine ⟨a, b, us, ws, rfl, .inr ⟨.inl (.inl ha), .inl (.inl hb), q _ H2 e2 ⟨fun i H3 hi e3 => ?_, fun H3 e3 => ⟨us, ws, .inl (.inl (e3 _ _ na ha)), .inl (.inl (e3 _ _ nb hb)), by rw [List.length_zip]; omega⟩, fun i H3 x H' hi e3 y => ?_⟩⟩⟩
    · rw [List.length_zip] at hi
      exact ⟨us, ws, us[i]'(by omega), ws[i]'(by omega), .inl (.inl (e3 _ _ na ha)), .inl (.inl (e3 _ _ nb hb)), List.getElem?_eq_getElem (by omega), List.getElem?_eq_getElem (by omega)⟩
    · obtain ⟨T, x1, y1, rfl, hT, rfl, h1, h2⟩ := y
      exact pair_up r r2 (tx_off hl2 e3) hT (h1 us (.inl (.inl (e3 _ _ na ha)))) (h2 ws (.inl (.inl (e3 _ _ nb hb))))
/-- zip of a tuple and a new list -/
theorem evg_zipTN {α β : Type} [Rep α] [Rep β] {xs : List α} {ys : List β} (hl : Ll ls H) (h : EvA ta σ H [R xs, NLs H ys]) : EvG (OffL ls) (iZipM K ta) σ H (xs.zip ys).length (RI (xs.zip ys)) := fun H1 e Rr q =>
  h H1 e _ fun vs H2 e2 hv => by
    obtain ⟨v, w, rfl, ⟨a, us, rfl, ha, r⟩, b, ws, rfl, h0, hb, r2⟩ := fas2 hv
    have hl2 := hl.same (e.trans e2)
    have na : a ∉ ls := hl2.not ha (by intro _ z; cases z)
    have nb : b ∉ ls := fun hm => by
      obtain ⟨xs, hx⟩ := hl b hm
      rw [h0] at hx
      cases hx
    have k1 := r.length
    have k2 := r2.length
    refine ⟨a, b, us, ws, rfl, .inl (.inl ha), .inl (.inl hb), q _ H2 e2 ⟨fun i H3 hi e3 => ?_, fun H3 e3 => ⟨us, ws, .inl (.inl (e3 _ _ na ha)), .inl (.inl (e3 _ _ nb hb)), by rw [List.length_zip]; omega⟩, fun i H3 x H' hi e3 y => ?_⟩⟩
    · rw [List.length_zip] at hi
      exact ⟨us, ws, us[i]'(by omega), ws[i]'(by omega), .inl (.inl (e3 _ _ na ha)), .inl (.inl (e3 _ _ nb hb)), List.getElem?_eq_getElem (by omega), List.getElem?_eq_getElem (by omega)⟩
    · obtain ⟨T, x1, y1, rfl, hT, rfl, h1, h2⟩ := y
      exact pair_up r r2 (tx_off hl2 e3) hT (h1 us (.inl (.inl (e3 _ _ na ha)))) (h2 ws (.inl (.inl (e3 _ _ nb hb))))
theorem evg_enumT {α : Type} [Rep α] {xs : List α} (hl : Ll ls H) (h : EvA ta σ H [R xs]) : EvG (OffL ls) (iEnumT K ta) σ H ((rg xs.length).zip xs).length (RI ((rg xs.length).zip xs)) := fun H1 e Rr q =>
  h H1 e _ fun vs H2 e2 hv => by
    obtain ⟨v, rfl, a, us, rfl, ha, r⟩ := fas1 hv
    have hl2 := hl.same (e.trans e2)
    have na : a ∉ ls := hl2.not ha (by intro _ z; cases z)
    refine ⟨a, us, rfl, .inl (.inl ha), q _ H2 e2 ?_⟩
    have k1 := r.length
    have hn : ((rg xs.length).zip xs).length = us.length := by rw [List.length_zip, rg_len]; omega
    rw [hn]
    refine ⟨fun i H3 hi e3 => ⟨us, us[i], .inl (.inl (e3 _ _ na ha)), List.getElem?_eq_getElem hi⟩, fun H3 e3 => ⟨us, .inl (.inl (e3 _ _ na ha)), rfl⟩, fun i H3 x H' hi e3 y => ?_⟩
    obtain ⟨T, y1, rfl, hT, rfl, h2⟩ := y
    obtain ⟨z2, hz2, hr2⟩ := r.getV (h2 us (.inl (.inl (e3 _ _ na ha))))
    have s := same_new (o := .tup [.int (i : Nat), y1]) hT
    exact ⟨s, ((i : Int), z2), List.getElem?_zip_eq_some.mpr ⟨rg_get (by rw [k1]; exact hi), hz2⟩, T, _, y1, rfl, upd_same, rfl, Rep.mono ((tx_off hl2 e3).trans (tx_of s)) hr2⟩
end
/-! a list in the making -/
/-- the list at l stands for xs -/
def At {α : Type} [Rep α] (l : Addr) (xs : List α) (H : Hp) : Prop := ∃ vs, H l = some (.lst vs) ∧ Rps H xs vs
section
variable {α : Type} [Rep α] {l : Addr} {xs : List α} {H H' : Hp} {σ : L2.St} {ta te : TE} {D : Ends} {tz : TS} {K : PySem.W.Frag}
theorem At.same (h : At l xs H) (e : Same H H') : At l xs H' := let ⟨vs, a, r⟩ := h; ⟨vs, e _ _ a, Rps.mono (tx_of e) r⟩
theorem At.off {ls : List Addr} (h : At l xs H) (hl : Ll ls H) (e : OffL ls H H') (n : l ∉ ls) : At l xs H' := let ⟨vs, a, r⟩ := h; ⟨vs, e _ _ n a, Rps.mono (tx_off hl e) r⟩
theorem At.ls (h : At l xs H) : Ls xs (.ref l) H := let ⟨vs, a, r⟩ := h; ⟨l, vs, rfl, a, r⟩
theorem At.ll (h : At l xs H) : Ll [l] H := let ⟨_, a, _⟩ := h; ll1 a
theorem at_of {v : V} {H0 : Hp} (h : NLs H0 xs v H) : ∃ l, v = .ref l ∧ H0 l = none ∧ At l xs H := let ⟨a, vs, e, h0, h1, r⟩ := h; ⟨a, e, h0, vs, h1, r⟩
theorem At.other {m : Addr} {o : HO} {ys : List V} (h : At l xs H) (hm : H m = some (.lst ys)) (n : l ≠ m) : At l xs (upd H m o) := let ⟨vs, a, r⟩ := h; ⟨vs, by rw [upd_ne n]; exact a, Rps.mono (tx_lst hm) r⟩
theorem s_appA {x : α} (h : At l xs H) (hz : xs.length < sizeLine) (ho : Ev ta σ H (Is (.ref l))) (hx : Ev te σ H (R x)) (k : ∀ H2, OffL [l] H H2 → At l (xs ++ [x]) H2 → D.nx σ H2) : tDrop (tBM K "list" rAppend ta (tCons te tNil)) D σ H := by
  obtain ⟨vs, a, r⟩ := h
  refine s_app a ho hx (by rw [← r.length]; exact hz) fun v H1 e hv => ?_
  have t := tx_lst (o := .lst (vs ++ [v])) (e _ _ a)
  exact k _ ((OffL.of e).trans (OffL.upd (List.mem_singleton.mpr rfl))) ⟨_, upd_same, Rps.mono t ((Rps.mono (tx_of e) r).snoc hv)⟩
theorem q_appA {x : α} (h : At l xs H) (hz : xs.length < sizeLine) (ho : Ev ta σ H (Is (.ref l))) (hx : Ev te σ H (R x)) (k : ∀ H2, OffL [l] H H2 → At l (xs ++ [x]) H2 → tz D σ H2) : tSeq (tDrop (tBM K "list" rAppend ta (tCons te tNil))) tz D σ H := s_appA (D := { D with nx := tz D }) h hz ho hx k
theorem s_setA {x : α} {tb : TE} {i : Int} (h : At l xs H) (hx : Ev te σ H (R x)) (ho : Ev ta σ H (Is (.ref l))) (hi : Ev tb σ H (R i)) (h0 : 0 ≤ i) (h1 : i < xs.length) (k : ∀ H2, OffL [l] H H2 → At l (xs.set i.toNat x) H2 → D.nx σ H2) : tAsg te (gSub ta tb rSetL) D σ H := by
  obtain ⟨vs, a, r⟩ := h
  refine s_setL a hx ho hi h0 (by rw [← r.length]; exact h1) fun v H1 e hv => ?_
  have t := tx_lst (o := .lst (vs.set i.toNat v)) (e _ _ a)
  exact k _ ((OffL.of e).trans (OffL.upd (List.mem_singleton.mpr rfl))) ⟨_, upd_same, Rps.mono t ((Rps.mono (tx_of e) r).set hv _)⟩
theorem q_setA {x : α} {tb : TE} {i : Int} (h : At l xs H) (hx : Ev te σ H (R x)) (ho : Ev ta σ H (Is (.ref l))) (hi : Ev tb σ H (R i)) (h0 : 0 ≤ i) (h1 : i < xs.length) (k : ∀ H2, OffL [l] H H2 → At l (xs.set i.toNat x) H2 → tz D σ H2) : tSeq (tAsg te (gSub ta tb rSetL)) tz D σ H := s_setA (D := { D with nx := tz D }) h hx ho hi h0 h1 k
theorem ev_at (h : At l xs H) {i : Nat} (hs : σ[i]? = some (some (.ref l))) : Ev (tVar i) σ H (Ls xs) := ev_var hs h.ls
theorem Ll.off {ls ms : List Addr} (h : Ll ms H) (hl : Ll ls H) (e : OffL ls H H') (hk : ∀ l ∈ ls, ∃ xs, H' l = some (.lst xs)) : Ll ms H' := fun m hm => by
  by_cases c : m ∈ ls
  · exact hk m c
  · obtain ⟨xs, hx⟩ := h m hm
    exact ⟨xs, e _ _ c hx⟩
/-- l += ys, ys a list elsewhere -/
theorem s_extA {ys : List α} {i : Nat} {v : V} (hi : σ[i]? = some (some (.ref l))) (h : At l xs H) (hy : Ev te σ H (NLs H ys)) (hz : xs.length + ys.length ≤ sizeLine) (k : ∀ H2, OffL [l] H H2 → At l (xs ++ ys) H2 → D.nx (σ.set i (some (.ref l))) H2) : tAug i te rExt2 D σ H := by
  obtain ⟨vs, a, r⟩ := h
  refine ⟨_, hi, hy.go fun w H1 e hw => ?_⟩
  obtain ⟨b, ws, rfl, h0, hb, r2⟩ := hw
  have t := tx_lst (o := .lst (vs ++ ws)) (e _ _ a)
  refine ⟨l, b, vs, ws, rfl, rfl, e _ _ a, hb, by rw [← r.length, ← r2.length]; exact hz, k _ ((OffL.of e).trans (OffL.upd (List.mem_singleton.mpr rfl))) ⟨_, upd_same, Rps.mono t ((Rps.mono (tx_of e) r).append r2)⟩⟩
theorem q_extA {ys : List α} {i : Nat} (hi : σ[i]? = some (some (.ref l))) (h : At l xs H) (hy : Ev te σ H (NLs H ys)) (hz : xs.length + ys.length ≤ sizeLine) (k : ∀ H2, OffL [l] H H2 → At l (xs ++ ys) H2 → tz D (σ.set i (some (.ref l))) H2) : tSeq (tAug i te rExt2) tz D σ H := s_extA (v := .non) (D := { D with nx := tz D }) hi h hy hz k
end
end RW
set_option Elab.async false
set_option linter.all false
set_option maxRecDepth 100000
set_option maxHeartbeats 4000000
namespace RW
open PySem PySem.Spec PyProof.Rows L2
local macro_rules | `(tactic| walk_at "sm") => `(tactic| first
  | exact Same.refl _
  | assumption
  | exact same_new (by assumption)
  | (refine Same.trans ?_ (by assumption); walk_at "sm")
  | (refine Same.trans ?_ (same_new (by assumption)); walk_at "sm"))
local macro_rules | `(tactic| walk_at "rp") => `(tactic| first
  | assumption
  | exact rfl
  | (refine Rep.mono (tx_of ?_) (by assumption); walk_at "sm")
  | (refine Mo.mo ?_ (by assumption); walk_at "sm"))
local macro_rules | `(tactic| walk_at "ev") => `(tactic| first
  | exact ev_ci
  | exact ev_cs
  | exact ev_cb
  | exact ev_cn
  | (refine @ev_rv _ _ _ _ _ _ _ rfl ?_; walk_at "rp")
  | (refine @ev_var _ _ _ _ _ ?_ rfl ?_; (first | infer_instance | skip); walk_at "rp")
  | (refine ev_ii ?_ ?_ <;> walk_at "ev")
  | (refine ev_ib ?_ ?_ <;> walk_at "ev")
  | (refine ev_eqI ?_ ?_ <;> walk_at "ev")
  | (refine ev_neI ?_ ?_ <;> walk_at "ev")
  | (refine ev_lenT ?_ <;> walk_at "ev")
  | (refine ev_lenL ?_ <;> walk_at "ev")
  | (refine ev_int1 ?_ <;> walk_at "ev")
  | (refine et_test ?_ <;> walk_at "ev")
  | (refine et_B ?_ <;> walk_at "ev")
  | (refine et_not ?_ <;> walk_at "ev")
  | (refine et_or ?_ (fun _ => ?_) <;> walk_at "ev")
  | (refine et_and ?_ (fun _ => ?_) <;> walk_at "ev"))
/-! ### the rules that name the fragment, the fragment given -/
section
variable {X : Cx} {K : PySem.W.Frag} {e e2 o : Expr} {ta to td : TE} {t : TA} {pos p p2 apos cpos tpos : Pos} {tg : Expr}
theorem k_fld {f : Str} (hK : X.K = K) (he : PE X e ta) (hb : attributeBase e f X.env (eval e X.env) = eval e X.env) : PE X (.Attribute e f pos) (tFld K ta f) := by subst hK; exact pe_fld he hb
theorem k_len (hK : X.K = K) : CallR X (.builtin "len") (fun xs H Q => ∃ p ys, xs = [.ref p] ∧ (SqL K H p ys ∨ SqT K H p ys) ∧ Q (.int ys.length) H) := by subst hK; exact call_len_seq
theorem k_tuple (hK : X.K = K) : CallR X (.type "tuple") (fun xs H Q => ∃ p ys, xs = [.ref p] ∧ ((SqL K H p ys ∧ ∀ l, H l = none → Q (.ref l) (upd H l (.tup ys))) ∨ (SqT K H p ys ∧ Q (.ref p) H))) := by subst hK; exact call_tuple_of
theorem k_listOf (hK : X.K = K) : CallR X (.type "list") (fun xs H Q => ∃ p ys, xs = [.ref p] ∧ (SqL K H p ys ∨ SqT K H p ys) ∧ ∀ l, H l = none → Q (.ref l) (upd H l (.lst ys))) := by subst hK; exact call_list_of
theorem k_ixT (hK : X.K = K) : IxR X (rIxT K) := by subst hK; exact ix_tup
theorem k_ixL (hK : X.K = K) : IxR X (rIxL K) := by subst hK; exact ix_list
theorem k_slT (hK : X.K = K) : SlR X (rSlA K) := by subst hK; exact sl_tupA
theorem k_slL (hK : X.K = K) : SlR X (rSlL K) := by subst hK; exact sl_list
theorem k_catA (hK : X.K = K) : OpR X (binaryOp .Add) (rCatA K) := by subst hK; exact op_catA
theorem k_repT (hK : X.K = K) : OpR X (binaryOp .Mult) (rRepT K) := by subst hK; exact op_repT
theorem k_in (hK : X.K = K) : OpR X (compareOp .In) (rIn K false) := by subst hK; exact op_in_seq
theorem k_tup (hK : X.K = K) (hl : PE X e ta) : PI X tg e (iTup K ta) := by subst hK; exact pi_tup hl
theorem k_list (hK : X.K = K) (hl : PE X e ta) : PI X tg e (iList K ta) := by subst hK; exact pi_list hl
theorem k_zipA {elts : List Expr} {kk : Nat} (hK : X.K = K) (hg : Gl X "zip") (hm : X.mg "zip" = none) (ha : PA X [e, e2] t) (hs : starEach [e, e2] X.env = (false, eval e X.env) :: starEach [e2] X.env := by rfl) (hpl : (backTo pos (starEach [e2] X.env)).any (·.1) = false := by rfl) : PI X (.Tuple elts kk tpos) (.Call (.Name "zip" p) [e, e2] [] pos) (RZ.iZipA K t) := by subst hK; exact RZ.pi_zipA hg hm ha hs hpl
theorem k_zipTL {elts : List Expr} {kk : Nat} (hK : X.K = K) (hg : Gl X "zip") (hm : X.mg "zip" = none) (ha : PA X [e, e2] t) (hs : starEach [e, e2] X.env = (false, eval e X.env) :: starEach [e2] X.env := by rfl) (hpl : (backTo pos (starEach [e2] X.env)).any (·.1) = false := by rfl) : PI X (.Tuple elts kk tpos) (.Call (.Name "zip" p) [e, e2] [] pos) (iZipM K t) := by subst hK; exact pi_zipTL hg hm ha hs hpl
theorem k_enum {elts : List Expr} {kk : Nat} (hK : X.K = K) (hg : Gl X "enumerate") (hm : X.mg "enumerate" = none) (ha : PA X [e] t) (hs : starEach [e] X.env = [(false, eval e X.env)] := by rfl) : PI X (.Tuple elts kk tpos) (.Call (.Name "enumerate" p) [e] [] pos) (iEnum K t) := by subst hK; exact pi_enum hg hm ha hs
theorem k_enumT {elts : List Expr} {kk : Nat} (hK : X.K = K) (hg : Gl X "enumerate") (hm : X.mg "enumerate" = none) (ha : PA X [e] t) (hs : starEach [e] X.env = [(false, eval e X.env)] := by rfl) : PI X (.Tuple elts kk tpos) (.Call (.Name "enumerate" p) [e] [] pos) (iEnumT K t) := by subst hK; exact pi_enumT hg hm ha hs
theorem k_product {te : L2.St → Hp → (Int → Int → Hp → Prop) → Prop} (hK : X.K = K) (hg : Gl X "product") (hm : X.mg "product" = some (.type "itertools.product")) (hl : PE X e ta) (he : PRz X e2 te) (hc : X.calm = true)
    (hs : starEach [e, e2] X.env = (false, eval e X.env) :: starEach [e2] X.env := by rfl) (hs2 : starEach [e2] X.env = (false, eval e2 X.env) :: starEach [] X.env := by rfl) (hpl : (backTo pos (starEach [e2] X.env)).any (·.1) = false := by rfl) : PI X tg (.Call (.Name "product" p) [e, e2] [] pos) (iProd K ta te) := by subst hK; exact pi_product hg hm hl he hc hs hs2 hpl
theorem k_gtup {es : List Expr} {k : Nat} {tt : TGs} {n : Nat} (hK : X.K = K) (hc : X.calm = true) (h : PGs X es tt) (hn : (assignEach es X.env).length = n := by rfl) (hst : (assignEach es X.env).findIdx? (·.1) = none := by rfl) : PG X (.Tuple es k pos) (gTup K n tt) := by subst hK; exact pg_tup hc h hn hst
theorem k_all (hK : X.K = K) (hc : X.calm = true) : CallR X (.builtin "all") (rAll K) := by subst hK; exact cr_all hc
theorem k_lenSet {a : Expr} {r : Pos} (hK : X.K = K) (hc : X.calm = true) (hg : Gl X "len") (hm : X.mg "len" = none) (hg2 : Gl X "set") (hm2 : X.mg "set" = none) (ha : PE X a ta)
    (na : starEach [a] X.env = (false, eval a X.env) :: starEach [] X.env := by rfl) : PE X (.Call (.Name "len" p) [.Call (.Name "set" p2) [a] [] r] [] pos) (tLenSetN K ta) := by subst hK; exact pe_lenSetN hc hg hm hg2 hm2 ha na
theorem k_truth (hK : X.K = K) (ha : PE X e ta) (he : ∀ whole, isTrue e X.env whole = (do let v ← whole; standAt e.pos; holding [v] (truthy v))) : PT X e (fun σ H Q => ta σ H fun x H' => ∃ k, TruV K x H' k ∧ Q k H') := by subst hK; exact pt_truth ha he
end
end RW
set_option Elab.async false
set_option linter.all false
set_option maxRecDepth 100000
set_option maxHeartbeats 4000000
namespace RW
open PySem PySem.Spec PyProof.Rows L2
local macro_rules | `(tactic| walk_at "sm") => `(tactic| first
  | exact Same.refl _
  | assumption
  | exact same_new (by assumption)
  | (refine Same.trans ?_ (by assumption); walk_at "sm")
  | (refine Same.trans ?_ (same_new (by assumption)); walk_at "sm"))
local macro_rules | `(tactic| walk_at "rp") => `(tactic| first
  | assumption
  | exact rfl
  | (refine Rep.mono (tx_of ?_) (by assumption); walk_at "sm")
  | (refine Mo.mo ?_ (by assumption); walk_at "sm"))
local macro_rules | `(tactic| walk_at "ev") => `(tactic| first
  | exact ev_ci
  | exact ev_cs
  | exact ev_cb
  | exact ev_cn
  | (refine @ev_rv _ _ _ _ _ _ _ rfl ?_; walk_at "rp")
  | (refine @ev_var _ _ _ _ _ ?_ rfl ?_; (first | infer_instance | skip); walk_at "rp")
  | (refine ev_ii ?_ ?_ <;> walk_at "ev")
  | (refine ev_ib ?_ ?_ <;> walk_at "ev")
  | (refine ev_eqI ?_ ?_ <;> walk_at "ev")
  | (refine ev_neI ?_ ?_ <;> walk_at "ev")
  | (refine ev_lenT ?_ <;> walk_at "ev")
  | (refine ev_lenL ?_ <;> walk_at "ev")
  | (refine ev_int1 ?_ <;> walk_at "ev")
  | (refine et_test ?_ <;> walk_at "ev")
  | (refine et_B ?_ <;> walk_at "ev")
  | (refine et_not ?_ <;> walk_at "ev")
  | (refine et_or ?_ (fun _ => ?_) <;> walk_at "ev")
  | (refine et_and ?_ (fun _ => ?_) <;> walk_at "ev"))
section
variable {P : Program} {w : World} {K : PySem.W.Frag} {mg : Str → Option Value} {base : Heap}
theorem hu_of {x qual : Str} {P : Program} {w : World} {K : PySem.W.Frag} {mg : Str → Option Value} {base : Heap} {N : List Str} {sc : Scope} {f : Addr} {cdv : Value} {A : Around} {outer : List Env} {s : Shared} {H : Hp} {E : XK} {k : Nat} (hr : Room k (A.deeper (envOfC qual sc s.heap.objs.size f cdv))) : (cxOf CX0 P w K mg base N qual sc f cdv A outer s H E).nox.A.units + 200 < cLine := by
  have := hr.un
  show (A.deeper (envOfC qual sc s.heap.objs.size f cdv)).units + 200 < cLine
  omega
theorem ev_ls {α : Type} [Rep α] {xs : List α} {te : TE} {σ : L2.St} {H : Hp} (h : Ev te σ H (NLs H xs)) : Ev te σ H (Ls xs) := h.imp fun _ _ h => h.ls
/-! is_name, _check_names, _check_order -/
def lowS : List Nat := ("abcdefghijklmnopqrstuvwxyz" : Str).cps.toList
def digS : List Nat := ("0123456789" : Str).cps.toList
def nameB (z : Str) : Bool := decide (z.cps.toList ≠ []) && decide (z.length ≤ 12) && decide (z.cps.toList.headD 0 ∈ lowS) && z.cps.toList.all fun c => decide (c ∈ lowS) || decide (c ∈ digS)
theorem ev_inS {σ : L2.St} {H : Hp} {ta tb : TE} {c : Nat} {z : Str} (ha : Ev ta σ H (R (⟨#[c]⟩ : Str))) (hb : Ev tb σ H (R z)) : Ev (tOp (fun x y H Q => ∃ (c : Nat) (z : Str), x = .str ⟨#[c]⟩ ∧ y = .str z ∧ Q (.bl (decide (c ∈ z.cps.toList))) H) ta tb) σ H (R (decide (c ∈ z.cps.toList))) :=
  ev_op ha hb fun v w H1 _ h1 h2 Q q => ⟨c, z, h1, h2, q _ _ (Same.refl _) rfl⟩
theorem ev_notInS {σ : L2.St} {H : Hp} {ta tb : TE} {c : Nat} {z : Str} (ha : Ev ta σ H (R (⟨#[c]⟩ : Str))) (hb : Ev tb σ H (R z)) : Ev (tOp (fun x y H Q => ∃ (c : Nat) (z : Str), x = .str ⟨#[c]⟩ ∧ y = .str z ∧ Q (.bl (!decide (c ∈ z.cps.toList))) H) ta tb) σ H (R (!decide (c ∈ z.cps.toList))) :=
  ev_op ha hb fun v w H1 _ h1 h2 Q q => ⟨c, z, h1, h2, q _ _ (Same.refl _) rfl⟩
abbrev N_is_name : List Str := ["text", "char"]
theorem sc_is_name : FnScope N_is_name ["text"] (defScope s_is_name) := ⟨rfl, rfl, rfl, by decide +kernel, rfl, by decide +kernel, by decide +kernel⟩
abbrev sp_is_name : Sp := Pp (fun g : Str => [R g]) (fun g => nameB g = true) (fun g => R true)
theorem ok_is_name {f : Addr} {fd : FuncData} (T : Txt K mg)  (F : FunD K "is_name" "is_name" (defArgs s_is_name) (defBody s_is_name) (defScope s_is_name) [] [] f fd) (hm : mg "is_name" = some (.ref f)) : C8.Cal P w K mg base 1 "is_name" sp_is_name [] := by
  refine cal_of F hm sc_is_name (fun _ _ _ _ _ _ us hl => match us, hl with | [_], _ => rfl) (fun vs H Q E ⟨g, h, _⟩ => fas_len h) (fun cdv A outer s H vs Q E hr h => ?_)
  obtain ⟨z, h, hp, q⟩ := h
  obtain ⟨a, rfl, h1⟩ := fas1 h
  refine ⟨_, (pss_cons (ps_if (PW.pt (pw_or (pt_cmpR op_eq (pe_callB call_len_str (by rfl) T.len PySem.boot_len (pa_cons (pv 0) pa_nil)) pe_int (nomark _)) (pw_or (pt_cmpR op_gt (pe_callB call_len_str (by rfl) T.len PySem.boot_len (pa_cons (pv 0) pa_nil)) (C8.pe_gc (by rfl) T.LONGEST_NAME) (nomark _)) (pw_or1 (pt_cmpR op_notIn_sign (pe_ix ix_str (pv 0) pe_int (fun _ _ => rfl)) (C8.pe_gc (by rfl) T.LOWER) (by rfl)))))) (pss_one (ps_ret pe_bl)) pss_nil)
      (pss_one (ps_ret (pe_callB (k_all (K := K) rfl rfl) (by rfl) T.all (by decide +kernel) (pa_cons (pe_lc (own := [("char", 1)]) rfl sc_is_name.nd (pi_str (pv 0)) (blkOk_by (N := N_is_name) (sc := defScope s_is_name) (by decide +kernel)) (fun _ _ _ _ _ => (pg_name (i := 1) sc_is_name.nd rfl (by first | exact .inl rfl | exact .inr rfl))) (fun _ _ _ _ _ => pts_nil) (fun _ _ _ _ _ => (pe_or (pe_cmpR op_in_sign (pv 1) (C8.pe_gc (by rfl) T.LOWER) (by rfl)) (pe_one (pe_cmpR op_in_sign (pv 1) (C8.pe_gc (by rfl) T.DIGITS) (by rfl)))))) pa_nil))))), ?_⟩
  have hp : nameB z = true := hp
  unfold nameB at hp
  simp only [Bool.and_eq_true, decide_eq_true_eq, ne_eq] at hp
  obtain ⟨⟨⟨p1, p2⟩, p3⟩, p4⟩ := hp
  obtain ⟨c, r, hc⟩ : ∃ c r, z.cps.toList = c :: r := by
    cases e : z.cps.toList with
    | nil => exact absurd e p1
    | cons c r => exact ⟨c, r, rfl⟩
  have hz : z.length ≤ sizeLine := by rw [sizeLine_eq]; omega
  have hl : z.length = z.cps.toList.length := by rw [Array.length_toList]; rfl
  have hl1 : 1 ≤ z.length := by rw [hl, hc, List.length_cons]; omega
  have n1 : ¬ (z.length : Int) = 0 := by omega
  have n2 : ¬ (12 : Int) < (z.length : Int) := by omega
  have p3' : c ∈ ("abcdefghijklmnopqrstuvwxyz" : Str).cps.toList := by rw [hc] at p3; exact p3
  refine q_when (b := decide ((z.length : Int) = 0) || (decide (12 < (z.length : Int)) || !decide (c ∈ ("abcdefghijklmnopqrstuvwxyz" : Str).cps.toList))) (et_or (et_test (ev_eqI (ev_lenS (ev_rv rfl h1) hz) ev_ci)) fun _ => et_or (et_test (ev_ib (ev_lenS (ev_rv rfl h1) hz) ev_ci)) fun _ => et_test (ev_notInS (ev_ixS (i := 0) (ev_rv rfl h1) ev_ci hz (atI_at (by decide) (by rw [hc]; rfl))) ev_cs)) (fun e => ?_) fun _ H1 e1 => ?_
  · rw [decide_eq_false n1, decide_eq_false n2, decide_eq_true p3'] at e
    cases e
  · have v2 := ev_lcm (vs := [1]) (j := 1) (fun x : Str => decide (x.cps.toList.headD 0 ∈ lowS) || decide (x.cps.toList.headD 0 ∈ digS)) Str.empty (by rw [List.length_map, Array.length_toList]; exact evi_str (σ := [some a, none]) (tl := tVar 0) (ev_rv rfl (Rep.mono (tx_of e1) h1))) (by rw [List.length_map, ← hl]; exact hz) (fun _ => rfl)
      (te := tOrV (tOp (fun x y H Q => ∃ (c : Nat) (z : Str), x = .str ⟨#[c]⟩ ∧ y = .str z ∧ Q (.bl (decide (c ∈ z.cps.toList))) H) (tVar 1) (tC (.str "abcdefghijklmnopqrstuvwxyz"))) (tOp (fun x y H Q => ∃ (c : Nat) (z : Str), x = .str ⟨#[c]⟩ ∧ y = .str z ∧ Q (.bl (decide (c ∈ z.cps.toList))) H) (tVar 1) (tC (.str "0123456789")))) (fun x v H2 hx e2 hv => by
        obtain ⟨d, hd, rfl⟩ := List.mem_map.mp hx
        exact ev_orV (ev_inS (ev_rv rfl hv) ev_cs) fun _ => ev_inS (ev_rv rfl hv) ev_cs)
    refine s_ret (ev_all (v2.imp fun _ _ h => h.ls)) fun v H2 e2 hv => q v H2 (e1.trans e2) ?_
    rw [List.all_map] at hv
    have e3 : (z.cps.toList.map fun c => (⟨#[c]⟩ : Str)).all (id ∘ fun x : Str => decide (x.cps.toList.headD 0 ∈ lowS) || decide (x.cps.toList.headD 0 ∈ digS)) = true := by
      rw [List.all_map]
      exact p4
    rw [e3] at hv
    exact hv
abbrev N_check_names : List Str := ["names", "name"]
theorem sc_check_names : FnScope N_check_names ["names"] (defScope s_check_names) := ⟨rfl, rfl, rfl, by decide +kernel, rfl, by decide +kernel, by decide +kernel⟩
abbrev sp_check_names : Sp := Pp (fun g : List Str => [Ls g]) (fun g => g.all nameB = true ∧ g.Nodup ∧ g.length ≤ 4000) (fun g => R ())
theorem ok_check_names {f : Addr} {fd : FuncData} (T : Txt K mg) (c_is_name : C8.Cal P w K mg base 1 "is_name" sp_is_name []) (F : FunD K "_check_names" "_check_names" (defArgs s_check_names) (defBody s_check_names) (defScope s_check_names) [] [] f fd) (hm : mg "_check_names" = some (.ref f)) : C8.Cal P w K mg base 2 "_check_names" sp_check_names [] := by
  refine cal_of F hm sc_check_names (fun _ _ _ _ _ _ us hl => match us, hl with | [_], _ => rfl) (fun vs H Q E ⟨g, h, _⟩ => fas_len h) (fun cdv A outer s H vs Q E hr h => ?_)
  obtain ⟨xs, h, hp, q⟩ := h
  obtain ⟨a, rfl, h1⟩ := fas1 h
  refine ⟨_, (pss_one (ps_if (PW.pt (pw_or (pt_not (pt_val (pe_callB (k_all (K := K) rfl rfl) (by rfl) T.all (by decide +kernel) (pa_cons (pe_lc (own := [("name", 1)]) rfl sc_check_names.nd (k_list (K := K) rfl (pv 0)) (blkOk_by (N := N_check_names) (sc := defScope s_check_names) (by decide +kernel)) (fun _ _ _ _ _ => (pg_name (i := 1) sc_check_names.nd rfl (by first | exact .inl rfl | exact .inr rfl))) (fun _ _ _ _ _ => pts_nil) (fun _ _ _ _ _ => (C8.pe_c c_is_name hr (by decide) (by rfl) (pa_cons (pv 1) pa_nil)))) pa_nil)))) (pw_or1 (pt_cmpR op_ne (k_lenSet (K := K) rfl rfl (by rfl) T.len (by rfl) T.set (pv 0)) (pe_callB (k_len (K := K) rfl) (by rfl) T.len PySem.boot_len (pa_cons (pv 0) pa_nil)) (nomark _))))) pss_never pss_nil)), ?_⟩
  obtain ⟨p1, p2, p3⟩ := hp
  refine s_guard (b := (!(xs.map fun _ => true).all id) || !decide ((xs.length : Int) = (xs.length : Int))) (et_or (et_not (et_B (ev_all (ev_ls (ev_lcm (fun x : Str => true) Str.empty (evi_list (K := K) (ev_var rfl h1)) (by rw [sizeLine_eq]; omega) (fun _ => rfl) (fun z x H1 hz e hx => ev_pp z (ea_cons (ev_rv rfl hx) ea_nil) (List.all_eq_true.mp p1 z hz))))))) fun _ => et_test (ev_neI (ev_lenSet (ev_var rfl h1) p2 p3) (ev_lenL (ev_var rfl h1)))) ?_ fun H1 e => q _ H1 e rfl
  rw [decide_eq_true rfl, List.all_map]
  simp
/-- anything -/
structure AnyV where
instance : Rep AnyV := ⟨fun _ _ _ => True, fun _ h => h⟩
def ordB (n : Int) : Int → List Int → Bool
  | _, [] => true
  | b, c :: cs => decide (b < c) && decide (c < n) && ordB n c cs
abbrev N_check_order : List Str := ["pairs", "count", "before", "cell", "_"]
theorem sc_check_order : FnScope N_check_order ["pairs", "count"] (defScope s_check_order) := ⟨rfl, rfl, rfl, by decide +kernel, rfl, by decide +kernel, by decide +kernel⟩
abbrev sp_check_order : Sp := Pp (fun g : List (Int × AnyV) × Int => [R g.1, R g.2]) (fun g => ordB g.2 (-1) (g.1.map (·.1)) = true) (fun g => R ())
theorem ok_check_order {f : Addr} {fd : FuncData} (T : Txt K mg)  (F : FunD K "_check_order" "_check_order" (defArgs s_check_order) (defBody s_check_order) (defScope s_check_order) [] [] f fd) (hm : mg "_check_order" = some (.ref f)) : C8.Cal P w K mg base 1 "_check_order" sp_check_order [] := by
  refine cal_of F hm sc_check_order (fun _ _ _ _ _ _ us hl => match us, hl with | [_, _], _ => rfl) (fun vs H Q E ⟨g, h, _⟩ => fas_len h) (fun cdv A outer s H vs Q E hr h => ?_)
  obtain ⟨⟨ps, n⟩, h, hp, q⟩ := h
  obtain ⟨a, b, rfl, h1, h2⟩ := fas2 h
  refine ⟨_, (pss_cons (ps_set (i := 2) sc_check_order.nd rfl (by first | exact .inl rfl | exact .inr rfl) (pe_un un_neg pe_int))
      (pss_one (ps_for PassesOwn.never rfl (k_tup (K := K) rfl (pv 0)) (k_gtup (K := K) (n := 2) rfl rfl (pgs_cons (pg_name (i := 3) sc_check_order.nd rfl (by first | exact .inl rfl | exact .inr rfl)) (pgs_cons (pg_name (i := 4) sc_check_order.nd rfl (by first | exact .inl rfl | exact .inr rfl)) pgs_nil)))
        (pss_cons (ps_if (PW.pt (pw_or (pt_cmpR op_le (pv 3) (pv 2) (nomark _)) (pw_or1 (pt_cmpR op_ge (pv 3) (pv 1) (nomark _))))) pss_never pss_nil)
        (pss_one (ps_set (i := 2) sc_check_order.nd rfl (by first | exact .inl rfl | exact .inr rfl) (pv 3))))))), ?_⟩
  refine q_asg (φ := R (-1 : Int)) (fun H1 e Q q => ⟨1, rfl, q _ H1 (Same.refl _) rfl⟩) fun v H1 e1 hv => ?_
  refine s_for (evi_tup (ev_rv rfl (Rep.mono (tx_of e1) h1))) (fun H2 i σ' H' => Same H2 H' ∧ ∃ (c : Int) (y z : Option V), σ' = [some a, some b, some (.int c), y, z] ∧ ordB n c ((ps.drop i).map (·.1)) = true) (fun H2 e2 => ⟨Same.refl _, -1, none, none, by rw [show v = .int (-1) from hv]; rfl, hp⟩) (fun H2 i σ' H' p => p.1) ?_ ?_
  · rintro H2 i x σ' H' H'' e2 hi ⟨s1, c, y, z, rfl, ho⟩ s2 ⟨p, hg, hx⟩
    refine g_pair hx fun x1 x2 hx1 hx2 => ?_
    have hd : ps.drop i = p :: ps.drop (i + 1) := by
      obtain ⟨hlt, e⟩ := List.getElem?_eq_some_iff.mp hg
      rw [← e, List.drop_eq_getElem_cons hlt]
    rw [hd, List.map_cons] at ho
    have ho : (decide (c < p.1) && decide (p.1 < n) && ordB n p.1 ((ps.drop (i + 1)).map (·.1))) = true := ho
    simp only [Bool.and_eq_true, decide_eq_true_eq] at ho
    refine q_guard (b := decide (p.1 ≤ c) || decide (n ≤ p.1)) (et_or (et_test (ev_ib (ev_rv rfl hx1) (ev_rv (x := c) rfl rfl))) fun _ => et_test (ev_ib (ev_rv rfl hx1) (ev_rv rfl (Rep.mono (tx_of (((e1.trans e2).trans s1).trans s2)) h2)))) ?_ fun H3 e3 => ?_
    · rw [decide_eq_false (by omega), decide_eq_false (by omega)]
      rfl
    · refine s_asg (ev_rv (i := 3) rfl (Rep.mono (tx_of e3) hx1)) fun v4 H4 e4 hv4 => ⟨((s1.trans s2).trans e3).trans e4, p.1, some x1, some x2, ?_, ho.2⟩
      rw [show v4 = .int p.1 from hv4]
      rfl
  · rintro H2 σ' H' e2 ⟨s1, _⟩
    exact q _ H' ((e1.trans e2).trans s1) rfl
/-! block_tuples, all_contents -/
abbrev N_block_tuples : List Str := ["blocks", "length", "count", "chosen"]
theorem sc_block_tuples : FnScope N_block_tuples ["blocks", "length"] (defScope s_block_tuples) := ⟨rfl, rfl, rfl, by decide +kernel, rfl, by decide +kernel, by decide +kernel⟩
abbrev sp_block_tuples : Sp := Pn (fun g : Nat × Nat => [R (g.1 : Int), R (g.2 : Int)]) (fun g => okComb g.1 g.2) (fun g H => NLs H (combI g.1 g.2))
theorem ok_block_tuples {f : Addr} {fd : FuncData} (T : Txt K mg)  (F : FunD K "block_tuples" "block_tuples" (defArgs s_block_tuples) (defBody s_block_tuples) (defScope s_block_tuples) [] [] f fd) (hm : mg "block_tuples" = some (.ref f)) : C8.Cal P w K mg base 1 "block_tuples" sp_block_tuples [] := by
  refine cal_of F hm sc_block_tuples (fun _ _ _ _ _ _ us hl => match us, hl with | [_, _], _ => rfl) (fun vs H Q E ⟨g, h, _⟩ => fas_len h) (fun cdv A outer s H vs Q E hr h => ?_)
  obtain ⟨⟨n, k⟩, h, hp, q⟩ := h
  obtain ⟨a, b, rfl, h1, h2⟩ := fas2 h
  refine ⟨_, (pss_cons (ps_set (i := 2) sc_block_tuples.nd rfl (by first | exact .inl rfl | exact .inr rfl) (pe_callTy call_int1 (by rfl) T.int (by decide +kernel) (pa_cons (pv 1) pa_nil)))
      (pss_one (ps_ret (pe_lc (own := [("chosen", 3)]) rfl sc_block_tuples.nd (pi_comb (j := 2) (by rfl) T.combinations (prz_1 (by rfl) T.range (pv 0)) rfl (by first | exact .inl rfl | exact .inr rfl) rfl) (blkOk_by (N := N_block_tuples) (sc := defScope s_block_tuples) (by decide +kernel)) (fun _ _ _ _ _ => (pg_name (i := 3) sc_block_tuples.nd rfl (by first | exact .inl rfl | exact .inr rfl))) (fun _ _ _ _ _ => pts_nil) (fun _ _ _ _ _ => (pe_callTy (k_tuple (K := K) rfl) (by rfl) T.tuple (by decide +kernel) (pa_cons (pv 3) pa_nil))))))), ?_⟩
  refine q_asg (ev_int1 (i := (k : Int)) (ev_rv rfl h2)) fun v H1 e1 hv => ?_
  have v2 := ev_lcm (vs := [3]) (j := 3) (fun x : List Int => x) [] (evi_comb (n := n) (k := k) (j := 2) (σ := [some a, some b, some v, none]) (ta := tVar 0) (H := H1) (ev_rv rfl (Rep.mono (tx_of e1) h1)) (by rw [show v = .int (k : Int) from hv]; rfl) hp) (by obtain ⟨rfl | rfl, rfl | rfl⟩ := hp <;> decide) (fun _ => rfl)
    (te := tCB (fun xs H Q => ∃ p ys, xs = [.ref p] ∧ ((SqL K H p ys ∧ ∀ l, H l = none → Q (.ref l) (upd H l (.tup ys))) ∨ (SqT K H p ys ∧ Q (.ref p) H))) (tCons (tVar 3) tNil)) (fun z x H1 hz e hx => ev_tupT (ev_rv rfl hx))
  rw [List.map_id'] at v2
  exact s_ret v2 fun v H2 e2 hv => q v H2 (e1.trans e2) (hv.back e1)
def allC : Nat → List (List Int)
  | 0 => [[]]
  | n + 1 => (prodI [] (allC n) 2).map fun c => c.1 ++ [c.2]
abbrev N_all_contents : List Str := ["values", "length", "found", "_", "contents", "value"]
theorem sc_all_contents : FnScope N_all_contents ["values", "length"] (defScope s_all_contents) := ⟨rfl, rfl, rfl, by decide +kernel, rfl, by decide +kernel, by decide +kernel⟩
abbrev sp_all_contents : Sp := Pn (fun g : Int × Nat => [R g.1, R (g.2 : Int)]) (fun g => g.1 = 2 ∧ (g.2 = 1 ∨ g.2 = 2)) (fun g H => NLs H (allC g.2))
theorem ok_all_contents {f : Addr} {fd : FuncData} (T : Txt K mg)  (F : FunD K "all_contents" "all_contents" (defArgs s_all_contents) (defBody s_all_contents) (defScope s_all_contents) [] [] f fd) (hm : mg "all_contents" = some (.ref f)) : C8.Cal P w K mg base 1 "all_contents" sp_all_contents [] := by
  refine cal_of F hm sc_all_contents (fun _ _ _ _ _ _ us hl => match us, hl with | [_, _], _ => rfl) (fun vs H Q E ⟨g, h, _⟩ => fas_len h) (fun cdv A outer s H vs Q E hr h => ?_)
  obtain ⟨⟨n, k⟩, h, hp, q⟩ := h
  obtain ⟨a, b, rfl, h1, h2⟩ := fas2 h
  refine ⟨_, (pss_cons (ps_set (i := 2) sc_all_contents.nd rfl (by first | exact .inl rfl | exact .inr rfl) (pe_lst (pa_cons (pe_tup pa_nil) pa_nil)))
      (pss_cons (ps_for PassesOwn.never rfl (pi_range1 (by rfl) T.range (pa_cons (pv 1) pa_nil)) (pg_name (i := 3) sc_all_contents.nd rfl (by first | exact .inl rfl | exact .inr rfl))
        (pss_one (ps_setLc (i := 2) (own := [("contents", 4), ("value", 5)]) rfl sc_all_contents.nd rfl rfl (sw_true rfl rfl rfl (by decide +kernel)) (k_product (K := K) rfl (by rfl) T.product (pv 2) (prz_1 (by rfl) T.range (pv 0)) rfl) (blkOk_by (N := N_all_contents) (sc := defScope s_all_contents) (by decide +kernel)) (fun _ _ _ _ _ => (k_gtup (K := K) (n := 2) rfl rfl (pgs_cons (pg_name (i := 4) sc_all_contents.nd rfl (by first | exact .inl rfl | exact .inr rfl)) (pgs_cons (pg_name (i := 5) sc_all_contents.nd rfl (by first | exact .inl rfl | exact .inr rfl)) pgs_nil)))) (fun _ _ _ _ _ => pts_nil) (fun _ _ _ _ _ => (pe_op (k_catA (K := K) rfl) (pv 4) (pe_tup (pa_cons (pv 5) pa_nil)))))))
      (pss_one (ps_ret (pv 2))))), ?_⟩
  obtain ⟨p1, p2⟩ := hp
  obtain rfl : n = 2 := p1
  have p2 : k = 1 ∨ k = 2 := p2
  refine q_asg (ev_nl1 (ev_tl0 (α := Int))) fun v H1 e1 hv => ?_
  refine q_for (evi_range1 (n := (k : Int)) (ea_cons (ev_rv rfl (Rep.mono (tx_of e1) h2)) ea_nil) (by omega) (by omega)) (fun H2 i σ' H' => Same H2 H' ∧ ∃ (u : V) (x y z : Option V), σ' = [some a, some b, some u, x, y, z] ∧ NLs H (allC i) u H') (fun H2 e2 => ⟨Same.refl _, v, none, none, none, rfl, Mo.mo e2 (hv.back (Same.refl _))⟩) (fun H2 i σ' H' p => p.1) ?_ ?_
  · rintro H2 i x σ' H' H'' e2 hi ⟨s1, u, x1, y1, z1, rfl, hu⟩ s2 _
    have hi2 : i = 0 ∨ i = 1 := by
      have : i < k := by simpa using hi
      omega
    have hu2 := Mo.mo s2 hu
    have sA : Same H H'' := ((e1.trans e2).trans s1).trans s2
    have ev := ev_lc2m (K := K) (vs := [4, 5]) (i := 4) (j := 5) (fun c : List Int × Int => c.1 ++ [c.2]) ([], 0) (evi_prod (K := K) [] (n := 2) (σ := [some a, some b, some u, some x, y1, z1]) (tl := tVar 2) (ta := tVar 0) (ev_var rfl hu2.ls) (ev_rv (x := (2 : Int)) rfl (Rep.mono (tx_of sA) h1)) (by rcases hi2 with rfl | rfl <;> first | exact ⟨.inl rfl, rfl⟩ | exact ⟨.inr rfl, rfl⟩)) (by rcases hi2 with rfl | rfl <;> decide) (fun _ _ => rfl)
      (te := tOp (rCatA K) (tVar 4) (tTup (tCons (tVar 5) tNil))) (fun z x3 y3 H3 hz e3 hx hy => ev_catT (ev_rv rfl hx) (ev_tl1 (ev_rv rfl hy)) (by
        have hz1 : z.1.length ≤ 2 := by
          have : ∀ z ∈ prodI [] (allC i) 2, z.1.length ≤ 2 := by rcases hi2 with rfl | rfl <;> decide
          exact this z hz
        rw [sizeLine_eq, List.length_singleton]
        omega))
    refine s_asg ev fun v4 H4 e4 hv4 => ⟨(s1.trans s2).trans e4, v4, some x, y1, z1, rfl, hv4.back sA⟩
  · rintro H2 σ' H' e2 ⟨s1, u, x1, y1, z1, rfl, hu⟩
    refine s_ret (φ := NLs H (allC k)) (ev_var rfl (by simpa using hu)) fun v5 H5 e5 hv5 => q v5 H5 (((e1.trans e2).trans s1).trans e5) hv5
end
end RW
set_option Elab.async false
set_option linter.all false
set_option maxRecDepth 100000
set_option maxHeartbeats 4000000
namespace RW
open PySem PySem.Spec PyProof.Rows L2
local macro_rules | `(tactic| walk_at "sm") => `(tactic| first
  | exact Same.refl _
  | assumption
  | exact same_new (by assumption)
  | (refine Same.trans ?_ (by assumption); walk_at "sm")
  | (refine Same.trans ?_ (same_new (by assumption)); walk_at "sm"))
local macro_rules | `(tactic| walk_at "rp") => `(tactic| first
  | assumption
  | exact rfl
  | (refine Rep.mono (tx_of ?_) (by assumption); walk_at "sm")
  | (refine Mo.mo ?_ (by assumption); walk_at "sm"))
local macro_rules | `(tactic| walk_at "ev") => `(tactic| first
  | exact ev_ci
  | exact ev_cs
  | exact ev_cb
  | exact ev_cn
  | (refine @ev_rv _ _ _ _ _ _ _ rfl ?_; walk_at "rp")
  | (refine @ev_var _ _ _ _ _ ?_ rfl ?_; (first | infer_instance | skip); walk_at "rp")
  | (refine ev_ii ?_ ?_ <;> walk_at "ev")
  | (refine ev_ib ?_ ?_ <;> walk_at "ev")
  | (refine ev_eqI ?_ ?_ <;> walk_at "ev")
  | (refine ev_neI ?_ ?_ <;> walk_at "ev")
  | (refine ev_lenT ?_ <;> walk_at "ev")
  | (refine ev_lenL ?_ <;> walk_at "ev")
  | (refine ev_int1 ?_ <;> walk_at "ev")
  | (refine et_test ?_ <;> walk_at "ev")
  | (refine et_B ?_ <;> walk_at "ev")
  | (refine et_not ?_ <;> walk_at "ev")
  | (refine et_or ?_ (fun _ => ?_) <;> walk_at "ev")
  | (refine et_and ?_ (fun _ => ?_) <;> walk_at "ev"))
/-! ### a loop that appends -/
section
variable {Gd : Hp → Hp → Prop} {σ : L2.St} {H : Hp} {wi : TI} {g : TG} {tb tz : TS} {D : Ends} {α β : Type} [Rep α] [Rep β] {zs : List β} {xs : List α} {l : Addr}
theorem take_snoc {β : Type} {zs : List β} {i : Nat} {z : β} (h : zs[i]? = some z) : zs.take (i + 1) = zs.take i ++ [z] := by
  rw [List.take_add_one, h]
  rfl
theorem s_forApp (f : β → α) (Ps : L2.St → Prop) (h : EvG (OffL [l]) wi σ H zs.length (RI zs)) (h0 : Ps σ) (ha : At l xs H) (hz : xs.length + zs.length ≤ sizeLine)
    (hs : ∀ z x σ' H' ys (D' : Ends), z ∈ zs → Ps σ' → OffL [l] H H' → Rep.rp H' z x → At l ys H' → ys.length < sizeLine → (∀ σ2 H2, Ps σ2 → OffL [l] H' H2 → At l (ys ++ [f z]) H2 → D'.nx σ2 H2) → g x σ' H' fun σ2 H2 => tb D' σ2 H2)
    (hd : ∀ σ' H', Ps σ' → OffL [l] H H' → At l (xs ++ zs.map f) H' → D.nx σ' H') : tFor wi g tb D σ H := by
  refine s_forG h (fun H1 i σ' H' => Ps σ' ∧ OffL [l] H1 H' ∧ At l (xs ++ (zs.take i).map f) H') (fun H1 e => ⟨h0, OffL.refl _ _, by simpa using ha.same e⟩) (fun H1 i σ' H' p => p.2.1) ?_ ?_
  · rintro H1 i x σ' H' H'' e hi ⟨p1, p2, p3⟩ s2 ⟨z, hzi, hx⟩
    refine hs z x σ' H'' _ _ (List.mem_of_getElem? hzi) p1 ((OffL.of e).trans (p2.trans (OffL.of s2))) hx (p3.same s2) ?_ fun σ2 H2 q1 q2 q3 => ⟨q1, (p2.trans (OffL.of s2)).trans q2, ?_⟩
    · rw [List.length_append, List.length_map, List.length_take]
      omega
    · rw [take_snoc hzi, List.map_append, List.map_singleton, ← List.append_assoc]
      exact q3
  · rintro H1 σ' H' e ⟨p1, p2, p3⟩
    rw [List.take_length] at p3
    exact hd σ' H' p1 ((OffL.of e).trans p2) p3
theorem q_forApp (f : β → α) (Ps : L2.St → Prop) (h : EvG (OffL [l]) wi σ H zs.length (RI zs)) (h0 : Ps σ) (ha : At l xs H) (hz : xs.length + zs.length ≤ sizeLine)
    (hs : ∀ z x σ' H' ys (D' : Ends), z ∈ zs → Ps σ' → OffL [l] H H' → Rep.rp H' z x → At l ys H' → ys.length < sizeLine → (∀ σ2 H2, Ps σ2 → OffL [l] H' H2 → At l (ys ++ [f z]) H2 → D'.nx σ2 H2) → g x σ' H' fun σ2 H2 => tb D' σ2 H2)
    (hd : ∀ σ' H', Ps σ' → OffL [l] H H' → At l (xs ++ zs.map f) H' → tz D σ' H') : tSeq (tFor wi g tb) tz D σ H := s_forApp (D := { D with nx := tz D }) f Ps h h0 ha hz hs hd
end
theorem ev_inL {K : PySem.W.Frag} {σ : L2.St} {H : Hp} {ta tb : TE} {x : Int} {ys : List Int} (ha : Ev ta σ H (R x)) (hb : Ev tb σ H (R ys)) : Ev (tOp (rIn K false) ta tb) σ H (R (decide (x ∈ ys))) :=
  ev_op ha hb fun v w H1 _ h1 h2 Q q => by
    obtain ⟨a, vs, rfl, ha, r⟩ := h2
    rw [r.ints] at ha
    refine ⟨a, ys.map V.int, rfl, .inr (.inl (.inl ha)), by rw [show v = .int x from h1]; rfl, by rw [List.all_map]; exact List.all_eq_true.mpr fun _ _ => rfl, ?_⟩
    have e : inV v (ys.map V.int) = decide (x ∈ ys) := by
      rw [show v = .int x from h1]
      show (ys.map V.int).any (fun y => eqV y (.int x)) = _
      rw [List.any_map]
      show ys.any (fun y => y == x) = _
      rw [Bool.eq_iff_iff]
      simp
    rw [e]
    exact q _ _ (Same.refl _) rfl
section
variable {P : Program} {w : World} {K : PySem.W.Frag} {mg : Str → Option Value} {base : Heap}
def okF (F : Form) : Prop := (F.files = 1 ∨ F.files = 2) ∧ (F.blocks = 2 ∨ F.blocks = 3) ∧ F.alphabet = 2 ∧ (F.longest = 1 ∨ F.longest = 2)
def oneI (n : Int) : Int := 2 ^ n.toNat
def cellsI (F : Form) : List (Str × Int) :=
  ((rg F.files.toNat).map fun f => ([("d" : Str), toString f].foldl (· ++ ·) Str.empty, 1 + 2 * F.blocks)) ++ ((rg F.blocks.toNat).map fun b => ([("t" : Str), toString b].foldl (· ++ ·) Str.empty, 2 + F.blocks)) ++ (rg F.blocks.toNat).map fun b => ([("c" : Str), toString b].foldl (· ++ ·) Str.empty, F.alphabet)
theorem toStr_len {n : Int} (h0 : 0 ≤ n) (h : n < 10) : (toString n : Str).length = 1 := dig_len h0 h
theorem rg_mem {n : Nat} {z : Int} (h : z ∈ rg n) : 0 ≤ z ∧ z < n := by
  obtain ⟨k, hk, rfl⟩ := List.mem_map.mp h
  have := List.mem_range.mp hk
  omega
theorem ev_name2 {σ : L2.St} {H : Hp} {i : Nat} {x : V} {c : Str} {z : Int} (hs : σ[i]? = some (some x)) (hx : Rep.rp H z x) (h0 : 0 ≤ z) (h : z < 10) (hc : c.length = 1) : Ev (fun σ H Q => tJs [tC (.str c), tFmt (tVar i)] Str.empty σ H fun out H1 => Q (.str out) H1) σ H (R ([c, toString z].foldl (· ++ ·) Str.empty)) :=
  ev_fstr (.cons ev_cs (.cons (ev_fmtI (ev_rv hs hx) (small_log h0 (by omega))) .nil)) (by
    have := toStr_len h0 h
    show c.length + ((toString z : Str).length + 0) ≤ _
    rw [sizeLine_eq]; omega)
abbrev N_cells : List Str := ["form", "cells", "file", "block"]
theorem sc_cells : FnScope N_cells ["form"] (defScope s_cells) := ⟨rfl, rfl, rfl, by decide +kernel, rfl, by decide +kernel, by decide +kernel⟩
abbrev sp_cells (K : PySem.W.Frag) : Sp := Pn (fun g : Form => [FormS K g]) (fun g => okF g) (fun g H => NLs H (cellsI g))
theorem ok_cells {f : Addr} {fd : FuncData} (T : Txt K mg)  (F : FunD K "_cells" "_cells" (defArgs s_cells) (defBody s_cells) (defScope s_cells) [] [] f fd) (hm : mg "_cells" = some (.ref f)) : C8.Cal P w K mg base 1 "_cells" (sp_cells K) [] := by
  refine cal_of F hm sc_cells (fun _ _ _ _ _ _ us hl => match us, hl with | [_], _ => rfl) (fun vs H Q E ⟨g, h, _⟩ => fas_len h) (fun cdv A outer s H vs Q E hr h => ?_)
  obtain ⟨F0, h, hp, q⟩ := h
  obtain ⟨a, rfl, h1⟩ := fas1 h
  refine ⟨_, (pss_cons (ps_setLc (i := 1) (own := [("file", 2)]) rfl sc_cells.nd rfl rfl (sw_true rfl rfl rfl (by decide +kernel)) (pi_range1 (by rfl) T.range (pa_cons (k_fld (K := K) rfl (pv 0) rfl) pa_nil)) (blkOk_by (N := N_cells) (sc := defScope s_cells) (by decide +kernel)) (fun _ _ _ _ _ => (pg_name (i := 2) sc_cells.nd rfl (by first | exact .inl rfl | exact .inr rfl))) (fun _ _ _ _ _ => pts_nil) (fun _ _ _ _ _ => (pe_tup (pa_cons (pe_joined (PJ.cons pe_str (PJ.cons (pe_fmt (pv 2)) PJ.nil))) (pa_cons (pe_op op_add pe_int (pe_op op_mul pe_int (k_fld (K := K) rfl (pv 0) rfl))) pa_nil)))))
      (pss_cons (ps_aug (i := 1) sc_cells.nd rfl (by first | exact .inl rfl | exact .inr rfl) (pe_lc (own := [("block", 3)]) rfl sc_cells.nd (pi_range1 (by rfl) T.range (pa_cons (k_fld (K := K) rfl (pv 0) rfl) pa_nil)) (blkOk_by (N := N_cells) (sc := defScope s_cells) (by decide +kernel)) (fun _ _ _ _ _ => (pg_name (i := 3) sc_cells.nd rfl (by first | exact .inl rfl | exact .inr rfl))) (fun _ _ _ _ _ => pts_nil) (fun _ _ _ _ _ => (pe_tup (pa_cons (pe_joined (PJ.cons pe_str (PJ.cons (pe_fmt (pv 3)) PJ.nil))) (pa_cons (pe_op op_add pe_int (k_fld (K := K) rfl (pv 0) rfl)) pa_nil))))) ip_ext)
      (pss_one (ps_ret (pe_op op_cat (pv 1) (pe_lc (own := [("block", 3)]) rfl sc_cells.nd (pi_range1 (by rfl) T.range (pa_cons (k_fld (K := K) rfl (pv 0) rfl) pa_nil)) (blkOk_by (N := N_cells) (sc := defScope s_cells) (by decide +kernel)) (fun _ _ _ _ _ => (pg_name (i := 3) sc_cells.nd rfl (by first | exact .inl rfl | exact .inr rfl))) (fun _ _ _ _ _ => pts_nil) (fun _ _ _ _ _ => (pe_tup (pa_cons (pe_joined (PJ.cons pe_str (PJ.cons (pe_fmt (pv 3)) PJ.nil))) (pa_cons (k_fld (K := K) rfl (pv 0) rfl) pa_nil)))))))))), ?_⟩
  obtain ⟨p1, p2, p3, p4⟩ := hp
  have hf : 0 ≤ F0.files ∧ F0.files ≤ 2 := by omega
  have hb : 0 ≤ F0.blocks ∧ F0.blocks ≤ 3 := by omega
  refine q_asg (ev_lcm (fun f : Int => ([("d" : Str), toString f].foldl (· ++ ·) Str.empty, 1 + 2 * F0.blocks)) 0 (by rw [rg_len]; exact evi_range1 (n := F0.files) (ea_cons (ev_files T (ev_var rfl h1)) ea_nil) (by omega) (by omega)) (by rw [rg_len, sizeLine_eq]; omega) (fun _ => rfl) (fun z x H1 hz e hx => by
    have hz2 := rg_mem hz
    exact ev_pair (ev_name2 rfl hx hz2.1 (by omega) rfl) (ev_ii ev_ci (ev_iiC ev_ci (ev_blocks T (ev_var rfl (Mo.mo e h1))) (.inl (by decide)))))) fun v H1 e1 hv => ?_
  obtain ⟨l, rfl, hl0, hl⟩ := at_of hv
  have g1 := Mo.mo e1 h1
  refine q_extA (l := l) rfl hl (ev_lcm (fun b : Int => ([("t" : Str), toString b].foldl (· ++ ·) Str.empty, 2 + F0.blocks)) 0 (by rw [rg_len]; exact evi_range1 (n := F0.blocks) (ea_cons (ev_blocks T (ev_var rfl g1)) ea_nil) (by omega) (by omega)) (by rw [rg_len, sizeLine_eq]; omega) (fun _ => rfl) (fun z x H2 hz e hx => by
    have hz2 := rg_mem hz
    exact ev_pair (ev_name2 rfl hx hz2.1 (by omega) rfl) (ev_ii ev_ci (ev_blocks T (ev_var rfl (Mo.mo e g1)))))) (by rw [List.length_map, List.length_map, rg_len, rg_len, sizeLine_eq]; omega) fun H2 o2 hl2 => ?_
  have g2 : FormS K F0 a H2 := MoL.mo hl.ll o2 g1
  refine s_ret (ev_cat (ev_at hl2 rfl) (ev_ls (ev_lcm (fun b : Int => ([("c" : Str), toString b].foldl (· ++ ·) Str.empty, F0.alphabet)) 0 (by rw [rg_len]; exact evi_range1 (n := F0.blocks) (ea_cons (ev_blocks T (ev_var rfl g2)) ea_nil) (by omega) (by omega)) (by rw [rg_len, sizeLine_eq]; omega) (fun _ => rfl) (fun z x H3 hz e hx => by
    have hz2 := rg_mem hz
    exact ev_pair (ev_name2 rfl hx hz2.1 (by omega) rfl) (ev_alphabet T (ev_var rfl (Mo.mo e g2)))))) (by rw [List.length_append, List.length_map, List.length_map, List.length_map, rg_len, rg_len, sizeLine_eq]; omega)) fun v H3 e3 hv => ?_
  have sA : Same H H2 := same_off e1 o2 (fun c hc => by rw [show c = l from by simpa using hc]; exact hl0)
  exact q v H3 (sA.trans e3) (hv.back sA)
def guardI (F : Form) (file : Int) (bs : List Int) : List (Int × Int) := (file, oneI (1 + bs.headD 0)) :: (bs.zip (linksI bs)).map fun p => (F.files + p.1, oneI p.2)
/-- blocks as they come: at least one, none too great -/
def okB (bs : List Int) : Prop := bs ≠ [] ∧ bs.length ≤ 5 ∧ ∀ b ∈ bs, 0 ≤ b ∧ b ≤ 5
theorem okB_head {bs : List Int} (h : okB bs) : bs[0]? = some (bs.headD 0) ∧ 0 ≤ bs.headD 0 ∧ bs.headD 0 ≤ 5 := by
  obtain ⟨h1, h2, h3⟩ := h
  cases bs with
  | nil => exact absurd rfl h1
  | cons b r => exact ⟨rfl, h3 b List.mem_cons_self⟩
theorem linksI_le {bs : List Int} (h : okB bs) {p : Int × Int} (hp : p ∈ bs.zip (linksI bs)) : (0 ≤ p.1 ∧ p.1 ≤ 5) ∧ 0 ≤ p.2 ∧ p.2 ≤ 7 := by
  obtain ⟨a, b⟩ := p
  have h1 := List.of_mem_zip hp
  refine ⟨h.2.2 a h1.1, ?_⟩
  have h2 := h1.2
  unfold linksI at h2
  rcases List.mem_append.mp h2 with h3 | h3
  · obtain ⟨c, hc, e⟩ := List.mem_map.mp h3
    have := h.2.2 c (List.drop_subset _ _ hc)
    show 0 ≤ b ∧ b ≤ 7
    omega
  · have : b = 1 := by simpa using h3
    show 0 ≤ b ∧ b ≤ 7
    omega
theorem linksI_len (bs : List Int) : (linksI bs).length = bs.length - 1 + 1 := by
  unfold linksI
  rw [List.length_append, List.length_map, List.length_drop, List.length_singleton]
abbrev N_file_guard : List Str := ["form", "file", "blocks", "guard", "block", "value"]
theorem sc_file_guard : FnScope N_file_guard ["form", "file", "blocks"] (defScope s_file_guard) := ⟨rfl, rfl, rfl, by decide +kernel, rfl, by decide +kernel, by decide +kernel⟩
abbrev sp_file_guard (K : PySem.W.Frag) : Sp := Pp (fun g : T3 Form Int (List Int) => [FormS K g.a, R g.b, R g.c]) (fun g => okB g.c) (fun g => R (guardI g.a g.b g.c))
theorem ok_file_guard {f : Addr} {fd : FuncData} (T : Txt K mg) (c_one : C8.Cal P w K mg base 1 "one" sp_one []) (m_live : C8.Met P w K mg base 1 (CChainForm K) "live" (sp_ChainForm_live K) []) (c_links : C8.Cal P w K mg base 1 "_links" sp_links []) (m_link : C8.Met P w K mg base 1 (CChainForm K) "link" (sp_ChainForm_link K) []) (F : FunD K "_file_guard" "_file_guard" (defArgs s_file_guard) (defBody s_file_guard) (defScope s_file_guard) [] [] f fd) (hm : mg "_file_guard" = some (.ref f)) : C8.Cal P w K mg base 2 "_file_guard" (sp_file_guard K) [] := by
  refine cal_of F hm sc_file_guard (fun _ _ _ _ _ _ us hl => match us, hl with | [_, _, _], _ => rfl) (fun vs H Q E ⟨g, h, _⟩ => fas_len h) (fun cdv A outer s H vs Q E hr h => ?_)
  obtain ⟨⟨F0, file, bs⟩, h, hp, q⟩ := h
  obtain ⟨a, b, c, rfl, h1, h2, h3⟩ := fas3 h
  refine ⟨_, (pss_cons (ps_set (i := 3) sc_file_guard.nd rfl (by first | exact .inl rfl | exact .inr rfl) (pe_lst (pa_cons (pe_tup (pa_cons (pv 1) (pa_cons (C8.pe_c c_one hr (by decide) (by rfl) (pa_cons (C8.pe_mt m_live hr (by decide) (pv 0) (pa_cons (pe_ix (k_ixT (K := K) rfl) (pv 2) pe_int (fun _ _ => rfl)) pa_nil)) pa_nil)) pa_nil))) pa_nil)))
      (pss_cons (ps_for PassesOwn.never rfl (k_zipTL (K := K) rfl (by rfl) T.zip (pa_cons (pv 2) (pa_cons (C8.pe_c c_links hr (by decide) (by rfl) (pa_cons (pv 2) pa_nil)) pa_nil))) (k_gtup (K := K) (n := 2) rfl rfl (pgs_cons (pg_name (i := 4) sc_file_guard.nd rfl (by first | exact .inl rfl | exact .inr rfl)) (pgs_cons (pg_name (i := 5) sc_file_guard.nd rfl (by first | exact .inl rfl | exact .inr rfl)) pgs_nil)))
        (pss_one (ps_expr (pe_bm PySem.F.plainAttrs_list PySem.F.slot_list_append PySem.F.type_list_append mt_append (pv 3) (pa_cons (pe_tup (pa_cons (C8.pe_mt m_link hr (by decide) (pv 0) (pa_cons (pv 4) pa_nil)) (pa_cons (C8.pe_c c_one hr (by decide) (by rfl) (pa_cons (pv 5) pa_nil)) pa_nil))) pa_nil)))))
      (pss_one (ps_ret (pe_callTy (k_tuple (K := K) rfl) (by rfl) T.tuple (by decide +kernel) (pa_cons (pv 3) pa_nil)))))), ?_⟩
  have hp : okB bs := hp
  obtain ⟨k1, k2, k3⟩ := okB_head hp
  refine q_asg (ev_nl1 (ev_pair (ev_rv rfl h2) (ev_pp (1 + bs.headD 0) (ea_cons (ev_mpp ["files", "blocks", "alphabet", "longest", "wiped"] (F0, bs.headD 0) (ev_var (φ := FormS K F0) rfl h1) rfl (by decide +kernel) (ea_cons (ev_ixT (ev_rv rfl h3) ev_ci (atI_at (by decide) k1)) ea_nil) rfl trivial) ea_nil) (by omega)))) fun v H1 e1 hv => ?_
  obtain ⟨l, rfl, hl0, hl⟩ := at_of hv
  have g1 := Mo.mo e1 h1
  have g3 := Rep.mono (tx_of e1) h3
  have hlen0 : 1 + (bs.zip (linksI bs)).length ≤ sizeLine := by
    have h5 : bs.length ≤ 5 := hp.2.1
    have h6 : (bs.zip (linksI bs)).length ≤ bs.length := by rw [List.length_zip]; exact Nat.min_le_left _ _
    rw [sizeLine_eq]
    omega
  refine q_forApp (fun p : Int × Int => (F0.files + p.1, oneI p.2)) (fun σ' => ∃ y z, σ' = [some a, some b, some c, some (.ref l), y, z]) (evg_zipTN hl.ll (ea_cons (ev_rv rfl g3) (ea_cons (ev_pn bs (ea_cons (ev_rv rfl g3) ea_nil) (by have := hp.2.1; omega)) ea_nil))) ⟨none, none, rfl⟩ hl hlen0 ?_ ?_
  · rintro z x σ' H' ys D' hz ⟨y1, y2, rfl⟩ o1 hx hys hlen kk
    have hz2 := linksI_le hp hz
    refine g_pair hx fun x1 x2 hx1 hx2 => ?_
    refine s_appA hys hlen (ev_is rfl) (ev_pair (ev_mpp ["files", "blocks", "alphabet", "longest", "wiped"] (F0, z.1) (ev_var (φ := FormS K F0) rfl (MoL.mo hl.ll o1 g1)) rfl (by decide +kernel) (ea_cons (ev_rv rfl hx1) ea_nil) rfl trivial) (ev_pp z.2 (ea_cons (ev_rv rfl hx2) ea_nil) (by omega))) fun H2 o2 at2 => kk _ H2 ⟨some x1, some x2, rfl⟩ o2 at2
  · rintro σ' H' ⟨y1, y2, rfl⟩ o1 at1
    have sA : Same H H' := same_off e1 o1 (fun c hc => by rw [show c = l from by simpa using hc]; exact hl0)
    exact s_ret (ev_tupL (ev_at at1 rfl)) fun v H2 e2 hv => q v H2 (sA.trans e2) hv
def dataI (F : Form) (bs cs : List Int) : List (Int × (Str × Int)) := (bs.zip cs).map fun p => (F.files + F.blocks + p.1, (("set" : Str), p.2))
abbrev N_data_changes : List Str := ["form", "blocks", "contents", "block", "value"]
theorem sc_data_changes : FnScope N_data_changes ["form", "blocks", "contents"] (defScope s_data_changes) := ⟨rfl, rfl, rfl, by decide +kernel, rfl, by decide +kernel, by decide +kernel⟩
abbrev sp_data_changes (K : PySem.W.Frag) : Sp := Pp (fun g : T3 Form (List Int) (List Int) => [FormS K g.a, R g.b, R g.c]) (fun g => g.b.length ≤ 1000) (fun g => R (dataI g.a g.b g.c))
theorem ok_data_changes {f : Addr} {fd : FuncData} (T : Txt K mg) (c_set_to : C8.Cal P w K mg base 1 "set_to" sp_set_to []) (m_data : C8.Met P w K mg base 1 (CChainForm K) "data" (sp_ChainForm_data K) []) (F : FunD K "_data_changes" "_data_changes" (defArgs s_data_changes) (defBody s_data_changes) (defScope s_data_changes) [] [] f fd) (hm : mg "_data_changes" = some (.ref f)) : C8.Cal P w K mg base 2 "_data_changes" (sp_data_changes K) [] := by
  refine cal_of F hm sc_data_changes (fun _ _ _ _ _ _ us hl => match us, hl with | [_, _, _], _ => rfl) (fun vs H Q E ⟨g, h, _⟩ => fas_len h) (fun cdv A outer s H vs Q E hr h => ?_)
  obtain ⟨⟨F0, bs, cs⟩, h, hp, q⟩ := h
  obtain ⟨a, b, c, rfl, h1, h2, h3⟩ := fas3 h
  refine ⟨_, (pss_one (ps_ret (pe_callTy (k_tuple (K := K) rfl) (by rfl) T.tuple (by decide +kernel) (pa_cons (pe_lc (own := [("block", 3), ("value", 4)]) rfl sc_data_changes.nd (k_zipA (K := K) rfl (by rfl) T.zip (pa_cons (pv 1) (pa_cons (pv 2) pa_nil))) (blkOk_by (N := N_data_changes) (sc := defScope s_data_changes) (by decide +kernel)) (fun _ _ _ _ _ => (k_gtup (K := K) (n := 2) rfl rfl (pgs_cons (pg_name (i := 3) sc_data_changes.nd rfl (by first | exact .inl rfl | exact .inr rfl)) (pgs_cons (pg_name (i := 4) sc_data_changes.nd rfl (by first | exact .inl rfl | exact .inr rfl)) pgs_nil)))) (fun _ _ _ _ _ => pts_nil) (fun _ _ _ _ _ => (C8.pe_c c_set_to hr (by decide) (by rfl) (pa_cons (C8.pe_mt m_data hr (by decide) (pv 0) (pa_cons (pv 3) pa_nil)) (pa_cons (pv 4) pa_nil))))) pa_nil)))), ?_⟩
  have hp : bs.length ≤ 1000 := hp
  refine s_ret (ev_tupL (ev_ls (ev_lc2m (fun p : Int × Int => (F0.files + F0.blocks + p.1, (("set" : Str), p.2))) (0, 0) (evi_zipTT (ea_cons (ev_rv rfl h2) (ea_cons (ev_rv rfl h3) ea_nil))) (by rw [List.length_zip, sizeLine_eq]; omega) (fun _ _ => rfl) (fun z x y H1 hz e hx hy => ev_pp (F0.files + F0.blocks + z.1, z.2) (ea_cons (ev_mpp ["files", "blocks", "alphabet", "longest", "wiped"] (F0, z.1) (ev_var (φ := FormS K F0) rfl (Mo.mo e h1)) rfl (by decide +kernel) (ea_cons (ev_rv rfl hx) ea_nil) rfl trivial) (ea_cons (ev_rv rfl hy) ea_nil)) trivial)))) fun v H1 e hv => q v H1 e hv
/-! _write_deed -/
abbrev Deed := T3 Str (List (Int × Int)) (List (Int × (Str × Int)))
def deadI (F : Form) : Int := (rg F.blocks.toNat).foldl (fun d b => Builtin.bitXor d (oneI (1 + b))) (1 * 2 ^ (1 + 2 * F.blocks).toNat - 1)
def usedI (F : Form) : Int := 1 * 2 ^ (2 + F.blocks).toNat - 1 - oneI 0
def lastI (bs : List Int) : Int := bs.getLast?.getD 0
def wguardI (F : Form) (file : Int) (bs : List Int) : List (Int × Int) := (file, deadI F) :: (rg (lastI bs + 1).toNat).map fun b => (F.files + b, if b ∈ bs then oneI 0 else usedI F)
def wchangesI (F : Form) (file : Int) (bs : List Int) : List (Int × (Str × Int)) := (file, (("set" : Str), 1 + bs.headD 0)) :: (bs.zip (linksI bs)).map fun p => (F.files + p.1, (("set" : Str), p.2))
def nameI (c : Str) (file : Int) (bs cs : List Int) : Str := [c, toString file, ("b" : Str), digitsI bs, ("c" : Str), digitsI cs].foldl (· ++ ·) Str.empty
def writeI (F : Form) (file : Int) (bs cs : List Int) : Deed := ⟨nameI "w" file bs cs, wguardI F file bs, wchangesI F file bs ++ dataI F bs cs⟩
theorem digits_len {ns : List Int} (h : ∀ n ∈ ns, 0 ≤ n ∧ n < 10) : (digitsI ns).length = ns.length := by
  unfold digitsI
  rw [show Str.empty = PySem.Str.ofString "" by decide, PySem.W.KT.join_ones, List.length_map]
  intro a ha
  obtain ⟨n, hn, rfl⟩ := List.mem_map.mp ha
  exact dig_len (h n hn).1 (h n hn).2
theorem last_at {bs : List Int} (h : okB bs) : atI bs (-1) = some (lastI bs) ∧ 0 ≤ lastI bs ∧ lastI bs ≤ 5 := by
  obtain ⟨h1, h2, h3⟩ := h
  have hl : 0 < bs.length := List.length_pos_iff.mpr h1
  have e : bs.getLast? = some (bs.getLast h1) := List.getLast?_eq_some_getLast h1
  have e2 : lastI bs = bs.getLast h1 := by unfold lastI; rw [e]; rfl
  refine ⟨?_, by rw [e2]; exact h3 _ (List.getLast_mem h1)⟩
  unfold atI ixN
  rw [if_neg (by decide), if_pos (by omega)]
  show bs[((-1 : Int) + bs.length).toNat]? = _
  rw [show ((-1 : Int) + bs.length).toNat = bs.length - 1 by omega, e2, List.getLast_eq_getElem, List.getElem?_eq_getElem]
/-- the contents as they come -/
def okC (bs cs : List Int) : Prop := cs.length ≤ 5 ∧ ∀ c ∈ cs, 0 ≤ c ∧ c < 10
theorem okB_dig {bs : List Int} (h : okB bs) : bs.length ≤ 1000 ∧ ∀ n ∈ bs, 0 ≤ n ∧ n < 10 := ⟨by have := h.2.1; omega, fun n hn => by have := h.2.2 n hn; omega⟩
theorem okC_dig {bs cs : List Int} (h : okC bs cs) : cs.length ≤ 1000 ∧ ∀ n ∈ cs, 0 ≤ n ∧ n < 10 := ⟨by have := h.1; omega, h.2⟩
abbrev N_write_deed : List Str := ["form", "file", "blocks", "contents", "dead", "block", "guard", "used", "changes", "value", "name"]
theorem sc_write_deed : FnScope N_write_deed ["form", "file", "blocks", "contents"] (defScope s_write_deed) := ⟨rfl, rfl, rfl, by decide +kernel, rfl, by decide +kernel, by decide +kernel⟩
abbrev sp_write_deed (K : PySem.W.Frag) : Sp := Pp (fun g : T4 Form Int (List Int) (List Int) => [FormS K g.a, R g.b, R g.c, R g.d]) (fun g => okF g.a ∧ (0 ≤ g.b ∧ g.b < 10) ∧ okB g.c ∧ okC g.c g.d) (fun g => R (writeI g.a g.b g.c g.d))
theorem ok_write_deed {f : Addr} {fd : FuncData} (T : Txt K mg) (c_one : C8.Cal P w K mg base 1 "one" sp_one []) (m_live : C8.Met P w K mg base 1 (CChainForm K) "live" (sp_ChainForm_live K) []) (m_link : C8.Met P w K mg base 1 (CChainForm K) "link" (sp_ChainForm_link K) []) (c_set_to : C8.Cal P w K mg base 1 "set_to" sp_set_to []) (c_links : C8.Cal P w K mg base 1 "_links" sp_links []) (c_digits : C8.Cal P w K mg base 1 "digits" sp_digits []) (c_data_changes : C8.Cal P w K mg base 2 "_data_changes" (sp_data_changes K) []) (F : FunD K "_write_deed" "_write_deed" (defArgs s_write_deed) (defBody s_write_deed) (defScope s_write_deed) [] [] f fd) (hm : mg "_write_deed" = some (.ref f)) : C8.Cal P w K mg base 3 "_write_deed" (sp_write_deed K) [] := by
  refine cal_of F hm sc_write_deed (fun _ _ _ _ _ _ us hl => match us, hl with | [_, _, _, _], _ => rfl) (fun vs H Q E ⟨g, h, _⟩ => fas_len h) (fun cdv A outer s H vs Q E hr h => ?_)
  obtain ⟨⟨F0, file, bs, cs⟩, h, hp, q⟩ := h
  obtain ⟨a, b, c, d, rfl, h1, h2, h3, h4⟩ := fas4 h
  refine ⟨_, (pss_cons (ps_set (i := 4) sc_write_deed.nd rfl (by first | exact .inl rfl | exact .inr rfl) (pe_op op_sub (pe_op op_shl pe_int (pe_op op_add pe_int (pe_op op_mul pe_int (k_fld (K := K) rfl (pv 0) rfl)))) pe_int))
      (pss_cons (ps_for PassesOwn.never rfl (pi_range1 (by rfl) T.range (pa_cons (k_fld (K := K) rfl (pv 0) rfl) pa_nil)) (pg_name (i := 5) sc_write_deed.nd rfl (by first | exact .inl rfl | exact .inr rfl))
        (pss_one (ps_aug (i := 4) sc_write_deed.nd rfl (by first | exact .inl rfl | exact .inr rfl) (C8.pe_c c_one hr (by decide) (by rfl) (pa_cons (C8.pe_mt m_live hr (by decide) (pv 0) (pa_cons (pv 5) pa_nil)) pa_nil)) ip_xor)))
      (pss_cons (ps_set (i := 6) sc_write_deed.nd rfl (by first | exact .inl rfl | exact .inr rfl) (pe_lst (pa_cons (pe_tup (pa_cons (pv 1) (pa_cons (pv 4) pa_nil))) pa_nil)))
      (pss_cons (ps_for PassesOwn.never rfl (pi_range1 (by rfl) T.range (pa_cons (pe_op op_add (pe_ix (k_ixT (K := K) rfl) (pv 2) (pe_un un_neg pe_int) (fun _ _ => rfl)) pe_int) pa_nil)) (pg_name (i := 5) sc_write_deed.nd rfl (by first | exact .inl rfl | exact .inr rfl))
        (pss_cons (ps_set (i := 7) sc_write_deed.nd rfl (by first | exact .inl rfl | exact .inr rfl) (pe_op op_sub (pe_op op_sub (pe_op op_shl pe_int (pe_op op_add pe_int (k_fld (K := K) rfl (pv 0) rfl))) pe_int) (C8.pe_c c_one hr (by decide) (by rfl) (pa_cons (C8.pe_gc (by rfl) T.FREE) pa_nil))))
        (pss_one (ps_expr (pe_bm PySem.F.plainAttrs_list PySem.F.slot_list_append PySem.F.type_list_append mt_append (pv 6) (pa_cons (pe_tup (pa_cons (C8.pe_mt m_link hr (by decide) (pv 0) (pa_cons (pv 5) pa_nil)) (pa_cons (pe_ifExp (pt_cmpR (k_in (K := K) rfl) (pv 5) (pv 2) (by rfl)) (C8.pe_c c_one hr (by decide) (by rfl) (pa_cons (C8.pe_gc (by rfl) T.FREE) pa_nil)) (pv 7)) pa_nil))) pa_nil))))))
      (pss_cons (ps_set (i := 8) sc_write_deed.nd rfl (by first | exact .inl rfl | exact .inr rfl) (pe_lst (pa_cons (C8.pe_c c_set_to hr (by decide) (by rfl) (pa_cons (pv 1) (pa_cons (C8.pe_mt m_live hr (by decide) (pv 0) (pa_cons (pe_ix (k_ixT (K := K) rfl) (pv 2) pe_int (fun _ _ => rfl)) pa_nil)) pa_nil))) pa_nil)))
      (pss_cons (ps_for PassesOwn.never rfl (k_zipTL (K := K) rfl (by rfl) T.zip (pa_cons (pv 2) (pa_cons (C8.pe_c c_links hr (by decide) (by rfl) (pa_cons (pv 2) pa_nil)) pa_nil))) (k_gtup (K := K) (n := 2) rfl rfl (pgs_cons (pg_name (i := 5) sc_write_deed.nd rfl (by first | exact .inl rfl | exact .inr rfl)) (pgs_cons (pg_name (i := 9) sc_write_deed.nd rfl (by first | exact .inl rfl | exact .inr rfl)) pgs_nil)))
        (pss_one (ps_expr (pe_bm PySem.F.plainAttrs_list PySem.F.slot_list_append PySem.F.type_list_append mt_append (pv 8) (pa_cons (C8.pe_c c_set_to hr (by decide) (by rfl) (pa_cons (C8.pe_mt m_link hr (by decide) (pv 0) (pa_cons (pv 5) pa_nil)) (pa_cons (pv 9) pa_nil))) pa_nil)))))
      (pss_cons (ps_set (i := 10) sc_write_deed.nd rfl (by first | exact .inl rfl | exact .inr rfl) (pe_joined (PJ.cons pe_str (PJ.cons (pe_fmt (pv 1)) (PJ.cons pe_str (PJ.cons (pe_fmt (C8.pe_c c_digits hr (by decide) (by rfl) (pa_cons (pv 2) pa_nil))) (PJ.cons pe_str (PJ.cons (pe_fmt (C8.pe_c c_digits hr (by decide) (by rfl) (pa_cons (pv 3) pa_nil))) PJ.nil))))))))
      (pss_one (ps_ret (pe_tup (pa_cons (pv 10) (pa_cons (pe_callTy (k_tuple (K := K) rfl) (by rfl) T.tuple (by decide +kernel) (pa_cons (pv 6) pa_nil)) (pa_cons (pe_op (k_catA (K := K) rfl) (pe_callTy (k_tuple (K := K) rfl) (by rfl) T.tuple (by decide +kernel) (pa_cons (pv 8) pa_nil)) (C8.pe_c c_data_changes hr (by decide) (by rfl) (pa_cons (pv 0) (pa_cons (pv 2) (pa_cons (pv 3) pa_nil))))) pa_nil))))))))))))), ?_⟩
  obtain ⟨p1, p2, p3, p4⟩ := hp
  have p1 : okF F0 := p1
  have p2 : 0 ≤ file ∧ file < 10 := p2
  have p3 : okB bs := p3
  have p4 : okC bs cs := p4
  have h1 : FormS K F0 a H := h1
  have h2 : Rep.rp H file b := h2
  have h3 : Rep.rp H bs c := h3
  have h4 : Rep.rp H cs d := h4
  obtain ⟨k1, k2, k3⟩ := okB_head p3
  obtain ⟨m1, m2, m3⟩ := last_at p3
  have hb : 0 ≤ F0.blocks ∧ F0.blocks ≤ 3 := by have := p1.2.1; omega
  have nm : ["files", "blocks", "alphabet", "longest", "wiped"] = ["files", "blocks", "alphabet", "longest", "wiped"] := rfl
  refine q_asg (ev_ii (ev_iiC ev_ci (ev_ii ev_ci (ev_iiC ev_ci (ev_blocks T (ev_var rfl h1)) (.inl (by decide)))) ⟨by omega, by omega, by decide⟩) ev_ci) fun v H1 e1 hv => ?_
  have g1 := Mo.mo e1 h1
  rw [show v = .int _ from hv]
  refine q_for (evi_range1 (n := F0.blocks) (ea_cons (ev_blocks T (ev_var rfl g1)) ea_nil) (by omega) (by omega)) (fun H2 i σ' H' => Same H2 H' ∧ ∃ y, σ' = [some a, some b, some c, some d, some (.int (((rg F0.blocks.toNat).take i).foldl (fun d b => Builtin.bitXor d (oneI (1 + b))) (1 * 2 ^ (1 + 2 * F0.blocks).toNat - 1))), y, none, none, none, none, none]) (fun H2 e2 => ⟨Same.refl _, none, rfl⟩) (fun H2 i σ' H' p => p.1) ?_ ?_
  · rintro H2 i x σ' H' H'' e2 hi ⟨s1, y, rfl⟩ s2 ⟨z, hz, hx⟩
    have hz2 := rg_mem (List.mem_of_getElem? hz)
    have sA : Same H H'' := ((e1.trans e2).trans s1).trans s2
    refine s_aug (g := fun i j => Builtin.bitXor i j) (i := 4) rfl (ev_pp (1 + z) (ea_cons (ev_mpp ["files", "blocks", "alphabet", "longest", "wiped"] (F0, z) (ev_var (φ := FormS K F0) rfl (Mo.mo sA h1)) rfl (by decide +kernel) (ea_cons (ev_rv rfl hx) ea_nil) rfl trivial) ea_nil) (by omega)) fun H3 e3 => ⟨(s1.trans s2).trans e3, some x, ?_⟩
    rw [take_snoc hz, List.foldl_append]
    rfl
  · rintro H2 σ' H' e2 ⟨s1, y, rfl⟩
    rw [show ((rg F0.blocks.toNat).take F0.blocks.toNat) = rg F0.blocks.toNat from List.take_of_length_le (by rw [rg_len]; exact Nat.le_refl _)]
    have sB : Same H H' := (e1.trans e2).trans s1
    have b1 := Mo.mo sB h1
    have b2 := Rep.mono (tx_of sB) h2
    have b3 := Rep.mono (tx_of sB) h3
    have b4 := Rep.mono (tx_of sB) h4
    clear e1 g1 hv e2 s1
    refine q_asg (ev_nl1 (ev_pair (ev_rv rfl b2) (ev_rv (i := 4) (x := deadI F0) rfl rfl))) fun v H3 e3 hv => ?_
    obtain ⟨l, rfl, hl0, hl⟩ := at_of hv
    have c1 := Mo.mo e3 b1
    have c3 := Rep.mono (tx_of e3) b3
    have hz : [(file, deadI F0)].length + (rg (lastI bs + 1).toNat).length ≤ sizeLine := by rw [rg_len, List.length_singleton, sizeLine_eq]; omega
    refine q_forApp (fun b : Int => (F0.files + b, if b ∈ bs then oneI 0 else usedI F0)) (fun σ' => ∃ y z, σ' = [some a, some b, some c, some d, some (.int (deadI F0)), y, some (.ref l), z, none, none, none]) (by rw [rg_len]; exact evg_range1 (n := lastI bs + 1) (ea_cons (ev_ii (ev_ixT (i := -1) (ev_rv rfl c3) (fun H1 e Q q => ⟨1, rfl, q _ H1 (Same.refl _) rfl⟩) m1) ev_ci) ea_nil) (by omega) (by omega)) ⟨y, none, rfl⟩ hl hz ?_ ?_
    · rintro z x σ' H4 ys D' hzm ⟨y1, y2, rfl⟩ o1 hx hys hlen kk
      have d1 := MoL.mo hl.ll o1 c1
      have d3 := Rep.mono (tx_off hl.ll o1) c3
      have hz2 := rg_mem hzm
      refine q_asg (ev_ii (ev_ii (ev_iiC ev_ci (ev_ii ev_ci (ev_blocks T (ev_var rfl d1))) ⟨by omega, by omega, by decide⟩) ev_ci) (ev_pp 0 (ea_cons ev_ci ea_nil) (by omega))) fun v5 H5 e5 hv5 => ?_
      rw [show v5 = .int (usedI F0) from hv5]
      have hx5 := Rep.mono (tx_of e5) hx
      refine s_appA (hys.same e5) hlen (ev_is rfl) (ev_pair (ev_mpp ["files", "blocks", "alphabet", "longest", "wiped"] (F0, z) (ev_var (φ := FormS K F0) rfl (Mo.mo e5 d1)) rfl (by decide +kernel) (ea_cons (ev_rv rfl hx5) ea_nil) rfl trivial) (ev_if (et_test (ev_inL (ev_rv rfl hx5) (ev_rv rfl (Rep.mono (tx_of e5) d3)))) (fun e => Ev.to (x := oneI 0) (ev_pp (0 : Int) (ea_cons ev_ci ea_nil) (by decide)) (if_pos (of_decide_eq_true e)).symm) (fun e => Ev.to (x := usedI F0) (ev_rv rfl rfl) (if_neg (of_decide_eq_false e)).symm))) fun H2 o2 at2 => kk _ H2 ⟨some x, _, rfl⟩ ((OffL.of e5).trans o2) at2
    · rintro σ' H4 ⟨y1, y2, rfl⟩ o1 at1
      have hg : At l (wguardI F0 file bs) H4 := at1
      have d1 := MoL.mo hl.ll o1 c1
      have d2 := Rep.mono ((tx_of e3).trans (tx_off hl.ll o1)) b2
      have d3 := Rep.mono (tx_off hl.ll o1) c3
      have d4 := Rep.mono ((tx_of e3).trans (tx_off hl.ll o1)) b4
      have sC : Same H H4 := sB.trans (same_off e3 o1 (fun c hc => by rw [show c = l from by simpa using hc]; exact hl0))
      clear at1 o1
      refine q_asg (ev_nl1 (ev_pp (file, 1 + bs.headD 0) (ea_cons (ev_rv rfl d2) (ea_cons (ev_mpp ["files", "blocks", "alphabet", "longest", "wiped"] (F0, bs.headD 0) (ev_var (φ := FormS K F0) rfl d1) rfl (by decide +kernel) (ea_cons (ev_ixT (ev_rv rfl d3) ev_ci (atI_at (by decide) k1)) ea_nil) rfl trivial) ea_nil)) trivial)) fun v6 H6 e6 hv6 => ?_
      obtain ⟨l2, rfl, hl20, hl2⟩ := at_of hv6
      have hlen0 : 1 + (bs.zip (linksI bs)).length ≤ sizeLine := by
        have h5 : bs.length ≤ 5 := p3.2.1
        have h6 : (bs.zip (linksI bs)).length ≤ bs.length := by rw [List.length_zip]; exact Nat.min_le_left _ _
        rw [sizeLine_eq]
        omega
      have f1 := Mo.mo e6 d1
      have f3 := Rep.mono (tx_of e6) d3
      refine q_forApp (fun p : Int × Int => (F0.files + p.1, (("set" : Str), p.2))) (fun σ' => ∃ x y z, σ' = [some a, some b, some c, some d, some (.int (deadI F0)), x, some (.ref l), y, some (.ref l2), z, none]) (evg_zipTN hl2.ll (ea_cons (ev_rv rfl f3) (ea_cons (ev_pn bs (ea_cons (ev_rv rfl f3) ea_nil) (by have := p3.2.1; omega)) ea_nil))) ⟨y1, y2, none, rfl⟩ hl2 hlen0 ?_ ?_
      · rintro z x σ' H7 ys D' hzm ⟨y3, y4, y5, rfl⟩ o7 hx hys hlen kk
        refine g_pair hx fun x1 x2 hx1 hx2 => ?_
        exact s_appA hys hlen (ev_is rfl) (ev_pp (F0.files + z.1, z.2) (ea_cons (ev_mpp ["files", "blocks", "alphabet", "longest", "wiped"] (F0, z.1) (ev_var (φ := FormS K F0) rfl (MoL.mo hl2.ll o7 f1)) rfl (by decide +kernel) (ea_cons (ev_rv rfl hx1) ea_nil) rfl trivial) (ea_cons (ev_rv rfl hx2) ea_nil)) trivial) fun H2 o2 at2 => kk _ H2 ⟨some x1, y4, some x2, rfl⟩ o2 at2
      · rintro σ' H7 ⟨y3, y4, y5, rfl⟩ o7 at7
        have hc : At l2 (wchangesI F0 file bs) H7 := at7
        have ne : l ≠ l2 := fun z => by
          obtain ⟨vs, hvs, _⟩ := hg
          rw [z, hl20] at hvs
          cases hvs
        have hg7 : At l (wguardI F0 file bs) H7 := (hg.same e6).off hl2.ll o7 (by simpa using ne)
        have sD : Same H H7 := sC.trans (same_off e6 o7 (fun c hc => by rw [show c = l2 from by simpa using hc]; exact hl20))
        have t1 := Mo.mo sD h1
        have t2 := Rep.mono (tx_of sD) h2
        have t3 := Rep.mono (tx_of sD) h3
        have t4 := Rep.mono (tx_of sD) h4
        clear at7
        have l3 := digits_len (okB_dig p3).2
        have l4 := digits_len (okC_dig p4).2
        have l5 := toStr_len p2.1 p2.2
        have q3 := p3.2.1
        have q4 := p4.1
        have l6 : (([("w" : Str), toString file, ("b" : Str), digitsI bs, ("c" : Str), digitsI cs] : List Str).map (·.length)).sum ≤ sizeLine := by
          show 1 + ((toString file : Str).length + (1 + ((digitsI bs).length + (1 + ((digitsI cs).length + 0))))) ≤ _
          rw [l3, l4, l5, sizeLine_eq]
          omega
        refine q_asg (ev_fstr (.cons ev_cs (.cons (ev_fmtI (ev_rv rfl t2) (small_log p2.1 (by omega))) (.cons ev_cs (.cons (ev_fmtS (ev_pp bs (ea_cons (ev_rv rfl t3) ea_nil) (okB_dig p3)) (by rw [l3, sizeLine_eq]; omega)) (.cons ev_cs (.cons (ev_fmtS (ev_pp cs (ea_cons (ev_rv rfl t4) ea_nil) (okC_dig p4)) (by rw [l4, sizeLine_eq]; omega)) .nil)))))) l6) fun v8 H8 e8 hv8 => ?_
        have hw : (wchangesI F0 file bs).length + (dataI F0 bs cs).length ≤ sizeLine := by
          have h6 : (bs.zip (linksI bs)).length ≤ bs.length := by rw [List.length_zip]; exact Nat.min_le_left _ _
          have h7 : (bs.zip cs).length ≤ bs.length := by rw [List.length_zip]; exact Nat.min_le_left _ _
          unfold wchangesI dataI
          rw [List.length_cons, List.length_map, List.length_map, sizeLine_eq]
          omega
        refine s_ret (ev_t3 (ev_rv rfl hv8) (ev_tupL (ev_at (hg7.same e8) rfl)) (ev_catT (ev_tupL (ev_at (hc.same e8) rfl)) (ev_pp (T3.mk F0 bs cs) (ea_cons (ev_var rfl (Mo.mo e8 t1)) (ea_cons (ev_rv rfl (Rep.mono (tx_of e8) t3)) (ea_cons (ev_rv rfl (Rep.mono (tx_of e8) t4)) ea_nil))) (by show bs.length ≤ 1000; omega)) hw)) fun v9 H9 e9 hv9 => q v9 H9 ((sD.trans e8).trans e9) hv9
end
end RW
set_option Elab.async false
set_option linter.all false
set_option maxRecDepth 100000
set_option maxHeartbeats 4000000
namespace RW
open PySem PySem.Spec PyProof.Rows L2
local macro_rules | `(tactic| walk_at "sm") => `(tactic| first
  | exact Same.refl _
  | assumption
  | exact same_new (by assumption)
  | (refine Same.trans ?_ (by assumption); walk_at "sm")
  | (refine Same.trans ?_ (same_new (by assumption)); walk_at "sm"))
local macro_rules | `(tactic| walk_at "rp") => `(tactic| first
  | assumption
  | exact rfl
  | (refine Rep.mono (tx_of ?_) (by assumption); walk_at "sm")
  | (refine Mo.mo ?_ (by assumption); walk_at "sm"))
local macro_rules | `(tactic| walk_at "ev") => `(tactic| first
  | exact ev_ci
  | exact ev_cs
  | exact ev_cb
  | exact ev_cn
  | (refine @ev_rv _ _ _ _ _ _ _ rfl ?_; walk_at "rp")
  | (refine @ev_var _ _ _ _ _ ?_ rfl ?_; (first | infer_instance | skip); walk_at "rp")
  | (refine ev_ii ?_ ?_ <;> walk_at "ev")
  | (refine ev_ib ?_ ?_ <;> walk_at "ev")
  | (refine ev_eqI ?_ ?_ <;> walk_at "ev")
  | (refine ev_neI ?_ ?_ <;> walk_at "ev")
  | (refine ev_lenT ?_ <;> walk_at "ev")
  | (refine ev_lenL ?_ <;> walk_at "ev")
  | (refine ev_int1 ?_ <;> walk_at "ev")
  | (refine et_test ?_ <;> walk_at "ev")
  | (refine et_B ?_ <;> walk_at "ev")
  | (refine et_not ?_ <;> walk_at "ev")
  | (refine et_or ?_ (fun _ => ?_) <;> walk_at "ev")
  | (refine et_and ?_ (fun _ => ?_) <;> walk_at "ev"))
theorem noxT {X : Cx} {b : List Stmt} {D : Ends} {σ : L2.St} {H : Hp} (h : ∃ t, PSs X.nox b t ∧ t D σ H) : ∃ t, PSs X b t ∧ t D σ H := let ⟨t, h1, h2⟩ := h; ⟨t, h1.nox, h2⟩
/-- a property's promise -/
def Prp (P : Program) (w : World) (K : PySem.W.Frag) (mg : Str → Option Value) (base : Heap) (k : Nat) (C : Addr) (f : Str) (sp : Sp) : Prop :=
  ∃ (pa g : Addr) (fd : FuncData) (ps : List Str) (ds : List Value), Cls K C ∧ PropOf K C f pa g ∧ FnOk P w K mg base CX0 k g fd ps sp ∧ Binds K fd ps ds ∧ Vals [] ds
theorem pe_pr {X : Cx} {k j : Nat} {C : Addr} {f : Str} {sp : Sp} {e : Expr} {ta : TE} {pos : Pos} (c : Prp X.prog X.w X.K X.mg X.base k C f sp) (hr : Room j X.A) (hk : k + 1 ≤ j) (he : PE X e ta) (hab : attributeBase e f X.env (eval e X.env) = eval e X.env) : PE X (.Attribute e f pos) (tProp C sp [] C8.E0 ta) := by
  obtain ⟨pa, g, fd, ps, ds, cl, hp, F, b, d⟩ := c
  exact pe_prop he cl hp F (hr.mono hk) b d C8.pass0 hab
theorem ev_pr {γ : Type} {σ : L2.St} {H : Hp} {ta : TE} {C : Addr} {fs : List (Str × Srt)} {φs : γ → List Srt} {pre : γ → Prop} {ψ : γ → Srt} {E : XK} (g : γ) (ho : Ev ta σ H (Ins C fs)) (hg : φs g = [Ins C fs]) (hp : pre g) : Ev (tProp C (Pp φs pre ψ) [] E ta) σ H (ψ g) := fun H1 e Q q =>
  ho H1 e _ fun x H2 e2 hx => by
    obtain ⟨a, dx, ws, rfl, h1, h2⟩ := hx
    exact ⟨a, dx, ws, rfl, h1, g, by rw [hg]; exact ⟨_, [], rfl, ⟨a, dx, ws, rfl, h1, h2⟩, rfl⟩, hp, fun v H3 e3 h3 => q v H3 (e2.trans e3) h3⟩
section
variable {P : Program} {w : World} {K : PySem.W.Frag} {mg : Str → Option Value} {base : Heap}
/-! Machine -/
structure Mach where
  cells : List (Str × Int)
  deeds : List Deed
  first : List Int
abbrev MachS (K : PySem.W.Frag) (M : Mach) : Srt := Ins (CMachine K) [("cells", R M.cells), ("deeds", R M.deeds), ("first", R M.first)]
def mNames : List Str := ["cells", "deeds", "first"]
theorem ev_mcells {σ : L2.St} {H : Hp} {ta : TE} {M : Mach} (T : Txt K mg) (h : Ev ta σ H (MachS K M)) : Ev (tFld K ta "cells") σ H (R M.cells) := ev_fldN ["cells", "deeds", "first"] 0 h T.cMachine T.nMachine_cells rfl (by decide +kernel) rfl
theorem ev_mdeeds {σ : L2.St} {H : Hp} {ta : TE} {M : Mach} (T : Txt K mg) (h : Ev ta σ H (MachS K M)) : Ev (tFld K ta "deeds") σ H (R M.deeds) := ev_fldN ["cells", "deeds", "first"] 1 h T.cMachine T.nMachine_deeds rfl (by decide +kernel) rfl
theorem ev_mfirst {σ : L2.St} {H : Hp} {ta : TE} {M : Mach} (T : Txt K mg) (h : Ev ta σ H (MachS K M)) : Ev (tFld K ta "first") σ H (R M.first) := ev_fldN ["cells", "deeds", "first"] 2 h T.cMachine T.nMachine_first rfl (by decide +kernel) rfl
/-- the size of a cell -/
def szI (zs : List Int) (c : Int) : Int := zs.getD c.toNat 0
def inB (zs : List Int) (c : Int) : Bool := decide (0 ≤ c) && decide (c < zs.length)
def guardB (zs : List Int) (g : List (Int × Int)) : Bool := g.all fun p => inB zs p.1 && isMaskI p.2 (szI zs p.1)
def changesB (zs : List Int) (ch : List (Int × (Str × Int))) : Bool := ch.all fun p => inB zs p.1 && decide (p.2.1 = ("set" : Str)) && decide (0 ≤ p.2.2) && decide (p.2.2 < szI zs p.1)
theorem sz_at {zs : List Int} {c : Int} (h : inB zs c = true) : atI zs c = some (szI zs c) := by
  simp only [inB, Bool.and_eq_true, decide_eq_true_eq] at h
  exact atI_in h.1 h.2
theorem sz_mem {zs : List Int} {c : Int} (h : inB zs c = true) : szI zs c ∈ zs := by
  simp only [inB, Bool.and_eq_true, decide_eq_true_eq] at h
  have hl : c.toNat < zs.length := by omega
  unfold szI
  rw [List.getD_eq_getElem?_getD, List.getElem?_eq_getElem hl]
  exact List.getElem_mem hl
abbrev N_Machine_check_deed : List Str := ["self", "sizes", "guard", "changes", "cell", "mask", "kind", "number"]
theorem sc_Machine_check_deed : FnScope N_Machine_check_deed ["self", "sizes", "guard", "changes"] (defScope s_Machine_check_deed) := ⟨rfl, rfl, rfl, by decide +kernel, rfl, by decide +kernel, by decide +kernel⟩
abbrev sp_Machine_check_deed (K : PySem.W.Frag) : Sp := Pp (fun g : T3 (List Int) (List (Int × Int)) (List (Int × (Str × Int))) => [Ins (CMachine K) [], Ls g.a, R g.b, R g.c]) (fun g => (∀ z ∈ g.a, 0 ≤ z ∧ z ≤ 1000) ∧ guardB g.a g.b = true ∧ changesB g.a g.c = true) (fun g => R ())
theorem ok_Machine_check_deed {f : Addr} {fd : FuncData} (T : Txt K mg) (c_is_mask : C8.Cal P w K mg base 1 "is_mask" sp_is_mask []) (F : FunD K "_check_deed" "Machine._check_deed" (defArgs s_Machine_check_deed) (defBody s_Machine_check_deed) (defScope s_Machine_check_deed) [] [] f fd) (me : Meth K (CMachine K) "_check_deed" f) : C8.Met P w K mg base 2 (CMachine K) "_check_deed" (sp_Machine_check_deed K) [] := by
  refine met_of F T.cMachine me sc_Machine_check_deed (fun _ _ _ _ _ _ us hl => match us, hl with | [_, _, _, _], _ => rfl) (fun vs H Q E ⟨g, h, _⟩ => fas_len h) (fun cdv A outer s H vs Q E hr h => ?_)
  obtain ⟨⟨zs, gu, ch⟩, h, hp, q⟩ := h
  obtain ⟨a, b, c, d, rfl, h1, h2, h3, h4⟩ := fas4 h
  refine ⟨_, (pss_cons (ps_for PassesOwn.never rfl (k_tup (K := K) rfl (pv 2)) (k_gtup (K := K) (n := 2) rfl rfl (pgs_cons (pg_name (i := 4) sc_Machine_check_deed.nd rfl (by first | exact .inl rfl | exact .inr rfl)) (pgs_cons (pg_name (i := 5) sc_Machine_check_deed.nd rfl (by first | exact .inl rfl | exact .inr rfl)) pgs_nil)))
        (pss_one (ps_if (pt_not (pt_val (C8.pe_c c_is_mask hr (by decide) (by rfl) (pa_cons (pv 5) (pa_cons (pe_ix (k_ixL (K := K) rfl) (pv 1) (pv 4) (fun _ _ => rfl)) pa_nil))))) pss_never pss_nil)))
      (pss_one (ps_for PassesOwn.never rfl (k_tup (K := K) rfl (pv 3)) (k_gtup (K := K) (n := 2) rfl rfl (pgs_cons (pg_name (i := 4) sc_Machine_check_deed.nd rfl (by first | exact .inl rfl | exact .inr rfl)) (pgs_cons (k_gtup (K := K) (n := 2) rfl rfl (pgs_cons (pg_name (i := 6) sc_Machine_check_deed.nd rfl (by first | exact .inl rfl | exact .inr rfl)) (pgs_cons (pg_name (i := 7) sc_Machine_check_deed.nd rfl (by first | exact .inl rfl | exact .inr rfl)) pgs_nil))) pgs_nil)))
        (pss_cons (ps_if (PW.pt (pw_and (pt_cmpR op_eq (pv 6) pe_str (nomark _)) (pw_and1 (pt_chain op_le op_lt pe_int (pv 7) (pe_ix (k_ixL (K := K) rfl) (pv 1) (pv 4) (fun _ _ => rfl)))))) (pss_one ps_continue) pss_nil)
        (pss_one (ps_if (PW.pt (pw_or (pt_cmpR op_ne (pv 6) pe_str (nomark _)) (pw_or (pt_cmpR op_lt (pv 7) pe_int (nomark _)) (pw_or (pt_cmpR op_ge (pv 7) (pe_callB (k_len (K := K) rfl) (by rfl) T.len PySem.boot_len (pa_cons (pv 1) pa_nil)) (nomark _)) (pw_or1 (pt_cmpR op_gt (pe_ix (k_ixL (K := K) rfl) (pv 1) (pv 7) (fun _ _ => rfl)) (pe_ix (k_ixL (K := K) rfl) (pv 1) (pv 4) (fun _ _ => rfl)) (nomark _))))))) pss_never pss_nil)))))), ?_⟩
  obtain ⟨p1, p2, p3⟩ := hp
  have p1 : ∀ z ∈ zs, 0 ≤ z ∧ z ≤ 1000 := p1
  have p2 : ∀ p ∈ gu, (inB zs p.1 && isMaskI p.2 (szI zs p.1)) = true := List.all_eq_true.mp p2
  have p3 : ∀ p ∈ ch, (inB zs p.1 && decide (p.2.1 = ("set" : Str)) && decide (0 ≤ p.2.2) && decide (p.2.2 < szI zs p.1)) = true := List.all_eq_true.mp p3
  have h2 : Ls zs b H := h2
  have h3 : Rep.rp H gu c := h3
  have h4 : Rep.rp H ch d := h4
  refine q_for (evi_tup (ev_rv rfl h3)) (fun H2 i σ' H' => Same H2 H' ∧ ∃ y z, σ' = [some a, some b, some c, some d, y, z, none, none]) (fun H2 e2 => ⟨Same.refl _, none, none, rfl⟩) (fun H2 i σ' H' p => p.1) ?_ ?_
  · rintro H2 i x σ' H' H'' e2 hi ⟨s1, y, z, rfl⟩ s2 ⟨p, hz, hx⟩
    have hpp := p2 p (List.mem_of_getElem? hz)
    simp only [Bool.and_eq_true] at hpp
    have sA : Same H H'' := (e2.trans s1).trans s2
    have hzz := p1 _ (sz_mem hpp.1)
    refine g_pair hx fun x1 x2 hx1 hx2 => ?_
    refine s_guard (b := !isMaskI p.2 (szI zs p.1)) (et_not (et_B (ev_pp (p.2, szI zs p.1) (ea_cons (ev_rv rfl hx2) (ea_cons (ev_ixL (ev_var rfl (Mo.mo sA h2)) (ev_rv rfl hx1) (sz_at hpp.1)) ea_nil)) hzz))) (by rw [hpp.2]; rfl) fun H3 e3 => ⟨(s1.trans s2).trans e3, some x1, some x2, rfl⟩
  · rintro H2 σ' H2' e2 ⟨s1, y, z, rfl⟩
    have sB : Same H H2' := e2.trans s1
    refine s_for (evi_tup (ev_rv rfl (Rep.mono (tx_of sB) h4))) (fun H2 i σ' H' => Same H2 H' ∧ ∃ y z u v, σ' = [some a, some b, some c, some d, y, z, u, v]) (fun H2 e2 => ⟨Same.refl _, y, z, none, none, rfl⟩) (fun H2 i σ' H' p => p.1) ?_ ?_
    · rintro H3 i x σ' H' H'' e3 hi ⟨s3, y1, z1, u1, v1, rfl⟩ s4 ⟨p, hz, hx⟩
      have hpp := p3 p (List.mem_of_getElem? hz)
      simp only [Bool.and_eq_true, decide_eq_true_eq] at hpp
      obtain ⟨⟨⟨q1, q2⟩, q3⟩, q4⟩ := hpp
      have sA : Same H H'' := ((sB.trans e3).trans s3).trans s4
      refine g_pair hx fun x1 x2 hx1 hx2 => ?_
      refine g_pair hx2 fun x3 x4 hx3 hx4 => ?_
      refine q_when (b := decide (p.2.1 = ("set" : Str)) && (decide (0 ≤ p.2.2) && decide (p.2.2 < szI zs p.1))) (et_and (et_test (ev_eqS (ev_rv rfl hx3) ev_cs)) fun _ => et_test (ev_chain ev_ci (ev_rv rfl hx4) fun _ => ev_ixL (ev_var rfl (Mo.mo sA h2)) (ev_rv rfl hx1) (sz_at q1))) (fun _ H5 e5 => ⟨(s3.trans s4).trans e5, some x1, z1, some x3, some x4, rfl⟩) fun e => ?_
      rw [decide_eq_true q2, decide_eq_true q3, decide_eq_true q4] at e
      cases e
    · rintro H3 σ' H' e3 ⟨s3, _⟩
      exact q _ H' ((sB.trans e3).trans s3) rfl
def fullI (M : Mach) : List Int := M.cells.map fun c => 1 * 2 ^ c.2.toNat - 1
abbrev N_Machine_full : List Str := ["self", "_", "size"]
theorem sc_Machine_full : FnScope N_Machine_full ["self"] (defScope s_Machine_full) := ⟨rfl, rfl, rfl, by decide +kernel, rfl, by decide +kernel, by decide +kernel⟩
abbrev sp_Machine_full (K : PySem.W.Frag) : Sp := Pp (fun g : Mach => [MachS K g]) (fun g => g.cells.length ≤ 24 ∧ ∀ c ∈ g.cells, 0 ≤ c.2 ∧ c.2 ≤ 16) (fun g => R (fullI g))
theorem ok_Machine_full {fd : FuncData} (T : Txt K mg)  (F : FunD K "full" "Machine.full" (defArgs s_Machine_full) (defBody s_Machine_full) (defScope s_Machine_full) [] [] (getterOf K "Machine" "full") fd) : Prp P w K mg base 1 (CMachine K) "full" (sp_Machine_full K) := by
  refine ⟨_, _, fd, ["self"], [], T.cMachine, T.pFull, F.ok (sp := (sp_Machine_full K)) sc_Machine_full (fun vs H Q E ⟨g, h, _⟩ => fas_len h) (fun cdv A outer s H vs Q E hr h => ?_), F.bindsN (fun _ _ _ _ _ _ us hl => match us, hl with | [_], _ => rfl), .nil⟩
  refine noxT ?_
  obtain ⟨M, h, hp, q⟩ := h
  obtain ⟨a, rfl, h1⟩ := fas1 h
  refine ⟨_, (pss_one (ps_ret (pe_callTy (k_tuple (K := K) rfl) (by rfl) T.tuple (by decide +kernel) (pa_cons (pe_lc (own := [("_", 1), ("size", 2)]) rfl sc_Machine_full.nd (k_tup (K := K) rfl (k_fld (K := K) rfl (pv 0) rfl)) (blkOk_by (N := N_Machine_full) (sc := defScope s_Machine_full) (by decide +kernel)) (fun _ _ _ _ _ => (k_gtup (K := K) (n := 2) rfl rfl (pgs_cons (pg_name (i := 1) sc_Machine_full.nd rfl (by first | exact .inl rfl | exact .inr rfl)) (pgs_cons (pg_name (i := 2) sc_Machine_full.nd rfl (by first | exact .inl rfl | exact .inr rfl)) pgs_nil)))) (fun _ _ _ _ _ => pts_nil) (fun _ _ _ _ _ => (pe_op op_sub (pe_op op_shl pe_int (pv 2)) pe_int))) pa_nil)))), ?_⟩
  obtain ⟨p1, p2⟩ := hp
  have h1 : MachS K M a H := h1
  refine s_ret (ev_tupL (ev_ls (ev_lc2m (fun c : Str × Int => 1 * 2 ^ c.2.toNat - 1) (Str.empty, 0) (evi_tup (ev_mcells T (ev_var rfl h1))) (by rw [sizeLine_eq]; omega) (fun _ _ => rfl) (fun z x y H1 hz e hx hy => ev_ii (ev_iiC ev_ci (ev_rv rfl hy) (by have := p2 z hz; exact ⟨by omega, by omega, by decide⟩)) ev_ci)))) fun v H1 e hv => q v H1 e hv
structure MachOk (c : List (Str × Int)) (d : List Deed) (f : List Int) : Prop where
  c1 : 1 ≤ c.length ∧ c.length ≤ 24
  d1 : d.length ≤ 400
  cn : (c.map (·.1)).all nameB = true ∧ (c.map (·.1)).Nodup
  dn : (d.map (·.a)).all nameB = true ∧ (d.map (·.a)).Nodup
  sz : ∀ z ∈ c.map (·.2), 1 ≤ z ∧ z ≤ 16
  dd : ∀ x ∈ d, ordB c.length (-1) (x.b.map (·.1)) = true ∧ ordB c.length (-1) (x.c.map (·.1)) = true ∧ guardB (c.map (·.2)) x.b = true ∧ changesB (c.map (·.2)) x.c = true
  fl : f.length = c.length
  fm : (f.zip (c.map (·.2))).all (fun p => isMaskI p.1 p.2) = true
theorem ev_any {α : Type} [Rep α] {te : TE} {σ : L2.St} {H : Hp} {xs : List (Int × α)} (h : Ev te σ H (R xs)) : Ev te σ H (R (xs.map fun p => (p.1, AnyV.mk))) := h.imp fun v H' hv => by
  obtain ⟨a, vs, e, ha, r⟩ := hv
  refine ⟨a, vs, e, ha, ?_⟩
  clear ha e h
  induction r with
  | nil => exact .nil
  | cons r _ ih =>
    obtain ⟨a, x, y, e, ha, h1, h2⟩ := r
    exact .cons ⟨a, x, y, e, ha, h1, trivial⟩ ih
theorem map_any {α : Type} (xs : List (Int × α)) : (xs.map fun p => (p.1, AnyV.mk)).map (·.1) = xs.map (·.1) := by rw [List.map_map]; rfl
section
variable {α β γ δ : Type} [Rep α] [Rep β] [Rep γ] [Rep δ] {σ : L2.St} {H : Hp} {wi : TI} {te : TE} {vs : List Nat} {zs : List (T3 α β γ)} {i j l : Nat}
theorem mono_three {i j l : Nat} : ∀ (x : V) (σ' : L2.St) (H' : Hp) (Q Q' : L2.St → Hp → Prop), (∀ σ2 H2, Q σ2 H2 → Q' σ2 H2) → gTup K 3 (gCons (gName i) (gCons (gName j) (gCons (gName l) gNil))) x σ' H' Q → gTup K 3 (gCons (gName i) (gCons (gName j) (gCons (gName l) gNil))) x σ' H' Q' := fun _ _ _ _ _ h q => by
  obtain ⟨a, xs, e, s, hl, x, r, e2, y, r2, e3, z, r3, e4, e5, q⟩ := q
  exact ⟨a, xs, e, s, hl, x, r, e2, y, r2, e3, z, r3, e4, e5, h _ _ q⟩
theorem ev_lc3m (f : T3 α β γ → δ) (d : T3 α β γ) (h : EvI wi σ H zs.length (RI zs)) (hl : zs.length ≤ sizeLine) (hw : ∀ x y z, wipe ((((wipe σ vs).set i (some x)).set j (some y)).set l (some z)) vs = wipe σ vs)
    (he : ∀ z x y u H1, z ∈ zs → Same H H1 → Rep.rp H1 z.a x → Rep.rp H1 z.b y → Rep.rp H1 z.c u → Ev te ((((wipe σ vs).set i (some x)).set j (some y)).set l (some u)) H1 (R (f z))) : Ev (tLc wi (gTup K 3 (gCons (gName i) (gCons (gName j) (gCons (gName l) gNil)))) tYes te vs) σ H (NLs H (zs.map f)) := by
  have := ev_lc (g := gTup K 3 (gCons (gName i) (gCons (gName j) (gCons (gName l) gNil)))) (tt := tYes) (te := te) (vs := vs) (fun _ => true) (fun i => f (zs.getD i d)) h hl (fun k x H1 e hi hx => by
    obtain ⟨h1, h2⟩ := ri_get d hx
    exact g_t3n h1 fun x y z hx hy hz => ⟨rfl, hw x y z, et_yes, fun _ => he _ x y z H1 h2 e hx hy hz⟩) mono_three
  rw [pick_map] at this
  exact this
end
theorem ls_ins {α : Type} [Rep α] {xs : List α} {v : V} {H : Hp} {x C dx : Addr} {fs : List (Str × V)} {o : HO} (h : Ls xs v H) (hx : H x = some (.ins C dx fs)) : Ls xs v (upd H x o) := by
  obtain ⟨a, vs, e, ha, r⟩ := h
  refine ⟨a, vs, e, ?_, Rps.mono (tx_ins hx) r⟩
  rw [upd_ne (ne_of ha hx (by intro z; cases z))]
  exact ha
theorem off_same_r {x : Addr} {H H1 H2 : Hp} (a : Off x H H1) (b : Same H1 H2) : Off x H H2 := a.trans (Off.of b)
abbrev N_Machine_init : List Str := ["self", "cells", "deeds", "first", "sizes", "_", "guard", "changes", "name", "size", "deed", "mask"]
theorem sc_Machine_init : FnScope N_Machine_init ["self", "cells", "deeds", "first"] (defScope s_Machine_init) := ⟨rfl, rfl, rfl, by decide +kernel, rfl, by decide +kernel, by decide +kernel⟩
abbrev sp_Machine_init (K : PySem.W.Frag) : Sp := Pi (CMachine K) (fun g : Mach => [Ls g.cells, Ls g.deeds, R g.first]) (fun g => MachOk g.cells g.deeds g.first) (fun g => [("cells", R g.cells), ("deeds", R g.deeds), ("first", R g.first)])
theorem ok_Machine_init {f : Addr} {fd : FuncData} (T : Txt K mg) (c_check_names : C8.Cal P w K mg base 2 "_check_names" sp_check_names []) (c_check_order : C8.Cal P w K mg base 1 "_check_order" sp_check_order []) (m_check_deed : C8.Met P w K mg base 2 (CMachine K) "_check_deed" (sp_Machine_check_deed K) []) (c_is_mask : C8.Cal P w K mg base 1 "is_mask" sp_is_mask []) (F : FunD K "__init__" "Machine.__init__" (defArgs s_Machine_init) (defBody s_Machine_init) (defScope s_Machine_init) [] [] f fd) (M : Mk K (CMachine K) f) : C8.Mak P w K mg base 3 "Machine" (CMachine K) (sp_Machine_init K) [] := by
  refine mak_of F M T.gMachine sc_Machine_init (fun _ _ _ _ _ _ us hl => match us, hl with | [_, _, _, _], _ => rfl) (pi_len fun g => rfl) (fun cdv A outer s H vs Q E hr h => ?_)
  obtain ⟨M, x, dx, rest, rfl, hx0, h, hp, q⟩ := h
  obtain ⟨b, c, d, rfl, h2, h3, h4⟩ := fas3 h
  refine ⟨_, (pss_cons (ps_if (PW.pt (pw_or (pt_cmpR op_lt (pe_callB (k_len (K := K) rfl) (by rfl) T.len PySem.boot_len (pa_cons (pv 1) pa_nil)) pe_int (nomark _)) (pw_or (pt_cmpR op_gt (pe_callB (k_len (K := K) rfl) (by rfl) T.len PySem.boot_len (pa_cons (pv 1) pa_nil)) (C8.pe_gc (by rfl) T.MOST_CELLS) (nomark _)) (pw_or1 (pt_cmpR op_gt (pe_callB (k_len (K := K) rfl) (by rfl) T.len PySem.boot_len (pa_cons (pv 2) pa_nil)) (C8.pe_gc (by rfl) T.MOST_DEEDS) (nomark _)))))) pss_never pss_nil)
      (pss_cons (ps_expr (C8.pe_c c_check_names hr (by decide) (by rfl) (pa_cons (pe_lc (own := [("name", 8), ("_", 5)]) rfl sc_Machine_init.nd (k_list (K := K) rfl (pv 1)) (blkOk_by (N := N_Machine_init) (sc := defScope s_Machine_init) (by decide +kernel)) (fun _ _ _ _ _ => (k_gtup (K := K) (n := 2) rfl rfl (pgs_cons (pg_name (i := 8) sc_Machine_init.nd rfl (by first | exact .inl rfl | exact .inr rfl)) (pgs_cons (pg_name (i := 5) sc_Machine_init.nd rfl (by first | exact .inl rfl | exact .inr rfl)) pgs_nil)))) (fun _ _ _ _ _ => pts_nil) (fun _ _ _ _ _ => (pv 8))) pa_nil)))
      (pss_cons (ps_setLc (i := 4) (own := [("_", 5), ("size", 9)]) rfl sc_Machine_init.nd rfl rfl (sw_true rfl rfl rfl (by decide +kernel)) (k_list (K := K) rfl (pv 1)) (blkOk_by (N := N_Machine_init) (sc := defScope s_Machine_init) (by decide +kernel)) (fun _ _ _ _ _ => (k_gtup (K := K) (n := 2) rfl rfl (pgs_cons (pg_name (i := 5) sc_Machine_init.nd rfl (by first | exact .inl rfl | exact .inr rfl)) (pgs_cons (pg_name (i := 9) sc_Machine_init.nd rfl (by first | exact .inl rfl | exact .inr rfl)) pgs_nil)))) (fun _ _ _ _ _ => pts_nil) (fun _ _ _ _ _ => (pv 9)))
      (pss_cons (ps_if (pt_not (pt_val (pe_callB (k_all (K := K) rfl rfl) (by rfl) T.all (by decide +kernel) (pa_cons (pe_lc (own := [("size", 9)]) rfl sc_Machine_init.nd (k_list (K := K) rfl (pv 4)) (blkOk_by (N := N_Machine_init) (sc := defScope s_Machine_init) (by decide +kernel)) (fun _ _ _ _ _ => (pg_name (i := 9) sc_Machine_init.nd rfl (by first | exact .inl rfl | exact .inr rfl))) (fun _ _ _ _ _ => pts_nil) (fun _ _ _ _ _ => (pe_chain op_le op_le pe_int (pv 9) (C8.pe_gc (by rfl) T.MOST_VALUES)))) pa_nil)))) pss_never pss_nil)
      (pss_cons (ps_expr (C8.pe_c c_check_names hr (by decide) (by rfl) (pa_cons (pe_lc (own := [("deed", 10)]) rfl sc_Machine_init.nd (k_list (K := K) rfl (pv 2)) (blkOk_by (N := N_Machine_init) (sc := defScope s_Machine_init) (by decide +kernel)) (fun _ _ _ _ _ => (pg_name (i := 10) sc_Machine_init.nd rfl (by first | exact .inl rfl | exact .inr rfl))) (fun _ _ _ _ _ => pts_nil) (fun _ _ _ _ _ => (pe_ix (k_ixT (K := K) rfl) (pv 10) pe_int (fun _ _ => rfl)))) pa_nil)))
      (pss_cons (ps_for PassesOwn.never rfl (k_list (K := K) rfl (pv 2)) (k_gtup (K := K) (n := 3) rfl rfl (pgs_cons (pg_name (i := 5) sc_Machine_init.nd rfl (by first | exact .inl rfl | exact .inr rfl)) (pgs_cons (pg_name (i := 6) sc_Machine_init.nd rfl (by first | exact .inl rfl | exact .inr rfl)) (pgs_cons (pg_name (i := 7) sc_Machine_init.nd rfl (by first | exact .inl rfl | exact .inr rfl)) pgs_nil))))
        (pss_cons (ps_expr (C8.pe_c c_check_order hr (by decide) (by rfl) (pa_cons (pv 6) (pa_cons (pe_callB (k_len (K := K) rfl) (by rfl) T.len PySem.boot_len (pa_cons (pv 1) pa_nil)) pa_nil))))
        (pss_cons (ps_expr (C8.pe_c c_check_order hr (by decide) (by rfl) (pa_cons (pv 7) (pa_cons (pe_callB (k_len (K := K) rfl) (by rfl) T.len PySem.boot_len (pa_cons (pv 1) pa_nil)) pa_nil))))
        (pss_one (ps_expr (C8.pe_mt m_check_deed hr (by decide) (pv 0) (pa_cons (pv 4) (pa_cons (pv 6) (pa_cons (pv 7) pa_nil)))))))))
      (pss_cons (ps_if (PW.pt (pw_or (pt_cmpR op_ne (pe_callB (k_len (K := K) rfl) (by rfl) T.len PySem.boot_len (pa_cons (pv 3) pa_nil)) (pe_callB (k_len (K := K) rfl) (by rfl) T.len PySem.boot_len (pa_cons (pv 1) pa_nil)) (nomark _)) (pw_or1 (pt_not (pt_val (pe_callB (k_all (K := K) rfl rfl) (by rfl) T.all (by decide +kernel) (pa_cons (pe_lc (own := [("mask", 11), ("size", 9)]) rfl sc_Machine_init.nd (k_zipTL (K := K) rfl (by rfl) T.zip (pa_cons (pv 3) (pa_cons (pv 4) pa_nil))) (blkOk_by (N := N_Machine_init) (sc := defScope s_Machine_init) (by decide +kernel)) (fun _ _ _ _ _ => (k_gtup (K := K) (n := 2) rfl rfl (pgs_cons (pg_name (i := 11) sc_Machine_init.nd rfl (by first | exact .inl rfl | exact .inr rfl)) (pgs_cons (pg_name (i := 9) sc_Machine_init.nd rfl (by first | exact .inl rfl | exact .inr rfl)) pgs_nil)))) (fun _ _ _ _ _ => pts_nil) (fun _ _ _ _ _ => (C8.pe_c c_is_mask hr (by decide) (by rfl) (pa_cons (pv 11) (pa_cons (pv 9) pa_nil))))) pa_nil))))))) pss_never pss_nil)
      (pss_cons (ps_fld (pv 0) (pe_callTy (k_tuple (K := K) rfl) (by rfl) T.tuple (by decide +kernel) (pa_cons (pe_lc (own := [("name", 8), ("size", 9)]) rfl sc_Machine_init.nd (k_list (K := K) rfl (pv 1)) (blkOk_by (N := N_Machine_init) (sc := defScope s_Machine_init) (by decide +kernel)) (fun _ _ _ _ _ => (k_gtup (K := K) (n := 2) rfl rfl (pgs_cons (pg_name (i := 8) sc_Machine_init.nd rfl (by first | exact .inl rfl | exact .inr rfl)) (pgs_cons (pg_name (i := 9) sc_Machine_init.nd rfl (by first | exact .inl rfl | exact .inr rfl)) pgs_nil)))) (fun _ _ _ _ _ => pts_nil) (fun _ _ _ _ _ => (pe_tup (pa_cons (pv 8) (pa_cons (pv 9) pa_nil))))) pa_nil)) rfl)
      (pss_cons (ps_fld (pv 0) (pe_callTy (k_tuple (K := K) rfl) (by rfl) T.tuple (by decide +kernel) (pa_cons (pe_lc (own := [("name", 8), ("guard", 6), ("changes", 7)]) rfl sc_Machine_init.nd (k_list (K := K) rfl (pv 2)) (blkOk_by (N := N_Machine_init) (sc := defScope s_Machine_init) (by decide +kernel)) (fun _ _ _ _ _ => (k_gtup (K := K) (n := 3) rfl rfl (pgs_cons (pg_name (i := 8) sc_Machine_init.nd rfl (by first | exact .inl rfl | exact .inr rfl)) (pgs_cons (pg_name (i := 6) sc_Machine_init.nd rfl (by first | exact .inl rfl | exact .inr rfl)) (pgs_cons (pg_name (i := 7) sc_Machine_init.nd rfl (by first | exact .inl rfl | exact .inr rfl)) pgs_nil))))) (fun _ _ _ _ _ => pts_nil) (fun _ _ _ _ _ => (pe_tup (pa_cons (pv 8) (pa_cons (pe_callTy (k_tuple (K := K) rfl) (by rfl) T.tuple (by decide +kernel) (pa_cons (pv 6) pa_nil)) (pa_cons (pe_callTy (k_tuple (K := K) rfl) (by rfl) T.tuple (by decide +kernel) (pa_cons (pv 7) pa_nil)) pa_nil)))))) pa_nil)) rfl)
      (pss_one (ps_fld (pv 0) (pe_callTy (k_tuple (K := K) rfl) (by rfl) T.tuple (by decide +kernel) (pa_cons (pv 3) pa_nil)) rfl))))))))))), ?_⟩
  have hp : MachOk M.cells M.deeds M.first := hp
  have h2 : Ls M.cells b H := h2
  have h3 : Ls M.deeds c H := h3
  have h4 : Rep.rp H M.first d := h4
  obtain ⟨c1, c2⟩ := hp.c1
  have d1 := hp.d1
  refine q_guard (b := decide ((M.cells.length : Int) < 1) || (decide (24 < (M.cells.length : Int)) || decide (400 < (M.deeds.length : Int)))) (et_or (et_test (ev_ib (ev_lenL (ev_var rfl h2)) ev_ci)) fun _ => et_or (et_test (ev_ib (ev_lenL (ev_var rfl h2)) ev_ci)) fun _ => et_test (ev_ib (ev_lenL (ev_var rfl h3)) ev_ci)) (by rw [decide_eq_false (by omega), decide_eq_false (by omega), decide_eq_false (by omega)]; rfl) fun H1 e1 => ?_
  have a2 := Mo.mo e1 h2
  refine q_drop (ev_pp (M.cells.map (·.1)) (ea_cons (ev_ls (ev_lc2m (fun c : Str × Int => c.1) (Str.empty, 0) (evi_list (ev_var rfl a2)) (by rw [sizeLine_eq]; omega) (fun _ _ => rfl) (fun z x y H1 hz e hx hy => ev_rv rfl hx))) ea_nil) ⟨hp.cn.1, hp.cn.2, by rw [List.length_map]; omega⟩) fun H2 e2 => ?_
  have sA := e1.trans e2
  refine q_asg (ev_lc2m (fun c : Str × Int => c.2) (Str.empty, 0) (evi_list (ev_var rfl (Mo.mo sA h2))) (by rw [sizeLine_eq]; omega) (fun _ _ => rfl) (fun z x y H1 hz e hx hy => ev_rv rfl hy)) fun v H3 e3 hv => ?_
  have hv : Ls (M.cells.map (·.2)) v H3 := hv.ls
  have sB := sA.trans e3
  refine q_guard (b := !((M.cells.map (·.2)).map fun z => decide (1 ≤ z) && decide (z ≤ 16)).all id) (et_not (et_B (ev_all (ev_ls (ev_lcm (fun z : Int => decide (1 ≤ z) && decide (z ≤ 16)) 0 (evi_list (ev_var rfl hv)) (by rw [List.length_map, sizeLine_eq]; omega) (fun _ => rfl) (fun z x H1 hz e hx => ev_chain ev_ci (ev_rv rfl hx) fun _ => ev_ci)))))) (by
    have e : ((M.cells.map (·.2)).map fun z => decide (1 ≤ z) && decide (z ≤ 16)).all id = true := by
      rw [List.all_map]
      refine List.all_eq_true.mpr fun z hz => ?_
      have := hp.sz z hz
      show (decide (1 ≤ z) && decide (z ≤ 16)) = true
      rw [decide_eq_true this.1, decide_eq_true this.2]
      rfl
    rw [e]
    rfl) fun H4 e4 => ?_
  have sC := sB.trans e4
  refine q_drop (ev_pp (M.deeds.map (·.a)) (ea_cons (ev_ls (ev_lcm (fun d : Deed => d.a) ⟨Str.empty, [], []⟩ (evi_list (ev_var rfl (Mo.mo sC h3))) (by rw [sizeLine_eq]; omega) (fun _ => rfl) (fun z x H1 hz e hx => ev_ix30 (ev_rv rfl hx)))) ea_nil) ⟨hp.dn.1, hp.dn.2, by rw [List.length_map]; omega⟩) fun H5 e5 => ?_
  have sD := sC.trans e5
  have hv5 : Ls (M.cells.map (·.2)) v H5 := Mo.mo (e4.trans e5) hv
  refine q_for (evi_list (ev_var rfl (Mo.mo sD h3))) (fun H2 i σ' H' => Same H2 H' ∧ ∃ y z u, σ' = [some (.ref x), some b, some c, some d, some v, y, z, u, none, none, none, none]) (fun H2 e2 => ⟨Same.refl _, none, none, none, rfl⟩) (fun H2 i σ' H' p => p.1) ?_ ?_
  · rintro H6 i x1 σ' H' H'' e6 hi ⟨s1, y, z, u, rfl⟩ s2 ⟨p, hz, hx⟩
    have dd := hp.dd p (List.mem_of_getElem? hz)
    have sE : Same H5 H'' := (e6.trans s1).trans s2
    refine g_t3n hx fun x1 x2 x3 hx1 hx2 hx3 => ?_
    have a2 : Ls M.cells b H'' := Mo.mo (sD.trans sE) h2
    refine q_drop (ev_pp (p.b.map fun q => (q.1, AnyV.mk), (M.cells.length : Int)) (ea_cons (ev_any (ev_rv rfl hx2)) (ea_cons (ev_lenL (ev_var rfl a2)) ea_nil)) (by rw [map_any]; exact dd.1)) fun H7 e7 => ?_
    refine q_drop (ev_pp (p.c.map fun q => (q.1, AnyV.mk), (M.cells.length : Int)) (ea_cons (ev_any (ev_rv rfl (Rep.mono (tx_of e7) hx3))) (ea_cons (ev_lenL (ev_var rfl (Mo.mo e7 a2))) ea_nil)) (by rw [map_any]; exact dd.2.1)) fun H8 e8 => ?_
    have sF := (sD.trans sE).trans (e7.trans e8)
    refine s_drop (ev_mpp (fs := []) [] (T3.mk (M.cells.map (·.2)) p.b p.c) (ev_var (φ := Ins (CMachine K) []) rfl ⟨x, dx, [], rfl, sF _ _ hx0, rfl⟩) rfl rfl (ea_cons (ev_var rfl (Mo.mo (sE.trans (e7.trans e8)) hv5)) (ea_cons (ev_rv rfl (Rep.mono (tx_of (e7.trans e8)) hx2)) (ea_cons (ev_rv rfl (Rep.mono (tx_of (e7.trans e8)) hx3)) ea_nil))) rfl ⟨fun z hz => by have := hp.sz z hz; omega, dd.2.2.1, dd.2.2.2⟩) fun H9 e9 => ⟨((s1.trans s2).trans (e7.trans e8)).trans e9, some x1, some x2, some x3, rfl⟩
  · rintro H6 σ' H7 e6 ⟨s1, y, z, u, rfl⟩
    have sE : Same H5 H7 := e6.trans s1
    have sF := sD.trans sE
    have a2 : Ls M.cells b H7 := Mo.mo sF h2
    have a4 := Rep.mono (tx_of sF) h4
    have hv7 : Ls (M.cells.map (·.2)) v H7 := Mo.mo sE hv5
    refine q_guard (b := !decide ((M.first.length : Int) = (M.cells.length : Int)) || !((M.first.zip (M.cells.map (·.2))).map fun p => isMaskI p.1 p.2).all id) (et_or (et_test (ev_neI (ev_lenT (ev_rv rfl a4)) (ev_lenL (ev_var rfl a2)))) fun _ => et_not (et_B (ev_all (ev_ls (ev_lc2m (fun p : Int × Int => isMaskI p.1 p.2) (0, 0) (evi_zipTL (ea_cons (ev_rv rfl a4) (ea_cons (ev_var rfl hv7) ea_nil))) (by rw [List.length_zip, List.length_map, sizeLine_eq]; omega) (fun _ _ => rfl) (fun z x y H1 hz e hx hy => ev_pp (z.1, z.2) (ea_cons (ev_rv rfl hx) (ea_cons (ev_rv rfl hy) ea_nil)) (by
      have := hp.sz z.2 (List.of_mem_zip (show (z.1, z.2) ∈ _ from hz)).2
      show 0 ≤ z.2 ∧ z.2 ≤ 1000
      omega))))))) (by
      have e : ((M.first.zip (M.cells.map (·.2))).map fun p => isMaskI p.1 p.2).all id = true := by rw [List.all_map]; exact hp.fm
      rw [e, decide_eq_true (by rw [hp.fl])]
      rfl) fun H8 e8 => ?_
    have sG := sF.trans e8
    have k3 : M.deeds.length ≤ sizeLine := by rw [sizeLine_eq]; omega
    have k2 : M.cells.length ≤ sizeLine := by rw [sizeLine_eq]; omega
    have i1 : (M.cells.map fun c : Str × Int => (c.1, c.2)) = M.cells := by simp
    have i2 : (M.deeds.map fun d : Deed => (⟨d.a, d.b, d.c⟩ : Deed)) = M.deeds := by simp
    refine q_fld (φ := R M.cells) (a := x) (sG _ _ hx0) (ev_is rfl) (i1 ▸ ev_tupL (ev_ls (ev_lc2m (fun c : Str × Int => (c.1, c.2)) (Str.empty, 0) (evi_list (ev_var rfl (Mo.mo sG h2))) k2 (fun _ _ => rfl) (fun z x y H1 hz e hx hy => ev_pair (ev_rv rfl hx) (ev_rv rfl hy))))) T.cMachine T.nMachine_cells (by decide) fun v1 H9 e9 hv1 => ?_
    rw [putF_new (by rfl)]
    have x9 := e9 _ _ (sG _ _ hx0)
    have sH := sG.trans e9
    have t1 : Tx H9 (upd H9 x (.ins (CMachine K) dx (([] : List (Str × V)) ++ [(("cells" : Str), v1)]))) := tx_ins x9
    have o1 : Off x H (upd H9 x (.ins (CMachine K) dx (([] : List (Str × V)) ++ [(("cells" : Str), v1)]))) := (Off.of sH).trans Off.upd
    have b3 : Ls M.deeds c (upd H9 x (.ins (CMachine K) dx (([] : List (Str × V)) ++ [(("cells" : Str), v1)]))) := ls_ins (Mo.mo sH h3) x9
    have b4 : Rep.rp (upd H9 x (.ins (CMachine K) dx (([] : List (Str × V)) ++ [(("cells" : Str), v1)]))) M.first d := Rep.mono ((tx_of sH).trans t1) h4
    have w1 : Rep.rp (upd H9 x (.ins (CMachine K) dx (([] : List (Str × V)) ++ [(("cells" : Str), v1)]))) M.cells v1 := Rep.mono t1 hv1
    have x10 : upd H9 x (.ins (CMachine K) dx (([] : List (Str × V)) ++ [(("cells" : Str), v1)])) x = some (.ins (CMachine K) dx [("cells", v1)]) := upd_same
    generalize upd H9 x (.ins (CMachine K) dx (([] : List (Str × V)) ++ [(("cells" : Str), v1)])) = H10 at t1 o1 b3 b4 w1 x10
    refine q_fld (φ := R M.deeds) (a := x) x10 (ev_is rfl) (i2 ▸ ev_tupL (ev_ls (ev_lc3m (fun d : Deed => (⟨d.a, d.b, d.c⟩ : Deed)) ⟨Str.empty, [], []⟩ (evi_list (ev_var rfl b3)) k3 (fun _ _ _ => rfl) (fun z x y u H1 hz e hx hy hu => ev_t3 (ev_rv rfl hx) (ev_tupT (ev_rv rfl hy)) (ev_tupT (ev_rv rfl hu)))))) T.cMachine T.nMachine_deeds (by show 1 < 1000; decide) fun v2 H11 e11 hv2 => ?_
    rw [putF_new (by rfl)]
    have x11 := e11 _ _ x10
    have t2 : Tx H11 (upd H11 x (.ins (CMachine K) dx (([("cells", v1)] : List (Str × V)) ++ [(("deeds" : Str), v2)]))) := tx_ins x11
    have o2 : Off x H (upd H11 x (.ins (CMachine K) dx (([("cells", v1)] : List (Str × V)) ++ [(("deeds" : Str), v2)]))) := (off_same_r o1 e11).trans Off.upd
    have b4' := Rep.mono ((tx_of e11).trans t2) b4
    have w1' := Rep.mono ((tx_of e11).trans t2) w1
    have w2' := Rep.mono t2 hv2
    have x12 : upd H11 x (.ins (CMachine K) dx (([("cells", v1)] : List (Str × V)) ++ [(("deeds" : Str), v2)])) x = some (.ins (CMachine K) dx [("cells", v1), ("deeds", v2)]) := upd_same
    generalize upd H11 x (.ins (CMachine K) dx (([("cells", v1)] : List (Str × V)) ++ [(("deeds" : Str), v2)])) = H12 at t2 o2 b4' w1' w2' x12
    refine s_fld (φ := R M.first) (a := x) x12 (ev_is rfl) (ev_tupT (ev_rv rfl b4')) T.cMachine T.nMachine_first (by show 2 < 1000; decide) fun v3 H13 e13 hv3 => ?_
    rw [putF_new (by rfl)]
    have x13 := e13 _ _ x12
    have t3 : Tx H13 (upd H13 x (.ins (CMachine K) dx (([("cells", v1), ("deeds", v2)] : List (Str × V)) ++ [(("first" : Str), v3)]))) := tx_ins x13
    exact q _ ((off_same_r o2 e13).trans Off.upd) ⟨dx, _, upd_same, v1, _, rfl, Rep.mono ((tx_of e13).trans t3) w1', v2, _, rfl, Rep.mono ((tx_of e13).trans t3) w2', v3, _, rfl, Rep.mono t3 hv3, rfl⟩
end
end RW
set_option Elab.async false
set_option linter.all false
set_option maxRecDepth 100000
set_option maxHeartbeats 4000000
namespace RW
open PySem PySem.Spec PyProof.Rows L2
local macro_rules | `(tactic| walk_at "sm") => `(tactic| first
  | exact Same.refl _
  | assumption
  | exact same_new (by assumption)
  | (refine Same.trans ?_ (by assumption); walk_at "sm")
  | (refine Same.trans ?_ (same_new (by assumption)); walk_at "sm"))
local macro_rules | `(tactic| walk_at "rp") => `(tactic| first
  | assumption
  | exact rfl
  | (refine Rep.mono (tx_of ?_) (by assumption); walk_at "sm")
  | (refine Mo.mo ?_ (by assumption); walk_at "sm"))
local macro_rules | `(tactic| walk_at "ev") => `(tactic| first
  | exact ev_ci
  | exact ev_cs
  | exact ev_cb
  | exact ev_cn
  | (refine @ev_rv _ _ _ _ _ _ _ rfl ?_; walk_at "rp")
  | (refine @ev_var _ _ _ _ _ ?_ rfl ?_; (first | infer_instance | skip); walk_at "rp")
  | (refine ev_ii ?_ ?_ <;> walk_at "ev")
  | (refine ev_ib ?_ ?_ <;> walk_at "ev")
  | (refine ev_eqI ?_ ?_ <;> walk_at "ev")
  | (refine ev_neI ?_ ?_ <;> walk_at "ev")
  | (refine ev_lenT ?_ <;> walk_at "ev")
  | (refine ev_lenL ?_ <;> walk_at "ev")
  | (refine ev_int1 ?_ <;> walk_at "ev")
  | (refine et_test ?_ <;> walk_at "ev")
  | (refine et_B ?_ <;> walk_at "ev")
  | (refine et_not ?_ <;> walk_at "ev")
  | (refine et_or ?_ (fun _ => ?_) <;> walk_at "ev")
  | (refine et_and ?_ (fun _ => ?_) <;> walk_at "ev"))
/-! ### a loop that gathers -/
section
variable {σ : L2.St} {H : Hp} {wi : TI} {g : TG} {tb tz : TS} {D : Ends} {β S : Type} [Rep β] {zs : List β} {ls : List Addr}
theorem s_forAcc (st : S → β → S) (s0 : S) (Pv : S → L2.St → Hp → Prop) (h : EvG (OffL ls) wi σ H zs.length (RI zs)) (h0 : ∀ H1, Same H H1 → Pv s0 σ H1) (hm : ∀ c σ' H' H'', Pv c σ' H' → Same H' H'' → Pv c σ' H'')
    (hs : ∀ pre z suf x σ' H' (D' : Ends), zs = pre ++ z :: suf → Pv (pre.foldl st s0) σ' H' → OffL ls H H' → Rep.rp H' z x → (∀ σ2 H2, OffL ls H' H2 → Pv (st (pre.foldl st s0) z) σ2 H2 → D'.nx σ2 H2 ∧ D'.ct σ2 H2) → D'.rt = D.rt → g x σ' H' fun σ2 H2 => tb D' σ2 H2)
    (hd : ∀ σ' H', OffL ls H H' → Pv (zs.foldl st s0) σ' H' → D.nx σ' H') : tFor wi g tb D σ H := by
  refine s_forG h (fun H1 i σ' H' => OffL ls H1 H' ∧ Pv ((zs.take i).foldl st s0) σ' H') (fun H1 e => ⟨OffL.refl _ _, h0 H1 e⟩) (fun H1 i σ' H' p => p.1) ?_ ?_
  · rintro H1 i x σ' H' H'' e hi ⟨p2, p3⟩ s2 ⟨z, hzi, hx⟩
    have e1 : zs = zs.take i ++ z :: zs.drop (i + 1) := by
      obtain ⟨hlt, e⟩ := List.getElem?_eq_some_iff.mp hzi
      rw [← e, ← List.drop_eq_getElem_cons hlt, List.take_append_drop]
    refine hs (zs.take i) z (zs.drop (i + 1)) x σ' H'' _ e1 (hm _ _ _ _ p3 s2) ((OffL.of e).trans (p2.trans (OffL.of s2))) hx (fun σ2 H2 q1 q2 => ?_) rfl
    have : OffL ls H1 H2 ∧ Pv ((zs.take (i + 1)).foldl st s0) σ2 H2 := ⟨(p2.trans (OffL.of s2)).trans q1, by rw [take_snoc hzi, List.foldl_append]; exact q2⟩
    exact ⟨this, this⟩
  · rintro H1 σ' H' e ⟨p2, p3⟩
    rw [List.take_length] at p3
    exact hd σ' H' ((OffL.of e).trans p2) p3
theorem q_forAcc (st : S → β → S) (s0 : S) (Pv : S → L2.St → Hp → Prop) (h : EvG (OffL ls) wi σ H zs.length (RI zs)) (h0 : ∀ H1, Same H H1 → Pv s0 σ H1) (hm : ∀ c σ' H' H'', Pv c σ' H' → Same H' H'' → Pv c σ' H'')
    (hs : ∀ pre z suf x σ' H' (D' : Ends), zs = pre ++ z :: suf → Pv (pre.foldl st s0) σ' H' → OffL ls H H' → Rep.rp H' z x → (∀ σ2 H2, OffL ls H' H2 → Pv (st (pre.foldl st s0) z) σ2 H2 → D'.nx σ2 H2 ∧ D'.ct σ2 H2) → D'.rt = D.rt → g x σ' H' fun σ2 H2 => tb D' σ2 H2)
    (hd : ∀ σ' H', OffL ls H H' → Pv (zs.foldl st s0) σ' H' → tz D σ' H') : tSeq (tFor wi g tb) tz D σ H := s_forAcc (D := { D with nx := tz D }) st s0 Pv h h0 hm hs hd
end
section
variable {P : Program} {w : World} {K : PySem.W.Frag} {mg : Str → Option Value} {base : Heap}
abbrev D3 := List Deed × List Deed × List Deed
def delName (file : Int) (bs : List Int) : Str := [("e" : Str), toString file, ("b" : Str), digitsI bs].foldl (· ++ ·) Str.empty
def delI (F : Form) (file : Int) (bs : List Int) : Deed := ⟨delName file bs, guardI F file bs, (file, (("set" : Str), 1 + F.blocks + bs.headD 0)) :: bs.map fun b => (F.files + b, (("set" : Str), 0))⟩
def overI (F : Form) (file : Int) (bs cs : List Int) : Deed := ⟨nameI "o" file bs cs, guardI F file bs, dataI F bs cs⟩
def st1 (F : Form) (file : Int) (bs : List Int) (c : D3) (cs : List Int) : D3 := (c.1 ++ [writeI F file bs cs], c.2.1 ++ [overI F file bs cs], c.2.2)
def st2 (F : Form) (file : Int) (k : Nat) (c : D3) (bs : List Int) : D3 := let d := (allC k).foldl (st1 F file bs) c; (d.1, d.2.1, d.2.2 ++ [delI F file bs])
def st3 (F : Form) (file : Int) (c : D3) (n : Int) : D3 := (combI F.blocks.toNat n.toNat).foldl (st2 F file n.toNat) c
def deeds3 (F : Form) (file : Int) : D3 := ((rg F.longest.toNat).map fun k => 1 + k).foldl (st3 F file) ([], [], [])
def fileDeeds (F : Form) (file : Int) : List Deed := (deeds3 F file).1 ++ (deeds3 F file).2.1 ++ (deeds3 F file).2.2
/-- how many at most -/
def Few (n : Nat) (c : D3) : Prop := c.1.length ≤ n ∧ c.2.1.length ≤ n ∧ c.2.2.length ≤ n
theorem few1 {F : Form} {file : Int} {bs : List Int} : ∀ (css : List (List Int)) {n : Nat} {c : D3}, Few n c → Few (n + css.length) (css.foldl (st1 F file bs) c)
  | [], _, _, h => h
  | cs :: r, n, c, h => by
    have := few1 (F := F) (file := file) (bs := bs) r (n := n + 1) (c := st1 F file bs c cs) ⟨by show (c.1 ++ [_]).length ≤ _; rw [List.length_append, List.length_singleton]; have := h.1; omega, by show (c.2.1 ++ [_]).length ≤ _; rw [List.length_append, List.length_singleton]; have := h.2.1; omega, by have := h.2.2; exact Nat.le_succ_of_le this⟩
    rw [List.length_cons]
    show Few _ (r.foldl _ _)
    rw [show n + (r.length + 1) = n + 1 + r.length by omega]
    exact this
theorem few2 {F : Form} {file : Int} {k : Nat} : ∀ (bss : List (List Int)) {n : Nat} {c : D3}, Few n c → Few (n + bss.length * ((allC k).length + 1)) (bss.foldl (st2 F file k) c)
  | [], n, _, h => by simpa using h
  | bs :: r, n, c, h => by
    have h1 := few1 (F := F) (file := file) (bs := bs) (allC k) h
    have := few2 (F := F) (file := file) (k := k) r (n := n + ((allC k).length + 1)) (c := st2 F file k c bs) ⟨by have := h1.1; show ((allC k).foldl (st1 F file bs) c).1.length ≤ _; omega, by have := h1.2.1; show ((allC k).foldl (st1 F file bs) c).2.1.length ≤ _; omega, by show (_ ++ [_]).length ≤ _; rw [List.length_append, List.length_singleton]; have := h1.2.2; omega⟩
    rw [List.length_cons, Nat.succ_mul]
    show Few _ (r.foldl _ _)
    rw [show n + (r.length * ((allC k).length + 1) + ((allC k).length + 1)) = n + ((allC k).length + 1) + r.length * ((allC k).length + 1) by omega]
    exact this
theorem allC_len : (allC 1).length = 2 ∧ (allC 2).length = 4 := by decide
theorem okK_of {F : Form} (hF : okF F) {z : Int} (hz : z ∈ (rg F.longest.toNat).map fun k => 1 + k) : (z.toNat = 1 ∨ z.toNat = 2) ∧ 1 ≤ z ∧ z ≤ 2 := by
  obtain ⟨k, hk, rfl⟩ := List.mem_map.mp hz
  have := rg_mem hk
  have := hF.2.2.2
  omega
theorem comb_in {n k : Nat} (h : okComb n k) : ∀ bs ∈ combI n k, okB bs ∧ bs.length = k ∧ ∀ b ∈ bs, b < n := by
  have key : (combI n k).all (fun bs => decide (bs ≠ []) && decide (bs.length ≤ 5) && (bs.all fun b => decide (0 ≤ b) && decide (b ≤ 5) && decide (b < n)) && decide (bs.length = k)) = true := by
    obtain ⟨rfl | rfl, rfl | rfl⟩ := h <;> decide
  intro bs hbs
  have := List.all_eq_true.mp key bs hbs
  simp only [Bool.and_eq_true, decide_eq_true_eq, List.all_eq_true] at this
  exact ⟨⟨this.1.1.1, this.1.1.2, fun b hb => ⟨(this.1.2 b hb).1.1, (this.1.2 b hb).1.2⟩⟩, this.2, fun b hb => (this.1.2 b hb).2⟩
theorem allC_in {k : Nat} (h : k = 1 ∨ k = 2) : ∀ cs ∈ allC k, cs.length = k ∧ ∀ c ∈ cs, 0 ≤ c ∧ c < 2 := by
  have key : (allC k).all (fun cs => decide (cs.length = k) && cs.all fun c => decide (0 ≤ c) && decide (c < 2)) = true := by
    rcases h with rfl | rfl <;> decide
  intro cs hcs
  have := List.all_eq_true.mp key cs hcs
  simp only [Bool.and_eq_true, decide_eq_true_eq, List.all_eq_true] at this
  exact ⟨this.1, fun c hc => this.2 c hc⟩
theorem combI_few {n k : Nat} (h : okComb n k) : (combI n k).length ≤ 3 := by
  obtain ⟨rfl | rfl, rfl | rfl⟩ := h <;> decide
theorem few3 {F : Form} {file : Int} (hF : okF F) : ∀ (zs : List Int) {n : Nat} {c : D3}, (∀ z ∈ zs, z.toNat = 1 ∨ z.toNat = 2) → Few n c → Few (n + zs.length * 15) (zs.foldl (st3 F file) c)
  | [], n, _, _, h => by simpa using h
  | z :: r, n, c, hz, h => by
    have hk := hz z List.mem_cons_self
    have okc : okComb F.blocks.toNat z.toNat := ⟨by have := hF.2.1; omega, hk⟩
    have h1 := few2 (F := F) (file := file) (k := z.toNat) (combI F.blocks.toNat z.toNat) h
    have h2 : (combI F.blocks.toNat z.toNat).length * ((allC z.toNat).length + 1) ≤ 15 := by
      have a1 := combI_few okc
      have a2 : (allC z.toNat).length ≤ 4 := by
        rcases hk with e | e <;> rw [e]
        · rw [allC_len.1]; decide
        · rw [allC_len.2]; decide
      exact Nat.le_trans (Nat.mul_le_mul a1 (Nat.succ_le_succ a2)) (by decide)
    have := few3 (F := F) (file := file) hF r (n := n + 15) (c := st3 F file c z) (fun y hy => hz y (List.mem_cons_of_mem _ hy)) ⟨by have := h1.1; show ((combI F.blocks.toNat z.toNat).foldl (st2 F file z.toNat) c).1.length ≤ _; omega, by have := h1.2.1; show ((combI F.blocks.toNat z.toNat).foldl (st2 F file z.toNat) c).2.1.length ≤ _; omega, by have := h1.2.2; show ((combI F.blocks.toNat z.toNat).foldl (st2 F file z.toNat) c).2.2.length ≤ _; omega⟩
    rw [List.length_cons]
    show Few _ (r.foldl _ _)
    rw [show n + (r.length + 1) * 15 = n + 15 + r.length * 15 by omega]
    exact this
theorem Few.le {n m : Nat} {c : D3} (h : Few n c) (e : n ≤ m) : Few m c := ⟨Nat.le_trans h.1 e, Nat.le_trans h.2.1 e, Nat.le_trans h.2.2 e⟩
theorem del_len {file : Int} {bs : List Int} (h0 : 0 ≤ file) (h : file < 10) (hb : okB bs) : (([("e" : Str), toString file, ("b" : Str), digitsI bs] : List Str).map (·.length)).sum ≤ sizeLine := by
  have l3 := digits_len (okB_dig hb).2
  have l5 := toStr_len h0 h
  have q3 := hb.2.1
  show 1 + ((toString file : Str).length + (1 + ((digitsI bs).length + 0))) ≤ _
  rw [l3, l5, sizeLine_eq]
  omega
/-- the three lists as they stand -/
def At3 (l1 l2 l3 : Addr) (c : D3) (H : Hp) : Prop := At l1 c.1 H ∧ At l2 c.2.1 H ∧ At l3 c.2.2 H
theorem At3.same {l1 l2 l3 : Addr} {c : D3} {H H' : Hp} (h : At3 l1 l2 l3 c H) (e : Same H H') : At3 l1 l2 l3 c H' := ⟨h.1.same e, h.2.1.same e, h.2.2.same e⟩
theorem At3.ll {l1 l2 l3 : Addr} {c : D3} {H : Hp} (h : At3 l1 l2 l3 c H) : Ll [l1, l2, l3] H := by
  obtain ⟨⟨_, h1, _⟩, ⟨_, h2, _⟩, _, h3, _⟩ := h
  exact ll3 h1 h2 h3
theorem off_1 {l1 l2 l3 : Addr} {H H' : Hp} (h : OffL [l1] H H') : OffL [l1, l2, l3] H H' := h.more (by simp)
theorem off_2 {l1 l2 l3 : Addr} {H H' : Hp} (h : OffL [l2] H H') : OffL [l1, l2, l3] H H' := h.more (by simp)
theorem off_3 {l1 l2 l3 : Addr} {H H' : Hp} (h : OffL [l3] H H') : OffL [l1, l2, l3] H H' := h.more (by simp)
theorem okC_of {k : Nat} {bs cs : List Int} (h : cs.length = k ∧ ∀ c ∈ cs, 0 ≤ c ∧ c < 2) (hk : k = 1 ∨ k = 2) : okC bs cs := ⟨by omega, fun c hc => by have := h.2 c hc; omega⟩
theorem name_len {c : Str} {file : Int} {bs cs : List Int} (hc : c.length = 1) (h0 : 0 ≤ file) (h : file < 10) (hb : okB bs) (hcs : okC bs cs) : (([c, toString file, ("b" : Str), digitsI bs, ("c" : Str), digitsI cs] : List Str).map (·.length)).sum ≤ sizeLine := by
  have l3 := digits_len (okB_dig hb).2
  have l4 := digits_len (okC_dig hcs).2
  have l5 := toStr_len h0 h
  have q3 := hb.2.1
  have q4 := hcs.1
  show c.length + ((toString file : Str).length + (1 + ((digitsI bs).length + (1 + ((digitsI cs).length + 0))))) ≤ _
  rw [hc, l3, l4, l5, sizeLine_eq]
  omega
abbrev N_file_deeds : List Str := ["form", "file", "writes", "overwrites", "deletions", "length", "blocks", "guard", "contents", "name", "changes", "block"]
theorem sc_file_deeds : FnScope N_file_deeds ["form", "file"] (defScope s_file_deeds) := ⟨rfl, rfl, rfl, by decide +kernel, rfl, by decide +kernel, by decide +kernel⟩
abbrev sp_file_deeds (K : PySem.W.Frag) : Sp := Pn (fun g : Form × Int => [FormS K g.1, R g.2]) (fun g => okF g.1 ∧ 0 ≤ g.2 ∧ g.2 < 10) (fun g H => NLs H (fileDeeds g.1 g.2))
theorem ok_file_deeds {f : Addr} {fd : FuncData} (T : Txt K mg) (c_block_tuples : C8.Cal P w K mg base 1 "block_tuples" sp_block_tuples []) (c_file_guard : C8.Cal P w K mg base 2 "_file_guard" (sp_file_guard K) []) (c_all_contents : C8.Cal P w K mg base 1 "all_contents" sp_all_contents []) (c_write_deed : C8.Cal P w K mg base 3 "_write_deed" (sp_write_deed K) []) (c_digits : C8.Cal P w K mg base 1 "digits" sp_digits []) (c_data_changes : C8.Cal P w K mg base 2 "_data_changes" (sp_data_changes K) []) (c_set_to : C8.Cal P w K mg base 1 "set_to" sp_set_to []) (m_gone : C8.Met P w K mg base 1 (CChainForm K) "gone" (sp_ChainForm_gone K) []) (m_link : C8.Met P w K mg base 1 (CChainForm K) "link" (sp_ChainForm_link K) []) (F : FunD K "_file_deeds" "_file_deeds" (defArgs s_file_deeds) (defBody s_file_deeds) (defScope s_file_deeds) [] [] f fd) (hm : mg "_file_deeds" = some (.ref f)) : C8.Cal P w K mg base 4 "_file_deeds" (sp_file_deeds K) [] := by
  refine cal_of F hm sc_file_deeds (fun _ _ _ _ _ _ us hl => match us, hl with | [_, _], _ => rfl) (fun vs H Q E ⟨g, h, _⟩ => fas_len h) (fun cdv A outer s H vs Q E hr h => ?_)
  obtain ⟨⟨F0, file⟩, h, hp, q⟩ := h
  obtain ⟨a, b, rfl, h1, h2⟩ := fas2 h
  refine ⟨_, (pss_cons (ps_set (i := 2) sc_file_deeds.nd rfl (by first | exact .inl rfl | exact .inr rfl) (pe_lst pa_nil))
      (pss_cons (ps_set (i := 3) sc_file_deeds.nd rfl (by first | exact .inl rfl | exact .inr rfl) (pe_lst pa_nil))
      (pss_cons (ps_set (i := 4) sc_file_deeds.nd rfl (by first | exact .inl rfl | exact .inr rfl) (pe_lst pa_nil))
      (pss_cons (ps_for PassesOwn.never rfl (pi_range2 (by rfl) T.range (pa_cons pe_int (pa_cons (pe_op op_add (k_fld (K := K) rfl (pv 0) rfl) pe_int) pa_nil))) (pg_name (i := 5) sc_file_deeds.nd rfl (by first | exact .inl rfl | exact .inr rfl))
        (pss_one (ps_for PassesOwn.never rfl (k_list (K := K) rfl (C8.pe_c c_block_tuples hr (by decide) (by rfl) (pa_cons (k_fld (K := K) rfl (pv 0) rfl) (pa_cons (pv 5) pa_nil)))) (pg_name (i := 6) sc_file_deeds.nd rfl (by first | exact .inl rfl | exact .inr rfl))
          (pss_cons (ps_set (i := 7) sc_file_deeds.nd rfl (by first | exact .inl rfl | exact .inr rfl) (C8.pe_c c_file_guard hr (by decide) (by rfl) (pa_cons (pv 0) (pa_cons (pv 1) (pa_cons (pv 6) pa_nil)))))
          (pss_cons (ps_for PassesOwn.never rfl (k_list (K := K) rfl (C8.pe_c c_all_contents hr (by decide) (by rfl) (pa_cons (k_fld (K := K) rfl (pv 0) rfl) (pa_cons (pv 5) pa_nil)))) (pg_name (i := 8) sc_file_deeds.nd rfl (by first | exact .inl rfl | exact .inr rfl))
            (pss_cons (ps_expr (pe_bm PySem.F.plainAttrs_list PySem.F.slot_list_append PySem.F.type_list_append mt_append (pv 2) (pa_cons (C8.pe_c c_write_deed hr (by decide) (by rfl) (pa_cons (pv 0) (pa_cons (pv 1) (pa_cons (pv 6) (pa_cons (pv 8) pa_nil))))) pa_nil)))
            (pss_cons (ps_set (i := 9) sc_file_deeds.nd rfl (by first | exact .inl rfl | exact .inr rfl) (pe_joined (PJ.cons pe_str (PJ.cons (pe_fmt (pv 1)) (PJ.cons pe_str (PJ.cons (pe_fmt (C8.pe_c c_digits hr (by decide) (by rfl) (pa_cons (pv 6) pa_nil))) (PJ.cons pe_str (PJ.cons (pe_fmt (C8.pe_c c_digits hr (by decide) (by rfl) (pa_cons (pv 8) pa_nil))) PJ.nil))))))))
            (pss_one (ps_expr (pe_bm PySem.F.plainAttrs_list PySem.F.slot_list_append PySem.F.type_list_append mt_append (pv 3) (pa_cons (pe_tup (pa_cons (pv 9) (pa_cons (pv 7) (pa_cons (C8.pe_c c_data_changes hr (by decide) (by rfl) (pa_cons (pv 0) (pa_cons (pv 6) (pa_cons (pv 8) pa_nil)))) pa_nil)))) pa_nil)))))))
          (pss_cons (ps_set (i := 10) sc_file_deeds.nd rfl (by first | exact .inl rfl | exact .inr rfl) (pe_lst (pa_cons (C8.pe_c c_set_to hr (by decide) (by rfl) (pa_cons (pv 1) (pa_cons (C8.pe_mt m_gone hr (by decide) (pv 0) (pa_cons (pe_ix (k_ixT (K := K) rfl) (pv 6) pe_int (fun _ _ => rfl)) pa_nil)) pa_nil))) pa_nil)))
          (pss_cons (ps_aug (i := 10) sc_file_deeds.nd rfl (by first | exact .inl rfl | exact .inr rfl) (pe_lc (own := [("block", 11)]) rfl sc_file_deeds.nd (k_tup (K := K) rfl (pv 6)) (blkOk_by (N := N_file_deeds) (sc := defScope s_file_deeds) (by decide +kernel)) (fun _ _ _ _ _ => (pg_name (i := 11) sc_file_deeds.nd rfl (by first | exact .inl rfl | exact .inr rfl))) (fun _ _ _ _ _ => pts_nil) (fun _ _ _ _ _ => (C8.pe_c c_set_to hr (by decide) (by rfl) (pa_cons (C8.pe_mt m_link hr (by decide) (pv 0) (pa_cons (pv 11) pa_nil)) (pa_cons (C8.pe_gc (by rfl) T.FREE) pa_nil))))) ip_ext)
          (pss_one (ps_expr (pe_bm PySem.F.plainAttrs_list PySem.F.slot_list_append PySem.F.type_list_append mt_append (pv 4) (pa_cons (pe_tup (pa_cons (pe_joined (PJ.cons pe_str (PJ.cons (pe_fmt (pv 1)) (PJ.cons pe_str (PJ.cons (pe_fmt (C8.pe_c c_digits hr (by decide) (by rfl) (pa_cons (pv 6) pa_nil))) PJ.nil))))) (pa_cons (pv 7) (pa_cons (pe_callTy (k_tuple (K := K) rfl) (by rfl) T.tuple (by decide +kernel) (pa_cons (pv 10) pa_nil)) pa_nil)))) pa_nil)))))))))))
      (pss_one (ps_ret (pe_op op_cat (pe_op op_cat (pv 2) (pv 3)) (pv 4)))))))), ?_⟩
  obtain ⟨pF, pf⟩ := hp
  have pF : okF F0 := pF
  have pf : 0 ≤ file ∧ file < 10 := pf
  have h1 : FormS K F0 a H := h1
  have h2 : Rep.rp H file b := h2
  have hbl : okF F0 := pF
  have hB : F0.blocks = ((F0.blocks.toNat : Nat) : Int) := by have := pF.2.1; omega
  have hL : 1 ≤ F0.longest ∧ F0.longest ≤ 2 := by have := pF.2.2.2; omega
  refine q_asg (ev_nl0 (α := Deed)) fun v1 H1 e1 hv1 => ?_
  obtain ⟨l1, rfl, n1, a1⟩ := at_of hv1
  refine q_asg (ev_nl0 (α := Deed)) fun v2 H2 e2 hv2 => ?_
  obtain ⟨l2, rfl, n2, a2⟩ := at_of hv2
  refine q_asg (ev_nl0 (α := Deed)) fun v3 H3 e3 hv3 => ?_
  obtain ⟨l3, rfl, n3, a3⟩ := at_of hv3
  have ne12 : l1 ≠ l2 := fun z => by obtain ⟨vs, hh, _⟩ := a1; rw [z, n2] at hh; cases hh
  have ne13 : l1 ≠ l3 := fun z => by obtain ⟨vs, hh, _⟩ := a1.same e2; rw [z, n3] at hh; cases hh
  have ne23 : l2 ≠ l3 := fun z => by obtain ⟨vs, hh, _⟩ := a2; rw [z, n3] at hh; cases hh
  have s3 : Same H H3 := (e1.trans e2).trans e3
  have A0 : At3 l1 l2 l3 ([], [], []) H3 := ⟨(a1.same e2).same e3, a2.same e3, a3⟩
  have g1 := Mo.mo s3 h1
  have g2 := Rep.mono (tx_of s3) h2
  have fresh : ∀ l ∈ [l1, l2, l3], H l = none := by
    intro l hl
    have : l = l1 ∨ l = l2 ∨ l = l3 := by simpa using hl
    rcases this with rfl | rfl | rfl
    · exact n1
    · exact e1.free n2
    · exact (e1.trans e2).free n3
  refine q_forAcc (st3 F0 file) ([], [], []) (fun c σ' H' => At3 l1 l2 l3 c H' ∧ ∃ y5 y6 y7 y8 y9 y10, σ' = [some a, some b, some (.ref l1), some (.ref l2), some (.ref l3), y5, y6, y7, y8, y9, y10, none])
    (zs := (rg F0.longest.toNat).map fun k => 1 + k) (by
      have := evg_range2 (Gd := OffL [l1, l2, l3]) (a := 1) (b := F0.longest + 1) (H := H3) (σ := [some a, some b, some (.ref l1), some (.ref l2), some (.ref l3), none, none, none, none, none, none, none]) (ta := tCons (tC (.int 1)) (tCons (tOp (rI0 fun i j => .int (i + j)) (tFld K (tVar 0) "longest") (tC (.int 1))) tNil)) (ea_cons ev_ci (ea_cons (ev_ii (ev_longest T (ev_var rfl g1)) ev_ci) ea_nil)) (by omega)
      rw [show (F0.longest + 1 - 1).toNat = F0.longest.toNat by omega] at this
      rw [List.length_map, rg_len]
      exact this) (fun H4 e4 => ⟨A0.same e4, none, none, none, none, none, none, rfl⟩) (fun c σ' H' H'' p e => ⟨p.1.same e, p.2⟩) ?_ ?_
  · rintro pre z suf x σ' H4 D' hzs ⟨A4, y5, y6, y7, y8, y9, y10, rfl⟩ o4 hx kk _
    obtain ⟨hk, hz1, hz2⟩ := okK_of pF (z := z) (by rw [hzs]; exact List.mem_append_right _ List.mem_cons_self)
    have hzN : z = ((z.toNat : Nat) : Int) := by omega
    have okc : okComb F0.blocks.toNat z.toNat := ⟨by have := pF.2.1; omega, hk⟩
    have c1 := MoL.mo A0.ll o4 g1
    have c2 := Rep.mono (tx_off A0.ll o4) g2
    have few4 : Few 30 (pre.foldl (st3 F0 file) ([], [], [])) := by
      have hz3 : ∀ y ∈ pre, y.toNat = 1 ∨ y.toNat = 2 := fun y hy => (okK_of pF (z := y) (by rw [hzs]; exact List.mem_append_left _ hy)).1
      have hl : pre.length ≤ 2 := by
        have := congrArg List.length hzs
        rw [List.length_map, rg_len, List.length_append, List.length_cons] at this
        omega
      exact (few3 (n := 0) pF pre hz3 ⟨Nat.le_refl _, Nat.le_refl _, Nat.le_refl _⟩).le (by omega)
    refine s_forAcc (st2 F0 file z.toNat) (pre.foldl (st3 F0 file) ([], [], [])) (fun c σ' H' => At3 l1 l2 l3 c H' ∧ ∃ y6 y7 y8 y9 y10, σ' = [some a, some b, some (.ref l1), some (.ref l2), some (.ref l3), some x, y6, y7, y8, y9, y10, none])
      (evg_new A4.ll (ev_pn (F0.blocks.toNat, z.toNat) (ea_cons (by rw [← hB]; exact ev_blocks T (ev_var rfl c1)) (ea_cons (by rw [← hzN]; exact ev_rv rfl hx) ea_nil)) okc)) (fun H5 e5 => ⟨A4.same e5, y6, y7, y8, y9, y10, rfl⟩) (fun c σ' H' H'' p e => ⟨p.1.same e, p.2⟩) ?_ (fun σ' H5 o5 p5 => (kk σ' H5 o5 ⟨p5.1, let ⟨y6, y7, y8, y9, y10, e⟩ := p5.2; ⟨some x, y6, y7, y8, y9, y10, e⟩⟩).1)
    rintro pre5 bs suf5 x5 σ' H5 D5 hbs ⟨A5, z6, z7, z8, z9, z10, rfl⟩ o5 hx5 kk5 _
    obtain ⟨okb, lb, ltb⟩ := comb_in okc bs (by rw [hbs]; exact List.mem_append_right _ List.mem_cons_self)
    obtain ⟨hd1, hd2, hd3⟩ := okB_head okb
    have d1 := MoL.mo A4.ll o5 c1
    have d2 := Rep.mono (tx_off A4.ll o5) c2
    have few5 : Few 45 (pre5.foldl (st2 F0 file z.toNat) (pre.foldl (st3 F0 file) ([], [], []))) := by
      have a1 : pre5.length ≤ 3 := by
        have := congrArg List.length (show combI F0.blocks.toNat z.toNat = pre5 ++ bs :: suf5 from hbs)
        rw [List.length_append, List.length_cons] at this
        have := combI_few okc
        omega
      have a2 : (allC z.toNat).length ≤ 4 := by
        rcases hk with e | e <;> rw [e]
        · rw [allC_len.1]; decide
        · rw [allC_len.2]; decide
      refine (few2 pre5 few4).le ?_
      have : pre5.length * ((allC z.toNat).length + 1) ≤ 3 * (4 + 1) := Nat.mul_le_mul a1 (Nat.succ_le_succ a2)
      omega
    generalize pre5.foldl (st2 F0 file z.toNat) (pre.foldl (st3 F0 file) ([], [], [])) = c0 at A5 few5 kk5
    refine q_asg (ev_pp (T3.mk F0 file bs) (ea_cons (ev_var rfl d1) (ea_cons (ev_rv rfl d2) (ea_cons (ev_rv rfl hx5) ea_nil))) okb) fun v7 H6 e6 hv7 => ?_
    have hv7 : Rep.rp H6 (guardI F0 file bs) v7 := hv7
    have A6 := A5.same e6
    have f1 := Mo.mo e6 d1
    have f2 := Rep.mono (tx_of e6) d2
    have f5 := Rep.mono (tx_of e6) hx5
    have hk2 := hk
    refine q_forAcc (st1 F0 file bs) c0 (fun c σ' H' => At3 l1 l2 l3 c H' ∧ ∃ y8 y9, σ' = [some a, some b, some (.ref l1), some (.ref l2), some (.ref l3), some x, some x5, some v7, y8, y9, z10, none])
      (evg_new A6.ll (ev_pn (F0.alphabet, z.toNat) (ea_cons (ev_alphabet T (ev_var rfl f1)) (ea_cons (by rw [← hzN]; exact ev_rv rfl (Rep.mono ((tx_off A4.ll o5).trans (tx_of e6)) hx)) ea_nil)) ⟨pF.2.2.1, hk⟩)) (fun H7 e7 => ⟨A6.same e7, z8, z9, rfl⟩) (fun c σ' H' H'' p e => ⟨p.1.same e, p.2⟩) ?_ ?_
    · rintro pre7 cs suf7 x7 σ' H7 D7 hcs ⟨A7, w8, w9, rfl⟩ o7 hx7 kk7 _
      have hcs2 := allC_in hk cs (by show cs ∈ allC z.toNat; rw [show allC z.toNat = pre7 ++ cs :: suf7 from hcs]; exact List.mem_append_right _ List.mem_cons_self)
      have okc7 : okC bs cs := okC_of hcs2 hk
      have few7 : Few 49 (pre7.foldl (st1 F0 file bs) c0) := by
        refine (few1 pre7 few5).le ?_
        have h1 := congrArg List.length (show allC z.toNat = pre7 ++ cs :: suf7 from hcs)
        rw [List.length_append, List.length_cons] at h1
        have a2 : (allC z.toNat).length ≤ 4 := by
          rcases hk with e | e <;> rw [e]
          · rw [allC_len.1]; decide
          · rw [allC_len.2]; decide
        omega
      generalize pre7.foldl (st1 F0 file bs) c0 = c7 at A7 few7 kk7
      have i1 := MoL.mo A6.ll o7 f1
      have i2 := Rep.mono (tx_off A6.ll o7) f2
      have i5 := Rep.mono (tx_off A6.ll o7) f5
      have i7 := Rep.mono (tx_off A6.ll o7) hv7
      refine q_appA A7.1 (by have := few7.1; rw [sizeLine_eq]; omega) (ev_is rfl) (ev_pp (T4.mk F0 file bs cs) (ea_cons (ev_var rfl i1) (ea_cons (ev_rv rfl i2) (ea_cons (ev_rv rfl i5) (ea_cons (ev_rv rfl hx7) ea_nil)))) ⟨pF, pf, okb, okc7⟩) fun H8 o8 at8 => ?_
      have L8 := A7.1.ll
      have B2 := A7.2.1.off L8 o8 (by simpa using ne12.symm)
      have B3 := A7.2.2.off L8 o8 (by simpa using ne13.symm)
      have j1 := MoL.mo L8 o8 i1
      have j2 := Rep.mono (tx_off L8 o8) i2
      have j5 := Rep.mono (tx_off L8 o8) i5
      have j7 := Rep.mono (tx_off L8 o8) i7
      have jx := Rep.mono (tx_off L8 o8) hx7
      refine q_asg (ev_fstr (.cons ev_cs (.cons (ev_fmtI (ev_rv rfl j2) (small_log pf.1 (by omega))) (.cons ev_cs (.cons (ev_fmtS (ev_pp bs (ea_cons (ev_rv rfl j5) ea_nil) (okB_dig okb)) (by rw [digits_len (okB_dig okb).2, sizeLine_eq]; have := okb.2.1; omega)) (.cons ev_cs (.cons (ev_fmtS (ev_pp cs (ea_cons (ev_rv rfl jx) ea_nil) (okC_dig okc7)) (by rw [digits_len (okC_dig okc7).2, sizeLine_eq]; have := okc7.1; omega)) .nil)))))) (name_len rfl pf.1 pf.2 okb okc7)) fun v9 H9 e9 hv9 => ?_
      refine s_appA (B2.same e9) (by have := few7.2.1; rw [sizeLine_eq]; omega) (ev_is rfl) (ev_t3 (ev_rv rfl hv9) (ev_rv rfl (Rep.mono (tx_of e9) j7)) (ev_pp (T3.mk F0 bs cs) (ea_cons (ev_var rfl (Mo.mo e9 j1)) (ea_cons (ev_rv rfl (Rep.mono (tx_of e9) j5)) (ea_cons (ev_rv rfl (Rep.mono (tx_of e9) jx)) ea_nil))) (by show bs.length ≤ 1000; have := okb.2.1; omega))) fun H10 o10 at10 => ?_
      have L10 := (B2.same e9).ll
      exact (kk7 _ H10 ((off_1 o8).trans ((OffL.of e9).trans (off_2 o10))) ⟨⟨(at8.same e9).off L10 o10 (by simpa using ne12), at10, (B3.same e9).off L10 o10 (by simpa using ne23.symm)⟩, some x7, some v9, rfl⟩).1
    · rintro σ' H7 o7 ⟨A7, w8, w9, rfl⟩
      have few7 : Few 49 ((allC z.toNat).foldl (st1 F0 file bs) c0) := by
        refine (few1 (allC z.toNat) few5).le ?_
        have a2 : (allC z.toNat).length ≤ 4 := by
          rcases hk with e | e <;> rw [e]
          · rw [allC_len.1]; decide
          · rw [allC_len.2]; decide
        omega
      have A7 : At3 l1 l2 l3 ((allC z.toNat).foldl (st1 F0 file bs) c0) H7 := A7
      have i1 := MoL.mo A6.ll o7 f1
      have i2 := Rep.mono (tx_off A6.ll o7) f2
      have i5 := Rep.mono (tx_off A6.ll o7) f5
      have i7 := Rep.mono (tx_off A6.ll o7) hv7
      refine q_asg (ev_nl1 (ev_pp (file, 1 + F0.blocks + bs.headD 0) (ea_cons (ev_rv rfl i2) (ea_cons (ev_mpp ["files", "blocks", "alphabet", "longest", "wiped"] (F0, bs.headD 0) (ev_var (φ := FormS K F0) rfl i1) rfl (by decide +kernel) (ea_cons (ev_ixT (ev_rv rfl i5) ev_ci (atI_at (by decide) hd1)) ea_nil) rfl trivial) ea_nil)) trivial)) fun v8 H8 e8 hv8 => ?_
      obtain ⟨l4, rfl, n4, a4⟩ := at_of hv8
      have j1 := Mo.mo e8 i1
      have j5 := Rep.mono (tx_of e8) i5
      refine q_extA (l := l4) rfl a4 (ev_lcm (fun b : Int => (F0.files + b, (("set" : Str), (0 : Int)))) 0 (evi_tup (ev_rv rfl j5)) (by have := okb.2.1; rw [sizeLine_eq]; omega) (fun _ => rfl) (fun z x H1 hz e hx => ev_pp (F0.files + z, (0 : Int)) (ea_cons (ev_mpp ["files", "blocks", "alphabet", "longest", "wiped"] (F0, z) (ev_var (φ := FormS K F0) rfl (Mo.mo e j1)) rfl (by decide +kernel) (ea_cons (ev_rv rfl hx) ea_nil) rfl trivial) (ea_cons ev_ci ea_nil)) trivial)) (by have := okb.2.1; rw [List.length_map, List.length_singleton, sizeLine_eq]; omega) fun H9 o9 at9 => ?_
      have sN : Same H7 H9 := same_off e8 o9 (fun c hc => by rw [show c = l4 from by simpa using hc]; exact n4)
      have A9 := A7.same sN
      have t1 := Mo.mo sN i1
      have t2 := Rep.mono (tx_of sN) i2
      have t5 := Rep.mono (tx_of sN) i5
      have t7 := Rep.mono (tx_of sN) i7
      refine s_appA A9.2.2 (by have := few7.2.2; rw [sizeLine_eq]; omega) (ev_is rfl) (ev_t3 (ev_fstr (.cons ev_cs (.cons (ev_fmtI (ev_rv rfl t2) (small_log pf.1 (by omega))) (.cons ev_cs (.cons (ev_fmtS (ev_pp bs (ea_cons (ev_rv rfl t5) ea_nil) (okB_dig okb)) (by rw [digits_len (okB_dig okb).2, sizeLine_eq]; have := okb.2.1; omega)) .nil)))) (del_len pf.1 pf.2 okb)) (ev_rv rfl t7) (ev_tupL (ev_at at9 rfl))) fun H10 o10 at10 => ?_
      have L10 := A9.2.2.ll
      exact (kk5 _ H10 ((OffL.of e6).trans (o7.trans ((OffL.of sN).trans (off_3 o10)))) ⟨⟨A9.1.off L10 o10 (by simpa using ne13), A9.2.1.off L10 o10 (by simpa using ne23), at10⟩, some x5, some v7, w8, w9, some (.ref l4), rfl⟩).1
  · rintro σ' H4 o4 ⟨A4, y5, y6, y7, y8, y9, y10, rfl⟩
    have few4 : Few 30 (deeds3 F0 file) := by
      refine (few3 (n := 0) pF _ (fun y hy => (okK_of pF (z := y) hy).1) ⟨Nat.le_refl _, Nat.le_refl _, Nat.le_refl _⟩).le ?_
      rw [List.length_map, rg_len]
      omega
    have sA : Same H H4 := same_off s3 o4 fresh
    refine s_ret (ev_cat (ev_ls (ev_cat (ev_at A4.1 rfl) (ev_at A4.2.1 rfl) (by have := few4.1; have := few4.2.1; show (deeds3 F0 file).1.length + (deeds3 F0 file).2.1.length ≤ _; rw [sizeLine_eq]; omega))) (ev_at A4.2.2 rfl) (by have := few4.1; have := few4.2.1; have := few4.2.2; rw [List.length_append]; show (deeds3 F0 file).1.length + (deeds3 F0 file).2.1.length + (deeds3 F0 file).2.2.length ≤ _; rw [sizeLine_eq]; omega)) fun v5 H5 e5 hv5 => q v5 H5 (sA.trans e5) (hv5.back sA)
end
end RW
set_option Elab.async false
set_option linter.all false
set_option maxRecDepth 100000
set_option maxHeartbeats 4000000
namespace RW
open PySem PySem.Spec PyProof.Rows L2
local macro_rules | `(tactic| walk_at "sm") => `(tactic| first
  | exact Same.refl _
  | assumption
  | exact same_new (by assumption)
  | (refine Same.trans ?_ (by assumption); walk_at "sm")
  | (refine Same.trans ?_ (same_new (by assumption)); walk_at "sm"))
local macro_rules | `(tactic| walk_at "rp") => `(tactic| first
  | assumption
  | exact rfl
  | (refine Rep.mono (tx_of ?_) (by assumption); walk_at "sm")
  | (refine Mo.mo ?_ (by assumption); walk_at "sm"))
local macro_rules | `(tactic| walk_at "ev") => `(tactic| first
  | exact ev_ci
  | exact ev_cs
  | exact ev_cb
  | exact ev_cn
  | (refine @ev_rv _ _ _ _ _ _ _ rfl ?_; walk_at "rp")
  | (refine @ev_var _ _ _ _ _ ?_ rfl ?_; (first | infer_instance | skip); walk_at "rp")
  | (refine ev_ii ?_ ?_ <;> walk_at "ev")
  | (refine ev_ib ?_ ?_ <;> walk_at "ev")
  | (refine ev_eqI ?_ ?_ <;> walk_at "ev")
  | (refine ev_neI ?_ ?_ <;> walk_at "ev")
  | (refine ev_lenT ?_ <;> walk_at "ev")
  | (refine ev_lenL ?_ <;> walk_at "ev")
  | (refine ev_int1 ?_ <;> walk_at "ev")
  | (refine et_test ?_ <;> walk_at "ev")
  | (refine et_B ?_ <;> walk_at "ev")
  | (refine et_not ?_ <;> walk_at "ev")
  | (refine et_or ?_ (fun _ => ?_) <;> walk_at "ev")
  | (refine et_and ?_ (fun _ => ?_) <;> walk_at "ev"))
section
variable {P : Program} {w : World} {K : PySem.W.Frag} {mg : Str → Option Value} {base : Heap}
theorem fileDeeds_len {F : Form} (hF : okF F) (file : Int) : (fileDeeds F file).length ≤ 90 := by
  have h : Few 30 (deeds3 F file) := by
    refine (few3 (n := 0) hF _ (fun y hy => (okK_of hF (z := y) hy).1) ⟨Nat.le_refl _, Nat.le_refl _, Nat.le_refl _⟩).le ?_
    rw [List.length_map, rg_len]
    have := hF.2.2.2
    omega
  unfold fileDeeds
  rw [List.length_append, List.length_append]
  have := h.1
  have := h.2.1
  have := h.2.2
  omega
def deedsI (F : Form) : List Deed := (rg F.files.toNat).foldl (fun ds f => ds ++ fileDeeds F f) []
def dataM (F : Form) : Int := if F.wiped = true then oneI 0 else 1 * 2 ^ F.alphabet.toNat - 1
def firstI (F : Form) : List Int := (rg (F.files + F.blocks).toNat).map (fun _ => oneI 0) ++ (List.replicate F.blocks.toNat [dataM F]).flatten
def machI (F : Form) : Mach := ⟨cellsI F, deedsI F, firstI F⟩
theorem foldl_deeds {F : Form} (hF : okF F) : ∀ (zs : List Int) (ds : List Deed), (zs.foldl (fun ds f => ds ++ fileDeeds F f) ds).length ≤ ds.length + zs.length * 90
  | [], _ => by simp
  | z :: r, ds => by
    have h1 := foldl_deeds hF r (ds ++ fileDeeds F z)
    have h2 := fileDeeds_len hF z
    rw [List.length_append] at h1
    rw [List.length_cons, Nat.succ_mul]
    have e : (z :: r).foldl (fun ds f => ds ++ fileDeeds F f) ds = r.foldl (fun ds f => ds ++ fileDeeds F f) (ds ++ fileDeeds F z) := rfl
    rw [e]
    omega
abbrev N_chain_machine : List Str := ["form", "deeds", "file", "data", "first", "_"]
theorem sc_chain_machine : FnScope N_chain_machine ["form"] (defScope s_chain_machine) := ⟨rfl, rfl, rfl, by decide +kernel, rfl, by decide +kernel, by decide +kernel⟩
abbrev sp_chain_machine (K : PySem.W.Frag) : Sp := Pp (fun g : Form => [FormS K g]) (fun g => okF g ∧ MachOk (cellsI g) (deedsI g) (firstI g)) (fun g => MachS K (machI g))
theorem ok_chain_machine {f : Addr} {fd : FuncData} (T : Txt K mg) (c_file_deeds : C8.Cal P w K mg base 4 "_file_deeds" (sp_file_deeds K) []) (c_one : C8.Cal P w K mg base 1 "one" sp_one []) (k_Machine : C8.Mak P w K mg base 3 "Machine" (CMachine K) (sp_Machine_init K) []) (c_cells : C8.Cal P w K mg base 1 "_cells" (sp_cells K) []) (F : FunD K "chain_machine" "chain_machine" (defArgs s_chain_machine) (defBody s_chain_machine) (defScope s_chain_machine) [] [] f fd) (hm : mg "chain_machine" = some (.ref f)) : C8.Cal P w K mg base 5 "chain_machine" (sp_chain_machine K) [] := by
  refine cal_of F hm sc_chain_machine (fun _ _ _ _ _ _ us hl => match us, hl with | [_], _ => rfl) (fun vs H Q E ⟨g, h, _⟩ => fas_len h) (fun cdv A outer s H vs Q E hr h => ?_)
  obtain ⟨F0, h, hp, q⟩ := h
  obtain ⟨a, rfl, h1⟩ := fas1 h
  refine ⟨_, (pss_cons (ps_set (i := 1) sc_chain_machine.nd rfl (by first | exact .inl rfl | exact .inr rfl) (pe_lst pa_nil))
      (pss_cons (ps_for PassesOwn.never rfl (pi_range1 (by rfl) T.range (pa_cons (k_fld (K := K) rfl (pv 0) rfl) pa_nil)) (pg_name (i := 2) sc_chain_machine.nd rfl (by first | exact .inl rfl | exact .inr rfl))
        (pss_one (ps_aug (i := 1) sc_chain_machine.nd rfl (by first | exact .inl rfl | exact .inr rfl) (C8.pe_c c_file_deeds hr (by decide) (by rfl) (pa_cons (pv 0) (pa_cons (pv 2) pa_nil))) ip_ext)))
      (pss_cons (ps_set (i := 3) sc_chain_machine.nd rfl (by first | exact .inl rfl | exact .inr rfl) (pe_ifExp (pt_val (k_fld (K := K) rfl (pv 0) rfl)) (C8.pe_c c_one hr (by decide) (by rfl) (pa_cons pe_int pa_nil)) (pe_op op_sub (pe_op op_shl pe_int (k_fld (K := K) rfl (pv 0) rfl)) pe_int)))
      (pss_cons (ps_set (i := 4) sc_chain_machine.nd rfl (by first | exact .inl rfl | exact .inr rfl) (pe_op op_cat (pe_lc (own := [("_", 5)]) rfl sc_chain_machine.nd (pi_range1 (by rfl) T.range (pa_cons (pe_op op_add (k_fld (K := K) rfl (pv 0) rfl) (k_fld (K := K) rfl (pv 0) rfl)) pa_nil)) (blkOk_by (N := N_chain_machine) (sc := defScope s_chain_machine) (by decide +kernel)) (fun _ _ _ _ _ => (pg_name (i := 5) sc_chain_machine.nd rfl (by first | exact .inl rfl | exact .inr rfl))) (fun _ _ _ _ _ => pts_nil) (fun _ _ _ _ _ => (C8.pe_c c_one hr (by decide) (by rfl) (pa_cons pe_int pa_nil)))) (pe_op op_rep (pe_lst (pa_cons (pv 3) pa_nil)) (k_fld (K := K) rfl (pv 0) rfl))))
      (pss_one (ps_ret (C8.pe_mk k_Machine hr (by decide) (by rfl) (pa_cons (C8.pe_c c_cells hr (by decide) (by rfl) (pa_cons (pv 0) pa_nil)) (pa_cons (pv 1) (pa_cons (pe_callTy (k_tuple (K := K) rfl) (by rfl) T.tuple (by decide +kernel) (pa_cons (pv 4) pa_nil)) pa_nil)))))))))), ?_⟩
  obtain ⟨pF, pM⟩ := hp
  have pF : okF F0 := pF
  have h1 : FormS K F0 a H := h1
  have hf : 0 ≤ F0.files ∧ F0.files ≤ 2 := by have := pF.1; omega
  have hb : 0 ≤ F0.blocks ∧ F0.blocks ≤ 3 := by have := pF.2.1; omega
  have ha : F0.alphabet = 2 := pF.2.2.1
  refine q_asg (ev_nl0 (α := Deed)) fun v1 H1 e1 hv1 => ?_
  obtain ⟨l, rfl, n1, a1⟩ := at_of hv1
  have g1 := Mo.mo e1 h1
  refine q_forAcc (fun ds f => ds ++ fileDeeds F0 f) [] (fun c σ' H' => At l c H' ∧ ∃ y, σ' = [some a, some (.ref l), y, none, none, none]) (zs := rg F0.files.toNat) (by rw [rg_len]; exact evg_range1 (Gd := OffL [l]) (n := F0.files) (ea_cons (ev_files T (ev_var rfl g1)) ea_nil) (by omega) (by omega)) (fun H2 e2 => ⟨a1.same e2, none, rfl⟩) (fun c σ' H' H'' p e => ⟨p.1.same e, p.2⟩) ?_ ?_
  · rintro pre z suf x σ' H2 D' hzs ⟨A2, y, rfl⟩ o2 hx kk _
    have hz2 := rg_mem (z := z) (n := F0.files.toNat) (by rw [hzs]; exact List.mem_append_right _ List.mem_cons_self)
    have hl : pre.length ≤ 2 := by
      have := congrArg List.length hzs
      rw [rg_len, List.length_append, List.length_cons] at this
      omega
    have b1 := foldl_deeds pF pre []
    have b2 := fileDeeds_len pF z
    refine s_extA (v := .non) (l := l) rfl A2 (ev_pn (F0, z) (ea_cons (ev_var rfl (MoL.mo a1.ll o2 g1)) (ea_cons (ev_rv rfl hx) ea_nil)) ⟨pF, hz2.1, by show z < 10; omega⟩) (by rw [List.length_nil] at b1; rw [sizeLine_eq]; show _ + (fileDeeds F0 z).length ≤ _; omega) fun H3 o3 at3 => (kk _ H3 o3 ⟨at3, some x, rfl⟩).1
  · rintro σ' H2 o2 ⟨A2, y, rfl⟩
    have sA : Same H H2 := same_off e1 o2 (fun c hc => by rw [show c = l from by simpa using hc]; exact n1)
    have A2 : At l (deedsI F0) H2 := A2
    have g2 := Mo.mo sA h1
    refine q_asg (φ := R (dataM F0)) (ev_if (b := F0.wiped) (et_B (ev_wiped T (ev_var rfl g2))) (fun e => Ev.to (x := oneI 0) (ev_pp (0 : Int) (ea_cons ev_ci ea_nil) (by decide)) (by unfold dataM; rw [if_pos e])) (fun e => Ev.to (x := 1 * 2 ^ F0.alphabet.toNat - 1) (ev_ii (ev_iiC ev_ci (ev_alphabet T (ev_var rfl g2)) ⟨by omega, by omega, by decide⟩) ev_ci) (by unfold dataM; rw [e]; rfl))) fun v3 H3 e3 hv3 => ?_
    have g3 := Mo.mo e3 g2
    refine q_asg (ev_cat (ev_ls (ev_lcm (fun _ : Int => oneI 0) 0 (by rw [rg_len]; exact evi_range1 (n := F0.files + F0.blocks) (ea_cons (ev_ii (ev_files T (ev_var rfl g3)) (ev_blocks T (ev_var rfl g3))) ea_nil) (by omega) (by omega)) (by rw [rg_len, sizeLine_eq]; omega) (fun _ => rfl) (fun z x H1 hz e hx => ev_pp (0 : Int) (ea_cons ev_ci ea_nil) (by decide)))) (ev_ls (ev_rep (ev_ls (ev_nl1 (ev_rv rfl hv3))) (ev_blocks T (ev_var rfl g3)) (by omega) (by omega) (by rw [List.length_singleton, sizeLine_eq]; omega))) (by
      have : ((List.replicate F0.blocks.toNat [dataM F0]).flatten).length = F0.blocks.toNat := by simp
      rw [List.length_map, rg_len, this, sizeLine_eq]
      omega)) fun v4 H4 e4 hv4 => ?_
    obtain ⟨l4, rfl, n4, a4⟩ := at_of hv4
    have g4 := Mo.mo e4 g3
    have A4 := A2.same (e3.trans e4)
    refine s_ret (ev_mk (machI F0) (ea_cons (ev_ls (ev_pn F0 (ea_cons (ev_var rfl g4) ea_nil) pF)) (ea_cons (ev_at A4 rfl) (ea_cons (ev_tupL (ev_at a4 rfl)) ea_nil))) pM) fun v5 H5 e5 hv5 => q v5 H5 ((sA.trans (e3.trans e4)).trans e5) hv5
/-! chain_piece -/
def fullC (F : Form) : List Int := (cellsI F).map fun c => 1 * 2 ^ c.2.toNat - 1
def setG (sk : List Int) (g : List (Int × Int)) : List Int := g.foldl (fun sk p => sk.set p.1.toNat p.2) sk
def setD (F : Form) (sk : List Int) (bc : List (Int × Int)) : List Int := bc.foldl (fun sk p => sk.set (F.files + F.blocks + p.1).toNat (oneI p.2)) sk
def pieceOf (F : Form) (file : Int) (cs bs : List Int) : List Int := setD F (setG (fullC F) (guardI F file bs)) (bs.zip cs)
def pieceI (F : Form) (file : Int) (cs : List Int) : List (List Int) := (combI F.blocks.toNat cs.length).map (pieceOf F file cs)
theorem setG_len : ∀ (g : List (Int × Int)) (sk : List Int), (setG sk g).length = sk.length
  | [], _ => rfl
  | p :: g, sk => by
    show (setG (sk.set p.1.toNat p.2) g).length = _
    rw [setG_len g, List.length_set]
theorem setD_len {F : Form} : ∀ (g : List (Int × Int)) (sk : List Int), (setD F sk g).length = sk.length
  | [], _ => rfl
  | p :: g, sk => by
    show (setD F (sk.set _ _) g).length = _
    rw [setD_len g, List.length_set]
theorem cellsI_len {F : Form} : (cellsI F).length = F.files.toNat + F.blocks.toNat + F.blocks.toNat := by
  unfold cellsI
  rw [List.length_append, List.length_append, List.length_map, List.length_map, List.length_map, rg_len, rg_len]
theorem fullC_len {F : Form} : (fullC F).length = F.files.toNat + F.blocks.toNat + F.blocks.toNat := by
  unfold fullC
  rw [List.length_map, cellsI_len]
theorem cellsI_sz {F : Form} (hF : okF F) : ∀ c ∈ cellsI F, 0 ≤ c.2 ∧ c.2 ≤ 16 := by
  obtain ⟨_, p2, p3, _⟩ := hF
  intro c hc
  unfold cellsI at hc
  rcases List.mem_append.mp hc with hc | hc
  · rcases List.mem_append.mp hc with hc | hc
    · obtain ⟨z, _, rfl⟩ := List.mem_map.mp hc
      show 0 ≤ 1 + 2 * F.blocks ∧ 1 + 2 * F.blocks ≤ 16
      omega
    · obtain ⟨z, _, rfl⟩ := List.mem_map.mp hc
      show 0 ≤ 2 + F.blocks ∧ 2 + F.blocks ≤ 16
      omega
  · obtain ⟨z, _, rfl⟩ := List.mem_map.mp hc
    show 0 ≤ F.alphabet ∧ F.alphabet ≤ 16
    omega
theorem guardI_in {F : Form} {file : Int} {bs : List Int} (hF : okF F) (h0 : 0 ≤ file) (h1 : file < F.files) (hb : ∀ b ∈ bs, 0 ≤ b ∧ b < F.blocks.toNat) : ∀ p ∈ guardI F file bs, 0 ≤ p.1 ∧ p.1 < ((F.files.toNat + F.blocks.toNat + F.blocks.toNat : Nat) : Int) := by
  have hf : 0 ≤ F.files ∧ F.files ≤ 2 := by have := hF.1; omega
  have hbb : 0 ≤ F.blocks ∧ F.blocks ≤ 3 := by have := hF.2.1; omega
  intro p hp
  unfold guardI at hp
  rcases List.mem_cons.mp hp with rfl | hp
  · show 0 ≤ file ∧ file < _
    omega
  · obtain ⟨⟨b, v⟩, hz, rfl⟩ := List.mem_map.mp hp
    have := hb b (List.of_mem_zip hz).1
    show 0 ≤ F.files + b ∧ F.files + b < _
    omega
abbrev N_chain_piece : List Str := ["form", "file", "contents", "full", "piece", "blocks", "sketch", "cell", "mask", "block", "value", "_", "size"]
theorem sc_chain_piece : FnScope N_chain_piece ["form", "file", "contents"] (defScope s_chain_piece) := ⟨rfl, rfl, rfl, by decide +kernel, rfl, by decide +kernel, by decide +kernel⟩
abbrev sp_chain_piece (K : PySem.W.Frag) : Sp := Pn (fun g : T3 Form Int (List Int) => [FormS K g.a, R g.b, R g.c]) (fun g => okF g.a ∧ (0 ≤ g.b ∧ g.b < g.a.files) ∧ (g.c.length = 1 ∨ g.c.length = 2) ∧ (g.c.length : Int) ≤ g.a.longest ∧ ∀ v ∈ g.c, 0 ≤ v ∧ v < 2) (fun g H => NLs H (pieceI g.a g.b g.c))
theorem ok_chain_piece {f : Addr} {fd : FuncData} (T : Txt K mg) (c_check_file : C8.Cal P w K mg base 1 "check_file" (sp_check_file K) []) (c_check_contents : C8.Cal P w K mg base 1 "check_contents" (sp_check_contents K) []) (c_cells : C8.Cal P w K mg base 1 "_cells" (sp_cells K) []) (c_block_tuples : C8.Cal P w K mg base 1 "block_tuples" sp_block_tuples []) (c_file_guard : C8.Cal P w K mg base 2 "_file_guard" (sp_file_guard K) []) (c_one : C8.Cal P w K mg base 1 "one" sp_one []) (m_data : C8.Met P w K mg base 1 (CChainForm K) "data" (sp_ChainForm_data K) []) (F : FunD K "chain_piece" "chain_piece" (defArgs s_chain_piece) (defBody s_chain_piece) (defScope s_chain_piece) [] [] f fd) (hm : mg "chain_piece" = some (.ref f)) : C8.Cal P w K mg base 3 "chain_piece" (sp_chain_piece K) [] := by
  refine cal_of F hm sc_chain_piece (fun _ _ _ _ _ _ us hl => match us, hl with | [_, _, _], _ => rfl) (fun vs H Q E ⟨g, h, _⟩ => fas_len h) (fun cdv A outer s H vs Q E hr h => ?_)
  obtain ⟨⟨F0, file, cs⟩, h, hp, q⟩ := h
  obtain ⟨a, b, c, rfl, h1, h2, h3⟩ := fas3 h
  refine ⟨_, (pss_cons (ps_expr (C8.pe_c c_check_file hr (by decide) (by rfl) (pa_cons (pv 0) (pa_cons (pv 1) pa_nil))))
      (pss_cons (ps_expr (C8.pe_c c_check_contents hr (by decide) (by rfl) (pa_cons (pv 0) (pa_cons (pv 2) pa_nil))))
      (pss_cons (ps_setLc (i := 3) (own := [("_", 11), ("size", 12)]) rfl sc_chain_piece.nd rfl rfl (sw_true rfl rfl rfl (by decide +kernel)) (k_list (K := K) rfl (C8.pe_c c_cells hr (by decide) (by rfl) (pa_cons (pv 0) pa_nil))) (blkOk_by (N := N_chain_piece) (sc := defScope s_chain_piece) (by decide +kernel)) (fun _ _ _ _ _ => (k_gtup (K := K) (n := 2) rfl rfl (pgs_cons (pg_name (i := 11) sc_chain_piece.nd rfl (by first | exact .inl rfl | exact .inr rfl)) (pgs_cons (pg_name (i := 12) sc_chain_piece.nd rfl (by first | exact .inl rfl | exact .inr rfl)) pgs_nil)))) (fun _ _ _ _ _ => pts_nil) (fun _ _ _ _ _ => (pe_op op_sub (pe_op op_shl pe_int (pv 12)) pe_int)))
      (pss_cons (ps_set (i := 4) sc_chain_piece.nd rfl (by first | exact .inl rfl | exact .inr rfl) (pe_lst pa_nil))
      (pss_cons (ps_for PassesOwn.never rfl (k_list (K := K) rfl (C8.pe_c c_block_tuples hr (by decide) (by rfl) (pa_cons (k_fld (K := K) rfl (pv 0) rfl) (pa_cons (pe_callB (k_len (K := K) rfl) (by rfl) T.len PySem.boot_len (pa_cons (pv 2) pa_nil)) pa_nil)))) (pg_name (i := 5) sc_chain_piece.nd rfl (by first | exact .inl rfl | exact .inr rfl))
        (pss_cons (ps_set (i := 6) sc_chain_piece.nd rfl (by first | exact .inl rfl | exact .inr rfl) (pe_callTy (k_listOf (K := K) rfl) (by rfl) T.list (by decide +kernel) (pa_cons (pv 3) pa_nil)))
        (pss_cons (ps_for PassesOwn.never rfl (k_tup (K := K) rfl (C8.pe_c c_file_guard hr (by decide) (by rfl) (pa_cons (pv 0) (pa_cons (pv 1) (pa_cons (pv 5) pa_nil))))) (k_gtup (K := K) (n := 2) rfl rfl (pgs_cons (pg_name (i := 7) sc_chain_piece.nd rfl (by first | exact .inl rfl | exact .inr rfl)) (pgs_cons (pg_name (i := 8) sc_chain_piece.nd rfl (by first | exact .inl rfl | exact .inr rfl)) pgs_nil)))
          (pss_one (ps_asg (pv 8) (pg_sub (pv 6) (pv 7) set_list))))
        (pss_cons (ps_for PassesOwn.never rfl (k_zipA (K := K) rfl (by rfl) T.zip (pa_cons (pv 5) (pa_cons (pv 2) pa_nil))) (k_gtup (K := K) (n := 2) rfl rfl (pgs_cons (pg_name (i := 9) sc_chain_piece.nd rfl (by first | exact .inl rfl | exact .inr rfl)) (pgs_cons (pg_name (i := 10) sc_chain_piece.nd rfl (by first | exact .inl rfl | exact .inr rfl)) pgs_nil)))
          (pss_one (ps_asg (C8.pe_c c_one hr (by decide) (by rfl) (pa_cons (pv 10) pa_nil)) (pg_sub (pv 6) (C8.pe_mt m_data hr (by decide) (pv 0) (pa_cons (pv 9) pa_nil)) set_list))))
        (pss_one (ps_expr (pe_bm PySem.F.plainAttrs_list PySem.F.slot_list_append PySem.F.type_list_append mt_append (pv 4) (pa_cons (pe_callTy (k_tuple (K := K) rfl) (by rfl) T.tuple (by decide +kernel) (pa_cons (pv 6) pa_nil)) pa_nil))))))))
      (pss_one (ps_ret (pv 4)))))))), ?_⟩
  obtain ⟨pF, pf, pk, pl, pv⟩ := hp
  have pF : okF F0 := pF
  have pf : 0 ≤ file ∧ file < F0.files := pf
  have pk : cs.length = 1 ∨ cs.length = 2 := pk
  have pl : (cs.length : Int) ≤ F0.longest := pl
  have pv : ∀ v ∈ cs, 0 ≤ v ∧ v < 2 := pv
  have h1 : FormS K F0 a H := h1
  have h2 : Rep.rp H file b := h2
  have h3 : Rep.rp H cs c := h3
  have hA : F0.alphabet = 2 := pF.2.2.1
  have hB : F0.blocks = ((F0.blocks.toNat : Nat) : Int) := by have := pF.2.1; omega
  have hF2 : F0.files ≤ 2 := by have := pF.1; omega
  refine q_drop (ev_pp (F0, file) (ea_cons (ev_var rfl h1) (ea_cons (ev_rv rfl h2) ea_nil)) pf) fun H1 e1 => ?_
  refine q_drop (ev_pp (F0, cs) (ea_cons (ev_var rfl (Mo.mo e1 h1)) (ea_cons (ev_rv rfl (Rep.mono (tx_of e1) h3)) ea_nil)) ⟨by show 1 ≤ cs.length; omega, pl, fun v hv => by show 0 ≤ v ∧ v < F0.alphabet; have := pv v hv; omega⟩) fun H2 e2 => ?_
  have s2 := e1.trans e2
  refine q_asg (ev_lc2m (fun c : Str × Int => 1 * 2 ^ c.2.toNat - 1) (Str.empty, 0) (evi_list (ev_ls (ev_pn F0 (ea_cons (ev_var rfl (Mo.mo s2 h1)) ea_nil) pF))) (by rw [cellsI_len, sizeLine_eq]; have := pF.2.1; omega) (fun _ _ => rfl) (fun z x y H1 hz e hx hy => ev_ii (ev_iiC ev_ci (ev_rv rfl hy) (by have := cellsI_sz pF z hz; exact ⟨by omega, by omega, by decide⟩)) ev_ci)) fun v3 H3 e3 hv3 => ?_
  obtain ⟨lf, rfl, nf, af⟩ := at_of hv3
  have af : At lf (fullC F0) H3 := af
  refine q_asg (ev_nl0 (α := List Int)) fun v4 H4 e4 hv4 => ?_
  obtain ⟨lp, rfl, np, ap⟩ := at_of hv4
  have s4 := (s2.trans e3).trans e4
  have g1 := Mo.mo s4 h1
  have g2 := Rep.mono (tx_of s4) h2
  have g3 := Rep.mono (tx_of s4) h3
  have af4 := af.same e4
  have nfp : lf ≠ lp := fun z => by obtain ⟨vs, hh, _⟩ := af; rw [z, np] at hh; cases hh
  have okc : okComb F0.blocks.toNat cs.length := ⟨by have := pF.2.1; omega, pk⟩
  have few := combI_few okc
  refine q_forApp (pieceOf F0 file cs) (fun σ' => ∃ y5 y6 y7 y8 y9 y10, σ' = [some a, some b, some c, some (.ref lf), some (.ref lp), y5, y6, y7, y8, y9, y10, none, none]) (evg_new ap.ll (ev_pn (F0.blocks.toNat, cs.length) (ea_cons (by rw [← hB]; exact ev_blocks T (ev_var rfl g1)) (ea_cons (ev_lenT (ev_rv rfl g3)) ea_nil)) okc)) ⟨none, none, none, none, none, none, rfl⟩ ap (by rw [List.length_nil, sizeLine_eq]; show 0 + (combI F0.blocks.toNat cs.length).length ≤ _; omega) ?_ ?_
  · rintro bs x σ' H5 ys D' hzm ⟨y5, y6, y7, y8, y9, y10, rfl⟩ o5 hx hys hlen kk
    obtain ⟨okb, lb, ltb⟩ := comb_in okc bs hzm
    have hbl : ∀ b ∈ bs, 0 ≤ b ∧ b < F0.blocks.toNat := fun b hb => ⟨(okb.2.2 b hb).1, ltb b hb⟩
    have i1 := MoL.mo ap.ll o5 g1
    have i2 := Rep.mono (tx_off ap.ll o5) g2
    have i3 := Rep.mono (tx_off ap.ll o5) g3
    have if5 := af4.off ap.ll o5 (by simpa using nfp)
    refine q_asg (ev_listL (ev_at if5 rfl)) fun v6 H6 e6 hv6 => ?_
    obtain ⟨ls, rfl, ns, as⟩ := at_of hv6
    have gin := guardI_in pF pf.1 pf.2 hbl
    have j1 := Mo.mo e6 i1
    have j2 := Rep.mono (tx_of e6) i2
    have j3 := Rep.mono (tx_of e6) i3
    have jx := Rep.mono (tx_of e6) hx
    refine q_forAcc (fun (sk : List Int) (p : Int × Int) => sk.set p.1.toNat p.2) (fullC F0) (fun c' σ' H' => At ls c' H' ∧ ∃ y7 y8, σ' = [some a, some b, some c, some (.ref lf), some (.ref lp), some x, some (.ref ls), y7, y8, y9, y10, none, none]) (evg_tup as.ll (ev_pp (T3.mk F0 file bs) (ea_cons (ev_var rfl j1) (ea_cons (ev_rv rfl j2) (ea_cons (ev_rv rfl jx) ea_nil))) okb)) (fun H7 e7 => ⟨as.same e7, y7, y8, rfl⟩) (fun c σ' H' H'' p e => ⟨p.1.same e, p.2⟩) ?_ ?_
    · rintro pre p suf xp σ' H7 D7 hps ⟨A7, w7, w8, rfl⟩ o7 hxp kk7 _
      have hpin := gin p (by show p ∈ guardI F0 file bs; rw [show guardI F0 file bs = pre ++ p :: suf from hps]; exact List.mem_append_right _ List.mem_cons_self)
      refine g_pair hxp fun x1 x2 hx1 hx2 => ?_
      exact s_setA A7 (ev_rv rfl hx2) (ev_is rfl) (ev_rv rfl hx1) hpin.1 (by have := setG_len pre (fullC F0); unfold setG at this; rw [this, fullC_len]; exact hpin.2) fun H8 o8 at8 => (kk7 _ H8 o8 ⟨at8, some x1, some x2, rfl⟩).1
    · rintro σ' H7 o7 ⟨A7, w7, w8, rfl⟩
      have A7 : At ls (setG (fullC F0) (guardI F0 file bs)) H7 := A7
      have k1 := MoL.mo as.ll o7 j1
      have kx := Rep.mono (tx_off as.ll o7) jx
      have k3 := Rep.mono (tx_off as.ll o7) j3
      refine q_forAcc (fun (sk : List Int) (p : Int × Int) => sk.set (F0.files + F0.blocks + p.1).toNat (oneI p.2)) (setG (fullC F0) (guardI F0 file bs)) (fun c' σ' H' => At ls c' H' ∧ ∃ y9 y10, σ' = [some a, some b, some c, some (.ref lf), some (.ref lp), some x, some (.ref ls), w7, w8, y9, y10, none, none]) (evg_zipTT A7.ll (ea_cons (ev_rv rfl kx) (ea_cons (ev_rv rfl k3) ea_nil))) (fun H8 e8 => ⟨A7.same e8, y9, y10, rfl⟩) (fun c σ' H' H'' p e => ⟨p.1.same e, p.2⟩) ?_ ?_
      · rintro pre p suf xp σ' H8 D8 hps ⟨A8, w9, w10, rfl⟩ o8 hxp kk8 _
        have hpz : (p.1, p.2) ∈ bs.zip cs := by rw [show bs.zip cs = pre ++ p :: suf from hps]; exact List.mem_append_right _ List.mem_cons_self
        have hp1 := hbl p.1 (List.of_mem_zip hpz).1
        have hp2 := pv p.2 (List.of_mem_zip hpz).2
        refine g_pair hxp fun x1 x2 hx1 hx2 => ?_
        exact s_setA A8 (ev_pp p.2 (ea_cons (ev_rv rfl hx2) ea_nil) (by omega)) (ev_is rfl) (ev_mpp ["files", "blocks", "alphabet", "longest", "wiped"] (F0, p.1) (ev_var (φ := FormS K F0) rfl (MoL.mo A7.ll o8 k1)) rfl (by decide +kernel) (ea_cons (ev_rv rfl hx1) ea_nil) rfl trivial) (by show 0 ≤ F0.files + F0.blocks + p.1; have := pF.1; omega) (by
          have e := setD_len (F := F0) pre (setG (fullC F0) (guardI F0 file bs))
          unfold setD at e
          rw [e, setG_len, fullC_len]
          show F0.files + F0.blocks + p.1 < _
          have := pF.1
          omega) fun H9 o9 at9 => (kk8 _ H9 o9 ⟨at9, some x1, some x2, rfl⟩).1
      · rintro σ' H8 o8 ⟨A8, w9, w10, rfl⟩
        have A8 : At ls (pieceOf F0 file cs bs) H8 := A8
        have sN : Same H5 H8 := same_off e6 ((o7).trans o8) (fun c hc => by rw [show c = ls from by simpa using hc]; exact ns)
        exact s_appA (hys.same sN) hlen (ev_is rfl) (ev_tupL (ev_at A8 rfl)) fun H9 o9 at9 => kk _ H9 ⟨some x, some (.ref ls), w7, w8, w9, w10, rfl⟩ ((OffL.of sN).trans o9) at9
  · rintro σ' H5 ⟨y5, y6, y7, y8, y9, y10, rfl⟩ o5 at5
    have sA : Same H H5 := same_off s4 o5 (fun c hc => by rw [show c = lp from by simpa using hc]; exact (s2.trans e3).free np)
    refine s_ret (φ := NLs H (pieceI F0 file cs)) (ev_var rfl ⟨lp, ?_⟩) fun v6 H6 e6 hv6 => q v6 H6 (sA.trans e6) hv6
    obtain ⟨vs, h5, r5⟩ := at5
    exact ⟨vs, rfl, (s2.trans e3).free np, h5, r5⟩
abbrev N_ChainForm_init : List Str := ["self", "files", "blocks", "alphabet", "longest", "wiped", "count", "length"]
theorem sc_ChainForm_init : FnScope N_ChainForm_init ["self", "files", "blocks", "alphabet", "longest", "wiped"] (defScope s_ChainForm_init) := ⟨rfl, rfl, rfl, by decide +kernel, rfl, by decide +kernel, by decide +kernel⟩
abbrev sp_ChainForm_init (K : PySem.W.Frag) : Sp := Pi (CChainForm K) (fun F : Form => [R F.files, R F.blocks, R F.alphabet, R F.longest, R F.wiped]) (fun F => okF F) (fun F => [("files", R F.files), ("blocks", R F.blocks), ("alphabet", R F.alphabet), ("longest", R F.longest), ("wiped", R F.wiped)])
theorem ok_ChainForm_init {f : Addr} {fd : FuncData} (T : Txt K mg) (c_check_range : C8.Cal P w K mg base 1 "check_range" sp_check_range []) (c_block_tuples : C8.Cal P w K mg base 1 "block_tuples" sp_block_tuples []) (c_all_contents : C8.Cal P w K mg base 1 "all_contents" sp_all_contents []) (c_check_count : C8.Cal P w K mg base 1 "check_count" sp_check_count []) (F : FunD K "__init__" "ChainForm.__init__" (defArgs s_ChainForm_init) (defBody s_ChainForm_init) (defScope s_ChainForm_init) [] [("wiped", .bl true)] f fd) : FnOk P w K mg base CX0 2 f fd ["self", "files", "blocks", "alphabet", "longest", "wiped"] (sp_ChainForm_init K) := by
  refine F.ok sc_ChainForm_init (pi_len fun g => rfl) (fun cdv A outer s H vs Q E hr h => ?_)
  refine noxT ?_
  obtain ⟨F0, x, dx, rest, rfl, hx0, h, hp, q⟩ := h
  obtain ⟨b, c, d, e, f5, rfl, h1, h2, h3, h4, h5⟩ := fas5 h
  refine ⟨_, (pss_cons (ps_expr (C8.pe_c c_check_range hr (by decide) (by rfl) (pa_cons (pv 1) (pa_cons pe_int (pa_cons pe_int pa_nil)))))
      (pss_cons (ps_expr (C8.pe_c c_check_range hr (by decide) (by rfl) (pa_cons (pv 2) (pa_cons pe_int (pa_cons pe_int pa_nil)))))
      (pss_cons (ps_expr (C8.pe_c c_check_range hr (by decide) (by rfl) (pa_cons (pv 3) (pa_cons pe_int (pa_cons pe_int pa_nil)))))
      (pss_cons (ps_expr (C8.pe_c c_check_range hr (by decide) (by rfl) (pa_cons (pv 4) (pa_cons pe_int (pa_cons (pe_callB (call_min2 rfl) (by rfl) T.min (by decide +kernel) (pa_cons pe_int (pa_cons (pv 2) pa_nil))) pa_nil)))))
      (pss_cons (ps_fld (pv 0) (pv 1) rfl)
      (pss_cons (ps_fld (pv 0) (pv 2) rfl)
      (pss_cons (ps_fld (pv 0) (pv 3) rfl)
      (pss_cons (ps_fld (pv 0) (pv 4) rfl)
      (pss_cons (ps_fld (pv 0) (pv 5) rfl)
      (pss_cons (ps_set (i := 6) sc_ChainForm_init.nd rfl (by first | exact .inl rfl | exact .inr rfl) pe_int)
      (pss_cons (ps_for PassesOwn.never rfl (pi_range2 (by rfl) T.range (pa_cons pe_int (pa_cons (pe_op op_add (pv 4) pe_int) pa_nil))) (pg_name (i := 7) sc_ChainForm_init.nd rfl (by first | exact .inl rfl | exact .inr rfl))
        (pss_one (ps_aug (i := 6) sc_ChainForm_init.nd rfl (by first | exact .inl rfl | exact .inr rfl) (pe_op op_mul (pe_callB (k_len (K := K) rfl) (by rfl) T.len PySem.boot_len (pa_cons (C8.pe_c c_block_tuples hr (by decide) (by rfl) (pa_cons (pv 2) (pa_cons (pv 7) pa_nil))) pa_nil)) (pe_op op_add (pe_op op_mul pe_int (pe_callB (k_len (K := K) rfl) (by rfl) T.len PySem.boot_len (pa_cons (C8.pe_c c_all_contents hr (by decide) (by rfl) (pa_cons (pv 3) (pa_cons (pv 7) pa_nil))) pa_nil))) pe_int)) ip_add)))
      (pss_one (ps_expr (C8.pe_c c_check_count hr (by decide) (by rfl) (pa_cons (pe_op op_mul (pv 1) (pv 6)) pa_nil))))))))))))))), ?_⟩
  have hp : okF F0 := hp
  obtain ⟨p1, p2, p3, p4⟩ := hp
  have hB : F0.blocks = ((F0.blocks.toNat : Nat) : Int) := by omega
  obtain rfl : b = .int F0.files := h1
  obtain rfl : c = .int F0.blocks := h2
  obtain rfl : d = .int F0.alphabet := h3
  obtain rfl : e = .int F0.longest := h4
  obtain rfl : f5 = .bl F0.wiped := h5
  refine q_drop (ev_pp (T3.mk F0.files (1 : Int) (3 : Int)) (ea_cons (ev_rv rfl rfl) (ea_cons ev_ci (ea_cons ev_ci ea_nil))) (by show 1 ≤ F0.files ∧ F0.files ≤ 3; omega)) fun H1 e1 => ?_
  refine q_drop (ev_pp (T3.mk F0.blocks (1 : Int) (5 : Int)) (ea_cons (ev_rv rfl rfl) (ea_cons ev_ci (ea_cons ev_ci ea_nil))) (by show 1 ≤ F0.blocks ∧ F0.blocks ≤ 5; omega)) fun H2 e2 => ?_
  refine q_drop (ev_pp (T3.mk F0.alphabet (1 : Int) (3 : Int)) (ea_cons (ev_rv rfl rfl) (ea_cons ev_ci (ea_cons ev_ci ea_nil))) (by show 1 ≤ F0.alphabet ∧ F0.alphabet ≤ 3; omega)) fun H3 e3 => ?_
  refine q_drop (ev_pp (T3.mk F0.longest (1 : Int) (if F0.blocks < 3 then F0.blocks else 3)) (ea_cons (ev_rv rfl rfl) (ea_cons ev_ci (ea_cons (ev_min2 ev_ci (ev_rv rfl rfl)) ea_nil))) (by show 1 ≤ F0.longest ∧ F0.longest ≤ (if F0.blocks < 3 then F0.blocks else 3); split <;> omega)) fun H4 e4 => ?_
  have s4 := ((e1.trans e2).trans e3).trans e4
  have x4 := s4 _ _ hx0
  have o4 : Off x H H4 := Off.of s4
  clear s4 e1 e2 e3 e4
  refine q_fld (φ := R F0.files) (a := x) x4 (ev_is rfl) (ev_rv rfl rfl) T.cChainForm T.nChainForm_files (by decide) fun v1 H5 e5 hv1 => ?_
  obtain rfl : v1 = .int F0.files := hv1
  rw [putF_new (by rfl)]
  have o5 : Off x H (upd H5 x (.ins (CChainForm K) dx (([] : List (Str × V)) ++ [(("files" : Str), .int F0.files)]))) := (off_same_r o4 e5).trans Off.upd
  have x5 : upd H5 x (.ins (CChainForm K) dx (([] : List (Str × V)) ++ [(("files" : Str), .int F0.files)])) x = some (.ins (CChainForm K) dx [(("files" : Str), .int F0.files)]) := upd_same
  generalize upd H5 x (.ins (CChainForm K) dx (([] : List (Str × V)) ++ [(("files" : Str), .int F0.files)])) = H6 at o5 x5
  refine q_fld (φ := R F0.blocks) (a := x) x5 (ev_is rfl) (ev_rv rfl rfl) T.cChainForm T.nChainForm_blocks (by show 1 < 1000; decide) fun v1 H7 e7 hv1 => ?_
  obtain rfl : v1 = .int F0.blocks := hv1
  rw [putF_new (by rfl)]
  have o7 : Off x H (upd H7 x (.ins (CChainForm K) dx (([(("files" : Str), .int F0.files)] : List (Str × V)) ++ [(("blocks" : Str), .int F0.blocks)]))) := (off_same_r o5 e7).trans Off.upd
  have x7 : upd H7 x (.ins (CChainForm K) dx (([(("files" : Str), .int F0.files)] : List (Str × V)) ++ [(("blocks" : Str), .int F0.blocks)])) x = some (.ins (CChainForm K) dx [(("files" : Str), .int F0.files), (("blocks" : Str), .int F0.blocks)]) := upd_same
  generalize upd H7 x (.ins (CChainForm K) dx (([(("files" : Str), .int F0.files)] : List (Str × V)) ++ [(("blocks" : Str), .int F0.blocks)])) = H8 at o7 x7
  refine q_fld (φ := R F0.alphabet) (a := x) x7 (ev_is rfl) (ev_rv rfl rfl) T.cChainForm T.nChainForm_alphabet (by show 2 < 1000; decide) fun v1 H9 e9 hv1 => ?_
  obtain rfl : v1 = .int F0.alphabet := hv1
  rw [putF_new (by rfl)]
  have o9 : Off x H (upd H9 x (.ins (CChainForm K) dx (([(("files" : Str), .int F0.files), (("blocks" : Str), .int F0.blocks)] : List (Str × V)) ++ [(("alphabet" : Str), .int F0.alphabet)]))) := (off_same_r o7 e9).trans Off.upd
  have x9 : upd H9 x (.ins (CChainForm K) dx (([(("files" : Str), .int F0.files), (("blocks" : Str), .int F0.blocks)] : List (Str × V)) ++ [(("alphabet" : Str), .int F0.alphabet)])) x = some (.ins (CChainForm K) dx [(("files" : Str), .int F0.files), (("blocks" : Str), .int F0.blocks), (("alphabet" : Str), .int F0.alphabet)]) := upd_same
  generalize upd H9 x (.ins (CChainForm K) dx (([(("files" : Str), .int F0.files), (("blocks" : Str), .int F0.blocks)] : List (Str × V)) ++ [(("alphabet" : Str), .int F0.alphabet)])) = H10 at o9 x9
  refine q_fld (φ := R F0.longest) (a := x) x9 (ev_is rfl) (ev_rv rfl rfl) T.cChainForm T.nChainForm_longest (by show 3 < 1000; decide) fun v1 H11 e11 hv1 => ?_
  obtain rfl : v1 = .int F0.longest := hv1
  rw [putF_new (by rfl)]
  have o11 : Off x H (upd H11 x (.ins (CChainForm K) dx (([(("files" : Str), .int F0.files), (("blocks" : Str), .int F0.blocks), (("alphabet" : Str), .int F0.alphabet)] : List (Str × V)) ++ [(("longest" : Str), .int F0.longest)]))) := (off_same_r o9 e11).trans Off.upd
  have x11 : upd H11 x (.ins (CChainForm K) dx (([(("files" : Str), .int F0.files), (("blocks" : Str), .int F0.blocks), (("alphabet" : Str), .int F0.alphabet)] : List (Str × V)) ++ [(("longest" : Str), .int F0.longest)])) x = some (.ins (CChainForm K) dx [(("files" : Str), .int F0.files), (("blocks" : Str), .int F0.blocks), (("alphabet" : Str), .int F0.alphabet), (("longest" : Str), .int F0.longest)]) := upd_same
  generalize upd H11 x (.ins (CChainForm K) dx (([(("files" : Str), .int F0.files), (("blocks" : Str), .int F0.blocks), (("alphabet" : Str), .int F0.alphabet)] : List (Str × V)) ++ [(("longest" : Str), .int F0.longest)])) = H12 at o11 x11
  refine q_fld (φ := R F0.wiped) (a := x) x11 (ev_is rfl) (ev_rv rfl rfl) T.cChainForm T.nChainForm_wiped (by show 4 < 1000; decide) fun v1 H13 e13 hv1 => ?_
  obtain rfl : v1 = .bl F0.wiped := hv1
  rw [putF_new (by rfl)]
  have o13 : Off x H (upd H13 x (.ins (CChainForm K) dx (([(("files" : Str), .int F0.files), (("blocks" : Str), .int F0.blocks), (("alphabet" : Str), .int F0.alphabet), (("longest" : Str), .int F0.longest)] : List (Str × V)) ++ [(("wiped" : Str), .bl F0.wiped)]))) := (off_same_r o11 e13).trans Off.upd
  have x13 : upd H13 x (.ins (CChainForm K) dx (([(("files" : Str), .int F0.files), (("blocks" : Str), .int F0.blocks), (("alphabet" : Str), .int F0.alphabet), (("longest" : Str), .int F0.longest)] : List (Str × V)) ++ [(("wiped" : Str), .bl F0.wiped)])) x = some (.ins (CChainForm K) dx [(("files" : Str), .int F0.files), (("blocks" : Str), .int F0.blocks), (("alphabet" : Str), .int F0.alphabet), (("longest" : Str), .int F0.longest), (("wiped" : Str), .bl F0.wiped)]) := upd_same
  generalize upd H13 x (.ins (CChainForm K) dx (([(("files" : Str), .int F0.files), (("blocks" : Str), .int F0.blocks), (("alphabet" : Str), .int F0.alphabet), (("longest" : Str), .int F0.longest)] : List (Str × V)) ++ [(("wiped" : Str), .bl F0.wiped)])) = H14 at o13 x13
  refine q_asg (ev_ci (i := 0)) fun v6 H15 e15 hv6 => ?_
  obtain rfl : v6 = .int 0 := hv6
  refine q_for (S := RI ((rg F0.longest.toNat).map fun k => 1 + k)) (n := F0.longest.toNat) (by
      have := evi_range2 (a := 1) (b := F0.longest + 1) (H := H15) (σ := [some (.ref x), some (.int F0.files), some (.int F0.blocks), some (.int F0.alphabet), some (.int F0.longest), some (.bl F0.wiped), some (.int 0), none]) (ta := tCons (tC (.int 1)) (tCons (tOp (rI0 fun i j => .int (i + j)) (tVar 4) (tC (.int 1))) tNil)) (ea_cons ev_ci (ea_cons (ev_ii (ev_rv (x := F0.longest) rfl rfl) ev_ci) ea_nil)) (by omega)
      rw [show (F0.longest + 1 - 1).toNat = F0.longest.toNat by omega] at this
      exact this) (fun H2 i σ' H' => Same H2 H' ∧ ∃ (n : Int) (y : Option V), σ' = [some (.ref x), some (.int F0.files), some (.int F0.blocks), some (.int F0.alphabet), some (.int F0.longest), some (.bl F0.wiped), some (.int n), y] ∧ 0 ≤ n ∧ n ≤ 27 * i) (fun H2 e2 => ⟨Same.refl _, 0, none, rfl, by decide, by decide⟩) (fun H2 i σ' H' p => p.1) ?_ ?_
  · rintro H16 i x1 σ' H' H'' e16 hi ⟨s1, n, y, rfl, n0, n1⟩ s2 ⟨z, hz, hx⟩
    obtain ⟨hk, hz1, hz2⟩ := okK_of ⟨p1, p2, p3, p4⟩ (z := z) (List.mem_of_getElem? hz)
    have hzN : z = ((z.toNat : Nat) : Int) := by omega
    have okc : okComb F0.blocks.toNat z.toNat := ⟨by omega, hk⟩
    have c1 := combI_few okc
    have c2 : (allC z.toNat).length ≤ 4 := by
      rcases hk with e | e <;> rw [e]
      · rw [allC_len.1]; decide
      · rw [allC_len.2]; decide
    refine s_aug (g := fun i j => i + j) (i := 6) (b := ((combI F0.blocks.toNat z.toNat).length : Int) * (2 * ((allC z.toNat).length : Int) + 1)) rfl (ev_iiC (ev_lenL (ev_ls (ev_pn (F0.blocks.toNat, z.toNat) (ea_cons (by rw [← hB]; exact ev_rv rfl rfl) (ea_cons (by rw [← hzN]; exact ev_rv rfl hx) ea_nil)) okc))) (ev_ii (ev_iiC ev_ci (ev_lenL (ev_ls (ev_pn (F0.alphabet, z.toNat) (ea_cons (ev_rv rfl rfl) (ea_cons (by rw [← hzN]; exact ev_rv rfl hx) ea_nil)) ⟨p3, hk⟩))) (.inl (by decide))) ev_ci) (.inl ⟨by omega, by omega⟩)) fun H17 e17 => ⟨(s1.trans s2).trans e17, _, some x1, rfl, ?_, ?_⟩
    · have : 0 ≤ ((combI F0.blocks.toNat z.toNat).length : Int) * (2 * ((allC z.toNat).length : Int) + 1) := Int.mul_nonneg (by omega) (by omega)
      omega
    · have h3 : (combI F0.blocks.toNat z.toNat).length * (2 * (allC z.toNat).length + 1) ≤ 3 * (2 * 4 + 1) := Nat.mul_le_mul c1 (by omega)
      have h4 : ((combI F0.blocks.toNat z.toNat).length : Int) * (2 * ((allC z.toNat).length : Int) + 1) ≤ 27 := Int.le_trans (Int.le_of_eq (by simp)) (Int.ofNat_le.mpr h3)
      show n + _ ≤ 27 * ((i + 1 : Nat) : Int)
      omega
  · rintro H16 σ' H' e16 ⟨s1, n, y, rfl, n0, n1⟩
    have hn : 0 ≤ n ∧ n ≤ 54 := by omega
    refine s_drop (ev_pp (F0.files * n) (ea_cons (ev_iiC (ev_rv (x := F0.files) rfl rfl) (ev_rv (x := n) rfl rfl) (.inl (by omega))) ea_nil) (by show F0.files * n ≤ 400; rcases p1 with e | e <;> rw [e] <;> omega)) fun H17 e17 => ?_
    have sE := ((e15.trans e16).trans s1).trans e17
    exact q _ (off_same_r o13 sE) ⟨dx, _, sE _ _ x13, _, _, rfl, rfl, _, _, rfl, rfl, _, _, rfl, rfl, _, _, rfl, rfl, _, _, rfl, rfl, rfl⟩
end
end RW
set_option Elab.async false
set_option linter.all false
set_option maxRecDepth 100000
set_option maxHeartbeats 4000000
namespace RW
open PySem PySem.Spec PyProof.Rows L2
local macro_rules | `(tactic| walk_at "sm") => `(tactic| first
  | exact Same.refl _
  | assumption
  | exact same_new (by assumption)
  | (refine Same.trans ?_ (by assumption); walk_at "sm")
  | (refine Same.trans ?_ (same_new (by assumption)); walk_at "sm"))
local macro_rules | `(tactic| walk_at "rp") => `(tactic| first
  | assumption
  | exact rfl
  | (refine Rep.mono (tx_of ?_) (by assumption); walk_at "sm")
  | (refine Mo.mo ?_ (by assumption); walk_at "sm"))
local macro_rules | `(tactic| walk_at "ev") => `(tactic| first
  | exact ev_ci
  | exact ev_cs
  | exact ev_cb
  | exact ev_cn
  | (refine @ev_rv _ _ _ _ _ _ _ rfl ?_; walk_at "rp")
  | (refine @ev_var _ _ _ _ _ ?_ rfl ?_; (first | infer_instance | skip); walk_at "rp")
  | (refine ev_ii ?_ ?_ <;> walk_at "ev")
  | (refine ev_ib ?_ ?_ <;> walk_at "ev")
  | (refine ev_eqI ?_ ?_ <;> walk_at "ev")
  | (refine ev_neI ?_ ?_ <;> walk_at "ev")
  | (refine ev_lenT ?_ <;> walk_at "ev")
  | (refine ev_lenL ?_ <;> walk_at "ev")
  | (refine ev_int1 ?_ <;> walk_at "ev")
  | (refine et_test ?_ <;> walk_at "ev")
  | (refine et_B ?_ <;> walk_at "ev")
  | (refine et_not ?_ <;> walk_at "ev")
  | (refine et_or ?_ (fun _ => ?_) <;> walk_at "ev")
  | (refine et_and ?_ (fun _ => ?_) <;> walk_at "ev"))
section
variable {P : Program} {w : World} {K : PySem.W.Frag} {mg : Str → Option Value} {base : Heap}
/-! check_sketch, check_question -/
def sketchB (M : Mach) (sk : List Int) : Bool := decide (sk.length = M.cells.length) && (sk.zip M.cells).all fun p => isMaskI p.1 p.2.2
def szOk (M : Mach) : Prop := ∀ c ∈ M.cells, 0 ≤ c.2 ∧ c.2 ≤ 16
abbrev N_check_sketch : List Str := ["machine", "sketch", "mask", "_", "size"]
theorem sc_check_sketch : FnScope N_check_sketch ["machine", "sketch"] (defScope s_check_sketch) := ⟨rfl, rfl, rfl, by decide +kernel, rfl, by decide +kernel, by decide +kernel⟩
abbrev sp_check_sketch (K : PySem.W.Frag) : Sp := Pp (fun g : Mach × List Int => [MachS K g.1, R g.2]) (fun g => sketchB g.1 g.2 = true ∧ szOk g.1) (fun g => R ())
theorem ok_check_sketch {f : Addr} {fd : FuncData} (T : Txt K mg) (c_is_mask : C8.Cal P w K mg base 1 "is_mask" sp_is_mask []) (F : FunD K "check_sketch" "check_sketch" (defArgs s_check_sketch) (defBody s_check_sketch) (defScope s_check_sketch) [] [] f fd) (hm : mg "check_sketch" = some (.ref f)) : C8.Cal P w K mg base 2 "check_sketch" (sp_check_sketch K) [] := by
  refine cal_of F hm sc_check_sketch (fun _ _ _ _ _ _ us hl => match us, hl with | [_, _], _ => rfl) (fun vs H Q E ⟨g, h, _⟩ => fas_len h) (fun cdv A outer s H vs Q E hr h => ?_)
  obtain ⟨⟨M, sk⟩, h, hp, q⟩ := h
  obtain ⟨a, b, rfl, h1, h2⟩ := fas2 h
  refine ⟨_, (pss_cons (ps_if (pt_cmpR op_ne (pe_callB (k_len (K := K) rfl) (by rfl) T.len PySem.boot_len (pa_cons (pv 1) pa_nil)) (pe_callB (k_len (K := K) rfl) (by rfl) T.len PySem.boot_len (pa_cons (k_fld (K := K) rfl (pv 0) rfl) pa_nil)) (nomark _)) pss_never pss_nil)
      (pss_one (ps_for PassesOwn.never rfl (k_zipA (K := K) rfl (by rfl) T.zip (pa_cons (pv 1) (pa_cons (k_fld (K := K) rfl (pv 0) rfl) pa_nil))) (k_gtup (K := K) (n := 2) rfl rfl (pgs_cons (pg_name (i := 2) sc_check_sketch.nd rfl (by first | exact .inl rfl | exact .inr rfl)) (pgs_cons (k_gtup (K := K) (n := 2) rfl rfl (pgs_cons (pg_name (i := 3) sc_check_sketch.nd rfl (by first | exact .inl rfl | exact .inr rfl)) (pgs_cons (pg_name (i := 4) sc_check_sketch.nd rfl (by first | exact .inl rfl | exact .inr rfl)) pgs_nil))) pgs_nil)))
        (pss_one (ps_if (pt_not (pt_val (C8.pe_c c_is_mask hr (by decide) (by rfl) (pa_cons (pv 2) (pa_cons (pv 4) pa_nil))))) pss_never pss_nil))))), ?_⟩
  obtain ⟨p0, p3⟩ := hp
  have p0 : sketchB M sk = true := p0
  have p3 : szOk M := p3
  have h1 : MachS K M a H := h1
  have h2 : Rep.rp H sk b := h2
  simp only [sketchB, Bool.and_eq_true, decide_eq_true_eq] at p0
  obtain ⟨p1, p2⟩ := p0
  refine q_guard (b := !decide ((sk.length : Int) = (M.cells.length : Int))) (et_test (ev_neI (ev_lenT (ev_rv rfl h2)) (ev_lenT (ev_mcells T (ev_var rfl h1))))) (by rw [decide_eq_true (by rw [p1])]; rfl) fun H1 e1 => ?_
  refine s_for (evi_zipTT (ea_cons (ev_rv rfl (Rep.mono (tx_of e1) h2)) (ea_cons (ev_mcells T (ev_var rfl (Mo.mo e1 h1))) ea_nil))) (fun H2 i σ' H' => Same H2 H' ∧ ∃ y z u, σ' = [some a, some b, y, z, u]) (fun H2 e2 => ⟨Same.refl _, none, none, none, rfl⟩) (fun H2 i σ' H' p => p.1) ?_ ?_
  · rintro H2 i x σ' H' H'' e2 hi ⟨s1, y, z, u, rfl⟩ s2 ⟨p, hz, hx⟩
    have hm := List.mem_of_getElem? hz
    have hpp := List.all_eq_true.mp p2 p hm
    have hsz := p3 p.2 (List.of_mem_zip (show (p.1, p.2) ∈ _ from hm)).2
    refine g_pair hx fun x1 x2 hx1 hx2 => ?_
    refine g_pair hx2 fun x3 x4 hx3 hx4 => ?_
    exact s_guard (b := !isMaskI p.1 p.2.2) (et_not (et_B (ev_pp (p.1, p.2.2) (ea_cons (ev_rv rfl hx1) (ea_cons (ev_rv rfl hx4) ea_nil)) (by show 0 ≤ p.2.2 ∧ p.2.2 ≤ 1000; omega)))) (by rw [hpp]; rfl) fun H3 e3 => ⟨(s1.trans s2).trans e3, some x1, some x3, some x4, rfl⟩
  · rintro H2 σ' H' e2 ⟨s1, _⟩
    exact q _ H' ((e1.trans e2).trans s1) rfl
abbrev N_check_question : List Str := ["machine", "image", "piece", "sketch"]
theorem sc_check_question : FnScope N_check_question ["machine", "image", "piece"] (defScope s_check_question) := ⟨rfl, rfl, rfl, by decide +kernel, rfl, by decide +kernel, by decide +kernel⟩
abbrev sp_check_question (K : PySem.W.Frag) : Sp := Pp (fun g : T3 Mach (List Int) (List (List Int)) => [MachS K g.a, R g.b, Ls g.c]) (fun g => sketchB g.a g.b = true ∧ (∀ s ∈ g.c, sketchB g.a s = true) ∧ szOk g.a) (fun g => R ())
theorem ok_check_question {f : Addr} {fd : FuncData} (T : Txt K mg) (c_check_sketch : C8.Cal P w K mg base 2 "check_sketch" (sp_check_sketch K) []) (F : FunD K "check_question" "check_question" (defArgs s_check_question) (defBody s_check_question) (defScope s_check_question) [] [] f fd) (hm : mg "check_question" = some (.ref f)) : C8.Cal P w K mg base 3 "check_question" (sp_check_question K) [] := by
  refine cal_of F hm sc_check_question (fun _ _ _ _ _ _ us hl => match us, hl with | [_, _, _], _ => rfl) (fun vs H Q E ⟨g, h, _⟩ => fas_len h) (fun cdv A outer s H vs Q E hr h => ?_)
  obtain ⟨⟨M, im, pc⟩, h, hp, q⟩ := h
  obtain ⟨a, b, c, rfl, h1, h2, h3⟩ := fas3 h
  refine ⟨_, (pss_cons (ps_expr (C8.pe_c c_check_sketch hr (by decide) (by rfl) (pa_cons (pv 0) (pa_cons (pv 1) pa_nil))))
      (pss_one (ps_for PassesOwn.never rfl (k_list (K := K) rfl (pv 2)) (pg_name (i := 3) sc_check_question.nd rfl (by first | exact .inl rfl | exact .inr rfl))
        (pss_one (ps_expr (C8.pe_c c_check_sketch hr (by decide) (by rfl) (pa_cons (pv 0) (pa_cons (pv 3) pa_nil)))))))), ?_⟩
  obtain ⟨p1, p2, p3⟩ := hp
  have p1 : sketchB M im = true := p1
  have p2 : ∀ s ∈ pc, sketchB M s = true := p2
  have p3 : szOk M := p3
  have h1 : MachS K M a H := h1
  have h3 : Ls pc c H := h3
  refine q_drop (ev_pp (M, im) (ea_cons (ev_var rfl h1) (ea_cons (ev_rv rfl h2) ea_nil)) ⟨p1, p3⟩) fun H1 e1 => ?_
  refine s_for (evi_list (ev_var rfl (Mo.mo e1 h3))) (fun H2 i σ' H' => Same H2 H' ∧ ∃ y, σ' = [some a, some b, some c, y]) (fun H2 e2 => ⟨Same.refl _, none, rfl⟩) (fun H2 i σ' H' p => p.1) ?_ ?_
  · rintro H2 i x σ' H' H'' e2 hi ⟨s1, y, rfl⟩ s2 ⟨p, hz, hx⟩
    exact s_drop (ev_pp (M, p) (ea_cons (ev_var rfl (Mo.mo (((e1.trans e2).trans s1).trans s2) h1)) (ea_cons (ev_rv rfl hx) ea_nil)) ⟨p2 p (List.mem_of_getElem? hz), p3⟩) fun H3 e3 => ⟨(s1.trans s2).trans e3, some x, rfl⟩
  · rintro H2 σ' H' e2 ⟨s1, _⟩
    exact q _ H' ((e1.trans e2).trans s1) rfl
/-! meet, _split, without -/
def meetI (a b : List Int) : Option (List Int) := if (a.zip b).all (fun p => decide (Builtin.bitAnd p.1 p.2 ≠ 0)) = true then some ((a.zip b).map fun p => Builtin.bitAnd p.1 p.2) else none
theorem foldl_snoc {α β : Type} (f : β → α) : ∀ (zs : List β) (c : List α), zs.foldl (fun c p => c ++ [f p]) c = c ++ zs.map f
  | [], c => by simp
  | z :: r, c => by rw [List.foldl_cons, foldl_snoc f r, List.map_cons, List.append_assoc]; rfl
abbrev N_meet : List Str := ["a", "b", "masks", "left", "right"]
theorem sc_meet : FnScope N_meet ["a", "b"] (defScope s_meet) := ⟨rfl, rfl, rfl, by decide +kernel, rfl, by decide +kernel, by decide +kernel⟩
abbrev sp_meet : Sp := Pp (fun g : List Int × List Int => [R g.1, R g.2]) (fun g => g.1.length ≤ 1000) (fun g => R (meetI g.1 g.2))
theorem ok_meet {f : Addr} {fd : FuncData} (T : Txt K mg)  (F : FunD K "meet" "meet" (defArgs s_meet) (defBody s_meet) (defScope s_meet) [] [] f fd) (hm : mg "meet" = some (.ref f)) : C8.Cal P w K mg base 1 "meet" sp_meet [] := by
  refine cal_of F hm sc_meet (fun _ _ _ _ _ _ us hl => match us, hl with | [_, _], _ => rfl) (fun vs H Q E ⟨g, h, _⟩ => fas_len h) (fun cdv A outer s H vs Q E hr h => ?_)
  obtain ⟨⟨xs, ys⟩, h, hp, q⟩ := h
  obtain ⟨a, b, rfl, h1, h2⟩ := fas2 h
  refine ⟨_, (pss_cons (ps_set (i := 2) sc_meet.nd rfl (by first | exact .inl rfl | exact .inr rfl) (pe_lst pa_nil))
      (pss_cons (ps_for PassesOwn.never rfl (k_zipA (K := K) rfl (by rfl) T.zip (pa_cons (pv 0) (pa_cons (pv 1) pa_nil))) (k_gtup (K := K) (n := 2) rfl rfl (pgs_cons (pg_name (i := 3) sc_meet.nd rfl (by first | exact .inl rfl | exact .inr rfl)) (pgs_cons (pg_name (i := 4) sc_meet.nd rfl (by first | exact .inl rfl | exact .inr rfl)) pgs_nil)))
        (pss_cons (ps_if (pt_cmpR op_eq (pe_op op_and (pv 3) (pv 4)) pe_int (nomark _)) (pss_one (ps_ret pe_non)) pss_nil)
        (pss_one (ps_expr (pe_bm PySem.F.plainAttrs_list PySem.F.slot_list_append PySem.F.type_list_append mt_append (pv 2) (pa_cons (pe_op op_and (pv 3) (pv 4)) pa_nil))))))
      (pss_one (ps_ret (pe_callTy (k_tuple (K := K) rfl) (by rfl) T.tuple (by decide +kernel) (pa_cons (pv 2) pa_nil)))))), ?_⟩
  have hp : xs.length ≤ 1000 := hp
  have h1 : Rep.rp H xs a := h1
  have h2 : Rep.rp H ys b := h2
  refine q_asg (ev_nl0 (α := Int)) fun v1 H1 e1 hv1 => ?_
  obtain ⟨l, rfl, n1, a1⟩ := at_of hv1
  have key : ∀ {n : Option V}, L2.start N_meet [a, b] = [some a, some b, none, none, none] := fun {n} => rfl
  refine q_forAcc (fun (c : List Int) (p : Int × Int) => c ++ [Builtin.bitAnd p.1 p.2]) [] (fun c σ' H' => (At l c H' ∧ ∀ x ∈ c, x ≠ 0) ∧ ∃ y z, σ' = [some a, some b, some (.ref l), y, z]) (evg_zipTT a1.ll (ea_cons (ev_rv rfl (Rep.mono (tx_of e1) h1)) (ea_cons (ev_rv rfl (Rep.mono (tx_of e1) h2)) ea_nil))) (fun H2 e2 => ⟨⟨a1.same e2, by simp⟩, none, none, rfl⟩) (fun c σ' H' H'' p e => ⟨⟨p.1.1.same e, p.1.2⟩, p.2⟩) ?_ ?_
  · rintro pre p suf x σ' H2 D' hzs ⟨⟨A2, z2⟩, y, z, rfl⟩ o2 hx kk hrt
    rw [foldl_snoc (fun p : Int × Int => Builtin.bitAnd p.1 p.2), List.nil_append] at A2 z2 kk
    have hl : pre.length ≤ 1000 := by
      have h5 := congrArg List.length hzs
      rw [List.length_append, List.length_cons] at h5
      have h6 : (xs.zip ys).length ≤ xs.length := by rw [List.length_zip]; exact Nat.min_le_left _ _
      omega
    refine g_pair hx fun x1 x2 hx1 hx2 => ?_
    refine q_when (b := decide (Builtin.bitAnd p.1 p.2 = 0)) (et_test (ev_eqI (ev_ii (ev_rv rfl hx1) (ev_rv rfl hx2)) ev_ci)) (fun e H3 e3 => ?_) fun e H3 e3 => ?_
    · refine s_ret ev_cn fun v H4 e4 hv => ?_
      rw [hrt]
      have sA : Same H H2 := same_off e1 o2 (fun c hc => by rw [show c = l from by simpa using hc]; exact n1)
      refine q v H4 ((sA.trans e3).trans e4) ?_
      have e5 : meetI xs ys = none := by
        unfold meetI
        rw [if_neg]
        intro hall
        have := List.all_eq_true.mp hall p (by rw [hzs]; exact List.mem_append_right _ List.mem_cons_self)
        exact (of_decide_eq_true this) (of_decide_eq_true e)
      show Rep.rp H4 (meetI xs ys) v
      rw [e5]
      exact hv
    · refine s_appA (A2.same e3) (by rw [List.length_map, sizeLine_eq]; omega) (ev_is rfl) (ev_ii (ev_rv rfl (Rep.mono (tx_of e3) hx1)) (ev_rv rfl (Rep.mono (tx_of e3) hx2))) fun H4 o4 at4 => (kk _ H4 ((OffL.of e3).trans o4) ⟨⟨at4, fun y hy => ?_⟩, some x1, some x2, rfl⟩).1
      rcases List.mem_append.mp hy with hy | hy
      · exact z2 y hy
      · rw [show y = Builtin.bitAnd p.1 p.2 from by simpa using hy]
        exact of_decide_eq_false e
  · rintro σ' H2 o2 ⟨⟨A2, z2⟩, y, z, rfl⟩
    rw [foldl_snoc (fun p : Int × Int => Builtin.bitAnd p.1 p.2), List.nil_append] at A2 z2
    have sA : Same H H2 := same_off e1 o2 (fun c hc => by rw [show c = l from by simpa using hc]; exact n1)
    refine s_ret (ev_tupL (ev_at A2 rfl)) fun v H3 e3 hv => q v H3 (sA.trans e3) ?_
    have e5 : meetI xs ys = some ((xs.zip ys).map fun p => Builtin.bitAnd p.1 p.2) := by
      unfold meetI
      rw [if_pos]
      refine List.all_eq_true.mpr fun p hp => decide_eq_true (z2 _ (List.mem_map.mpr ⟨p, hp, rfl⟩))
    show Rep.rp H3 (meetI xs ys) v
    rw [e5]
    exact ⟨fun z => (by obtain ⟨a, vs, e, _⟩ := hv; rw [z] at e; cases e), hv⟩
def restI (m : List Int) (p : Int × Int) : Int := Builtin.bitXor p.2 (m.getD p.1.toNat 0)
def partI (a m : List Int) (p : Int × Int) : List Int := m.take p.1.toNat ++ [restI m p] ++ a.drop (p.1 + 1).toNat
def splitI (a b : List Int) : List (List Int) := match meetI a b with
  | none => [a]
  | some m => (((rg a.length).zip a).filter fun p => decide (restI m p ≠ 0)).map (partI a m)
theorem foldl_filter {α β : Type} (b : β → Bool) (f : β → α) : ∀ (zs : List β) (c : List α), zs.foldl (fun c p => if b p = true then c ++ [f p] else c) c = c ++ (zs.filter b).map f
  | [], c => by simp
  | z :: r, c => by
    rw [List.foldl_cons, foldl_filter b f r, List.filter_cons]
    cases h : b z with
    | true => rw [if_pos rfl, if_pos rfl, List.map_cons, List.append_assoc]; rfl
    | false => rw [if_neg (by decide), if_neg (by decide)]
theorem meetI_len {a b m : List Int} (h : meetI a b = some m) (hl : a.length = b.length) : m.length = a.length := by
  unfold meetI at h
  split at h
  · cases h
    rw [List.length_map, List.length_zip]
    omega
  · cases h
theorem ev_some {α : Type} [Rep α] {te : TE} {σ : L2.St} {H : Hp} {o : Option α} {x : α} (h : Ev te σ H (R o)) (e : o = some x) : Ev te σ H (R x) := h.imp fun v H' hv => by
  subst e
  exact hv.2
abbrev N_split : List Str := ["a", "b", "both", "parts", "cell", "mask", "rest"]
theorem sc_split : FnScope N_split ["a", "b"] (defScope s_split) := ⟨rfl, rfl, rfl, by decide +kernel, rfl, by decide +kernel, by decide +kernel⟩
abbrev sp_split : Sp := Pn (fun g : List Int × List Int => [R g.1, R g.2]) (fun g => g.1.length ≤ 1000 ∧ g.1.length = g.2.length) (fun g H => NLs H (splitI g.1 g.2))
theorem ok_split {f : Addr} {fd : FuncData} (T : Txt K mg) (c_meet : C8.Cal P w K mg base 1 "meet" sp_meet []) (F : FunD K "_split" "_split" (defArgs s_split) (defBody s_split) (defScope s_split) [] [] f fd) (hm : mg "_split" = some (.ref f)) : C8.Cal P w K mg base 2 "_split" sp_split [] := by
  refine cal_of F hm sc_split (fun _ _ _ _ _ _ us hl => match us, hl with | [_, _], _ => rfl) (fun vs H Q E ⟨g, h, _⟩ => fas_len h) (fun cdv A outer s H vs Q E hr h => ?_)
  obtain ⟨⟨xs, ys⟩, h, hp, q⟩ := h
  obtain ⟨a, b, rfl, h1, h2⟩ := fas2 h
  refine ⟨_, (pss_cons (ps_set (i := 2) sc_split.nd rfl (by first | exact .inl rfl | exact .inr rfl) (C8.pe_c c_meet hr (by decide) (by rfl) (pa_cons (pv 0) (pa_cons (pv 1) pa_nil))))
      (pss_cons (ps_if (pt_cmpR op_isN (pv 2) pe_non (nomark _)) (pss_one (ps_ret (pe_lst (pa_cons (pv 0) pa_nil)))) pss_nil)
      (pss_cons (ps_set (i := 3) sc_split.nd rfl (by first | exact .inl rfl | exact .inr rfl) (pe_lst pa_nil))
      (pss_cons (ps_for PassesOwn.never rfl (k_enumT (K := K) rfl (by rfl) T.enumerate (pa_cons (pv 0) pa_nil)) (k_gtup (K := K) (n := 2) rfl rfl (pgs_cons (pg_name (i := 4) sc_split.nd rfl (by first | exact .inl rfl | exact .inr rfl)) (pgs_cons (pg_name (i := 5) sc_split.nd rfl (by first | exact .inl rfl | exact .inr rfl)) pgs_nil)))
        (pss_cons (ps_set (i := 6) sc_split.nd rfl (by first | exact .inl rfl | exact .inr rfl) (pe_op op_xor (pv 5) (pe_ix (k_ixT (K := K) rfl) (pv 2) (pv 4) (fun _ _ => rfl))))
        (pss_one (ps_if (pt_cmpR op_ne (pv 6) pe_int (nomark _)) (pss_one (ps_expr (pe_bm PySem.F.plainAttrs_list PySem.F.slot_list_append PySem.F.type_list_append mt_append (pv 3) (pa_cons (pe_op (k_catA (K := K) rfl) (pe_op (k_catA (K := K) rfl) (pe_slice (k_slT (K := K) rfl) (pv 2) po_none (po_some (pv 4))) (pe_tup (pa_cons (pv 6) pa_nil))) (pe_slice (k_slT (K := K) rfl) (pv 0) (po_some (pe_op op_add (pv 4) pe_int)) po_none)) pa_nil)))) pss_nil))))
      (pss_one (ps_ret (pv 3))))))), ?_⟩
  obtain ⟨p1, p2⟩ := hp
  have p1 : xs.length ≤ 1000 := p1
  have p2 : xs.length = ys.length := p2
  have h1 : Rep.rp H xs a := h1
  have h2 : Rep.rp H ys b := h2
  refine q_asg (ev_pp (xs, ys) (ea_cons (ev_rv rfl h1) (ea_cons (ev_rv rfl h2) ea_nil)) p1) fun v1 H1 e1 hv1 => ?_
  have hv1 : Rep.rp H1 (meetI xs ys) v1 := hv1
  refine q_when (b := (meetI xs ys).isNone) (et_test (ev_isN (ev_rv rfl hv1))) (fun e H2 e2 => ?_) fun e H2 e2 => ?_
  · refine s_ret (ev_nl1 (ev_rv rfl (Rep.mono (tx_of (e1.trans e2)) h1))) fun v H3 e3 hv => q v H3 ((e1.trans e2).trans e3) ?_
    have e5 : splitI xs ys = [xs] := by
      unfold splitI
      rw [Option.isNone_iff_eq_none.mp e]
    show NLs H (splitI xs ys) v H3
    rw [e5]
    exact hv.back (e1.trans e2)
  · obtain ⟨m, hm⟩ : ∃ m, meetI xs ys = some m := by
      cases hh : meetI xs ys with
      | none => rw [hh] at e; cases e
      | some m => exact ⟨m, rfl⟩
    have ml := meetI_len hm p2
    rw [hm] at hv1
    have hv1 : Rep.rp H1 m v1 := hv1.2
    have s2 := e1.trans e2
    refine q_asg (ev_nl0 (α := List Int)) fun v3 H3 e3 hv3 => ?_
    obtain ⟨l, rfl, n1, a1⟩ := at_of hv3
    have g1 := Rep.mono (tx_of (s2.trans e3)) h1
    have gm := Rep.mono (tx_of (e2.trans e3)) hv1
    refine q_forAcc (fun (c : List (List Int)) (p : Int × Int) => if decide (restI m p ≠ 0) = true then c ++ [partI xs m p] else c) [] (fun c σ' H' => At l c H' ∧ ∃ y z u, σ' = [some a, some b, some v1, some (.ref l), y, z, u]) (evg_enumT a1.ll (ea_cons (ev_rv rfl g1) ea_nil)) (fun H4 e4 => ⟨a1.same e4, none, none, none, rfl⟩) (fun c σ' H' H'' p e => ⟨p.1.same e, p.2⟩) ?_ ?_
    · rintro pre p suf x σ' H4 D' hzs ⟨A4, y, z, u, rfl⟩ o4 hx kk hrt
      have hpm : p ∈ (rg xs.length).zip xs := by rw [hzs]; exact List.mem_append_right _ List.mem_cons_self
      have hp0 := rg_mem (List.of_mem_zip (show (p.1, p.2) ∈ _ from hpm)).1
      have hl : (pre.foldl (fun (c : List (List Int)) (p : Int × Int) => if decide (restI m p ≠ 0) = true then c ++ [partI xs m p] else c) []).length ≤ 1000 := by
        rw [foldl_filter, List.nil_append, List.length_map]
        have h5 := congrArg List.length hzs
        rw [List.length_append, List.length_cons, List.length_zip, rg_len] at h5
        have h6 := List.length_filter_le (fun p => decide (restI m p ≠ 0)) pre
        omega
      have k1 := Rep.mono (tx_off a1.ll o4) g1
      have km := Rep.mono (tx_off a1.ll o4) gm
      generalize pre.foldl (fun (c : List (List Int)) (p : Int × Int) => if decide (restI m p ≠ 0) = true then c ++ [partI xs m p] else c) [] = c0 at A4 kk hl
      refine g_pair hx fun x1 x2 hx1 hx2 => ?_
      have hin : p.1.toNat < m.length := by omega
      refine q_asg (Ev.to (y := restI m p) (ev_ii (g := fun i j => Builtin.bitXor i j) (ev_rv rfl hx2) (ev_ixT (x := m.getD p.1.toNat 0) (ev_rv rfl km) (ev_rv rfl hx1) (atI_in hp0.1 (by omega)))) rfl) fun v6 H5 e5 hv6 => ?_
      have t1 := Rep.mono (tx_of e5) k1
      have tm := Rep.mono (tx_of e5) km
      have tx1 := Rep.mono (tx_of e5) hx1
      refine s_when (b := decide (restI m p ≠ 0)) (EvT.to (et_test (ev_neI (ev_rv rfl hv6) ev_ci)) (by simp)) (fun eb H6 e6 => ?_) fun eb H6 e6 => ?_
      · rw [eb] at kk
        have i0 : p.1 = ((p.1.toNat : Nat) : Int) := by omega
        have i1 : p.1 + 1 = (((p.1 + 1).toNat : Nat) : Int) := by omega
        have ex1 : Ev (tVar 4) [some a, some b, some v1, some (.ref l), some x1, some x2, some v6] H6 (R p.1) := ev_rv rfl (Rep.mono (tx_of e6) tx1)
        refine s_appA ((A4.same e5).same e6) (by rw [sizeLine_eq]; omega) (ev_is rfl) (Ev.to (y := partI xs m p) (ev_catT (ev_catT (ev_slT (lo := none) (hi := some p.1) (ev_rv rfl (Rep.mono (tx_of e6) tm)) eo_none (eo_some ex1)) (ev_tl1 (ev_rv rfl (Rep.mono (tx_of e6) hv6))) ?_) (ev_slT (lo := some (p.1 + 1)) (hi := none) (ev_rv rfl (Rep.mono (tx_of e6) t1)) (eo_some (ev_ii ex1 ev_ci)) eo_none) ?_) ?_) fun H7 o7 at7 => (kk _ H7 ((OffL.of (e5.trans e6)).trans o7) ⟨by rw [if_pos rfl]; exact at7, some x1, some x2, some v6, rfl⟩).1
        · rw [i0, cutX_to, List.length_take, List.length_singleton, sizeLine_eq]; omega
        · rw [i1, cutX_from, i0, cutX_to, List.length_append, List.length_take, List.length_drop, List.length_singleton, sizeLine_eq]; omega
        · rw [i1, cutX_from, i0, cutX_to]
          unfold partI
          rw [← i0]
      · rw [eb] at kk
        exact (kk _ H6 (OffL.of (e5.trans e6)) ⟨by rw [if_neg (by decide)]; exact (A4.same e5).same e6, some x1, some x2, some v6, rfl⟩).1
    · rintro σ' H4 o4 ⟨A4, y, z, u, rfl⟩
      rw [foldl_filter, List.nil_append] at A4
      have sA : Same H H4 := same_off (s2.trans e3) o4 (fun c hc => by rw [show c = l from by simpa using hc]; exact s2.free n1)
      have e5 : splitI xs ys = (((rg xs.length).zip xs).filter fun p => decide (restI m p ≠ 0)).map (partI xs m) := by
        unfold splitI
        rw [hm]
      refine s_ret (φ := NLs H (splitI xs ys)) (ev_var rfl ⟨l, ?_⟩) fun v6 H6 e6 hv6 => q v6 H6 (sA.trans e6) hv6
      rw [e5]
      obtain ⟨vs, h5, r5⟩ := A4
      exact ⟨vs, rfl, s2.free n1, h5, r5⟩
end
end RW
set_option Elab.async false
set_option linter.all false
set_option maxRecDepth 100000
set_option maxHeartbeats 4000000
namespace RW
open PySem PySem.Spec PyProof.Rows L2
local macro_rules | `(tactic| walk_at "sm") => `(tactic| first
  | exact Same.refl _
  | assumption
  | exact same_new (by assumption)
  | (refine Same.trans ?_ (by assumption); walk_at "sm")
  | (refine Same.trans ?_ (same_new (by assumption)); walk_at "sm"))
local macro_rules | `(tactic| walk_at "rp") => `(tactic| first
  | assumption
  | exact rfl
  | (refine Rep.mono (tx_of ?_) (by assumption); walk_at "sm")
  | (refine Mo.mo ?_ (by assumption); walk_at "sm"))
local macro_rules | `(tactic| walk_at "ev") => `(tactic| first
  | exact ev_ci
  | exact ev_cs
  | exact ev_cb
  | exact ev_cn
  | (refine @ev_rv _ _ _ _ _ _ _ rfl ?_; walk_at "rp")
  | (refine @ev_var _ _ _ _ _ ?_ rfl ?_; (first | infer_instance | skip); walk_at "rp")
  | (refine ev_ii ?_ ?_ <;> walk_at "ev")
  | (refine ev_ib ?_ ?_ <;> walk_at "ev")
  | (refine ev_eqI ?_ ?_ <;> walk_at "ev")
  | (refine ev_neI ?_ ?_ <;> walk_at "ev")
  | (refine ev_lenT ?_ <;> walk_at "ev")
  | (refine ev_lenL ?_ <;> walk_at "ev")
  | (refine ev_int1 ?_ <;> walk_at "ev")
  | (refine et_test ?_ <;> walk_at "ev")
  | (refine et_B ?_ <;> walk_at "ev")
  | (refine et_not ?_ <;> walk_at "ev")
  | (refine et_or ?_ (fun _ => ?_) <;> walk_at "ev")
  | (refine et_and ?_ (fun _ => ?_) <;> walk_at "ev"))
section
variable {σ : L2.St} {H : Hp} {wi wi1 : TI} {vs vs1 : List Nat} {β γ : Type} [Rep β] [Rep γ] {zs : List β} {j l : Nat}
theorem flat_take {F : β → List γ} {i : Nat} {z : β} (h : zs[i]? = some z) : (zs.take (i + 1)).flatMap F = (zs.take i).flatMap F ++ F z := by
  rw [take_snoc h, List.flatMap_append]
  simp
theorem flat_le {F : β → List γ} {i : Nat} : ((zs.take i).flatMap F).length ≤ (zs.flatMap F).length := by
  have : zs.flatMap F = (zs.take i).flatMap F ++ (zs.drop i).flatMap F := by rw [← List.flatMap_append, List.take_append_drop]
  rw [this, List.length_append]
  omega
/-- [y for x in .. for y in F(x)] -/
theorem ev_lc2f (F : β → List γ) (h : EvI wi σ H zs.length (RI zs)) (hb : (zs.flatMap F).length ≤ sizeLine) (hw : ∀ x, wipe ((wipe σ vs).set j (some x)) vs = wipe σ vs)
    (hw1 : ∀ x y, wipe ((wipe ((wipe σ vs).set j (some x)) vs1).set l (some y)) vs1 = wipe ((wipe σ vs).set j (some x)) vs1) (hg : ∀ x y, ((wipe ((wipe σ vs).set j (some x)) vs1).set l (some y))[l]? = some (some y))
    (hi : ∀ z x Hc ls, z ∈ zs → Same H Hc → Rep.rp Hc z x → Ll ls Hc → EvG (OffL ls) wi1 ((wipe σ vs).set j (some x)) Hc (F z).length (RI (F z))) : Ev (tLc2 wi (gName j) tYes wi1 (gName l) tYes (tVar l) vs vs1) σ H (NLs H (zs.flatMap F)) := fun H1 e Q q => by
  refine h H1 e _ fun J H2 e2 w D hD => ⟨fun i m H' => m = zs.length - i ∧ i ≤ zs.length ∧ Same H2 H' ∧ ∃ us, H' D = some (.lst us) ∧ Rps H' ((zs.take i).flatMap F) us, ⟨zs.length, by simp, Nat.zero_le _, same_new hD, [], upd_same, .nil⟩, ?_⟩
  rintro i m H' ⟨rfl, hin, s1, us, hu, ru⟩
  by_cases hlt : i < zs.length
  · refine .inr ⟨w.goes i H' hlt s1, fun Hn => i + 1 ≤ zs.length ∧ Same H2 Hn ∧ ∃ us, Hn D = some (.lst us) ∧ Rps Hn ((zs.take (i + 1)).flatMap F) us, fun Hn p => ⟨zs.length - (i + 1), by omega, rfl, p⟩, fun x H'' y => ?_⟩
    obtain ⟨s2, z, hz, hx⟩ := w.yields i H' x H'' hlt s1 y
    refine ⟨hw x, et_yes.go fun Hy ey => iteT ?_⟩
    have s2 := s2.trans ey
    have hx := Rep.mono (tx_of ey) hx
    have sA : Same H2 Hy := s1.trans s2
    have hu2 := s2 _ _ hu
    refine hi z x Hy [D] (List.mem_of_getElem? hz) ((e.trans e2).trans sA) hx (ll1 hu2) Hy (Same.refl _) _ fun J1 H4 e4 w1 => ⟨fun jj k Hc => k = (F z).length - jj ∧ jj ≤ (F z).length ∧ OffL [D] H4 Hc ∧ Same H2 Hc ∧ ∃ us, Hc D = some (.lst us) ∧ Rps Hc ((zs.take i).flatMap F ++ (F z).take jj) us, ⟨(F z).length, by simp, Nat.zero_le _, OffL.refl _ _, sA.trans e4, us, e4 _ _ hu2, by rw [List.take_zero, List.append_nil]; exact Rps.mono (tx_of (s2.trans e4)) ru⟩, ?_⟩
    rintro jj k Hc ⟨rfl, hjn, o1, s3, us3, hu3, ru3⟩
    by_cases hjl : jj < (F z).length
    · refine .inr ⟨w1.goes jj Hc hjl o1, fun Hn => jj + 1 ≤ (F z).length ∧ OffL [D] H4 Hn ∧ Same H2 Hn ∧ ∃ us, Hn D = some (.lst us) ∧ Rps Hn ((zs.take i).flatMap F ++ (F z).take (jj + 1)) us, fun Hn p => ⟨(F z).length - (jj + 1), by omega, rfl, p⟩, fun x1 H5 y1 => ?_⟩
      obtain ⟨s5, z1, hz1, hx1⟩ := w1.yields jj Hc x1 H5 hjl o1 y1
      refine ⟨hw1 x x1, et_yes.go fun Hz ez => iteT ⟨x1, hg x x1, us3, (s5.trans ez) _ _ hu3, ?_, ?_⟩⟩
      · have h1 := ru3.length
        rw [List.length_append, List.length_take] at h1
        have h2 := flat_le (zs := zs) (F := F) (i := i + 1)
        rw [flat_take hz, List.length_append] at h2
        omega
      · have s5 := s5.trans ez
        have hx1 := Rep.mono (tx_of ez) hx1
        have hu5 := s5 _ _ hu3
        have t := tx_lst (o := .lst (us3 ++ [x1])) hu5
        refine ⟨hjl, (o1.trans (OffL.of s5)).trans (OffL.upd (List.mem_singleton.mpr rfl)), same_mut (s3.trans s5) hD, _, upd_same, ?_⟩
        rw [take_snoc hz1, ← List.append_assoc]
        exact Rps.mono t ((Rps.mono (tx_of s5) ru3).snoc hx1)
    · have ej : jj = (F z).length := by omega
      subst ej
      refine .inl ⟨w1.stops Hc o1, hlt, s3, us3, hu3, ?_⟩
      rw [flat_take hz]
      rw [List.take_length] at ru3
      exact ru3
  · have ei : i = zs.length := by omega
    subst ei
    refine .inl ⟨w.stops H' s1, ?_⟩
    rw [List.take_length] at ru
    exact q _ H' (e2.trans s1) ⟨D, us, rfl, (e.trans e2).free hD, hu, ru⟩
end
section
variable {P : Program} {w : World} {K : PySem.W.Frag} {mg : Str → Option Value} {base : Heap}
def withoutI (a : List Int) (pc : List (List Int)) : List (List Int) := pc.foldl (fun ps s => ps.flatMap fun o => splitI o s) [a]
theorem splitI_len {n : Nat} {a b : List Int} (h1 : a.length = n) (h2 : b.length = n) (hn : n ≤ 24) : (splitI a b).length ≤ 24 ∧ ∀ p ∈ splitI a b, p.length = n := by
  unfold splitI
  split
  · exact ⟨by show 1 ≤ 24; decide, fun p hp => by rw [show p = a from by simpa using hp]; exact h1⟩
  · rename_i m hm
    have ml := meetI_len hm (h1.trans h2.symm)
    refine ⟨?_, fun p hp => ?_⟩
    · rw [List.length_map]
      have h5 := List.length_filter_le (fun p => decide (restI m p ≠ 0)) ((rg a.length).zip a)
      rw [List.length_zip, rg_len] at h5
      omega
    · obtain ⟨⟨i, v⟩, hz, rfl⟩ := List.mem_map.mp hp
      have hz2 := rg_mem (List.of_mem_zip (List.mem_filter.mp hz).1).1
      show (m.take i.toNat ++ [_] ++ a.drop (i + 1).toNat).length = n
      rw [List.length_append, List.length_append, List.length_take, List.length_singleton, List.length_drop]
      omega
theorem flat_split {n : Nat} {s : List Int} (hs : s.length = n) (hn : n ≤ 24) : ∀ (ps : List (List Int)), (∀ p ∈ ps, p.length = n) → (ps.flatMap fun o => splitI o s).length ≤ ps.length * 24 ∧ ∀ p ∈ ps.flatMap fun o => splitI o s, p.length = n
  | [], _ => by simp
  | o :: r, h => by
    have h1 := flat_split hs hn r fun p hp => h p (List.mem_cons_of_mem _ hp)
    have h2 := splitI_len (h o List.mem_cons_self) hs hn
    rw [List.flatMap_cons, List.length_append, List.length_cons, Nat.succ_mul]
    refine ⟨by omega, fun p hp => ?_⟩
    rcases List.mem_append.mp hp with hp | hp
    · exact h2.2 p hp
    · exact h1.2 p hp
theorem without_inv {n : Nat} (hn : n ≤ 24) : ∀ (pc : List (List Int)) (ps : List (List Int)), (∀ s ∈ pc, s.length = n) → (∀ p ∈ ps, p.length = n) → (pc.foldl (fun ps s => ps.flatMap fun o => splitI o s) ps).length ≤ ps.length * 24 ^ pc.length ∧ ∀ p ∈ pc.foldl (fun ps s => ps.flatMap fun o => splitI o s) ps, p.length = n
  | [], ps, _, h => ⟨by simp, h⟩
  | s :: r, ps, hs, h => by
    have h1 := flat_split (hs s List.mem_cons_self) hn ps h
    have h2 := without_inv hn r _ (fun s hs' => hs s (List.mem_cons_of_mem _ hs')) h1.2
    refine ⟨?_, h2.2⟩
    rw [List.foldl_cons, List.length_cons, Nat.pow_succ]
    refine Nat.le_trans h2.1 ?_
    rw [show ps.length * (24 ^ r.length * 24) = ps.length * 24 * 24 ^ r.length by rw [Nat.mul_assoc, Nat.mul_comm 24]]
    exact Nat.mul_le_mul_right _ h1.1
abbrev N_without : List Str := ["a", "piece", "parts", "sketch", "other", "part"]
theorem sc_without : FnScope N_without ["a", "piece"] (defScope s_without) := ⟨rfl, rfl, rfl, by decide +kernel, rfl, by decide +kernel, by decide +kernel⟩
abbrev sp_without : Sp := Pn (fun g : List Int × List (List Int) => [R g.1, Ls g.2]) (fun g => g.1.length ≤ 24 ∧ g.2.length ≤ 4 ∧ ∀ s ∈ g.2, s.length = g.1.length) (fun g H => NLs H (withoutI g.1 g.2))
theorem ok_without {f : Addr} {fd : FuncData} (T : Txt K mg) (c_split : C8.Cal P w K mg base 2 "_split" sp_split []) (F : FunD K "without" "without" (defArgs s_without) (defBody s_without) (defScope s_without) [] [] f fd) (hm : mg "without" = some (.ref f)) : C8.Cal P w K mg base 3 "without" sp_without [] := by
  refine cal_of F hm sc_without (fun _ _ _ _ _ _ us hl => match us, hl with | [_, _], _ => rfl) (fun vs H Q E ⟨g, h, _⟩ => fas_len h) (fun cdv A outer s H vs Q E hr h => ?_)
  obtain ⟨⟨xs, pc⟩, h, hp, q⟩ := h
  obtain ⟨a, b, rfl, h1, h2⟩ := fas2 h
  refine ⟨_, (pss_cons (ps_set (i := 2) sc_without.nd rfl (by first | exact .inl rfl | exact .inr rfl) (pe_lst (pa_cons (pv 0) pa_nil)))
      (pss_cons (ps_for PassesOwn.never rfl (k_list (K := K) rfl (pv 1)) (pg_name (i := 3) sc_without.nd rfl (by first | exact .inl rfl | exact .inr rfl))
        (pss_one (ps_setLc2 (i := 2) (own := [("other", 4), ("part", 5)]) (vs1 := [5]) rfl sc_without.nd rfl rfl (sw_true rfl rfl rfl (by decide +kernel)) (k_list (K := K) rfl (pv 2)) (blkOk_by (N := N_without) (sc := defScope s_without) (by decide +kernel)) (by decide) (fun _ _ _ _ _ => (pg_name (i := 4) sc_without.nd rfl (by first | exact .inl rfl | exact .inr rfl))) (fun _ _ _ _ _ => pts_nil) (fun _ _ _ _ _ => (k_list (K := K) rfl (C8.pe_c c_split hr (by decide) (by rfl) (pa_cons (pv 4) (pa_cons (pv 3) pa_nil))))) (fun _ _ _ _ _ => (pg_name (i := 5) sc_without.nd rfl (by first | exact .inl rfl | exact .inr rfl))) (fun _ _ _ _ _ => pts_nil) (fun _ _ _ _ _ => (pv 5)))))
      (pss_one (ps_ret (pv 2))))), ?_⟩
  obtain ⟨p1, p2, p3⟩ := hp
  have p1 : xs.length ≤ 24 := p1
  have p2 : pc.length ≤ 4 := p2
  have p3 : ∀ s ∈ pc, s.length = xs.length := p3
  have h2 : Ls pc b H := h2
  refine q_asg (ev_nl1 (ev_rv rfl h1)) fun v1 H1 e1 hv1 => ?_
  refine q_for (evi_list (ev_var rfl (Mo.mo e1 h2))) (fun H2 i σ' H' => Same H2 H' ∧ ∃ u y, σ' = [some a, some b, some u, y, none, none] ∧ NLs H ((pc.take i).foldl (fun ps s => ps.flatMap fun o => splitI o s) [xs]) u H') (fun H2 e2 => ⟨Same.refl _, v1, none, rfl, Mo.mo e2 hv1⟩) (fun H2 i σ' H' p => p.1) ?_ ?_
  · rintro H2 i x σ' H' H'' e2 hi ⟨s1, u, y, rfl, hu⟩ s2 ⟨s, hz, hx⟩
    have inv := without_inv p1 (pc.take i) [xs] (fun s hs => p3 s (List.take_subset _ _ hs)) (by simp)
    rw [take_snoc hz, List.foldl_append]
    have hs := p3 s (List.mem_of_getElem? hz)
    have hb1 := flat_split hs p1 _ inv.2
    have hb2 : ((pc.take i).foldl (fun ps s => ps.flatMap fun o => splitI o s) [xs]).length ≤ 24 ^ 4 := by
      refine Nat.le_trans inv.1 ?_
      rw [List.length_singleton, Nat.one_mul]
      exact Nat.pow_le_pow_right (by decide) (by rw [List.length_take]; omega)
    have hu2 := Mo.mo s2 hu
    have sA := ((e1.trans e2).trans s1).trans s2
    generalize (pc.take i).foldl (fun ps s => ps.flatMap fun o => splitI o s) [xs] = c0 at hu hu2 inv hb1 hb2
    refine s_asg (ev_lc2f (fun o => splitI o s) (evi_list (ev_var rfl hu2.ls)) (by rw [sizeLine_eq]; omega) (fun _ => rfl) (fun _ _ => rfl) (fun _ _ => rfl) (fun z x1 Hc ls hzm e hx1 hl => evg_new hl (ev_pn (z, s) (ea_cons (ev_rv rfl hx1) (ea_cons (ev_rv rfl (Rep.mono (tx_of e) hx)) ea_nil)) ⟨by show z.length ≤ 1000; have := inv.2 z hzm; omega, by show z.length = s.length; rw [inv.2 z hzm, hs]⟩))) fun v4 H4 e4 hv4 => ⟨(s1.trans s2).trans e4, v4, some x, rfl, hv4.back sA⟩
  · rintro H2 σ' H' e2 ⟨s1, u, y, rfl, hu⟩
    rw [List.take_length] at hu
    exact s_ret (φ := NLs H (withoutI xs pc)) (ev_var rfl hu) fun v5 H5 e5 hv5 => q v5 H5 (((e1.trans e2).trans s1).trans e5) hv5
/-! values_of, least_disk, packed_sketch -/
def bitB (m v : Int) : Bool := decide (Builtin.bitAnd (m / 2 ^ v.toNat) 1 ≠ 0)
def valuesI (m : Int) : List Int := (rg (Builtin.Int.intBits m)).filter fun v => bitB m v
theorem bits_le {m : Int} (h0 : 0 ≤ m) (h : m < 65536) : Builtin.Int.intBits m ≤ 16 := PyProof.Rows.intBits_le (by omega)
abbrev N_values_of : List Str := ["mask", "value"]
theorem sc_values_of : FnScope N_values_of ["mask"] (defScope s_values_of) := ⟨rfl, rfl, rfl, by decide +kernel, rfl, by decide +kernel, by decide +kernel⟩
abbrev sp_values_of : Sp := Pn (fun g : Int => [R g]) (fun g => 0 ≤ g ∧ g < 65536) (fun g H => NLs H (valuesI g))
theorem ok_values_of {f : Addr} {fd : FuncData} (T : Txt K mg)  (F : FunD K "values_of" "values_of" (defArgs s_values_of) (defBody s_values_of) (defScope s_values_of) [] [] f fd) (hm : mg "values_of" = some (.ref f)) : C8.Cal P w K mg base 1 "values_of" sp_values_of [] := by
  refine cal_of F hm sc_values_of (fun _ _ _ _ _ _ us hl => match us, hl with | [_], _ => rfl) (fun vs H Q E ⟨g, h, _⟩ => fas_len h) (fun cdv A outer s H vs Q E hr h => ?_)
  obtain ⟨m, h, hp, q⟩ := h
  obtain ⟨a, rfl, h1⟩ := fas1 h
  refine ⟨_, (pss_one (ps_ret (pe_lc (own := [("value", 1)]) rfl sc_values_of.nd (pi_range1 (by rfl) T.range (pa_cons (pe_bits (pv 0)) pa_nil)) (blkOk_by (N := N_values_of) (sc := defScope s_values_of) (by decide +kernel)) (fun _ _ _ _ _ => (pg_name (i := 1) sc_values_of.nd rfl (by first | exact .inl rfl | exact .inr rfl))) (fun _ _ _ _ _ => (pts_one (k_truth (K := K) rfl (pe_op op_and (pe_op op_shr (pv 0) (pv 1)) pe_int) (by intro _; rfl)))) (fun _ _ _ _ _ => (pv 1))))), ?_⟩
  obtain ⟨p1, p2⟩ := hp
  have p1 : 0 ≤ m := p1
  have p2 : m < 65536 := p2
  have h1 : Rep.rp H m a := h1
  have hb := bits_le p1 p2
  refine s_ret (Ev.imp (ψ := NLs H (valuesI m)) (ev_lcf (fun v : Int => bitB m v) (fun v : Int => v) 0 (by rw [rg_len]; exact evi_range1 (n := ((Builtin.Int.intBits m : Nat) : Int)) (ea_cons (ev_bits (ev_rv rfl h1)) ea_nil) (by omega) (by omega)) (by rw [rg_len, sizeLine_eq]; omega) (fun _ => rfl) (fun z x H1 hz e hx => fun H2 e2 Q q2 => ?_) (fun z x H1 hz e hx _ => ev_rv rfl hx)) fun v H' hv => by rw [List.map_id'] at hv; exact hv) fun v H1 e hv => q v H1 e hv
  have hz2 := rg_mem hz
  refine ev_ii (g := fun i j => Builtin.bitAnd i j) (ev_iiC (g := fun i j => i / 2 ^ j.toNat) (ev_rv rfl (Rep.mono (tx_of e) h1)) (ev_rv rfl hx) hz2.1) ev_ci H2 e2 _ fun v H3 e3 hv => ⟨bitB m z, ?_, q2 H3 e3⟩
  rw [show v = .int (Builtin.bitAnd (m / 2 ^ z.toNat) 1) from hv]
  show bitB m z = (Builtin.bitAnd (m / 2 ^ z.toNat) 1 != 0)
  unfold bitB
  by_cases h : Builtin.bitAnd (m / 2 ^ z.toNat) 1 = 0
  · rw [h]; rfl
  · rw [decide_eq_true h]
    exact (bne_iff_ne.mpr h).symm
def leastI (sk : List Int) : List Int := sk.map fun m => (valuesI m).headD 0
abbrev N_least_disk : List Str := ["sketch", "mask"]
theorem sc_least_disk : FnScope N_least_disk ["sketch"] (defScope s_least_disk) := ⟨rfl, rfl, rfl, by decide +kernel, rfl, by decide +kernel, by decide +kernel⟩
abbrev sp_least_disk : Sp := Pp (fun g : List Int => [R g]) (fun g => g.length ≤ 1000 ∧ ∀ m ∈ g, (0 ≤ m ∧ m < 65536) ∧ valuesI m ≠ []) (fun g => R (leastI g))
theorem ok_least_disk {f : Addr} {fd : FuncData} (T : Txt K mg) (c_values_of : C8.Cal P w K mg base 1 "values_of" sp_values_of []) (F : FunD K "least_disk" "least_disk" (defArgs s_least_disk) (defBody s_least_disk) (defScope s_least_disk) [] [] f fd) (hm : mg "least_disk" = some (.ref f)) : C8.Cal P w K mg base 2 "least_disk" sp_least_disk [] := by
  refine cal_of F hm sc_least_disk (fun _ _ _ _ _ _ us hl => match us, hl with | [_], _ => rfl) (fun vs H Q E ⟨g, h, _⟩ => fas_len h) (fun cdv A outer s H vs Q E hr h => ?_)
  obtain ⟨sk, h, hp, q⟩ := h
  obtain ⟨a, rfl, h1⟩ := fas1 h
  refine ⟨_, (pss_one (ps_ret (pe_callTy (k_tuple (K := K) rfl) (by rfl) T.tuple (by decide +kernel) (pa_cons (pe_lc (own := [("mask", 1)]) rfl sc_least_disk.nd (k_tup (K := K) rfl (pv 0)) (blkOk_by (N := N_least_disk) (sc := defScope s_least_disk) (by decide +kernel)) (fun _ _ _ _ _ => (pg_name (i := 1) sc_least_disk.nd rfl (by first | exact .inl rfl | exact .inr rfl))) (fun _ _ _ _ _ => pts_nil) (fun _ _ _ _ _ => (pe_ix (k_ixL (K := K) rfl) (C8.pe_c c_values_of hr (by decide) (by rfl) (pa_cons (pv 1) pa_nil)) pe_int (fun _ _ => rfl)))) pa_nil)))), ?_⟩
  obtain ⟨p1, p2⟩ := hp
  have p1 : sk.length ≤ 1000 := p1
  have p2 : ∀ m ∈ sk, (0 ≤ m ∧ m < 65536) ∧ valuesI m ≠ [] := p2
  refine s_ret (ev_tupL (ev_ls (ev_lcm (fun m : Int => (valuesI m).headD 0) 0 (evi_tup (ev_rv rfl h1)) (by rw [sizeLine_eq]; omega) (fun _ => rfl) (fun z x H1 hz e hx => ev_ixL (ev_ls (ev_pn z (ea_cons (ev_rv rfl hx) ea_nil) (p2 z hz).1)) ev_ci (atI_at (by decide) (by
    have := (p2 z hz).2
    cases hh : valuesI z with
    | nil => exact absurd hh this
    | cons v r => rfl)))))) fun v H1 e hv => q v H1 e hv
def packI (sk : List Int) : Int := sk.foldl (fun p m => Builtin.bitOr (p * 2 ^ 16) m) 0
end
end RW
set_option Elab.async false
set_option linter.all false
set_option maxRecDepth 100000
set_option maxHeartbeats 4000000
namespace RW
open PySem PySem.Spec PyProof.Rows L2
local macro_rules | `(tactic| walk_at "sm") => `(tactic| first
  | exact Same.refl _
  | assumption
  | exact same_new (by assumption)
  | (refine Same.trans ?_ (by assumption); walk_at "sm")
  | (refine Same.trans ?_ (same_new (by assumption)); walk_at "sm"))
local macro_rules | `(tactic| walk_at "rp") => `(tactic| first
  | assumption
  | exact rfl
  | (refine Rep.mono (tx_of ?_) (by assumption); walk_at "sm")
  | (refine Mo.mo ?_ (by assumption); walk_at "sm"))
local macro_rules | `(tactic| walk_at "ev") => `(tactic| first
  | exact ev_ci
  | exact ev_cs
  | exact ev_cb
  | exact ev_cn
  | (refine @ev_rv _ _ _ _ _ _ _ rfl ?_; walk_at "rp")
  | (refine @ev_var _ _ _ _ _ ?_ rfl ?_; (first | infer_instance | skip); walk_at "rp")
  | (refine ev_ii ?_ ?_ <;> walk_at "ev")
  | (refine ev_ib ?_ ?_ <;> walk_at "ev")
  | (refine ev_eqI ?_ ?_ <;> walk_at "ev")
  | (refine ev_neI ?_ ?_ <;> walk_at "ev")
  | (refine ev_lenT ?_ <;> walk_at "ev")
  | (refine ev_lenL ?_ <;> walk_at "ev")
  | (refine ev_int1 ?_ <;> walk_at "ev")
  | (refine et_test ?_ <;> walk_at "ev")
  | (refine et_B ?_ <;> walk_at "ev")
  | (refine et_not ?_ <;> walk_at "ev")
  | (refine et_or ?_ (fun _ => ?_) <;> walk_at "ev")
  | (refine et_and ?_ (fun _ => ?_) <;> walk_at "ev"))
section
variable {P : Program} {w : World} {K : PySem.W.Frag} {mg : Str → Option Value} {base : Heap}
theorem bitOr_bounds {x y : Int} (hx : 0 ≤ x) (hy : 0 ≤ y) : 0 ≤ Builtin.bitOr x y ∧ Builtin.bitOr x y ≤ x + y := by
  rw [PyProof.Rows.bitOr_and, PyProof.Rows.bitAnd_pp hx hy]
  have h1 : x.toNat &&& y.toNat ≤ x.toNat := Nat.and_le_left
  omega
theorem pack_bounds : ∀ (sk : List Int) (p : Int) (B : Nat), 0 ≤ p → p < 2 ^ B → (∀ m ∈ sk, 0 ≤ m ∧ m < 65536) → 0 ≤ sk.foldl (fun p m => Builtin.bitOr (p * 2 ^ 16) m) p ∧ sk.foldl (fun p m => Builtin.bitOr (p * 2 ^ 16) m) p < 2 ^ (B + 16 * sk.length)
  | [], p, B, h0, h1, _ => ⟨h0, by simpa using h1⟩
  | m :: r, p, B, h0, h1, hm => by
    have hm1 := hm m List.mem_cons_self
    have hb := bitOr_bounds (x := p * 2 ^ 16) (y := m) (by omega) hm1.1
    have e : (2 : Int) ^ (B + 16) = 2 ^ B * 65536 := by rw [Int.pow_add]; rfl
    have := pack_bounds r (Builtin.bitOr (p * 2 ^ 16) m) (B + 16) hb.1 (by omega) fun x hx => hm x (List.mem_cons_of_mem _ hx)
    rw [List.foldl_cons, List.length_cons, show B + 16 * (r.length + 1) = B + 16 + 16 * r.length by omega]
    exact this
abbrev N_packed_sketch : List Str := ["sketch", "packed", "mask"]
theorem sc_packed_sketch : FnScope N_packed_sketch ["sketch"] (defScope s_packed_sketch) := ⟨rfl, rfl, rfl, by decide +kernel, rfl, by decide +kernel, by decide +kernel⟩
abbrev sp_packed_sketch : Sp := Pp (fun g : List Int => [R g]) (fun g => g.length ≤ 24 ∧ ∀ m ∈ g, 0 ≤ m ∧ m < 65536) (fun g => R (packI g))
theorem ok_packed_sketch {f : Addr} {fd : FuncData} (T : Txt K mg)  (F : FunD K "packed_sketch" "packed_sketch" (defArgs s_packed_sketch) (defBody s_packed_sketch) (defScope s_packed_sketch) [] [] f fd) (hm : mg "packed_sketch" = some (.ref f)) : C8.Cal P w K mg base 1 "packed_sketch" sp_packed_sketch [] := by
  refine cal_of F hm sc_packed_sketch (fun _ _ _ _ _ _ us hl => match us, hl with | [_], _ => rfl) (fun vs H Q E ⟨g, h, _⟩ => fas_len h) (fun cdv A outer s H vs Q E hr h => ?_)
  obtain ⟨sk, h, hp, q⟩ := h
  obtain ⟨a, rfl, h1⟩ := fas1 h
  refine ⟨_, (pss_cons (ps_set (i := 1) sc_packed_sketch.nd rfl (by first | exact .inl rfl | exact .inr rfl) pe_int)
      (pss_cons (ps_for PassesOwn.never rfl (k_tup (K := K) rfl (pv 0)) (pg_name (i := 2) sc_packed_sketch.nd rfl (by first | exact .inl rfl | exact .inr rfl))
        (pss_one (ps_set (i := 1) sc_packed_sketch.nd rfl (by first | exact .inl rfl | exact .inr rfl) (pe_op op_or (pe_op op_shlW (pv 1) (C8.pe_gc (by rfl) T.MOST_VALUES)) (pv 2)))))
      (pss_one (ps_ret (pv 1))))), ?_⟩
  obtain ⟨p1, p2⟩ := hp
  have p1 : sk.length ≤ 24 := p1
  have p2 : ∀ m ∈ sk, 0 ≤ m ∧ m < 65536 := p2
  have h1 : Rep.rp H sk a := h1
  refine q_asg (ev_ci (i := 0)) fun v H1 e1 hv => ?_
  obtain rfl : v = .int 0 := hv
  refine q_for (evi_tup (ev_rv rfl (Rep.mono (tx_of e1) h1))) (fun H2 i σ' H' => Same H2 H' ∧ ∃ y, σ' = [some a, some (.int (packI (sk.take i))), y]) (fun H2 e2 => ⟨Same.refl _, none, rfl⟩) (fun H2 i σ' H' p => p.1) ?_ ?_
  · rintro H2 i x σ' H' H'' e2 hi ⟨s1, y, rfl⟩ s2 ⟨m, hz, hx⟩
    have hb := pack_bounds (sk.take i) 0 0 (by decide) (by decide) fun m hm => p2 m (List.take_subset _ _ hm)
    have hb2 : Builtin.Int.intBits (packI (sk.take i)) ≤ 16 * 24 := by
      refine PyProof.Rows.intBits_le ?_
      have h3 : packI (sk.take i) < 2 ^ (0 + 16 * (sk.take i).length) := hb.2
      have h4 : (2 : Int) ^ (0 + 16 * (sk.take i).length) ≤ 2 ^ (16 * 24) := by
        have : (2 : Nat) ^ (0 + 16 * (sk.take i).length) ≤ 2 ^ (16 * 24) := Nat.pow_le_pow_right (by decide) (by rw [List.length_take]; omega)
        exact_mod_cast this
      have h5 : 0 ≤ packI (sk.take i) := hb.1
      have h6 : packI (sk.take i) < 2 ^ (16 * 24) := Int.lt_of_lt_of_le h3 h4
      have h7 : ((packI (sk.take i)).natAbs : Int) = packI (sk.take i) := Int.natAbs_of_nonneg h5
      have h8 : ((packI (sk.take i)).natAbs : Int) < ((2 ^ (16 * 24) : Nat) : Int) := by rw [h7]; exact_mod_cast h6
      exact_mod_cast h8
    have hsh : CShl (packI (sk.take i)) 16 := ⟨by decide, by
      have h27 : (2 : Int) ^ 27 = 134217728 := by decide
      rw [h27]
      omega⟩
    refine s_asg (ev_ii (g := fun i j => Builtin.bitOr i j) (ev_iiC (g := fun i j => i * 2 ^ j.toNat) (ev_rv (x := packI (sk.take i)) rfl rfl) ev_ci hsh) (ev_rv rfl hx)) fun v3 H3 e3 hv3 => ⟨(s1.trans s2).trans e3, some x, ?_⟩
    rw [show v3 = .int (Builtin.bitOr (packI (sk.take i) * 2 ^ (16 : Int).toNat) m) from hv3, take_snoc hz]
    unfold packI
    rw [List.foldl_append]
    rfl
  · rintro H2 σ' H' e2 ⟨s1, y, rfl⟩
    rw [List.take_length]
    exact s_ret (ev_rv (x := packI sk) rfl rfl) fun v H3 e3 hv => q v H3 (((e1.trans e2).trans s1).trans e3) hv
/-! sketch_before -/
def setFull (full : List Int) (sk : List Int) (ch : List (Int × (Str × Int))) : List Int := ch.foldl (fun m p => m.set p.1.toNat (szI full p.1)) sk
def setOk (sk : List Int) (p : Int × (Str × Int)) : Bool := bitB (szI sk p.1) p.2.2
def andG (m : List Int) (g : List (Int × Int)) : List Int := g.foldl (fun m p => m.set p.1.toNat (Builtin.bitAnd (szI m p.1) p.2)) m
def beforeI (full : List Int) (d : Deed) (sk : List Int) : Option (List Int) :=
  if d.c.all (setOk sk) = true then (if (andG (setFull full sk d.c) d.b).all (fun m => decide (m ≠ 0)) = true then some (andG (setFull full sk d.c) d.b) else none) else none
theorem setFull_len {full : List Int} : ∀ (ch : List (Int × (Str × Int))) (sk : List Int), (setFull full sk ch).length = sk.length
  | [], _ => rfl
  | p :: r, sk => by
    show (setFull full (sk.set _ _) r).length = _
    rw [setFull_len r, List.length_set]
theorem andG_len : ∀ (g : List (Int × Int)) (m : List Int), (andG m g).length = m.length
  | [], _ => rfl
  | p :: r, m => by
    show (andG (m.set _ _) r).length = _
    rw [andG_len r, List.length_set]
def deedI (M : Mach) (j : Int) : Deed := M.deeds.getD j.toNat ⟨Str.empty, [], []⟩
theorem fullI_len (M : Mach) : (fullI M).length = M.cells.length := List.length_map _
theorem inB_iff {zs : List Int} {c : Int} (h : inB zs c = true) : 0 ≤ c ∧ c < zs.length := by
  simpa [inB] using h
section
variable {σ : L2.St} {H : Hp} {to ti te : TE} {D : Ends} {tz : TS} {l : Addr} {xs : List Int} {i b : Int}
theorem s_augA (h : At l xs H) (ho : Ev to σ H (Is (.ref l))) (hi : Ev ti σ H (R i)) (h0 : 0 ≤ i) (h1 : i < xs.length) (he : Ev te σ H (R b)) (k : ∀ H2, OffL [l] H H2 → At l (xs.set i.toNat (Builtin.bitAnd (szI xs i) b)) H2 → D.nx σ H2) :
    tAugS to ti te (rGetL K) (ipI fun i j => Builtin.bitAnd i j) rSetL D σ H := ho.go fun o H1 e1 hv => (hi.up e1).go fun y H2 e2 hy => by
  obtain ⟨vs, a, r⟩ := h
  have s2 := e1.trans e2
  have hl := r.length
  rw [show o = .ref l from hv, show y = .int i from hy]
  have hz : xs[i.toNat]? = some (szI xs i) := by
    have : i.toNat < xs.length := by omega
    unfold szI
    rw [List.getD_eq_getElem?_getD, List.getElem?_eq_getElem this]
    rfl
  obtain ⟨z, hz1, hz2⟩ := r.get hz
  refine ⟨l, vs, i, z, rfl, rfl, h0, .inl (.inl (s2 _ _ a)), hz1, (he.up s2).go fun w H3 e3 hw => ⟨szI xs i, b, hz2, hw, ?_⟩⟩
  have s3 := s2.trans e3
  refine ⟨l, vs, i, i.toNat, rfl, rfl, s3 _ _ a, ?_, ?_⟩
  · unfold ixN
    rw [if_pos h0, if_pos (by omega)]
  · have t := tx_lst (o := .lst (vs.set i.toNat (.int (Builtin.bitAnd (szI xs i) b)))) (s3 _ _ a)
    exact k _ ((OffL.of s3).trans (OffL.upd (List.mem_singleton.mpr rfl))) ⟨_, upd_same, Rps.mono t ((Rps.mono (tx_of s3) r).set rfl _)⟩
end
abbrev N_sketch_before : List Str := ["machine", "sketch", "deed", "_", "guard", "changes", "masks", "full", "cell", "kind", "number", "mask"]
theorem sc_sketch_before : FnScope N_sketch_before ["machine", "sketch", "deed"] (defScope s_sketch_before) := ⟨rfl, rfl, rfl, by decide +kernel, rfl, by decide +kernel, by decide +kernel⟩
abbrev sp_sketch_before (K : PySem.W.Frag) : Sp := Pp (fun g : T3 Mach (List Int) Int => [MachS K g.a, R g.b, R g.c]) (fun g => MachOk g.a.cells g.a.deeds g.a.first ∧ g.b.length = g.a.cells.length ∧ 0 ≤ g.c ∧ g.c < g.a.deeds.length) (fun g => R (beforeI (fullI g.a) (deedI g.a g.c) g.b))
theorem ok_sketch_before {f : Addr} {fd : FuncData} (T : Txt K mg) (p_full : Prp P w K mg base 1 (CMachine K) "full" (sp_Machine_full K)) (F : FunD K "sketch_before" "sketch_before" (defArgs s_sketch_before) (defBody s_sketch_before) (defScope s_sketch_before) [] [] f fd) (hm : mg "sketch_before" = some (.ref f)) : C8.Cal P w K mg base 3 "sketch_before" (sp_sketch_before K) [] := by
  refine cal_of F hm sc_sketch_before (fun _ _ _ _ _ _ us hl => match us, hl with | [_, _, _], _ => rfl) (fun vs H Q E ⟨g, h, _⟩ => fas_len h) (fun cdv A outer s H vs Q E hr h => ?_)
  obtain ⟨⟨M, sk, j⟩, h, hp, q⟩ := h
  obtain ⟨a, b, c, rfl, h1, h2, h3⟩ := fas3 h
  refine ⟨_, (pss_cons (ps_asg (pe_ix (k_ixT (K := K) rfl) (k_fld (K := K) rfl (pv 0) rfl) (pv 2) (fun _ _ => rfl)) (k_gtup (K := K) (n := 3) rfl rfl (pgs_cons (pg_name (i := 3) sc_sketch_before.nd rfl (by first | exact .inl rfl | exact .inr rfl)) (pgs_cons (pg_name (i := 4) sc_sketch_before.nd rfl (by first | exact .inl rfl | exact .inr rfl)) (pgs_cons (pg_name (i := 5) sc_sketch_before.nd rfl (by first | exact .inl rfl | exact .inr rfl)) pgs_nil)))))
      (pss_cons (ps_set (i := 6) sc_sketch_before.nd rfl (by first | exact .inl rfl | exact .inr rfl) (pe_callTy (k_listOf (K := K) rfl) (by rfl) T.list (by decide +kernel) (pa_cons (pv 1) pa_nil)))
      (pss_cons (ps_set (i := 7) sc_sketch_before.nd rfl (by first | exact .inl rfl | exact .inr rfl) (pe_pr p_full hr (by decide) (pv 0) rfl))
      (pss_cons (ps_for PassesOwn.never rfl (k_tup (K := K) rfl (pv 5)) (k_gtup (K := K) (n := 2) rfl rfl (pgs_cons (pg_name (i := 8) sc_sketch_before.nd rfl (by first | exact .inl rfl | exact .inr rfl)) (pgs_cons (pg_name (i := 3) sc_sketch_before.nd rfl (by first | exact .inl rfl | exact .inr rfl)) pgs_nil)))
        (pss_one (ps_asg (pe_ix (k_ixT (K := K) rfl) (pv 7) (pv 8) (fun _ _ => rfl)) (pg_sub (pv 6) (pv 8) set_list))))
      (pss_cons (ps_for PassesOwn.never rfl (k_tup (K := K) rfl (pv 5)) (k_gtup (K := K) (n := 2) rfl rfl (pgs_cons (pg_name (i := 8) sc_sketch_before.nd rfl (by first | exact .inl rfl | exact .inr rfl)) (pgs_cons (k_gtup (K := K) (n := 2) rfl rfl (pgs_cons (pg_name (i := 9) sc_sketch_before.nd rfl (by first | exact .inl rfl | exact .inr rfl)) (pgs_cons (pg_name (i := 10) sc_sketch_before.nd rfl (by first | exact .inl rfl | exact .inr rfl)) pgs_nil))) pgs_nil)))
        (pss_one (ps_if (pt_cmpR op_eq (pv 9) pe_str (nomark _)) (pss_one (ps_if (pt_cmpR op_eq (pe_op op_and (pe_op op_shr (pe_ix (k_ixT (K := K) rfl) (pv 1) (pv 8) (fun _ _ => rfl)) (pv 10)) pe_int) pe_int (nomark _)) (pss_one (ps_ret pe_non)) pss_nil)) (pss_one (ps_augS (pv 6) (pv 10) pget_list (pe_ix (k_ixT (K := K) rfl) (pv 1) (pv 8) (fun _ _ => rfl)) ip_and set_list)))))
      (pss_cons (ps_for PassesOwn.never rfl (k_tup (K := K) rfl (pv 4)) (k_gtup (K := K) (n := 2) rfl rfl (pgs_cons (pg_name (i := 8) sc_sketch_before.nd rfl (by first | exact .inl rfl | exact .inr rfl)) (pgs_cons (pg_name (i := 11) sc_sketch_before.nd rfl (by first | exact .inl rfl | exact .inr rfl)) pgs_nil)))
        (pss_one (ps_augS (pv 6) (pv 8) pget_list (pv 11) ip_and set_list)))
      (pss_one (ps_ret (pe_ifExp (pt_val (pe_callB (k_all (K := K) rfl rfl) (by rfl) T.all (by decide +kernel) (pa_cons (pe_lc (own := [("mask", 11)]) rfl sc_sketch_before.nd (k_list (K := K) rfl (pv 6)) (blkOk_by (N := N_sketch_before) (sc := defScope s_sketch_before) (by decide +kernel)) (fun _ _ _ _ _ => (pg_name (i := 11) sc_sketch_before.nd rfl (by first | exact .inl rfl | exact .inr rfl))) (fun _ _ _ _ _ => pts_nil) (fun _ _ _ _ _ => (pe_cmpR op_ne (pv 11) pe_int (nomark _)))) pa_nil))) (pe_callTy (k_tuple (K := K) rfl) (by rfl) T.tuple (by decide +kernel) (pa_cons (pv 6) pa_nil)) pe_non))))))))), ?_⟩
  obtain ⟨pM, pl, pj0, pj1⟩ := hp
  have pM : MachOk M.cells M.deeds M.first := pM
  have pl : sk.length = M.cells.length := pl
  have pj0 : 0 ≤ j := pj0
  have pj1 : j < M.deeds.length := pj1
  have h1 : MachS K M a H := h1
  have h2 : Rep.rp H sk b := h2
  have h3 : Rep.rp H j c := h3
  have hjl : j.toNat < M.deeds.length := by omega
  have hD : M.deeds[j.toNat]? = some (deedI M j) := by
    unfold deedI
    rw [List.getD_eq_getElem?_getD, List.getElem?_eq_getElem hjl]
    rfl
  have dd := pM.dd (deedI M j) (List.mem_of_getElem? hD)
  have hsz : (M.cells.map (·.2)).length = M.cells.length := List.length_map _
  have hg : ∀ p ∈ (deedI M j).b, 0 ≤ p.1 ∧ p.1 < M.cells.length := fun p hp => by
    have := List.all_eq_true.mp dd.2.2.1 p hp
    simp only [Bool.and_eq_true] at this
    have := inB_iff this.1
    rw [hsz] at this
    exact this
  have hc : ∀ p ∈ (deedI M j).c, (0 ≤ p.1 ∧ p.1 < M.cells.length) ∧ p.2.1 = ("set" : Str) ∧ 0 ≤ p.2.2 := fun p hp => by
    have := List.all_eq_true.mp dd.2.2.2 p hp
    simp only [Bool.and_eq_true, decide_eq_true_eq] at this
    have h5 := inB_iff this.1.1.1
    rw [hsz] at h5
    exact ⟨h5, this.1.1.2, this.1.2⟩
  generalize hDD : deedI M j = D0 at hD dd hg hc
  refine q_asgG (ev_ixT (x := D0) (ev_mdeeds T (ev_var rfl h1)) (ev_rv rfl h3) (atI_at pj0 hD)) fun v1 H1 e1 hv1 => g_t3n hv1 fun y3 y4 y5 _ hy4 hy5 => ?_
  refine q_asg (ev_listT (ev_rv rfl (Rep.mono (tx_of e1) h2))) fun v2 H2 e2 hv2 => ?_
  obtain ⟨l, rfl, n1, a1⟩ := at_of hv2
  have s2 := e1.trans e2
  refine q_asg (ev_pr M (ev_var (φ := MachS K M) rfl (Mo.mo s2 h1)) rfl ⟨pM.c1.2, fun c hc => by have := pM.sz c.2 (List.mem_map.mpr ⟨c, hc, rfl⟩); omega⟩) fun v3 H3 e3 hv3 => ?_
  have hf : Rep.rp H3 (fullI M) v3 := hv3
  have A3 := a1.same e3
  have s3 := s2.trans e3
  have g2 := Rep.mono (tx_of s3) h2
  have g4 := Rep.mono (tx_of (e2.trans e3)) hy4
  have g5 := Rep.mono (tx_of (e2.trans e3)) hy5
  refine q_forAcc (fun (m : List Int) (p : Int × (Str × Int)) => m.set p.1.toNat (szI (fullI M) p.1)) sk (fun m σ' H' => At l m H' ∧ ∃ x y, σ' = [some a, some b, some c, x, some y4, some y5, some (.ref l), some v3, y, none, none, none]) (evg_tup A3.ll (ev_rv rfl g5)) (fun H4 e4 => ⟨A3.same e4, some y3, none, rfl⟩) (fun c σ' H' H'' p e => ⟨p.1.same e, p.2⟩) ?_ ?_
  · rintro pre p suf x σ' H4 D' hzs ⟨A4, x1, x2, rfl⟩ o4 hx kk _
    have hp := hc p (by rw [hzs]; exact List.mem_append_right _ List.mem_cons_self)
    have hl4 := setFull_len (full := fullI M) pre sk
    unfold setFull at hl4
    refine g_pair hx fun z1 z2 hz1 hz2 => ?_
    refine s_setA A4 (ev_ixT (x := szI (fullI M) p.1) (ev_rv rfl (Rep.mono (tx_off A3.ll o4) hf)) (ev_rv rfl hz1) (atI_in hp.1.1 (by rw [fullI_len]; exact hp.1.2))) (ev_is rfl) (ev_rv rfl hz1) hp.1.1 (by rw [hl4, pl]; exact hp.1.2) fun H5 o5 at5 => (kk _ H5 o5 ⟨at5, some z2, some z1, rfl⟩).1
  · rintro σ' H4 o4 ⟨A4, x1, x2, rfl⟩
    have A4 : At l (setFull (fullI M) sk D0.c) H4 := A4
    have b2 := Rep.mono (tx_off A3.ll o4) g2
    have b4 := Rep.mono (tx_off A3.ll o4) g4
    have b5 := Rep.mono (tx_off A3.ll o4) g5
    have sA : Same H H4 := same_off s2 ((OffL.of e3).trans o4) (fun c hc => by rw [show c = l from by simpa using hc]; exact e1.free n1)
    refine q_for (evi_tup (ev_rv rfl b5)) (fun H5 i σ' H' => Same H5 H' ∧ (∃ x y z u, σ' = [some a, some b, some c, x, some y4, some y5, some (.ref l), some v3, y, z, u, none]) ∧ (D0.c.take i).all (setOk sk) = true) (fun H5 e5 => ⟨Same.refl _, ⟨x1, x2, none, none, rfl⟩, by simp⟩) (fun H2 i σ' H' p => p.1) ?_ ?_
    · rintro H5 i x σ' H' H'' e5 hi ⟨s1, ⟨z1, z2, z3, z4, rfl⟩, hall⟩ s2' ⟨p, hz, hx⟩
      have hp := hc p (List.mem_of_getElem? hz)
      have sB : Same H4 H'' := (e5.trans s1).trans s2'
      refine g_pair hx fun w1 w2 hw1 hw2 => ?_
      refine g_pair hw2 fun w3 w4 hw3 hw4 => ?_
      refine s_if (b := decide (p.2.1 = ("set" : Str))) (et_test (ev_eqS (ev_rv rfl hw3) ev_cs)) (fun _ H6 e6 => ?_) (fun e => absurd hp.2.1 (of_decide_eq_false e))
      refine s_when (b := !setOk sk p) (EvT.to (et_test (ev_eqI (ev_ii (g := fun i j => Builtin.bitAnd i j) (ev_iiC (g := fun i j => i / 2 ^ j.toNat) (ev_ixT (x := szI sk p.1) (ev_rv rfl (Rep.mono (tx_of (sB.trans e6)) b2)) (ev_rv rfl (Rep.mono (tx_of e6) hw1)) (atI_in hp.1.1 (by rw [pl]; exact hp.1.2))) (ev_rv rfl (Rep.mono (tx_of e6) hw4)) hp.2.2) ev_ci) ev_ci)) (by unfold setOk bitB; simp)) (fun e H7 e7 => ?_) fun e H7 e7 => ?_
      · refine s_ret ev_cn fun v H8 e8 hv => q v H8 (((sA.trans sB).trans (e6.trans e7)).trans e8) ?_
        have e9 : beforeI (fullI M) D0 sk = none := by
          unfold beforeI
          rw [if_neg]
          intro h9
          have := List.all_eq_true.mp h9 p (List.mem_of_getElem? hz)
          rw [this] at e
          cases e
        show Rep.rp H8 (beforeI (fullI M) (deedI M j) sk) v
        rw [hDD, e9]
        exact hv
      · refine ⟨((s1.trans s2').trans e6).trans e7, ⟨z1, some w1, some w3, some w4, rfl⟩, ?_⟩
        rw [take_snoc hz, List.all_append, hall]
        simpa using e
    · rintro H5 σ' H6 e5 ⟨s1, ⟨z1, z2, z3, z4, rfl⟩, hall⟩
      rw [List.take_length] at hall
      have sB : Same H4 H6 := e5.trans s1
      have A6 := A4.same sB
      have d4 := Rep.mono (tx_of sB) b4
      refine q_forAcc (fun (m : List Int) (p : Int × Int) => m.set p.1.toNat (Builtin.bitAnd (szI m p.1) p.2)) (setFull (fullI M) sk D0.c) (fun m σ' H' => At l m H' ∧ ∃ y z, σ' = [some a, some b, some c, z1, some y4, some y5, some (.ref l), some v3, y, z3, z4, z]) (evg_tup A6.ll (ev_rv rfl d4)) (fun H7 e7 => ⟨A6.same e7, z2, none, rfl⟩) (fun c σ' H' H'' p e => ⟨p.1.same e, p.2⟩) ?_ ?_
      · rintro pre p suf x σ' H7 D' hzs ⟨A7, x1, x2, rfl⟩ o7 hx kk _
        have hp := hg p (by rw [hzs]; exact List.mem_append_right _ List.mem_cons_self)
        have hl7 := andG_len pre (setFull (fullI M) sk D0.c)
        unfold andG at hl7
        refine g_pair hx fun w1 w2 hw1 hw2 => ?_
        exact s_augA A7 (ev_is rfl) (ev_rv rfl hw1) hp.1 (by rw [hl7, setFull_len, pl]; exact hp.2) (ev_rv rfl hw2) fun H8 o8 at8 => (kk _ H8 o8 ⟨at8, some w1, some w2, rfl⟩).1
      · rintro σ' H7 o7 ⟨A7, x1, x2, rfl⟩
        have A7 : At l (andG (setFull (fullI M) sk D0.c) D0.b) H7 := A7
        have sC : Same H H7 := same_off s2 ((OffL.of e3).trans ((o4.trans (OffL.of sB)).trans o7)) (fun c hc => by rw [show c = l from by simpa using hc]; exact e1.free n1)
        have hlen : (andG (setFull (fullI M) sk D0.c) D0.b).length = M.cells.length := by rw [andG_len, setFull_len, pl]
        have hk : M.cells.length ≤ 24 := pM.c1.2
        have hbd : beforeI (fullI M) (deedI M j) sk = if (andG (setFull (fullI M) sk D0.c) D0.b).all (fun m => decide (m ≠ 0)) = true then some (andG (setFull (fullI M) sk D0.c) D0.b) else none := by
          rw [hDD]
          unfold beforeI
          rw [if_pos hall]
        refine s_ret (φ := R (beforeI (fullI M) (deedI M j) sk)) (ev_if (b := (andG (setFull (fullI M) sk D0.c) D0.b).all (fun m => decide (m ≠ 0))) (EvT.to (et_B (ev_all (ev_ls (ev_lcm (fun m : Int => !decide (m = 0)) 0 (evi_list (ev_at A7 rfl)) (by rw [hlen, sizeLine_eq]; omega) (fun _ => rfl) (fun z x H1 hz e hx => ev_neI (ev_rv rfl hx) ev_ci))))) (by rw [List.all_map]; congr 1; funext m; simp)) (fun e => ?_) (fun e => ?_)) fun v H8 e8 hv => q v H8 (sC.trans e8) hv
        · rw [hbd, if_pos e]
          refine Ev.imp (ev_tupL (ev_at A7 rfl)) fun v H' hv => ⟨fun z => ?_, hv⟩
          obtain ⟨a, vs, e, _⟩ := hv
          rw [z] at e
          cases e
        · rw [hbd, if_neg (by rw [e]; decide)]
          exact ev_cn
end
end RW
set_option Elab.async false
set_option linter.all false
set_option maxRecDepth 100000
set_option maxHeartbeats 4000000
namespace RW
open PySem PySem.Spec PyProof.Rows L2
local macro_rules | `(tactic| walk_at "sm") => `(tactic| first
  | exact Same.refl _
  | assumption
  | exact same_new (by assumption)
  | (refine Same.trans ?_ (by assumption); walk_at "sm")
  | (refine Same.trans ?_ (same_new (by assumption)); walk_at "sm"))
local macro_rules | `(tactic| walk_at "rp") => `(tactic| first
  | assumption
  | exact rfl
  | (refine Rep.mono (tx_of ?_) (by assumption); walk_at "sm")
  | (refine Mo.mo ?_ (by assumption); walk_at "sm"))
local macro_rules | `(tactic| walk_at "ev") => `(tactic| first
  | exact ev_ci
  | exact ev_cs
  | exact ev_cb
  | exact ev_cn
  | (refine @ev_rv _ _ _ _ _ _ _ rfl ?_; walk_at "rp")
  | (refine @ev_var _ _ _ _ _ ?_ rfl ?_; (first | infer_instance | skip); walk_at "rp")
  | (refine ev_ii ?_ ?_ <;> walk_at "ev")
  | (refine ev_ib ?_ ?_ <;> walk_at "ev")
  | (refine ev_eqI ?_ ?_ <;> walk_at "ev")
  | (refine ev_neI ?_ ?_ <;> walk_at "ev")
  | (refine ev_lenT ?_ <;> walk_at "ev")
  | (refine ev_lenL ?_ <;> walk_at "ev")
  | (refine ev_int1 ?_ <;> walk_at "ev")
  | (refine et_test ?_ <;> walk_at "ev")
  | (refine et_B ?_ <;> walk_at "ev")
  | (refine et_not ?_ <;> walk_at "ev")
  | (refine et_or ?_ (fun _ => ?_) <;> walk_at "ev")
  | (refine et_and ?_ (fun _ => ?_) <;> walk_at "ev"))
section
variable {P : Program} {w : World} {K : PySem.W.Frag} {mg : Str → Option Value} {base : Heap}
/-- anything at all -/
abbrev AnyS : Srt := fun _ _ => True
/-- rows of lists of lists -/
def Tbl (n : Nat) : Srt := fun v H => ∃ a vs, v = .ref a ∧ H a = some (.lst vs) ∧ vs.length = n ∧ ∀ r ∈ vs, ∃ b ws, r = .ref b ∧ H b = some (.lst ws) ∧ ws.length ≤ 400 ∧ ∀ e ∈ ws, ∃ c us, e = .ref c ∧ H c = some (.lst us)
instance (n : Nat) : Mo (Tbl n) := ⟨fun e ⟨a, vs, e1, h1, hn, h2⟩ => ⟨a, vs, e1, e _ _ h1, hn, fun r hr => let ⟨b, ws, e2, h3, hw, h4⟩ := h2 r hr; ⟨b, ws, e2, e _ _ h3, hw, fun x hx => let ⟨c, us, e3, h5⟩ := h4 x hx; ⟨c, us, e3, e _ _ h5⟩⟩⟩⟩
theorem evi_raw {σ : L2.St} {H : Hp} {tl : TE} {a : Addr} {vs : List V} (h : Ev tl σ H (Is (.ref a))) (ha : H a = some (.lst vs)) : EvI (iList K tl) σ H vs.length (fun i v _ => vs[i]? = some v) := fun H1 e Rr q =>
  h H1 e _ fun v H2 e2 hv => by
    have ha2 := (e.trans e2) _ _ ha
    exact ⟨a, hv, ⟨vs, .inl (.inl ha2)⟩, q _ H2 e2 (walk_list.mono (fun H3 e3 => .inl (.inl (e3 _ _ ha2))) fun i H3 x H' hi e3 y => by
      obtain ⟨rfl, y⟩ := y
      exact ⟨Same.refl _, y⟩)⟩
theorem ev_anyV {te : TE} {σ : L2.St} {H : Hp} {φ : Srt} (h : Ev te σ H φ) : Ev te σ H (R AnyV.mk) := h.imp fun _ _ _ => trivial
theorem ev_anyS {te : TE} {σ : L2.St} {H : Hp} {φ : Srt} (h : Ev te σ H φ) : Ev te σ H AnyS := h.imp fun _ _ _ => trivial
theorem tbl_ins {n : Nat} {v : V} {H : Hp} {x C dx : Addr} {fs : List (Str × V)} {o : HO} (h : Tbl n v H) (hx : H x = some (.ins C dx fs)) : Tbl n v (upd H x o) := by
  have keep : ∀ {a : Addr} {vs : List V}, H a = some (.lst vs) → upd H x o a = some (.lst vs) := fun ha => by
    rw [upd_ne (ne_of ha hx (by intro z; cases z))]
    exact ha
  obtain ⟨a, vs, e, h1, hn, h2⟩ := h
  refine ⟨a, vs, e, keep h1, hn, fun r hr => ?_⟩
  obtain ⟨b, ws, e2, h3, hw, h4⟩ := h2 r hr
  refine ⟨b, ws, e2, keep h3, hw, fun y hy => ?_⟩
  obtain ⟨c, us, e3, h5⟩ := h4 y hy
  exact ⟨c, us, e3, keep h5⟩
theorem ev_tupRaw {te : TE} {σ : L2.St} {H : Hp} {a : Addr} {vs : List V} (h : Ev te σ H (Is (.ref a))) (ha : H a = some (.lst vs)) : Ev (tCB (fun xs H Q => ∃ p ys, xs = [.ref p] ∧ ((SqL K H p ys ∧ ∀ l, H l = none → Q (.ref l) (upd H l (.tup ys))) ∨ (SqT K H p ys ∧ Q (.ref p) H))) (tCons te tNil)) σ H AnyS := fun H1 e Q q =>
  h H1 e _ fun v H2 e2 hv => ⟨a, vs, by rw [show v = .ref a from hv], .inl ⟨.inl (.inl ((e.trans e2) _ _ ha)), fun l hl => q _ _ (e2.trans (same_new hl)) trivial⟩⟩
theorem mono_nm {j : Nat} : ∀ (x : V) (σ' : L2.St) (H' : Hp) (Q Q' : L2.St → Hp → Prop), (∀ σ2 H2, Q σ2 H2 → Q' σ2 H2) → gName j x σ' H' Q → gName j x σ' H' Q' := mono_name
abbrev N_Paper_init : List Str := ["self", "sketches", "cover", "table", "sketch", "row", "entry"]
theorem sc_Paper_init : FnScope N_Paper_init ["self", "sketches", "cover", "table"] (defScope s_Paper_init) := ⟨rfl, rfl, rfl, by decide +kernel, rfl, by decide +kernel, by decide +kernel⟩
abbrev sp_Paper_init (K : PySem.W.Frag) : Sp := Pi (CPaper K) (fun g : T3 (List (List Int)) (List Int) Nat => [Ls g.a, Ls g.b, Tbl g.c]) (fun g => g.a.length ≤ sizeLine ∧ g.b.length ≤ sizeLine ∧ g.c ≤ sizeLine) (fun g => [("sketches", AnyS), ("cover", AnyS), ("table", AnyS)])
theorem ok_Paper_init {f : Addr} {fd : FuncData} (T : Txt K mg)  (F : FunD K "__init__" "Paper.__init__" (defArgs s_Paper_init) (defBody s_Paper_init) (defScope s_Paper_init) [] [] f fd) (M : Mk K (CPaper K) f) : C8.Mak P w K mg base 1 "Paper" (CPaper K) (sp_Paper_init K) [] := by
  refine mak_of F M T.gPaper sc_Paper_init (fun _ _ _ _ _ _ us hl => match us, hl with | [_, _, _, _], _ => rfl) (pi_len fun g => rfl) (fun cdv A outer s H vs Q E hr h => ?_)
  obtain ⟨⟨sk, cv, tn⟩, x, dx, rest, rfl, hx0, h, hp, q⟩ := h
  obtain ⟨b, c, d, rfl, h2, h3, h4⟩ := fas3 h
  refine ⟨_, (pss_cons (ps_fld (pv 0) (pe_callTy (k_tuple (K := K) rfl) (by rfl) T.tuple (by decide +kernel) (pa_cons (pe_lc (own := [("sketch", 4)]) rfl sc_Paper_init.nd (k_list (K := K) rfl (pv 1)) (blkOk_by (N := N_Paper_init) (sc := defScope s_Paper_init) (by decide +kernel)) (fun _ _ _ _ _ => (pg_name (i := 4) sc_Paper_init.nd rfl (by first | exact .inl rfl | exact .inr rfl))) (fun _ _ _ _ _ => pts_nil) (fun _ _ _ _ _ => (pe_callTy (k_tuple (K := K) rfl) (by rfl) T.tuple (by decide +kernel) (pa_cons (pv 4) pa_nil)))) pa_nil)) rfl)
      (pss_cons (ps_fld (pv 0) (pe_callTy (k_tuple (K := K) rfl) (by rfl) T.tuple (by decide +kernel) (pa_cons (pv 2) pa_nil)) rfl)
      (pss_one (ps_fld (pv 0) (pe_callTy (k_tuple (K := K) rfl) (by rfl) T.tuple (by decide +kernel) (pa_cons (pe_lc (own := [("row", 5)]) rfl sc_Paper_init.nd (k_list (K := K) rfl (pv 3)) (blkOk_by (N := N_Paper_init) (sc := defScope s_Paper_init) (by decide +kernel)) (fun _ _ _ _ _ => (pg_name (i := 5) sc_Paper_init.nd rfl (by first | exact .inl rfl | exact .inr rfl))) (fun _ _ _ _ _ => pts_nil) (fun _ _ _ _ _ => (pe_callTy (k_tuple (K := K) rfl) (by rfl) T.tuple (by decide +kernel) (pa_cons (pe_lc (own := [("entry", 6)]) rfl sc_Paper_init.nd (k_list (K := K) rfl (pv 5)) (blkOk_by (N := N_Paper_init) (sc := { kind := .function, names := [(".0", .local), ("row", .local), ("tuple", .globalImplicit)], isGenerator := false, isCoroutine := false }) (by decide +kernel)) (fun _ _ _ _ _ => (pg_name (i := 6) sc_Paper_init.nd rfl (by first | exact .inl rfl | exact .inr rfl))) (fun _ _ _ _ _ => pts_nil) (fun _ _ _ _ _ => (pe_callTy (k_tuple (K := K) rfl) (by rfl) T.tuple (by decide +kernel) (pa_cons (pv 6) pa_nil)))) pa_nil)))) pa_nil)) rfl)))), ?_⟩
  obtain ⟨p1, p2, p3⟩ := hp
  have p1 : sk.length ≤ sizeLine := p1
  have p3 : tn ≤ sizeLine := p3
  have h2 : Ls sk b H := h2
  have h3 : Ls cv c H := h3
  have h4 : Tbl tn d H := h4
  refine q_fld (φ := AnyS) (a := x) hx0 (ev_is rfl) (ev_anyS (ev_tupL (ev_ls (ev_lcm (fun s : List Int => s) [] (evi_list (ev_var rfl h2)) p1 (fun _ => rfl) (fun z y H1 hz e hy => ev_tupT (ev_rv rfl hy)))))) T.cPaper T.nPaper_sketches (by decide) fun v1 H1 e1 _ => ?_
  rw [putF_new (by rfl)]
  have x1 := e1 _ _ hx0
  have o1 : Off x H (upd H1 x (.ins (CPaper K) dx (([] : List (Str × V)) ++ [(("sketches" : Str), v1)]))) := (Off.of e1).trans Off.upd
  have c3 : Ls cv c (upd H1 x (.ins (CPaper K) dx (([] : List (Str × V)) ++ [(("sketches" : Str), v1)]))) := ls_ins (Mo.mo e1 h3) x1
  have c4 : Tbl tn d (upd H1 x (.ins (CPaper K) dx (([] : List (Str × V)) ++ [(("sketches" : Str), v1)]))) := tbl_ins (Mo.mo e1 h4) x1
  have x2 : upd H1 x (.ins (CPaper K) dx (([] : List (Str × V)) ++ [(("sketches" : Str), v1)])) x = some (.ins (CPaper K) dx [(("sketches" : Str), v1)]) := upd_same
  generalize upd H1 x (.ins (CPaper K) dx (([] : List (Str × V)) ++ [(("sketches" : Str), v1)])) = H2 at o1 c3 c4 x2
  refine q_fld (φ := AnyS) (a := x) x2 (ev_is rfl) (ev_anyS (ev_tupL (ev_var rfl c3))) T.cPaper T.nPaper_cover (by show 1 < 1000; decide) fun v2 H3 e3 _ => ?_
  rw [putF_new (by rfl)]
  have x3 := e3 _ _ x2
  have o3 : Off x H (upd H3 x (.ins (CPaper K) dx (([(("sketches" : Str), v1)] : List (Str × V)) ++ [(("cover" : Str), v2)]))) := (off_same_r o1 e3).trans Off.upd
  have d4 : Tbl tn d (upd H3 x (.ins (CPaper K) dx (([(("sketches" : Str), v1)] : List (Str × V)) ++ [(("cover" : Str), v2)]))) := tbl_ins (Mo.mo e3 c4) x3
  have x4 : upd H3 x (.ins (CPaper K) dx (([(("sketches" : Str), v1)] : List (Str × V)) ++ [(("cover" : Str), v2)])) x = some (.ins (CPaper K) dx [(("sketches" : Str), v1), (("cover" : Str), v2)]) := upd_same
  generalize upd H3 x (.ins (CPaper K) dx (([(("sketches" : Str), v1)] : List (Str × V)) ++ [(("cover" : Str), v2)])) = H4 at o3 d4 x4
  obtain ⟨ta, tvs, rfl, t1, tl, t2⟩ := d4
  refine s_fld (φ := AnyS) (a := x) x4 (ev_is rfl) (ev_anyS (ev_tupL (ev_ls (ev_lc (γ := AnyV) (fun _ => true) (fun _ => ⟨⟩) (evi_raw (ev_is rfl) t1) (by rw [tl]; exact p3) (fun i y H5 e5 hi hy => ⟨rfl, rfl, et_yes, fun _ => ?_⟩) mono_name)))) T.cPaper T.nPaper_table (by show 2 < 1000; decide) fun v3 H5 e5 _ => ?_
  · obtain ⟨rb, ws, rfl, r1, rl, r2⟩ := t2 y (List.mem_of_getElem? hy)
    refine ev_anyV (ev_tupL (ev_ls (ev_lc (γ := AnyV) (fun _ => true) (fun _ => ⟨⟩) (evi_raw (ev_is rfl) (e5 _ _ r1)) (by rw [sizeLine_eq]; omega) (fun i2 y2 H6 e6 hi2 hy2 => ⟨rfl, rfl, et_yes, fun _ => ?_⟩) mono_name)))
    obtain ⟨c, us, rfl, u1⟩ := r2 y2 (List.mem_of_getElem? hy2)
    exact ev_anyV (ev_tupRaw (ev_is rfl) (e6 _ _ (e5 _ _ u1)))
  · rw [putF_new (by rfl)]
    exact q _ ((off_same_r o3 e5).trans Off.upd) ⟨dx, _, upd_same, v1, _, rfl, trivial, v2, _, rfl, trivial, v3, _, rfl, trivial, rfl⟩
/-! Answer -/
def OptL : Option (List Int) → Srt
  | none => Is .non
  | some xs => Ls xs
instance (o : Option (List Int)) : Mo (OptL o) := ⟨fun e h => by
  cases o with
  | none => exact h
  | some xs => exact Mo.mo (φ := Ls xs) e h⟩
abbrev AnsS (K : PySem.W.Frag) (told : Bool) (disk deeds : Option (List Int)) : Srt := Ins (CAnswer K) [("told", R told), ("paper", AnyS), ("disk", R disk), ("deeds", R deeds)]
theorem optL_ins {o : Option (List Int)} {v : V} {H : Hp} {x C dx : Addr} {fs : List (Str × V)} {u : HO} (h : OptL o v H) (hx : H x = some (.ins C dx fs)) : OptL o v (upd H x u) := by
  cases o with
  | none => exact h
  | some xs => exact ls_ins (show Ls xs v H from h) hx
abbrev N_Answer_init : List Str := ["self", "told", "paper", "disk", "deeds"]
theorem sc_Answer_init : FnScope N_Answer_init ["self", "told", "paper", "disk", "deeds"] (defScope s_Answer_init) := ⟨rfl, rfl, rfl, by decide +kernel, rfl, by decide +kernel, by decide +kernel⟩
abbrev sp_Answer_init (K : PySem.W.Frag) : Sp := Pi (CAnswer K) (fun g : T3 Bool (Option (List Int)) (Option (List Int)) => [R g.a, AnyS, R g.b, OptL g.c]) (fun g => True) (fun g => [("told", R g.a), ("paper", AnyS), ("disk", R g.b), ("deeds", R g.c)])
theorem ok_Answer_init {f : Addr} {fd : FuncData} (T : Txt K mg)  (F : FunD K "__init__" "Answer.__init__" (defArgs s_Answer_init) (defBody s_Answer_init) (defScope s_Answer_init) [] [] f fd) (M : Mk K (CAnswer K) f) : C8.Mak P w K mg base 1 "Answer" (CAnswer K) (sp_Answer_init K) [] := by
  refine mak_of F M T.gAnswer sc_Answer_init (fun _ _ _ _ _ _ us hl => match us, hl with | [_, _, _, _, _], _ => rfl) (pi_len fun g => rfl) (fun cdv A outer s H vs Q E hr h => ?_)
  obtain ⟨⟨told, disk, deeds⟩, x, dx, rest, rfl, hx0, h, hp, q⟩ := h
  obtain ⟨b, c, d, f, rfl, h2, h3, h4, h5⟩ := fas4 h
  refine ⟨_, (pss_cons (ps_fld (pv 0) (pv 1) rfl)
      (pss_cons (ps_fld (pv 0) (pv 2) rfl)
      (pss_cons (ps_fld (pv 0) (pv 3) rfl)
      (pss_one (ps_fld (pv 0) (pe_ifExp (pt_cmpR op_isN (pv 4) pe_non (nomark _)) pe_non (pe_callTy (k_tuple (K := K) rfl) (by rfl) T.tuple (by decide +kernel) (pa_cons (pv 4) pa_nil))) rfl))))), ?_⟩
  obtain rfl : b = .bl told := h2
  have h4 : Rep.rp H disk d := h4
  have h5 : OptL deeds f H := h5
  refine q_fld (φ := R told) (a := x) hx0 (ev_is rfl) (ev_rv rfl rfl) T.cAnswer T.nAnswer_told (by decide) fun v1 H1 e1 hv1 => ?_
  obtain rfl : v1 = .bl told := hv1
  rw [putF_new (by rfl)]
  have x1 := e1 _ _ hx0
  have t1 : Tx H1 (upd H1 x (.ins (CAnswer K) dx (([] : List (Str × V)) ++ [(("told" : Str), .bl told)]))) := tx_ins x1
  have o1 : Off x H (upd H1 x (.ins (CAnswer K) dx (([] : List (Str × V)) ++ [(("told" : Str), .bl told)]))) := (Off.of e1).trans Off.upd
  have c4 := Rep.mono ((tx_of e1).trans t1) h4
  have c5 : OptL deeds f (upd H1 x (.ins (CAnswer K) dx (([] : List (Str × V)) ++ [(("told" : Str), .bl told)]))) := optL_ins (Mo.mo e1 h5) x1
  have x2 : upd H1 x (.ins (CAnswer K) dx (([] : List (Str × V)) ++ [(("told" : Str), .bl told)])) x = some (.ins (CAnswer K) dx [(("told" : Str), .bl told)]) := upd_same
  generalize upd H1 x (.ins (CAnswer K) dx (([] : List (Str × V)) ++ [(("told" : Str), .bl told)])) = H2 at t1 o1 c4 c5 x2
  refine q_fld (φ := Is c) (a := x) x2 (ev_is rfl) (ev_is rfl) T.cAnswer T.nAnswer_paper (by show 1 < 1000; decide) fun v2 H3 e3 hv2 => ?_
  obtain rfl : v2 = c := hv2
  rw [putF_new (by rfl)]
  have x3 := e3 _ _ x2
  have t3 : Tx H3 (upd H3 x (.ins (CAnswer K) dx (([(("told" : Str), .bl told)] : List (Str × V)) ++ [(("paper" : Str), v2)]))) := tx_ins x3
  have o3 : Off x H (upd H3 x (.ins (CAnswer K) dx (([(("told" : Str), .bl told)] : List (Str × V)) ++ [(("paper" : Str), v2)]))) := (off_same_r o1 e3).trans Off.upd
  have d4 := Rep.mono ((tx_of e3).trans t3) c4
  have d5 : OptL deeds f (upd H3 x (.ins (CAnswer K) dx (([(("told" : Str), .bl told)] : List (Str × V)) ++ [(("paper" : Str), v2)]))) := optL_ins (Mo.mo e3 c5) x3
  have x4 : upd H3 x (.ins (CAnswer K) dx (([(("told" : Str), .bl told)] : List (Str × V)) ++ [(("paper" : Str), v2)])) x = some (.ins (CAnswer K) dx [(("told" : Str), .bl told), (("paper" : Str), v2)]) := upd_same
  generalize upd H3 x (.ins (CAnswer K) dx (([(("told" : Str), .bl told)] : List (Str × V)) ++ [(("paper" : Str), v2)])) = H4 at t3 o3 d4 d5 x4
  refine q_fld (φ := R disk) (a := x) x4 (ev_is rfl) (ev_rv rfl d4) T.cAnswer T.nAnswer_disk (by show 2 < 1000; decide) fun v3 H5 e5 hv3 => ?_
  rw [putF_new (by rfl)]
  have x5 := e5 _ _ x4
  have t5 : Tx H5 (upd H5 x (.ins (CAnswer K) dx (([(("told" : Str), .bl told), (("paper" : Str), v2)] : List (Str × V)) ++ [(("disk" : Str), v3)]))) := tx_ins x5
  have o5 : Off x H (upd H5 x (.ins (CAnswer K) dx (([(("told" : Str), .bl told), (("paper" : Str), v2)] : List (Str × V)) ++ [(("disk" : Str), v3)]))) := (off_same_r o3 e5).trans Off.upd
  have f3 := Rep.mono t5 hv3
  have f5 : OptL deeds f (upd H5 x (.ins (CAnswer K) dx (([(("told" : Str), .bl told), (("paper" : Str), v2)] : List (Str × V)) ++ [(("disk" : Str), v3)]))) := optL_ins (Mo.mo e5 d5) x5
  have x6 : upd H5 x (.ins (CAnswer K) dx (([(("told" : Str), .bl told), (("paper" : Str), v2)] : List (Str × V)) ++ [(("disk" : Str), v3)])) x = some (.ins (CAnswer K) dx [(("told" : Str), .bl told), (("paper" : Str), v2), (("disk" : Str), v3)]) := upd_same
  generalize upd H5 x (.ins (CAnswer K) dx (([(("told" : Str), .bl told), (("paper" : Str), v2)] : List (Str × V)) ++ [(("disk" : Str), v3)])) = H6 at t5 o5 f3 f5 x6
  refine s_fld (φ := R deeds) (a := x) x6 (ev_is rfl) ?_ T.cAnswer T.nAnswer_deeds (by show 3 < 1000; decide) fun v4 H7 e7 hv4 => ?_
  · cases deeds with
    | none =>
      obtain rfl : f = .non := f5
      exact ev_if (b := true) (et_test (ev_op (φ := Is .non) (ev_is rfl) ev_cn fun x y H1 _ hx hy Q q => ⟨hy, by rw [show x = .non from hx]; exact q _ _ (Same.refl _) rfl⟩)) (fun _ => ev_cn) (fun e => by cases e)
    | some xs =>
      have f5 : Ls xs f H6 := f5
      obtain ⟨l, vs, rfl, hl, r⟩ := f5
      exact ev_if (b := false) (et_test (ev_op (φ := Is (.ref l)) (ev_is rfl) ev_cn fun x y H1 _ hx hy Q q => ⟨hy, by rw [show x = .ref l from hx]; exact q _ _ (Same.refl _) rfl⟩)) (fun e => by cases e) (fun _ => Ev.imp (ev_tupL (ev_var rfl ⟨l, vs, rfl, hl, r⟩)) fun v H' hv => ⟨fun z => (by obtain ⟨a, vs, e, _⟩ := hv; rw [z] at e; cases e), hv⟩)
  · rw [putF_new (by rfl)]
    have t7 : Tx H7 (upd H7 x (.ins (CAnswer K) dx (([(("told" : Str), .bl told), (("paper" : Str), v2), (("disk" : Str), v3)] : List (Str × V)) ++ [(("deeds" : Str), v4)]))) := tx_ins (e7 _ _ x6)
    exact q _ ((off_same_r o5 e7).trans Off.upd) ⟨dx, _, upd_same, _, _, rfl, rfl, _, _, rfl, trivial, v3, _, rfl, Rep.mono ((tx_of e7).trans t7) f3, v4, _, rfl, Rep.mono t7 hv4, rfl⟩
/-! Search -/
section
variable {σ : L2.St} {H : Hp} {ta tv : TE} {φ : Srt} {D : Ends} {tz : TS} {f : Str} {a C dx : Addr} {fs : List (Str × V)}
/-- a new attribute -/
theorem s_fldX (ha : H a = some (.ins C dx fs)) (ho : Ev ta σ H (Is (.ref a))) (hv : Ev tv σ H φ) (c : Cls K C) (n : NoAttr K C f) (hl : fs.length < 1000) (hn : (fs.map (·.1)).contains f = false) [Mo φ]
    (k : ∀ v H1 H2, Same H H1 → φ v H1 → H2 a = some (.ins C dx (fs ++ [(f, v)])) → Off a H1 H2 → Tx H1 H2 → (∀ b xs, H1 b = some (.lst xs) → H2 b = some (.lst xs)) → D.nx σ H2) : sFld K ta tv f D σ H :=
  s_fld ha ho hv c n hl fun v H1 e1 hv1 => by
    rw [putF_new hn]
    exact k v H1 _ e1 hv1 upd_same Off.upd (tx_ins (e1 _ _ ha)) fun b xs hb => by
      rw [upd_ne (ne_of hb (e1 _ _ ha) (by intro z; cases z))]
      exact hb
theorem q_fldX (ha : H a = some (.ins C dx fs)) (ho : Ev ta σ H (Is (.ref a))) (hv : Ev tv σ H φ) (c : Cls K C) (n : NoAttr K C f) (hl : fs.length < 1000) (hn : (fs.map (·.1)).contains f = false) [Mo φ]
    (k : ∀ v H1 H2, Same H H1 → φ v H1 → H2 a = some (.ins C dx (fs ++ [(f, v)])) → Off a H1 H2 → Tx H1 H2 → (∀ b xs, H1 b = some (.lst xs) → H2 b = some (.lst xs)) → tz D σ H2) : tSeq (sFld K ta tv f) tz D σ H := s_fldX (D := { D with nx := tz D }) ha ho hv c n hl hn k
theorem off_free {x b : Addr} {H H' : Hp} {o : HO} (h : Off x H H') (hx : H' x = some o) (hb : H' b = none) : H b = none := by
  cases e : H b with
  | none => rfl
  | some u =>
    by_cases c : b = x
    · rw [c, hx] at hb
      cases hb
    · rw [h b u c e] at hb
      cases hb
theorem At.kept {α : Type} [Rep α] {l : Addr} {xs : List α} {H H' : Hp} (h : At l xs H) (t : Tx H H') (k : ∀ b ys, H b = some (.lst ys) → H' b = some (.lst ys)) : At l xs H' := let ⟨vs, a, r⟩ := h; ⟨vs, k _ _ a, Rps.mono t r⟩
end
structure SS where
  sk : List (List Int)
  og : List (Option (Int × Int))
  found : Int
abbrev SeF (m p : V) (lp ls lo : Addr) (f : Int) : List (Str × V) := [(("_machine" : Str), m), (("_piece" : Str), p), (("_packed" : Str), .ref lp), (("sketches" : Str), .ref ls), (("origins" : Str), .ref lo), (("found" : Str), .int f)]
/-- where a search stands -/
structure SA where
  x : Addr
  lp : Addr
  ls : Addr
  lo : Addr
  m : V
  p : V
def SeAt (K : PySem.W.Frag) (A : SA) (S : SS) (H : Hp) : Prop := (∃ dx, H A.x = some (.ins (CSearch K) dx (SeF A.m A.p A.lp A.ls A.lo S.found))) ∧ At A.lp (S.sk.map packI) H ∧ At A.ls S.sk H ∧ At A.lo S.og H ∧ A.lp ≠ A.ls ∧ A.lp ≠ A.lo ∧ A.ls ≠ A.lo
def spSeInit (K : PySem.W.Frag) : Sp := fun vs H Q _ => ∃ x dx m p, vs = [.ref x, m, p] ∧ H x = some (.ins (CSearch K) dx []) ∧ ∀ H' lp ls lo, Off x H H' → H lp = none → H ls = none → H lo = none → SeAt K ⟨x, lp, ls, lo, m, p⟩ ⟨[], [], -1⟩ H' → Q .non H'
abbrev N_Search_init : List Str := ["self", "machine", "piece"]
theorem sc_Search_init : FnScope N_Search_init ["self", "machine", "piece"] (defScope s_Search_init) := ⟨rfl, rfl, rfl, by decide +kernel, rfl, by decide +kernel, by decide +kernel⟩
abbrev sp_Search_init (K : PySem.W.Frag) : Sp := spSeInit K
theorem ok_Search_init {f : Addr} {fd : FuncData} (T : Txt K mg)  (F : FunD K "__init__" "Search.__init__" (defArgs s_Search_init) (defBody s_Search_init) (defScope s_Search_init) [] [] f fd) (M : Mk K (CSearch K) f) : C8.Mak P w K mg base 1 "Search" (CSearch K) (sp_Search_init K) [] := by
  refine mak_of F M T.gSearch sc_Search_init (fun _ _ _ _ _ _ us hl => match us, hl with | [_, _, _], _ => rfl) (fun vs H Q E ⟨x, dx, m, p, e, _⟩ => by rw [e]; rfl) (fun cdv A outer s H vs Q E hr h => ?_)
  obtain ⟨x, dx, m, p, rfl, hx0, q⟩ := h
  refine ⟨_, (pss_cons (ps_fld (pv 0) (pv 1) rfl)
      (pss_cons (ps_fld (pv 0) (pv 2) rfl)
      (pss_cons (ps_fld (pv 0) (pe_lst pa_nil) rfl)
      (pss_cons (ps_fld (pv 0) (pe_lst pa_nil) rfl)
      (pss_cons (ps_fld (pv 0) (pe_lst pa_nil) rfl)
      (pss_one (ps_fld (pv 0) (pe_un un_neg pe_int) rfl))))))), ?_⟩
  refine q_fldX (φ := Is m) hx0 (ev_is rfl) (ev_is rfl) T.cSearch T.nSearch_machine (by decide) (by rfl) fun v1 H1 H2 e1 hv1 x2 o1 _ _ => ?_
  obtain rfl : v1 = m := hv1
  have q1 := (Off.of e1).trans o1
  refine q_fldX (φ := Is p) x2 (ev_is rfl) (ev_is rfl) T.cSearch T.nSearch_piece (by show 1 < 1000; decide) (by rfl) fun v2 H3 H4 e3 hv2 x4 o3 _ _ => ?_
  obtain rfl : v2 = p := hv2
  have q2 := (q1.trans (Off.of e3)).trans o3
  refine q_fldX (φ := NLs H4 ([] : List Int)) x4 (ev_is rfl) ev_nl0 T.cSearch T.nSearch_packed (by show 2 < 1000; decide) (by rfl) fun v3 H5 H6 e5 hv3 x6 o5 t5 k5 => ?_
  obtain ⟨lp, rfl, np, ap⟩ := at_of hv3
  have ap6 := ap.kept t5 k5
  have q3 := (q2.trans (Off.of e5)).trans o5
  have fp := off_free q2 x4 np
  refine q_fldX (φ := NLs H6 ([] : List (List Int))) x6 (ev_is rfl) ev_nl0 T.cSearch T.nSearch_sketches (by show 3 < 1000; decide) (by rfl) fun v4 H7 H8 e7 hv4 x8 o7 t7 k7 => ?_
  obtain ⟨ls, rfl, ns, as⟩ := at_of hv4
  have ap8 := (ap6.same e7).kept t7 k7
  have as8 := as.kept t7 k7
  have q4 := (q3.trans (Off.of e7)).trans o7
  have fs := off_free q3 x6 ns
  refine q_fldX (φ := NLs H8 ([] : List (Option (Int × Int)))) x8 (ev_is rfl) ev_nl0 T.cSearch T.nSearch_origins (by show 4 < 1000; decide) (by rfl) fun v5 H9 H10 e9 hv5 x10 o9 t9 k9 => ?_
  obtain ⟨lo, rfl, no, ao⟩ := at_of hv5
  have ap10 := (ap8.same e9).kept t9 k9
  have as10 := (as8.same e9).kept t9 k9
  have ao10 := ao.kept t9 k9
  have q5 := (q4.trans (Off.of e9)).trans o9
  have fo := off_free q4 x8 no
  have n1 : lp ≠ ls := fun z => by obtain ⟨vs, hh, _⟩ := ap6; rw [z, ns] at hh; cases hh
  have n2 : lp ≠ lo := fun z => by obtain ⟨vs, hh, _⟩ := ap8; rw [z, no] at hh; cases hh
  have n3 : ls ≠ lo := fun z => by obtain ⟨vs, hh, _⟩ := as8; rw [z, no] at hh; cases hh
  refine s_fldX (φ := R (-1 : Int)) x10 (ev_is rfl) (fun H1 e Q q => ⟨1, rfl, q _ H1 (Same.refl _) rfl⟩) T.cSearch T.nSearch_found (by show 5 < 1000; decide) (by rfl) fun v6 H11 H12 e11 hv6 x12 o11 t11 k11 => ?_
  obtain rfl : v6 = .int (-1) := hv6
  exact q H12 lp ls lo ((q5.trans (Off.of e11)).trans o11) fp fs fo ⟨⟨dx, x12⟩, (ap10.same e11).kept t11 k11, (as10.same e11).kept t11 k11, (ao10.same e11).kept t11 k11, n1, n2, n3⟩
end
end RW
set_option Elab.async false
set_option linter.all false
set_option maxRecDepth 100000
set_option maxHeartbeats 4000000
namespace RW
open PySem PySem.Spec PyProof.Rows L2
local macro_rules | `(tactic| walk_at "sm") => `(tactic| first
  | exact Same.refl _
  | assumption
  | exact same_new (by assumption)
  | (refine Same.trans ?_ (by assumption); walk_at "sm")
  | (refine Same.trans ?_ (same_new (by assumption)); walk_at "sm"))
local macro_rules | `(tactic| walk_at "rp") => `(tactic| first
  | assumption
  | exact rfl
  | (refine Rep.mono (tx_of ?_) (by assumption); walk_at "sm")
  | (refine Mo.mo ?_ (by assumption); walk_at "sm"))
local macro_rules | `(tactic| walk_at "ev") => `(tactic| first
  | exact ev_ci
  | exact ev_cs
  | exact ev_cb
  | exact ev_cn
  | (refine @ev_rv _ _ _ _ _ _ _ rfl ?_; walk_at "rp")
  | (refine @ev_var _ _ _ _ _ ?_ rfl ?_; (first | infer_instance | skip); walk_at "rp")
  | (refine ev_ii ?_ ?_ <;> walk_at "ev")
  | (refine ev_ib ?_ ?_ <;> walk_at "ev")
  | (refine ev_eqI ?_ ?_ <;> walk_at "ev")
  | (refine ev_neI ?_ ?_ <;> walk_at "ev")
  | (refine ev_lenT ?_ <;> walk_at "ev")
  | (refine ev_lenL ?_ <;> walk_at "ev")
  | (refine ev_int1 ?_ <;> walk_at "ev")
  | (refine et_test ?_ <;> walk_at "ev")
  | (refine et_B ?_ <;> walk_at "ev")
  | (refine et_not ?_ <;> walk_at "ev")
  | (refine et_or ?_ (fun _ => ?_) <;> walk_at "ev")
  | (refine et_and ?_ (fun _ => ?_) <;> walk_at "ev"))
section
variable {P : Program} {w : World} {K : PySem.W.Frag} {mg : Str → Option Value} {base : Heap}
/-! Search.place -/
def SA.all (A : SA) : List Addr := [A.x, A.lp, A.ls, A.lo]
def hitI (S : SS) (sk : List Int) : Option Nat := S.sk.findIdx? fun o => decide (Builtin.bitAnd (packI sk) (packI o) = packI sk)
def placeI (M : Mach) (S : SS) (sk : List Int) (og : Option (Int × Int)) : Int × SS :=
  match hitI S sk with
  | some i => ((i : Int), S)
  | none => ((S.sk.length : Int), ⟨S.sk ++ [sk], S.og ++ [og], if (decide (S.found < 0) && (meetI sk M.first).isSome) = true then (S.sk.length : Int) else S.found⟩)
theorem SeAt.same {A : SA} {S : SS} {H H' : Hp} (h : SeAt K A S H) (e : Same H H') : SeAt K A S H' := let ⟨⟨dx, h1⟩, h2, h3, h4, n⟩ := h; ⟨⟨dx, e _ _ h1⟩, h2.same e, h3.same e, h4.same e, n⟩
theorem SeAt.tx {A : SA} {S : SS} {H H' : Hp} (h : SeAt K A S H) (e : OffL A.all H H') : Tx H H' := fun a xs ha => by
  obtain ⟨⟨dx, h1⟩, ⟨v1, h2, _⟩, ⟨v2, h3, _⟩, ⟨v3, h4, _⟩, _⟩ := h
  refine e a _ (fun hm => ?_) ha
  have : a = A.x ∨ a = A.lp ∨ a = A.ls ∨ a = A.lo := by simpa [SA.all] using hm
  rcases this with z | z | z | z <;> subst z
  · rw [h1] at ha; cases ha
  · rw [h2] at ha; cases ha
  · rw [h3] at ha; cases ha
  · rw [h4] at ha; cases ha
theorem ev_isF {σ : L2.St} {H : Hp} {te : TE} {u : V} {φ : Srt} [Mo φ] (h : Ev te σ H (Is u)) (hu : φ u H) : Ev te σ H φ := fun H1 e Q q => h H1 e Q fun v H2 e2 hv => q v H2 e2 (by rw [show v = u from hv]; exact Mo.mo (e.trans e2) hu)
theorem ins_off {x : Addr} {C dx : Addr} {fs : List (Str × V)} {ls : List Addr} {H H' : Hp} (h : H x = some (.ins C dx fs)) (l : Ll ls H) (o : OffL ls H H') : H' x = some (.ins C dx fs) := o _ _ (l.not h (by intro _ z; cases z)) h
theorem SeAt.mach {A : SA} {S : SS} {H H' : Hp} {M : Mach} {v : V} (h : SeAt K A S H) (e : OffL A.all H H') (hm : MachS K M v H) : MachS K M v H' := by
  have t := h.tx e
  obtain ⟨⟨dx, h1⟩, ⟨v1, h2, _⟩, ⟨v2, h3, _⟩, ⟨v3, h4, _⟩, _⟩ := h
  obtain ⟨a, dy, ws, rfl, ha, c, r1, rfl, hc, d, r2, rfl, hd, f, r3, rfl, hf, rfl⟩ := hm
  refine ⟨a, dy, _, rfl, e a _ (fun hm => ?_) ha, c, _, rfl, Rep.mono t hc, d, _, rfl, Rep.mono t hd, f, _, rfl, Rep.mono t hf, rfl⟩
  have : a = A.x ∨ a = A.lp ∨ a = A.ls ∨ a = A.lo := by simpa [SA.all] using hm
  rcases this with z | z | z | z <;> subst z
  · rw [h1] at ha
    have := congrArg List.length (HO.ins.inj (Option.some.inj ha)).2.2
    simp at this
  · rw [h2] at ha; cases ha
  · rw [h3] at ha; cases ha
  · rw [h4] at ha; cases ha
theorem ev_sf {σ : L2.St} {H : Hp} {x C dx : Addr} {fs : List (Str × V)} {f : Str} {u : V} {i : Nat} (hs : σ[i]? = some (some (.ref x))) (h : H x = some (.ins C dx fs)) (c : Cls K C) (n : NoAttr K C f) (l : fs.lookup f = some u) : Ev (tFld K (tVar i) f) σ H (Is u) := fun H1 e Q q =>
  ⟨_, hs, x, C, dx, fs, u, rfl, e _ _ h, c, n, l, q u H1 (Same.refl _) rfl⟩
/-- masks as a sketch has them -/
def skOk (sk : List Int) : Prop := sk.length ≤ 24 ∧ ∀ m ∈ sk, 0 ≤ m ∧ m < 65536
def spPlace (K : PySem.W.Frag) : Sp := fun vs H Q _ => ∃ (A : SA) (S : SS) (M : Mach) (sk : List Int) (og : Option (Int × Int)) (a b : V), vs = [.ref A.x, a, b] ∧ SeAt K A S H ∧ MachS K M A.m H ∧ Rep.rp H sk a ∧ Rep.rp H og b ∧ skOk sk ∧ S.sk.length < sizeLine ∧ S.og.length < sizeLine ∧
  ∀ v H', OffL A.all H H' → SeAt K A (placeI M S sk og).2 H' → v = .int (placeI M S sk og).1 → Q v H'
theorem hit_none {S : SS} {sk : List Int} (h : ∀ o ∈ S.sk, ¬ Builtin.bitAnd (packI sk) (packI o) = packI sk) : hitI S sk = none := by
  unfold hitI
  rw [List.findIdx?_eq_none_iff]
  intro o ho
  exact decide_eq_false (h o ho)
theorem hit_some {S : SS} {sk o : List Int} {i : Nat} (hi : S.sk[i]? = some o) (h : Builtin.bitAnd (packI sk) (packI o) = packI sk) (hb : ∀ o ∈ S.sk.take i, ¬ Builtin.bitAnd (packI sk) (packI o) = packI sk) : hitI S sk = some i := by
  unfold hitI
  obtain ⟨hl, e⟩ := List.getElem?_eq_some_iff.mp hi
  rw [List.findIdx?_eq_some_iff_getElem]
  refine ⟨hl, by rw [e]; exact decide_eq_true h, fun j hj => ?_⟩
  have hm : S.sk[j] ∈ S.sk.take i := List.mem_iff_getElem.mpr ⟨j, by rw [List.length_take]; omega, by rw [List.getElem_take]⟩
  simpa using hb _ hm
abbrev N_Search_place : List Str := ["self", "sketch", "origin", "packed", "number", "other"]
theorem sc_Search_place : FnScope N_Search_place ["self", "sketch", "origin"] (defScope s_Search_place) := ⟨rfl, rfl, rfl, by decide +kernel, rfl, by decide +kernel, by decide +kernel⟩
abbrev sp_Search_place (K : PySem.W.Frag) : Sp := spPlace K
theorem ok_Search_place {f : Addr} {fd : FuncData} (T : Txt K mg) (c_packed_sketch : C8.Cal P w K mg base 1 "packed_sketch" sp_packed_sketch []) (c_meet : C8.Cal P w K mg base 1 "meet" sp_meet []) (F : FunD K "place" "Search.place" (defArgs s_Search_place) (defBody s_Search_place) (defScope s_Search_place) [] [] f fd) (me : Meth K (CSearch K) "place" f) : C8.Met P w K mg base 2 (CSearch K) "place" (sp_Search_place K) [] := by
  refine met_of F T.cSearch me sc_Search_place (fun _ _ _ _ _ _ us hl => match us, hl with | [_, _, _], _ => rfl) (fun vs H Q E ⟨A, S, M, sk, og, a, b, e, _⟩ => by rw [e]; rfl) (fun cdv A outer s H vs Q E hr h => ?_)
  obtain ⟨⟨x, lp, ls, lo, m, p⟩, S, M, sk, og, a, b, rfl, hS, hM, hsk, hog, hok, hz, hzo, q⟩ := h
  refine ⟨_, (pss_cons (ps_set (i := 3) sc_Search_place.nd rfl (by first | exact .inl rfl | exact .inr rfl) (C8.pe_c c_packed_sketch hr (by decide) (by rfl) (pa_cons (pv 1) pa_nil)))
      (pss_cons (ps_for PassesOwn.never rfl (k_enum (K := K) rfl (by rfl) T.enumerate (pa_cons (k_fld (K := K) rfl (pv 0) rfl) pa_nil)) (k_gtup (K := K) (n := 2) rfl rfl (pgs_cons (pg_name (i := 4) sc_Search_place.nd rfl (by first | exact .inl rfl | exact .inr rfl)) (pgs_cons (pg_name (i := 5) sc_Search_place.nd rfl (by first | exact .inl rfl | exact .inr rfl)) pgs_nil)))
        (pss_one (ps_if (pt_cmpR op_eq (pe_op op_and (pv 3) (pv 5)) (pv 3) (nomark _)) (pss_one (ps_ret (pv 4))) pss_nil)))
      (pss_cons (ps_expr (pe_bm PySem.F.plainAttrs_list PySem.F.slot_list_append PySem.F.type_list_append mt_append (k_fld (K := K) rfl (pv 0) rfl) (pa_cons (pv 3) pa_nil)))
      (pss_cons (ps_expr (pe_bm PySem.F.plainAttrs_list PySem.F.slot_list_append PySem.F.type_list_append mt_append (k_fld (K := K) rfl (pv 0) rfl) (pa_cons (pv 1) pa_nil)))
      (pss_cons (ps_expr (pe_bm PySem.F.plainAttrs_list PySem.F.slot_list_append PySem.F.type_list_append mt_append (k_fld (K := K) rfl (pv 0) rfl) (pa_cons (pv 2) pa_nil)))
      (pss_cons (ps_if (PW.pt (pw_and (pt_cmpR op_lt (k_fld (K := K) rfl (pv 0) rfl) pe_int (nomark _)) (pw_and1 (pt_cmpR op_notN (C8.pe_c c_meet hr (by decide) (by rfl) (pa_cons (pv 1) (pa_cons (k_fld (K := K) rfl (k_fld (K := K) rfl (pv 0) rfl) rfl) pa_nil))) pe_non (nomark _))))) (pss_one (ps_fld (pv 0) (pe_op op_sub (pe_callB (k_len (K := K) rfl) (by rfl) T.len PySem.boot_len (pa_cons (k_fld (K := K) rfl (pv 0) rfl) pa_nil)) pe_int) rfl)) pss_nil)
      (pss_one (ps_ret (pe_op op_sub (pe_callB (k_len (K := K) rfl) (by rfl) T.len PySem.boot_len (pa_cons (k_fld (K := K) rfl (pv 0) rfl) pa_nil)) pe_int))))))))), ?_⟩
  have hM : MachS K M m H := hM
  refine q_asg (ev_pp sk (ea_cons (ev_rv rfl hsk) ea_nil) hok) fun v3 H1 e1 hv3 => ?_
  obtain rfl : v3 = .int (packI sk) := hv3
  have S1 := hS.same e1
  obtain ⟨⟨dx, hx1⟩, ap1, as1, ao1, n12, n13, n23⟩ := id S1
  have hx1 : H1 x = some (.ins (CSearch K) dx (SeF m p lp ls lo S.found)) := hx1
  refine q_for (evi_enumL (ea_cons (Ev.imp (ψ := Ls (S.sk.map packI)) (fun H2 e Q q => ev_sf (i := 0) rfl hx1 T.cSearch T.nSearch_packed rfl H2 e Q fun v H3 e3 hv => q v H3 e3 (show v = .ref lp ∧ Same H1 H3 from ⟨hv, e.trans e3⟩)) fun v H' hv => by rw [hv.1]; exact (ap1.same hv.2).ls) ea_nil)) (fun H2 i σ' H' => Same H2 H' ∧ (∃ y z, σ' = [some (.ref x), some a, some b, some (.int (packI sk)), y, z]) ∧ ∀ o ∈ S.sk.take i, ¬ Builtin.bitAnd (packI sk) (packI o) = packI sk) (fun H2 e2 => ⟨Same.refl _, ⟨none, none, rfl⟩, by simp⟩) (fun H2 i σ' H' p => p.1) ?_ ?_
  · rintro H2 i y σ' H' H'' e2 hi ⟨s1, ⟨y1, z1, rfl⟩, hb⟩ s2 ⟨⟨k, o⟩, hzk, hxk⟩
    obtain ⟨hk1, hk2⟩ := List.getElem?_zip_eq_some.mp hzk
    have hin : i < S.sk.length := by
      have := (List.getElem?_eq_some_iff.mp hk2).1
      rw [List.length_map] at this
      exact this
    rw [List.length_map, rg_get hin] at hk1
    have hki : k = (i : Int) := (Option.some.inj hk1).symm
    obtain ⟨o', ho', rfl⟩ : ∃ o', S.sk[i]? = some o' ∧ packI o' = o := by
      rw [List.getElem?_map, List.getElem?_eq_getElem hin] at hk2
      exact ⟨_, List.getElem?_eq_getElem hin, Option.some.inj hk2⟩
    refine g_pair hxk fun x1 x2 hx1' hx2' => ?_
    have hx1' : Rep.rp H'' k x1 := hx1'
    have hx2' : Rep.rp H'' (packI o') x2 := hx2'
    have sA := ((e1.trans e2).trans s1).trans s2
    refine s_when (b := decide (Builtin.bitAnd (packI sk) (packI o') = packI sk)) (et_test (ev_eqI (ev_ii (g := fun i j => Builtin.bitAnd i j) (ev_rv (x := packI sk) rfl rfl) (ev_rv rfl hx2')) (ev_rv (x := packI sk) rfl rfl))) (fun eb H6 e6 => ?_) (fun eb H6 e6 => ⟨(s1.trans s2).trans e6, ⟨some x1, some x2, rfl⟩, fun o ho => ?_⟩)
    · have hh := hit_some ho' (of_decide_eq_true eb) hb
      refine s_ret (ev_rv (x := k) rfl (Rep.mono (tx_of e6) hx1')) fun v H7 e7 hv => ?_
      have sB := (sA.trans e6).trans e7
      have ep : placeI M S sk og = ((i : Int), S) := by unfold placeI; rw [hh]
      rw [ep] at q
      exact q v H7 (OffL.of sB) (hS.same sB) (by rw [show v = .int k from hv, hki])
    · rw [take_snoc ho'] at ho
      rcases List.mem_append.mp ho with ho | ho
      · exact hb o ho
      · rw [show o = o' from by simpa using ho]
        exact of_decide_eq_false eb
  · rintro H2 σ' H' e2 ⟨s1, ⟨y1, z1, rfl⟩, hb⟩
    have hn : hitI S sk = none := hit_none (by
      have hl : ((rg (S.sk.map packI).length).zip (S.sk.map packI)).length = S.sk.length := by rw [List.length_zip, rg_len, List.length_map]; omega
      rw [hl, List.take_length] at hb
      exact hb)
    have sA := (e1.trans e2).trans s1
    have M2 := Mo.mo sA hM
    have sk2 := Rep.mono (tx_of sA) hsk
    have og2 := Rep.mono (tx_of sA) hog
    have SA2 := hS.same sA
    obtain ⟨⟨dx2, hx2⟩, ap2, as2, ao2, _⟩ := id SA2
    have hx2 : H' x = some (.ins (CSearch K) dx2 (SeF m p lp ls lo S.found)) := hx2
    have ap2 : At lp (S.sk.map packI) H' := ap2
    have as2 : At ls S.sk H' := as2
    have ao2 : At lo S.og H' := ao2
    clear e2 s1
    refine q_appA (x := packI sk) ap2 (by rw [List.length_map]; exact hz) (ev_sf (i := 0) rfl hx2 T.cSearch T.nSearch_packed rfl) (ev_rv rfl rfl) fun H3 o3 ap3 => ?_
    have hx3 := ins_off hx2 ap2.ll o3
    have as3 := as2.off ap2.ll o3 (by simpa using (Ne.symm n12))
    have ao3 := ao2.off ap2.ll o3 (by simpa using (Ne.symm n13))
    have sk3 := Rep.mono (tx_off ap2.ll o3) sk2
    have og3 := Rep.mono (tx_off ap2.ll o3) og2
    have M3 : MachS K M m H3 := MoL.mo ap2.ll o3 M2
    refine q_appA (x := sk) as3 hz (ev_sf (i := 0) rfl hx3 T.cSearch T.nSearch_sketches rfl) (ev_rv rfl sk3) fun H4 o4 as4 => ?_
    have hx4 := ins_off hx3 as3.ll o4
    have ap4 := ap3.off as3.ll o4 (by simpa using n12)
    have ao4 := ao3.off as3.ll o4 (by simpa using (Ne.symm n23))
    have sk4 := Rep.mono (tx_off as3.ll o4) sk3
    have og4 := Rep.mono (tx_off as3.ll o4) og3
    have M4 : MachS K M m H4 := MoL.mo as3.ll o4 M3
    refine q_appA (x := og) ao4 hzo (ev_sf (i := 0) rfl hx4 T.cSearch T.nSearch_origins rfl) (ev_rv rfl og4) fun H5 o5 ao5 => ?_
    have hx5 := ins_off hx4 ao4.ll o5
    have ap5 := ap4.off ao4.ll o5 (by simpa using n13)
    have as5 := as4.off ao4.ll o5 (by simpa using n23)
    have sk5 := Rep.mono (tx_off ao4.ll o5) sk4
    have M5 : MachS K M m H5 := MoL.mo ao4.ll o5 M4
    have oA : OffL [x, lp, ls, lo] H H5 := (OffL.of sA).trans ((o3.more (by simp)).trans ((o4.more (by simp)).trans (o5.more (by simp))))
    clear o3 o4 o5 ap3 ap4 as3 as4 ao3 ao4 M3 M4 hx3 hx4 ap2 as2 ao2
    have el : ((S.sk ++ [sk]).length : Int) - 1 = (S.sk.length : Int) := by rw [List.length_append, List.length_singleton]; omega
    have mf : (S.sk ++ [sk]).map packI = S.sk.map packI ++ [packI sk] := by rw [List.map_append]; rfl
    have ep : placeI M S sk og = ((S.sk.length : Int), ⟨S.sk ++ [sk], S.og ++ [og], if (decide (S.found < 0) && (meetI sk M.first).isSome) = true then (S.sk.length : Int) else S.found⟩) := by unfold placeI; rw [hn]
    rw [ep] at q
    have fin : ∀ (f : Int) (H6 : Hp), H6 x = some (.ins (CSearch K) dx2 (SeF m p lp ls lo f)) → At ls (S.sk ++ [sk]) H6 → At lp (S.sk.map packI ++ [packI sk]) H6 → At lo (S.og ++ [og]) H6 → OffL [x, lp, ls, lo] H H6 → f = (if (decide (S.found < 0) && (meetI sk M.first).isSome) = true then (S.sk.length : Int) else S.found) →
        tRet (tOp (rI0 fun i j => .int (i - j)) (tCB (fun xs H Q => ∃ p ys, xs = [.ref p] ∧ (SqL K H p ys ∨ SqT K H p ys) ∧ Q (.int ys.length) H) (tCons (tFld K (tVar 0) "sketches") tNil)) (tC (.int 1))) { nx := fun _ H' => Q .non H', rt := Q } [some (.ref x), some a, some b, some (.int (packI sk)), y1, z1] H6 := by
      intro f H6 b1 b2 b3 b4 b5 b6
      refine s_ret (ev_ii (ev_lenL (ev_isF (φ := Ls (S.sk ++ [sk])) (ev_sf (i := 0) rfl b1 T.cSearch T.nSearch_sketches rfl) b2.ls)) ev_ci) fun v H7 e7 hv => q v H7 (b5.trans (OffL.of e7)) ⟨⟨dx2, by rw [← b6]; exact e7 _ _ b1⟩, by rw [mf]; exact b3.same e7, b2.same e7, b4.same e7, n12, n13, n23⟩ ?_
      rw [show v = .int (((S.sk ++ [sk]).length : Int) - 1) from hv, el]
    refine q_when (b := decide (S.found < 0) && (meetI sk M.first).isSome) (et_and (et_test (ev_ib (ev_isF (φ := R S.found) (ev_sf (i := 0) rfl hx5 T.cSearch T.nSearch_found rfl) rfl) ev_ci)) fun _ => et_test (ev_notN (ev_pp (sk, M.first) (ea_cons (ev_rv rfl sk5) (ea_cons (ev_mfirst T (ev_isF (φ := MachS K M) (ev_sf (i := 0) rfl hx5 T.cSearch T.nSearch_machine rfl) M5)) ea_nil)) (by show sk.length ≤ 1000; have := hok.1; omega)))) (fun eb H6 e6 => ?_) (fun eb H6 e6 => ?_)
    · refine s_fld (φ := R (((S.sk ++ [sk]).length : Int) - 1)) (a := x) (e6 _ _ hx5) (ev_is rfl) (ev_ii (ev_lenL (ev_isF (φ := Ls (S.sk ++ [sk])) (ev_sf (i := 0) rfl (e6 _ _ hx5) T.cSearch T.nSearch_sketches rfl) (as5.same e6).ls)) ev_ci) T.cSearch T.nSearch_found (by show 6 < 1000; decide) fun v H7 e7 hv => ?_
      obtain rfl : v = .int (((S.sk ++ [sk]).length : Int) - 1) := hv
      have x7 := (e6.trans e7) _ _ hx5
      have t7 : Tx H7 (upd H7 x (.ins (CSearch K) dx2 (putF "found" (.int (((S.sk ++ [sk]).length : Int) - 1)) (SeF m p lp ls lo S.found)))) := tx_ins x7
      have k7 : ∀ b ys, H7 b = some (.lst ys) → upd H7 x (.ins (CSearch K) dx2 (putF "found" (.int (((S.sk ++ [sk]).length : Int) - 1)) (SeF m p lp ls lo S.found))) b = some (.lst ys) := fun b ys hb => by
        rw [upd_ne (ne_of hb x7 (by intro z; cases z))]
        exact hb
      have o7 : OffL [x, lp, ls, lo] H7 (upd H7 x (.ins (CSearch K) dx2 (putF "found" (.int (((S.sk ++ [sk]).length : Int) - 1)) (SeF m p lp ls lo S.found)))) := OffL.upd (by simp)
      refine fin (S.sk.length : Int) _ ?_ (((as5.same (e6.trans e7))).kept t7 k7) ((ap5.same (e6.trans e7)).kept t7 k7) ((ao5.same (e6.trans e7)).kept t7 k7) ((oA.trans (OffL.of (e6.trans e7))).trans o7) (by rw [eb]; rfl)
      rw [upd_same, el]
      rfl
    · exact fin S.found H6 (e6 _ _ hx5) (as5.same e6) (ap5.same e6) (ao5.same e6) (oA.trans (OffL.of e6)) (by rw [eb]; rfl)
end
end RW
set_option Elab.async false
set_option linter.all false
set_option maxRecDepth 100000
set_option maxHeartbeats 4000000
namespace RW
open PySem PySem.Spec PyProof.Rows L2
local macro_rules | `(tactic| walk_at "sm") => `(tactic| first
  | exact Same.refl _
  | assumption
  | exact same_new (by assumption)
  | (refine Same.trans ?_ (by assumption); walk_at "sm")
  | (refine Same.trans ?_ (same_new (by assumption)); walk_at "sm"))
local macro_rules | `(tactic| walk_at "rp") => `(tactic| first
  | assumption
  | exact rfl
  | (refine Rep.mono (tx_of ?_) (by assumption); walk_at "sm")
  | (refine Mo.mo ?_ (by assumption); walk_at "sm"))
local macro_rules | `(tactic| walk_at "ev") => `(tactic| first
  | exact ev_ci
  | exact ev_cs
  | exact ev_cb
  | exact ev_cn
  | (refine @ev_rv _ _ _ _ _ _ _ rfl ?_; walk_at "rp")
  | (refine @ev_var _ _ _ _ _ ?_ rfl ?_; (first | infer_instance | skip); walk_at "rp")
  | (refine ev_ii ?_ ?_ <;> walk_at "ev")
  | (refine ev_ib ?_ ?_ <;> walk_at "ev")
  | (refine ev_eqI ?_ ?_ <;> walk_at "ev")
  | (refine ev_neI ?_ ?_ <;> walk_at "ev")
  | (refine ev_lenT ?_ <;> walk_at "ev")
  | (refine ev_lenL ?_ <;> walk_at "ev")
  | (refine ev_int1 ?_ <;> walk_at "ev")
  | (refine et_test ?_ <;> walk_at "ev")
  | (refine et_B ?_ <;> walk_at "ev")
  | (refine et_not ?_ <;> walk_at "ev")
  | (refine et_or ?_ (fun _ => ?_) <;> walk_at "ev")
  | (refine et_and ?_ (fun _ => ?_) <;> walk_at "ev"))
section
variable {P : Program} {w : World} {K : PySem.W.Frag} {mg : Str → Option Value} {base : Heap}
/-! Search.places -/
def stepP (M : Mach) (og : Option (Int × Int)) (r : List Int × SS) (part : List Int) : List Int × SS := (r.1 ++ [(placeI M r.2 part og).1], (placeI M r.2 part og).2)
def placesI (M : Mach) (S : SS) (og : Option (Int × Int)) (parts : List (List Int)) : List Int × SS := parts.foldl (stepP M og) ([], S)
def Wf (S : SS) : Prop := S.og.length = S.sk.length
theorem place_wf {M : Mach} {S : SS} {sk : List Int} {og : Option (Int × Int)} (h : Wf S) : Wf (placeI M S sk og).2 ∧ (placeI M S sk og).2.sk.length ≤ S.sk.length + 1 := by
  unfold placeI
  split
  · exact ⟨h, Nat.le_succ _⟩
  · refine ⟨?_, by rw [List.length_append]; exact Nat.le_refl _⟩
    show (S.og ++ [og]).length = (S.sk ++ [sk]).length
    rw [List.length_append, List.length_append, show S.og.length = S.sk.length from h]
    rfl
theorem places_wf {M : Mach} {og : Option (Int × Int)} : ∀ (ps : List (List Int)) (r : List Int × SS), Wf r.2 → Wf (ps.foldl (stepP M og) r).2 ∧ (ps.foldl (stepP M og) r).2.sk.length ≤ r.2.sk.length + ps.length ∧ (ps.foldl (stepP M og) r).1.length = r.1.length + ps.length
  | [], r, h => ⟨h, Nat.le_refl _, rfl⟩
  | p :: ps, r, h => by
    obtain ⟨h1, h2⟩ := place_wf (M := M) (sk := p) (og := og) h
    obtain ⟨a, b, c⟩ := places_wf (M := M) (og := og) ps (stepP M og r p) h1
    have e : (stepP M og r p).1.length = r.1.length + 1 := by show (r.1 ++ [_]).length = _; rw [List.length_append]; rfl
    refine ⟨a, ?_, ?_⟩
    · rw [List.length_cons]
      have : (stepP M og r p).2.sk.length ≤ r.2.sk.length + 1 := h2
      show ((ps.foldl (stepP M og) (stepP M og r p)).2).sk.length ≤ _
      omega
    · rw [List.length_cons]
      show ((ps.foldl (stepP M og) (stepP M og r p)).1).length = _
      omega
/-- where the piece stands -/
def PcAt (A : SA) (pc : List (List Int)) (H : Hp) : Prop := ∃ l, A.p = .ref l ∧ l ∉ A.all ∧ At l pc H
theorem PcAt.same {A : SA} {pc : List (List Int)} {H H' : Hp} (h : PcAt A pc H) (e : Same H H') : PcAt A pc H' := let ⟨l, a, b, c⟩ := h; ⟨l, a, b, c.same e⟩
theorem PcAt.off {A : SA} {pc : List (List Int)} {H H' : Hp} (h : PcAt A pc H) (o : OffL A.all H H') (t : Tx H H') : PcAt A pc H' := let ⟨l, a, b, vs, c, r⟩ := h; ⟨l, a, b, vs, o _ _ b c, Rps.mono t r⟩
theorem SeAt.here {A : SA} {S : SS} {H : Hp} (h : SeAt K A S H) : ∀ b ∈ A.all, ∃ o, H b = some o := fun b hb => by
  obtain ⟨⟨dx, h1⟩, ⟨v1, h2, _⟩, ⟨v2, h3, _⟩, ⟨v3, h4, _⟩, _⟩ := h
  have : b = A.x ∨ b = A.lp ∨ b = A.ls ∨ b = A.lo := by simpa [SA.all] using hb
  rcases this with z | z | z | z <;> subst z
  · exact ⟨_, h1⟩
  · exact ⟨_, h2⟩
  · exact ⟨_, h3⟩
  · exact ⟨_, h4⟩
theorem me_raw {σ : L2.St} {H : Hp} {t : TA} {C x dx : Addr} {fs : List (Str × V)} {m : Str} {sp : Sp} {E : XK} {i : Nat} {Q : VK} {φs : List Srt} (hs : σ[i]? = some (some (.ref x))) (h : H x = some (.ins C dx fs)) (hl : fs.lookup m = none) (ha : EvA t σ H φs)
    (q : ∀ vs H2, Same H H2 → Fas φs vs H2 → sp (.ref x :: vs) H2 Q E) : tMeth C m sp [] E (tVar i) t σ H Q :=
  ⟨_, hs, x, dx, fs, rfl, h, hl, ha H (Same.refl _) _ fun vs H2 e2 hv => by rw [List.append_nil]; exact q vs H2 e2 hv⟩
theorem SeAt.put {A : SA} {S : SS} {H : Hp} {D : Addr} {ws : List V} {o : HO} (h : SeAt K A S H) (hD : H D = some (.lst ws)) (n : D ∉ A.all) : SeAt K A S (upd H D o) := by
  have n' : A.x ≠ D ∧ A.lp ≠ D ∧ A.ls ≠ D ∧ A.lo ≠ D := by
    refine ⟨fun z => n ?_, fun z => n ?_, fun z => n ?_, fun z => n ?_⟩ <;> rw [← z] <;> simp [SA.all]
  obtain ⟨⟨dx, h1⟩, h2, h3, h4, h5⟩ := h
  exact ⟨⟨dx, by rw [upd_ne n'.1]; exact h1⟩, h2.other hD n'.2.1, h3.other hD n'.2.2.1, h4.other hD n'.2.2.2, h5⟩
def spPlaces (K : PySem.W.Frag) : Sp := fun vs H Q _ => ∃ (A : SA) (S : SS) (M : Mach) (pc : List (List Int)) (sk : List Int) (og : Option (Int × Int)) (a b : V), vs = [.ref A.x, a, b] ∧ SeAt K A S H ∧ MachS K M A.m H ∧ PcAt A pc H ∧ Rep.rp H sk a ∧ Rep.rp H og b ∧
  (sk.length ≤ 24 ∧ pc.length ≤ 4 ∧ ∀ s ∈ pc, s.length = sk.length) ∧ Wf S ∧ (∀ p ∈ withoutI sk pc, skOk p) ∧ S.sk.length + (withoutI sk pc).length ≤ sizeLine ∧
  ∀ v H', OffL A.all H H' → SeAt K A (placesI M S og (withoutI sk pc)).2 H' → NLs H (placesI M S og (withoutI sk pc)).1 v H' → Q v H'
abbrev N_Search_places : List Str := ["self", "sketch", "origin", "part"]
theorem sc_Search_places : FnScope N_Search_places ["self", "sketch", "origin"] (defScope s_Search_places) := ⟨rfl, rfl, rfl, by decide +kernel, rfl, by decide +kernel, by decide +kernel⟩
abbrev sp_Search_places (K : PySem.W.Frag) : Sp := spPlaces K
theorem ok_Search_places {f : Addr} {fd : FuncData} (T : Txt K mg) (c_without : C8.Cal P w K mg base 3 "without" sp_without []) (m_place : C8.Met P w K mg base 2 (CSearch K) "place" (sp_Search_place K) []) (F : FunD K "places" "Search.places" (defArgs s_Search_places) (defBody s_Search_places) (defScope s_Search_places) [] [] f fd) (me : Meth K (CSearch K) "places" f) : C8.Met P w K mg base 4 (CSearch K) "places" (sp_Search_places K) [] := by
  refine met_of F T.cSearch me sc_Search_places (fun _ _ _ _ _ _ us hl => match us, hl with | [_, _, _], _ => rfl) (fun vs H Q E ⟨A, S, M, pc, sk, og, a, b, e, _⟩ => by rw [e]; rfl) (fun cdv A outer s H vs Q E hr h => ?_)
  obtain ⟨A, S, M, pc, sk, og, a, b, rfl, hS, hM, hpc, hsk, hog, hl, hwf, hok, hz, q⟩ := h
  refine ⟨_, (pss_one (ps_ret (pe_lc (own := [("part", 3)]) rfl sc_Search_places.nd (k_list (K := K) rfl (C8.pe_c c_without hr (by decide) (by rfl) (pa_cons (pv 1) (pa_cons (k_fld (K := K) rfl (pv 0) rfl) pa_nil)))) (blkOk_by (N := N_Search_places) (sc := defScope s_Search_places) (by decide +kernel)) (fun _ _ _ _ _ => (pg_name (i := 3) sc_Search_places.nd rfl (by first | exact .inl rfl | exact .inr rfl))) (fun _ _ _ _ _ => pts_nil) (fun _ _ _ _ _ => (C8.pe_mt m_place hr (by decide) (pv 0) (pa_cons (pv 3) (pa_cons (pv 2) pa_nil))))))), ?_⟩
  obtain ⟨⟨dx, hx⟩, _⟩ := id hS
  obtain ⟨lc, hlc, nlc, hac⟩ := id hpc
  refine (ev_pn (E := C8.E0) (sk, pc) (ea_cons (ev_rv (i := 1) rfl hsk) (ea_cons (ev_isF (φ := Ls pc) (ev_sf (i := 0) rfl hx T.cSearch T.nSearch_piece rfl) (by show Ls pc A.p H; rw [hlc]; exact hac.ls)) ea_nil)) hl).go fun v H2 e2 hv => ?_
  obtain ⟨l, us, rfl, hl0, hl2, ru⟩ := hv
  have nl : l ∉ A.all := fun hm => by obtain ⟨o, ho⟩ := hS.here l hm; rw [hl0] at ho; cases ho
  have S2 := hS.same e2
  have M2 := Mo.mo e2 hM
  have og2 := Rep.mono (tx_of e2) hog
  refine ⟨l, rfl, ⟨us, .inl (.inl hl2)⟩, fun D hD => ?_⟩
  have nD : D ∉ A.all := fun hm => by obtain ⟨o, ho⟩ := S2.here D hm; rw [hD] at ho; cases ho
  have hlD : l ≠ D := fun z => by rw [z, hD] at hl2; cases hl2
  have rlen := ru.length
  refine lc_it (n := us.length) walk_list (fun i H' => OffL A.all H2 H' ∧ SeAt K A (((withoutI sk pc).take i).foldl (stepP M og) ([], S)).2 H' ∧ ∃ ws, H' D = some (.lst ws) ∧ Rps H' (((withoutI sk pc).take i).foldl (stepP M og) ([], S)).1 ws) ⟨OffL.of (same_new hD), S2.same (same_new hD), [], upd_same, .nil⟩ (fun i H' _ p => .inl (.inl (p.1 _ _ nl hl2))) ?_ ?_
  · rintro i y H3 H4 hi ⟨o3, S3, ws, hws, rws⟩ ⟨rfl, hy⟩
    obtain ⟨part, hpart, hyr⟩ := ru.getV hy
    have t3 := S2.tx o3
    have hwf3 := places_wf (M := M) (og := og) ((withoutI sk pc).take i) ([], S) hwf
    have hpm := List.mem_of_getElem? hpart
    have hil : i < (withoutI sk pc).length := (List.getElem?_eq_some_iff.mp hpart).1
    have tl : ((withoutI sk pc).take i).length = i := by rw [List.length_take]; omega
    rw [take_snoc hpart, List.foldl_append]
    generalize ((withoutI sk pc).take i).foldl (stepP M og) ([], S) = r3 at S3 rws hwf3
    refine ⟨rfl, et_yes.go fun H5 e5 => iteT ?_⟩
    have S5 := S3.same e5
    obtain ⟨⟨dx5, hx5⟩, _⟩ := id S5
    have b1 : r3.2.sk.length < sizeLine := by
      have h9 := hwf3.2.1
      have h10 : (([], S) : List Int × SS).2.sk.length = S.sk.length := rfl
      omega
    have b2 : r3.2.og.length < sizeLine := by rw [show r3.2.og.length = r3.2.sk.length from hwf3.1]; exact b1
    refine me_raw (i := 0) (x := A.x) (by rfl) hx5 (by rfl) (ea_cons (ev_rv (x := part) (by rfl) (Rep.mono (t3.trans (tx_of e5)) hyr)) (ea_cons (ev_rv (x := og) (by rfl) (Rep.mono (t3.trans (tx_of e5)) og2)) ea_nil)) fun vs H6 e6 hvs => ?_
    obtain ⟨w1, w2, rfl, hw1, hw2⟩ := fas2 hvs
    refine ⟨A, r3.2, M, part, og, w1, w2, rfl, S5.same e6, S2.mach (o3.trans (OffL.of (e5.trans e6))) M2, hw1, hw2, hok part hpm, b1, b2, fun v H7 o7 S7 hv7 => ?_⟩
    have ows : H7 D = some (.lst ws) := o7 _ _ nD ((e5.trans e6) _ _ hws)
    have t7 := (tx_of (e5.trans e6)).trans ((S5.same e6).tx o7)
    refine ⟨ws, ows, ?_, ?_, ?_, _, upd_same, ?_⟩
    · have h9 := hwf3.2.2
      have h10 := rws.length
      have h11 : (([], S) : List Int × SS).1.length = 0 := rfl
      omega
    · refine fun b o hb ho => ?_
      have h9 := o7 _ _ hb ((e5.trans e6) _ _ (o3 _ _ hb ho))
      rw [upd_ne (fun z => by rw [z, hD] at ho; cases ho)]
      exact h9
    · have k : ∀ b ys, b ≠ D → H7 b = some ys → upd H7 D (.lst (ws ++ [v])) b = some ys := fun b ys hb ho => by rw [upd_ne hb]; exact ho
      exact S7.put ows nD
    · have hv7 : v = .int (placeI M r3.2 part og).1 := hv7
      have t8 := tx_lst (o := .lst (ws ++ [v])) ows
      exact (Rps.mono (t7.trans t8) rws).snoc hv7
  · rintro H3 ⟨o3, S3, ws, hws, rws⟩
    rw [← rlen, List.take_length] at S3 rws
    exact q _ H3 ((OffL.of e2).trans o3) S3 ⟨D, ws, rfl, e2.free hD, hws, rws⟩
end
end RW
set_option Elab.async false
set_option linter.all false
set_option maxRecDepth 100000
set_option maxHeartbeats 4000000
namespace RW
open PySem PySem.Spec PyProof.Rows L2
local macro_rules | `(tactic| walk_at "sm") => `(tactic| first
  | exact Same.refl _
  | assumption
  | exact same_new (by assumption)
  | (refine Same.trans ?_ (by assumption); walk_at "sm")
  | (refine Same.trans ?_ (same_new (by assumption)); walk_at "sm"))
local macro_rules | `(tactic| walk_at "rp") => `(tactic| first
  | assumption
  | exact rfl
  | (refine Rep.mono (tx_of ?_) (by assumption); walk_at "sm")
  | (refine Mo.mo ?_ (by assumption); walk_at "sm"))
local macro_rules | `(tactic| walk_at "ev") => `(tactic| first
  | exact ev_ci
  | exact ev_cs
  | exact ev_cb
  | exact ev_cn
  | (refine @ev_rv _ _ _ _ _ _ _ rfl ?_; walk_at "rp")
  | (refine @ev_var _ _ _ _ _ ?_ rfl ?_; (first | infer_instance | skip); walk_at "rp")
  | (refine ev_ii ?_ ?_ <;> walk_at "ev")
  | (refine ev_ib ?_ ?_ <;> walk_at "ev")
  | (refine ev_eqI ?_ ?_ <;> walk_at "ev")
  | (refine ev_neI ?_ ?_ <;> walk_at "ev")
  | (refine ev_lenT ?_ <;> walk_at "ev")
  | (refine ev_lenL ?_ <;> walk_at "ev")
  | (refine ev_int1 ?_ <;> walk_at "ev")
  | (refine et_test ?_ <;> walk_at "ev")
  | (refine et_B ?_ <;> walk_at "ev")
  | (refine et_not ?_ <;> walk_at "ev")
  | (refine et_or ?_ (fun _ => ?_) <;> walk_at "ev")
  | (refine et_and ?_ (fun _ => ?_) <;> walk_at "ev"))
section
variable {P : Program} {w : World} {K : PySem.W.Frag} {mg : Str → Option Value} {base : Heap}
/-! Search.row -/
def rowStep (M : Mach) (pc : List (List Int)) (k : Int) (S : SS) (d : Int) : SS := match beforeI (fullI M) (deedI M d) (S.sk.getD k.toNat []) with
  | none => S
  | some e => (placesI M S (some (d, k)) (withoutI e pc)).2
def rowTo (M : Mach) (pc : List (List Int)) (k : Int) (S : SS) (j : Nat) : SS := (rg j).foldl (rowStep M pc k) S
theorem rg_succ (n : Nat) : rg (n + 1) = rg n ++ [(n : Int)] := by unfold rg; rw [List.range_succ, List.map_append]; rfl
theorem rowTo_succ {M : Mach} {pc : List (List Int)} {k : Int} {S : SS} {j : Nat} : rowTo M pc k S (j + 1) = rowStep M pc k (rowTo M pc k S j) j := by unfold rowTo; rw [rg_succ, List.foldl_append]; rfl
def RowOk (M : Mach) (pc : List (List Int)) (k : Int) (S : SS) : Prop := ∀ j : Nat, j < M.deeds.length → Wf (rowTo M pc k S j) ∧ k.toNat < (rowTo M pc k S j).sk.length ∧ ((rowTo M pc k S j).sk.getD k.toNat []).length = M.cells.length ∧
  ∀ e, beforeI (fullI M) (deedI M j) ((rowTo M pc k S j).sk.getD k.toNat []) = some e → (e.length ≤ 24 ∧ pc.length ≤ 4 ∧ ∀ s ∈ pc, s.length = e.length) ∧ (∀ p ∈ withoutI e pc, skOk p) ∧ (rowTo M pc k S j).sk.length + (withoutI e pc).length ≤ sizeLine
/-- a row: new lists in a new list -/
def RowN (H : Hp) (v : V) (H' : Hp) : Prop := ∃ b ws, v = .ref b ∧ H b = none ∧ H' b = some (.lst ws) ∧ ws.length ≤ 400 ∧ ∀ e ∈ ws, ∃ c us, e = .ref c ∧ H c = none ∧ H' c = some (.lst us)
def spRow (K : PySem.W.Frag) : Sp := fun vs H Q _ => ∃ (A : SA) (S : SS) (M : Mach) (pc : List (List Int)) (k : Int), vs = [.ref A.x, .int k] ∧ SeAt K A S H ∧ MachS K M A.m H ∧ PcAt A pc H ∧ MachOk M.cells M.deeds M.first ∧ 0 ≤ k ∧ RowOk M pc k S ∧
  ∀ v H', OffL A.all H H' → SeAt K A (rowTo M pc k S M.deeds.length) H' → RowN H v H' → Q v H'
theorem ev_some' {α : Type} [Rep α] {te : TE} {σ : L2.St} {H : Hp} {x : α} (h : Ev te σ H (R x)) (n : ∀ v H, Rep.rp H x v → v ≠ .non) : Ev te σ H (R (some x)) := h.imp fun v H' hv => ⟨n v H' hv, hv⟩
abbrev N_Search_row : List Str := ["self", "number", "entries", "deed", "earlier"]
theorem sc_Search_row : FnScope N_Search_row ["self", "number"] (defScope s_Search_row) := ⟨rfl, rfl, rfl, by decide +kernel, rfl, by decide +kernel, by decide +kernel⟩
abbrev sp_Search_row (K : PySem.W.Frag) : Sp := spRow K
theorem ok_Search_row {f : Addr} {fd : FuncData} (T : Txt K mg) (c_sketch_before : C8.Cal P w K mg base 3 "sketch_before" (sp_sketch_before K) []) (m_places : C8.Met P w K mg base 4 (CSearch K) "places" (sp_Search_places K) []) (F : FunD K "row" "Search.row" (defArgs s_Search_row) (defBody s_Search_row) (defScope s_Search_row) [] [] f fd) (me : Meth K (CSearch K) "row" f) : C8.Met P w K mg base 5 (CSearch K) "row" (sp_Search_row K) [] := by
  refine met_of F T.cSearch me sc_Search_row (fun _ _ _ _ _ _ us hl => match us, hl with | [_, _], _ => rfl) (fun vs H Q E ⟨A, S, M, pc, k, e, _⟩ => by rw [e]; rfl) (fun cdv A outer s H vs Q E hr h => ?_)
  obtain ⟨A, S, M, pc, k, rfl, hS, hM, hpc, hok, hk0, hrow, q⟩ := h
  refine ⟨_, (pss_cons (ps_set (i := 2) sc_Search_row.nd rfl (by first | exact .inl rfl | exact .inr rfl) (pe_lst pa_nil))
      (pss_cons (ps_for PassesOwn.never rfl (pi_range1 (by rfl) T.range (pa_cons (pe_callB (k_len (K := K) rfl) (by rfl) T.len PySem.boot_len (pa_cons (k_fld (K := K) rfl (k_fld (K := K) rfl (pv 0) rfl) rfl) pa_nil)) pa_nil)) (pg_name (i := 3) sc_Search_row.nd rfl (by first | exact .inl rfl | exact .inr rfl))
        (pss_cons (ps_set (i := 4) sc_Search_row.nd rfl (by first | exact .inl rfl | exact .inr rfl) (C8.pe_c c_sketch_before hr (by decide) (by rfl) (pa_cons (k_fld (K := K) rfl (pv 0) rfl) (pa_cons (pe_ix (k_ixL (K := K) rfl) (k_fld (K := K) rfl (pv 0) rfl) (pv 1) (fun _ _ => rfl)) (pa_cons (pv 3) pa_nil)))))
        (pss_one (ps_expr (pe_bm PySem.F.plainAttrs_list PySem.F.slot_list_append PySem.F.type_list_append mt_append (pv 2) (pa_cons (pe_ifExp (pt_cmpR op_isN (pv 4) pe_non (nomark _)) (pe_lst pa_nil) (C8.pe_mt m_places hr (by decide) (pv 0) (pa_cons (pv 4) (pa_cons (pe_tup (pa_cons (pv 3) (pa_cons (pv 1) pa_nil))) pa_nil)))) pa_nil))))))
      (pss_one (ps_ret (pv 2))))), ?_⟩
  refine q_asg (ev_nl0 (α := AnyV)) fun v1 H1 e1 hv1 => ?_
  obtain ⟨l, us1, rfl, hl0, hl1, ru1⟩ := hv1
  cases ru1
  have nl : l ∉ A.all := fun hm => by obtain ⟨o, ho⟩ := hS.here l hm; rw [hl0] at ho; cases ho
  have S1 := hS.same e1
  have M1 := Mo.mo e1 hM
  have P1 := hpc.same e1
  obtain ⟨⟨dx1, hx1⟩, _⟩ := id S1
  have dl := hok.d1
  refine q_forG (Gd := fun _ _ => True) (n := M.deeds.length) (S := RI (rg M.deeds.length)) (evg_range1 (n := (M.deeds.length : Int)) (ea_cons (ev_lenT (ev_mdeeds T (ev_isF (φ := MachS K M) (ev_sf (i := 0) rfl hx1 T.cSearch T.nSearch_machine rfl) M1))) ea_nil) (by omega) (by omega)) (fun _ i σ' H' => OffL A.all H H' ∧ SeAt K A (rowTo M pc k S i) H' ∧ (∃ ws, H' l = some (.lst ws) ∧ ws.length = i ∧ ∀ e ∈ ws, ∃ c us, e = .ref c ∧ c ≠ l ∧ c ∉ A.all ∧ H c = none ∧ H' c = some (.lst us)) ∧ ∃ y z, σ' = [some (.ref A.x), some (.int k), some (.ref l), y, z])
    (fun H2 e2 => ⟨OffL.of (e1.trans e2), S1.same e2, ⟨[], e2 _ _ hl1, rfl, by simp⟩, none, none, rfl⟩) (fun _ _ _ _ _ => trivial) ?_ ?_
  · rintro H2 i x σ' H3 H4 e2 hi ⟨o3, S3, ⟨ws, hws, wl, wall⟩, y, z, rfl⟩ s4 ⟨zz, hz, hx⟩
    rw [rg_get hi] at hz
    obtain rfl : x = .int (i : Int) := by rw [show x = .int zz from hx, Option.some.inj hz]
    have S4 := S3.same s4
    have o4 := o3.trans (OffL.of s4)
    have M4 := hS.mach o4 hM
    have P4 := hpc.off o4 (hS.tx o4)
    have hws4 := s4 _ _ hws
    obtain ⟨r1, r2, r3, r4⟩ := hrow i hi
    have rs := rowTo_succ (M := M) (pc := pc) (k := k) (S := S) (j := i)
    have wall4 : ∀ e ∈ ws, ∃ c us, e = .ref c ∧ c ≠ l ∧ c ∉ A.all ∧ H c = none ∧ H4 c = some (.lst us) := fun e he => let ⟨c, us, a1, a2, a3, a4, a5⟩ := wall e he; ⟨c, us, a1, a2, a3, a4, s4 _ _ a5⟩
    clear hws wall S3 o3 s4
    generalize rowTo M pc k S i = Si at S4 r1 r2 r3 r4 rs
    obtain ⟨⟨dx4, hx4⟩, _, as4, _⟩ := id S4
    have hk : atI Si.sk k = some (Si.sk.getD k.toNat []) := by
      refine atI_at hk0 ?_
      rw [List.getD_eq_getElem?_getD, List.getElem?_eq_getElem r2]
      rfl
    refine q_asg (ev_pp (T3.mk M (Si.sk.getD k.toNat []) (i : Int)) (ea_cons (ev_isF (φ := MachS K M) (ev_sf (i := 0) rfl hx4 T.cSearch T.nSearch_machine rfl) M4) (ea_cons (ev_ixL (ev_isF (φ := Ls Si.sk) (ev_sf (i := 0) rfl hx4 T.cSearch T.nSearch_sketches rfl) as4.ls) (ev_rv (x := k) rfl rfl) hk) (ea_cons (ev_rv (x := (i : Int)) rfl rfl) ea_nil))) ⟨hok, r3, by show (0 : Int) ≤ i; omega, by show (i : Int) < M.deeds.length; omega⟩) fun v5 H5 e5 hv5 => ?_
    have hv5 : Rep.rp H5 (beforeI (fullI M) (deedI M i) (Si.sk.getD k.toNat [])) v5 := hv5
    have hws5 := e5 _ _ hws4
    have S5 := S4.same e5
    have o5 := o4.trans (OffL.of e5)
    have fin : ∀ (c : Addr) (us : List V) (H7 : Hp), OffL A.all H5 H7 → SeAt K A (rowStep M pc k Si i) H7 → H5 c = none → H7 c = some (.lst us) → H7 l = some (.lst ws) → OffL A.all H (upd H7 l (.lst (ws ++ [.ref c]))) ∧ SeAt K A (rowTo M pc k S (i + 1)) (upd H7 l (.lst (ws ++ [.ref c]))) ∧ (∃ ws', upd H7 l (.lst (ws ++ [.ref c])) l = some (.lst ws') ∧ ws'.length = i + 1 ∧ ∀ e ∈ ws', ∃ c2 us2, e = .ref c2 ∧ c2 ≠ l ∧ c2 ∉ A.all ∧ H c2 = none ∧ upd H7 l (.lst (ws ++ [.ref c])) c2 = some (.lst us2)) ∧ ∃ y z, [some (.ref A.x), some (.int k), some (.ref l), some (.int (i : Int)), some v5] = [some (.ref A.x), some (.int k), some (.ref l), y, z] := by
      intro c us H7 o7 S7 hc0 hc7 hl7
      have ncl : c ≠ l := fun z => by rw [z, hws5] at hc0; cases hc0
      refine ⟨fun b o hb ho => ?_, by rw [rs]; exact S7.put hl7 nl, ⟨_, upd_same, by rw [List.length_append, wl]; rfl, fun e he => ?_⟩, _, _, rfl⟩
      · rw [upd_ne (fun z => by rw [z, hl0] at ho; cases ho)]
        exact o7 _ _ hb (o5 _ _ hb ho)
      · rcases List.mem_append.mp he with he | he
        · obtain ⟨c2, us2, a1, a2, a3, a4, a5⟩ := wall4 e he
          exact ⟨c2, us2, a1, a2, a3, a4, by rw [upd_ne a2]; exact o7 _ _ a3 (e5 _ _ a5)⟩
        · refine ⟨c, us, by simpa using he, ncl, fun hm => ?_, ?_, by rw [upd_ne ncl]; exact hc7⟩
          · obtain ⟨o, ho⟩ := S5.here c hm
            rw [hc0] at ho
            cases ho
          · cases hh : H c with
            | none => rfl
            | some o =>
              by_cases hm : c ∈ A.all
              · obtain ⟨o, ho⟩ := S5.here c hm
                rw [hc0] at ho
                cases ho
              · have := o5 _ _ hm hh
                rw [hc0] at this
                cases this
    have wz : ws.length < sizeLine := by rw [sizeLine_eq]; omega
    refine ⟨_, rfl, .inl ⟨rfl, _, .inl (.inl hws5)⟩, ?_⟩
    have ht : EvT (tTest (tOp (fun x y H Q => y = .non ∧ Q (.bl (decide (x = .non))) H) (tVar 4) (tC .non))) [some (.ref A.x), some (.int k), some (.ref l), some (.int (i : Int)), some v5] H5 (beforeI (fullI M) (deedI M i) (Si.sk.getD k.toNat [])).isNone := et_test (ev_isN (ev_rv rfl hv5))
    refine ht.go fun H7 e7 => ?_
    have S7 := S5.same e7
    cases hb : beforeI (fullI M) (deedI M i) (Si.sk.getD k.toNat []) with
    | none =>
      have er : rowStep M pc k Si i = Si := by unfold rowStep; rw [hb]
      refine iteT ((ev_nl0 (α := AnyV)).go fun v H8 e8 hv8 => ?_)
      obtain ⟨c, us, rfl, hc0, hc8, _⟩ := hv8
      refine ⟨l, ws, _, rfl, rfl, e8 _ _ (e7 _ _ hws5), wz, ?_⟩
      have f := fin c us H8 (OffL.of (e7.trans e8)) (by rw [er]; exact S7.same e8) (e7.free hc0) hc8 (e8 _ _ (e7 _ _ hws5))
      obtain ⟨f1, f2, ⟨ws2, g1, g2, g3⟩, f4⟩ := f
      exact ⟨f1, f2, ⟨ws2, g1, g2, fun e he => (by obtain ⟨c, us, b1, b2, b3, b4, b5⟩ := g3 e he; exact ⟨c, us, b1, b2, b3, b4, b5⟩)⟩, f4⟩
    | some e =>
      rw [hb] at hv5
      obtain ⟨b1, b2, b3⟩ := r4 e hb
      have er : rowStep M pc k Si i = (placesI M Si (some ((i : Int), k)) (withoutI e pc)).2 := by unfold rowStep; rw [hb]
      refine iteF ?_
      obtain ⟨⟨dx7, hx7⟩, _⟩ := id S7
      refine me_raw (i := 0) (x := A.x) rfl hx7 (by rfl) (ea_cons (ev_rv (x := e) rfl (Rep.mono (tx_of e7) hv5.2)) (ea_cons (ev_some' (ev_pair (ev_rv (x := (i : Int)) rfl rfl) (ev_rv (x := k) rfl rfl)) (fun v H h z => by obtain ⟨a, _, _, e, _⟩ := h; rw [z] at e; cases e)) ea_nil)) fun vs H8 e8 hvs => ?_
      obtain ⟨w1, w2, rfl, hw1, hw2⟩ := fas2 hvs
      have o8 := o5.trans (OffL.of (e7.trans e8))
      refine ⟨A, Si, M, pc, e, some ((i : Int), k), w1, w2, rfl, S7.same e8, hS.mach o8 hM, hpc.off o8 (hS.tx o8), hw1, hw2, b1, r1, b2, b3, fun v H9 o9 S9 hv9 => ?_⟩
      obtain ⟨c, us, rfl, hc0, hc9, _⟩ := hv9
      refine ⟨l, ws, _, rfl, rfl, o9 _ _ nl ((e7.trans e8) _ _ hws5), wz, ?_⟩
      have f := fin c us H9 ((OffL.of (e7.trans e8)).trans o9) (by rw [er]; exact S9) ((e7.trans e8).free hc0) hc9 (o9 _ _ nl ((e7.trans e8) _ _ hws5))
      obtain ⟨f1, f2, ⟨ws2, g1, g2, g3⟩, f4⟩ := f
      exact ⟨f1, f2, ⟨ws2, g1, g2, fun e he => (by obtain ⟨c, us, b1, b2, b3, b4, b5⟩ := g3 e he; exact ⟨c, us, b1, b2, b3, b4, b5⟩)⟩, f4⟩
  · rintro H2 σ' H3 e2 ⟨o3, S3, ⟨ws, hws, wl, wall⟩, y, z, rfl⟩
    exact s_ret (φ := fun v H' => v = .ref l ∧ Same H3 H') (fun H4 e4 Q' q' => ⟨_, rfl, q' _ H4 (Same.refl _) ⟨rfl, e4⟩⟩) fun v H4 e4 hv => q v H4 (o3.trans (OffL.of e4)) (S3.same e4) ⟨l, ws, hv.1, hl0, e4 _ _ hws, by omega, fun e he => let ⟨c, us, a1, a2, a3, a4, a5⟩ := wall e he; ⟨c, us, a1, a4, e4 _ _ a5⟩⟩
end
end RW
set_option Elab.async false
set_option linter.all false
set_option maxRecDepth 100000
set_option maxHeartbeats 4000000
namespace RW
open PySem PySem.Spec PyProof.Rows L2
local macro_rules | `(tactic| walk_at "sm") => `(tactic| first
  | exact Same.refl _
  | assumption
  | exact same_new (by assumption)
  | (refine Same.trans ?_ (by assumption); walk_at "sm")
  | (refine Same.trans ?_ (same_new (by assumption)); walk_at "sm"))
local macro_rules | `(tactic| walk_at "rp") => `(tactic| first
  | assumption
  | exact rfl
  | (refine Rep.mono (tx_of ?_) (by assumption); walk_at "sm")
  | (refine Mo.mo ?_ (by assumption); walk_at "sm"))
local macro_rules | `(tactic| walk_at "ev") => `(tactic| first
  | exact ev_ci
  | exact ev_cs
  | exact ev_cb
  | exact ev_cn
  | (refine @ev_rv _ _ _ _ _ _ _ rfl ?_; walk_at "rp")
  | (refine @ev_var _ _ _ _ _ ?_ rfl ?_; (first | infer_instance | skip); walk_at "rp")
  | (refine ev_ii ?_ ?_ <;> walk_at "ev")
  | (refine ev_ib ?_ ?_ <;> walk_at "ev")
  | (refine ev_eqI ?_ ?_ <;> walk_at "ev")
  | (refine ev_neI ?_ ?_ <;> walk_at "ev")
  | (refine ev_lenT ?_ <;> walk_at "ev")
  | (refine ev_lenL ?_ <;> walk_at "ev")
  | (refine ev_int1 ?_ <;> walk_at "ev")
  | (refine et_test ?_ <;> walk_at "ev")
  | (refine et_B ?_ <;> walk_at "ev")
  | (refine et_not ?_ <;> walk_at "ev")
  | (refine et_or ?_ (fun _ => ?_) <;> walk_at "ev")
  | (refine et_and ?_ (fun _ => ?_) <;> walk_at "ev"))
section
variable {σ : L2.St} {H : Hp} {tt : TT} {tb tz : TS} {D : Ends} {ι : Type}
theorem s_whileS (Pv : ι → L2.St → Hp → Prop) (μ : ι → Nat) (b : ι → Bool) (i0 : ι) (h0 : Pv i0 σ H) (ht : ∀ i σ' H', Pv i σ' H' → EvT tt σ' H' (b i)) (hm : ∀ i σ' H' H'', Pv i σ' H' → Same H' H'' → Pv i σ' H'')
    (hs : ∀ i σ' H' (D' : Ends), b i = true → Pv i σ' H' → (∀ i2 σ2 H2, μ i2 < μ i → Pv i2 σ2 H2 → D'.nx σ2 H2) → D'.rt = D.rt → tb D' σ' H') (hd : ∀ i σ' H', b i = false → Pv i σ' H' → D.nx σ' H') : tWhile tt tb D σ H := by
  refine ⟨fun m σ' H' => ∃ i, m = μ i ∧ Pv i σ' H', ⟨_, i0, rfl, h0⟩, ?_⟩
  rintro m σ' H' ⟨i, rfl, p⟩
  refine (ht i σ' H' p).go fun H1 e => ?_
  have p1 := hm _ _ _ _ p e
  cases hb : b i with
  | true => exact iteT ⟨fun σ2 H2 => ∃ i2, μ i2 < μ i ∧ Pv i2 σ2 H2, fun σ2 H2 ⟨i2, h1, h2⟩ => ⟨_, h1, i2, rfl, h2⟩, hs i σ' H1 _ hb p1 (fun i2 σ2 H2 h1 h2 => ⟨i2, h1, h2⟩) rfl⟩
  | false => exact iteF (hd i σ' H1 hb p1)
theorem q_whileS (Pv : ι → L2.St → Hp → Prop) (μ : ι → Nat) (b : ι → Bool) (i0 : ι) (h0 : Pv i0 σ H) (ht : ∀ i σ' H', Pv i σ' H' → EvT tt σ' H' (b i)) (hm : ∀ i σ' H' H'', Pv i σ' H' → Same H' H'' → Pv i σ' H'')
    (hs : ∀ i σ' H' (D' : Ends), b i = true → Pv i σ' H' → (∀ i2 σ2 H2, μ i2 < μ i → Pv i2 σ2 H2 → D'.nx σ2 H2) → D'.rt = D.rt → tb D' σ' H') (hd : ∀ i σ' H', b i = false → Pv i σ' H' → tz D σ' H') : tSeq (tWhile tt tb) tz D σ H := s_whileS (D := { D with nx := tz D }) Pv μ b i0 h0 ht hm hs hd
end
section
variable {P : Program} {w : World} {K : PySem.W.Frag} {mg : Str → Option Value} {base : Heap}
/-- the deeds behind the sketch n, as the origins say -/
inductive Hist (og : List (Option (Int × Int))) : Nat → List Int → Prop where
  | nil {n : Nat} (h : og[n]? = some none) : Hist og n []
  | cons {n : Nat} {d j : Int} {ds : List Int} (h : og[n]? = some (some (d, j))) (h0 : 0 ≤ j) (h1 : j.toNat < n) (r : Hist og j.toNat ds) : Hist og n (d :: ds)
theorem SeAt.off1 {A : SA} {S : SS} {H H' : Hp} {l : Addr} (h : SeAt K A S H) (hl : Ll [l] H) (o : OffL [l] H H') (n : l ∉ A.all) : SeAt K A S H' := by
  have n' : A.lp ≠ l ∧ A.ls ≠ l ∧ A.lo ≠ l := by
    refine ⟨fun z => n ?_, fun z => n ?_, fun z => n ?_⟩ <;> rw [← z] <;> simp [SA.all]
  obtain ⟨⟨dx, h1⟩, h2, h3, h4, h5⟩ := h
  exact ⟨⟨dx, ins_off h1 hl o⟩, h2.off hl o (by simpa using n'.1), h3.off hl o (by simpa using n'.2.1), h4.off hl o (by simpa using n'.2.2), h5⟩
/-- a disk and deeds -/
def HistV (disk deeds : List Int) : Srt := fun v H => ∃ a x y, v = .ref a ∧ H a = some (.tup [x, y]) ∧ Rep.rp H disk x ∧ Ls deeds y H
def spHistory (K : PySem.W.Frag) : Sp := fun vs H Q _ => ∃ (A : SA) (S : SS) (M : Mach) (f : Nat) (ds mt : List Int), vs = [.ref A.x] ∧ SeAt K A S H ∧ MachS K M A.m H ∧ S.found = (f : Int) ∧ f < S.sk.length ∧ f < sizeLine ∧ (S.sk.getD f []).length ≤ 1000 ∧ meetI (S.sk.getD f []) M.first = some mt ∧ (mt.length ≤ 1000 ∧ ∀ m ∈ mt, (0 ≤ m ∧ m < 65536) ∧ valuesI m ≠ []) ∧ Hist S.og f ds ∧
  ∀ v H', Same H H' → HistV (leastI mt) ds v H' → Q v H'
theorem ogR {og : List (Option (Int × Int))} {n : Nat} {o : Option (Int × Int)} (h : og[n]? = some o) : atI og (n : Int) = some o := atI_nat h
abbrev N_Search_history : List Str := ["self", "number", "disk", "deeds", "deed"]
theorem sc_Search_history : FnScope N_Search_history ["self"] (defScope s_Search_history) := ⟨rfl, rfl, rfl, by decide +kernel, rfl, by decide +kernel, by decide +kernel⟩
abbrev sp_Search_history (K : PySem.W.Frag) : Sp := spHistory K
theorem ok_Search_history {f : Addr} {fd : FuncData} (T : Txt K mg) (c_least_disk : C8.Cal P w K mg base 2 "least_disk" sp_least_disk []) (c_meet : C8.Cal P w K mg base 1 "meet" sp_meet []) (F : FunD K "history" "Search.history" (defArgs s_Search_history) (defBody s_Search_history) (defScope s_Search_history) [] [] f fd) (me : Meth K (CSearch K) "history" f) : C8.Met P w K mg base 3 (CSearch K) "history" (sp_Search_history K) [] := by
  refine met_of F T.cSearch me sc_Search_history (fun _ _ _ _ _ _ us hl => match us, hl with | [_], _ => rfl) (fun vs H Q E ⟨A, S, M, f, ds, mt, e, _⟩ => by rw [e]; rfl) (fun cdv A outer s H vs Q E hr h => ?_)
  obtain ⟨A, S, M, f, ds, mt, rfl, hS, hM, hf, hfl, hfz, hfk, hmt, hok, hh, q⟩ := h
  refine ⟨_, (pss_cons (ps_set (i := 1) sc_Search_history.nd rfl (by first | exact .inl rfl | exact .inr rfl) (k_fld (K := K) rfl (pv 0) rfl))
      (pss_cons (ps_set (i := 2) sc_Search_history.nd rfl (by first | exact .inl rfl | exact .inr rfl) (C8.pe_c c_least_disk hr (by decide) (by rfl) (pa_cons (C8.pe_c c_meet hr (by decide) (by rfl) (pa_cons (pe_ix (k_ixL (K := K) rfl) (k_fld (K := K) rfl (pv 0) rfl) (pv 1) (fun _ _ => rfl)) (pa_cons (k_fld (K := K) rfl (k_fld (K := K) rfl (pv 0) rfl) rfl) pa_nil))) pa_nil)))
      (pss_cons (ps_set (i := 3) sc_Search_history.nd rfl (by first | exact .inl rfl | exact .inr rfl) (pe_lst pa_nil))
      (pss_cons (ps_while PassesOwn.never (pt_cmpR op_notN (pe_ix (k_ixL (K := K) rfl) (k_fld (K := K) rfl (pv 0) rfl) (pv 1) (fun _ _ => rfl)) pe_non (nomark _)) (pss_cons (ps_asg (pe_ix (k_ixL (K := K) rfl) (k_fld (K := K) rfl (pv 0) rfl) (pv 1) (fun _ _ => rfl)) (k_gtup (K := K) (n := 2) rfl rfl (pgs_cons (pg_name (i := 4) sc_Search_history.nd rfl (by first | exact .inl rfl | exact .inr rfl)) (pgs_cons (pg_name (i := 1) sc_Search_history.nd rfl (by first | exact .inl rfl | exact .inr rfl)) pgs_nil))))
        (pss_one (ps_expr (pe_bm PySem.F.plainAttrs_list PySem.F.slot_list_append PySem.F.type_list_append mt_append (pv 3) (pa_cons (pv 4) pa_nil))))))
      (pss_one (ps_ret (pe_tup (pa_cons (pv 2) (pa_cons (pv 3) pa_nil))))))))), ?_⟩
  obtain ⟨⟨dx, hx⟩, _, has, hao, _⟩ := id hS
  rw [hf] at hx
  refine q_asg (ev_sf (i := 0) (by rfl) hx T.cSearch T.nSearch_found rfl) fun v1 H1 e1 hv1 => ?_
  obtain rfl : v1 = .int (f : Int) := hv1
  have S1 := hS.same e1
  have M1 := Mo.mo e1 hM
  have x1 := e1 _ _ hx
  have hkf : atI S.sk (f : Int) = some (S.sk.getD f []) := atI_nat (by rw [List.getD_eq_getElem?_getD, List.getElem?_eq_getElem hfl]; rfl)
  refine q_asg (ev_pp mt (ea_cons (ev_some (ev_pp (S.sk.getD f [], M.first) (ea_cons (ev_ixL (ev_isF (φ := Ls S.sk) (ev_sf (i := 0) rfl x1 T.cSearch T.nSearch_sketches rfl) (has.same e1).ls) (ev_rv (x := (f : Int)) rfl rfl) hkf) (ea_cons (ev_mfirst T (ev_isF (φ := MachS K M) (ev_sf (i := 0) rfl x1 T.cSearch T.nSearch_machine rfl) M1)) ea_nil)) hfk) hmt) ea_nil) hok) fun v2 H2 e2 hv2 => ?_
  refine q_asg (ev_nl0 (α := Int)) fun v3 H3 e3 hv3 => ?_
  obtain ⟨l, rfl, hl0, hl⟩ := at_of hv3
  have S3 := S1.same (e2.trans e3)
  have nl : l ∉ A.all := fun hm => by obtain ⟨o, ho⟩ := (S1.same e2).here l hm; rw [hl0] at ho; cases ho
  have hv3 := Rep.mono (tx_of e3) hv2
  refine q_whileS (ι := Nat × List Int × List Int) (fun i σ' H' => OffL [l] H3 H' ∧ At l i.2.1 H' ∧ i.2.1 ++ i.2.2 = ds ∧ i.2.1.length + i.1 ≤ f ∧ Hist S.og i.1 i.2.2 ∧ ∃ y, σ' = [some (.ref A.x), some (.int (i.1 : Int)), some v2, some (.ref l), y]) (fun i => i.1) (fun i => !i.2.2.isEmpty) (f, [], ds) ⟨OffL.refl _ _, hl, rfl, by show 0 + f ≤ f; omega, hh, none, rfl⟩ ?_ (fun i σ' H' H'' p e => ⟨p.1.trans (OffL.of e), p.2.1.same e, p.2.2⟩) ?_ ?_
  · rintro ⟨n, pre, post⟩ σ' H4 ⟨o4, a4, eds, hlen, hh4, y, rfl⟩
    have S4 := S3.off1 hl.ll o4 nl
    obtain ⟨⟨dx4, hx4⟩, _, _, ao4, _⟩ := id S4
    have hh4 : Hist S.og n post := hh4
    obtain ⟨o, ho, eo⟩ : ∃ o, S.og[n]? = some o ∧ o.isSome = !post.isEmpty := by
      cases hh4 with
      | nil h => exact ⟨none, h, rfl⟩
      | cons h _ _ _ => exact ⟨_, h, rfl⟩
    exact EvT.to (et_test (ev_notN (ev_ixL (ev_isF (φ := Ls S.og) (ev_sf (i := 0) (by rfl) hx4 T.cSearch T.nSearch_origins rfl) ao4.ls) (ev_rv (x := (n : Int)) (by rfl) rfl) (ogR ho)))) eo
  · rintro ⟨n, pre, post⟩ σ' H4 D' hb ⟨o4, a4, eds, hlen, hh4, y, rfl⟩ kk _
    have S4 := S3.off1 hl.ll o4 nl
    obtain ⟨⟨dx4, hx4⟩, _, _, ao4, _⟩ := id S4
    have hh4 : Hist S.og n post := hh4
    cases hh4 with
    | nil h => cases hb
    | cons h h0 h1 r =>
      rename_i d j rest
      refine q_asgG (ev_ixL (ev_isF (φ := Ls S.og) (ev_sf (i := 0) (by rfl) hx4 T.cSearch T.nSearch_origins rfl) ao4.ls) (ev_rv (x := (n : Int)) (by rfl) rfl) (ogR h)) fun v5 H5 e5 hv5 => ?_
      have hv5 : Rep.rp H5 (d, j) v5 := hv5.2
      refine g_pair hv5 fun y1 y2 hy1 hy2 => ?_
      obtain rfl : y1 = .int d := hy1
      obtain rfl : y2 = .int j := hy2
      have hj : j = ((j.toNat : Nat) : Int) := by omega
      have hlen : pre.length + n ≤ f := hlen
      refine s_appA (a4.same e5) (by omega) (ev_is (by rfl)) (ev_rv (x := d) (by rfl) rfl) fun H6 o6 a6 => kk (j.toNat, pre ++ [d], rest) _ H6 h1 ⟨(o4.trans (OffL.of e5)).trans o6, a6, by rw [← eds]; simp, by show (pre ++ [d]).length + j.toNat ≤ f; rw [List.length_append, List.length_singleton]; omega, r, some (.int d), by rw [← hj]; rfl⟩
  · rintro ⟨n, pre, post⟩ σ' H4 hb ⟨o4, a4, eds, hlen, hh4, y, rfl⟩
    have hp : post = [] := by
      cases post with
      | nil => rfl
      | cons a r => cases hb
    have a4 : At l ds H4 := by
      have eds : pre ++ post = ds := eds
      rw [← eds, hp, List.append_nil]
      exact a4
    have sA : Same H H4 := same_off ((e1.trans e2).trans e3) o4 (fun c hc => by rw [show c = l from by simpa using hc]; exact (e1.trans e2).free hl0)
    refine s_ret (ev_tup (χ := HistV (leastI mt) ds) (φs := [R (leastI mt), Ls ds]) (ea_cons (ev_rv rfl (Rep.mono (tx_off hl.ll o4) hv3)) (ea_cons (ev_at a4 rfl) ea_nil)) (by simp) (fun a vs H1 h1 h2 => ?_) (fun vs H1 H2 e h2 => ?_)) fun v H5 e5 hv => q v H5 (sA.trans e5) hv
    · obtain ⟨x, y, rfl, hx, hy⟩ := fas2 h2
      exact ⟨a, x, y, rfl, h1, hx, hy⟩
    · exact MoA.mo e h2
end
end RW
set_option Elab.async false
set_option linter.all false
set_option maxRecDepth 100000
set_option maxHeartbeats 4000000
namespace RW
open PySem PySem.Spec PyProof.Rows L2
local macro_rules | `(tactic| walk_at "sm") => `(tactic| first
  | exact Same.refl _
  | assumption
  | exact same_new (by assumption)
  | (refine Same.trans ?_ (by assumption); walk_at "sm")
  | (refine Same.trans ?_ (same_new (by assumption)); walk_at "sm"))
local macro_rules | `(tactic| walk_at "rp") => `(tactic| first
  | assumption
  | exact rfl
  | (refine Rep.mono (tx_of ?_) (by assumption); walk_at "sm")
  | (refine Mo.mo ?_ (by assumption); walk_at "sm"))
local macro_rules | `(tactic| walk_at "ev") => `(tactic| first
  | exact ev_ci
  | exact ev_cs
  | exact ev_cb
  | exact ev_cn
  | (refine @ev_rv _ _ _ _ _ _ _ rfl ?_; walk_at "rp")
  | (refine @ev_var _ _ _ _ _ ?_ rfl ?_; (first | infer_instance | skip); walk_at "rp")
  | (refine ev_ii ?_ ?_ <;> walk_at "ev")
  | (refine ev_ib ?_ ?_ <;> walk_at "ev")
  | (refine ev_eqI ?_ ?_ <;> walk_at "ev")
  | (refine ev_neI ?_ ?_ <;> walk_at "ev")
  | (refine ev_lenT ?_ <;> walk_at "ev")
  | (refine ev_lenL ?_ <;> walk_at "ev")
  | (refine ev_int1 ?_ <;> walk_at "ev")
  | (refine et_test ?_ <;> walk_at "ev")
  | (refine et_B ?_ <;> walk_at "ev")
  | (refine et_not ?_ <;> walk_at "ev")
  | (refine et_or ?_ (fun _ => ?_) <;> walk_at "ev")
  | (refine et_and ?_ (fun _ => ?_) <;> walk_at "ev"))
section
variable {P : Program} {w : World} {K : PySem.W.Frag} {mg : Str → Option Value} {base : Heap}
/-! tell -/
/-- the rows' loop: c turns left, n rows made -/
inductive TellTo (M : Mach) (pc : List (List Int)) : Nat → Nat → SS → SS → Prop where
  | stop {n : Nat} {S : SS} (h : ¬ (S.found < 0 ∧ n < S.sk.length)) : TellTo M pc 0 n S S
  | step {c n : Nat} {S S' : SS} (h : S.found < 0 ∧ n < S.sk.length) (ok : RowOk M pc n S) (r : TellTo M pc c (n + 1) (rowTo M pc n S M.deeds.length) S') : TellTo M pc (c + 1) n S S'
theorem ev_mkSe {σ : L2.St} {H : Hp} {t : TA} {m p : V} {E : XK} (ha : EvA t σ H [Is m, Is p]) : Ev (tMake (CSearch K) (spSeInit K) [] E t) σ H (fun v H' => ∃ A : SA, v = .ref A.x ∧ A.m = m ∧ A.p = p ∧ SeAt K A ⟨[], [], -1⟩ H' ∧ ∀ b ∈ A.all, H b = none) := fun H1 e Q q =>
  ha H1 e _ fun vs H2 e2 hv x dx hx hd ne => by
    obtain ⟨v1, v2, rfl, h1, h2⟩ := fas2 hv
    obtain rfl : v1 = m := h1
    obtain rfl : v2 = p := h2
    have s := made_same (C := CSearch K) hx hd
    have sA := (e.trans e2)
    refine ⟨x, dx, v1, v2, rfl, upd_same, fun H' lp ls lo off n1 n2 n3 S' => ⟨rfl, q _ H' (e2.trans fun b o hb => off b o (ne_of_none hb hx) (s b o hb)) ⟨⟨x, lp, ls, lo, v1, v2⟩, rfl, rfl, rfl, S', fun b hb => ?_⟩⟩⟩
    have : b = x ∨ b = lp ∨ b = ls ∨ b = lo := by simpa [SA.all] using hb
    rcases this with z | z | z | z <;> subst z
    · exact sA.free hx
    · exact (sA.trans s).free n1
    · exact (sA.trans s).free n2
    · exact (sA.trans s).free n3
theorem ev_lenRaw {σ : L2.St} {H : Hp} {te : TE} {a : Addr} {vs : List V} {n : Nat} (h : Ev te σ H (Is (.ref a))) (ha : H a = some (.lst vs)) (hn : vs.length = n) : Ev (tCB (fun xs H Q => ∃ p ys, xs = [.ref p] ∧ (SqL K H p ys ∨ SqT K H p ys) ∧ Q (.int ys.length) H) (tCons te tNil)) σ H (R (n : Int)) := fun H1 e Q q =>
  h H1 e _ fun v H2 e2 hv => ⟨a, vs, by rw [show v = .ref a from hv], .inl (.inl (.inl ((e.trans e2) _ _ ha))), q _ H2 e2 (by rw [hn]; rfl)⟩
structure TG where
  M : Mach
  im : List Int
  pc : List (List Int)
  told : Bool
  disk : Option (List Int)
  deeds : Option (List Int)
def start0 (M : Mach) (im : List Int) (pc : List (List Int)) : SS := (placesI M ⟨[], [], -1⟩ none (withoutI im pc)).2
def TellOk (g : TG) : Prop := MachOk g.M.cells g.M.deeds g.M.first ∧ sketchB g.M g.im = true ∧ (∀ s ∈ g.pc, sketchB g.M s = true) ∧ g.pc.length ≤ 4 ∧ (∀ p ∈ withoutI g.im g.pc, skOk p) ∧ (withoutI g.im g.pc).length ≤ sizeLine ∧
  ∃ c S', TellTo g.M g.pc c 0 (start0 g.M g.im g.pc) S' ∧ S'.sk.length ≤ sizeLine ∧ c ≤ S'.sk.length ∧
    ((S'.found < 0 ∧ g.told = true ∧ g.disk = none ∧ g.deeds = none) ∨
      ∃ (f : Nat) (ds mt : List Int), S'.found = (f : Int) ∧ f < S'.sk.length ∧ f < sizeLine ∧ (S'.sk.getD f []).length ≤ 1000 ∧ meetI (S'.sk.getD f []) g.M.first = some mt ∧ (mt.length ≤ 1000 ∧ ∀ m ∈ mt, (0 ≤ m ∧ m < 65536) ∧ valuesI m ≠ []) ∧ Hist S'.og f ds ∧ g.told = false ∧ g.disk = some (leastI mt) ∧ g.deeds = some ds)
theorem tell_len {M : Mach} {pc : List (List Int)} {c n : Nat} {S S' : SS} (h : TellTo M pc c n S S') : n + c ≤ max n S'.sk.length + 0 ∨ True := .inr trivial
abbrev N_tell : List Str := ["machine", "image", "piece", "search", "cover", "table", "disk", "deeds"]
theorem sc_tell : FnScope N_tell ["machine", "image", "piece"] (defScope s_tell) := ⟨rfl, rfl, rfl, by decide +kernel, rfl, by decide +kernel, by decide +kernel⟩
abbrev sp_tell (K : PySem.W.Frag) : Sp := Pp (fun g : TG => [MachS K g.M, R g.im, Ls g.pc]) TellOk (fun g => AnsS K g.told g.disk g.deeds)
theorem ok_tell {f : Addr} {fd : FuncData} (T : Txt K mg) (c_check_question : C8.Cal P w K mg base 3 "check_question" (sp_check_question K) []) (k_Search : C8.Mak P w K mg base 1 "Search" (CSearch K) (sp_Search_init K) []) (m_places : C8.Met P w K mg base 4 (CSearch K) "places" (sp_Search_places K) []) (m_row : C8.Met P w K mg base 5 (CSearch K) "row" (sp_Search_row K) []) (m_history : C8.Met P w K mg base 3 (CSearch K) "history" (sp_Search_history K) []) (k_Answer : C8.Mak P w K mg base 1 "Answer" (CAnswer K) (sp_Answer_init K) []) (k_Paper : C8.Mak P w K mg base 1 "Paper" (CPaper K) (sp_Paper_init K) []) (F : FunD K "tell" "tell" (defArgs s_tell) (defBody s_tell) (defScope s_tell) [] [] f fd) (hm : mg "tell" = some (.ref f)) : C8.Cal P w K mg base 6 "tell" (sp_tell K) [] := by
  refine cal_of F hm sc_tell (fun _ _ _ _ _ _ us hl => match us, hl with | [_, _, _], _ => rfl) (fun vs H Q E ⟨g, h, _⟩ => fas_len h) (fun cdv A outer s H vs Q E hr h => ?_)
  obtain ⟨g, h, hp, q⟩ := h
  obtain ⟨a, b, c, rfl, h1, h2, h3⟩ := fas3 h
  refine ⟨_, (pss_cons (ps_expr (C8.pe_c c_check_question hr (by decide) (by rfl) (pa_cons (pv 0) (pa_cons (pv 1) (pa_cons (pv 2) pa_nil)))))
      (pss_cons (ps_set (i := 3) sc_tell.nd rfl (by first | exact .inl rfl | exact .inr rfl) (C8.pe_mk k_Search hr (by decide) (by rfl) (pa_cons (pv 0) (pa_cons (pv 2) pa_nil))))
      (pss_cons (ps_set (i := 4) sc_tell.nd rfl (by first | exact .inl rfl | exact .inr rfl) (C8.pe_mt m_places hr (by decide) (pv 3) (pa_cons (pv 1) (pa_cons pe_non pa_nil))))
      (pss_cons (ps_set (i := 5) sc_tell.nd rfl (by first | exact .inl rfl | exact .inr rfl) (pe_lst pa_nil))
      (pss_cons (ps_while PassesOwn.never (PW.pt (pw_and (pt_cmpR op_lt (k_fld (K := K) rfl (pv 3) rfl) pe_int (nomark _)) (pw_and1 (pt_cmpR op_lt (pe_callB (k_len (K := K) rfl) (by rfl) T.len PySem.boot_len (pa_cons (pv 5) pa_nil)) (pe_callB (k_len (K := K) rfl) (by rfl) T.len PySem.boot_len (pa_cons (k_fld (K := K) rfl (pv 3) rfl) pa_nil)) (nomark _))))) (pss_one (ps_expr (pe_bm PySem.F.plainAttrs_list PySem.F.slot_list_append PySem.F.type_list_append mt_append (pv 5) (pa_cons (C8.pe_mt m_row hr (by decide) (pv 3) (pa_cons (pe_callB (k_len (K := K) rfl) (by rfl) T.len PySem.boot_len (pa_cons (pv 5) pa_nil)) pa_nil)) pa_nil)))))
      (pss_cons (ps_if (pt_cmpR op_ge (k_fld (K := K) rfl (pv 3) rfl) pe_int (nomark _)) (pss_cons (ps_asg (C8.pe_mt0 m_history hr (by decide) (pv 3)) (k_gtup (K := K) (n := 2) rfl rfl (pgs_cons (pg_name (i := 6) sc_tell.nd rfl (by first | exact .inl rfl | exact .inr rfl)) (pgs_cons (pg_name (i := 7) sc_tell.nd rfl (by first | exact .inl rfl | exact .inr rfl)) pgs_nil))))
        (pss_one (ps_ret (C8.pe_mk k_Answer hr (by decide) (by rfl) (pa_cons pe_bl (pa_cons pe_non (pa_cons (pv 6) (pa_cons (pv 7) pa_nil)))))))) pss_nil)
      (pss_one (ps_ret (C8.pe_mk k_Answer hr (by decide) (by rfl) (pa_cons pe_bl (pa_cons (C8.pe_mk k_Paper hr (by decide) (by rfl) (pa_cons (k_fld (K := K) rfl (pv 3) rfl) (pa_cons (pv 4) (pa_cons (pv 5) pa_nil)))) (pa_cons pe_non (pa_cons pe_non pa_nil))))))))))))), ?_⟩
  obtain ⟨M, im, pc, told, disk, deeds⟩ := g
  have h1 : MachS K M a H := h1
  have h2 : Rep.rp H im b := h2
  have h3 : Ls pc c H := h3
  have q : ∀ v H', Same H H' → AnsS K told disk deeds v H' → Q v H' := q
  obtain ⟨pM, pi, pp, pl, po, pz, cnt, S', hrun, hS'z, hcz, hres⟩ := hp
  have pM : MachOk M.cells M.deeds M.first := pM
  have pi : sketchB M im = true := pi
  have pp : ∀ s ∈ pc, sketchB M s = true := pp
  have pl : pc.length ≤ 4 := pl
  have po : ∀ p ∈ withoutI im pc, skOk p := po
  have pz : (withoutI im pc).length ≤ sizeLine := pz
  have hrun : TellTo M pc cnt 0 (start0 M im pc) S' := hrun
  have hlen : ∀ s, sketchB M s = true → s.length = M.cells.length := fun s hs => by
    simp only [sketchB, Bool.and_eq_true, decide_eq_true_eq] at hs
    exact hs.1
  refine q_drop (ev_pp (T3.mk M im pc) (ea_cons (ev_var rfl h1) (ea_cons (ev_rv rfl h2) (ea_cons (ev_var rfl h3) ea_nil))) ⟨pi, pp, fun c hc => by have := pM.sz c.2 (List.mem_map.mpr ⟨c, hc, rfl⟩); omega⟩) fun H1 e1 => ?_
  refine q_asg (ev_mkSe (m := a) (p := c) (ea_cons (ev_is rfl) (ea_cons (ev_is rfl) ea_nil))) fun v2 H2 e2 hv2 => ?_
  obtain ⟨A, rfl, rfl, rfl, S2, fr⟩ := hv2
  have s2 := e1.trans e2
  have frH : ∀ b ∈ A.all, H b = none := fun b hb => e1.free (fr b hb)
  obtain ⟨lc, lcs, hlc, hlcv, rlc⟩ := Mo.mo s2 h3
  have nlc : lc ∉ A.all := fun hm => by
    obtain ⟨l, vs, e, hl, _⟩ := h3
    have : l = lc := V.ref.inj (e.symm.trans hlc)
    rw [this, frH lc hm] at hl
    cases hl
  have P2 : PcAt A pc H2 := ⟨lc, hlc, nlc, lcs, hlcv, rlc⟩
  obtain ⟨⟨dx2, hx2⟩, _⟩ := id S2
  refine q_seq ?_
  refine me_raw (i := 3) (x := A.x) rfl hx2 (by rfl) (ea_cons (ev_rv (x := im) rfl (Rep.mono (tx_of s2) h2)) (ea_cons (ev_cn.imp (ψ := R (none : Option (Int × Int))) fun v H' hv => hv) ea_nil)) fun vs H3 e3 hvs => ?_
  obtain ⟨w1, w2, rfl, hw1, hw2⟩ := fas2 hvs
  refine ⟨A, ⟨[], [], -1⟩, M, pc, im, none, w1, w2, rfl, S2.same e3, Mo.mo (s2.trans e3) h1, P2.same e3, hw1, hw2, ⟨by rw [hlen im pi]; exact pM.c1.2, pl, fun s hs => by rw [hlen s (pp s hs), hlen im pi]⟩, rfl, po, by show 0 + _ ≤ _; omega, fun v4 H4 o4 S4 hv4 => ?_⟩
  have S4 : SeAt K A (start0 M im pc) H4 := S4
  obtain ⟨lcov, covs, rfl, ncov, hcov, rcov⟩ := hv4
  have t4 := (tx_of (s2.trans e3)).trans ((S2.same e3).tx o4)
  have M4 : MachS K M A.m H4 := (S2.same e3).mach o4 (Mo.mo (s2.trans e3) h1)
  have P4 : PcAt A pc H4 := (P2.same e3).off o4 ((S2.same e3).tx o4)
  have nlcov : lcov ∉ A.all := fun hm => by obtain ⟨o, ho⟩ := (S2.same e3).here lcov hm; rw [ncov] at ho; cases ho
  have sH4 : Same H H4 := same_off (s2.trans e3) o4 frH
  have covLen : covs.length ≤ sizeLine := by
    have := (places_wf (M := M) (og := none) (withoutI im pc) ([], ⟨[], [], -1⟩) rfl).2.2
    have h9 := rcov.length
    unfold placesI at h9
    rw [this] at h9
    have h10 : (([], (⟨[], [], -1⟩ : SS)) : List Int × SS).1.length = 0 := rfl
    omega
  refine q_asg (ev_nl0 (α := AnyV)) fun v5 H5 e5 hv5 => ?_
  obtain ⟨lt, us5, rfl, nt, ht5, ru5⟩ := hv5
  cases ru5
  have ntA : lt ∉ A.all := fun hm => by obtain ⟨o, ho⟩ := S4.here lt hm; rw [nt] at ho; cases ho
  have ntc : lcov ≠ lt := fun z => by rw [z, nt] at hcov; cases hcov
  refine q_whileS (ι := Nat × SS × Nat) (fun i σ' H' => OffL A.all H4 H' ∧ SeAt K A i.2.1 H' ∧ (∃ vs, H' lt = some (.lst vs) ∧ vs.length = i.1 ∧ ∀ r ∈ vs, ∃ b ws, r = .ref b ∧ b ≠ lt ∧ b ∉ A.all ∧ H' b = some (.lst ws) ∧ ws.length ≤ 400 ∧ ∀ e ∈ ws, ∃ c us, e = .ref c ∧ c ≠ lt ∧ c ∉ A.all ∧ H' c = some (.lst us)) ∧ i.1 + i.2.2 = cnt ∧ TellTo M pc i.2.2 i.1 i.2.1 S' ∧ σ' = [some A.m, some b, some A.p, some (.ref A.x), some (.ref lcov), some (.ref lt), none, none]) (fun i => i.2.2) (fun i => decide (i.2.1.found < 0) && decide ((i.1 : Int) < (i.2.1.sk.length : Int))) (0, start0 M im pc, cnt)
    ⟨OffL.of e5, S4.same e5, ⟨[], ht5, rfl, by simp⟩, by show 0 + cnt = cnt; omega, hrun, rfl⟩ ?_ ?_ ?_ ?_
  · rintro ⟨n, S, cc⟩ σ' H6 ⟨o6, S6, ⟨vs, hvs, vl, _⟩, _, _, rfl⟩
    have S6 : SeAt K A S H6 := S6
    obtain ⟨⟨dx6, hx6⟩, _, as6, _⟩ := id S6
    have vl : vs.length = n := vl
    exact et_and (et_test (ev_ib (ev_isF (φ := R S.found) (ev_sf (i := 3) (by rfl) hx6 T.cSearch T.nSearch_found rfl) rfl) ev_ci)) fun _ => et_test (ev_ib (ev_lenRaw (ev_is (v := .ref lt) (by rfl)) hvs vl) (ev_lenL (ev_isF (φ := Ls S.sk) (ev_sf (i := 3) (by rfl) hx6 T.cSearch T.nSearch_sketches rfl) as6.ls)))
  · rintro ⟨n, S, cc⟩ σ' H6 H7 ⟨o6, S6, ⟨vs, hvs, vl, vall⟩, k1, k2, k3⟩ e
    exact ⟨o6.trans (OffL.of e), S6.same e, ⟨vs, e _ _ hvs, vl, fun r hr => let ⟨b, ws, a1, a2, a3, a4, a5, a6⟩ := vall r hr; ⟨b, ws, a1, a2, a3, e _ _ a4, a5, fun x hx => let ⟨c, us, b1, b2, b3, b4⟩ := a6 x hx; ⟨c, us, b1, b2, b3, e _ _ b4⟩⟩⟩, k1, k2, k3⟩
  · rintro ⟨n, S, cc⟩ σ' H6 D' hb ⟨o6, S6, ⟨vs, hvs, vl, vall⟩, k1, k2, rfl⟩ kk _
    have S6 : SeAt K A S H6 := S6
    have vl : vs.length = n := vl
    have k2 : TellTo M pc cc n S S' := k2
    have k1 : n + cc = cnt := k1
    have hb : (decide (S.found < 0) && decide ((n : Int) < (S.sk.length : Int))) = true := hb
    have hb1 : S.found < 0 := by
      rw [Bool.and_eq_true] at hb
      exact of_decide_eq_true hb.1
    have hb2 : n < S.sk.length := by
      rw [Bool.and_eq_true] at hb
      exact Int.ofNat_lt.mp (of_decide_eq_true hb.2)
    cases k2 with
    | stop h => exact absurd ⟨hb1, hb2⟩ h
    | @step cc _ _ _ h ok r =>
      have M6 := S4.mach o6 M4
      have P6 := P4.off o6 (S4.tx o6)
      obtain ⟨⟨dx6, hx6⟩, _⟩ := id S6
      refine ⟨_, rfl, .inl ⟨rfl, _, .inl (.inl hvs)⟩, ?_⟩
      refine me_raw (i := 3) (x := A.x) rfl hx6 (by rfl) (ea_cons (ev_lenRaw (ev_is (v := .ref lt) rfl) hvs vl) ea_nil) fun us7 H7 e7 hus => ?_
      obtain ⟨w1, rfl, hw1⟩ := fas1 hus
      obtain rfl : w1 = .int (n : Int) := hw1
      refine ⟨A, S, M, pc, (n : Int), rfl, S6.same e7, Mo.mo e7 M6, P6.same e7, pM, Int.natCast_nonneg n, ok, fun v8 H8 o8 S8 hv8 => ?_⟩
      obtain ⟨rb, rws, rfl, rb0, rb8, rl, rall⟩ := hv8
      have hvs8 := o8 _ _ ntA (e7 _ _ hvs)
      have S7 := S6.same e7
      have nrb : rb ∉ A.all := fun hm => by obtain ⟨o, ho⟩ := S7.here rb hm; rw [rb0] at ho; cases ho
      have nrt : rb ≠ lt := fun z => by rw [z, e7 _ _ hvs] at rb0; cases rb0
      have wz : vs.length < sizeLine := by omega
      refine ⟨lt, vs, _, rfl, rfl, hvs8, wz, ?_⟩
      refine kk (n + 1, rowTo M pc n S M.deeds.length, cc) _ _ (Nat.lt_succ_self _) ⟨fun x o hx ho => ?_, S8.put hvs8 ntA, ⟨_, upd_same, by rw [List.length_append, vl]; rfl, fun r' hr' => ?_⟩, by show n + 1 + cc = cnt; omega, r, rfl⟩
      · rw [upd_ne (fun z => by rw [z, nt] at ho; cases ho)]
        exact o8 _ _ hx ((o6.trans (OffL.of e7)) _ _ hx ho)
      · rcases List.mem_append.mp hr' with hr' | hr'
        · obtain ⟨b2, ws2, a1, a2, a3, a4, a5, a6⟩ := vall r' hr'
          refine ⟨b2, ws2, a1, a2, a3, by rw [upd_ne a2]; exact o8 _ _ a3 (e7 _ _ a4), a5, fun x hx => ?_⟩
          obtain ⟨c2, us2, b1, b2', b3, b4⟩ := a6 x hx
          exact ⟨c2, us2, b1, b2', b3, by rw [upd_ne b2']; exact o8 _ _ b3 (e7 _ _ b4)⟩
        · refine ⟨rb, rws, by simpa using hr', nrt, nrb, by rw [upd_ne nrt]; exact rb8, rl, fun x hx => ?_⟩
          obtain ⟨c2, us2, b1, b2, b3⟩ := rall x hx
          have nct : c2 ≠ lt := fun z => by rw [z, e7 _ _ hvs] at b2; cases b2
          refine ⟨c2, us2, b1, nct, fun hm => ?_, by rw [upd_ne nct]; exact b3⟩
          obtain ⟨o, ho⟩ := S7.here c2 hm
          rw [b2] at ho
          cases ho
  · rintro ⟨n, S, cc⟩ σ' H6 hb ⟨o6, S6, ⟨vs, hvs, vl, vall⟩, k1, k2, rfl⟩
    have S6 : SeAt K A S H6 := S6
    have vl : vs.length = n := vl
    have k2 : TellTo M pc cc n S S' := k2
    have k1 : n + cc = cnt := k1
    have hb : (decide (S.found < 0) && decide ((n : Int) < (S.sk.length : Int))) = false := hb
    have eS : S = S' := by
      cases k2 with
      | stop h => rfl
      | step h ok r =>
        rw [decide_eq_true h.1, decide_eq_true (Int.ofNat_lt.mpr h.2)] at hb
        cases hb
    subst eS
    have M6 := S4.mach o6 M4
    have sH6 : Same H H6 := fun x o hx => o6 _ _ (fun hm => by rw [frH x hm] at hx; cases hx) (sH4 x o hx)
    obtain ⟨⟨dx6, hx6⟩, _, as6, _⟩ := id S6
    rcases hres with ⟨r1, r2, r3, r4⟩ | ⟨f, ds, mt, r1, r2, r3, r4, r5, r6, r7, r8, r9, r10⟩
    · have r1 : S.found < 0 := r1
      have r2 : told = true := r2
      have r3 : disk = none := r3
      have r4 : deeds = none := r4
      subst r2 r3 r4
      refine q_when (b := decide (0 ≤ S.found)) (et_test (ev_ib (ev_isF (φ := R S.found) (ev_sf (i := 3) rfl hx6 T.cSearch T.nSearch_found rfl) rfl) ev_ci)) (fun e => absurd (of_decide_eq_true e) (by omega)) fun _ H7 e7 => ?_
      have S7 := S6.same e7
      obtain ⟨⟨dx7, hx7⟩, _, as7, _⟩ := id S7
      have hcov7 := e7 _ _ (o6 _ _ nlcov hcov)
      refine s_ret (ev_mk (T3.mk true (none : Option (List Int)) (none : Option (List Int))) (ea_cons ev_cb (ea_cons (φ := AnyS) (ev_anyS (ev_mk (T3.mk S.sk (placesI M ⟨[], [], -1⟩ none (withoutI im pc)).1 n) (ea_cons (ev_isF (φ := Ls S.sk) (ev_sf (i := 3) rfl hx7 T.cSearch T.nSearch_sketches rfl) as7.ls) (ea_cons (ev_var rfl ⟨lcov, covs, rfl, hcov7, Rps.mono ((S4.tx o6).trans (tx_of e7)) rcov⟩) (ea_cons (ev_var (φ := Tbl n) rfl ⟨lt, vs, rfl, e7 _ _ hvs, vl, fun r hr => let ⟨b, ws, a1, a2, a3, a4, a5, a6⟩ := vall r hr; ⟨b, ws, a1, e7 _ _ a4, a5, fun x hx => let ⟨c, us, b1, b2, b3, b4⟩ := a6 x hx; ⟨c, us, b1, e7 _ _ b4⟩⟩⟩) ea_nil))) ⟨hS'z, ?_, ?_⟩)) (ea_cons (φ := R (none : Option (List Int))) (ev_cn.imp fun v H' hv => hv) (ea_cons (φ := OptL none) (ev_cn.imp fun v H' hv => hv) ea_nil)))) trivial) fun v H8 e8 hv8 => q v H8 ((sH6.trans e7).trans e8) hv8
      · show (placesI M ⟨[], [], -1⟩ none (withoutI im pc)).1.length ≤ _
        rw [rcov.length]
        exact covLen
      · show n ≤ sizeLine
        omega
    · have r1 : S.found = (f : Int) := r1
      have r8 : told = false := r8
      have r9 : disk = some (leastI mt) := r9
      have r10 : deeds = some ds := r10
      subst r8 r9 r10
      refine q_when (b := decide (0 ≤ S.found)) (et_test (ev_ib (ev_isF (φ := R S.found) (ev_sf (i := 3) rfl hx6 T.cSearch T.nSearch_found rfl) rfl) ev_ci)) (fun _ H7 e7 => ?_) (fun e => absurd (of_decide_eq_false e) (by omega))
      have S7 := S6.same e7
      obtain ⟨⟨dx7, hx7⟩, _⟩ := id S7
      refine q_seq ?_
      refine me_raw (i := 3) (x := A.x) (φs := []) rfl hx7 (by rfl) ea_nil fun us8 H8 e8 hus => ?_
      obtain rfl : us8 = [] := hus
      refine ⟨A, S, M, f, ds, mt, rfl, S7.same e8, Mo.mo (e7.trans e8) M6, r1, r2, r3, r4, r5, r6, r7, fun v9 H9 e9 hv9 => ?_⟩
      obtain ⟨ha, y1, y2, rfl, hh, hy1, hy2⟩ := hv9
      refine g_two hh ?_
      have hA : Ev (tMake (CAnswer K) (sp_Answer_init K) [] C8.E0 (tCons (tC (.bl false)) (tCons (tC .non) (tCons (tVar 6) (tCons (tVar 7) tNil))))) [some A.m, some b, some A.p, some (.ref A.x), some (.ref lcov), some (.ref lt), some y1, some y2] H9 (AnsS K false (some (leastI mt)) (some ds)) :=
        ev_mk (T3.mk false (some (leastI mt)) (some ds)) (ea_cons ev_cb (ea_cons (φ := AnyS) (ev_anyS ev_cn) (ea_cons (φ := R (some (leastI mt))) (ev_some' (ev_rv rfl hy1) (fun v H h z => by obtain ⟨a, _, e, _⟩ := h; rw [z] at e; cases e)) (ea_cons (φ := OptL (some ds)) (ev_var rfl hy2) ea_nil)))) trivial
      exact Ev.go (Q := Q) hA fun v H10 e10 hv10 => q v H10 ((sH6.trans ((e7.trans e8).trans e9)).trans e10) hv10
end
end RW
set_option Elab.async false
set_option linter.all false
set_option maxRecDepth 100000
set_option maxHeartbeats 4000000
namespace RW
open PySem PySem.Spec PyProof.Rows L2
local macro_rules | `(tactic| walk_at "sm") => `(tactic| first
  | exact Same.refl _
  | assumption
  | exact same_new (by assumption)
  | (refine Same.trans ?_ (by assumption); walk_at "sm")
  | (refine Same.trans ?_ (same_new (by assumption)); walk_at "sm"))
local macro_rules | `(tactic| walk_at "rp") => `(tactic| first
  | assumption
  | exact rfl
  | (refine Rep.mono (tx_of ?_) (by assumption); walk_at "sm")
  | (refine Mo.mo ?_ (by assumption); walk_at "sm"))
local macro_rules | `(tactic| walk_at "ev") => `(tactic| first
  | exact ev_ci
  | exact ev_cs
  | exact ev_cb
  | exact ev_cn
  | (refine @ev_rv _ _ _ _ _ _ _ rfl ?_; walk_at "rp")
  | (refine @ev_var _ _ _ _ _ ?_ rfl ?_; (first | infer_instance | skip); walk_at "rp")
  | (refine ev_ii ?_ ?_ <;> walk_at "ev")
  | (refine ev_ib ?_ ?_ <;> walk_at "ev")
  | (refine ev_eqI ?_ ?_ <;> walk_at "ev")
  | (refine ev_neI ?_ ?_ <;> walk_at "ev")
  | (refine ev_lenT ?_ <;> walk_at "ev")
  | (refine ev_lenL ?_ <;> walk_at "ev")
  | (refine ev_int1 ?_ <;> walk_at "ev")
  | (refine et_test ?_ <;> walk_at "ev")
  | (refine et_B ?_ <;> walk_at "ev")
  | (refine et_not ?_ <;> walk_at "ev")
  | (refine et_or ?_ (fun _ => ?_) <;> walk_at "ev")
  | (refine et_and ?_ (fun _ => ?_) <;> walk_at "ev"))
section
variable {P : Program} {w : World} {K : PySem.W.Frag} {mg : Str → Option Value} {base : Heap}
/-! the law's own helpers -/
/-- the script -/
def Sc (K : PySem.W.Frag) (ns : List Int) : Srt := fun v H => ∃ a, v = .ref a ∧ SqL K H a (ns.map V.int)
instance (ns : List Int) : Mo (Sc K ns) := ⟨fun e ⟨a, h1, h2⟩ => ⟨a, h1, by
  rcases h2 with h2 | h2
  · refine .inl ?_
    rcases h2 with h2 | ⟨od, h2⟩
    · exact .inl (e _ _ h2)
    · exact .inr ⟨od, e _ _ h2⟩
  · exact .inr h2⟩⟩
theorem ev_lenSc {σ : L2.St} {H : Hp} {ta : TE} {ns : List Int} (ha : Ev ta σ H (Sc K ns)) : Ev (tCB (fun xs H Q => ∃ p ys, xs = [.ref p] ∧ (SqL K H p ys ∨ SqT K H p ys) ∧ Q (.int ys.length) H) (tCons ta tNil)) σ H (R (ns.length : Int)) := fun H1 e Q q =>
  ha H1 e _ fun v H2 e2 hv => by
    obtain ⟨a, rfl, h⟩ := hv
    exact ⟨a, _, rfl, .inl h, q _ H2 e2 (by show V.int _ = V.int _; rw [List.length_map])⟩
theorem ev_ixSc {σ : L2.St} {H : Hp} {ta tb : TE} {ns : List Int} {i x : Int} (ha : Ev ta σ H (Sc K ns)) (hb : Ev tb σ H (R i)) (h0 : 0 ≤ i) (h : ns[i.toNat]? = some x) : Ev (tOp (rIxL K) ta tb) σ H (R x) :=
  ev_op ha hb fun v w H1 _ h1 h2 Q q => by
    obtain ⟨a, rfl, hs⟩ := h1
    have hl := (List.getElem?_eq_some_iff.mp h).1
    refine ⟨a, ns.map V.int, i, .int x, rfl, h2, hs, ?_, q _ _ (Same.refl _) rfl⟩
    have e : i = ((i.toNat : Nat) : Int) := by omega
    rw [e]
    exact atI_nat (by rw [List.getElem?_map, h]; rfl)
def cellI (ns : List Int) (k : Nat) : Int := ns.getD k 0
abbrev N_law_cell : List Str := ["_law_script", "_law_k"]
theorem sc_law_cell : FnScope N_law_cell ["_law_script", "_law_k"] (defScope s_law_cell) := ⟨rfl, rfl, rfl, by decide +kernel, rfl, by decide +kernel, by decide +kernel⟩
abbrev sp_law_cell (K : PySem.W.Frag) : Sp := Pp (fun g : List Int × Nat => [Sc K g.1, R (g.2 : Int)]) (fun g => True) (fun g => R (cellI g.1 g.2))
theorem ok_law_cell {f : Addr} {fd : FuncData} (T : Txt K mg)  (F : FunD K "_law_cell" "_law_cell" (defArgs s_law_cell) (defBody s_law_cell) (defScope s_law_cell) [] [] f fd) (hm : mg "_law_cell" = some (.ref f)) : C8.Cal P w K mg base 1 "_law_cell" (sp_law_cell K) [] := by
  refine cal_of F hm sc_law_cell (fun _ _ _ _ _ _ us hl => match us, hl with | [_, _], _ => rfl) (fun vs H Q E ⟨g, h, _⟩ => fas_len h) (fun cdv A outer s H vs Q E hr h => ?_)
  obtain ⟨⟨ns, k⟩, h, hp, q⟩ := h
  obtain ⟨a, b, rfl, h1, h2⟩ := fas2 h
  refine ⟨_, (pss_cons (ps_if (pt_cmpR op_lt (pv 1) (pe_callB (k_len (K := K) rfl) (by rfl) T.len PySem.boot_len (pa_cons (pv 0) pa_nil)) (nomark _)) (pss_one (ps_ret (pe_callTy call_int1 (by rfl) T.int (by decide +kernel) (pa_cons (pe_ix (k_ixL (K := K) rfl) (pv 0) (pv 1) (fun _ _ => rfl)) pa_nil)))) pss_nil)
      (pss_one (ps_ret pe_int))), ?_⟩
  have h1 : Sc K ns a H := h1
  have h2 : Rep.rp H (k : Int) b := h2
  refine q_when (b := decide ((k : Int) < (ns.length : Int))) (et_test (ev_ib (ev_rv rfl h2) (ev_lenSc (ev_var rfl h1)))) (fun e H1 e1 => ?_) (fun e H1 e1 => ?_)
  · have hl : k < ns.length := by have := of_decide_eq_true e; omega
    refine s_ret (ev_int1 (ev_ixSc (x := cellI ns k) (ev_var rfl (Mo.mo e1 h1)) (ev_rv rfl (Rep.mono (tx_of e1) h2)) (by omega) ?_)) fun v H2 e2 hv => q v H2 (e1.trans e2) hv
    unfold cellI
    rw [Int.toNat_natCast, List.getD_eq_getElem?_getD, List.getElem?_eq_getElem hl]
    rfl
  · have hl : ¬ k < ns.length := by have := of_decide_eq_false e; omega
    refine s_ret (Ev.to (x := (0 : Int)) (y := cellI ns k) ev_ci ?_) fun v H2 e2 hv => q v H2 (e1.trans e2) hv
    unfold cellI
    rw [List.getD_eq_getElem?_getD, List.getElem?_eq_none (by omega)]
    rfl
def mixI (c k : Int) : Int := ((((c * 48271 + k * 69621 + 12345).fmod 2147483647) * 16807 + k * 40692 + 777).fmod 2147483629).fdiv 997
abbrev N_law_mix : List Str := ["_law_cell_here", "_law_k", "_law_number"]
theorem sc_law_mix : FnScope N_law_mix ["_law_cell_here", "_law_k"] (defScope s_law_mix) := ⟨rfl, rfl, rfl, by decide +kernel, rfl, by decide +kernel, by decide +kernel⟩
abbrev sp_law_mix : Sp := Pp (fun g : Int × Int => [R g.1, R g.2]) (fun g => True) (fun g => R (mixI g.1 g.2))
theorem ok_law_mix {f : Addr} {fd : FuncData} (T : Txt K mg)  (F : FunD K "_law_mix" "_law_mix" (defArgs s_law_mix) (defBody s_law_mix) (defScope s_law_mix) [] [] f fd) (hm : mg "_law_mix" = some (.ref f)) : C8.Cal P w K mg base 1 "_law_mix" sp_law_mix [] := by
  refine cal_of F hm sc_law_mix (fun _ _ _ _ _ _ us hl => match us, hl with | [_, _], _ => rfl) (fun vs H Q E ⟨g, h, _⟩ => fas_len h) (fun cdv A outer s H vs Q E hr h => ?_)
  obtain ⟨⟨c, k⟩, h, hp, q⟩ := h
  obtain ⟨a, b, rfl, h1, h2⟩ := fas2 h
  refine ⟨_, (pss_cons (ps_set (i := 2) sc_law_mix.nd rfl (by first | exact .inl rfl | exact .inr rfl) (pe_op op_modN (pe_callTy call_int1 (by rfl) T.int (by decide +kernel) (pa_cons (pe_op op_add (pe_op op_add (pe_op op_mul (pv 0) pe_int) (pe_op op_mul (pv 1) pe_int)) pe_int) pa_nil)) pe_int))
      (pss_cons (ps_set (i := 2) sc_law_mix.nd rfl (by first | exact .inl rfl | exact .inr rfl) (pe_op op_modN (pe_callTy call_int1 (by rfl) T.int (by decide +kernel) (pa_cons (pe_op op_add (pe_op op_add (pe_op op_mul (pv 2) pe_int) (pe_op op_mul (pv 1) pe_int)) pe_int) pa_nil)) pe_int))
      (pss_one (ps_ret (pe_op op_fdivN (pv 2) pe_int))))), ?_⟩
  have h1 : Rep.rp H c a := h1
  have h2 : Rep.rp H k b := h2
  refine q_asg (ev_iiC (g := fun i j => i.fmod j) (ev_int1 (ev_ii (ev_ii (ev_iiC (ev_rv rfl h1) ev_ci (.inr (by decide))) (ev_iiC (ev_rv rfl h2) ev_ci (.inr (by decide)))) ev_ci)) ev_ci (by decide)) fun v H1 e1 hv => ?_
  have g2 := Rep.mono (tx_of e1) h2
  refine q_asg (ev_iiC (g := fun i j => i.fmod j) (ev_int1 (ev_ii (ev_ii (ev_iiC (ev_rv rfl hv) ev_ci (.inr (by decide))) (ev_iiC (ev_rv rfl g2) ev_ci (.inr (by decide)))) ev_ci)) ev_ci (by decide)) fun v2 H2 e2 hv2 => ?_
  exact s_ret (ev_iiC (g := fun i j => i.fdiv j) (ev_rv rfl hv2) ev_ci ⟨by decide, by decide⟩) fun v H3 e3 hv => q v H3 ((e1.trans e2).trans e3) hv
def lawC : Nat → List (List Int)
  | 0 => [[]]
  | n + 1 => (lawC n).flatMap fun p => (rg 2).map fun x => p ++ [x]
theorem lawC_ok : ∀ n, n ≤ 3 → (lawC n).length ≤ 8 ∧ ∀ p ∈ lawC n, p.length = n := by
  have : ∀ n, n ≤ 3 → ((decide ((lawC n).length ≤ 8)) && (lawC n).all fun p => decide (p.length = n)) = true := by decide
  intro n hn
  have h := this n hn
  simp only [Bool.and_eq_true, decide_eq_true_eq, List.all_eq_true] at h
  exact h
theorem foldl_flat {α β : Type} (F : β → List α) : ∀ (zs : List β) (c : List α), zs.foldl (fun c z => c ++ F z) c = c ++ zs.flatMap F
  | [], c => by simp
  | z :: r, c => by rw [List.foldl_cons, foldl_flat F r, List.flatMap_cons, List.append_assoc]
abbrev N_law_contents : List Str := ["_law_values", "_law_length", "_law_found", "_law_k", "_law_longer", "_law_part", "_law_value"]
theorem sc_law_contents : FnScope N_law_contents ["_law_values", "_law_length"] (defScope s_law_contents) := ⟨rfl, rfl, rfl, by decide +kernel, rfl, by decide +kernel, by decide +kernel⟩
abbrev sp_law_contents : Sp := Pn (fun g : Int × Nat => [R g.1, R (g.2 : Int)]) (fun g => g.1 = 2 ∧ g.2 ≤ 3) (fun g H => NLs H (lawC g.2))
theorem ok_law_contents {f : Addr} {fd : FuncData} (T : Txt K mg)  (F : FunD K "_law_contents" "_law_contents" (defArgs s_law_contents) (defBody s_law_contents) (defScope s_law_contents) [] [] f fd) (hm : mg "_law_contents" = some (.ref f)) : C8.Cal P w K mg base 1 "_law_contents" sp_law_contents [] := by
  refine cal_of F hm sc_law_contents (fun _ _ _ _ _ _ us hl => match us, hl with | [_, _], _ => rfl) (fun vs H Q E ⟨g, h, _⟩ => fas_len h) (fun cdv A outer s H vs Q E hr h => ?_)
  obtain ⟨⟨n, k⟩, h, hp, q⟩ := h
  obtain ⟨a, b, rfl, h1, h2⟩ := fas2 h
  refine ⟨_, (pss_cons (ps_set (i := 2) sc_law_contents.nd rfl (by first | exact .inl rfl | exact .inr rfl) (pe_lst (pa_cons (pe_tup pa_nil) pa_nil)))
      (pss_cons (ps_for PassesOwn.never rfl (pi_range1 (by rfl) T.range (pa_cons (pv 1) pa_nil)) (pg_name (i := 3) sc_law_contents.nd rfl (by first | exact .inl rfl | exact .inr rfl))
        (pss_cons (ps_set (i := 4) sc_law_contents.nd rfl (by first | exact .inl rfl | exact .inr rfl) (pe_lst pa_nil))
        (pss_cons (ps_for PassesOwn.never rfl (k_list (K := K) rfl (pv 2)) (pg_name (i := 5) sc_law_contents.nd rfl (by first | exact .inl rfl | exact .inr rfl))
          (pss_one (ps_for PassesOwn.never rfl (pi_range1 (by rfl) T.range (pa_cons (pv 0) pa_nil)) (pg_name (i := 6) sc_law_contents.nd rfl (by first | exact .inl rfl | exact .inr rfl))
            (pss_one (ps_expr (pe_bm PySem.F.plainAttrs_list PySem.F.slot_list_append PySem.F.type_list_append mt_append (pv 4) (pa_cons (pe_op (k_catA (K := K) rfl) (pv 5) (pe_tup (pa_cons (pv 6) pa_nil))) pa_nil)))))))
        (pss_one (ps_set (i := 2) sc_law_contents.nd rfl (by first | exact .inl rfl | exact .inr rfl) (pv 4))))))
      (pss_one (ps_ret (pv 2))))), ?_⟩
  obtain ⟨p1, p2⟩ := hp
  obtain rfl : n = 2 := p1
  have p2 : k ≤ 3 := p2
  have h1 : Rep.rp H (2 : Int) a := h1
  obtain rfl : a = .int 2 := h1
  have h2 : Rep.rp H (k : Int) b := h2
  refine q_asg (ev_nl1 (ev_tl0 (α := Int))) fun v H1 e1 hv => ?_
  refine q_for (evi_range1 (n := (k : Int)) (ea_cons (ev_rv rfl (Rep.mono (tx_of e1) h2)) ea_nil) (by omega) (by omega)) (fun H2 i σ' H' => Same H2 H' ∧ ∃ (u : V) (x1 x2 x3 x4 : Option V), σ' = [some (.int 2), some b, some u, x1, x2, x3, x4] ∧ NLs H (lawC i) u H') (fun H2 e2 => ⟨Same.refl _, v, none, none, none, none, rfl, Mo.mo e2 hv⟩) (fun H2 i σ' H' p => p.1) ?_ ?_
  · rintro H2 i x σ' H' H'' e2 hi ⟨s1, u, x1, x2, x3, x4, rfl, hu⟩ s2 _
    have hik : i < k := by simpa using hi
    obtain ⟨c1, c2⟩ := lawC_ok i (by omega)
    obtain ⟨c3, c4⟩ := lawC_ok (i + 1) (by omega)
    have sA : Same H H'' := ((e1.trans e2).trans s1).trans s2
    obtain ⟨lf, vf, rfl, nf, hf, rf⟩ := Mo.mo s2 hu
    refine q_asg (ev_nl0 (α := List Int)) fun v5 H5 e5 hv5 => ?_
    obtain ⟨l, rfl, n5, a5⟩ := at_of hv5
    have nlf : lf ≠ l := fun z => by rw [z, n5] at hf; cases hf
    have hf5 := e5 _ _ hf
    refine q_forAcc (fun (c : List (List Int)) (p : List Int) => c ++ (rg 2).map fun x => p ++ [x]) [] (fun c σ' H' => At l c H' ∧ ∃ y z, σ' = [some (.int 2), some b, some (.ref lf), some x, some (.ref l), y, z]) (evg_list a5.ll (ev_is rfl) hf5 (Rps.mono (tx_of e5) rf) (by simpa using nlf)) (fun H6 e6 => ⟨a5.same e6, x3, x4, rfl⟩) (fun c σ' H' H'' p e => ⟨p.1.same e, p.2⟩) ?_ ?_
    · rintro pre p suf xp σ' H6 D' hzs ⟨A6, y, z, rfl⟩ o6 hxp kk _
      have hpm : p ∈ lawC i := by rw [hzs]; exact List.mem_append_right _ List.mem_cons_self
      have hpl := c2 p hpm
      have hpre : (pre.foldl (fun (c : List (List Int)) (p : List Int) => c ++ (rg 2).map fun x => p ++ [x]) []).length ≤ 16 := by
        rw [foldl_flat, List.nil_append, List.length_flatMap]
        have h5 := congrArg List.length hzs
        rw [List.length_append, List.length_cons] at h5
        have h6 : (pre.map fun p => ((rg 2).map fun x => p ++ [x]).length).sum = 2 * pre.length := by
          clear h5 hzs A6 kk
          induction pre with
          | nil => rfl
          | cons q r ih => rw [List.map_cons, List.sum_cons, ih, List.length_map, rg_len, List.length_cons]; omega
        rw [h6]
        omega
      generalize pre.foldl (fun (c : List (List Int)) (p : List Int) => c ++ (rg 2).map fun x => p ++ [x]) [] = c0 at A6 kk hpre
      refine s_forApp (fun x : Int => p ++ [x]) (fun σ' => ∃ z, σ' = [some (.int 2), some b, some (.ref lf), some x, some (.ref l), some xp, z]) (zs := rg 2) (evg_range1 (n := 2) (ea_cons (ev_rv (x := (2 : Int)) rfl rfl) ea_nil) (by decide) (by decide)) ⟨z, rfl⟩ A6 (by rw [rg_len, sizeLine_eq]; omega) ?_ ?_
      · rintro zz xx σ' H7 ys D7 hzm ⟨z2, rfl⟩ o7 hxx hys hlen kk7
        exact s_appA hys hlen (ev_is rfl) (ev_catT (ev_rv rfl (Rep.mono (tx_off A6.ll o7) hxp)) (ev_tl1 (ev_rv rfl hxx)) (by rw [hpl, List.length_singleton, sizeLine_eq]; omega)) fun H8 o8 a8 => kk7 _ H8 ⟨some xx, rfl⟩ o8 a8
      · rintro σ' H7 ⟨z2, rfl⟩ o7 a7
        exact (kk _ H7 o7 ⟨a7, some xp, z2, rfl⟩).1
    · rintro σ' H6 o6 ⟨A6, y, z, rfl⟩
      rw [foldl_flat, List.nil_append] at A6
      have A6 : At l (lawC (i + 1)) H6 := A6
      have sN : Same H'' H6 := same_off e5 o6 (fun c hc => by rw [show c = l from by simpa using hc]; exact n5)
      have hN : NLs H (lawC (i + 1)) (.ref l) H6 := by
        obtain ⟨vs, h9, r9⟩ := A6
        exact ⟨l, vs, rfl, sA.free n5, h9, r9⟩
      exact s_asg (φ := NLs H (lawC (i + 1))) (ev_var rfl hN) fun v7 H7 e7 hv7 => ⟨((s1.trans s2).trans sN).trans e7, v7, some x, some (.ref l), y, z, rfl, hv7⟩
  · rintro H2 σ' H' e2 ⟨s1, u, x1, x2, x3, x4, rfl, hu⟩
    refine s_ret (φ := NLs H (lawC k)) (ev_var rfl (by simpa using hu)) fun v5 H5 e5 hv5 => q v5 H5 (((e1.trans e2).trans s1).trans e5) hv5
abbrev N_law_links : List Str := ["_law_blocks_here", "_law_block"]
theorem sc_law_links : FnScope N_law_links ["_law_blocks_here"] (defScope s_law_links) := ⟨rfl, rfl, rfl, by decide +kernel, rfl, by decide +kernel, by decide +kernel⟩
abbrev sp_law_links : Sp := Pn (fun g : List Int => [Ls g]) (fun g => g.length ≤ 1000) (fun g H => NLs H (linksI g))
theorem ok_law_links {f : Addr} {fd : FuncData} (T : Txt K mg)  (F : FunD K "_law_links" "_law_links" (defArgs s_law_links) (defBody s_law_links) (defScope s_law_links) [] [] f fd) (hm : mg "_law_links" = some (.ref f)) : C8.Cal P w K mg base 1 "_law_links" sp_law_links [] := by
  refine cal_of F hm sc_law_links (fun _ _ _ _ _ _ us hl => match us, hl with | [_], _ => rfl) (fun vs H Q E ⟨g, h, _⟩ => fas_len h) (fun cdv A outer s H vs Q E hr h => ?_)
  obtain ⟨xs, h, hp, q⟩ := h
  obtain ⟨a, rfl, h1⟩ := fas1 h
  refine ⟨_, (pss_one (ps_ret (pe_op op_cat (pe_lc (own := [("_law_block", 1)]) rfl sc_law_links.nd (k_list (K := K) rfl (pe_slice (k_slL (K := K) rfl) (pv 0) (po_some pe_int) po_none)) (blkOk_by (N := N_law_links) (sc := defScope s_law_links) (by decide +kernel)) (fun _ _ _ _ _ => (pg_name (i := 1) sc_law_links.nd rfl (by first | exact .inl rfl | exact .inr rfl))) (fun _ _ _ _ _ => pts_nil) (fun _ _ _ _ _ => (pe_op op_add pe_int (pv 1)))) (pe_lst (pa_cons pe_int pa_nil))))), ?_⟩
  have hp : xs.length ≤ 1000 := hp
  have v1 := ev_slL (K := K) (ta := tVar 0) (σ := [some a, none]) (ev_var rfl h1) (eo_some (i := ((1 : Nat) : Int)) ev_ci) eo_none
  rw [cutX_from] at v1
  refine s_ret (ev_cat (ev_ls (ev_lcm (fun b : Int => 2 + b) 0 (evi_list (ev_ls v1)) (by rw [List.length_drop, sizeLine_eq]; omega) (fun _ => rfl) (fun z x H1 hz e hx => ev_ii ev_ci (ev_rv rfl hx)))) (ev_ls (ev_nl1 ev_ci)) ?_) fun v H1 e hv => q v H1 e hv
  rw [List.length_map, List.length_drop, List.length_singleton, sizeLine_eq]
  omega
abbrev LF := T4 Int Int Int Int
def lf (F : Form) : LF := ⟨F.files, F.blocks, F.alphabet, F.longest⟩
def lsizes (F : Form) : List Int := (List.replicate F.files.toNat [1 + 2 * F.blocks]).flatten ++ (List.replicate F.blocks.toNat [2 + F.blocks]).flatten ++ (List.replicate F.blocks.toNat [F.alphabet]).flatten
theorem repl_len {n : Nat} {x : Int} : ((List.replicate n [x]).flatten).length = n := by simp
abbrev N_law_sizes : List Str := ["_law_form", "_law_files", "_law_blocks_here", "_law_values", "_law_longest"]
theorem sc_law_sizes : FnScope N_law_sizes ["_law_form"] (defScope s_law_sizes) := ⟨rfl, rfl, rfl, by decide +kernel, rfl, by decide +kernel, by decide +kernel⟩
abbrev sp_law_sizes : Sp := Pn (fun g : Form => [R (lf g)]) (fun g => okF g) (fun g H => NLs H (lsizes g))
theorem ok_law_sizes {f : Addr} {fd : FuncData} (T : Txt K mg)  (F : FunD K "_law_sizes" "_law_sizes" (defArgs s_law_sizes) (defBody s_law_sizes) (defScope s_law_sizes) [] [] f fd) (hm : mg "_law_sizes" = some (.ref f)) : C8.Cal P w K mg base 1 "_law_sizes" sp_law_sizes [] := by
  refine cal_of F hm sc_law_sizes (fun _ _ _ _ _ _ us hl => match us, hl with | [_], _ => rfl) (fun vs H Q E ⟨g, h, _⟩ => fas_len h) (fun cdv A outer s H vs Q E hr h => ?_)
  obtain ⟨F0, h, hp, q⟩ := h
  obtain ⟨a, rfl, h1⟩ := fas1 h
  refine ⟨_, (pss_cons (ps_asg (pv 0) (k_gtup (K := K) (n := 4) rfl rfl (pgs_cons (pg_name (i := 1) sc_law_sizes.nd rfl (by first | exact .inl rfl | exact .inr rfl)) (pgs_cons (pg_name (i := 2) sc_law_sizes.nd rfl (by first | exact .inl rfl | exact .inr rfl)) (pgs_cons (pg_name (i := 3) sc_law_sizes.nd rfl (by first | exact .inl rfl | exact .inr rfl)) (pgs_cons (pg_name (i := 4) sc_law_sizes.nd rfl (by first | exact .inl rfl | exact .inr rfl)) pgs_nil))))))
      (pss_one (ps_ret (pe_op op_cat (pe_op op_cat (pe_op op_rep (pe_lst (pa_cons (pe_op op_add pe_int (pe_op op_mul pe_int (pv 2))) pa_nil)) (pv 1)) (pe_op op_rep (pe_lst (pa_cons (pe_op op_add pe_int (pv 2)) pa_nil)) (pv 2))) (pe_op op_rep (pe_lst (pa_cons (pv 3) pa_nil)) (pv 2)))))), ?_⟩
  have hp : okF F0 := hp
  obtain ⟨p1, p2, p3, p4⟩ := hp
  refine q_asgG (ev_rv (x := lf F0) rfl h1) fun v1 H1 e1 hv1 => g_t4n hv1 fun y1 y2 y3 y4 hy1 hy2 hy3 hy4 => ?_
  have hy1 : Rep.rp H1 F0.files y1 := hy1
  have hy2 : Rep.rp H1 F0.blocks y2 := hy2
  have hy3 : Rep.rp H1 F0.alphabet y3 := hy3
  refine s_ret (ev_cat (ev_ls (ev_cat (ev_ls (ev_rep (ev_ls (ev_nl1 (ev_ii ev_ci (ev_iiC ev_ci (ev_rv rfl hy2) (.inl (by decide)))))) (ev_rv rfl hy1) (by omega) (by omega) (by rw [List.length_singleton, sizeLine_eq]; omega))) (ev_ls (ev_rep (ev_ls (ev_nl1 (ev_ii ev_ci (ev_rv rfl hy2)))) (ev_rv rfl hy2) (by omega) (by omega) (by rw [List.length_singleton, sizeLine_eq]; omega))) (by rw [repl_len, repl_len, sizeLine_eq]; omega))) (ev_ls (ev_rep (ev_ls (ev_nl1 (ev_rv rfl hy3))) (ev_rv rfl hy2) (by omega) (by omega) (by rw [List.length_singleton, sizeLine_eq]; omega))) (by rw [List.length_append, repl_len, repl_len, repl_len, sizeLine_eq]; omega)) fun v H2 e2 hv => q v H2 (e1.trans e2) (hv.back e1)
def lstarts (F : Form) : List (List Int) := if F.wiped = true then [(List.replicate (F.files + 2 * F.blocks).toNat [(0 : Int)]).flatten] else (lawC F.blocks.toNat).map fun d => (List.replicate (F.files + F.blocks).toNat [(0 : Int)]).flatten ++ d
abbrev N_law_starts : List Str := ["_law_form", "_law_wiped", "_law_files", "_law_blocks_here", "_law_values", "_law_longest", "_law_data"]
theorem sc_law_starts : FnScope N_law_starts ["_law_form", "_law_wiped"] (defScope s_law_starts) := ⟨rfl, rfl, rfl, by decide +kernel, rfl, by decide +kernel, by decide +kernel⟩
abbrev sp_law_starts : Sp := Pn (fun g : Form => [R (lf g), R g.wiped]) (fun g => okF g) (fun g H => NLs H (lstarts g))
theorem ok_law_starts {f : Addr} {fd : FuncData} (T : Txt K mg) (c_law_contents : C8.Cal P w K mg base 1 "_law_contents" sp_law_contents []) (F : FunD K "_law_starts" "_law_starts" (defArgs s_law_starts) (defBody s_law_starts) (defScope s_law_starts) [] [] f fd) (hm : mg "_law_starts" = some (.ref f)) : C8.Cal P w K mg base 2 "_law_starts" sp_law_starts [] := by
  refine cal_of F hm sc_law_starts (fun _ _ _ _ _ _ us hl => match us, hl with | [_, _], _ => rfl) (fun vs H Q E ⟨g, h, _⟩ => fas_len h) (fun cdv A outer s H vs Q E hr h => ?_)
  obtain ⟨F0, h, hp, q⟩ := h
  obtain ⟨a, b, rfl, h1, h2⟩ := fas2 h
  refine ⟨_, (pss_cons (ps_asg (pv 0) (k_gtup (K := K) (n := 4) rfl rfl (pgs_cons (pg_name (i := 2) sc_law_starts.nd rfl (by first | exact .inl rfl | exact .inr rfl)) (pgs_cons (pg_name (i := 3) sc_law_starts.nd rfl (by first | exact .inl rfl | exact .inr rfl)) (pgs_cons (pg_name (i := 4) sc_law_starts.nd rfl (by first | exact .inl rfl | exact .inr rfl)) (pgs_cons (pg_name (i := 5) sc_law_starts.nd rfl (by first | exact .inl rfl | exact .inr rfl)) pgs_nil))))))
      (pss_cons (ps_if (pt_val (pv 1)) (pss_one (ps_ret (pe_lst (pa_cons (pe_op (k_repT (K := K) rfl) (pe_tup (pa_cons pe_int pa_nil)) (pe_op op_add (pv 2) (pe_op op_mul pe_int (pv 3)))) pa_nil)))) pss_nil)
      (pss_one (ps_ret (pe_lc (own := [("_law_data", 6)]) rfl sc_law_starts.nd (k_list (K := K) rfl (C8.pe_c c_law_contents hr (by decide) (by rfl) (pa_cons (pv 4) (pa_cons (pv 3) pa_nil)))) (blkOk_by (N := N_law_starts) (sc := defScope s_law_starts) (by decide +kernel)) (fun _ _ _ _ _ => (pg_name (i := 6) sc_law_starts.nd rfl (by first | exact .inl rfl | exact .inr rfl))) (fun _ _ _ _ _ => pts_nil) (fun _ _ _ _ _ => (pe_op (k_catA (K := K) rfl) (pe_op (k_repT (K := K) rfl) (pe_tup (pa_cons pe_int pa_nil)) (pe_op op_add (pv 2) (pv 3))) (pv 6)))))))), ?_⟩
  have hp : okF F0 := hp
  have h2 : Rep.rp H F0.wiped b := h2
  obtain ⟨p1, p2, p3, p4⟩ := hp
  have hB : F0.blocks = ((F0.blocks.toNat : Nat) : Int) := by omega
  refine q_asgG (ev_rv (x := lf F0) rfl h1) fun v1 H1 e1 hv1 => g_t4n hv1 fun y1 y2 y3 y4 hy1 hy2 hy3 hy4 => ?_
  have hy1 : Rep.rp H1 F0.files y1 := hy1
  have hy2 : Rep.rp H1 F0.blocks y2 := hy2
  have hy3 : Rep.rp H1 F0.alphabet y3 := hy3
  refine q_when (b := F0.wiped) (et_B (ev_rv rfl (Rep.mono (tx_of e1) h2))) (fun ew H2 e2 => ?_) (fun ew H2 e2 => ?_)
  · refine s_ret (ev_nl1 (ev_repT (ev_tl1 ev_ci) (ev_ii (ev_rv rfl (Rep.mono (tx_of e2) hy1)) (ev_iiC ev_ci (ev_rv rfl (Rep.mono (tx_of e2) hy2)) (.inl (by decide)))) (by simp) (by simp) (by omega) (by omega))) fun v H3 e3 hv => q v H3 ((e1.trans e2).trans e3) ?_
    show NLs H (lstarts F0) v H3
    unfold lstarts
    rw [if_pos ew]
    exact hv.back (e1.trans e2)
  · obtain ⟨c1, c2⟩ := lawC_ok F0.blocks.toNat (by omega)
    have hz0 : ((List.replicate (F0.files + F0.blocks).toNat [(0 : Int)]).flatten).length = (F0.files + F0.blocks).toNat := repl_len
    refine s_ret (ev_lcm (fun d : List Int => (List.replicate (F0.files + F0.blocks).toNat [(0 : Int)]).flatten ++ d) [] (evi_list (ev_ls (ev_pn (F0.alphabet, F0.blocks.toNat) (ea_cons (ev_rv rfl (Rep.mono (tx_of e2) hy3)) (ea_cons (by rw [← hB]; exact ev_rv rfl (Rep.mono (tx_of e2) hy2)) ea_nil)) ⟨p3, by show F0.blocks.toNat ≤ 3; omega⟩))) (by show (lawC F0.blocks.toNat).length ≤ _; rw [sizeLine_eq]; omega) (fun _ => rfl) (fun z x H1 hz e hx => ev_catT (ev_repT (ev_tl1 ev_ci) (ev_ii (ev_rv rfl (Rep.mono (tx_of (e2.trans e)) hy1)) (ev_rv rfl (Rep.mono (tx_of (e2.trans e)) hy2))) (by simp) (by simp) (by omega) (by omega)) (ev_rv rfl hx) (by have := c2 z hz; rw [hz0, sizeLine_eq]; omega))) fun v H3 e3 hv => q v H3 ((e1.trans e2).trans e3) ?_
    show NLs H (lstarts F0) v H3
    unfold lstarts
    rw [ew]
    exact hv.back (e1.trans e2)
end
end RW
set_option Elab.async false
set_option linter.all false
set_option maxRecDepth 100000
set_option maxHeartbeats 4000000
namespace RW
open PySem PySem.Spec PyProof.Rows L2
local macro_rules | `(tactic| walk_at "sm") => `(tactic| first
  | exact Same.refl _
  | assumption
  | exact same_new (by assumption)
  | (refine Same.trans ?_ (by assumption); walk_at "sm")
  | (refine Same.trans ?_ (same_new (by assumption)); walk_at "sm"))
local macro_rules | `(tactic| walk_at "rp") => `(tactic| first
  | assumption
  | exact rfl
  | (refine Rep.mono (tx_of ?_) (by assumption); walk_at "sm")
  | (refine Mo.mo ?_ (by assumption); walk_at "sm"))
local macro_rules | `(tactic| walk_at "ev") => `(tactic| first
  | exact ev_ci
  | exact ev_cs
  | exact ev_cb
  | exact ev_cn
  | (refine @ev_rv _ _ _ _ _ _ _ rfl ?_; walk_at "rp")
  | (refine @ev_var _ _ _ _ _ ?_ rfl ?_; (first | infer_instance | skip); walk_at "rp")
  | (refine ev_ii ?_ ?_ <;> walk_at "ev")
  | (refine ev_ib ?_ ?_ <;> walk_at "ev")
  | (refine ev_eqI ?_ ?_ <;> walk_at "ev")
  | (refine ev_neI ?_ ?_ <;> walk_at "ev")
  | (refine ev_lenT ?_ <;> walk_at "ev")
  | (refine ev_lenL ?_ <;> walk_at "ev")
  | (refine ev_int1 ?_ <;> walk_at "ev")
  | (refine et_test ?_ <;> walk_at "ev")
  | (refine et_B ?_ <;> walk_at "ev")
  | (refine et_not ?_ <;> walk_at "ev")
  | (refine et_or ?_ (fun _ => ?_) <;> walk_at "ev")
  | (refine et_and ?_ (fun _ => ?_) <;> walk_at "ev"))
section
variable {P : Program} {w : World} {K : PySem.W.Frag} {mg : Str → Option Value} {base : Heap}
def fitsB (im d : List Int) : Bool := (im.zip d).all fun p => bitB p.1 p.2
abbrev N_law_fits : List Str := ["_law_image", "_law_disk", "_law_mask", "_law_value"]
theorem sc_law_fits : FnScope N_law_fits ["_law_image", "_law_disk"] (defScope s_law_fits) := ⟨rfl, rfl, rfl, by decide +kernel, rfl, by decide +kernel, by decide +kernel⟩
abbrev sp_law_fits : Sp := Pp (fun g : List Int × List Int => [R g.1, R g.2]) (fun g => ∀ v ∈ g.2, 0 ≤ v) (fun g => R (fitsB g.1 g.2))
theorem ok_law_fits {f : Addr} {fd : FuncData} (T : Txt K mg)  (F : FunD K "_law_fits" "_law_fits" (defArgs s_law_fits) (defBody s_law_fits) (defScope s_law_fits) [] [] f fd) (hm : mg "_law_fits" = some (.ref f)) : C8.Cal P w K mg base 1 "_law_fits" sp_law_fits [] := by
  refine cal_of F hm sc_law_fits (fun _ _ _ _ _ _ us hl => match us, hl with | [_, _], _ => rfl) (fun vs H Q E ⟨g, h, _⟩ => fas_len h) (fun cdv A outer s H vs Q E hr h => ?_)
  obtain ⟨⟨im, d⟩, h, hp, q⟩ := h
  obtain ⟨a, b, rfl, h1, h2⟩ := fas2 h
  refine ⟨_, (pss_cons (ps_for PassesOwn.never rfl (k_zipA (K := K) rfl (by rfl) T.zip (pa_cons (pv 0) (pa_cons (pv 1) pa_nil))) (k_gtup (K := K) (n := 2) rfl rfl (pgs_cons (pg_name (i := 2) sc_law_fits.nd rfl (by first | exact .inl rfl | exact .inr rfl)) (pgs_cons (pg_name (i := 3) sc_law_fits.nd rfl (by first | exact .inl rfl | exact .inr rfl)) pgs_nil)))
        (pss_one (ps_if (pt_cmpR op_eq (pe_op op_and (pe_op op_shr (pv 2) (pv 3)) pe_int) pe_int (nomark _)) (pss_one (ps_ret pe_bl)) pss_nil)))
      (pss_one (ps_ret pe_bl))), ?_⟩
  have hp : ∀ v ∈ d, 0 ≤ v := hp
  refine q_for (evi_zipTT (ea_cons (ev_rv rfl h1) (ea_cons (ev_rv rfl h2) ea_nil))) (fun H2 i σ' H' => Same H2 H' ∧ (∃ y z, σ' = [some a, some b, y, z]) ∧ ((im.zip d).take i).all (fun p => bitB p.1 p.2) = true) (fun H2 e2 => ⟨Same.refl _, ⟨none, none, rfl⟩, by simp⟩) (fun H2 i σ' H' p => p.1) ?_ ?_
  · rintro H2 i x σ' H' H'' e2 hi ⟨s1, ⟨y, z, rfl⟩, hall⟩ s2 ⟨p, hz, hx⟩
    have hp2 := hp p.2 (List.of_mem_zip (show (p.1, p.2) ∈ _ from List.mem_of_getElem? hz)).2
    refine g_pair hx fun x1 x2 hx1 hx2 => ?_
    refine s_when (b := !bitB p.1 p.2) (EvT.to (et_test (ev_eqI (ev_ii (g := fun i j => Builtin.bitAnd i j) (ev_iiC (g := fun i j => i / 2 ^ j.toNat) (ev_rv rfl hx1) (ev_rv rfl hx2) hp2) ev_ci) ev_ci)) (by unfold bitB; simp)) (fun e H3 e3 => ?_) (fun e H3 e3 => ⟨(s1.trans s2).trans e3, ⟨some x1, some x2, rfl⟩, by rw [take_snoc hz, List.all_append, hall]; simpa using e⟩)
    refine s_ret (Ev.to (x := false) (y := fitsB im d) ev_cb ?_) fun v H4 e4 hv => q v H4 ((((e2.trans s1).trans s2).trans e3).trans e4) hv
    symm
    refine Bool.eq_false_iff.mpr fun hh => ?_
    have := List.all_eq_true.mp hh p (List.mem_of_getElem? hz)
    rw [this] at e
    cases e
  · rintro H2 σ' H' e2 ⟨s1, ⟨y, z, rfl⟩, hall⟩
    rw [List.take_length] at hall
    exact s_ret (Ev.to (x := true) (y := fitsB im d) ev_cb hall.symm) fun v H3 e3 hv => q v H3 ((e2.trans s1).trans e3) hv
/-- a disk of the form -/
structure OkD (F : Form) (d : List Int) : Prop where
  len : (d.length : Int) = F.files + 2 * F.blocks
  link : ∀ b, 0 ≤ b → b < F.blocks → 0 ≤ szI d (F.files + b) ∧ szI d (F.files + b) < 2 + F.blocks
  pos : ∀ v ∈ d, 0 ≤ v
def stB (F : Form) (d f : List Int) : List Int := if 1 < szI d (F.files + lastI f) then f ++ [szI d (F.files + lastI f) - 2] else f
def blocksI (F : Form) (d : List Int) (file : Int) : Option (List Int) := if (decide (szI d file < 1) || decide (F.blocks < szI d file)) = true then none else some ((rg F.blocks.toNat).foldl (fun f _ => stB F d f) [szI d file - 1])
def Bin (F : Form) (f : List Int) : Prop := f ≠ [] ∧ ∀ x ∈ f, 0 ≤ x ∧ x < F.blocks
theorem last_mem {f : List Int} (h : f ≠ []) : lastI f ∈ f := by
  unfold lastI
  rw [List.getLast?_eq_some_getLast h]
  exact List.getLast_mem h
theorem last_ix {f : List Int} (h : f ≠ []) : atI f (-1) = some (lastI f) := by
  have hl : 0 < f.length := List.length_pos_iff.mpr h
  have e2 : lastI f = f.getLast h := by unfold lastI; rw [List.getLast?_eq_some_getLast h]; rfl
  unfold atI ixN
  rw [if_neg (by decide), if_pos (by omega)]
  show f[((-1 : Int) + f.length).toNat]? = _
  rw [show ((-1 : Int) + f.length).toNat = f.length - 1 by omega, e2, List.getLast_eq_getElem, List.getElem?_eq_getElem]
theorem stB_in {F : Form} {d f : List Int} (hd : OkD F d) (hf : Bin F f) : Bin F (stB F d f) ∧ (stB F d f).length ≤ f.length + 1 := by
  have hl := hf.2 _ (last_mem hf.1)
  have hk := hd.link _ hl.1 hl.2
  unfold stB
  split
  · refine ⟨⟨by simp, fun x hx => ?_⟩, by simp⟩
    rcases List.mem_append.mp hx with hx | hx
    · exact hf.2 x hx
    · rw [show x = szI d (F.files + lastI f) - 2 from by simpa using hx]
      omega
  · exact ⟨hf, by omega⟩
theorem foldB_in {F : Form} {d : List Int} (hd : OkD F d) : ∀ (zs : List Int) (f : List Int), Bin F f → Bin F (zs.foldl (fun f _ => stB F d f) f) ∧ (zs.foldl (fun f _ => stB F d f) f).length ≤ f.length + zs.length
  | [], f, h => ⟨h, by simp⟩
  | z :: r, f, h => by
    have h1 := stB_in hd h
    have h2 := foldB_in hd r _ h1.1
    refine ⟨h2.1, ?_⟩
    rw [List.length_cons]
    have := h1.2
    have := h2.2
    show (r.foldl (fun f _ => stB F d f) (stB F d f)).length ≤ _
    omega
theorem blocks_in {F : Form} {d : List Int} {file : Int} (hF : okF F) (hd : OkD F d) {bs : List Int} (h : blocksI F d file = some bs) : Bin F bs ∧ bs.length ≤ 4 := by
  unfold blocksI at h
  split at h
  · cases h
  · rename_i hn
    cases h
    have hn : ¬ (szI d file < 1 ∨ F.blocks < szI d file) := by simpa using hn
    have := foldB_in hd (rg F.blocks.toNat) [szI d file - 1] ⟨by simp, fun x hx => by rw [show x = szI d file - 1 from by simpa using hx]; omega⟩
    rw [rg_len, List.length_singleton] at this
    have h8 := hF.2.1
    exact ⟨this.1, by have := this.2; omega⟩
theorem szAt {d : List Int} {i : Int} (h0 : 0 ≤ i) (h1 : i < d.length) : atI d i = some (szI d i) := atI_in h0 h1
abbrev N_law_blocks : List Str := ["_law_form", "_law_disk", "_law_file", "_law_files", "_law_blocks_here", "_law_values", "_law_longest", "_law_found", "_law_k", "_law_link"]
theorem sc_law_blocks : FnScope N_law_blocks ["_law_form", "_law_disk", "_law_file"] (defScope s_law_blocks) := ⟨rfl, rfl, rfl, by decide +kernel, rfl, by decide +kernel, by decide +kernel⟩
abbrev sp_law_blocks : Sp := Pp (fun g : T3 Form (List Int) Int => [R (lf g.a), R g.b, R g.c]) (fun g => okF g.a ∧ OkD g.a g.b ∧ 0 ≤ g.c ∧ g.c < g.a.files) (fun g => OptL (blocksI g.a g.b g.c))
theorem ok_law_blocks {f : Addr} {fd : FuncData} (T : Txt K mg)  (F : FunD K "_law_blocks" "_law_blocks" (defArgs s_law_blocks) (defBody s_law_blocks) (defScope s_law_blocks) [] [] f fd) (hm : mg "_law_blocks" = some (.ref f)) : C8.Cal P w K mg base 1 "_law_blocks" sp_law_blocks [] := by
  refine cal_of F hm sc_law_blocks (fun _ _ _ _ _ _ us hl => match us, hl with | [_, _, _], _ => rfl) (fun vs H Q E ⟨g, h, _⟩ => fas_len h) (fun cdv A outer s H vs Q E hr h => ?_)
  obtain ⟨⟨F0, d, file⟩, h, hp, q⟩ := h
  obtain ⟨a, b, c, rfl, h1, h2, h3⟩ := fas3 h
  refine ⟨_, (pss_cons (ps_asg (pv 0) (k_gtup (K := K) (n := 4) rfl rfl (pgs_cons (pg_name (i := 3) sc_law_blocks.nd rfl (by first | exact .inl rfl | exact .inr rfl)) (pgs_cons (pg_name (i := 4) sc_law_blocks.nd rfl (by first | exact .inl rfl | exact .inr rfl)) (pgs_cons (pg_name (i := 5) sc_law_blocks.nd rfl (by first | exact .inl rfl | exact .inr rfl)) (pgs_cons (pg_name (i := 6) sc_law_blocks.nd rfl (by first | exact .inl rfl | exact .inr rfl)) pgs_nil))))))
      (pss_cons (ps_if (PW.pt (pw_or (pt_cmpR op_lt (pe_ix (k_ixT (K := K) rfl) (pv 1) (pv 2) (fun _ _ => rfl)) pe_int (nomark _)) (pw_or1 (pt_cmpR op_gt (pe_ix (k_ixT (K := K) rfl) (pv 1) (pv 2) (fun _ _ => rfl)) (pv 4) (nomark _))))) (pss_one (ps_ret pe_non)) pss_nil)
      (pss_cons (ps_set (i := 7) sc_law_blocks.nd rfl (by first | exact .inl rfl | exact .inr rfl) (pe_lst (pa_cons (pe_op op_sub (pe_ix (k_ixT (K := K) rfl) (pv 1) (pv 2) (fun _ _ => rfl)) pe_int) pa_nil)))
      (pss_cons (ps_for PassesOwn.never rfl (pi_range1 (by rfl) T.range (pa_cons (pv 4) pa_nil)) (pg_name (i := 8) sc_law_blocks.nd rfl (by first | exact .inl rfl | exact .inr rfl))
        (pss_cons (ps_set (i := 9) sc_law_blocks.nd rfl (by first | exact .inl rfl | exact .inr rfl) (pe_ix (k_ixT (K := K) rfl) (pv 1) (pe_op op_add (pv 3) (pe_ix (k_ixL (K := K) rfl) (pv 7) (pe_un un_neg pe_int) (fun _ _ => rfl))) (fun _ _ => rfl)))
        (pss_one (ps_if (pt_cmpR op_gt (pv 9) pe_int (nomark _)) (pss_one (ps_expr (pe_bm PySem.F.plainAttrs_list PySem.F.slot_list_append PySem.F.type_list_append mt_append (pv 7) (pa_cons (pe_op op_sub (pv 9) pe_int) pa_nil)))) pss_nil))))
      (pss_one (ps_ret (pv 7))))))), ?_⟩
  obtain ⟨pF, pd, pf0, pf1⟩ := hp
  have pF : okF F0 := pF
  have pd : OkD F0 d := pd
  have pf0 : 0 ≤ file := pf0
  have pf1 : file < F0.files := pf1
  have h2 : Rep.rp H d b := h2
  have h3 : Rep.rp H file c := h3
  have hb : 0 ≤ F0.blocks ∧ F0.blocks ≤ 3 := by have := pF.2.1; omega
  have hlen := pd.len
  refine q_asgG (ev_rv (x := lf F0) rfl h1) fun v1 H1 e1 hv1 => g_t4n hv1 fun y1 y2 y3 y4 hy1 hy2 hy3 hy4 => ?_
  have hy1 : Rep.rp H1 F0.files y1 := hy1
  have hy2 : Rep.rp H1 F0.blocks y2 := hy2
  obtain rfl : y1 = .int F0.files := hy1
  obtain rfl : y2 = .int F0.blocks := hy2
  have g2 := Rep.mono (tx_of e1) h2
  have g3 := Rep.mono (tx_of e1) h3
  have hx : atI d file = some (szI d file) := szAt pf0 (by omega)
  refine q_when (b := decide (szI d file < 1) || decide (F0.blocks < szI d file)) (et_or (et_test (ev_ib (ev_ixT (ev_rv rfl g2) (ev_rv rfl g3) hx) ev_ci)) fun _ => et_test (ev_ib (ev_ixT (ev_rv rfl g2) (ev_rv rfl g3) hx) (ev_rv (x := F0.blocks) rfl rfl))) (fun e H2 e2 => ?_) (fun e H2 e2 => ?_)
  · refine s_ret ev_cn fun v H3 e3 hv => q v H3 ((e1.trans e2).trans e3) ?_
    show OptL (blocksI F0 d file) v H3
    unfold blocksI
    rw [if_pos e]
    exact hv
  · have i2 := Rep.mono (tx_of e2) g2
    have i3 := Rep.mono (tx_of e2) g3
    have hbi : blocksI F0 d file = some ((rg F0.blocks.toNat).foldl (fun f _ => stB F0 d f) [szI d file - 1]) := by
      unfold blocksI
      rw [if_neg (by rw [e]; decide)]
    have b0 : Bin F0 [szI d file - 1] := ⟨by simp, fun x hx => by
      have e' : ¬ (szI d file < 1 ∨ F0.blocks < szI d file) := by simpa using e
      rw [show x = szI d file - 1 from by simpa using hx]
      omega⟩
    refine q_asg (ev_nl1 (ev_ii (ev_ixT (ev_rv rfl i2) (ev_rv rfl i3) hx) ev_ci)) fun v3 H3 e3 hv3 => ?_
    obtain ⟨l, rfl, n3, a3⟩ := at_of hv3
    have j2 := Rep.mono (tx_of e3) i2
    refine q_forAcc (fun (f : List Int) (_ : Int) => stB F0 d f) [szI d file - 1] (fun f σ' H' => At l f H' ∧ ∃ y z, σ' = [some a, some b, some c, some (.int F0.files), some (.int F0.blocks), some y3, some y4, some (.ref l), y, z]) (ls := [l]) (zs := rg F0.blocks.toNat) (by rw [rg_len]; exact evg_range1 (n := F0.blocks) (ea_cons (ev_rv (x := F0.blocks) rfl rfl) ea_nil) (by omega) (by omega)) (fun H4 e4 => ⟨a3.same e4, none, none, rfl⟩) (fun c σ' H' H'' p e => ⟨p.1.same e, p.2⟩) ?_ ?_
    · rintro pre z suf x σ' H4 D' hzs ⟨A4, y, z', rfl⟩ o4 hx4 kk _
      have inv := foldB_in pd pre [szI d file - 1] b0
      have hpl : pre.length ≤ 3 := by
        have h5 := congrArg List.length hzs
        rw [rg_len, List.length_append, List.length_cons] at h5
        omega
      generalize pre.foldl (fun f _ => stB F0 d f) [szI d file - 1] = f0 at A4 kk inv
      have hl := inv.1.2 _ (last_mem inv.1.1)
      have k2 := Rep.mono (tx_off a3.ll o4) j2
      have hxl : atI d (F0.files + lastI f0) = some (szI d (F0.files + lastI f0)) := szAt (by omega) (by omega)
      have hneg : ∀ {σ : L2.St} {H : Hp}, Ev (tUn (rU fun i => V.int (-i)) (tC (V.int 1))) σ H (R (-1 : Int)) := fun {σ H} H1 e Q q => ⟨1, rfl, q _ H1 (Same.refl _) rfl⟩
      refine q_asg (ev_ixT (ev_rv rfl k2) (ev_ii (ev_rv (x := F0.files) rfl rfl) (ev_ixL (ev_at A4 rfl) hneg (last_ix inv.1.1))) hxl) fun v5 H5 e5 hv5 => ?_
      have A5 := A4.same e5
      refine s_when (b := decide (1 < szI d (F0.files + lastI f0))) (et_test (ev_ib (ev_rv rfl hv5) ev_ci)) (fun eb H6 e6 => ?_) (fun eb H6 e6 => ?_)
      · have hl2 := inv.2
        rw [List.length_singleton] at hl2
        refine s_appA (A5.same e6) (by rw [sizeLine_eq]; omega) (ev_is rfl) (ev_ii (ev_rv rfl (Rep.mono (tx_of e6) hv5)) ev_ci) fun H7 o7 a7 => (kk _ H7 ((OffL.of (e5.trans e6)).trans o7) ⟨?_, some x, some v5, rfl⟩).1
        have : stB F0 d f0 = f0 ++ [szI d (F0.files + lastI f0) - 2] := by unfold stB; rw [if_pos (of_decide_eq_true eb)]
        show At l (stB F0 d f0) H7
        rw [this]
        exact a7
      · refine (kk _ H6 (OffL.of (e5.trans e6)) ⟨?_, some x, some v5, rfl⟩).1
        have : stB F0 d f0 = f0 := by unfold stB; rw [if_neg (of_decide_eq_false eb)]
        show At l (stB F0 d f0) H6
        rw [this]
        exact A5.same e6
    · rintro σ' H4 o4 ⟨A4, y, z', rfl⟩
      have sA : Same H H4 := same_off ((e1.trans e2).trans e3) o4 (fun c hc => by rw [show c = l from by simpa using hc]; exact (e1.trans e2).free n3)
      refine s_ret (ev_at A4 rfl) fun v H5 e5 hv => q v H5 (sA.trans e5) ?_
      show OptL (blocksI F0 d file) v H5
      rw [hbi]
      exact hv
theorem ev_isNL {σ : L2.St} {H : Hp} {ta : TE} {o : Option (List Int)} (ha : Ev ta σ H (OptL o)) : Ev (tOp (fun x y H Q => y = .non ∧ Q (.bl (decide (x = .non))) H) ta (tC .non)) σ H (R o.isNone) :=
  ev_op ha ev_cn fun x y H1 _ hx hy Q q => by
    refine ⟨hy, ?_⟩
    cases o with
    | none => rw [show x = .non from hx]; exact q _ _ (Same.refl _) rfl
    | some xs =>
      obtain ⟨a, vs, rfl, _⟩ := (show Ls xs x H1 from hx)
      exact q _ _ (Same.refl _) rfl
theorem ev_notNL {σ : L2.St} {H : Hp} {ta : TE} {o : Option (List Int)} (ha : Ev ta σ H (OptL o)) : Ev (tOp (fun x y H Q => y = .non ∧ Q (.bl (!decide (x = .non))) H) ta (tC .non)) σ H (R o.isSome) :=
  ev_op ha ev_cn fun x y H1 _ hx hy Q q => by
    refine ⟨hy, ?_⟩
    cases o with
    | none => rw [show x = .non from hx]; exact q _ _ (Same.refl _) rfl
    | some xs =>
      obtain ⟨a, vs, rfl, _⟩ := (show Ls xs x H1 from hx)
      exact q _ _ (Same.refl _) rfl
def liveI (F : Form) (d : List Int) (file : Int) : List Int := match blocksI F d file with
  | none => []
  | some bs => bs.map fun b => szI d (F.files + F.blocks + b)
abbrev N_law_live : List Str := ["_law_form", "_law_disk", "_law_file", "_law_files", "_law_blocks_here", "_law_values", "_law_longest", "_law_chosen", "_law_block"]
theorem sc_law_live : FnScope N_law_live ["_law_form", "_law_disk", "_law_file"] (defScope s_law_live) := ⟨rfl, rfl, rfl, by decide +kernel, rfl, by decide +kernel, by decide +kernel⟩
abbrev sp_law_live : Sp := Pp (fun g : T3 Form (List Int) Int => [R (lf g.a), R g.b, R g.c]) (fun g => okF g.a ∧ OkD g.a g.b ∧ 0 ≤ g.c ∧ g.c < g.a.files) (fun g => R (liveI g.a g.b g.c))
theorem ok_law_live {f : Addr} {fd : FuncData} (T : Txt K mg) (c_law_blocks : C8.Cal P w K mg base 1 "_law_blocks" sp_law_blocks []) (F : FunD K "_law_live" "_law_live" (defArgs s_law_live) (defBody s_law_live) (defScope s_law_live) [] [] f fd) (hm : mg "_law_live" = some (.ref f)) : C8.Cal P w K mg base 2 "_law_live" sp_law_live [] := by
  refine cal_of F hm sc_law_live (fun _ _ _ _ _ _ us hl => match us, hl with | [_, _, _], _ => rfl) (fun vs H Q E ⟨g, h, _⟩ => fas_len h) (fun cdv A outer s H vs Q E hr h => ?_)
  obtain ⟨⟨F0, d, file⟩, h, hp, q⟩ := h
  obtain ⟨a, b, c, rfl, h1, h2, h3⟩ := fas3 h
  refine ⟨_, (pss_cons (ps_asg (pv 0) (k_gtup (K := K) (n := 4) rfl rfl (pgs_cons (pg_name (i := 3) sc_law_live.nd rfl (by first | exact .inl rfl | exact .inr rfl)) (pgs_cons (pg_name (i := 4) sc_law_live.nd rfl (by first | exact .inl rfl | exact .inr rfl)) (pgs_cons (pg_name (i := 5) sc_law_live.nd rfl (by first | exact .inl rfl | exact .inr rfl)) (pgs_cons (pg_name (i := 6) sc_law_live.nd rfl (by first | exact .inl rfl | exact .inr rfl)) pgs_nil))))))
      (pss_cons (ps_set (i := 7) sc_law_live.nd rfl (by first | exact .inl rfl | exact .inr rfl) (C8.pe_c c_law_blocks hr (by decide) (by rfl) (pa_cons (pv 0) (pa_cons (pv 1) (pa_cons (pv 2) pa_nil)))))
      (pss_cons (ps_if (pt_cmpR op_isN (pv 7) pe_non (nomark _)) (pss_one (ps_ret (pe_tup pa_nil))) pss_nil)
      (pss_one (ps_ret (pe_callTy (k_tuple (K := K) rfl) (by rfl) T.tuple (by decide +kernel) (pa_cons (pe_lc (own := [("_law_block", 8)]) rfl sc_law_live.nd (k_list (K := K) rfl (pv 7)) (blkOk_by (N := N_law_live) (sc := defScope s_law_live) (by decide +kernel)) (fun _ _ _ _ _ => (pg_name (i := 8) sc_law_live.nd rfl (by first | exact .inl rfl | exact .inr rfl))) (fun _ _ _ _ _ => pts_nil) (fun _ _ _ _ _ => (pe_ix (k_ixT (K := K) rfl) (pv 1) (pe_op op_add (pe_op op_add (pv 3) (pv 4)) (pv 8)) (fun _ _ => rfl)))) pa_nil))))))), ?_⟩
  obtain ⟨pF, pd, pf0, pf1⟩ := hp
  have pF : okF F0 := pF
  have pd : OkD F0 d := pd
  have h2 : Rep.rp H d b := h2
  have h3 : Rep.rp H file c := h3
  have hlen := pd.len
  have hf1 : 1 ≤ F0.files := by have := pF.1; omega
  refine q_asgG (ev_rv (x := lf F0) rfl h1) fun v1 H1 e1 hv1 => g_t4n hv1 fun y1 y2 y3 y4 hy1 hy2 hy3 hy4 => ?_
  obtain rfl : y1 = .int F0.files := hy1
  obtain rfl : y2 = .int F0.blocks := hy2
  refine q_asg (ev_pp (T3.mk F0 d file) (ea_cons (ev_rv (x := lf F0) rfl (Rep.mono (tx_of e1) h1)) (ea_cons (ev_rv rfl (Rep.mono (tx_of e1) h2)) (ea_cons (ev_rv rfl (Rep.mono (tx_of e1) h3)) ea_nil))) ⟨pF, pd, pf0, pf1⟩) fun v2 H2 e2 hv2 => ?_
  have hv2 : OptL (blocksI F0 d file) v2 H2 := hv2
  refine q_when (b := (blocksI F0 d file).isNone) (et_test (ev_isNL (ev_var rfl hv2))) (fun e H3 e3 => ?_) (fun e H3 e3 => ?_)
  · refine s_ret (ev_tl0 (α := Int)) fun v H4 e4 hv => q v H4 (((e1.trans e2).trans e3).trans e4) ?_
    show Rep.rp H4 (liveI F0 d file) v
    unfold liveI
    rw [Option.isNone_iff_eq_none.mp e]
    exact hv
  · obtain ⟨bs, hbs⟩ : ∃ bs, blocksI F0 d file = some bs := by
      cases hh : blocksI F0 d file with
      | none => rw [hh] at e; cases e
      | some m => exact ⟨m, rfl⟩
    obtain ⟨hin, hbl⟩ := blocks_in pF pd hbs
    rw [hbs] at hv2
    have hv2 : Ls bs v2 H2 := hv2
    have s3 := (e1.trans e2).trans e3
    refine s_ret (ev_tupL (ev_ls (ev_lcm (fun b : Int => szI d (F0.files + F0.blocks + b)) 0 (evi_list (ev_var rfl (Mo.mo e3 hv2))) (by rw [sizeLine_eq]; omega) (fun _ => rfl) (fun z x H4 hz e hx => ev_ixT (ev_rv rfl (Rep.mono (tx_of (s3.trans e)) h2)) (ev_ii (ev_ii (ev_rv (x := F0.files) rfl rfl) (ev_rv (x := F0.blocks) rfl rfl)) (ev_rv rfl hx)) (by have := hin.2 z hz; exact szAt (by omega) (by omega)))))) fun v H4 e4 hv => q v H4 (s3.trans e4) ?_
    show Rep.rp H4 (liveI F0 d file) v
    unfold liveI
    rw [hbs]
    exact hv
end
end RW
set_option Elab.async false
set_option linter.all false
set_option maxRecDepth 100000
set_option maxHeartbeats 4000000
namespace RW
open PySem PySem.Spec PyProof.Rows L2
local macro_rules | `(tactic| walk_at "sm") => `(tactic| first
  | exact Same.refl _
  | assumption
  | exact same_new (by assumption)
  | (refine Same.trans ?_ (by assumption); walk_at "sm")
  | (refine Same.trans ?_ (same_new (by assumption)); walk_at "sm"))
local macro_rules | `(tactic| walk_at "rp") => `(tactic| first
  | assumption
  | exact rfl
  | (refine Rep.mono (tx_of ?_) (by assumption); walk_at "sm")
  | (refine Mo.mo ?_ (by assumption); walk_at "sm"))
local macro_rules | `(tactic| walk_at "ev") => `(tactic| first
  | exact ev_ci
  | exact ev_cs
  | exact ev_cb
  | exact ev_cn
  | (refine @ev_rv _ _ _ _ _ _ _ rfl ?_; walk_at "rp")
  | (refine @ev_var _ _ _ _ _ ?_ rfl ?_; (first | infer_instance | skip); walk_at "rp")
  | (refine ev_ii ?_ ?_ <;> walk_at "ev")
  | (refine ev_ib ?_ ?_ <;> walk_at "ev")
  | (refine ev_eqI ?_ ?_ <;> walk_at "ev")
  | (refine ev_neI ?_ ?_ <;> walk_at "ev")
  | (refine ev_lenT ?_ <;> walk_at "ev")
  | (refine ev_lenL ?_ <;> walk_at "ev")
  | (refine ev_int1 ?_ <;> walk_at "ev")
  | (refine et_test ?_ <;> walk_at "ev")
  | (refine et_B ?_ <;> walk_at "ev")
  | (refine et_not ?_ <;> walk_at "ev")
  | (refine et_or ?_ (fun _ => ?_) <;> walk_at "ev")
  | (refine et_and ?_ (fun _ => ?_) <;> walk_at "ev"))
section
variable {P : Program} {w : World} {K : PySem.W.Frag} {mg : Str → Option Value} {base : Heap}
structure PutG where
  F : Form
  d : List Int
  file : Int
  ch : List Int
  cs : List Int
  e : Int
  ln : List Int
def putS (F : Form) (ch ln cs c : List Int) (k : Int) : List Int := if cs = [] then c.set (F.files + szI ch k).toNat (szI ln k) else (c.set (F.files + szI ch k).toNat (szI ln k)).set (F.files + F.blocks + szI ch k).toNat (szI cs k)
def putI (F : Form) (d : List Int) (file : Int) (ch cs : List Int) (e : Int) (ln : List Int) : List Int := (rg ch.length).foldl (putS F ch ln cs) (d.set file.toNat e)
theorem putS_len {F : Form} {ch ln cs c : List Int} {k : Int} : (putS F ch ln cs c k).length = c.length := by
  unfold putS
  split <;> simp
theorem foldP_len {F : Form} {ch ln cs : List Int} : ∀ (zs c : List Int), (zs.foldl (putS F ch ln cs) c).length = c.length
  | [], _ => rfl
  | z :: r, c => by rw [List.foldl_cons, foldP_len r, putS_len]
abbrev N_law_put : List Str := ["_law_form", "_law_disk", "_law_file", "_law_chosen", "_law_contents_here", "_law_entry", "_law_links_here", "_law_files", "_law_blocks_here", "_law_values", "_law_longest", "_law_cells", "_law_k"]
theorem sc_law_put : FnScope N_law_put ["_law_form", "_law_disk", "_law_file", "_law_chosen", "_law_contents_here", "_law_entry", "_law_links_here"] (defScope s_law_put) := ⟨rfl, rfl, rfl, by decide +kernel, rfl, by decide +kernel, by decide +kernel⟩
abbrev sp_law_put : Sp := Pp (fun g : PutG => [R (lf g.F), R g.d, R g.file, Ls g.ch, R g.cs, R g.e, Ls g.ln]) (fun g => okF g.F ∧ (g.d.length : Int) = g.F.files + 2 * g.F.blocks ∧ (0 ≤ g.file ∧ g.file < g.F.files) ∧ (∀ x ∈ g.ch, 0 ≤ x ∧ x < g.F.blocks) ∧ g.ch.length ≤ 1000 ∧ g.ch.length ≤ g.ln.length ∧ (g.cs = [] ∨ g.ch.length ≤ g.cs.length)) (fun g => R (putI g.F g.d g.file g.ch g.cs g.e g.ln))
theorem ok_law_put {f : Addr} {fd : FuncData} (T : Txt K mg)  (F : FunD K "_law_put" "_law_put" (defArgs s_law_put) (defBody s_law_put) (defScope s_law_put) [] [] f fd) (hm : mg "_law_put" = some (.ref f)) : C8.Cal P w K mg base 1 "_law_put" sp_law_put [] := by
  refine cal_of F hm sc_law_put (fun _ _ _ _ _ _ us hl => match us, hl with | [_, _, _, _, _, _, _], _ => rfl) (fun vs H Q E ⟨g, h, _⟩ => fas_len h) (fun cdv A outer s H vs Q E hr h => ?_)
  obtain ⟨⟨F0, d, file, ch, cs, e, ln⟩, h, hp, q⟩ := h
  obtain ⟨a1, a2, a3, a4, a5, a6, a7, rfl, h1, h2, h3, h4, h5, h6, h7⟩ := fas7 h
  refine ⟨_, (pss_cons (ps_asg (pv 0) (k_gtup (K := K) (n := 4) rfl rfl (pgs_cons (pg_name (i := 7) sc_law_put.nd rfl (by first | exact .inl rfl | exact .inr rfl)) (pgs_cons (pg_name (i := 8) sc_law_put.nd rfl (by first | exact .inl rfl | exact .inr rfl)) (pgs_cons (pg_name (i := 9) sc_law_put.nd rfl (by first | exact .inl rfl | exact .inr rfl)) (pgs_cons (pg_name (i := 10) sc_law_put.nd rfl (by first | exact .inl rfl | exact .inr rfl)) pgs_nil))))))
      (pss_cons (ps_set (i := 11) sc_law_put.nd rfl (by first | exact .inl rfl | exact .inr rfl) (pe_callTy (k_listOf (K := K) rfl) (by rfl) T.list (by decide +kernel) (pa_cons (pv 1) pa_nil)))
      (pss_cons (ps_asg (pv 5) (pg_sub (pv 11) (pv 2) set_list))
      (pss_cons (ps_for PassesOwn.never rfl (pi_range1 (by rfl) T.range (pa_cons (pe_callB (k_len (K := K) rfl) (by rfl) T.len PySem.boot_len (pa_cons (pv 3) pa_nil)) pa_nil)) (pg_name (i := 12) sc_law_put.nd rfl (by first | exact .inl rfl | exact .inr rfl))
        (pss_cons (ps_asg (pe_ix (k_ixL (K := K) rfl) (pv 6) (pv 12) (fun _ _ => rfl)) (pg_sub (pv 11) (pe_op op_add (pv 7) (pe_ix (k_ixL (K := K) rfl) (pv 3) (pv 12) (fun _ _ => rfl))) set_list))
        (pss_one (ps_if (pt_cmpR op_gt (pe_callB (k_len (K := K) rfl) (by rfl) T.len PySem.boot_len (pa_cons (pv 4) pa_nil)) pe_int (nomark _)) (pss_one (ps_asg (pe_ix (k_ixT (K := K) rfl) (pv 4) (pv 12) (fun _ _ => rfl)) (pg_sub (pv 11) (pe_op op_add (pe_op op_add (pv 7) (pv 8)) (pe_ix (k_ixL (K := K) rfl) (pv 3) (pv 12) (fun _ _ => rfl))) set_list))) pss_nil))))
      (pss_one (ps_ret (pe_callTy (k_tuple (K := K) rfl) (by rfl) T.tuple (by decide +kernel) (pa_cons (pv 11) pa_nil)))))))), ?_⟩
  obtain ⟨pF, pd, pf, pc, pl, pn, pcs⟩ := hp
  have pF : okF F0 := pF
  have pd : (d.length : Int) = F0.files + 2 * F0.blocks := pd
  have pf : 0 ≤ file ∧ file < F0.files := pf
  have pc : ∀ x ∈ ch, 0 ≤ x ∧ x < F0.blocks := pc
  have pl : ch.length ≤ 1000 := pl
  have pn : ch.length ≤ ln.length := pn
  have pcs : cs = [] ∨ ch.length ≤ cs.length := pcs
  have h2 : Rep.rp H d a2 := h2
  have h3 : Rep.rp H file a3 := h3
  have h4 : Ls ch a4 H := h4
  have h5 : Rep.rp H cs a5 := h5
  have h6 : Rep.rp H e a6 := h6
  have h7 : Ls ln a7 H := h7
  have hb : 2 ≤ F0.blocks ∧ F0.blocks ≤ 3 := by have := pF.2.1; omega
  refine q_asgG (ev_rv (x := lf F0) rfl h1) fun v1 H1 e1 hv1 => g_t4n hv1 fun y1 y2 y3 y4 hy1 hy2 hy3 hy4 => ?_
  obtain rfl : y1 = .int F0.files := hy1
  obtain rfl : y2 = .int F0.blocks := hy2
  refine q_asg (ev_listT (ev_rv rfl (Rep.mono (tx_of e1) h2))) fun v2 H2 e2 hv2 => ?_
  obtain ⟨l, rfl, n2, l2⟩ := at_of hv2
  have s2 := e1.trans e2
  obtain ⟨lc, vc, rfl, hc, rc⟩ := h4
  obtain ⟨ll, vl, rfl, hl, rl⟩ := h7
  have ncl : lc ≠ l := fun z => by have := e1 _ _ hc; rw [z, n2] at this; cases this
  have nll : ll ≠ l := fun z => by have := e1 _ _ hl; rw [z, n2] at this; cases this
  have Ac : At lc ch H2 := ⟨vc, s2 _ _ hc, Rps.mono (tx_of s2) rc⟩
  have Al : At ll ln H2 := ⟨vl, s2 _ _ hl, Rps.mono (tx_of s2) rl⟩
  have g5 := Rep.mono (tx_of s2) h5
  refine q_setA l2 (ev_rv rfl (Rep.mono (tx_of s2) h6)) (ev_is rfl) (ev_rv rfl (Rep.mono (tx_of s2) h3)) pf.1 (by omega) fun H3 o3 l3 => ?_
  have Ac3 := Ac.off l2.ll o3 (by simpa using ncl)
  have Al3 := Al.off l2.ll o3 (by simpa using nll)
  have i5 := Rep.mono (tx_off l2.ll o3) g5
  have sl : (d.set file.toNat e).length = d.length := List.length_set ..
  refine q_forAcc (ls := [l]) (putS F0 ch ln cs) (d.set file.toNat e) (fun c σ' H' => At l c H' ∧ ∃ y, σ' = [some a1, some a2, some a3, some (.ref lc), some a5, some a6, some (.ref ll), some (.int F0.files), some (.int F0.blocks), some y3, some y4, some (.ref l), y]) (zs := rg ch.length) (by rw [rg_len]; exact evg_range1 (n := (ch.length : Int)) (ea_cons (ev_lenL (ev_at Ac3 rfl)) ea_nil) (by omega) (by omega)) (fun H4 e4 => ⟨l3.same e4, none, rfl⟩) (fun c σ' H' H'' p e => ⟨p.1.same e, p.2⟩) ?_ ?_
  · rintro pre k suf x σ' H4 D' hzs ⟨A4, y, rfl⟩ o4 hx kk _
    have hk := rg_mem (z := k) (n := ch.length) (by rw [hzs]; exact List.mem_append_right _ List.mem_cons_self)
    have hfl := foldP_len (F := F0) (ch := ch) (ln := ln) (cs := cs) pre (d.set file.toNat e)
    generalize pre.foldl (putS F0 ch ln cs) (d.set file.toNat e) = c0 at A4 kk hfl
    have Ac4 := Ac3.off l3.ll o4 (by simpa using ncl)
    have Al4 := Al3.off l3.ll o4 (by simpa using nll)
    have k5 := Rep.mono (tx_off l3.ll o4) i5
    have hck : atI ch k = some (szI ch k) := szAt hk.1 hk.2
    have hcm := pc (szI ch k) (by
      have hlt : k.toNat < ch.length := by omega
      unfold szI
      rw [List.getD_eq_getElem?_getD, List.getElem?_eq_getElem hlt]
      exact List.getElem_mem hlt)
    have hlk : atI ln k = some (szI ln k) := szAt hk.1 (by omega)
    refine q_setA A4 (ev_ixL (ev_at Al4 rfl) (ev_rv rfl hx) hlk) (ev_is rfl) (ev_ii (ev_rv (x := F0.files) rfl rfl) (ev_ixL (ev_at Ac4 rfl) (ev_rv rfl hx) hck)) (by have := pF.1; omega) (by rw [hfl, sl]; omega) fun H5 o5 A5 => ?_
    have Ac5 := Ac4.off A4.ll o5 (by simpa using ncl)
    have m5 := Rep.mono (tx_off A4.ll o5) k5
    have hx5 := Rep.mono (tx_off A4.ll o5) hx
    refine s_when (b := decide (0 < (cs.length : Int))) (et_test (ev_ib (ev_lenT (ev_rv rfl m5)) ev_ci)) (fun eb H6 e6 => ?_) (fun eb H6 e6 => ?_)
    · have hne : cs ≠ [] := fun z => by rw [z] at eb; cases eb
      have hcl : ch.length ≤ cs.length := by
        rcases pcs with z | z
        · exact absurd z hne
        · exact z
      have hsk : atI cs k = some (szI cs k) := szAt hk.1 (by omega)
      refine s_setA (A5.same e6) (ev_ixT (ev_rv rfl (Rep.mono (tx_of e6) m5)) (ev_rv rfl (Rep.mono (tx_of e6) hx5)) hsk) (ev_is rfl) (ev_ii (ev_ii (ev_rv (x := F0.files) rfl rfl) (ev_rv (x := F0.blocks) rfl rfl)) (ev_ixL (ev_at (Ac5.same e6) rfl) (ev_rv rfl (Rep.mono (tx_of e6) hx5)) hck)) (by have := pF.1; omega) (by rw [List.length_set, hfl, sl]; omega) fun H7 o7 A7 => (kk _ H7 ((o5.trans (OffL.of e6)).trans o7) ⟨?_, some x, rfl⟩).1
      show At l (putS F0 ch ln cs c0 k) H7
      unfold putS
      rw [if_neg hne]
      exact A7
    · have hne : cs = [] := by
        cases cs with
        | nil => rfl
        | cons z r => have := of_decide_eq_false eb; rw [List.length_cons] at this; omega
      refine (kk _ H6 (o5.trans (OffL.of e6)) ⟨?_, some x, rfl⟩).1
      show At l (putS F0 ch ln cs c0 k) H6
      unfold putS
      rw [if_pos hne]
      exact A5.same e6
  · rintro σ' H4 o4 ⟨A4, y, rfl⟩
    have A4 : At l (putI F0 d file ch cs e ln) H4 := A4
    have sA : Same H H4 := same_off s2 (o3.trans o4) (fun c hc => by rw [show c = l from by simpa using hc]; exact e1.free n2)
    exact s_ret (ev_tupL (ev_at A4 rfl)) fun v H5 e5 hv => q v H5 (sA.trans e5) hv
/-! _law_do -/
def freeI (F : Form) (d : List Int) : List Int := (rg F.blocks.toNat).filter fun b => decide (szI d (F.files + b) = 0)
def doW (F : Form) (d : List Int) (file : Int) (cs : List Int) : Option (List Int) :=
  if ((blocksI F d file).isSome || decide ((freeI F d).length < cs.length)) = true then none else some (putI F d file ((freeI F d).take cs.length) cs (1 + ((freeI F d).take cs.length).headD 0) (linksI ((freeI F d).take cs.length)))
def doI (F : Form) (d : List Int) (kind : Str) (file : Int) (cs : List Int) : Option (List Int) :=
  if kind = ("w" : Str) then doW F d file cs else match blocksI F d file with
    | none => none
    | some c => if kind = ("o" : Str) then (if c.length = cs.length then some (putI F d file c cs (szI d file) (linksI c)) else none) else some (putI F d file c [] (1 + F.blocks + c.headD 0) (List.replicate c.length [(0 : Int)]).flatten)
structure DoG where
  F : Form
  d : List Int
  kind : Str
  file : Int
  cs : List Int
theorem head_at {f : List Int} (h : f ≠ []) : f[0]? = some (f.headD 0) := by
  cases f with
  | nil => exact absurd rfl h
  | cons a r => rfl
abbrev N_law_do : List Str := ["_law_form", "_law_disk", "_law_kind", "_law_file", "_law_contents_here", "_law_files", "_law_blocks_here", "_law_values", "_law_longest", "_law_chosen", "_law_free", "_law_block"]
theorem sc_law_do : FnScope N_law_do ["_law_form", "_law_disk", "_law_kind", "_law_file", "_law_contents_here"] (defScope s_law_do) := ⟨rfl, rfl, rfl, by decide +kernel, rfl, by decide +kernel, by decide +kernel⟩
abbrev sp_law_do : Sp := Pp (fun g : DoG => [R (lf g.F), R g.d, R g.kind, R g.file, R g.cs]) (fun g => okF g.F ∧ OkD g.F g.d ∧ (0 ≤ g.file ∧ g.file < g.F.files) ∧ (g.kind = ("w" : Str) → g.cs ≠ [])) (fun g => R (doI g.F g.d g.kind g.file g.cs))
theorem ok_law_do {f : Addr} {fd : FuncData} (T : Txt K mg) (c_law_blocks : C8.Cal P w K mg base 1 "_law_blocks" sp_law_blocks []) (c_law_put : C8.Cal P w K mg base 1 "_law_put" sp_law_put []) (c_law_links : C8.Cal P w K mg base 1 "_law_links" sp_law_links []) (F : FunD K "_law_do" "_law_do" (defArgs s_law_do) (defBody s_law_do) (defScope s_law_do) [] [] f fd) (hm : mg "_law_do" = some (.ref f)) : C8.Cal P w K mg base 2 "_law_do" sp_law_do [] := by
  refine cal_of F hm sc_law_do (fun _ _ _ _ _ _ us hl => match us, hl with | [_, _, _, _, _], _ => rfl) (fun vs H Q E ⟨g, h, _⟩ => fas_len h) (fun cdv A outer s H vs Q E hr h => ?_)
  obtain ⟨⟨F0, d, kind, file, cs⟩, h, hp, q⟩ := h
  obtain ⟨a1, a2, a3, a4, a5, rfl, h1, h2, h3, h4, h5⟩ := fas5 h
  refine ⟨_, (pss_cons (ps_asg (pv 0) (k_gtup (K := K) (n := 4) rfl rfl (pgs_cons (pg_name (i := 5) sc_law_do.nd rfl (by first | exact .inl rfl | exact .inr rfl)) (pgs_cons (pg_name (i := 6) sc_law_do.nd rfl (by first | exact .inl rfl | exact .inr rfl)) (pgs_cons (pg_name (i := 7) sc_law_do.nd rfl (by first | exact .inl rfl | exact .inr rfl)) (pgs_cons (pg_name (i := 8) sc_law_do.nd rfl (by first | exact .inl rfl | exact .inr rfl)) pgs_nil))))))
      (pss_cons (ps_set (i := 9) sc_law_do.nd rfl (by first | exact .inl rfl | exact .inr rfl) (C8.pe_c c_law_blocks hr (by decide) (by rfl) (pa_cons (pv 0) (pa_cons (pv 1) (pa_cons (pv 3) pa_nil)))))
      (pss_cons (ps_if (pt_cmpR op_eq (pv 2) pe_str (nomark _)) (pss_cons (ps_setLc (i := 10) (own := [("_law_block", 11)]) rfl sc_law_do.nd rfl rfl (sw_true rfl rfl rfl (by decide +kernel)) (pi_range1 (by rfl) T.range (pa_cons (pv 6) pa_nil)) (blkOk_by (N := N_law_do) (sc := defScope s_law_do) (by decide +kernel)) (fun _ _ _ _ _ => (pg_name (i := 11) sc_law_do.nd rfl (by first | exact .inl rfl | exact .inr rfl))) (fun _ _ _ _ _ => (pts_one (pt_cmpR op_eq (pe_ix (k_ixT (K := K) rfl) (pv 1) (pe_op op_add (pv 5) (pv 11)) (fun _ _ => rfl)) pe_int (nomark _)))) (fun _ _ _ _ _ => (pv 11)))
        (pss_cons (ps_if (PW.pt (pw_or (pt_cmpR op_notN (pv 9) pe_non (nomark _)) (pw_or1 (pt_cmpR op_lt (pe_callB (k_len (K := K) rfl) (by rfl) T.len PySem.boot_len (pa_cons (pv 10) pa_nil)) (pe_callB (k_len (K := K) rfl) (by rfl) T.len PySem.boot_len (pa_cons (pv 4) pa_nil)) (nomark _))))) (pss_one (ps_ret pe_non)) pss_nil)
        (pss_cons (ps_set (i := 10) sc_law_do.nd rfl (by first | exact .inl rfl | exact .inr rfl) (pe_slice (k_slL (K := K) rfl) (pv 10) po_none (po_some (pe_callB (k_len (K := K) rfl) (by rfl) T.len PySem.boot_len (pa_cons (pv 4) pa_nil)))))
        (pss_one (ps_ret (C8.pe_c c_law_put hr (by decide) (by rfl) (pa_cons (pv 0) (pa_cons (pv 1) (pa_cons (pv 3) (pa_cons (pv 10) (pa_cons (pv 4) (pa_cons (pe_op op_add pe_int (pe_ix (k_ixL (K := K) rfl) (pv 10) pe_int (fun _ _ => rfl))) (pa_cons (C8.pe_c c_law_links hr (by decide) (by rfl) (pa_cons (pv 10) pa_nil)) pa_nil))))))))))))) pss_nil)
      (pss_cons (ps_if (pt_cmpR op_isN (pv 9) pe_non (nomark _)) (pss_one (ps_ret pe_non)) pss_nil)
      (pss_cons (ps_if (pt_cmpR op_eq (pv 2) pe_str (nomark _)) (pss_cons (ps_if (pt_cmpR op_ne (pe_callB (k_len (K := K) rfl) (by rfl) T.len PySem.boot_len (pa_cons (pv 9) pa_nil)) (pe_callB (k_len (K := K) rfl) (by rfl) T.len PySem.boot_len (pa_cons (pv 4) pa_nil)) (nomark _)) (pss_one (ps_ret pe_non)) pss_nil)
        (pss_one (ps_ret (C8.pe_c c_law_put hr (by decide) (by rfl) (pa_cons (pv 0) (pa_cons (pv 1) (pa_cons (pv 3) (pa_cons (pv 9) (pa_cons (pv 4) (pa_cons (pe_ix (k_ixT (K := K) rfl) (pv 1) (pv 3) (fun _ _ => rfl)) (pa_cons (C8.pe_c c_law_links hr (by decide) (by rfl) (pa_cons (pv 9) pa_nil)) pa_nil))))))))))) pss_nil)
      (pss_one (ps_ret (C8.pe_c c_law_put hr (by decide) (by rfl) (pa_cons (pv 0) (pa_cons (pv 1) (pa_cons (pv 3) (pa_cons (pv 9) (pa_cons (pe_tup pa_nil) (pa_cons (pe_op op_add (pe_op op_add pe_int (pv 6)) (pe_ix (k_ixL (K := K) rfl) (pv 9) pe_int (fun _ _ => rfl))) (pa_cons (pe_op op_rep (pe_lst (pa_cons pe_int pa_nil)) (pe_callB (k_len (K := K) rfl) (by rfl) T.len PySem.boot_len (pa_cons (pv 9) pa_nil))) pa_nil))))))))))))))), ?_⟩
  obtain ⟨pF, pd, pf, pw⟩ := hp
  have pF : okF F0 := pF
  have pd : OkD F0 d := pd
  have pf : 0 ≤ file ∧ file < F0.files := pf
  have pw : kind = ("w" : Str) → cs ≠ [] := pw
  have h1 : Rep.rp H (lf F0) a1 := h1
  have h2 : Rep.rp H d a2 := h2
  have h3 : Rep.rp H kind a3 := h3
  have h4 : Rep.rp H file a4 := h4
  have h5 : Rep.rp H cs a5 := h5
  have hb : 2 ≤ F0.blocks ∧ F0.blocks ≤ 3 := by have := pF.2.1; omega
  have hlen := pd.len
  have hf1 : 1 ≤ F0.files := by have := pF.1; omega
  refine q_asgG (ev_rv (x := lf F0) rfl h1) fun v1 H1 e1 hv1 => g_t4n hv1 fun y1 y2 y3 y4 hy1 hy2 hy3 hy4 => ?_
  obtain rfl : y1 = .int F0.files := hy1
  obtain rfl : y2 = .int F0.blocks := hy2
  refine q_asg (ev_pp (T3.mk F0 d file) (ea_cons (ev_rv (x := lf F0) rfl (Rep.mono (tx_of e1) h1)) (ea_cons (ev_rv rfl (Rep.mono (tx_of e1) h2)) (ea_cons (ev_rv rfl (Rep.mono (tx_of e1) h4)) ea_nil))) ⟨pF, pd, pf.1, pf.2⟩) fun v2 H2 e2 hv2 => ?_
  have hv2 : OptL (blocksI F0 d file) v2 H2 := hv2
  have s2 := e1.trans e2
  refine q_when (b := decide (kind = ("w" : Str))) (et_test (ev_eqS (ev_rv rfl (Rep.mono (tx_of s2) h3)) ev_cs)) (fun ek H3 e3 => ?_) (fun ek H3 e3 => ?_)
  · have ek := of_decide_eq_true ek
    have hcs := pw ek
    have hd0 : doI F0 d kind file cs = doW F0 d file cs := by unfold doI; rw [if_pos ek]
    have s3 := s2.trans e3
    have g2 := Rep.mono (tx_of s3) h2
    refine q_asg (Ev.imp (ψ := NLs H3 (freeI F0 d)) (ev_lcf (fun b : Int => decide (szI d (F0.files + b) = 0)) (fun b : Int => b) 0 (by rw [rg_len]; exact evi_range1 (n := F0.blocks) (ea_cons (ev_rv (x := F0.blocks) rfl rfl) ea_nil) (by omega) (by omega)) (by rw [rg_len, sizeLine_eq]; omega) (fun _ => rfl) (fun z x H4 hz e hx => et_test (ev_eqI (ev_ixT (ev_rv rfl (Rep.mono (tx_of e) g2)) (ev_ii (ev_rv (x := F0.files) rfl rfl) (ev_rv rfl hx)) (by have := rg_mem hz; exact szAt (by omega) (by omega))) ev_ci)) (fun z x H4 hz e hx _ => ev_rv rfl hx)) fun v H' hv => by rw [List.map_id'] at hv; exact hv) fun v4 H4 e4 hv4 => ?_
    have hfr : Ls (freeI F0 d) v4 H4 := hv4.ls
    have s4 := s3.trans e4
    have g5 := Rep.mono (tx_of s4) h5
    refine q_when (b := (blocksI F0 d file).isSome || decide ((freeI F0 d).length < cs.length)) (EvT.to (et_or (et_test (ev_notNL (ev_var rfl (Mo.mo (e3.trans e4) hv2)))) fun _ => et_test (ev_ib (g := fun i j => decide (i < j)) (ev_lenL (ev_var rfl hfr)) (ev_lenT (ev_rv rfl g5)))) (by congr 1; simp)) (fun e H5 e5 => ?_) (fun e H5 e5 => ?_)
    · refine s_ret ev_cn fun v H6 e6 hv => q v H6 ((s4.trans e5).trans e6) ?_
      show Rep.rp H6 (doI F0 d kind file cs) v
      rw [hd0]
      unfold doW
      rw [if_pos e]
      exact hv
    · have e' : (freeI F0 d).length < cs.length ∨ cs.length ≤ (freeI F0 d).length := Nat.lt_or_ge _ _
      have hle : cs.length ≤ (freeI F0 d).length := by
        rcases e' with z | z
        · rw [decide_eq_true z, Bool.or_true] at e; cases e
        · exact z
      have hdw : doW F0 d file cs = some (putI F0 d file ((freeI F0 d).take cs.length) cs (1 + ((freeI F0 d).take cs.length).headD 0) (linksI ((freeI F0 d).take cs.length))) := by
        unfold doW
        rw [if_neg (by rw [e]; decide)]
      have hfl : (freeI F0 d).length ≤ 3 := by
        unfold freeI
        have := List.length_filter_le (fun b => decide (szI d (F0.files + b) = 0)) (rg F0.blocks.toNat)
        rw [rg_len] at this
        omega
      have tl : ((freeI F0 d).take cs.length).length = cs.length := by rw [List.length_take]; omega
      have hcp : 0 < cs.length := List.length_pos_iff.mpr hcs
      have hne : (freeI F0 d).take cs.length ≠ [] := fun z => by rw [z] at tl; simp at tl; omega
      have s5 := s4.trans e5
      refine q_asg (Ev.imp (ψ := NLs H5 ((freeI F0 d).take cs.length)) (ev_slL (lo := none) (hi := some (cs.length : Int)) (ev_var rfl (Mo.mo e5 hfr)) eo_none (eo_some (ev_lenT (ev_rv rfl (Rep.mono (tx_of e5) g5))))) fun v H' hv => by rw [cutX_to] at hv; exact hv) fun v6 H6 e6 hv6 => ?_
      have hfr6 : Ls ((freeI F0 d).take cs.length) v6 H6 := hv6.ls
      have s6 := s5.trans e6
      refine s_ret (ev_some' (ev_pp (PutG.mk F0 d file ((freeI F0 d).take cs.length) cs (1 + ((freeI F0 d).take cs.length).headD 0) (linksI ((freeI F0 d).take cs.length))) (ea_cons (ev_rv (x := lf F0) rfl (Rep.mono (tx_of s6) h1)) (ea_cons (ev_rv rfl (Rep.mono (tx_of s6) h2)) (ea_cons (ev_rv rfl (Rep.mono (tx_of s6) h4)) (ea_cons (ev_var rfl hfr6) (ea_cons (ev_rv rfl (Rep.mono (tx_of s6) h5)) (ea_cons (ev_ii ev_ci (ev_ixL (ev_var rfl hfr6) ev_ci (atI_at (by decide) (head_at hne)))) (ea_cons (ev_ls (ev_pn ((freeI F0 d).take cs.length) (ea_cons (ev_var rfl hfr6) ea_nil) (by show ((freeI F0 d).take cs.length).length ≤ 1000; omega))) ea_nil))))))) ⟨pF, hlen, pf, fun x hx => ?_, by show ((freeI F0 d).take cs.length).length ≤ 1000; omega, by show ((freeI F0 d).take cs.length).length ≤ (linksI _).length; rw [linksI_len]; omega, .inr (by show ((freeI F0 d).take cs.length).length ≤ cs.length; omega)⟩) (fun v H h z => by obtain ⟨a, vs, e, _⟩ := h; rw [z] at e; cases e)) fun v7 H7 e7 hv7 => q v7 H7 (s6.trans e7) ?_
      · have h8 := List.take_subset _ _ hx
        have h9 := rg_mem (List.mem_filter.mp h8).1
        show 0 ≤ x ∧ x < F0.blocks
        omega
      · show Rep.rp H7 (doI F0 d kind file cs) v7
        rw [hd0, hdw]
        exact hv7
  · have ek := of_decide_eq_false ek
    have s3 := s2.trans e3
    have hb3 := Mo.mo e3 hv2
    refine q_when (b := (blocksI F0 d file).isNone) (et_test (ev_isNL (ev_var rfl hb3))) (fun e H4 e4 => ?_) (fun e H4 e4 => ?_)
    · refine s_ret ev_cn fun v H5 e5 hv => q v H5 ((s3.trans e4).trans e5) ?_
      show Rep.rp H5 (doI F0 d kind file cs) v
      unfold doI
      rw [if_neg ek, Option.isNone_iff_eq_none.mp e]
      exact hv
    · obtain ⟨bs, hbs⟩ : ∃ bs, blocksI F0 d file = some bs := by
        cases hh : blocksI F0 d file with
        | none => rw [hh] at e; cases e
        | some m => exact ⟨m, rfl⟩
      obtain ⟨hin, hbl⟩ := blocks_in pF pd hbs
      have s4 := s3.trans e4
      have hb4 : Ls bs v2 H4 := by have := Mo.mo e4 hb3; rw [hbs] at this; exact this
      have nz : ∀ {xs : List Int} (v : V) (H : Hp), Rep.rp H xs v → v ≠ .non := fun v H h z => by obtain ⟨a, vs, e, _⟩ := h; rw [z] at e; cases e
      refine q_when (b := decide (kind = ("o" : Str))) (et_test (ev_eqS (ev_rv rfl (Rep.mono (tx_of s4) h3)) ev_cs)) (fun eo H5 e5 => ?_) (fun eo H5 e5 => ?_)
      · have eo := of_decide_eq_true eo
        have s5 := s4.trans e5
        have hb5 := Mo.mo e5 hb4
        refine q_when (b := !decide ((bs.length : Int) = (cs.length : Int))) (et_test (ev_neI (ev_lenL (ev_var rfl hb5)) (ev_lenT (ev_rv rfl (Rep.mono (tx_of s5) h5))))) (fun en H6 e6 => ?_) (fun en H6 e6 => ?_)
        · have hn : ¬ bs.length = cs.length := fun z => by rw [z, decide_eq_true rfl] at en; cases en
          refine s_ret ev_cn fun v H7 e7 hv => q v H7 ((s5.trans e6).trans e7) ?_
          show Rep.rp H7 (doI F0 d kind file cs) v
          unfold doI
          rw [if_neg ek, hbs]
          show Rep.rp H7 (if kind = ("o" : Str) then _ else _) v
          rw [if_pos eo, if_neg hn]
          exact hv
        · have hn : bs.length = cs.length := by
            have : ((bs.length : Int) = (cs.length : Int)) := by
              cases hd : decide ((bs.length : Int) = (cs.length : Int)) with
              | true => exact of_decide_eq_true hd
              | false => rw [hd] at en; cases en
            omega
          have s6 := s5.trans e6
          have hb6 := Mo.mo e6 hb5
          refine s_ret (ev_some' (ev_pp (PutG.mk F0 d file bs cs (szI d file) (linksI bs)) (ea_cons (ev_rv (x := lf F0) rfl (Rep.mono (tx_of s6) h1)) (ea_cons (ev_rv rfl (Rep.mono (tx_of s6) h2)) (ea_cons (ev_rv rfl (Rep.mono (tx_of s6) h4)) (ea_cons (ev_var rfl hb6) (ea_cons (ev_rv rfl (Rep.mono (tx_of s6) h5)) (ea_cons (ev_ixT (ev_rv rfl (Rep.mono (tx_of s6) h2)) (ev_rv rfl (Rep.mono (tx_of s6) h4)) (szAt pf.1 (by omega))) (ea_cons (ev_ls (ev_pn bs (ea_cons (ev_var rfl hb6) ea_nil) (by show bs.length ≤ 1000; omega))) ea_nil))))))) ⟨pF, hlen, pf, hin.2, by show bs.length ≤ 1000; omega, by show _ ≤ (linksI _).length; rw [linksI_len]; show bs.length ≤ _; omega, .inr (by show bs.length ≤ cs.length; omega)⟩) nz) fun v7 H7 e7 hv7 => q v7 H7 (s6.trans e7) ?_
          show Rep.rp H7 (doI F0 d kind file cs) v7
          unfold doI
          rw [if_neg ek, hbs]
          show Rep.rp H7 (if kind = ("o" : Str) then _ else _) v7
          rw [if_pos eo, if_pos hn]
          exact hv7
      · have eo := of_decide_eq_false eo
        have s5 := s4.trans e5
        have hb5 := Mo.mo e5 hb4
        have hrl : ((List.replicate bs.length [(0 : Int)]).flatten).length = bs.length := repl_len
        refine s_ret (ev_some' (ev_pp (PutG.mk F0 d file bs [] (1 + F0.blocks + bs.headD 0) (List.replicate bs.length [(0 : Int)]).flatten) (ea_cons (ev_rv (x := lf F0) rfl (Rep.mono (tx_of s5) h1)) (ea_cons (ev_rv rfl (Rep.mono (tx_of s5) h2)) (ea_cons (ev_rv rfl (Rep.mono (tx_of s5) h4)) (ea_cons (ev_var rfl hb5) (ea_cons (ev_tl0 (α := Int)) (ea_cons (ev_ii (ev_ii ev_ci (ev_rv (x := F0.blocks) rfl rfl)) (ev_ixL (ev_var rfl hb5) ev_ci (atI_at (by decide) (head_at hin.1)))) (ea_cons (ev_ls (ev_rep (ev_ls (ev_nl1 ev_ci)) (ev_lenL (ev_var rfl hb5)) (by omega) (by omega) (by rw [List.length_singleton, sizeLine_eq]; omega))) ea_nil))))))) ⟨pF, hlen, pf, hin.2, by show bs.length ≤ 1000; omega, by show bs.length ≤ _; rw [hrl]; exact Nat.le_refl _, .inl rfl⟩) nz) fun v7 H7 e7 hv7 => q v7 H7 (s5.trans e7) ?_
        show Rep.rp H7 (doI F0 d kind file cs) v7
        unfold doI
        rw [if_neg ek, hbs]
        show Rep.rp H7 (if kind = ("o" : Str) then _ else _) v7
        rw [if_neg eo]
        exact hv7
end
end RW
set_option Elab.async false
set_option linter.all false
set_option maxRecDepth 100000
set_option maxHeartbeats 4000000
namespace RW
open PySem PySem.Spec PyProof.Rows L2
local macro_rules | `(tactic| walk_at "sm") => `(tactic| first
  | exact Same.refl _
  | assumption
  | exact same_new (by assumption)
  | (refine Same.trans ?_ (by assumption); walk_at "sm")
  | (refine Same.trans ?_ (same_new (by assumption)); walk_at "sm"))
local macro_rules | `(tactic| walk_at "rp") => `(tactic| first
  | assumption
  | exact rfl
  | (refine Rep.mono (tx_of ?_) (by assumption); walk_at "sm")
  | (refine Mo.mo ?_ (by assumption); walk_at "sm"))
local macro_rules | `(tactic| walk_at "ev") => `(tactic| first
  | exact ev_ci
  | exact ev_cs
  | exact ev_cb
  | exact ev_cn
  | (refine @ev_rv _ _ _ _ _ _ _ rfl ?_; walk_at "rp")
  | (refine @ev_var _ _ _ _ _ ?_ rfl ?_; (first | infer_instance | skip); walk_at "rp")
  | (refine ev_ii ?_ ?_ <;> walk_at "ev")
  | (refine ev_ib ?_ ?_ <;> walk_at "ev")
  | (refine ev_eqI ?_ ?_ <;> walk_at "ev")
  | (refine ev_neI ?_ ?_ <;> walk_at "ev")
  | (refine ev_lenT ?_ <;> walk_at "ev")
  | (refine ev_lenL ?_ <;> walk_at "ev")
  | (refine ev_int1 ?_ <;> walk_at "ev")
  | (refine et_test ?_ <;> walk_at "ev")
  | (refine et_B ?_ <;> walk_at "ev")
  | (refine et_not ?_ <;> walk_at "ev")
  | (refine et_or ?_ (fun _ => ?_) <;> walk_at "ev")
  | (refine et_and ?_ (fun _ => ?_) <;> walk_at "ev"))
section
variable {P : Program} {w : World} {K : PySem.W.Frag} {mg : Str → Option Value} {base : Heap}
abbrev Way := T3 Str Int (List Int)
def wayC (f : Int) (cs : List Int) : List Way := [⟨"w", f, cs⟩, ⟨"o", f, cs⟩]
def wayN (f : Int) (n : Int) : List Way := (lawC n.toNat).flatMap (wayC f)
def wayF (F : Form) (f : Int) : List Way := (((rg F.longest.toNat).map fun k => 1 + k).flatMap (wayN f)) ++ [⟨"e", f, []⟩]
def waysI (F : Form) : List Way := (rg F.files.toNat).flatMap (wayF F)
theorem flat_len {α β : Type} {F : β → List α} {B : Nat} : ∀ (zs : List β), (∀ z ∈ zs, (F z).length ≤ B) → (zs.flatMap F).length ≤ zs.length * B
  | [], _ => by simp
  | z :: r, h => by
    have h1 := flat_len r fun y hy => h y (List.mem_cons_of_mem _ hy)
    have h2 := h z List.mem_cons_self
    rw [List.flatMap_cons, List.length_append, List.length_cons, Nat.succ_mul]
    omega
theorem wayN_len {f n : Int} (h : n.toNat ≤ 3) : (wayN f n).length ≤ 16 := by
  have h1 := flat_len (F := wayC f) (B := 2) (lawC n.toNat) (fun z _ => Nat.le_refl _)
  have := (lawC_ok n.toNat h).1
  unfold wayN
  omega
theorem wayF_len {F : Form} (hF : okF F) {f : Int} : (wayF F f).length ≤ 33 := by
  unfold wayF
  have h1 := flat_len (F := wayN f) (B := 16) ((rg F.longest.toNat).map fun k => 1 + k) (fun z hz => wayN_len (by have := (okK_of hF hz).2; omega))
  rw [List.length_map, rg_len] at h1
  rw [List.length_append, List.length_singleton]
  have := hF.2.2.2
  omega
theorem ways_ok {F : Form} (hF : okF F) : ∀ x ∈ waysI F, (x.a = ("w" : Str) → x.c ≠ []) ∧ 0 ≤ x.b ∧ x.b < F.files := by
  intro x hx
  obtain ⟨f, hf, hx⟩ := List.mem_flatMap.mp hx
  have hf2 := rg_mem hf
  have hf3 : 0 ≤ f ∧ f < F.files := by have := hF.1; omega
  rcases List.mem_append.mp hx with hx | hx
  · obtain ⟨n, hn, hx⟩ := List.mem_flatMap.mp hx
    have hn2 := okK_of hF hn
    obtain ⟨cs, hcs, hx⟩ := List.mem_flatMap.mp hx
    have hl := (lawC_ok n.toNat (by omega)).2 cs hcs
    have hne : cs ≠ [] := fun z => by rw [z] at hl; simp at hl; omega
    have : x = ⟨"w", f, cs⟩ ∨ x = ⟨"o", f, cs⟩ := by simpa [wayC] using hx
    rcases this with e | e <;> subst e
    · exact ⟨fun _ => hne, hf3⟩
    · exact ⟨fun _ => hne, hf3⟩
  · have : x = ⟨"e", f, []⟩ := by simpa using hx
    subst this
    exact ⟨fun h => (by cases h), hf3⟩
abbrev N_law_ways : List Str := ["_law_form", "_law_files", "_law_blocks_here", "_law_values", "_law_longest", "_law_ways_here", "_law_file", "_law_length", "_law_contents_here"]
theorem sc_law_ways : FnScope N_law_ways ["_law_form"] (defScope s_law_ways) := ⟨rfl, rfl, rfl, by decide +kernel, rfl, by decide +kernel, by decide +kernel⟩
abbrev sp_law_ways : Sp := Pn (fun g : Form => [R (lf g)]) (fun g => okF g) (fun g H => NLs H (waysI g))
theorem ok_law_ways {f : Addr} {fd : FuncData} (T : Txt K mg) (c_law_contents : C8.Cal P w K mg base 1 "_law_contents" sp_law_contents []) (F : FunD K "_law_ways" "_law_ways" (defArgs s_law_ways) (defBody s_law_ways) (defScope s_law_ways) [] [] f fd) (hm : mg "_law_ways" = some (.ref f)) : C8.Cal P w K mg base 2 "_law_ways" sp_law_ways [] := by
  refine cal_of F hm sc_law_ways (fun _ _ _ _ _ _ us hl => match us, hl with | [_], _ => rfl) (fun vs H Q E ⟨g, h, _⟩ => fas_len h) (fun cdv A outer s H vs Q E hr h => ?_)
  obtain ⟨F0, h, hp, q⟩ := h
  obtain ⟨a, rfl, h1⟩ := fas1 h
  refine ⟨_, (pss_cons (ps_asg (pv 0) (k_gtup (K := K) (n := 4) rfl rfl (pgs_cons (pg_name (i := 1) sc_law_ways.nd rfl (by first | exact .inl rfl | exact .inr rfl)) (pgs_cons (pg_name (i := 2) sc_law_ways.nd rfl (by first | exact .inl rfl | exact .inr rfl)) (pgs_cons (pg_name (i := 3) sc_law_ways.nd rfl (by first | exact .inl rfl | exact .inr rfl)) (pgs_cons (pg_name (i := 4) sc_law_ways.nd rfl (by first | exact .inl rfl | exact .inr rfl)) pgs_nil))))))
      (pss_cons (ps_set (i := 5) sc_law_ways.nd rfl (by first | exact .inl rfl | exact .inr rfl) (pe_lst pa_nil))
      (pss_cons (ps_for PassesOwn.never rfl (pi_range1 (by rfl) T.range (pa_cons (pv 1) pa_nil)) (pg_name (i := 6) sc_law_ways.nd rfl (by first | exact .inl rfl | exact .inr rfl))
        (pss_cons (ps_for PassesOwn.never rfl (pi_range2 (by rfl) T.range (pa_cons pe_int (pa_cons (pe_op op_add (pv 4) pe_int) pa_nil))) (pg_name (i := 7) sc_law_ways.nd rfl (by first | exact .inl rfl | exact .inr rfl))
          (pss_one (ps_for PassesOwn.never rfl (k_list (K := K) rfl (C8.pe_c c_law_contents hr (by decide) (by rfl) (pa_cons (pv 3) (pa_cons (pv 7) pa_nil)))) (pg_name (i := 8) sc_law_ways.nd rfl (by first | exact .inl rfl | exact .inr rfl))
            (pss_one (ps_set (i := 5) sc_law_ways.nd rfl (by first | exact .inl rfl | exact .inr rfl) (pe_op op_cat (pv 5) (pe_lst (pa_cons (pe_tup (pa_cons pe_str (pa_cons (pv 6) (pa_cons (pv 8) pa_nil)))) (pa_cons (pe_tup (pa_cons pe_str (pa_cons (pv 6) (pa_cons (pv 8) pa_nil)))) pa_nil)))))))))
        (pss_one (ps_expr (pe_bm PySem.F.plainAttrs_list PySem.F.slot_list_append PySem.F.type_list_append mt_append (pv 5) (pa_cons (pe_tup (pa_cons pe_str (pa_cons (pv 6) (pa_cons (pe_tup pa_nil) pa_nil)))) pa_nil))))))
      (pss_one (ps_ret (pv 5)))))), ?_⟩
  have pF : okF F0 := hp
  have hL : 1 ≤ F0.longest ∧ F0.longest ≤ 2 := by have := pF.2.2.2; omega
  have hf : 1 ≤ F0.files ∧ F0.files ≤ 2 := by have := pF.1; omega
  refine q_asgG (ev_rv (x := lf F0) rfl h1) fun v1 H1 e1 hv1 => g_t4n hv1 fun y1 y2 y3 y4 hy1 hy2 hy3 hy4 => ?_
  obtain rfl : y1 = .int F0.files := hy1
  obtain rfl : y2 = .int F0.blocks := hy2
  obtain rfl : y3 = .int F0.alphabet := hy3
  obtain rfl : y4 = .int F0.longest := hy4
  refine q_asg (ev_nl0 (α := Way)) fun v2 H2 e2 hv2 => ?_
  refine q_forG (Gd := fun _ _ => True) (n := F0.files.toNat) (S := RI (rg F0.files.toNat)) (evg_range1 (n := F0.files) (ea_cons (ev_rv (x := F0.files) rfl rfl) ea_nil) (by omega) (by omega)) (fun _ i σ' H' => Same H H' ∧ ∃ u y z t, σ' = [some a, some (.int F0.files), some (.int F0.blocks), some (.int F0.alphabet), some (.int F0.longest), some u, y, z, t] ∧ NLs H (((rg F0.files.toNat).take i).flatMap (wayF F0)) u H') (fun H3 e3 => ⟨(e1.trans e2).trans e3, v2, none, none, none, rfl, Mo.mo e3 (hv2.back e1)⟩) (fun _ _ _ _ _ => trivial) ?_ ?_
  · rintro _ i x σ' H3 H4 _ hi ⟨s3, u, y, z, t, rfl, hu⟩ s4 ⟨f, hzf, hx⟩
    have sA := s3.trans s4
    have hu4 := Mo.mo s4 hu
    have hfm := rg_mem (List.mem_of_getElem? hzf)
    obtain rfl : x = .int f := hx
    have hl1 : (((rg F0.files.toNat).take i).flatMap (wayF F0)).length ≤ 66 := by
      have := flat_len (F := wayF F0) (B := 33) ((rg F0.files.toNat).take i) (fun z _ => wayF_len pF)
      rw [List.length_take, rg_len] at this
      omega
    rw [flat_take hzf]
    generalize ((rg F0.files.toNat).take i).flatMap (wayF F0) = c0 at hu4 hl1
    refine q_for (S := RI ((rg F0.longest.toNat).map fun k => 1 + k)) (n := F0.longest.toNat) (by
      have := evi_range2 (a := 1) (b := F0.longest + 1) (H := H4) (σ := [some a, some (.int F0.files), some (.int F0.blocks), some (.int F0.alphabet), some (.int F0.longest), some u, some (.int f), z, t]) (ta := tCons (tC (.int 1)) (tCons (tOp (rI0 fun i j => .int (i + j)) (tVar 4) (tC (.int 1))) tNil)) (ea_cons ev_ci (ea_cons (ev_ii (ev_rv (x := F0.longest) rfl rfl) ev_ci) ea_nil)) (by omega)
      rw [show (F0.longest + 1 - 1).toNat = F0.longest.toNat by omega] at this
      exact this) (fun H5 j σ' H' => Same H5 H' ∧ ∃ u z t, σ' = [some a, some (.int F0.files), some (.int F0.blocks), some (.int F0.alphabet), some (.int F0.longest), some u, some (.int f), z, t] ∧ NLs H (c0 ++ (((rg F0.longest.toNat).map fun k => 1 + k).take j).flatMap (wayN f)) u H') (fun H5 e5 => ⟨Same.refl _, u, z, t, rfl, by simpa using Mo.mo e5 hu4⟩) (fun H2 i σ' H' p => p.1) ?_ ?_
    · rintro H5 j x σ' H6 H7 e5 hj ⟨s6, u6, z6, t6, rfl, hu6⟩ s7 ⟨n, hzn, hxn⟩
      obtain ⟨hk, hn1, hn2⟩ := okK_of pF (List.mem_of_getElem? hzn)
      have hnN : n = ((n.toNat : Nat) : Int) := by omega
      obtain rfl : x = .int n := hxn
      have hu7 := Mo.mo s7 hu6
      have sB := (sA.trans e5).trans (s6.trans s7)
      have hl2 : (c0 ++ (((rg F0.longest.toNat).map fun k => 1 + k).take j).flatMap (wayN f)).length ≤ 66 + 32 := by
        have := flat_len (F := wayN f) (B := 16) (((rg F0.longest.toNat).map fun k => 1 + k).take j) (fun z hz => wayN_len (by have := (okK_of pF (List.take_subset _ _ hz)).2; omega))
        rw [List.length_take, List.length_map, rg_len] at this
        rw [List.length_append]
        omega
      rw [flat_take hzn, ← List.append_assoc]
      generalize c0 ++ (((rg F0.longest.toNat).map fun k => 1 + k).take j).flatMap (wayN f) = c1 at hu7 hl2
      obtain ⟨lc1, lc2⟩ := lawC_ok n.toNat (by omega)
      refine s_for (evi_list (ev_ls (ev_pn (F0.alphabet, n.toNat) (ea_cons (ev_rv (x := F0.alphabet) rfl rfl) (ea_cons (by rw [← hnN]; exact ev_rv (x := n) rfl rfl) ea_nil)) ⟨pF.2.2.1, by show n.toNat ≤ 3; omega⟩))) (fun H8 k σ' H' => Same H8 H' ∧ ∃ u t, σ' = [some a, some (.int F0.files), some (.int F0.blocks), some (.int F0.alphabet), some (.int F0.longest), some u, some (.int f), some (.int n), t] ∧ NLs H (c1 ++ ((lawC n.toNat).take k).flatMap (wayC f)) u H') (fun H8 e8 => ⟨Same.refl _, u6, t6, rfl, by simpa using Mo.mo e8 hu7⟩) (fun H2 i σ' H' p => p.1) ?_ ?_
      · rintro H8 k x σ' H9 H10 e8 hk8 ⟨s9, u9, t9, rfl, hu9⟩ s10 ⟨cs, hzc, hxc⟩
        have hu10 := Mo.mo s10 hu9
        have sC := ((sB.trans e8).trans s9).trans s10
        rw [show (lawC (F0.alphabet, n.toNat).2) = lawC n.toNat from rfl] at hzc
        rw [flat_take hzc, ← List.append_assoc]
        have hl3 : (c1 ++ ((lawC n.toNat).take k).flatMap (wayC f)).length ≤ 66 + 32 + 16 := by
          have := flat_len (F := wayC f) (B := 2) ((lawC n.toNat).take k) (fun z _ => Nat.le_refl _)
          rw [List.length_take] at this
          rw [List.length_append]
          omega
        refine s_asg (ev_cat (ev_var rfl hu10.ls) (ev_ls (ev_nl2 (x := (⟨"w", f, cs⟩ : Way)) (y := ⟨"o", f, cs⟩) (ev_t3 ev_cs (ev_rv (x := f) rfl rfl) (ev_rv rfl hxc)) (ev_t3 ev_cs (ev_rv (x := f) rfl rfl) (ev_rv rfl hxc)))) (by show _ + 2 ≤ _; rw [sizeLine_eq]; omega)) fun v11 H11 e11 hv11 => ⟨(s9.trans s10).trans e11, v11, some x, rfl, hv11.back sC⟩
      · rintro H8 σ' H9 e8 ⟨s9, u9, t9, rfl, hu9⟩
        refine ⟨((s6.trans s7).trans e8).trans s9, u9, some (.int n), t9, rfl, ?_⟩
        rw [show (lawC (F0.alphabet, n.toNat).2) = lawC n.toNat from rfl, List.take_length] at hu9
        exact hu9
    · rintro H5 σ' H6 e5 ⟨s6, u6, z6, t6, rfl, hu6⟩
      have hu6 : NLs H (c0 ++ (((rg F0.longest.toNat).map fun k => 1 + k)).flatMap (wayN f)) u6 H6 := by
        rw [List.take_of_length_le (by rw [List.length_map, rg_len]; exact Nat.le_refl _)] at hu6
        exact hu6
      have sB := (sA.trans e5).trans s6
      obtain ⟨l, vs, rfl, n0, hl, rl⟩ := hu6
      have hll := rl.length
      refine s_appA (x := (⟨"e", f, []⟩ : Way)) ⟨vs, hl, rl⟩ (by
        have h1 := flat_len (F := wayN f) (B := 16) ((rg F0.longest.toNat).map fun k => 1 + k) (fun z hz => wayN_len (by have := (okK_of pF hz).2; omega))
        rw [List.length_map, rg_len] at h1
        rw [List.length_append, sizeLine_eq]
        omega) (ev_is rfl) (ev_t3 ev_cs (ev_rv (x := f) rfl rfl) (ev_tl0 (α := Int))) fun H7 o7 a7 => ⟨same_off sB o7 (fun c hc => by rw [show c = l from by simpa using hc]; exact n0), .ref l, some (.int f), z6, t6, rfl, ?_⟩
      obtain ⟨vs7, h7, r7⟩ := a7
      refine ⟨l, vs7, rfl, n0, h7, ?_⟩
      rw [List.append_assoc] at r7
      exact r7
  · rintro _ σ' H3 _ ⟨s3, u, y, z, t, rfl, hu⟩
    rw [List.take_of_length_le (by rw [rg_len]; exact Nat.le_refl _)] at hu
    exact s_ret (φ := NLs H (waysI F0)) (ev_var rfl hu) fun v4 H4 e4 hv4 => q v4 H4 (s3.trans e4) hv4
def wayAt (F : Form) (c : Int) : Way := (waysI F).getD (c.fmod ((waysI F).length : Int)).toNat ⟨"e", 0, []⟩
def endStep (F : Form) (r : List Int × List (List Int)) (c : Int) : List Int × List (List Int) := match doI F r.1 (wayAt F c).a (wayAt F c).b (wayAt F c).c with
  | none => r
  | some e => (e, r.2 ++ [e])
def endI (F : Form) (d : List Int) (cells : List Int) : List (List Int) := (cells.foldl (endStep F) (d, [d])).2
/-- disks that the law's steps keep -/
structure Kept (F : Form) (G : List Int → Prop) : Prop where
  ok : ∀ d, G d → OkD F d
  step : ∀ d x e, x ∈ waysI F → G d → doI F d x.a x.b x.c = some e → G e
theorem ways_pos {F : Form} (hF : okF F) : 0 < (waysI F).length := by
  have hf : ∃ n, F.files.toNat = n + 1 := ⟨F.files.toNat - 1, by have := hF.1; omega⟩
  obtain ⟨n, hn⟩ := hf
  unfold waysI
  rw [hn, rg_succ, List.flatMap_append, List.length_append]
  simp [wayF]
  omega
theorem ways_len {F : Form} (hF : okF F) : (waysI F).length ≤ 66 := by
  have := flat_len (F := wayF F) (B := 33) (rg F.files.toNat) (fun z _ => wayF_len hF)
  rw [rg_len] at this
  have := hF.1
  unfold waysI
  omega
theorem wayAt_in {F : Form} (hF : okF F) (c : Int) : (waysI F)[(c.fmod ((waysI F).length : Int)).toNat]? = some (wayAt F c) ∧ 0 ≤ c.fmod ((waysI F).length : Int) := by
  have hp := ways_pos hF
  have h0 : 0 ≤ c.fmod ((waysI F).length : Int) := Int.fmod_nonneg_of_pos c (by omega)
  have h1 : c.fmod ((waysI F).length : Int) < (waysI F).length := Int.fmod_lt_of_pos c (by omega)
  have hl : (c.fmod ((waysI F).length : Int)).toNat < (waysI F).length := by omega
  refine ⟨?_, h0⟩
  unfold wayAt
  rw [List.getD_eq_getElem?_getD, List.getElem?_eq_getElem hl]
  rfl
theorem end_in {F : Form} (hF : okF F) {G : List Int → Prop} (hG : Kept F G) : ∀ (cs : List Int) (r : List Int × List (List Int)), G r.1 → (∀ x ∈ r.2, G x) → (G (cs.foldl (endStep F) r).1 ∧ ∀ x ∈ (cs.foldl (endStep F) r).2, G x) ∧ (cs.foldl (endStep F) r).2.length ≤ r.2.length + cs.length
  | [], r, h1, h2 => ⟨⟨h1, h2⟩, Nat.le_refl _⟩
  | c :: cs, r, h1, h2 => by
    have key : (G (endStep F r c).1 ∧ ∀ x ∈ (endStep F r c).2, G x) ∧ (endStep F r c).2.length ≤ r.2.length + 1 := by
      unfold endStep
      split
      · exact ⟨⟨h1, h2⟩, Nat.le_succ _⟩
      · rename_i e he
        have hm := List.mem_of_getElem? (wayAt_in hF c).1
        have he' := hG.step _ _ _ hm h1 he
        refine ⟨⟨he', fun x hx => ?_⟩, by simp⟩
        rcases List.mem_append.mp hx with hx | hx
        · exact h2 x hx
        · rw [show x = e from by simpa using hx]; exact he'
    have h3 := end_in hF hG cs (endStep F r c) key.1.1 key.1.2
    refine ⟨h3.1, ?_⟩
    rw [List.length_cons, List.foldl_cons]
    have := h3.2
    have := key.2
    omega
structure EndG where
  F : Form
  d : List Int
  cells : List Int
abbrev N_law_end : List Str := ["_law_form", "_law_disk", "_law_cells", "_law_ways_here", "_law_passed", "_law_cell_here", "_law_kind", "_law_file", "_law_contents_here", "_law_following"]
theorem sc_law_end : FnScope N_law_end ["_law_form", "_law_disk", "_law_cells"] (defScope s_law_end) := ⟨rfl, rfl, rfl, by decide +kernel, rfl, by decide +kernel, by decide +kernel⟩
abbrev sp_law_end : Sp := Pn (fun g : EndG => [R (lf g.F), R g.d, Ls g.cells]) (fun g => okF g.F ∧ g.cells.length ≤ 1000 ∧ ∃ G, Kept g.F G ∧ G g.d) (fun g H => NLs H (endI g.F g.d g.cells))
theorem ok_law_end {f : Addr} {fd : FuncData} (T : Txt K mg) (c_law_ways : C8.Cal P w K mg base 2 "_law_ways" sp_law_ways []) (c_law_do : C8.Cal P w K mg base 2 "_law_do" sp_law_do []) (F : FunD K "_law_end" "_law_end" (defArgs s_law_end) (defBody s_law_end) (defScope s_law_end) [] [] f fd) (hm : mg "_law_end" = some (.ref f)) : C8.Cal P w K mg base 3 "_law_end" sp_law_end [] := by
  refine cal_of F hm sc_law_end (fun _ _ _ _ _ _ us hl => match us, hl with | [_, _, _], _ => rfl) (fun vs H Q E ⟨g, h, _⟩ => fas_len h) (fun cdv A outer s H vs Q E hr h => ?_)
  obtain ⟨⟨F0, d, cells⟩, h, hp, q⟩ := h
  obtain ⟨a1, a2, a3, rfl, h1, h2, h3⟩ := fas3 h
  refine ⟨_, (pss_cons (ps_set (i := 3) sc_law_end.nd rfl (by first | exact .inl rfl | exact .inr rfl) (C8.pe_c c_law_ways hr (by decide) (by rfl) (pa_cons (pv 0) pa_nil)))
      (pss_cons (ps_set (i := 4) sc_law_end.nd rfl (by first | exact .inl rfl | exact .inr rfl) (pe_lst (pa_cons (pv 1) pa_nil)))
      (pss_cons (ps_for PassesOwn.never rfl (k_list (K := K) rfl (pv 2)) (pg_name (i := 5) sc_law_end.nd rfl (by first | exact .inl rfl | exact .inr rfl))
        (pss_cons (ps_asg (pe_ix (k_ixL (K := K) rfl) (pv 3) (pe_op op_modN (pv 5) (pe_callB (k_len (K := K) rfl) (by rfl) T.len PySem.boot_len (pa_cons (pv 3) pa_nil))) (fun _ _ => rfl)) (k_gtup (K := K) (n := 3) rfl rfl (pgs_cons (pg_name (i := 6) sc_law_end.nd rfl (by first | exact .inl rfl | exact .inr rfl)) (pgs_cons (pg_name (i := 7) sc_law_end.nd rfl (by first | exact .inl rfl | exact .inr rfl)) (pgs_cons (pg_name (i := 8) sc_law_end.nd rfl (by first | exact .inl rfl | exact .inr rfl)) pgs_nil)))))
        (pss_cons (ps_set (i := 9) sc_law_end.nd rfl (by first | exact .inl rfl | exact .inr rfl) (C8.pe_c c_law_do hr (by decide) (by rfl) (pa_cons (pv 0) (pa_cons (pv 1) (pa_cons (pv 6) (pa_cons (pv 7) (pa_cons (pv 8) pa_nil)))))))
        (pss_one (ps_if (pt_cmpR op_notN (pv 9) pe_non (nomark _)) (pss_cons (ps_set (i := 1) sc_law_end.nd rfl (by first | exact .inl rfl | exact .inr rfl) (pv 9))
          (pss_one (ps_expr (pe_bm PySem.F.plainAttrs_list PySem.F.slot_list_append PySem.F.type_list_append mt_append (pv 4) (pa_cons (pv 1) pa_nil))))) pss_nil)))))
      (pss_one (ps_ret (pv 4)))))), ?_⟩
  obtain ⟨pF, pl, G, hG, hd⟩ := hp
  have pF : okF F0 := pF
  have pl : cells.length ≤ 1000 := pl
  have hG : Kept F0 G := hG
  have hd : G d := hd
  have h1 : Rep.rp H (lf F0) a1 := h1
  have h2 : Rep.rp H d a2 := h2
  have h3 : Ls cells a3 H := h3
  have hwl := ways_len pF
  refine q_asg (ev_pn F0 (ea_cons (ev_rv (x := lf F0) rfl h1) ea_nil) pF) fun v1 H1 e1 hv1 => ?_
  have hw : Ls (waysI F0) v1 H1 := hv1.ls
  refine q_asg (ev_nl1 (ev_rv rfl (Rep.mono (tx_of e1) h2))) fun v2 H2 e2 hv2 => ?_
  obtain ⟨l, rfl, n2, a4⟩ := at_of hv2
  have s2 := e1.trans e2
  obtain ⟨lw, vw, rfl, hlw, rw_⟩ := hw
  obtain ⟨lc, vc, rfl, hlc, rc⟩ := h3
  have nlw : lw ≠ l := fun z => by rw [z, n2] at hlw; cases hlw
  have nlc : lc ≠ l := fun z => by have := e1 _ _ hlc; rw [z, n2] at this; cases this
  have Aw : At lw (waysI F0) H2 := ⟨vw, e2 _ _ hlw, Rps.mono (tx_of e2) rw_⟩
  have g1 := Rep.mono (tx_of s2) h1
  have g2 := Rep.mono (tx_of s2) h2
  refine q_forAcc (endStep F0) (d, [d]) (fun r σ' H' => At l r.2 H' ∧ ∃ u x1 x2 x3 x4 x5, Rep.rp H' r.1 u ∧ σ' = [some a1, some u, some (.ref lc), some (.ref lw), some (.ref l), x1, x2, x3, x4, x5]) (evg_list a4.ll (ev_is rfl) (s2 _ _ hlc) (Rps.mono (tx_of s2) rc) (by simpa using nlc)) (fun H3 e3 => ⟨a4.same e3, a2, none, none, none, none, none, Rep.mono (tx_of e3) g2, rfl⟩) (fun r σ' H' H'' p e => ⟨p.1.same e, let ⟨u, x1, x2, x3, x4, x5, hu, es⟩ := p.2; ⟨u, x1, x2, x3, x4, x5, Rep.mono (tx_of e) hu, es⟩⟩) ?_ ?_
  · rintro pre c suf x σ' H3 D' hzs ⟨A3, u, x1, x2, x3, x4, x5, hu, rfl⟩ o3 hx kk _
    have inv := end_in pF hG pre (d, [d]) hd (fun y hy => by rw [show y = d from by simpa using hy]; exact hd)
    have hpl : pre.length ≤ 1000 := by
      have h5 := congrArg List.length hzs
      rw [List.length_append, List.length_cons] at h5
      omega
    generalize pre.foldl (endStep F0) (d, [d]) = r at A3 hu kk inv
    have Aw3 := Aw.off a4.ll o3 (by simpa using nlw)
    have i1 := Rep.mono (tx_off a4.ll o3) g1
    have hwp := ways_pos pF
    obtain ⟨w1, w2⟩ := wayAt_in pF c
    have hwm := List.mem_of_getElem? w1
    have hwo := ways_ok pF _ hwm
    refine q_asgG (ev_ixL (ev_at Aw3 rfl) (ev_iiC (g := fun i j => i.fmod j) (ev_rv rfl hx) (ev_lenL (ev_at Aw3 rfl)) (by show ((waysI F0).length : Int) ≠ 0; omega)) (atI_at w2 w1)) fun v5 H5 e5 hv5 => g_t3n hv5 fun y1 y2 y3 hy1 hy2 hy3 => ?_
    refine q_asg (ev_pp (DoG.mk F0 r.1 (wayAt F0 c).a (wayAt F0 c).b (wayAt F0 c).c) (ea_cons (ev_rv (x := lf F0) rfl (Rep.mono (tx_of e5) i1)) (ea_cons (ev_rv rfl (Rep.mono (tx_of e5) hu)) (ea_cons (ev_rv rfl hy1) (ea_cons (ev_rv rfl hy2) (ea_cons (ev_rv rfl hy3) ea_nil))))) ⟨pF, hG.ok _ inv.1.1, hwo.2, hwo.1⟩) fun v6 H6 e6 hv6 => ?_
    have hv6 : Rep.rp H6 (doI F0 r.1 (wayAt F0 c).a (wayAt F0 c).b (wayAt F0 c).c) v6 := hv6
    have s6 := e5.trans e6
    refine s_when (b := (doI F0 r.1 (wayAt F0 c).a (wayAt F0 c).b (wayAt F0 c).c).isSome) (et_test (ev_notN (ev_rv rfl hv6))) (fun eb H7 e7 => ?_) (fun eb H7 e7 => ?_)
    · obtain ⟨y, hy⟩ := Option.isSome_iff_exists.mp eb
      have es : endStep F0 r c = (y, r.2 ++ [y]) := by unfold endStep; rw [hy]
      rw [hy] at hv6
      have hv6 : Rep.rp H6 y v6 := hv6.2
      refine q_asg (ev_rv (x := y) rfl (Rep.mono (tx_of e7) hv6)) fun v8 H8 e8 hv8 => ?_
      have h11 := inv.2
      rw [List.length_singleton] at h11
      refine s_appA (A3.same (s6.trans (e7.trans e8))) (by rw [sizeLine_eq]; omega) (ev_is rfl) (ev_rv (x := y) rfl hv8) fun H9 o9 a9 => (kk _ H9 ((OffL.of (s6.trans (e7.trans e8))).trans o9) ?_).1
      rw [es]
      exact ⟨a9, v8, some x, some y1, some y2, some y3, some v6, Rep.mono (tx_off (A3.same (s6.trans (e7.trans e8))).ll o9) hv8, rfl⟩
    · have es : endStep F0 r c = r := by unfold endStep; rw [show doI F0 r.1 (wayAt F0 c).a (wayAt F0 c).b (wayAt F0 c).c = none from by cases hh : doI F0 r.1 (wayAt F0 c).a (wayAt F0 c).b (wayAt F0 c).c with | none => rfl | some z => rw [hh] at eb; cases eb]
      refine (kk _ H7 (OffL.of (s6.trans e7)) ?_).1
      rw [es]
      exact ⟨A3.same (s6.trans e7), u, some x, some y1, some y2, some y3, some v6, Rep.mono (tx_of (s6.trans e7)) hu, rfl⟩
  · rintro σ' H3 o3 ⟨A3, u, x1, x2, x3, x4, x5, hu, rfl⟩
    have sA : Same H H3 := same_off s2 o3 (fun c hc => by rw [show c = l from by simpa using hc]; exact e1.free n2)
    refine s_ret (φ := NLs H (endI F0 d cells)) (ev_var rfl ?_) fun v4 H4 e4 hv4 => q v4 H4 (sA.trans e4) hv4
    obtain ⟨vs, h5, r5⟩ := A3
    exact ⟨l, vs, rfl, e1.free n2, h5, r5⟩
end
end RW
set_option Elab.async false
set_option linter.all false
set_option maxRecDepth 100000
set_option maxHeartbeats 4000000
namespace RW
open PySem PySem.Spec PyProof.Rows L2
local macro_rules | `(tactic| walk_at "sm") => `(tactic| first
  | exact Same.refl _
  | assumption
  | exact same_new (by assumption)
  | (refine Same.trans ?_ (by assumption); walk_at "sm")
  | (refine Same.trans ?_ (same_new (by assumption)); walk_at "sm"))
local macro_rules | `(tactic| walk_at "rp") => `(tactic| first
  | assumption
  | exact rfl
  | (refine Rep.mono (tx_of ?_) (by assumption); walk_at "sm")
  | (refine Mo.mo ?_ (by assumption); walk_at "sm"))
local macro_rules | `(tactic| walk_at "ev") => `(tactic| first
  | exact ev_ci
  | exact ev_cs
  | exact ev_cb
  | exact ev_cn
  | (refine @ev_rv _ _ _ _ _ _ _ rfl ?_; walk_at "rp")
  | (refine @ev_var _ _ _ _ _ ?_ rfl ?_; (first | infer_instance | skip); walk_at "rp")
  | (refine ev_ii ?_ ?_ <;> walk_at "ev")
  | (refine ev_ib ?_ ?_ <;> walk_at "ev")
  | (refine ev_eqI ?_ ?_ <;> walk_at "ev")
  | (refine ev_neI ?_ ?_ <;> walk_at "ev")
  | (refine ev_lenT ?_ <;> walk_at "ev")
  | (refine ev_lenL ?_ <;> walk_at "ev")
  | (refine ev_int1 ?_ <;> walk_at "ev")
  | (refine et_test ?_ <;> walk_at "ev")
  | (refine et_B ?_ <;> walk_at "ev")
  | (refine et_not ?_ <;> walk_at "ev")
  | (refine et_or ?_ (fun _ => ?_) <;> walk_at "ev")
  | (refine et_and ?_ (fun _ => ?_) <;> walk_at "ev"))
section
variable {P : Program} {w : World} {K : PySem.W.Frag} {mg : Str → Option Value} {base : Heap}
def spoilM (d sz : List Int) (c k : Int) : Int :=
  if decide ((mixI c k).fmod 16 < c.fmod 9) = true then 1 * 2 ^ (szI sz k).toNat - 1 else if decide ((mixI c k).fmod 16 = 15) = true then Builtin.bitOr (1 * 2 ^ (szI d k).toNat) (1 * 2 ^ ((mixI c (k + 40)).fmod (szI sz k)).toNat) else 1 * 2 ^ (szI d k).toNat
def spoilI (d sz : List Int) (c : Int) : List Int := (rg d.length).map (spoilM d sz c)
abbrev N_law_spoil : List Str := ["_law_disk", "_law_sizes_here", "_law_cell_here", "_law_image", "_law_k", "_law_number", "_law_mask"]
theorem sc_law_spoil : FnScope N_law_spoil ["_law_disk", "_law_sizes_here", "_law_cell_here"] (defScope s_law_spoil) := ⟨rfl, rfl, rfl, by decide +kernel, rfl, by decide +kernel, by decide +kernel⟩
abbrev sp_law_spoil : Sp := Pp (fun g : T3 (List Int) (List Int) Int => [R g.a, Ls g.b, R g.c]) (fun g => g.a.length ≤ 1000 ∧ g.a.length = g.b.length ∧ (∀ v ∈ g.a, 0 ≤ v ∧ v ≤ 1000) ∧ (∀ v ∈ g.b, 1 ≤ v ∧ v ≤ 1000)) (fun g => R (spoilI g.a g.b g.c))
theorem ok_law_spoil {f : Addr} {fd : FuncData} (T : Txt K mg) (c_law_mix : C8.Cal P w K mg base 1 "_law_mix" sp_law_mix []) (F : FunD K "_law_spoil" "_law_spoil" (defArgs s_law_spoil) (defBody s_law_spoil) (defScope s_law_spoil) [] [] f fd) (hm : mg "_law_spoil" = some (.ref f)) : C8.Cal P w K mg base 2 "_law_spoil" sp_law_spoil [] := by
  refine cal_of F hm sc_law_spoil (fun _ _ _ _ _ _ us hl => match us, hl with | [_, _, _], _ => rfl) (fun vs H Q E ⟨g, h, _⟩ => fas_len h) (fun cdv A outer s H vs Q E hr h => ?_)
  obtain ⟨⟨d, sz, c⟩, h, hp, q⟩ := h
  obtain ⟨a1, a2, a3, rfl, h1, h2, h3⟩ := fas3 h
  refine ⟨_, (pss_cons (ps_set (i := 3) sc_law_spoil.nd rfl (by first | exact .inl rfl | exact .inr rfl) (pe_lst pa_nil))
      (pss_cons (ps_for PassesOwn.never rfl (pi_range1 (by rfl) T.range (pa_cons (pe_callB (k_len (K := K) rfl) (by rfl) T.len PySem.boot_len (pa_cons (pv 0) pa_nil)) pa_nil)) (pg_name (i := 4) sc_law_spoil.nd rfl (by first | exact .inl rfl | exact .inr rfl))
        (pss_cons (ps_set (i := 5) sc_law_spoil.nd rfl (by first | exact .inl rfl | exact .inr rfl) (pe_op op_modN (C8.pe_c c_law_mix hr (by decide) (by rfl) (pa_cons (pv 2) (pa_cons (pv 4) pa_nil))) pe_int))
        (pss_cons (ps_set (i := 6) sc_law_spoil.nd rfl (by first | exact .inl rfl | exact .inr rfl) (pe_op op_shl pe_int (pe_ix (k_ixT (K := K) rfl) (pv 0) (pv 4) (fun _ _ => rfl))))
        (pss_cons (ps_if (pt_cmpR op_lt (pv 5) (pe_op op_modN (pv 2) pe_int) (nomark _)) (pss_one (ps_set (i := 6) sc_law_spoil.nd rfl (by first | exact .inl rfl | exact .inr rfl) (pe_op op_sub (pe_op op_shl pe_int (pe_ix (k_ixL (K := K) rfl) (pv 1) (pv 4) (fun _ _ => rfl))) pe_int))) (pss_one (ps_if (pt_cmpR op_eq (pv 5) pe_int (nomark _)) (pss_one (ps_set (i := 6) sc_law_spoil.nd rfl (by first | exact .inl rfl | exact .inr rfl) (pe_op op_or (pv 6) (pe_op op_shl pe_int (pe_op op_modN (C8.pe_c c_law_mix hr (by decide) (by rfl) (pa_cons (pv 2) (pa_cons (pe_op op_add (pv 4) pe_int) pa_nil))) (pe_ix (k_ixL (K := K) rfl) (pv 1) (pv 4) (fun _ _ => rfl))))))) pss_nil)))
        (pss_one (ps_expr (pe_bm PySem.F.plainAttrs_list PySem.F.slot_list_append PySem.F.type_list_append mt_append (pv 3) (pa_cons (pv 6) pa_nil))))))))
      (pss_one (ps_ret (pe_callTy (k_tuple (K := K) rfl) (by rfl) T.tuple (by decide +kernel) (pa_cons (pv 3) pa_nil)))))), ?_⟩
  obtain ⟨p1, p2, p3, p4⟩ := hp
  have p1 : d.length ≤ 1000 := p1
  have p2 : d.length = sz.length := p2
  have p3 : ∀ v ∈ d, 0 ≤ v ∧ v ≤ 1000 := p3
  have p4 : ∀ v ∈ sz, 1 ≤ v ∧ v ≤ 1000 := p4
  have h1 : Rep.rp H d a1 := h1
  have h2 : Ls sz a2 H := h2
  obtain ⟨ls, vs, rfl, hls, rls⟩ := h2
  obtain rfl : a3 = .int c := h3
  refine q_asg (ev_nl0 (α := Int)) fun v1 H1 e1 hv1 => ?_
  obtain ⟨l, rfl, n1, l1⟩ := at_of hv1
  have g1 := Rep.mono (tx_of e1) h1
  have nll : ls ≠ l := fun z => by rw [z, n1] at hls; cases hls
  have g2 : At ls sz H1 := ⟨vs, e1 _ _ hls, Rps.mono (tx_of e1) rls⟩
  refine q_forApp (spoilM d sz c) (fun σ' => ∃ x y z, σ' = [some a1, some (.ref ls), some (.int c), some (.ref l), x, y, z]) (zs := rg d.length) (by rw [rg_len]; exact evg_range1 (n := (d.length : Int)) (ea_cons (ev_lenT (ev_rv rfl g1)) ea_nil) (by omega) (by omega)) ⟨none, none, none, rfl⟩ l1 (by rw [rg_len, List.length_nil, sizeLine_eq]; omega) ?_ ?_
  · rintro k x σ' H2 ys D' hzm ⟨x1, x2, x3, rfl⟩ o2 hx hys hlen kk
    obtain rfl : x = .int k := hx
    have hk := rg_mem hzm
    have i1 := Rep.mono (tx_off l1.ll o2) g1
    have i2 : At ls sz H2 := g2.off l1.ll o2 (by simpa using nll)
    have hd := p3 (szI d k) (by unfold szI; have hlt : k.toNat < d.length := by omega
                                rw [List.getD_eq_getElem?_getD, List.getElem?_eq_getElem hlt]; exact List.getElem_mem hlt)
    have hs := p4 (szI sz k) (by unfold szI; have hlt : k.toNat < sz.length := by omega
                                 rw [List.getD_eq_getElem?_getD, List.getElem?_eq_getElem hlt]; exact List.getElem_mem hlt)
    have hdk : atI d k = some (szI d k) := szAt hk.1 hk.2
    have hsk : atI sz k = some (szI sz k) := szAt hk.1 (by omega)
    refine q_asg (ev_iiC (g := fun i j => i.fmod j) (ev_pp (c, k) (ea_cons (ev_rv (x := c) rfl rfl) (ea_cons (ev_rv (x := k) rfl rfl) ea_nil)) trivial) ev_ci (by decide)) fun v5 H5 e5 hv5 => ?_
    obtain rfl : v5 = .int ((mixI c k).fmod 16) := hv5
    refine q_asg (ev_iiC (g := fun i j => i * 2 ^ j.toNat) ev_ci (ev_ixT (ev_rv rfl (Rep.mono (tx_of e5) i1)) (ev_rv (x := k) rfl rfl) hdk) ⟨hd.1, by omega, by decide⟩) fun v6 H6 e6 hv6 => ?_
    obtain rfl : v6 = .int (1 * 2 ^ (szI d k).toNat) := hv6
    have s6 := e5.trans e6
    have fin : ∀ (m : Int) (H7 : Hp), Same H2 H7 → m = spoilM d sz c k → ∀ (Dx : Ends), Dx.nx = D'.nx → tDrop (tBM K "list" rAppend (tVar 3) (tCons (tVar 6) tNil)) Dx [some a1, some (.ref ls), some (.int c), some (.ref l), some (.int k), some (.int ((mixI c k).fmod 16)), some (.int m)] H7 := by
      intro m H7 e7 em Dx hD
      refine s_appA (x := spoilM d sz c k) (hys.same e7) hlen (ev_is rfl) (ev_rv rfl (by rw [em]; rfl)) fun H8 o8 a8 => ?_
      rw [hD]
      exact kk _ H8 ⟨some (.int k), some (.int ((mixI c k).fmod 16)), some (.int m), rfl⟩ ((OffL.of e7).trans o8) a8
    refine q_if (b := decide ((mixI c k).fmod 16 < c.fmod 9)) (et_test (ev_ib (ev_rv (x := (mixI c k).fmod 16) rfl rfl) (ev_iiC (g := fun i j => i.fmod j) (ev_rv (x := c) rfl rfl) ev_ci (by decide)))) (fun eb H7 e7 => ?_) (fun eb H7 e7 => ?_)
    · refine s_asg (ev_ii (ev_iiC (g := fun i j => i * 2 ^ j.toNat) ev_ci (ev_ixL (ev_at (i2.same (s6.trans e7)) rfl) (ev_rv (x := k) rfl rfl) hsk) ⟨by omega, by omega, by decide⟩) ev_ci) fun v8 H8 e8 hv8 => ?_
      obtain rfl : v8 = .int (1 * 2 ^ (szI sz k).toNat - 1) := hv8
      exact fin _ H8 ((s6.trans e7).trans e8) (by unfold spoilM; rw [if_pos eb]) _ rfl
    · refine s_when (b := decide ((mixI c k).fmod 16 = 15)) (et_test (ev_eqI (ev_rv (x := (mixI c k).fmod 16) rfl rfl) ev_ci)) (fun e9 H8 e8 => ?_) (fun e9 H8 e8 => ?_)
      · have hm0 : 0 ≤ (mixI c (k + 40)).fmod (szI sz k) := Int.fmod_nonneg_of_pos _ (by omega)
        have hm1 : (mixI c (k + 40)).fmod (szI sz k) < szI sz k := Int.fmod_lt_of_pos _ (by omega)
        refine s_asg (ev_ii (g := fun i j => Builtin.bitOr i j) (ev_rv (x := 1 * 2 ^ (szI d k).toNat) rfl rfl) (ev_iiC (g := fun i j => i * 2 ^ j.toNat) ev_ci (ev_iiC (g := fun i j => i.fmod j) (ev_pp (c, k + 40) (ea_cons (ev_rv (x := c) rfl rfl) (ea_cons (ev_ii (ev_rv (x := k) rfl rfl) ev_ci) ea_nil)) trivial) (ev_ixL (ev_at (i2.same ((s6.trans e7).trans e8)) rfl) (ev_rv (x := k) rfl rfl) hsk) (by show szI sz k ≠ 0; omega)) ⟨hm0, by show (mixI c (k + 40)).fmod (szI sz k) ≤ 1000000; omega, by decide⟩)) fun v9 H9 e9' hv9 => ?_
        obtain rfl : v9 = .int (Builtin.bitOr (1 * 2 ^ (szI d k).toNat) (1 * 2 ^ ((mixI c (k + 40)).fmod (szI sz k)).toNat)) := hv9
        exact fin _ H9 (((s6.trans e7).trans e8).trans e9') (by unfold spoilM; rw [if_neg (by rw [eb]; decide), if_pos e9]) _ rfl
      · exact fin _ H8 ((s6.trans e7).trans e8) (by unfold spoilM; rw [if_neg (by rw [eb]; decide), if_neg (by rw [e9]; decide)]) _ rfl
  · rintro σ' H2 ⟨x1, x2, x3, rfl⟩ o2 a2'
    have sA : Same H H2 := same_off e1 o2 (fun c hc => by rw [show c = l from by simpa using hc]; exact n1)
    have a2' : At l (spoilI d sz c) H2 := a2'
    exact s_ret (ev_tupL (ev_at a2' rfl)) fun v H5 e5 hv => q v H5 (sA.trans e5) hv
end
end RW
set_option Elab.async false
set_option linter.all false
set_option maxRecDepth 100000
set_option maxHeartbeats 4000000
namespace RW
open PySem PySem.Spec PyProof.Rows L2
local macro_rules | `(tactic| walk_at "sm") => `(tactic| first
  | exact Same.refl _
  | assumption
  | exact same_new (by assumption)
  | (refine Same.trans ?_ (by assumption); walk_at "sm")
  | (refine Same.trans ?_ (same_new (by assumption)); walk_at "sm"))
local macro_rules | `(tactic| walk_at "rp") => `(tactic| first
  | assumption
  | exact rfl
  | (refine Rep.mono (tx_of ?_) (by assumption); walk_at "sm")
  | (refine Mo.mo ?_ (by assumption); walk_at "sm"))
local macro_rules | `(tactic| walk_at "ev") => `(tactic| first
  | exact ev_ci
  | exact ev_cs
  | exact ev_cb
  | exact ev_cn
  | (refine @ev_rv _ _ _ _ _ _ _ rfl ?_; walk_at "rp")
  | (refine @ev_var _ _ _ _ _ ?_ rfl ?_; (first | infer_instance | skip); walk_at "rp")
  | (refine ev_ii ?_ ?_ <;> walk_at "ev")
  | (refine ev_ib ?_ ?_ <;> walk_at "ev")
  | (refine ev_eqI ?_ ?_ <;> walk_at "ev")
  | (refine ev_neI ?_ ?_ <;> walk_at "ev")
  | (refine ev_lenT ?_ <;> walk_at "ev")
  | (refine ev_lenL ?_ <;> walk_at "ev")
  | (refine ev_int1 ?_ <;> walk_at "ev")
  | (refine et_test ?_ <;> walk_at "ev")
  | (refine et_B ?_ <;> walk_at "ev")
  | (refine et_not ?_ <;> walk_at "ev")
  | (refine et_or ?_ (fun _ => ?_) <;> walk_at "ev")
  | (refine et_and ?_ (fun _ => ?_) <;> walk_at "ev"))
/-! ### a dict that changes no more -/
def tFrz (td : TE) : TE := fun σ H Q => td σ H fun x H1 => ∃ d u, x = .ref d ∧ H1 d = some u ∧ Mut (some u) ∧ ∀ od, Q x (upd H1 d (.frz od u))
theorem pe_frz {X : Cx} {e : Expr} {td : TE} (he : PE X e td) : PE X e (tFrz td) := ⟨fun pins s σ H Q I h => thn (he.run pins s σ H _ I h) fun v s1 ⟨x, H1, I1, rx, d, u, ex, hd, mu, q⟩ => by
  obtain ⟨od, I2⟩ := I1.lock hd mu
  exact ⟨x, _, I2, rx, q od⟩⟩
/-! ### dicts of disks -/
def kd (d : List Int) : List Key := d.map Sum.inl
theorem kd_V (d : List Int) : (kd d).map kV = d.map V.int := by unfold kd; rw [List.map_map]; rfl
theorem kd_inj {d e : List Int} (h : kd d = kd e) : d = e := by
  have := congrArg (List.map kV) h
  rw [kd_V, kd_V] at this
  exact List.map_inj_right (fun _ _ => V.int.inj) |>.mp this
theorem tup_kd {H : Hp} {d : List Int} {v : V} (h : Rep.rp H d v) : ∃ b, v = .ref b ∧ H b = some (.tup ((kd d).map kV)) := by
  obtain ⟨b, vs, e, hb, r⟩ := h
  exact ⟨b, e, by rw [hb, kd_V, r.ints]⟩
/-- the dict that holds ks, each with its value -/
def mkv (ks : List (List Int)) (vs : List V) : List (List Key × V) := (ks.zip vs).map fun p => (kd p.1, p.2)
theorem valV_mkv : ∀ {ks : List (List Int)} {vs : List V} (e : List Int), ks.length = vs.length → (valV (mkv ks vs) (kd e)).isSome = decide (e ∈ ks)
  | [], [], e, _ => by simp [mkv, valV]
  | k :: ks, v :: vs, e, h => by
    have ih := valV_mkv (ks := ks) (vs := vs) e (by simpa using h)
    show (valV ((kd k, v) :: mkv ks vs) (kd e)).isSome = _
    by_cases c : k = e
    · subst c
      rw [valV_pos rfl]
      simp
    · rw [valV_neg (fun z => c (kd_inj z)), ih]
      have : ¬ e = k := fun z => c z.symm
      simp [this]
theorem valV_at : ∀ {ks : List (List Int)} {vs : List V} {i : Nat} {e : List Int} {v : V}, ks.Nodup → ks[i]? = some e → vs[i]? = some v → valV (mkv ks vs) (kd e) = some v
  | [], _, i, _, _, _, h, _ => by simp at h
  | k :: ks, [], i, _, _, _, _, h => by simp at h
  | k :: ks, v :: vs, 0, e, w, hn, h1, h2 => by
    simp at h1 h2
    subst h1 h2
    show valV ((kd k, v) :: mkv ks vs) (kd k) = some v
    rw [valV_pos rfl]
  | k :: ks, v :: vs, i + 1, e, w, hn, h1, h2 => by
    have hn2 := List.nodup_cons.mp hn
    have h1 : ks[i]? = some e := by simpa using h1
    have h2 : vs[i]? = some w := by simpa using h2
    have hne : ¬ k = e := fun z => hn2.1 (z ▸ List.mem_of_getElem? h1)
    show valV ((kd k, v) :: mkv ks vs) (kd e) = some w
    rw [valV_neg (fun z => hne (kd_inj z))]
    exact valV_at hn2.2 h1 h2
theorem put_mkv {ks : List (List Int)} {vs : List V} {e : List Int} (v : V) (hl : ks.length = vs.length) (h : e ∉ ks) : putK (mkv ks vs) (kd e) v = mkv (ks ++ [e]) (vs ++ [v]) := by
  have hn : valV (mkv ks vs) (kd e) = none := by
    have := valV_mkv (vs := vs) e hl
    rw [decide_eq_false h] at this
    cases hh : valV (mkv ks vs) (kd e) with
    | none => rfl
    | some z => rw [hh] at this; cases this
  rw [putK_new v hn]
  unfold mkv
  rw [List.zip_append hl, List.map_append]
  rfl
theorem mkv_len {ks : List (List Int)} {vs : List V} (h : ks.length = vs.length) : (mkv ks vs).length = ks.length := by
  unfold mkv
  rw [List.length_map, List.length_zip]
  omega
section
variable {σ : L2.St} {H : Hp} {ta tb : TE} {dd : Addr} {ks : List (List Int)} {vs : List V} {e : List Int}
theorem ev_dnotin (hd : Rd H dd (.dT (mkv ks vs))) (hl : ks.length = vs.length) (he : Ev ta σ H (R e)) (ho : Ev tb σ H (Is (.ref dd))) : Ev (tDNotIn ta tb) σ H (R (!decide (e ∈ ks))) := fun H1 s Q q =>
  he H1 s _ fun v H2 s2 hv => ho H2 (s.trans s2) _ fun x H3 s3 hx => by
    obtain ⟨b, rfl, hb⟩ := tup_kd (Rep.mono (tx_of s3) hv)
    have hd3 : Rd H3 dd (.dT (mkv ks vs)) := by
      rcases hd with h | ⟨o, h⟩
      · exact .inl (((s.trans s2).trans s3) _ _ h)
      · exact .inr ⟨o, ((s.trans s2).trans s3) _ _ h⟩
    exact ⟨dd, _, hx, .inr ⟨_, kd e, b, hd3, rfl, hb, rfl⟩, q _ H3 (s2.trans s3) (by rw [valV_mkv e hl]; rfl)⟩
theorem ev_din (hd : Rd H dd (.dT (mkv ks vs))) (hl : ks.length = vs.length) (he : Ev ta σ H (R e)) (ho : Ev tb σ H (Is (.ref dd))) : Ev (tDIn ta tb) σ H (R (decide (e ∈ ks))) := fun H1 s Q q =>
  he H1 s _ fun v H2 s2 hv => ho H2 (s.trans s2) _ fun x H3 s3 hx => by
    obtain ⟨b, rfl, hb⟩ := tup_kd (Rep.mono (tx_of s3) hv)
    have hd3 : Rd H3 dd (.dT (mkv ks vs)) := by
      rcases hd with h | ⟨o, h⟩
      · exact .inl (((s.trans s2).trans s3) _ _ h)
      · exact .inr ⟨o, ((s.trans s2).trans s3) _ _ h⟩
    exact ⟨dd, _, hx, .inr ⟨_, kd e, b, hd3, rfl, hb, rfl⟩, q _ H3 (s2.trans s3) (by rw [valV_mkv e hl]; rfl)⟩
theorem ev_dget {i : Nat} {v : V} (hd : Rd H dd (.dT (mkv ks vs))) (hn : ks.Nodup) (h1 : ks[i]? = some e) (h2 : vs[i]? = some v) (ho : Ev tb σ H (Is (.ref dd))) (he : Ev ta σ H (R e)) : Ev (tDGet tb ta) σ H (Is v) := fun H1 s Q q =>
  ho H1 s _ fun x H2 s2 hx => he H2 (s.trans s2) _ fun y H3 s3 hy => by
    obtain ⟨b, rfl, hb⟩ := tup_kd hy
    have hd3 : Rd H3 dd (.dT (mkv ks vs)) := by
      rcases hd with h | ⟨o, h⟩
      · exact .inl (((s.trans s2).trans s3) _ _ h)
      · exact .inr ⟨o, ((s.trans s2).trans s3) _ _ h⟩
    exact ⟨dd, v, hx, .inr ⟨_, kd e, b, hd3, rfl, hb, (valV_at hn h1 h2).symm⟩, q v H3 (s2.trans s3) rfl⟩
theorem s_dput {tv : TE} {φ : Srt} {D : Ends} [Mo φ] (hd : H dd = some (.dT (mkv ks vs))) (hl : ks.length = vs.length) (hz : ks.length < sizeLine) (hv : Ev tv σ H φ) (ho : Ev ta σ H (Is (.ref dd))) (he : Ev tb σ H (R e)) (hn : e ∉ ks)
    (k : ∀ v H1, Same H H1 → φ v H1 → D.nx σ (upd H1 dd (.dT (mkv (ks ++ [e]) (vs ++ [v]))))) : sDPut ta tb tv D σ H := hv.go fun v H1 e1 h1 => (ho.up e1).go fun x H2 e2 hx => (he.up (e1.trans e2)).go fun y H3 e3 hy => by
  obtain ⟨b, rfl, hb⟩ := tup_kd hy
  have s3 := (e1.trans e2).trans e3
  refine ⟨dd, _, hx, DPut.t (s3 _ _ hd) hb (by rw [mkv_len hl]; exact hz), ?_⟩
  rw [put_mkv v hl hn]
  exact k v H3 s3 (Mo.mo (e2.trans e3) h1)
theorem q_dput {tv : TE} {φ : Srt} {D : Ends} {tz : TS} [Mo φ] (hd : H dd = some (.dT (mkv ks vs))) (hl : ks.length = vs.length) (hz : ks.length < sizeLine) (hv : Ev tv σ H φ) (ho : Ev ta σ H (Is (.ref dd))) (he : Ev tb σ H (R e)) (hn : e ∉ ks)
    (k : ∀ v H1, Same H H1 → φ v H1 → tz D σ (upd H1 dd (.dT (mkv (ks ++ [e]) (vs ++ [v]))))) : tSeq (sDPut ta tb tv) tz D σ H := s_dput (D := { D with nx := tz D }) hd hl hz hv ho he hn k
end
end RW
set_option Elab.async false
set_option linter.all false
set_option maxRecDepth 100000
set_option maxHeartbeats 4000000
namespace RW
open PySem PySem.Spec PyProof.Rows L2
local macro_rules | `(tactic| walk_at "sm") => `(tactic| first
  | exact Same.refl _
  | assumption
  | exact same_new (by assumption)
  | (refine Same.trans ?_ (by assumption); walk_at "sm")
  | (refine Same.trans ?_ (same_new (by assumption)); walk_at "sm"))
local macro_rules | `(tactic| walk_at "rp") => `(tactic| first
  | assumption
  | exact rfl
  | (refine Rep.mono (tx_of ?_) (by assumption); walk_at "sm")
  | (refine Mo.mo ?_ (by assumption); walk_at "sm"))
local macro_rules | `(tactic| walk_at "ev") => `(tactic| first
  | exact ev_ci
  | exact ev_cs
  | exact ev_cb
  | exact ev_cn
  | (refine @ev_rv _ _ _ _ _ _ _ rfl ?_; walk_at "rp")
  | (refine @ev_var _ _ _ _ _ ?_ rfl ?_; (first | infer_instance | skip); walk_at "rp")
  | (refine ev_ii ?_ ?_ <;> walk_at "ev")
  | (refine ev_ib ?_ ?_ <;> walk_at "ev")
  | (refine ev_eqI ?_ ?_ <;> walk_at "ev")
  | (refine ev_neI ?_ ?_ <;> walk_at "ev")
  | (refine ev_lenT ?_ <;> walk_at "ev")
  | (refine ev_lenL ?_ <;> walk_at "ev")
  | (refine ev_int1 ?_ <;> walk_at "ev")
  | (refine et_test ?_ <;> walk_at "ev")
  | (refine et_B ?_ <;> walk_at "ev")
  | (refine et_not ?_ <;> walk_at "ev")
  | (refine et_or ?_ (fun _ => ?_) <;> walk_at "ev")
  | (refine et_and ?_ (fun _ => ?_) <;> walk_at "ev"))
section
variable {P : Program} {w : World} {K : PySem.W.Frag} {mg : Str → Option Value} {base : Heap}
structure RS where
  order : List (List Int)
  succ : List (List (List Int))
def addN (r : RS) (e : List Int) : RS := if e ∈ r.order then r else ⟨r.order ++ [e], r.succ ++ [[]]⟩
def linkN (r : RS) (k : Nat) (e : List Int) : RS := ⟨r.order, r.succ.set k (r.succ.getD k [] ++ [e])⟩
def wayS (F : Form) (k : Nat) (r : RS) (x : Way) : RS := match doI F (r.order.getD k []) x.a x.b x.c with
  | none => r
  | some e => linkN (addN r e) k e
def turnR (F : Form) (r : RS) (k : Nat) : RS := if k < r.order.length then (waysI F).foldl (wayS F k) r else r
def startR (st : List (List Int)) : RS := ⟨st, st.map fun _ => []⟩
def reachI (F : Form) (st : List (List Int)) : RS := (List.range 4000).foldl (turnR F) (startR st)
/-- the dict and the order, as they stand -/
structure RAt (dd lo : Addr) (as : List Addr) (r : RS) (H0 H : Hp) : Prop where
  d : H dd = some (.dT (mkv r.order (as.map V.ref)))
  o : At lo r.order H
  l1 : as.length = r.order.length
  l2 : r.succ.length = r.order.length
  s : ∀ i a, as[i]? = some a → At a (r.succ.getD i []) H
  na : as.Nodup
  nl : lo ∉ as
  fr : ∀ a ∈ as, H0 a = none
  no : r.order.Nodup
  fd : H0 dd = none
  fl : H0 lo = none
theorem RAt.same {dd lo : Addr} {as : List Addr} {r : RS} {H0 H H' : Hp} (h : RAt dd lo as r H0 H) (e : Same H H') : RAt dd lo as r H0 H' :=
  ⟨e _ _ h.d, h.o.same e, h.l1, h.l2, fun i a ha => (h.s i a ha).same e, h.na, h.nl, h.fr, h.no, h.fd, h.fl⟩
theorem At.dT {α : Type} [Rep α] {l dd : Addr} {xs : List α} {H : Hp} {kvs kvs' : List (List Key × V)} (h : At l xs H) (hd : H dd = some (.dT kvs)) : At l xs (upd H dd (.dT kvs')) := by
  obtain ⟨vs, a, r⟩ := h
  exact ⟨vs, by rw [upd_ne (ne_of a hd (by intro z; cases z))]; exact a, Rps.mono (tx_dT hd) r⟩
theorem dT_off {ls : List Addr} {H H' : Hp} {dd : Addr} {kvs : List (List Key × V)} (h : H dd = some (.dT kvs)) (l : Ll ls H) (o : OffL ls H H') : H' dd = some (.dT kvs) := o _ _ (l.not h (by intro _ z; cases z)) h
/-- one more disk: the dict put, the order to be appended -/
theorem RAt.put {dd lo a : Addr} {as : List Addr} {r : RS} {H0 H H1 : Hp} {e : List Int} (h : RAt dd lo as r H0 H) (s0 : Same H0 H) (hs : Same H H1) (ha : H a = none) (hl : At a ([] : List (List Int)) H1) (hn : e ∉ r.order) {H2 : Hp}
    (o2 : OffL [lo] (upd H1 dd (.dT (mkv (r.order ++ [e]) (as.map V.ref ++ [.ref a])))) H2) (a2 : At lo (r.order ++ [e]) H2) : RAt dd lo (as ++ [a]) ⟨r.order ++ [e], r.succ ++ [[]]⟩ H0 H2 := by
  have h1 := h.same hs
  have hd : upd H1 dd (.dT (mkv (r.order ++ [e]) (as.map V.ref ++ [.ref a]))) dd = some (.dT (mkv (r.order ++ [e]) (as.map V.ref ++ [.ref a]))) := upd_same
  have lo1 : At lo r.order (upd H1 dd (.dT (mkv (r.order ++ [e]) (as.map V.ref ++ [.ref a])))) := h1.o.dT h1.d
  have nal : a ≠ lo := fun z => by obtain ⟨vs, hv, _⟩ := h.o; rw [z, hv] at ha; cases ha
  have naa : a ∉ as := fun hm => by
    obtain ⟨i, hi⟩ := List.mem_iff_getElem?.mp hm
    obtain ⟨vs, hv, _⟩ := h.s i a hi
    rw [hv] at ha
    cases ha
  refine ⟨by rw [List.map_append]; exact dT_off hd lo1.ll o2, a2, by rw [List.length_append, List.length_append, h.l1]; rfl, by rw [List.length_append, List.length_append, h.l2]; rfl, fun i b hb => ?_, ?_, ?_, ?_, ?_, h.fd, h.fl⟩
  · by_cases hi : i < as.length
    · have hb' : as[i]? = some b := by rw [List.getElem?_append_left hi] at hb; exact hb
      have nbl : b ≠ lo := fun z => h.nl (z ▸ List.mem_of_getElem? hb')
      have e1 : (r.succ ++ [[]]).getD i [] = r.succ.getD i [] := by
        rw [List.getD_eq_getElem?_getD, List.getElem?_append_left (by rw [h.l2, ← h.l1]; exact hi), ← List.getD_eq_getElem?_getD]
      rw [e1]
      exact ((h1.s i b hb').dT h1.d).off lo1.ll o2 (by simpa using nbl)
    · have hi2 : i = as.length := by
        have := (List.getElem?_eq_some_iff.mp hb).1
        rw [List.length_append, List.length_singleton] at this
        omega
      subst hi2
      have hb' : b = a := by
        rw [List.getElem?_append_right (Nat.le_refl _), Nat.sub_self] at hb
        simpa using hb.symm
      subst hb'
      have e1 : (r.succ ++ [[]]).getD as.length [] = [] := by
        rw [List.getD_eq_getElem?_getD, List.getElem?_append_right (by rw [h.l2, h.l1]; exact Nat.le_refl _), show as.length - r.succ.length = 0 by rw [h.l2, h.l1]; omega]
        rfl
      rw [e1]
      exact (hl.dT h1.d).off lo1.ll o2 (by simpa using nal)
  · rw [List.nodup_append]
    exact ⟨h.na, by simp, fun x hx y hy => by rw [show y = a from by simpa using hy]; exact fun z => naa (z ▸ hx)⟩
  · intro hm
    rcases List.mem_append.mp hm with hm | hm
    · exact h.nl hm
    · exact nal (List.mem_singleton.mp hm).symm
  · intro x hx
    rcases List.mem_append.mp hx with hx | hx
    · exact h.fr x hx
    · rw [show x = a from by simpa using hx]
      exact s0.free ha
  · rw [List.nodup_append]
    exact ⟨h.no, by simp, fun x hx y hy => by rw [show y = e from by simpa using hy]; exact fun z => hn (z ▸ hx)⟩
theorem RAt.link {dd lo a : Addr} {as : List Addr} {r : RS} {H0 H H2 : Hp} {e : List Int} {k : Nat} (h : RAt dd lo as r H0 H) (hk : as[k]? = some a) (o2 : OffL [a] H H2) (a2 : At a (r.succ.getD k [] ++ [e]) H2) : RAt dd lo as (linkN r k e) H0 H2 := by
  have la := (h.s k a hk).ll
  refine ⟨dT_off h.d la o2, h.o.off la o2 (by
    have : lo ≠ a := fun z => h.nl (by rw [z]; exact List.mem_of_getElem? hk)
    simpa using this), h.l1, by show (r.succ.set _ _).length = _; rw [List.length_set]; exact h.l2, fun i b hb => ?_, h.na, h.nl, h.fr, h.no, h.fd, h.fl⟩
  have hkl : k < r.succ.length := by have := (List.getElem?_eq_some_iff.mp hk).1; rw [h.l2, ← h.l1]; exact this
  by_cases hik : i = k
  · subst hik
    obtain rfl : b = a := Option.some.inj (hb.symm.trans hk)
    have : (linkN r i e).succ.getD i [] = r.succ.getD i [] ++ [e] := by
      unfold linkN
      rw [List.getD_eq_getElem?_getD, List.getElem?_set_self hkl]
      rfl
    rw [this]
    exact a2
  · have : (linkN r k e).succ.getD i [] = r.succ.getD i [] := by
      unfold linkN
      rw [List.getD_eq_getElem?_getD, List.getElem?_set_ne (fun z => hik z.symm), ← List.getD_eq_getElem?_getD]
    rw [this]
    refine (h.s i b hb).off la o2 ?_
    have : b ≠ a := fun z => by
      have h1 := List.getElem?_eq_some_iff.mp hb
      have h2 := List.getElem?_eq_some_iff.mp hk
      obtain ⟨p1, q1⟩ := h1
      obtain ⟨p2, q2⟩ := h2
      exact hik ((List.getElem_inj h.na).mp (by rw [q1, q2, z]))
    simpa using this
end
end RW
set_option Elab.async false
set_option linter.all false
set_option maxRecDepth 100000
set_option maxHeartbeats 4000000
namespace RW
open PySem PySem.Spec PyProof.Rows L2
local macro_rules | `(tactic| walk_at "sm") => `(tactic| first
  | exact Same.refl _
  | assumption
  | exact same_new (by assumption)
  | (refine Same.trans ?_ (by assumption); walk_at "sm")
  | (refine Same.trans ?_ (same_new (by assumption)); walk_at "sm"))
local macro_rules | `(tactic| walk_at "rp") => `(tactic| first
  | assumption
  | exact rfl
  | (refine Rep.mono (tx_of ?_) (by assumption); walk_at "sm")
  | (refine Mo.mo ?_ (by assumption); walk_at "sm"))
local macro_rules | `(tactic| walk_at "ev") => `(tactic| first
  | exact ev_ci
  | exact ev_cs
  | exact ev_cb
  | exact ev_cn
  | (refine @ev_rv _ _ _ _ _ _ _ rfl ?_; walk_at "rp")
  | (refine @ev_var _ _ _ _ _ ?_ rfl ?_; (first | infer_instance | skip); walk_at "rp")
  | (refine ev_ii ?_ ?_ <;> walk_at "ev")
  | (refine ev_ib ?_ ?_ <;> walk_at "ev")
  | (refine ev_eqI ?_ ?_ <;> walk_at "ev")
  | (refine ev_neI ?_ ?_ <;> walk_at "ev")
  | (refine ev_lenT ?_ <;> walk_at "ev")
  | (refine ev_lenL ?_ <;> walk_at "ev")
  | (refine ev_int1 ?_ <;> walk_at "ev")
  | (refine et_test ?_ <;> walk_at "ev")
  | (refine et_B ?_ <;> walk_at "ev")
  | (refine et_not ?_ <;> walk_at "ev")
  | (refine et_or ?_ (fun _ => ?_) <;> walk_at "ev")
  | (refine et_and ?_ (fun _ => ?_) <;> walk_at "ev"))
section
variable {P : Program} {w : World} {K : PySem.W.Frag} {mg : Str → Option Value} {base : Heap}
/-- a list that stays as it is while others change -/
def KeepA (a : Addr) (H2 H3 : Hp) : Prop := H3 a = H2 a ∧ Tx H2 H3
theorem evg_keep {α : Type} [Rep α] {σ : L2.St} {H : Hp} {tl : TE} {a : Addr} {xs : List α} (h : Ev tl σ H (Is (.ref a))) (ha : At a xs H) : EvG (KeepA a) (iList K tl) σ H xs.length (RI xs) := fun H1 e Rr q =>
  h H1 e _ fun v H2 e2 hv => by
    obtain ⟨vs, hvs, r⟩ := ha.same (e.trans e2)
    refine ⟨a, hv, ⟨vs, .inl (.inl hvs)⟩, q _ H2 e2 ?_⟩
    rw [r.length]
    exact walk_list.mono (fun H3 e3 => .inl (.inl (by rw [e3.1]; exact hvs))) fun i H3 x H' hi e3 y => by
      obtain ⟨rfl, y⟩ := y
      obtain ⟨z, hz, hr⟩ := r.getV y
      exact ⟨Same.refl _, z, hz, Rep.mono e3.2 hr⟩
theorem ev_dnew {σ : L2.St} {H : Hp} : Ev tDNewT σ H (fun v H' => ∃ dd, v = .ref dd ∧ H dd = none ∧ H' dd = some (.dT [])) := fun H1 e Q q p hp => q _ _ (same_new hp) ⟨p, rfl, e.free hp, upd_same⟩
def Bd (r : RS) (B : Nat) : Prop := r.order.length ≤ B ∧ ∀ s ∈ r.succ, s.length ≤ B
structure MInv (F : Form) (G : List Int → Prop) (dd lo lw : Addr) (as : List Addr) (r : RS) (B : Nat) (H H' : Hp) : Prop where
  sm : Same H H'
  at_ : RAt dd lo as r H H'
  w : At lw (waysI F) H'
  n1 : lw ≠ lo
  n2 : lw ∉ as
  g : ∀ x ∈ r.order, G x
  b : Bd r B
theorem MInv.same {F : Form} {G : List Int → Prop} {dd lo lw : Addr} {as : List Addr} {r : RS} {B : Nat} {H H1 H2 : Hp} (h : MInv F G dd lo lw as r B H H1) (e : Same H1 H2) : MInv F G dd lo lw as r B H H2 := ⟨h.sm.trans e, h.at_.same e, h.w.same e, h.n1, h.n2, h.g, h.b⟩
theorem getD_mem {α : Type} {xs : List α} {i : Nat} {d : α} (h : i < xs.length) : xs.getD i d ∈ xs := by
  rw [List.getD_eq_getElem?_getD, List.getElem?_eq_getElem h]
  exact List.getElem_mem h
theorem getD_at {α : Type} {xs : List α} {i : Nat} {d : α} (h : i < xs.length) : xs[i]? = some (xs.getD i d) := by
  rw [List.getD_eq_getElem?_getD, List.getElem?_eq_getElem h]
  rfl
theorem addN_get {r : RS} {e : List Int} {k : Nat} (h : k < r.order.length) : (addN r e).order.getD k [] = r.order.getD k [] ∧ k < (addN r e).order.length := by
  unfold addN
  split
  · exact ⟨rfl, h⟩
  · refine ⟨?_, by show k < (r.order ++ [e]).length; rw [List.length_append]; omega⟩
    show (r.order ++ [e]).getD k [] = _
    rw [List.getD_eq_getElem?_getD, List.getElem?_append_left h, ← List.getD_eq_getElem?_getD]
theorem addN_bd {r : RS} {e : List Int} {B : Nat} (h : Bd r B) : Bd (addN r e) (B + 1) := by
  unfold addN
  split
  · exact ⟨Nat.le_succ_of_le h.1, fun s hs => Nat.le_succ_of_le (h.2 s hs)⟩
  · refine ⟨by show (r.order ++ [e]).length ≤ _; rw [List.length_append, List.length_singleton]; have := h.1; omega, fun s hs => ?_⟩
    rcases List.mem_append.mp hs with hs | hs
    · exact Nat.le_succ_of_le (h.2 s hs)
    · rw [show s = [] from by simpa using hs]
      exact Nat.zero_le _
theorem linkN_bd {r : RS} {e : List Int} {k B : Nat} (h : Bd r B) : Bd (linkN r k e) (B + 1) := by
  refine ⟨Nat.le_succ_of_le h.1, fun s hs => ?_⟩
  rcases List.mem_or_eq_of_mem_set hs with hs | hs
  · exact Nat.le_succ_of_le (h.2 s hs)
  · rw [hs, List.length_append, List.length_singleton]
    by_cases hk : k < r.succ.length
    · have := h.2 _ (getD_mem (d := []) hk)
      omega
    · rw [List.getD_eq_getElem?_getD, List.getElem?_eq_none (by omega)]
      exact Nat.succ_le_succ (Nat.zero_le _)
theorem MInv.put {F : Form} {G : List Int → Prop} {dd lo lw a : Addr} {as : List Addr} {r : RS} {B : Nat} {H H5 H6 H7 : Hp} {e : List Int} (m : MInv F G dd lo lw as r B H H5) (e6 : Same H5 H6) (na : H5 a = none) (aa : At a ([] : List (List Int)) H6) (hn : e ∉ r.order) (ge : G e)
    (o7 : OffL [lo] (upd H6 dd (.dT (mkv (r.order ++ [e]) (as.map V.ref ++ [.ref a])))) H7) (a7 : At lo (r.order ++ [e]) H7) : MInv F G dd lo lw (as ++ [a]) ⟨r.order ++ [e], r.succ ++ [[]]⟩ (B + 1) H H7 ∧ (∀ l vs, l ≠ lo → H5 l = some (.lst vs) → H7 l = some (.lst vs)) ∧ Tx H5 H7 := by
  have m6 := m.same e6
  have lo6 := m6.at_.o.dT (kvs' := mkv (r.order ++ [e]) (as.map V.ref ++ [.ref a])) m6.at_.d
  have tx6 := tx_dT (o := .dT (mkv (r.order ++ [e]) (as.map V.ref ++ [.ref a]))) m6.at_.d
  have t7 : Tx H5 H7 := ((tx_of e6).trans tx6).trans (tx_off lo6.ll o7)
  have keep : ∀ l vs, l ≠ lo → H5 l = some (.lst vs) → H7 l = some (.lst vs) := fun l vs hl hv => by
    have h6 := e6 _ _ hv
    refine o7 _ _ (by simpa using hl) ?_
    rw [upd_ne (ne_of h6 m6.at_.d (by intro z; cases z))]
    exact h6
  obtain ⟨wv, hw, rw_⟩ := m.w
  refine ⟨⟨?_, m.at_.put m.sm e6 na aa hn o7 a7, ⟨wv, keep _ _ m.n1 hw, Rps.mono t7 rw_⟩, m.n1, ?_, ?_, ?_⟩, keep, t7⟩
  · exact same_off (same_mut m6.sm m.at_.fd) o7 (fun c hc => by rw [show c = lo from by simpa using hc]; exact m.at_.fl)
  · intro hm
    rcases List.mem_append.mp hm with hm | hm
    · exact m.n2 hm
    · rw [← List.mem_singleton.mp hm, hw] at na
      cases na
  · intro x hx
    rcases List.mem_append.mp hx with hx | hx
    · exact m.g x hx
    · rw [List.mem_singleton.mp hx]; exact ge
  · have := addN_bd (e := e) m.b
    unfold addN at this
    rw [if_neg hn] at this
    exact this
theorem MInv.link {F : Form} {G : List Int → Prop} {dd lo lw a : Addr} {as : List Addr} {r : RS} {B k : Nat} {H H5 H7 : Hp} {e : List Int} (m : MInv F G dd lo lw as r B H H5) (hk : as[k]? = some a) (o7 : OffL [a] H5 H7) (a7 : At a (r.succ.getD k [] ++ [e]) H7) : MInv F G dd lo lw as (linkN r k e) (B + 1) H H7 := by
  have ha := m.at_.s k a hk
  have hm := List.mem_of_getElem? hk
  exact ⟨same_off m.sm o7 (fun c hc => by rw [show c = a from by simpa using hc]; exact m.at_.fr a hm), m.at_.link hk o7 a7, m.w.off ha.ll o7 (by
    have : lw ≠ a := fun z => m.n2 (by rw [z]; exact hm)
    simpa using this), m.n1, m.n2, m.g, linkN_bd m.b⟩
theorem s_link {F : Form} {G : List Int → Prop} {dd lo lw : Addr} {as : List Addr} {r : RS} {B k : Nat} {H H9 : Hp} {e : List Int} {D : Ends} {σ : L2.St} {ta tb te : TE} (m : MInv F G dd lo lw as r B H H9) (hk : k < r.order.length) (hB : B < sizeLine) (ho : Ev ta σ H9 (Is (.ref dd))) (hb : Ev tb σ H9 (R (r.order.getD k []))) (he : Ev te σ H9 (R e)) (kk : ∀ H2, MInv F G dd lo lw as (linkN r k e) (B + 1) H H2 → KeepA lw H9 H2 → D.nx σ H2) : tDrop (tBM K "list" rAppend (tDGet ta tb) (tCons te tNil)) D σ H9 := by
  have hka : as[k]? = some (as.getD k lw) := getD_at (by rw [m.at_.l1]; exact hk)
  have hks : k < r.succ.length := by rw [m.at_.l2]; exact hk
  have ha := m.at_.s k _ hka
  have hl : (r.succ.getD k []).length ≤ B := m.b.2 _ (getD_mem hks)
  have hm := List.mem_of_getElem? hka
  refine s_appA (x := e) ha (by omega) (ev_dget (.inl m.at_.d) m.at_.no (getD_at hk) (by rw [List.getElem?_map, hka]; rfl) ho hb) he fun H2 o2 a2 => kk H2 (m.link hka o2 a2) ⟨?_, tx_off ha.ll o2⟩
  obtain ⟨wv, hw, _⟩ := m.w
  rw [hw]
  refine o2 _ _ ?_ hw
  have : lw ≠ as.getD k lw := fun z => m.n2 (by rw [z]; exact hm)
  simpa using this
structure RG where
  F : Form
  st : List (List Int)
def ReachV (g : RG) (H : Hp) : Srt := fun v H' => ∃ dd lo as, v = .ref dd ∧ RAt dd lo as (reachI g.F g.st) H H'
abbrev N_law_reached : List Str := ["_law_form", "_law_starts_here", "_law_links_here", "_law_order", "_law_ways_here", "_law_disk", "_law_k", "_law_kind", "_law_file", "_law_contents_here", "_law_following"]
theorem sc_law_reached : FnScope N_law_reached ["_law_form", "_law_starts_here"] (defScope s_law_reached) := ⟨rfl, rfl, rfl, by decide +kernel, rfl, by decide +kernel, by decide +kernel⟩
abbrev sp_law_reached : Sp := Pn (fun g : RG => [R (lf g.F), Ls g.st]) (fun g => okF g.F ∧ g.st.Nodup ∧ g.st.length ≤ 8 ∧ ∃ G, Kept g.F G ∧ ∀ d ∈ g.st, G d) ReachV
theorem ok_law_reached {f : Addr} {fd : FuncData} (T : Txt K mg) (c_law_ways : C8.Cal P w K mg base 2 "_law_ways" sp_law_ways []) (c_law_do : C8.Cal P w K mg base 2 "_law_do" sp_law_do []) (F : FunD K "_law_reached" "_law_reached" (defArgs s_law_reached) (defBody s_law_reached) (defScope s_law_reached) [] [] f fd) (hm : mg "_law_reached" = some (.ref f)) : C8.Cal P w K mg base 3 "_law_reached" sp_law_reached [] := by
  refine cal_of F hm sc_law_reached (fun _ _ _ _ _ _ us hl => match us, hl with | [_, _], _ => rfl) (fun vs H Q E ⟨g, h, _⟩ => fas_len h) (fun cdv A outer s H vs Q E hr h => ?_)
  have hu : (A.deeper (envOfC "_law_reached" (defScope s_law_reached) s.heap.objs.size f cdv)).units + 1 < cLine := by have := hr.un; omega
  obtain ⟨⟨F0, st⟩, h, hp, q⟩ := h
  obtain ⟨a1, a2, rfl, h1, h2⟩ := fas2 h
  refine ⟨_, (pss_cons (ps_set (i := 2) sc_law_reached.nd rfl (by first | exact .inl rfl | exact .inr rfl) pe_dnewT)
      (pss_cons (ps_set (i := 3) sc_law_reached.nd rfl (by first | exact .inl rfl | exact .inr rfl) (pe_lst pa_nil))
      (pss_cons (ps_set (i := 4) sc_law_reached.nd rfl (by first | exact .inl rfl | exact .inr rfl) (C8.pe_c c_law_ways hr (by decide) (by rfl) (pa_cons (pv 0) pa_nil)))
      (pss_cons (ps_for PassesOwn.never rfl (k_list (K := K) rfl (pv 1)) (pg_name (i := 5) sc_law_reached.nd rfl (by first | exact .inl rfl | exact .inr rfl))
        (pss_cons (ps_dput hu (pv 2) (pv 5) (pe_lst pa_nil) rfl)
        (pss_one (ps_expr (pe_bm PySem.F.plainAttrs_list PySem.F.slot_list_append PySem.F.type_list_append mt_append (pv 3) (pa_cons (pv 5) pa_nil))))))
      (pss_cons (ps_for PassesOwn.never rfl (pi_range1 (by rfl) T.range (pa_cons pe_int pa_nil)) (pg_name (i := 6) sc_law_reached.nd rfl (by first | exact .inl rfl | exact .inr rfl))
        (pss_one (ps_if (pt_cmpR op_lt (pv 6) (pe_callB (k_len (K := K) rfl) (by rfl) T.len PySem.boot_len (pa_cons (pv 3) pa_nil)) (nomark _)) (pss_one (ps_for PassesOwn.never rfl (k_list (K := K) rfl (pv 4)) (k_gtup (K := K) (n := 3) rfl rfl (pgs_cons (pg_name (i := 7) sc_law_reached.nd rfl (by first | exact .inl rfl | exact .inr rfl)) (pgs_cons (pg_name (i := 8) sc_law_reached.nd rfl (by first | exact .inl rfl | exact .inr rfl)) (pgs_cons (pg_name (i := 9) sc_law_reached.nd rfl (by first | exact .inl rfl | exact .inr rfl)) pgs_nil))))
            (pss_cons (ps_set (i := 10) sc_law_reached.nd rfl (by first | exact .inl rfl | exact .inr rfl) (C8.pe_c c_law_do hr (by decide) (by rfl) (pa_cons (pv 0) (pa_cons (pe_ix (k_ixL (K := K) rfl) (pv 3) (pv 6) (fun _ _ => rfl)) (pa_cons (pv 7) (pa_cons (pv 8) (pa_cons (pv 9) pa_nil)))))))
            (pss_one (ps_if (pt_cmpR op_notN (pv 10) pe_non (nomark _)) (pss_cons (ps_if (pt_cmp (pc_dnotin hu (pv 10) (pv 2))) (pss_cons (ps_dput hu (pv 2) (pv 10) (pe_lst pa_nil) rfl)
                (pss_one (ps_expr (pe_bm PySem.F.plainAttrs_list PySem.F.slot_list_append PySem.F.type_list_append mt_append (pv 3) (pa_cons (pv 10) pa_nil))))) pss_nil)
              (pss_one (ps_expr (pe_bm PySem.F.plainAttrs_list PySem.F.slot_list_append PySem.F.type_list_append mt_append (pe_dget hu (pv 2) (pe_ix (k_ixL (K := K) rfl) (pv 3) (pv 6) (fun _ _ => rfl)) (fun _ _ => rfl)) (pa_cons (pv 10) pa_nil))))) pss_nil))))) pss_nil)))
      (pss_one (ps_ret (pv 2)))))))), ?_⟩
  obtain ⟨pF, pn, pl, G, hG, hg⟩ := hp
  have pF : okF F0 := pF
  have pn : st.Nodup := pn
  have pl : st.length ≤ 8 := pl
  have hG : Kept F0 G := hG
  have hg : ∀ d ∈ st, G d := hg
  have h1 : Rep.rp H (lf F0) a1 := h1
  have h2 : Ls st a2 H := h2
  obtain ⟨ls, vs, rfl, hls, rls⟩ := h2
  have hwl := ways_len pF
  refine q_asg ev_dnew fun v1 H1 e1 hv1 => ?_
  obtain ⟨dd, rfl, nd, hd1⟩ := hv1
  refine q_asg (ev_nl0 (α := List Int)) fun v2 H2 e2 hv2 => ?_
  obtain ⟨lo, rfl, no, ao⟩ := at_of hv2
  refine q_asg (ev_pn F0 (ea_cons (ev_rv (x := lf F0) rfl (Rep.mono (tx_of (e1.trans e2)) h1)) ea_nil) pF) fun v3 H3 e3 hv3 => ?_
  obtain ⟨lw, rfl, nw, aw⟩ := at_of hv3
  have s3 := (e1.trans e2).trans e3
  have nwo : lw ≠ lo := fun z => by obtain ⟨x, hx, _⟩ := ao; rw [← z, nw] at hx; cases hx
  have nlo : ls ≠ lo := fun z => by have := e1 _ _ hls; rw [z, no] at this; cases this
  have r0 : RAt dd lo [] ⟨[], []⟩ H H3 := ⟨(e2.trans e3) _ _ hd1, ao.same e3, rfl, rfl, by simp, by simp, by simp, by simp, by simp, nd, e1.free no⟩
  have m0 : MInv F0 G dd lo lw [] ⟨[], []⟩ 0 H H3 := ⟨s3, r0, aw, nwo, by simp, by simp, Nat.le_refl _, by simp⟩
  refine q_forG (evg_keep (a := ls) (ev_is rfl) ⟨vs, s3 _ _ hls, Rps.mono (tx_of s3) rls⟩) (fun Hb i σ' H' => KeepA ls Hb H' ∧ (∃ as, MInv F0 G dd lo lw as (startR (st.take i)) i H H') ∧ ∃ y, σ' = [some a1, some (.ref ls), some (.ref dd), some (.ref lo), some (.ref lw), y, none, none, none, none, none]) (fun H4 e4 => ⟨⟨rfl, Tx.refl _⟩, ⟨[], m0.same e4⟩, none, rfl⟩) (fun Hb i σ' H' p => p.1) ?_ ?_
  · rintro Hb i x σ' H4 H5 eb hi ⟨k4, ⟨as, m4⟩, y, rfl⟩ s5 ⟨d, hz, hx⟩
    have m5 := m4.same s5
    have hdn : d ∉ st.take i := fun hm => by
      obtain ⟨j, hj, ej⟩ := List.mem_iff_getElem.mp hm
      rw [List.length_take] at hj
      rw [List.getElem_take] at ej
      obtain ⟨hil, ei⟩ := List.getElem?_eq_some_iff.mp hz
      exact absurd ((List.getElem_inj pn).mp (ej.trans ei.symm)) (by omega)
    have hil : i < st.length := hi
    have tk : (startR (st.take (i + 1))) = ⟨(startR (st.take i)).order ++ [d], (startR (st.take i)).succ ++ [[]]⟩ := by
      unfold startR
      rw [take_snoc hz, List.map_append]
      rfl
    have hlen : (startR (st.take i)).order.length ≤ i := by show (st.take i).length ≤ i; rw [List.length_take]; omega
    have hdn' : d ∉ (startR (st.take i)).order := hdn
    have hgd := hg d (List.mem_of_getElem? hz)
    rw [tk]
    generalize startR (st.take i) = r at m5 hlen hdn'
    have hll : r.order.length = (as.map V.ref).length := by rw [List.length_map]; exact m5.at_.l1.symm
    refine q_dput m5.at_.d hll (by rw [sizeLine_eq]; omega) (ev_nl0 (α := List Int)) (ev_is rfl) (ev_rv rfl hx) hdn' fun v6 H6 e6 hv6 => ?_
    obtain ⟨a, rfl, na, aa⟩ := at_of hv6
    have lo6 := ((m5.same e6).at_.o).dT (kvs' := mkv (r.order ++ [d]) (as.map V.ref ++ [.ref a])) (m5.same e6).at_.d
    have tx6 := tx_dT (o := .dT (mkv (r.order ++ [d]) (as.map V.ref ++ [.ref a]))) (m5.same e6).at_.d
    refine s_appA (x := d) lo6 (by rw [sizeLine_eq]; omega) (ev_is rfl) (ev_rv rfl (Rep.mono ((tx_of e6).trans tx6) hx)) fun H7 o7 a7 => ?_
    obtain ⟨m7, kp, t7⟩ := m5.put e6 na aa hdn' hgd o7 a7
    have hb := (s3.trans eb) _ _ hls
    have h5 : H5 ls = some (.lst vs) := s5 _ _ (by rw [k4.1]; exact hb)
    exact ⟨⟨by rw [kp _ _ nlo h5, hb], (k4.2.trans (tx_of s5)).trans t7⟩, ⟨_, m7⟩, some x, rfl⟩
  · rintro Hb σ' H4 eb ⟨k4, ⟨as, m4⟩, y, rfl⟩
    rw [List.take_length] at m4
    have m4 : MInv F0 G dd lo lw as (startR st) 8 H H4 := ⟨m4.sm, m4.at_, m4.w, m4.n1, m4.n2, m4.g, Nat.le_trans m4.b.1 pl, fun s hs => Nat.le_trans (m4.b.2 s hs) pl⟩
    refine q_forG (Gd := fun _ _ => True) (n := 4000) (S := RI (rg 4000)) (evg_range1 (n := 4000) (ea_cons ev_ci ea_nil) (by decide) (by decide)) (fun _ i σ' H' => (∃ as, MInv F0 G dd lo lw as ((List.range i).foldl (turnR F0) (startR st)) (8 + i * 132) H H') ∧ ∃ y y6 y7 y8 y9 y10, σ' = [some a1, some (.ref ls), some (.ref dd), some (.ref lo), some (.ref lw), y, y6, y7, y8, y9, y10]) (fun H5 e5 => ⟨⟨as, m4.same e5⟩, y, none, none, none, none, none, rfl⟩) (fun _ _ _ _ _ => trivial) ?_ ?_
    · rintro _ k x σ' H5 H6 _ hk ⟨⟨as, m5⟩, y, y6, y7, y8, y9, y10, rfl⟩ s6 ⟨z, hz, hx⟩
      rw [rg_get hk] at hz
      obtain rfl : x = .int (k : Int) := by rw [show x = .int z from hx, Option.some.inj hz]
      have m6 := m5.same s6
      rw [List.range_succ, List.foldl_append]
      generalize (List.range k).foldl (turnR F0) (startR st) = r at m6
      have ek : [k].foldl (turnR F0) r = turnR F0 r k := rfl
      rw [ek]
      refine s_when (b := decide ((k : Int) < (r.order.length : Int))) (et_test (ev_ib (ev_rv (x := (k : Int)) rfl rfl) (ev_lenL (ev_at m6.at_.o rfl)))) (fun eb H7 e7 => ?_) (fun eb H7 e7 => ?_)
      · have hkl : k < r.order.length := by have := of_decide_eq_true eb; omega
        have et : turnR F0 r k = (waysI F0).foldl (wayS F0 k) r := by unfold turnR; rw [if_pos hkl]
        rw [et]
        have m7 := m6.same e7
        have hk4 : k < 4000 := hk
        refine s_forG (evg_keep (a := lw) (ev_is rfl) m7.w) (fun Hb j σ' H' => KeepA lw Hb H' ∧ (∃ as r', r' = ((waysI F0).take j).foldl (wayS F0 k) r ∧ k < r'.order.length ∧ MInv F0 G dd lo lw as r' (8 + k * 132 + 2 * j) H H') ∧ ∃ x7 x8 x9 x10, σ' = [some a1, some (.ref ls), some (.ref dd), some (.ref lo), some (.ref lw), y, some (.int (k : Int)), x7, x8, x9, x10]) (fun H8 e8 => ⟨⟨rfl, Tx.refl _⟩, ⟨as, r, rfl, hkl, m7.same e8⟩, y7, y8, y9, y10, rfl⟩) (fun Hb i σ' H' p => p.1) ?_ ?_
        · rintro Hb j x σ' H8 H9 eb' hj ⟨k8, ⟨as8, r8, er, hk8, m8⟩, x7, x8, x9, x10, rfl⟩ s9 ⟨wy, hzw, hxw⟩
          have m9 := m8.same s9
          have hj : j < (waysI F0).length := hj
          rw [take_snoc hzw, List.foldl_append, ← er]
          have ej : [wy].foldl (wayS F0 k) r8 = wayS F0 k r8 wy := rfl
          rw [ej]
          have hwm := List.mem_of_getElem? hzw
          have hwo := ways_ok pF _ hwm
          have hka : r8.order[k]? = some (r8.order.getD k []) := getD_at hk8
          have hgk := m9.g _ (getD_mem (d := []) hk8)
          have hBm : r8.order.length ≤ 8 + k * 132 + 2 * j := m9.b.1
          refine g_t3n hxw fun y1 y2 y3 hy1 hy2 hy3 => ?_
          refine q_asg (ev_pp (DoG.mk F0 (r8.order.getD k []) wy.a wy.b wy.c) (ea_cons (ev_rv (x := lf F0) rfl (Rep.mono (tx_of m9.sm) h1)) (ea_cons (ev_ixL (ev_at m9.at_.o rfl) (ev_rv (x := (k : Int)) rfl rfl) (atI_at (Int.natCast_nonneg k) hka)) (ea_cons (ev_rv rfl hy1) (ea_cons (ev_rv rfl hy2) (ea_cons (ev_rv rfl hy3) ea_nil))))) ⟨pF, hG.ok _ hgk, hwo.2, hwo.1⟩) fun v10 H10 e10 hv10 => ?_
          have hv10 : Rep.rp H10 (doI F0 (r8.order.getD k []) wy.a wy.b wy.c) v10 := hv10
          obtain ⟨wv, hwv, _⟩ := m8.w
          have hwb : Hb lw = some (.lst wv) := by rw [← k8.1]; exact hwv
          refine s_when (b := (doI F0 (r8.order.getD k []) wy.a wy.b wy.c).isSome) (et_test (ev_notN (ev_rv rfl hv10))) (fun eo H11 e11 => ?_) (fun eo H11 e11 => ?_)
          · obtain ⟨e, he⟩ := Option.isSome_iff_exists.mp eo
            have es : wayS F0 k r8 wy = linkN (addN r8 e) k e := by unfold wayS; rw [he]
            have hge : G e := hG.step _ wy e hwm hgk he
            rw [es]
            rw [he] at hv10
            have hve : Rep.rp H11 e v10 := Rep.mono (tx_of e11) hv10.2
            have m11 := (m9.same e10).same e11
            have hll : r8.order.length = (as8.map V.ref).length := by rw [List.length_map]; exact m11.at_.l1.symm
            have s11 := (s9.trans e10).trans e11
            have hg2 := addN_get (e := e) hk8
            refine q_when (b := !decide (e ∈ r8.order)) (et_B (ev_dnotin (.inl m11.at_.d) hll (ev_rv rfl hve) (ev_is rfl))) (fun en H12 e12 => ?_) (fun en H12 e12 => ?_)
            · have hn : e ∉ r8.order := by simpa using en
              have ea : addN r8 e = ⟨r8.order ++ [e], r8.succ ++ [[]]⟩ := by unfold addN; rw [if_neg hn]
              have m12 := m11.same e12
              refine q_dput m12.at_.d hll (by rw [sizeLine_eq]; omega) (ev_nl0 (α := List Int)) (ev_is rfl) (ev_rv rfl (Rep.mono (tx_of e12) hve)) hn fun v13 H13 e13 hv13 => ?_
              obtain ⟨a, rfl, na, aa⟩ := at_of hv13
              have lo13 := ((m12.same e13).at_.o).dT (kvs' := mkv (r8.order ++ [e]) (as8.map V.ref ++ [.ref a])) (m12.same e13).at_.d
              have tx13 := tx_dT (o := .dT (mkv (r8.order ++ [e]) (as8.map V.ref ++ [.ref a]))) (m12.same e13).at_.d
              refine s_appA (x := e) lo13 (by rw [sizeLine_eq]; omega) (ev_is rfl) (ev_rv rfl (Rep.mono ((tx_of e12).trans ((tx_of e13).trans tx13)) hve)) fun H14 o14 a14 => ?_
              obtain ⟨m14, kp, t14⟩ := m12.put e13 na aa hn hge o14 a14
              rw [← ea] at m14
              have h14 : H14 lw = some (.lst wv) := kp _ _ m9.n1 ((s11.trans e12) _ _ hwv)
              refine s_link m14 hg2.2 (by rw [sizeLine_eq]; omega) (ev_is rfl) (by rw [hg2.1]; exact ev_ixL (ev_at m14.at_.o rfl) (ev_rv (x := (k : Int)) rfl rfl) (atI_at (Int.natCast_nonneg k) (by rw [← hg2.1]; exact getD_at hg2.2))) (ev_rv rfl (Rep.mono ((tx_of e12).trans t14) hve)) fun H15 m15 k15 => ?_
              exact ⟨⟨by rw [k15.1, h14, hwb], ((k8.2.trans (tx_of (s11.trans e12))).trans t14).trans k15.2⟩, ⟨_, _, rfl, hg2.2, m15⟩, some y1, some y2, some y3, some v10, rfl⟩
            · have hn : e ∈ r8.order := by simpa using en
              have ea : addN r8 e = r8 := by unfold addN; rw [if_pos hn]
              rw [ea]
              have m12 := m11.same e12
              refine s_link m12 hk8 (by rw [sizeLine_eq]; omega) (ev_is rfl) (ev_ixL (ev_at m12.at_.o rfl) (ev_rv (x := (k : Int)) rfl rfl) (atI_at (Int.natCast_nonneg k) hka)) (ev_rv rfl (Rep.mono (tx_of e12) hve)) fun H15 m15 k15 => ?_
              have m16 : MInv F0 G dd lo lw as8 (linkN r8 k e) (8 + k * 132 + 2 * (j + 1)) H H15 := ⟨m15.sm, m15.at_, m15.w, m15.n1, m15.n2, m15.g, by have := m15.b.1; omega, fun s hs => by have := m15.b.2 s hs; omega⟩
              exact ⟨⟨by rw [k15.1, (s11.trans e12) _ _ hwv, hwb], (k8.2.trans (tx_of (s11.trans e12))).trans k15.2⟩, ⟨_, _, rfl, hk8, m16⟩, some y1, some y2, some y3, some v10, rfl⟩
          · have es : wayS F0 k r8 wy = r8 := by unfold wayS; rw [show doI F0 (r8.order.getD k []) wy.a wy.b wy.c = none from by cases hh : doI F0 (r8.order.getD k []) wy.a wy.b wy.c with | none => rfl | some z => rw [hh] at eo; cases eo]
            rw [es]
            have m12 := (m9.same e10).same e11
            have s11 := (s9.trans e10).trans e11
            have m16 : MInv F0 G dd lo lw as8 r8 (8 + k * 132 + 2 * (j + 1)) H H11 := ⟨m12.sm, m12.at_, m12.w, m12.n1, m12.n2, m12.g, by have := m12.b.1; omega, fun s hs => by have := m12.b.2 s hs; omega⟩
            exact ⟨⟨by rw [s11 _ _ hwv, hwb], k8.2.trans (tx_of s11)⟩, ⟨_, _, rfl, hk8, m16⟩, some y1, some y2, some y3, some v10, rfl⟩
        · rintro Hb σ' H8 eb' ⟨k8, ⟨as8, r8, er, hk8, m8⟩, x7, x8, x9, x10, rfl⟩
          rw [List.take_length] at er
          subst er
          exact ⟨⟨as8, m8.sm, m8.at_, m8.w, m8.n1, m8.n2, m8.g, by have := m8.b.1; omega, fun s hs => by have := m8.b.2 s hs; omega⟩, y, some (.int (k : Int)), x7, x8, x9, x10, rfl⟩
      · have hkl : ¬ k < r.order.length := by have := of_decide_eq_false eb; omega
        have et : turnR F0 r k = r := by unfold turnR; rw [if_neg hkl]
        rw [et]
        have m7 := m6.same e7
        exact ⟨⟨as, m7.sm, m7.at_, m7.w, m7.n1, m7.n2, m7.g, by have := m7.b.1; omega, fun s hs => by have := m7.b.2 s hs; omega⟩, y, some (.int (k : Int)), y7, y8, y9, y10, rfl⟩
    · rintro _ σ' H5 _ ⟨⟨as, m5⟩, y, y6, y7, y8, y9, y10, rfl⟩
      exact s_ret (φ := ReachV ⟨F0, st⟩ H) (fun H6 e6 Q' q' => ⟨.ref dd, rfl, q' _ H6 (Same.refl _) ⟨dd, lo, as, rfl, m5.at_.same e6⟩⟩) fun v H6 e6 hv => q v H6 (m5.sm.trans e6) hv
end
end RW
set_option Elab.async false
set_option linter.all false
set_option maxRecDepth 100000
set_option maxHeartbeats 4000000
namespace RW
open PySem PySem.Spec PyProof.Rows L2
local macro_rules | `(tactic| walk_at "sm") => `(tactic| first
  | exact Same.refl _
  | assumption
  | exact same_new (by assumption)
  | (refine Same.trans ?_ (by assumption); walk_at "sm")
  | (refine Same.trans ?_ (same_new (by assumption)); walk_at "sm"))
local macro_rules | `(tactic| walk_at "rp") => `(tactic| first
  | assumption
  | exact rfl
  | (refine Rep.mono (tx_of ?_) (by assumption); walk_at "sm")
  | (refine Mo.mo ?_ (by assumption); walk_at "sm"))
local macro_rules | `(tactic| walk_at "ev") => `(tactic| first
  | exact ev_ci
  | exact ev_cs
  | exact ev_cb
  | exact ev_cn
  | (refine @ev_rv _ _ _ _ _ _ _ rfl ?_; walk_at "rp")
  | (refine @ev_var _ _ _ _ _ ?_ rfl ?_; (first | infer_instance | skip); walk_at "rp")
  | (refine ev_ii ?_ ?_ <;> walk_at "ev")
  | (refine ev_ib ?_ ?_ <;> walk_at "ev")
  | (refine ev_eqI ?_ ?_ <;> walk_at "ev")
  | (refine ev_neI ?_ ?_ <;> walk_at "ev")
  | (refine ev_lenT ?_ <;> walk_at "ev")
  | (refine ev_lenL ?_ <;> walk_at "ev")
  | (refine ev_int1 ?_ <;> walk_at "ev")
  | (refine et_test ?_ <;> walk_at "ev")
  | (refine et_B ?_ <;> walk_at "ev")
  | (refine et_not ?_ <;> walk_at "ev")
  | (refine et_or ?_ (fun _ => ?_) <;> walk_at "ev")
  | (refine et_and ?_ (fun _ => ?_) <;> walk_at "ev"))
section
variable {P : Program} {w : World} {K : PySem.W.Frag} {mg : Str → Option Value} {base : Heap}
theorem rd_same {H H' : Hp} {d : Addr} {u : HO} (h : Rd H d u) (e : Same H H') : Rd H' d u := by
  rcases h with h | ⟨o, h⟩
  · exact .inl (e _ _ h)
  · exact .inr ⟨o, e _ _ h⟩
/-- the dict of links, read only -/
structure RdAt (dd : Addr) (as : List Addr) (r : RS) (H : Hp) : Prop where
  d : Rd H dd (.dT (mkv r.order (as.map V.ref)))
  l1 : as.length = r.order.length
  s : ∀ i a, as[i]? = some a → At a (r.succ.getD i []) H
  no : r.order.Nodup
theorem RdAt.same {dd : Addr} {as : List Addr} {r : RS} {H H' : Hp} (h : RdAt dd as r H) (e : Same H H') : RdAt dd as r H' := ⟨rd_same h.d e, h.l1, fun i a ha => (h.s i a ha).same e, h.no⟩
def LinkS (r : RS) : Srt := fun v H => ∃ dd as, v = .ref dd ∧ RdAt dd as r H
instance {r : RS} : Mo (LinkS r) := ⟨fun e ⟨dd, as, h1, h2⟩ => ⟨dd, as, h1, h2.same e⟩⟩
def trues (ks : List (List Int)) : List V := ks.map fun _ => .bl true
theorem trues_len (ks : List (List Int)) : ks.length = (trues ks).length := by unfold trues; rw [List.length_map]
theorem trues_snoc (ks : List (List Int)) (e : List Int) : trues ks ++ [.bl true] = trues (ks ++ [e]) := by unfold trues; rw [List.map_append]; rfl
def BadS (ks : List (List Int)) : Srt := fun v H => ∃ bd, v = .ref bd ∧ Rd H bd (.dT (mkv ks (trues ks)))
instance {ks : List (List Int)} : Mo (BadS ks) := ⟨fun e ⟨bd, h1, h2⟩ => ⟨bd, h1, rd_same h2 e⟩⟩
def addA (bad : List (List Int)) (o : List (List Int)) (e : List Int) : List (List Int) := if e ∉ o ∧ e ∉ bad then o ++ [e] else o
def succOf (r : RS) (d : List Int) : List (List Int) := r.succ.getD (r.order.idxOf d) []
def turnA (r : RS) (bad : List (List Int)) (o : List (List Int)) (k : Nat) : List (List Int) := if k < o.length then (succOf r (o.getD k [])).foldl (addA bad) o else o
def avoidI (r : RS) (st bad : List (List Int)) : List (List Int) := (List.range 4000).foldl (turnA r bad) (st.foldl (addA bad) [])
structure AvAt (dd lo : Addr) (o : List (List Int)) (H H' : Hp) : Prop where
  sm : Same H H'
  d : H' dd = some (.dT (mkv o (trues o)))
  o : At lo o H'
  fd : H dd = none
  fl : H lo = none
theorem AvAt.same {dd lo : Addr} {o : List (List Int)} {H H1 H2 : Hp} (h : AvAt dd lo o H H1) (e : Same H1 H2) : AvAt dd lo o H H2 := ⟨h.sm.trans e, e _ _ h.d, h.o.same e, h.fd, h.fl⟩
theorem AvAt.put {dd lo : Addr} {o : List (List Int)} {H H6 H7 : Hp} {e : List Int} (m : AvAt dd lo o H H6) (o7 : OffL [lo] (upd H6 dd (.dT (mkv (o ++ [e]) (trues (o ++ [e]))))) H7) (a7 : At lo (o ++ [e]) H7) : AvAt dd lo (o ++ [e]) H H7 := by
  have lo6 := m.o.dT (kvs' := mkv (o ++ [e]) (trues (o ++ [e]))) m.d
  refine ⟨same_off (same_mut m.sm m.fd) o7 (fun c hc => by rw [show c = lo from by simpa using hc]; exact m.fl), ?_, a7, m.fd, m.fl⟩
  exact dT_off upd_same lo6.ll o7
structure AG where
  r : RS
  st : List (List Int)
  bad : List (List Int)
structure AGok (g : AG) : Prop where
  n : g.st.Nodup
  l : g.st.length ≤ 8
  s : ∀ d ∈ g.st, d ∈ g.r.order
  c : ∀ s ∈ g.r.succ, s.length ≤ 1000 ∧ ∀ e ∈ s, e ∈ g.r.order
  e : g.r.succ.length = g.r.order.length
theorem addA_bd {bad o : List (List Int)} {e : List Int} {B : Nat} (h : o.length ≤ B) : (addA bad o e).length ≤ B + 1 := by
  unfold addA
  split
  · rw [List.length_append, List.length_singleton]; omega
  · omega
theorem addA_in {bad o : List (List Int)} {e : List Int} {G : List Int → Prop} (h : ∀ x ∈ o, G x) (he : G e) : ∀ x ∈ addA bad o e, G x := by
  unfold addA
  split
  · intro x hx
    rcases List.mem_append.mp hx with hx | hx
    · exact h x hx
    · rw [List.mem_singleton.mp hx]; exact he
  · exact h
theorem addA_get {bad o : List (List Int)} {e : List Int} {k : Nat} (h : k < o.length) : k < (addA bad o e).length := by
  unfold addA
  split
  · rw [List.length_append]; omega
  · exact h
/-- s1: d[k] = True; order.append(k) -/
theorem s_seen {dd lo : Addr} {o : List (List Int)} {H H5 : Hp} {e : List Int} {D : Ends} {σ : L2.St} {ta tb tc td : TE} (m : AvAt dd lo o H H5) (hB : o.length < sizeLine) (hn : e ∉ o) (ho : Ev ta σ H5 (Is (.ref dd))) (hb : Ev tb σ H5 (R e)) (hc : ∀ H6, Tx H5 H6 → Ev tc σ H6 (Is (.ref lo))) (hd : ∀ H6, Tx H5 H6 → Ev td σ H6 (R e))
    (kk : ∀ H7, AvAt dd lo (o ++ [e]) H H7 → Tx H5 H7 → D.nx σ H7) : tSeq (sDPut ta tb (tC (.bl true))) (tDrop (tBM K "list" rAppend tc (tCons td tNil))) D σ H5 := by
  refine q_dput (φ := Is (.bl true)) m.d (trues_len o) hB (fun H1 s Q q => q _ H1 (Same.refl H1) rfl) ho hb hn fun v6 H6 e6 hv6 => ?_
  obtain rfl : v6 = .bl true := hv6
  rw [trues_snoc o e]
  have m6 := m.same e6
  have lo6 := m6.o.dT (kvs' := mkv (o ++ [e]) (trues (o ++ [e]))) m6.d
  have tx6 := tx_dT (o := .dT (mkv (o ++ [e]) (trues (o ++ [e])))) m6.d
  have t6 := (tx_of e6).trans tx6
  exact s_appA (x := e) lo6 hB (hc _ t6) (hd _ t6) fun H7 o7 a7 => kk H7 (m6.put o7 a7) (t6.trans (tx_off lo6.ll o7))
abbrev N_law_avoid : List Str := ["_law_links_here", "_law_starts_here", "_law_bad", "_law_seen", "_law_order", "_law_disk", "_law_k", "_law_following"]
theorem sc_law_avoid : FnScope N_law_avoid ["_law_links_here", "_law_starts_here", "_law_bad"] (defScope s_law_avoid) := ⟨rfl, rfl, rfl, by decide +kernel, rfl, by decide +kernel, by decide +kernel⟩
abbrev sp_law_avoid : Sp := Pn (fun g : AG => [LinkS g.r, Ls g.st, BadS g.bad]) (fun g => AGok g) (fun g H v H' => ∃ dd, v = .ref dd ∧ H dd = none ∧ H' dd = some (.dT (mkv (avoidI g.r g.st g.bad) (trues (avoidI g.r g.st g.bad)))))
theorem ok_law_avoid {f : Addr} {fd : FuncData} (T : Txt K mg)  (F : FunD K "_law_avoid" "_law_avoid" (defArgs s_law_avoid) (defBody s_law_avoid) (defScope s_law_avoid) [] [] f fd) (hm : mg "_law_avoid" = some (.ref f)) : C8.Cal P w K mg base 1 "_law_avoid" sp_law_avoid [] := by
  refine cal_of F hm sc_law_avoid (fun _ _ _ _ _ _ us hl => match us, hl with | [_, _, _], _ => rfl) (fun vs H Q E ⟨g, h, _⟩ => fas_len h) (fun cdv A outer s H vs Q E hr h => ?_)
  have hu : (A.deeper (envOfC "_law_avoid" (defScope s_law_avoid) s.heap.objs.size f cdv)).units + 1 < cLine := by have := hr.un; omega
  obtain ⟨⟨r, st, bad⟩, h, hp, q⟩ := h
  obtain ⟨a1, a2, a3, rfl, h1, h2, h3⟩ := fas3 h
  refine ⟨_, (pss_cons (ps_set (i := 3) sc_law_avoid.nd rfl (by first | exact .inl rfl | exact .inr rfl) pe_dnewT)
      (pss_cons (ps_set (i := 4) sc_law_avoid.nd rfl (by first | exact .inl rfl | exact .inr rfl) (pe_lst pa_nil))
      (pss_cons (ps_for PassesOwn.never rfl (k_list (K := K) rfl (pv 1)) (pg_name (i := 5) sc_law_avoid.nd rfl (by first | exact .inl rfl | exact .inr rfl))
        (pss_one (ps_if (pt_cmp (pc_dnotin hu (pv 5) (pv 2))) (pss_cons (ps_dput hu (pv 3) (pv 5) pe_bl rfl)
          (pss_one (ps_expr (pe_bm PySem.F.plainAttrs_list PySem.F.slot_list_append PySem.F.type_list_append mt_append (pv 4) (pa_cons (pv 5) pa_nil))))) pss_nil)))
      (pss_cons (ps_for PassesOwn.never rfl (pi_range1 (by rfl) T.range (pa_cons pe_int pa_nil)) (pg_name (i := 6) sc_law_avoid.nd rfl (by first | exact .inl rfl | exact .inr rfl))
        (pss_one (ps_if (pt_cmpR op_lt (pv 6) (pe_callB (k_len (K := K) rfl) (by rfl) T.len PySem.boot_len (pa_cons (pv 4) pa_nil)) (nomark _)) (pss_one (ps_for PassesOwn.never rfl (k_list (K := K) rfl (pe_dget hu (pv 0) (pe_ix (k_ixL (K := K) rfl) (pv 4) (pv 6) (fun _ _ => rfl)) (fun _ _ => rfl))) (pg_name (i := 7) sc_law_avoid.nd rfl (by first | exact .inl rfl | exact .inr rfl))
            (pss_one (ps_if (PW.pt (pw_and (pt_cmp (pc_dnotin hu (pv 7) (pv 3))) (pw_and1 (pt_cmp (pc_dnotin hu (pv 7) (pv 2)))))) (pss_cons (ps_dput hu (pv 3) (pv 7) pe_bl rfl)
              (pss_one (ps_expr (pe_bm PySem.F.plainAttrs_list PySem.F.slot_list_append PySem.F.type_list_append mt_append (pv 4) (pa_cons (pv 7) pa_nil))))) pss_nil)))) pss_nil)))
      (pss_one (ps_ret (pv 3))))))), ?_⟩
  have hp : AGok ⟨r, st, bad⟩ := hp
  have pl : st.length ≤ 8 := hp.l
  have h1 : LinkS r a1 H := h1
  have h2 : Ls st a2 H := h2
  have h3 : BadS bad a3 H := h3
  obtain ⟨dl, as, rfl, hL⟩ := h1
  obtain ⟨ls, vs, rfl, hls, rls⟩ := h2
  obtain ⟨bd, rfl, hbd⟩ := h3
  refine q_asg ev_dnew fun v1 H1 e1 hv1 => ?_
  obtain ⟨dd, rfl, nd, hd1⟩ := hv1
  refine q_asg (ev_nl0 (α := List Int)) fun v2 H2 e2 hv2 => ?_
  obtain ⟨lo, rfl, no, ao⟩ := at_of hv2
  have s2 := e1.trans e2
  have m0 : AvAt dd lo [] H H2 := ⟨s2, e2 _ _ hd1, ao, nd, e1.free no⟩
  refine q_forG (evg_keep (a := ls) (ev_is rfl) ⟨vs, s2 _ _ hls, Rps.mono (tx_of s2) rls⟩) (fun Hb i σ' H' => KeepA ls Hb H' ∧ (∃ o, o = (st.take i).foldl (addA bad) [] ∧ (∀ x ∈ o, x ∈ st.take i) ∧ o.length ≤ i ∧ AvAt dd lo o H H') ∧ ∃ y, σ' = [some (.ref dl), some (.ref ls), some (.ref bd), some (.ref dd), some (.ref lo), y, none, none]) (fun H4 e4 => ⟨⟨rfl, Tx.refl _⟩, ⟨[], rfl, by simp, Nat.le_refl _, m0.same e4⟩, none, rfl⟩) (fun Hb i σ' H' p => p.1) ?_ ?_
  · rintro Hb i x σ' H4 H5 eb hi ⟨k4, ⟨o, eo, io, lo_, m4⟩, y, rfl⟩ s5 ⟨d, hz, hx⟩
    have m5 := m4.same s5
    have hil : i < st.length := hi
    have hdn : d ∉ st.take i := fun hm => by
      obtain ⟨j, hj, ej⟩ := List.mem_iff_getElem.mp hm
      rw [List.length_take] at hj
      rw [List.getElem_take] at ej
      obtain ⟨hil, ei⟩ := List.getElem?_eq_some_iff.mp hz
      exact absurd ((List.getElem_inj hp.n).mp (ej.trans ei.symm)) (by omega)
    have hno : d ∉ o := fun z => hdn (io d z)
    rw [take_snoc hz, List.foldl_append, ← eo]
    have ej : [d].foldl (addA bad) o = addA bad o d := rfl
    rw [ej]
    have hb := (s2.trans eb) _ _ hls
    have fin : ∀ H7, AvAt dd lo (addA bad o d) H H7 → Tx H5 H7 → KeepA ls Hb H7 := fun H7 m7 t7 => ⟨by rw [m7.sm _ _ hls, hb], (k4.2.trans (tx_of s5)).trans t7⟩
    have hin : ∀ x ∈ addA bad o d, x ∈ st.take i ++ [d] := addA_in (fun x hx => List.mem_append_left _ (io x hx)) (by simp)
    have hlen : (addA bad o d).length ≤ i + 1 := addA_bd lo_
    refine s_when (b := !decide (d ∈ bad)) (et_B (ev_dnotin (rd_same hbd m5.sm) (trues_len bad) (ev_rv rfl hx) (ev_is rfl))) (fun en H6 e6 => ?_) (fun en H6 e6 => ?_)
    · have hn : d ∉ bad := by simpa using en
      have ea : addA bad o d = o ++ [d] := by unfold addA; rw [if_pos ⟨hno, hn⟩]
      refine s_seen (m5.same e6) (by rw [sizeLine_eq]; omega) hno (ev_is rfl) (ev_rv rfl (Rep.mono (tx_of e6) hx)) (fun H7 t7 => ev_is rfl) (fun H7 t7 => ev_rv rfl (Rep.mono ((tx_of e6).trans t7) hx)) fun H8 m8 t8 => ?_
      rw [← ea] at m8
      exact ⟨fin H8 m8 ((tx_of e6).trans t8), ⟨_, rfl, hin, hlen, m8⟩, some x, rfl⟩
    · have hn : d ∈ bad := by simpa using en
      have ea : addA bad o d = o := by unfold addA; rw [if_neg (fun z => z.2 hn)]
      have m6 : AvAt dd lo (addA bad o d) H H6 := by rw [ea]; exact m5.same e6
      exact ⟨fin H6 m6 (tx_of e6), ⟨_, rfl, hin, hlen, m6⟩, some x, rfl⟩
  · rintro Hb σ' H4 eb ⟨k4, ⟨o0, eo, io, lo_, m4⟩, y, rfl⟩
    rw [List.take_length] at eo
    have io : ∀ x ∈ o0, x ∈ r.order := fun x hx => hp.s x (List.take_subset _ _ (io x hx))
    have lo_ : o0.length ≤ 8 := Nat.le_trans lo_ pl
    refine q_forG (Gd := fun _ _ => True) (n := 4000) (S := RI (rg 4000)) (evg_range1 (n := 4000) (ea_cons ev_ci ea_nil) (by decide) (by decide)) (fun _ i σ' H' => (∃ o, o = (List.range i).foldl (turnA r bad) o0 ∧ (∀ x ∈ o, x ∈ r.order) ∧ o.length ≤ 8 + i * 1000 ∧ AvAt dd lo o H H') ∧ ∃ y y6 y7, σ' = [some (.ref dl), some (.ref ls), some (.ref bd), some (.ref dd), some (.ref lo), y, y6, y7]) (fun H5 e5 => ⟨⟨o0, rfl, io, by omega, m4.same e5⟩, y, none, none, rfl⟩) (fun _ _ _ _ _ => trivial) ?_ ?_
    · rintro _ k x σ' H5 H6 _ hk ⟨⟨o, eo', io', lo', m5⟩, y, y6, y7, rfl⟩ s6 ⟨z, hz, hx⟩
      rw [rg_get hk] at hz
      obtain rfl : x = .int (k : Int) := by rw [show x = .int z from hx, Option.some.inj hz]
      have hk4 : k < 4000 := hk
      have m6 := m5.same s6
      rw [List.range_succ, List.foldl_append, ← eo']
      have ek : [k].foldl (turnA r bad) o = turnA r bad o k := rfl
      rw [ek]
      refine s_when (b := decide ((k : Int) < (o.length : Int))) (et_test (ev_ib (ev_rv (x := (k : Int)) rfl rfl) (ev_lenL (ev_at m6.o rfl)))) (fun eb H7 e7 => ?_) (fun eb H7 e7 => ?_)
      · have hkl : k < o.length := by have := of_decide_eq_true eb; omega
        have et : turnA r bad o k = (succOf r (o.getD k [])).foldl (addA bad) o := by unfold turnA; rw [if_pos hkl]
        rw [et]
        have m7 := m6.same e7
        have hin := io' _ (getD_mem (d := []) hkl)
        have hix := List.idxOf_lt_length_of_mem hin
        have L7 := hL.same m7.sm
        have hka : as[r.order.idxOf (o.getD k [])]? = some (as.getD (r.order.idxOf (o.getD k [])) dl) := getD_at (by rw [L7.l1]; exact hix)
        have hat := L7.s _ _ hka
        have hsm : succOf r (o.getD k []) ∈ r.succ := getD_mem (by have := hp.e; have h9 : r.succ.length = r.order.length := this; rw [h9]; exact hix)
        have hsl := (hp.c _ hsm).1
        have hsi := (hp.c _ hsm).2
        have hord : r.order[r.order.idxOf (o.getD k [])]? = some (o.getD k []) := by
          rw [List.getElem?_eq_getElem hix, List.getElem_idxOf hix]
        rw [show r.succ.getD (r.order.idxOf (o.getD k [])) [] = succOf r (o.getD k []) from rfl] at hat
        have hat0 := hL.s _ _ hka
        generalize as.getD (r.order.idxOf (o.getD k [])) dl = la at hka hat hat0
        obtain ⟨wv, hwv, _⟩ := hat0
        refine s_forG (evg_keep (a := la) (ev_dget L7.d L7.no hord (by rw [List.getElem?_map, hka]; rfl) (ev_is rfl) (ev_ixL (ev_at m7.o rfl) (ev_rv (x := (k : Int)) rfl rfl) (atI_at (Int.natCast_nonneg k) (getD_at hkl)))) hat) (fun Hb j σ' H' => KeepA la Hb H' ∧ (∃ o', o' = ((succOf r (o.getD k [])).take j).foldl (addA bad) o ∧ (∀ x ∈ o', x ∈ r.order) ∧ o'.length ≤ 8 + k * 1000 + j ∧ AvAt dd lo o' H H') ∧ ∃ y7, σ' = [some (.ref dl), some (.ref ls), some (.ref bd), some (.ref dd), some (.ref lo), y, some (.int (k : Int)), y7]) (fun H8 e8 => ⟨⟨rfl, Tx.refl _⟩, ⟨o, rfl, io', by omega, m7.same e8⟩, y7, rfl⟩) (fun Hb i σ' H' p => p.1) ?_ ?_
        · rintro Hb j x σ' H8 H9 eb' hj ⟨k8, ⟨o8, eo8, io8, lo8, m8⟩, x7, rfl⟩ s9 ⟨e, hze, hxe⟩
          have m9 := m8.same s9
          have hj : j < (succOf r (o.getD k [])).length := hj
          rw [take_snoc hze, List.foldl_append, ← eo8]
          have ej : [e].foldl (addA bad) o8 = addA bad o8 e := rfl
          rw [ej]
          have hb : Hb la = some (.lst wv) := (m7.sm.trans eb') _ _ hwv
          have fin : ∀ H7, AvAt dd lo (addA bad o8 e) H H7 → Tx H9 H7 → KeepA la Hb H7 := fun H7 m7 t7 => ⟨by rw [m7.sm _ _ hwv, hb], (k8.2.trans (tx_of s9)).trans t7⟩
          have hin8 : ∀ x ∈ addA bad o8 e, x ∈ r.order := addA_in io8 (hsi e (List.mem_of_getElem? hze))
          have hlen : (addA bad o8 e).length ≤ 8 + k * 1000 + (j + 1) := addA_bd lo8
          refine s_when (b := !decide (e ∈ o8) && !decide (e ∈ bad)) (et_and (et_B (ev_dnotin (.inl m9.d) (trues_len o8) (ev_rv rfl hxe) (ev_is rfl))) fun _ => et_B (ev_dnotin (rd_same hbd m9.sm) (trues_len bad) (ev_rv rfl hxe) (ev_is rfl))) (fun en H10 e10 => ?_) (fun en H10 e10 => ?_)
          · have hn : e ∉ o8 ∧ e ∉ bad := by simpa using en
            have ea : addA bad o8 e = o8 ++ [e] := by unfold addA; rw [if_pos hn]
            refine s_seen (m9.same e10) (by rw [sizeLine_eq]; omega) hn.1 (ev_is rfl) (ev_rv rfl (Rep.mono (tx_of e10) hxe)) (fun H7 t7 => ev_is rfl) (fun H7 t7 => ev_rv rfl (Rep.mono ((tx_of e10).trans t7) hxe)) fun H11 m11 t11 => ?_
            rw [← ea] at m11
            exact ⟨fin H11 m11 ((tx_of e10).trans t11), ⟨_, rfl, hin8, hlen, m11⟩, some x, rfl⟩
          · have hn : ¬(e ∉ o8 ∧ e ∉ bad) := fun z => by simp [z.1, z.2] at en
            have ea : addA bad o8 e = o8 := by unfold addA; rw [if_neg hn]
            have m10 : AvAt dd lo (addA bad o8 e) H H10 := by rw [ea]; exact m9.same e10
            exact ⟨fin H10 m10 (tx_of e10), ⟨_, rfl, hin8, hlen, m10⟩, some x, rfl⟩
        · rintro Hb σ' H8 eb' ⟨k8, ⟨o8, eo8, io8, lo8, m8⟩, x7, rfl⟩
          rw [List.take_length] at eo8
          exact ⟨⟨o8, eo8, io8, by omega, m8⟩, y, some (.int (k : Int)), x7, rfl⟩
      · have hkl : ¬ k < o.length := by have := of_decide_eq_false eb; omega
        have et : turnA r bad o k = o := by unfold turnA; rw [if_neg hkl]
        rw [et]
        exact ⟨⟨o, rfl, io', by omega, m6.same e7⟩, y, some (.int (k : Int)), y7, rfl⟩
    · rintro _ σ' H5 _ ⟨⟨o, eo', io', lo', m5⟩, y, y6, y7, rfl⟩
      have ef : o = avoidI r st bad := by rw [eo', eo]; rfl
      rw [ef] at m5
      exact s_ret (φ := fun v H' => ∃ dd, v = .ref dd ∧ H dd = none ∧ H' dd = some (.dT (mkv (avoidI r st bad) (trues (avoidI r st bad))))) (fun H6 e6 Q' q' => ⟨.ref dd, rfl, q' _ H6 (Same.refl _) ⟨dd, rfl, m5.fd, e6 _ _ m5.d⟩⟩) fun v H6 e6 hv => q v H6 (m5.sm.trans e6) hv
end
end RW
set_option Elab.async false
set_option linter.all false
set_option maxRecDepth 100000
set_option maxHeartbeats 4000000
namespace RW
open PySem PySem.Spec PyProof.Rows L2
local macro_rules | `(tactic| walk_at "sm") => `(tactic| first
  | exact Same.refl _
  | assumption
  | exact same_new (by assumption)
  | (refine Same.trans ?_ (by assumption); walk_at "sm")
  | (refine Same.trans ?_ (same_new (by assumption)); walk_at "sm"))
local macro_rules | `(tactic| walk_at "rp") => `(tactic| first
  | assumption
  | exact rfl
  | (refine Rep.mono (tx_of ?_) (by assumption); walk_at "sm")
  | (refine Mo.mo ?_ (by assumption); walk_at "sm"))
local macro_rules | `(tactic| walk_at "ev") => `(tactic| first
  | exact ev_ci
  | exact ev_cs
  | exact ev_cb
  | exact ev_cn
  | (refine @ev_rv _ _ _ _ _ _ _ rfl ?_; walk_at "rp")
  | (refine @ev_var _ _ _ _ _ ?_ rfl ?_; (first | infer_instance | skip); walk_at "rp")
  | (refine ev_ii ?_ ?_ <;> walk_at "ev")
  | (refine ev_ib ?_ ?_ <;> walk_at "ev")
  | (refine ev_eqI ?_ ?_ <;> walk_at "ev")
  | (refine ev_neI ?_ ?_ <;> walk_at "ev")
  | (refine ev_lenT ?_ <;> walk_at "ev")
  | (refine ev_lenL ?_ <;> walk_at "ev")
  | (refine ev_int1 ?_ <;> walk_at "ev")
  | (refine et_test ?_ <;> walk_at "ev")
  | (refine et_B ?_ <;> walk_at "ev")
  | (refine et_not ?_ <;> walk_at "ev")
  | (refine et_or ?_ (fun _ => ?_) <;> walk_at "ev")
  | (refine et_and ?_ (fun _ => ?_) <;> walk_at "ev"))
namespace Q
theorem getD_at {α : Type} {xs : List α} {i : Nat} {d : α} (h : i < xs.length) : xs[i]? = some (xs.getD i d) := by
  rw [List.getD_eq_getElem?_getD, List.getElem?_eq_getElem h]; rfl
theorem getD_mem {α : Type} {xs : List α} {i : Nat} {d : α} (h : i < xs.length) : xs.getD i d ∈ xs := List.mem_of_getElem? (getD_at h)
/-! ### bits of masks -/
theorem bit_tb {m v : Int} (h : 0 ≤ m) : bitB m v = m.toNat.testBit v.toNat := by
  obtain ⟨k, rfl⟩ := Int.eq_ofNat_of_zero_le h
  unfold bitB
  have e : ((k : Int) / 2 ^ v.toNat) = ((k / 2 ^ v.toNat : Nat) : Int) := by
    rw [Int.natCast_ediv, Int.natCast_pow]; rfl
  rw [e, bitAnd_pp (Int.natCast_nonneg _) (by decide)]
  have e2 : Nat.testBit (k : Int).toNat v.toNat = ((k / 2 ^ v.toNat) &&& 1 != 0) := by
    unfold Nat.testBit
    rw [Nat.shiftRight_eq_div_pow, Nat.and_comm, Int.toNat_natCast]
  rw [e2, Int.toNat_natCast, show (1 : Int).toNat = 1 from rfl]
  generalize (k / 2 ^ v.toNat &&& 1) = q
  cases q with
  | zero => rfl
  | succ q =>
    rw [decide_eq_true (by omega)]
    rfl
theorem and_nn {a b : Int} (ha : 0 ≤ a) (hb : 0 ≤ b) : 0 ≤ Builtin.bitAnd a b ∧ Builtin.bitAnd a b ≤ a := by
  rw [bitAnd_pp ha hb]
  have : a.toNat &&& b.toNat ≤ a.toNat := Nat.and_le_left
  omega
theorem bit_and {a b v : Int} (ha : 0 ≤ a) (hb : 0 ≤ b) : bitB (Builtin.bitAnd a b) v = (bitB a v && bitB b v) := by
  rw [bit_tb (and_nn ha hb).1, bit_tb ha, bit_tb hb, bitAnd_pp ha hb, Int.toNat_natCast, Nat.testBit_and]
theorem xor_nat {a b : Int} (ha : 0 ≤ a) (hb : 0 ≤ b) : Builtin.bitXor a (Builtin.bitAnd a b) = ((a.toNat ^^^ (a.toNat &&& b.toNat) : Nat) : Int) := by
  obtain ⟨a, rfl⟩ := Int.eq_ofNat_of_zero_le ha
  obtain ⟨b, rfl⟩ := Int.eq_ofNat_of_zero_le hb
  rw [bitXor_and, bitAnd_pp ha hb]
  simp only [Int.toNat_natCast]
  rw [bitAnd_pp ha (by omega)]
  simp only [Int.toNat_natCast]
  have e1 : a &&& (a &&& b) = a &&& b := by rw [← Nat.and_assoc, Nat.and_self]
  rw [e1]
  have e2 : (a ^^^ (a &&& b)) + (a &&& b) = a := by
    have h : (a ^^^ (a &&& b)) &&& (a &&& b) = 0 := by
      apply Nat.eq_of_testBit_eq
      intro i
      simp only [Nat.testBit_and, Nat.testBit_xor, Nat.zero_testBit]
      cases a.testBit i <;> cases b.testBit i <;> rfl
    have h2 : (a ^^^ (a &&& b)) ||| (a &&& b) = a := by
      apply Nat.eq_of_testBit_eq
      intro i
      simp only [Nat.testBit_or, Nat.testBit_and, Nat.testBit_xor]
      cases a.testBit i <;> cases b.testBit i <;> rfl
    have h3 := nat_or_add_and (a ^^^ (a &&& b)) (a &&& b)
    rw [h, h2] at h3
    omega
  omega
theorem bit_rest {a b v : Int} (ha : 0 ≤ a) (hb : 0 ≤ b) : bitB (Builtin.bitXor a (Builtin.bitAnd a b)) v = (bitB a v && !bitB b v) := by
  rw [xor_nat ha hb, bit_tb (by omega), bit_tb ha, bit_tb hb, Int.toNat_natCast, Nat.testBit_xor, Nat.testBit_and]
  cases a.toNat.testBit v.toNat <;> cases b.toNat.testBit v.toNat <;> rfl
theorem rest_nn {a b : Int} (ha : 0 ≤ a) (hb : 0 ≤ b) : 0 ≤ Builtin.bitXor a (Builtin.bitAnd a b) := by rw [xor_nat ha hb]; omega
theorem bit_ne {m v : Int} (h : bitB m v = true) : m ≠ 0 := by
  rintro rfl
  rw [bit_tb (Int.le_refl 0)] at h
  simp at h
/-! ### sketches and disks -/
def g0 (l : List Int) (i : Nat) : Int := l.getD i 0
def NN (n : Nat) (a : List Int) : Prop := a.length = n ∧ ∀ i, i < n → 0 ≤ g0 a i
def Fit (n : Nat) (sk d : List Int) : Prop := ∀ i, i < n → bitB (g0 sk i) (g0 d i) = true
theorem zip_all {p : Int × Int → Bool} : ∀ (a b : List Int), a.length = b.length → ((a.zip b).all p = true ↔ ∀ i, i < a.length → p (g0 a i, g0 b i) = true)
  | [], [], _ => by simp
  | x :: a, y :: b, h => by
    have ih := zip_all (p := p) a b (by simpa using h)
    rw [List.zip_cons_cons, List.all_cons, Bool.and_eq_true, ih]
    constructor
    · rintro ⟨h1, h2⟩ i hi
      cases i with
      | zero => exact h1
      | succ i => exact h2 i (by simpa using hi)
    · intro h1
      exact ⟨h1 0 (by simp), fun i hi => h1 (i + 1) (by simpa using hi)⟩
  | [], _ :: _, h => by simp at h
  | _ :: _, [], h => by simp at h
theorem zip_get (f : Int → Int → Int) : ∀ (a b : List Int), a.length = b.length → ∀ i, i < a.length → g0 ((a.zip b).map fun p => f p.1 p.2) i = f (g0 a i) (g0 b i)
  | [], _, _ => by intro i hi; simp at hi
  | x :: a, y :: b, h => by
    intro i hi
    cases i with
    | zero => rfl
    | succ i => exact zip_get f a b (by simpa using h) i (by simpa using hi)
  | _ :: _, [], h => by simp at h
theorem fitsB_iff {n : Nat} {sk d : List Int} (h1 : sk.length = n) (h2 : d.length = n) : fitsB sk d = true ↔ Fit n sk d := by
  unfold fitsB
  rw [zip_all sk d (by omega), h1]
  rfl
theorem meet_some {n : Nat} {a b m : List Int} (h1 : a.length = n) (h2 : b.length = n) (h : meetI a b = some m) : m.length = n ∧ ∀ i, i < n → g0 m i = Builtin.bitAnd (g0 a i) (g0 b i) ∧ g0 m i ≠ 0 := by
  unfold meetI at h
  split at h
  · rename_i h0
    rw [zip_all a b (by omega)] at h0
    cases h
    refine ⟨by rw [List.length_map, List.length_zip]; omega, fun i hi => ?_⟩
    have e := zip_get (fun x y => Builtin.bitAnd x y) a b (by omega) i (by omega)
    refine ⟨e, ?_⟩
    rw [e]
    exact of_decide_eq_true (h0 i (by omega))
  · cases h
theorem meet_none {n : Nat} {a b : List Int} (h1 : a.length = n) (h2 : b.length = n) (h : meetI a b = none) : ∃ i, i < n ∧ Builtin.bitAnd (g0 a i) (g0 b i) = 0 := by
  unfold meetI at h
  split at h
  · cases h
  · rename_i h0
    rw [zip_all a b (by omega)] at h0
    apply Classical.byContradiction
    intro hc
    refine h0 fun i hi => decide_eq_true fun z => hc ⟨i, by omega, z⟩
theorem meet_fit {n : Nat} {a b d : List Int} (ha : NN n a) (hb : NN n b) (f1 : Fit n a d) (f2 : Fit n b d) : meetI a b ≠ none := by
  intro h
  obtain ⟨i, hi, hz⟩ := meet_none ha.1 hb.1 h
  have := bit_and (v := g0 d i) (ha.2 i hi) (hb.2 i hi)
  rw [f1 i hi, f2 i hi, hz] at this
  exact bit_ne this rfl
theorem part_get {a m : List Int} {k : Nat} (hk : k < a.length) (hm : m.length = a.length) (r : Int) (i : Nat) : g0 (m.take k ++ [r] ++ a.drop (k + 1)) i = if i < k then g0 m i else if i = k then r else g0 a i := by
  unfold g0
  simp only [List.getD_eq_getElem?_getD]
  rw [List.getElem?_append, List.length_append, List.length_take, List.length_singleton, show min k m.length = k by omega]
  split
  · rw [List.getElem?_append, List.length_take, show min k m.length = k by omega]
    split
    · rw [List.getElem?_take, if_pos (by omega)]
    · rw [if_pos (by omega), show i - k = 0 by omega]; rfl
  · rw [if_neg (by omega), if_neg (by omega), List.getElem?_drop, show k + 1 + (i - (k + 1)) = i by omega]
theorem part_len {a m : List Int} {k : Nat} (hk : k < a.length) (hm : m.length = a.length) (r : Int) : (m.take k ++ [r] ++ a.drop (k + 1)).length = a.length := by
  simp only [List.length_append, List.length_take, List.length_drop, List.length_singleton]; omega
/-- what a part of a without b is -/
structure PartOf (n : Nat) (a b p : List Int) : Prop where
  len : p.length = n
  cls : ∀ i, i < n → g0 p i = g0 a i ∨ g0 p i = Builtin.bitAnd (g0 a i) (g0 b i) ∨ g0 p i = Builtin.bitXor (g0 a i) (Builtin.bitAnd (g0 a i) (g0 b i))
  pos : (∀ i, i < n → g0 a i ≠ 0) → ∀ i, i < n → g0 p i ≠ 0
  fit : ∀ d, Fit n p d → Fit n a d ∧ ¬ Fit n b d
theorem zip_rg_mem {a : List Int} {x : Int × Int} (h : x ∈ (rg a.length).zip a) : 0 ≤ x.1 ∧ x.1.toNat < a.length ∧ x.2 = g0 a x.1.toNat := by
  obtain ⟨i, hi, rfl⟩ := List.getElem_of_mem h
  rw [List.length_zip, rg_len] at hi
  have hi' : i < a.length := by omega
  have e : ((rg a.length).zip a)[i] = ((i : Int), a[i]) := by simp [rg]
  rw [e]
  refine ⟨by simp, by simpa using hi', ?_⟩
  show a[i] = a.getD (i : Int).toNat 0
  simp [List.getD_eq_getElem?_getD, hi']
theorem split_part {n : Nat} {a b p : List Int} (ha : NN n a) (hb : NN n b) (hp : p ∈ splitI a b) : PartOf n a b p := by
  unfold splitI at hp
  split at hp
  · rename_i hm
    rw [List.mem_singleton] at hp
    subst hp
    refine ⟨ha.1, fun i hi => .inl rfl, fun h => h, fun d hd => ⟨hd, fun hd2 => meet_fit ha hb hd hd2 hm⟩⟩
  · rename_i m hm
    obtain ⟨ml, mg⟩ := meet_some ha.1 hb.1 hm
    obtain ⟨x, hx, rfl⟩ := List.mem_map.mp hp
    obtain ⟨hx, hr⟩ := List.mem_filter.mp hx
    obtain ⟨x0, x1, x2⟩ := zip_rg_mem hx
    obtain ⟨z, w⟩ := x
    simp only at x0 x1 x2
    subst x2
    obtain ⟨k, rfl⟩ := Int.eq_ofNat_of_zero_le x0
    simp only [Int.toNat_natCast] at x1 hr ⊢
    have hr : restI m ((k : Int), g0 a k) ≠ 0 := of_decide_eq_true hr
    have hn := ha.1
    have e : partI a m ((k : Int), g0 a k) = m.take k ++ [restI m ((k : Int), g0 a k)] ++ a.drop (k + 1) := by
      unfold partI
      rfl
    have er : restI m ((k : Int), g0 a k) = Builtin.bitXor (g0 a k) (Builtin.bitAnd (g0 a k) (g0 b k)) := by
      show Builtin.bitXor (g0 a k) (g0 m k) = _
      rw [(mg k (by omega)).1]
    rw [e]
    have hg := part_get (a := a) (m := m) x1 (by omega) (restI m ((k : Int), g0 a k))
    refine ⟨by rw [part_len x1 (by omega)]; omega, fun i hi => ?_, fun h i hi => ?_, fun d hd => ⟨fun i hi => ?_, fun hd2 => ?_⟩⟩
    · rw [hg i]
      split
      · exact .inr (.inl (mg i hi).1)
      · split
        · subst i; exact .inr (.inr er)
        · exact .inl rfl
    · rw [hg i]
      split
      · exact (mg i hi).2
      · split
        · exact hr
        · exact h i hi
    · have h := hd i hi
      rw [hg i] at h
      split at h
      · rw [(mg i hi).1, bit_and (ha.2 i hi) (hb.2 i hi), Bool.and_eq_true] at h
        exact h.1
      · split at h
        · subst i
          rw [er, bit_rest (ha.2 k hi) (hb.2 k hi), Bool.and_eq_true] at h
          exact h.1
        · exact h
    · have hk : k < n := by omega
      have h := hd k hk
      rw [hg k, if_neg (by omega), if_pos rfl, er, bit_rest (ha.2 k hk) (hb.2 k hk), hd2 k hk] at h
      simp at h
/-- the first cell at which something fails -/
theorem first_fail {p : Nat → Prop} {n : Nat} (h : ¬ ∀ i, i < n → p i) : ∃ k, k < n ∧ ¬ p k ∧ ∀ i, i < k → p i := by
  induction n with
  | zero => exact absurd (fun i hi => absurd hi (by omega)) h
  | succ n ih =>
    by_cases h0 : ∀ i, i < n → p i
    · refine ⟨n, by omega, fun hn => h fun i hi => ?_, h0⟩
      by_cases e : i = n
      · exact e ▸ hn
      · exact h0 i (by omega)
    · obtain ⟨k, h1, h2, h3⟩ := ih h0
      exact ⟨k, by omega, h2, h3⟩
theorem split_cover {n : Nat} {a b d : List Int} (ha : NN n a) (hb : NN n b) (h1 : Fit n a d) (h2 : ¬ Fit n b d) : ∃ p ∈ splitI a b, Fit n p d := by
  unfold splitI
  split
  · exact ⟨a, List.mem_singleton.mpr rfl, h1⟩
  · rename_i m hm
    obtain ⟨ml, mg⟩ := meet_some ha.1 hb.1 hm
    obtain ⟨k, hk, hk1, hk2⟩ := first_fail h2
    have hn := ha.1
    have er : restI m ((k : Int), g0 a k) = Builtin.bitXor (g0 a k) (Builtin.bitAnd (g0 a k) (g0 b k)) := by
      show Builtin.bitXor (g0 a k) (g0 m k) = _
      rw [(mg k (by omega)).1]
    have hbit : bitB (restI m ((k : Int), g0 a k)) (g0 d k) = true := by
      rw [er, bit_rest (ha.2 k hk) (hb.2 k hk), h1 k hk]
      cases h : bitB (g0 b k) (g0 d k)
      · rfl
      · exact absurd h hk1
    have hg := part_get (a := a) (m := m) (k := k) (by omega) (by omega) (restI m ((k : Int), g0 a k))
    refine ⟨partI a m ((k : Int), g0 a k), List.mem_map.mpr ⟨_, List.mem_filter.mpr ⟨?_, decide_eq_true (bit_ne hbit)⟩, rfl⟩, fun i hi => ?_⟩
    · rw [List.mem_iff_getElem]
      refine ⟨k, by rw [List.length_zip, rg_len]; omega, ?_⟩
      simp [rg, g0, List.getD_eq_getElem?_getD, show k < a.length by omega]
    · show bitB (g0 (m.take k ++ [restI m ((k : Int), g0 a k)] ++ a.drop (k + 1)) i) _ = true
      rw [hg i]
      split
      · rename_i hik
        rw [(mg i hi).1, bit_and (ha.2 i hi) (hb.2 i hi), h1 i hi, hk2 i hik]; rfl
      · split
        · subst i; exact hbit
        · exact h1 i hi
/-! ### without -/
/-- what the masks of sketches keep -/
structure Cl (n : Nat) (T : Nat → Int → Prop) (b : List Int) : Prop where
  nn : NN n b
  and : ∀ i m, i < n → T i m → T i (Builtin.bitAnd m (g0 b i))
  xor : ∀ i m, i < n → T i m → T i (Builtin.bitXor m (Builtin.bitAnd m (g0 b i)))
structure Tn (n : Nat) (T : Nat → Int → Prop) : Prop where
  nn : ∀ i m, i < n → T i m → 0 ≤ m
/-- a sketch with masks of the class, none zero -/
structure Ok (n : Nat) (T : Nat → Int → Prop) (a : List Int) : Prop where
  len : a.length = n
  t : ∀ i, i < n → T i (g0 a i)
  nz : ∀ i, i < n → g0 a i ≠ 0
theorem Ok.nn {n : Nat} {T : Nat → Int → Prop} {a : List Int} (h : Ok n T a) (hT : Tn n T) : NN n a := ⟨h.len, fun i hi => hT.nn i _ hi (h.t i hi)⟩
theorem split_ok {n : Nat} {T : Nat → Int → Prop} {a b p : List Int} (hT : Tn n T) (ha : Ok n T a) (hb : Cl n T b) (hp : p ∈ splitI a b) : Ok n T p := by
  obtain ⟨h1, h2, h3, h4⟩ := split_part (ha.nn hT) hb.nn hp
  refine ⟨h1, fun i hi => ?_, h3 ha.nz⟩
  rcases h2 i hi with h | h | h <;> rw [h]
  · exact ha.t i hi
  · exact hb.and i _ hi (ha.t i hi)
  · exact hb.xor i _ hi (ha.t i hi)
theorem split_count {n : Nat} {a b : List Int} (h1 : a.length = n) (hn : 1 ≤ n) : (splitI a b).length ≤ n := by
  unfold splitI
  split
  · exact hn
  · rw [List.length_map]
    refine Nat.le_trans (List.length_filter_le _ _) ?_
    rw [List.length_zip, rg_len]; omega
theorem flat_le {α β : Type} {f : α → List β} {n : Nat} : ∀ (l : List α), (∀ x ∈ l, (f x).length ≤ n) → (l.flatMap f).length ≤ l.length * n
  | [], _ => by simp
  | x :: l, h => by
    rw [List.flatMap_cons, List.length_append, List.length_cons, Nat.succ_mul]
    have h1 := h x (by simp)
    have h2 := flat_le l fun y hy => h y (by simp [hy])
    omega
theorem fold_ok {n : Nat} {T : Nat → Int → Prop} (hT : Tn n T) (hn : 1 ≤ n) : ∀ (pc ps : List (List Int)), (∀ s ∈ pc, Cl n T s) → (∀ p ∈ ps, Ok n T p) →
    (∀ p ∈ pc.foldl (fun ps s => ps.flatMap fun o => splitI o s) ps, Ok n T p ∧ (∀ s ∈ pc, ∀ d, Fit n p d → ¬ Fit n s d) ∧ ∃ o ∈ ps, ∀ d, Fit n p d → Fit n o d) ∧
    (∀ d, (∃ o ∈ ps, Fit n o d) → (∀ s ∈ pc, ¬ Fit n s d) → ∃ p ∈ pc.foldl (fun ps s => ps.flatMap fun o => splitI o s) ps, Fit n p d) ∧
    (pc.foldl (fun ps s => ps.flatMap fun o => splitI o s) ps).length ≤ ps.length * n ^ pc.length
  | [], ps, _, h => ⟨fun p hp => ⟨h p hp, fun s hs => by simp at hs, p, hp, fun d hd => hd⟩, fun d hd _ => hd, by simp⟩
  | s :: pc, ps, hc, h => by
    have hs := hc s (by simp)
    have h1 : ∀ p ∈ ps.flatMap fun o => splitI o s, Ok n T p := fun p hp => by
      obtain ⟨o, ho, hp⟩ := List.mem_flatMap.mp hp
      exact split_ok hT (h o ho) hs hp
    obtain ⟨a1, a2, a3⟩ := fold_ok hT hn pc (ps.flatMap fun o => splitI o s) (fun s hs => hc s (by simp [hs])) h1
    refine ⟨fun p hp => ?_, fun d hd hn => ?_, ?_⟩
    · obtain ⟨b1, b2, q, hq, b3⟩ := a1 p hp
      obtain ⟨o, ho, hq⟩ := List.mem_flatMap.mp hq
      have hpart := split_part ((h o ho).nn hT) hs.nn hq
      refine ⟨b1, fun s' hs' d hd => ?_, o, ho, fun d hd => (hpart.fit d (b3 d hd)).1⟩
      rcases List.mem_cons.mp hs' with e | e
      · subst e; exact (hpart.fit d (b3 d hd)).2
      · exact b2 s' e d hd
    · obtain ⟨o, ho, hd⟩ := hd
      obtain ⟨q, hq, hqd⟩ := split_cover ((h o ho).nn hT) hs.nn hd (hn s (by simp))
      exact a2 d ⟨q, List.mem_flatMap.mpr ⟨o, ho, hq⟩, hqd⟩ fun s' hs' => hn s' (by simp [hs'])
    · have := flat_le (f := fun o => splitI o s) (n := n) ps fun x hx => split_count (h x hx).len hn
      refine Nat.le_trans a3 ?_
      rw [List.length_cons, Nat.pow_succ, Nat.mul_comm (n ^ pc.length) n, ← Nat.mul_assoc]
      exact Nat.mul_le_mul_right _ this
/-- the parts of a without the sketches of pc -/
structure Wo (n : Nat) (T : Nat → Int → Prop) (pc : List (List Int)) (a : List Int) : Prop where
  ok : ∀ p ∈ withoutI a pc, Ok n T p
  no : ∀ p ∈ withoutI a pc, ∀ d, Fit n p d → Fit n a d ∧ ∀ s ∈ pc, ¬ Fit n s d
  cov : ∀ d, Fit n a d → (∀ s ∈ pc, ¬ Fit n s d) → ∃ p ∈ withoutI a pc, Fit n p d
  cnt : (withoutI a pc).length ≤ n ^ pc.length
theorem without_ok {n : Nat} {T : Nat → Int → Prop} (hT : Tn n T) (hn : 1 ≤ n) {pc : List (List Int)} {a : List Int} (hc : ∀ s ∈ pc, Cl n T s) (ha : Ok n T a) : Wo n T pc a := by
  obtain ⟨h1, h2, h3⟩ := fold_ok hT hn pc [a] hc (fun p hp => by rw [List.mem_singleton] at hp; exact hp ▸ ha)
  refine ⟨fun p hp => (h1 p hp).1, fun p hp d hd => ?_, fun d hd hn => h2 d ⟨a, by simp, hd⟩ hn, by unfold withoutI; simpa using h3⟩
  obtain ⟨_, b2, o, ho, b3⟩ := h1 p hp
  rw [List.mem_singleton] at ho
  subst ho
  exact ⟨b3 d hd, fun s hs => b2 s hs d hd⟩
end Q
end RW
set_option Elab.async false
set_option linter.all false
set_option maxRecDepth 100000
set_option maxHeartbeats 4000000
namespace RW
open PySem PySem.Spec PyProof.Rows L2
local macro_rules | `(tactic| walk_at "sm") => `(tactic| first
  | exact Same.refl _
  | assumption
  | exact same_new (by assumption)
  | (refine Same.trans ?_ (by assumption); walk_at "sm")
  | (refine Same.trans ?_ (same_new (by assumption)); walk_at "sm"))
local macro_rules | `(tactic| walk_at "rp") => `(tactic| first
  | assumption
  | exact rfl
  | (refine Rep.mono (tx_of ?_) (by assumption); walk_at "sm")
  | (refine Mo.mo ?_ (by assumption); walk_at "sm"))
local macro_rules | `(tactic| walk_at "ev") => `(tactic| first
  | exact ev_ci
  | exact ev_cs
  | exact ev_cb
  | exact ev_cn
  | (refine @ev_rv _ _ _ _ _ _ _ rfl ?_; walk_at "rp")
  | (refine @ev_var _ _ _ _ _ ?_ rfl ?_; (first | infer_instance | skip); walk_at "rp")
  | (refine ev_ii ?_ ?_ <;> walk_at "ev")
  | (refine ev_ib ?_ ?_ <;> walk_at "ev")
  | (refine ev_eqI ?_ ?_ <;> walk_at "ev")
  | (refine ev_neI ?_ ?_ <;> walk_at "ev")
  | (refine ev_lenT ?_ <;> walk_at "ev")
  | (refine ev_lenL ?_ <;> walk_at "ev")
  | (refine ev_int1 ?_ <;> walk_at "ev")
  | (refine et_test ?_ <;> walk_at "ev")
  | (refine et_B ?_ <;> walk_at "ev")
  | (refine et_not ?_ <;> walk_at "ev")
  | (refine et_or ?_ (fun _ => ?_) <;> walk_at "ev")
  | (refine et_and ?_ (fun _ => ?_) <;> walk_at "ev"))
namespace Q
/-! ### a sketch before a deed -/
theorem g0_set (l : List Int) (k : Nat) (v : Int) (i : Nat) : g0 (l.set k v) i = if k = i ∧ k < l.length then v else g0 l i := by
  unfold g0
  simp only [List.getD_eq_getElem?_getD, List.getElem?_set]
  by_cases h : k = i
  · subst h
    by_cases h2 : k < l.length
    · simp [h2]
    · simp [h2]
  · simp [h]
def effI (x : List Int) (ch : List (Int × (Str × Int))) : List Int := ch.foldl (fun x p => x.set p.1.toNat p.2.2) x
def GFit (D : Deed) (x : List Int) : Prop := ∀ p ∈ D.b, bitB p.2 (g0 x p.1.toNat) = true
theorem eff_len : ∀ (ch : List (Int × (Str × Int))) (x : List Int), (effI x ch).length = x.length
  | [], _ => rfl
  | p :: r, x => by
    show (effI (x.set _ _) r).length = _
    rw [eff_len r, List.length_set]
theorem eff_out {i : Nat} : ∀ (ch : List (Int × (Str × Int))) (x : List Int), i ∉ ch.map (fun p => p.1.toNat) → g0 (effI x ch) i = g0 x i
  | [], _, _ => rfl
  | p :: r, x, h => by
    show g0 (effI (x.set _ _) r) i = _
    simp only [List.map_cons, List.mem_cons, not_or] at h
    rw [eff_out r _ h.2, g0_set, if_neg (fun z => h.1 z.1.symm)]
theorem eff_in : ∀ (ch : List (Int × (Str × Int))) (x : List Int), (ch.map fun p => p.1.toNat).Nodup → ∀ p ∈ ch, p.1.toNat < x.length → g0 (effI x ch) p.1.toNat = p.2.2
  | [], _, _ => fun p hp => by simp at hp
  | q :: r, x, h => fun p hp hl => by
    show g0 (effI (x.set _ _) r) p.1.toNat = _
    rw [List.map_cons, List.nodup_cons] at h
    rcases List.mem_cons.mp hp with e | e
    · subst e
      rw [eff_out r _ h.1, g0_set, if_pos ⟨rfl, hl⟩]
    · exact eff_in r _ h.2 p e (by rw [List.length_set]; exact hl)
theorem setFull_out {full : List Int} {i : Nat} : ∀ (ch : List (Int × (Str × Int))) (x : List Int), i ∉ ch.map (fun p => p.1.toNat) → g0 (setFull full x ch) i = g0 x i
  | [], _, _ => rfl
  | p :: r, x, h => by
    show g0 (setFull full (x.set _ _) r) i = _
    simp only [List.map_cons, List.mem_cons, not_or] at h
    rw [setFull_out r _ h.2, g0_set, if_neg (fun z => h.1 z.1.symm)]
theorem setFull_or {full : List Int} {i : Nat} : ∀ (ch : List (Int × (Str × Int))) (x : List Int), g0 (setFull full x ch) i = g0 x i ∨ g0 (setFull full x ch) i = g0 full i
  | [], _ => .inl rfl
  | p :: r, x => by
    show g0 (setFull full (x.set _ _) r) i = _ ∨ g0 (setFull full (x.set _ _) r) i = _
    rcases setFull_or (full := full) (i := i) r (x.set p.1.toNat (szI full p.1)) with h | h
    · rw [h, g0_set]
      split
      · rename_i h
        right
        rw [← h.1]; rfl
      · exact .inl rfl
    · exact .inr h
theorem setFull_in {full : List Int} {i : Nat} : ∀ (ch : List (Int × (Str × Int))) (x : List Int), i ∈ ch.map (fun p => p.1.toNat) → i < x.length → g0 (setFull full x ch) i = g0 full i
  | [], _, h, _ => by simp at h
  | p :: r, x, h, hl => by
    show g0 (setFull full (x.set _ _) r) i = _
    by_cases h2 : i ∈ r.map (fun p => p.1.toNat)
    · exact setFull_in r _ h2 (by rw [List.length_set]; exact hl)
    · rw [setFull_out r _ h2]
      have e : i = p.1.toNat := by
        rw [List.map_cons, List.mem_cons] at h
        rcases h with h | h
        · exact h
        · exact absurd h h2
      rw [g0_set, if_pos ⟨e.symm, e ▸ hl⟩, e]
      rfl
theorem andG_bit {i : Nat} {v : Int} : ∀ (g : List (Int × Int)) (m : List Int), (∀ i, i < m.length → 0 ≤ g0 m i) → i < m.length → (∀ p ∈ g, p.1.toNat < m.length ∧ 0 ≤ p.2) → (bitB (g0 (andG m g) i) v = true ↔ bitB (g0 m i) v = true ∧ ∀ p ∈ g, p.1.toNat = i → bitB p.2 v = true)
  | [], m, _, _, _ => by simp [andG]
  | p :: r, m, h0, hi, hg => by
    have hp := hg p (by simp)
    have e : andG m (p :: r) = andG (m.set p.1.toNat (Builtin.bitAnd (szI m p.1) p.2)) r := rfl
    have hz : szI m p.1 = g0 m p.1.toNat := rfl
    rw [e, andG_bit r _ (fun i hi => by
      rw [List.length_set] at hi
      rw [g0_set]
      split
      · rw [hz]; exact (and_nn (h0 _ hp.1) hp.2).1
      · exact h0 i hi) (by rw [List.length_set]; exact hi) (fun q hq => by rw [List.length_set]; exact hg q (by simp [hq])), g0_set, hz]
    by_cases hc : p.1.toNat = i
    · rw [if_pos ⟨hc, hc ▸ hi⟩, bit_and (h0 _ hp.1) hp.2, Bool.and_eq_true]
      subst hc
      constructor
      · rintro ⟨⟨a, b⟩, c⟩
        refine ⟨a, fun q hq hqe => ?_⟩
        rcases List.mem_cons.mp hq with e | e
        · subst e; exact b
        · exact c q e hqe
      · rintro ⟨a, b⟩
        exact ⟨⟨a, b p (by simp) rfl⟩, fun q hq => b q (by simp [hq])⟩
    · rw [if_neg (fun z => hc z.1)]
      constructor
      · rintro ⟨a, b⟩
        refine ⟨a, fun q hq hqe => ?_⟩
        rcases List.mem_cons.mp hq with e | e
        · subst e; exact absurd hqe hc
        · exact b q e hqe
      · rintro ⟨a, b⟩
        exact ⟨a, fun q hq => b q (by simp [hq])⟩
theorem andG_cls {T : Nat → Int → Prop} {n : Nat} : ∀ (g : List (Int × Int)) (m : List Int), (∀ i, i < n → T i (g0 m i)) → (∀ p ∈ g, p.1.toNat < n ∧ ∀ m, T p.1.toNat m → T p.1.toNat (Builtin.bitAnd m p.2)) → ∀ i, i < n → T i (g0 (andG m g) i)
  | [], m, h, _ => h
  | p :: r, m, h, hg => andG_cls r (m.set p.1.toNat (Builtin.bitAnd (szI m p.1) p.2)) (fun i hi => by
      rw [g0_set]
      split
      · rename_i hc
        obtain ⟨hc, _⟩ := hc
        subst hc
        exact (hg p (by simp)).2 _ (h _ hi)
      · exact h i hi) fun q hq => hg q (by simp [hq])
/-- a deed over the class -/
structure DOk (n : Nat) (T : Nat → Int → Prop) (full : List Int) (D : Deed) : Prop where
  g : ∀ p ∈ D.b, p.1.toNat < n ∧ 0 ≤ p.2 ∧ ∀ m, T p.1.toNat m → T p.1.toNat (Builtin.bitAnd m p.2)
  c : ∀ p ∈ D.c, p.1.toNat < n ∧ bitB (g0 full p.1.toNat) p.2.2 = true
  nd : (D.c.map fun p => p.1.toNat).Nodup
theorem eff_full {n : Nat} {T : Nat → Int → Prop} {full : List Int} {D : Deed} {x : List Int} (hD : DOk n T full D) (hl : x.length = n) (hx : Fit n full x) : Fit n full (effI x D.c) := fun i hi => by
  by_cases h : i ∈ D.c.map fun p => p.1.toNat
  · obtain ⟨p, hp, rfl⟩ := List.mem_map.mp h
    rw [eff_in _ _ hD.nd p hp (by omega)]
    exact (hD.c p hp).2
  · rw [eff_out _ _ h]
    exact hx i hi
theorem before_core {n : Nat} {T : Nat → Int → Prop} {full sk : List Int} {D : Deed} (hT : Tn n T) (hf : ∀ i, i < n → T i (g0 full i)) (hs : Ok n T sk) (hD : DOk n T full D) (ha : D.c.all (setOk sk) = true) :
    (andG (setFull full sk D.c) D.b).length = n ∧ (∀ i, i < n → T i (g0 (andG (setFull full sk D.c) D.b) i)) ∧ ∀ x, x.length = n → Fit n full x → (Fit n (andG (setFull full sk D.c) D.b) x ↔ GFit D x ∧ Fit n sk (effI x D.c)) := by
  have hl : (setFull full sk D.c).length = n := by rw [setFull_len]; exact hs.len
  have hc : ∀ i, i < n → T i (g0 (setFull full sk D.c) i) := fun i hi => by
    rcases setFull_or (full := full) (i := i) D.c sk with h | h <;> rw [h]
    · exact hs.t i hi
    · exact hf i hi
  refine ⟨by rw [andG_len, hl], andG_cls _ _ hc fun p hp => ⟨(hD.g p hp).1, (hD.g p hp).2.2⟩, fun x hx hxf => ?_⟩
  have hb : ∀ i, i < n → (bitB (g0 (andG (setFull full sk D.c) D.b) i) (g0 x i) = true ↔ bitB (g0 (setFull full sk D.c) i) (g0 x i) = true ∧ ∀ p ∈ D.b, p.1.toNat = i → bitB p.2 (g0 x i) = true) := fun i hi =>
    andG_bit _ _ (fun j hj => hT.nn j _ (by omega) (hc j (by omega))) (by omega) fun p hp => ⟨by have := (hD.g p hp).1; omega, (hD.g p hp).2.1⟩
  constructor
  · intro h
    refine ⟨fun p hp => ((hb _ (hD.g p hp).1).mp (h _ (hD.g p hp).1)).2 p hp rfl, fun i hi => ?_⟩
    have h1 := ((hb i hi).mp (h i hi)).1
    by_cases hm : i ∈ D.c.map fun p => p.1.toNat
    · obtain ⟨p, hp, rfl⟩ := List.mem_map.mp hm
      rw [eff_in _ _ hD.nd p hp (by omega)]
      exact List.all_eq_true.mp ha p hp
    · rw [eff_out _ _ hm]
      rw [setFull_out _ _ hm] at h1
      exact h1
  · rintro ⟨h1, h2⟩ i hi
    refine (hb i hi).mpr ⟨?_, fun p hp e => e ▸ h1 p hp⟩
    by_cases hm : i ∈ D.c.map fun p => p.1.toNat
    · rw [setFull_in _ _ hm (by rw [hs.len]; exact hi)]
      exact hxf i hi
    · have h3 := h2 i hi
      rw [eff_out _ _ hm] at h3
      rw [setFull_out _ _ hm]
      exact h3
theorem all_ne {n : Nat} {m : List Int} (hl : m.length = n) : m.all (fun m => decide (m ≠ 0)) = true ↔ ∀ i, i < n → g0 m i ≠ 0 := by
  rw [List.all_eq_true]
  constructor
  · intro h i hi
    exact of_decide_eq_true (h _ (getD_mem (by omega)))
  · intro h x hx
    obtain ⟨i, hi, rfl⟩ := List.getElem_of_mem hx
    have := h i (by omega)
    refine decide_eq_true ?_
    unfold g0 at this
    rwa [List.getD_eq_getElem?_getD, List.getElem?_eq_getElem hi] at this
theorem before_some {n : Nat} {T : Nat → Int → Prop} {full sk e : List Int} {D : Deed} (hT : Tn n T) (hf : ∀ i, i < n → T i (g0 full i)) (hs : Ok n T sk) (hD : DOk n T full D) (h : beforeI full D sk = some e) : Ok n T e ∧ ∀ x, x.length = n → Fit n full x → (Fit n e x ↔ GFit D x ∧ Fit n sk (effI x D.c)) := by
  unfold beforeI at h
  split at h
  · rename_i ha
    obtain ⟨b1, b2, b3⟩ := before_core hT hf hs hD ha
    split at h
    · rename_i hz
      cases h
      exact ⟨⟨b1, b2, (all_ne b1).mp hz⟩, b3⟩
    · cases h
  · cases h
theorem before_none {n : Nat} {T : Nat → Int → Prop} {full sk : List Int} {D : Deed} (hT : Tn n T) (hf : ∀ i, i < n → T i (g0 full i)) (hs : Ok n T sk) (hD : DOk n T full D) (h : beforeI full D sk = none) (x : List Int) (hx : x.length = n) (hxf : Fit n full x) : ¬ (GFit D x ∧ Fit n sk (effI x D.c)) := by
  intro hc
  unfold beforeI at h
  split at h
  · rename_i ha
    obtain ⟨b1, b2, b3⟩ := before_core hT hf hs hD ha
    split at h
    · cases h
    · rename_i hz
      rw [all_ne b1] at hz
      exact hz fun i hi => bit_ne ((b3 x hx hxf).mpr hc i hi)
  · rename_i ha
    refine ha (List.all_eq_true.mpr fun p hp => ?_)
    have h2 := hc.2 p.1.toNat (hD.c p hp).1
    rw [eff_in _ _ hD.nd p hp (by have := (hD.c p hp).1; omega)] at h2
    exact h2
/-! ### packed sketches -/
def packN (sk : List Nat) (p : Nat) : Nat := sk.foldl (fun p m => p <<< 16 ||| m) p
theorem or_nn {a b : Int} (ha : 0 ≤ a) (hb : 0 ≤ b) : Builtin.bitOr a b = ((a.toNat ||| b.toNat : Nat) : Int) := by
  rw [bitOr_and, bitAnd_pp ha hb]
  have := nat_or_add_and a.toNat b.toNat
  omega
theorem pack_nat : ∀ (sk : List Int) (p : Nat), (∀ m ∈ sk, 0 ≤ m) → sk.foldl (fun p m => Builtin.bitOr (p * 2 ^ 16) m) (p : Int) = (packN (sk.map Int.toNat) p : Int)
  | [], p, _ => rfl
  | m :: r, p, h => by
    rw [List.foldl_cons, or_nn (by omega) (h m (by simp))]
    rw [pack_nat r _ fun x hx => h x (by simp [hx])]
    unfold packN
    rw [List.map_cons, List.foldl_cons, Nat.shiftLeft_eq]
    have : ((p : Int) * 2 ^ 16).toNat = p * 2 ^ 16 := by omega
    rw [this]
theorem and_sub {a b : Nat} : a &&& b = a ↔ ∀ j, a.testBit j = true → b.testBit j = true := by
  constructor
  · intro h j hj
    rw [← h, Nat.testBit_and, Bool.and_eq_true] at hj
    exact hj.2
  · intro h
    apply Nat.eq_of_testBit_eq
    intro j
    rw [Nat.testBit_and]
    have := h j
    cases h1 : a.testBit j
    · rfl
    · rw [this h1]; rfl
theorem step_bit {p m : Nat} (hm : m < 65536) (j : Nat) : (p <<< 16 ||| m).testBit j = if j < 16 then m.testBit j else p.testBit (j - 16) := by
  rw [Nat.testBit_or, Nat.testBit_shiftLeft]
  split
  · rename_i h
    rw [decide_eq_false (by omega)]; simp
  · rename_i h
    rw [decide_eq_true (by omega), Nat.testBit_lt_two_pow (x := m) (Nat.lt_of_lt_of_le hm (Nat.pow_le_pow_right (n := 2) (i := 16) (by decide) (by omega)))]; simp
theorem packN_sub : ∀ (a b : List Nat) (p q : Nat), a.length = b.length → (∀ m ∈ a, m < 65536) → (∀ m ∈ b, m < 65536) → packN a p &&& packN b q = packN a p → (p &&& q = p) ∧ ∀ i, i < a.length → a.getD i 0 &&& b.getD i 0 = a.getD i 0
  | [], [], p, q, _, _, _, h => ⟨h, fun i hi => by simp at hi⟩
  | x :: a, y :: b, p, q, hl, ha, hb, h => by
    have hx := ha x (by simp)
    have hy := hb y (by simp)
    obtain ⟨h1, h2⟩ := packN_sub a b (p <<< 16 ||| x) (q <<< 16 ||| y) (by simpa using hl) (fun m hm => ha m (by simp [hm])) (fun m hm => hb m (by simp [hm])) h
    rw [and_sub] at h1
    refine ⟨and_sub.mpr fun j hj => ?_, fun i hi => ?_⟩
    · have := h1 (j + 16)
      rw [step_bit hx, step_bit hy, if_neg (by omega), if_neg (by omega), Nat.add_sub_cancel] at this
      exact this hj
    · cases i with
      | succ i => exact h2 i (by simpa using hi)
      | zero =>
        show x &&& y = x
        refine and_sub.mpr fun j hj => ?_
        by_cases hj16 : j < 16
        · have := h1 j
          rw [step_bit hx, step_bit hy, if_pos hj16, if_pos hj16] at this
          exact this hj
        · rw [Nat.testBit_lt_two_pow (x := x) (Nat.lt_of_lt_of_le hx (Nat.pow_le_pow_right (n := 2) (i := 16) (by decide) (by omega)))] at hj
          cases hj
  | [], _ :: _, _, _, h, _, _, _ => by simp at h
  | _ :: _, [], _, _, h, _, _, _ => by simp at h
theorem g0_mem_all {n : Nat} {a : List Int} {P : Int → Prop} (hl : a.length = n) (h : ∀ i, i < n → P (g0 a i)) : ∀ m ∈ a, P m := fun m hm => by
  obtain ⟨i, hi, rfl⟩ := List.getElem_of_mem hm
  have := h i (by omega)
  unfold g0 at this
  rwa [List.getD_eq_getElem?_getD, List.getElem?_eq_getElem hi] at this
theorem pack_sub {n : Nat} {a b : List Int} (ha : a.length = n) (hb : b.length = n) (ra : ∀ i, i < n → 0 ≤ g0 a i ∧ g0 a i < 65536) (rb : ∀ i, i < n → 0 ≤ g0 b i ∧ g0 b i < 65536) (h : Builtin.bitAnd (packI a) (packI b) = packI a) (d : List Int) (hd : Fit n a d) : Fit n b d := by
  have ma := g0_mem_all (P := fun m => 0 ≤ m ∧ m < 65536) ha ra
  have mb := g0_mem_all (P := fun m => 0 ≤ m ∧ m < 65536) hb rb
  have ea : packI a = (packN (a.map Int.toNat) 0 : Int) := pack_nat a 0 fun m hm => (ma m hm).1
  have eb : packI b = (packN (b.map Int.toNat) 0 : Int) := pack_nat b 0 fun m hm => (mb m hm).1
  rw [ea, eb, bitAnd_pp (by omega) (by omega)] at h
  simp only [Int.toNat_natCast] at h
  have h2 := (packN_sub (a.map Int.toNat) (b.map Int.toNat) 0 0 (by simp [ha, hb]) (fun m hm => by
    obtain ⟨x, hx, rfl⟩ := List.mem_map.mp hm
    have := ma x hx; omega) (fun m hm => by
    obtain ⟨x, hx, rfl⟩ := List.mem_map.mp hm
    have := mb x hx; omega) (by omega)).2
  intro i hi
  have h3 := h2 i (by simp [ha, hi])
  have ga : (a.map Int.toNat).getD i 0 = (g0 a i).toNat := by
    simp [g0, List.getD_eq_getElem?_getD, show i < a.length by omega]
  have gb : (b.map Int.toNat).getD i 0 = (g0 b i).toNat := by
    simp [g0, List.getD_eq_getElem?_getD, show i < b.length by omega]
  rw [ga, gb, and_sub] at h3
  have h4 := hd i hi
  rw [bit_tb (ra i hi).1] at h4
  rw [bit_tb (rb i hi).1]
  exact h3 _ h4
/-! ### counting -/
theorem nodup_len {α : Type} [DecidableEq α] : ∀ (L K : List α), L.Nodup → (∀ x ∈ L, x ∈ K) → L.length ≤ K.length
  | [], K, _, _ => Nat.zero_le _
  | a :: L, K, h, hs => by
    rw [List.nodup_cons] at h
    have ha := hs a (by simp)
    have ih := nodup_len L (K.erase a) h.2 fun x hx => (List.mem_erase_of_ne (show x ≠ a from fun e => h.1 (e ▸ hx))).mpr (hs x (by simp [hx]))
    rw [List.length_erase_of_mem ha] at ih
    have : 0 < K.length := List.length_pos_of_mem ha
    rw [List.length_cons]; omega
def prodL : List (List Int) → List (List Int)
  | [] => [[]]
  | A :: r => A.flatMap fun a => (prodL r).map fun l => a :: l
def lenP : List (List Int) → Nat
  | [] => 1
  | A :: r => A.length * lenP r
theorem prodL_len : ∀ As : List (List Int), (prodL As).length = lenP As
  | [] => rfl
  | A :: r => by
    have ih := prodL_len r
    show (A.flatMap fun a => (prodL r).map fun l => a :: l).length = A.length * lenP r
    rw [← ih]
    induction A with
    | nil => simp
    | cons a A ihA => rw [List.flatMap_cons, List.length_append, ihA, List.length_map, List.length_cons, Nat.succ_mul]; omega
theorem prodL_mem : ∀ (As : List (List Int)) (l : List Int), l.length = As.length → (∀ i, i < As.length → g0 l i ∈ As.getD i []) → l ∈ prodL As
  | [], l, h, _ => by
    have : l = [] := List.eq_nil_of_length_eq_zero h
    subst this; simp [prodL]
  | A :: r, [], h, _ => by simp at h
  | A :: r, x :: l, h, hm => by
    refine List.mem_flatMap.mpr ⟨x, hm 0 (by simp), List.mem_map.mpr ⟨l, prodL_mem r l (by simpa using h) (fun i hi => hm (i + 1) (by simpa using hi)), rfl⟩⟩
end Q
end RW
set_option Elab.async false
set_option linter.all false
set_option maxRecDepth 100000
set_option maxHeartbeats 4000000
namespace RW
open PySem PySem.Spec PyProof.Rows L2
local macro_rules | `(tactic| walk_at "sm") => `(tactic| first
  | exact Same.refl _
  | assumption
  | exact same_new (by assumption)
  | (refine Same.trans ?_ (by assumption); walk_at "sm")
  | (refine Same.trans ?_ (same_new (by assumption)); walk_at "sm"))
local macro_rules | `(tactic| walk_at "rp") => `(tactic| first
  | assumption
  | exact rfl
  | (refine Rep.mono (tx_of ?_) (by assumption); walk_at "sm")
  | (refine Mo.mo ?_ (by assumption); walk_at "sm"))
local macro_rules | `(tactic| walk_at "ev") => `(tactic| first
  | exact ev_ci
  | exact ev_cs
  | exact ev_cb
  | exact ev_cn
  | (refine @ev_rv _ _ _ _ _ _ _ rfl ?_; walk_at "rp")
  | (refine @ev_var _ _ _ _ _ ?_ rfl ?_; (first | infer_instance | skip); walk_at "rp")
  | (refine ev_ii ?_ ?_ <;> walk_at "ev")
  | (refine ev_ib ?_ ?_ <;> walk_at "ev")
  | (refine ev_eqI ?_ ?_ <;> walk_at "ev")
  | (refine ev_neI ?_ ?_ <;> walk_at "ev")
  | (refine ev_lenT ?_ <;> walk_at "ev")
  | (refine ev_lenL ?_ <;> walk_at "ev")
  | (refine ev_int1 ?_ <;> walk_at "ev")
  | (refine et_test ?_ <;> walk_at "ev")
  | (refine et_B ?_ <;> walk_at "ev")
  | (refine et_not ?_ <;> walk_at "ev")
  | (refine et_or ?_ (fun _ => ?_) <;> walk_at "ev")
  | (refine et_and ?_ (fun _ => ?_) <;> walk_at "ev"))
namespace Q
/-! ### the search -/
structure Env (M : Mach) (pc : List (List Int)) (im : List Int) (n : Nat) (T : Nat → Int → Prop) (As : List (List Int)) : Prop where
  n1 : 1 ≤ n
  n24 : n ≤ 24
  cl : M.cells.length = n
  tn : ∀ i m, i < n → T i m → 0 ≤ m ∧ m < 65536
  pcs : ∀ s ∈ pc, Cl n T s
  pcl : pc.length ≤ 4
  im : Ok n T im
  full : ∀ i, i < n → T i (g0 (fullI M) i)
  first : NN n M.first
  fm : ∀ i, i < n → g0 M.first i < 65536
  ff : ∀ x, Fit n M.first x → Fit n (fullI M) x
  deeds : ∀ D ∈ M.deeds, DOk n T (fullI M) D
  al : As.length = n
  am : ∀ i m, i < n → T i m → m ≠ 0 → m ∈ As.getD i []
  bound : lenP As + n ^ pc.length ≤ sizeLine
def NoPc (n : Nat) (pc : List (List Int)) (x : List Int) : Prop := ∀ s ∈ pc, ¬ Fit n s x
def OgOk (M : Mach) (pc : List (List Int)) (im : List Int) (n : Nat) (sks : List (List Int)) (og : Option (Int × Int)) (sk : List Int) : Prop := match og with
  | none => ∀ x, Fit n sk x → Fit n im x ∧ NoPc n pc x
  | some (d, j) => 0 ≤ d ∧ d.toNat < M.deeds.length ∧ 0 ≤ j ∧ j.toNat < sks.length ∧ ∀ x, x.length = n → Fit n (fullI M) x → Fit n sk x → (GFit (deedI M d) x ∧ Fit n (sks.getD j.toNat []) (effI x (deedI M d).c)) ∧ NoPc n pc x
theorem pre_getD {α : Type} {a b : List α} {i : Nat} {d : α} (h : a <+: b) (hi : i < a.length) : b.getD i d = a.getD i d := by
  obtain ⟨t, rfl⟩ := h
  simp [List.getD_eq_getElem?_getD, List.getElem?_append, hi]
theorem OgOk.mono {M : Mach} {pc : List (List Int)} {im : List Int} {n : Nat} {a b : List (List Int)} {og : Option (Int × Int)} {sk : List Int} (h : OgOk M pc im n a og sk) (p : a <+: b) : OgOk M pc im n b og sk := by
  unfold OgOk at *
  split
  · exact h
  · rename_i d j
    obtain ⟨h1, h2, h3, h4, h5⟩ := h
    exact ⟨h1, h2, h3, Nat.lt_of_lt_of_le h4 p.length_le, by rw [pre_getD p h4]; exact h5⟩
structure Inv (M : Mach) (pc : List (List Int)) (im : List Int) (n : Nat) (T : Nat → Int → Prop) (S : SS) : Prop where
  wf : Wf S
  ok : ∀ s ∈ S.sk, Ok n T s
  nd : S.sk.Nodup
  org : ∀ i o, S.og[i]? = some o → OgOk M pc im n (S.sk.take i) o (S.sk.getD i [])
  fd : (S.found < 0 ∧ ∀ s ∈ S.sk, meetI s M.first = none) ∨ ∃ f : Nat, S.found = f ∧ f < S.sk.length ∧ ∃ mt, meetI (S.sk.getD f []) M.first = some mt
section
variable {M : Mach} {pc : List (List Int)} {im : List Int} {n : Nat} {T : Nat → Int → Prop} {As : List (List Int)}
theorem Env.Tn (E : Env M pc im n T As) : Tn n T := ⟨fun i m hi h => (E.tn i m hi h).1⟩
theorem Env.rng (E : Env M pc im n T As) {a : List Int} (h : Ok n T a) : ∀ i, i < n → 0 ≤ g0 a i ∧ g0 a i < 65536 := fun i hi => E.tn i _ hi (h.t i hi)
theorem Env.skOk (E : Env M pc im n T As) {a : List Int} (h : Ok n T a) : skOk a := ⟨by rw [h.len]; exact E.n24, g0_mem_all h.len (E.rng h)⟩
theorem Env.count (E : Env M pc im n T As) {S : SS} (h : Inv M pc im n T S) : S.sk.length ≤ lenP As := by
  rw [← prodL_len]
  exact nodup_len _ _ h.nd fun s hs => prodL_mem As s (by rw [(h.ok s hs).len, E.al]) fun i hi => E.am i _ (by rw [← E.al]; exact hi) ((h.ok s hs).t i (by rw [← E.al]; exact hi)) ((h.ok s hs).nz i (by rw [← E.al]; exact hi))
theorem and_selfI {a : Int} (h : 0 ≤ a) : Builtin.bitAnd a a = a := by
  rw [bitAnd_pp h h, Nat.and_self]; omega
theorem pack_nn {a : List Int} (h : ∀ m ∈ a, 0 ≤ m) : 0 ≤ packI a := by
  have e : packI a = (packN (a.map Int.toNat) 0 : Int) := pack_nat a 0 h
  omega
theorem place_inv (E : Env M pc im n T As) {S : SS} {sk : List Int} {og : Option (Int × Int)} (h : Inv M pc im n T S) (hs : Ok n T sk) (ho : OgOk M pc im n S.sk og sk) :
    Inv M pc im n T (placeI M S sk og).2 ∧ S.sk <+: (placeI M S sk og).2.sk ∧ ∃ o ∈ (placeI M S sk og).2.sk, ∀ d, Fit n sk d → Fit n o d := by
  unfold placeI
  split
  · rename_i i hi
    unfold hitI at hi
    rw [List.findIdx?_eq_some_iff_getElem] at hi
    obtain ⟨h1, h2, _⟩ := hi
    have hm : S.sk[i] ∈ S.sk := List.getElem_mem h1
    exact ⟨h, List.prefix_refl _, S.sk[i], hm, pack_sub hs.len (h.ok _ hm).len (E.rng hs) (E.rng (h.ok _ hm)) (of_decide_eq_true h2)⟩
  · rename_i hi
    unfold hitI at hi
    rw [List.findIdx?_eq_none_iff] at hi
    have hn : sk ∉ S.sk := fun hm => by
      have := hi sk hm
      rw [and_selfI (pack_nn fun m hm => ((E.skOk hs).2 m hm).1)] at this
      simp at this
    have w := h.wf
    unfold Wf at w
    refine ⟨⟨?_, ?_, ?_, ?_, ?_⟩, List.prefix_append _ _, sk, by simp, fun d hd => hd⟩
    · show (S.og ++ [og]).length = (S.sk ++ [sk]).length
      rw [List.length_append, List.length_append, w]; rfl
    · intro s hm
      rcases List.mem_append.mp hm with hm | hm
      · exact h.ok s hm
      · rw [List.mem_singleton.mp hm]; exact hs
    · show (S.sk ++ [sk]).Nodup
      rw [List.nodup_append]
      exact ⟨h.nd, by simp, fun a ha b hb e => hn (by rw [List.mem_singleton] at hb; rw [← hb, ← e]; exact ha)⟩
    · intro i o hio
      show OgOk M pc im n ((S.sk ++ [sk]).take i) o ((S.sk ++ [sk]).getD i [])
      have hio : (S.og ++ [og])[i]? = some o := hio
      by_cases hl : i < S.sk.length
      · rw [List.getElem?_append_left (by omega)] at hio
        have := h.org i o hio
        rw [List.take_append_of_le_length (by omega), pre_getD (List.prefix_append _ _) hl]
        exact this
      · rw [List.getElem?_append_right (by omega)] at hio
        have e : i - S.og.length = 0 := by
          cases hq : i - S.og.length with
          | zero => rfl
          | succ q => rw [hq] at hio; simp at hio
        have e2 : i = S.sk.length := by omega
        rw [e] at hio
        cases hio
        subst e2
        rw [List.take_left]
        rw [show (S.sk ++ [sk]).getD S.sk.length [] = sk from by simp [List.getD_eq_getElem?_getD]]
        exact ho
    · show ((if (decide (S.found < 0) && (meetI sk M.first).isSome) = true then (S.sk.length : Int) else S.found) < 0 ∧ ∀ s ∈ S.sk ++ [sk], meetI s M.first = none) ∨ ∃ f : Nat, (if (decide (S.found < 0) && (meetI sk M.first).isSome) = true then (S.sk.length : Int) else S.found) = f ∧ f < (S.sk ++ [sk]).length ∧ ∃ mt, meetI ((S.sk ++ [sk]).getD f []) M.first = some mt
      rcases h.fd with ⟨f1, f2⟩ | ⟨f, f1, f2, mt, f3⟩
      · cases hq : meetI sk M.first with
        | none =>
          refine .inl ⟨by simpa using f1, fun s hm => ?_⟩
          rcases List.mem_append.mp hm with hm | hm
          · exact f2 s hm
          · rw [List.mem_singleton.mp hm]; exact hq
        | some mt =>
          refine .inr ⟨S.sk.length, by simp [f1], by simp, mt, ?_⟩
          show meetI ((S.sk ++ [sk]).getD S.sk.length []) M.first = _
          rw [show (S.sk ++ [sk]).getD S.sk.length [] = sk from by simp [List.getD_eq_getElem?_getD]]
          exact hq
      · refine .inr ⟨f, ?_, ?_, mt, ?_⟩
        · rw [if_neg]
          · exact f1
          · rw [f1]; simp; omega
        · show f < (S.sk ++ [sk]).length
          rw [List.length_append]; omega
        · show meetI ((S.sk ++ [sk]).getD f []) M.first = _
          rw [pre_getD (List.prefix_append _ _) f2]
          exact f3
theorem fold_inv (E : Env M pc im n T As) {og : Option (Int × Int)} : ∀ (ps : List (List Int)) (r : List Int × SS), Inv M pc im n T r.2 → (∀ p ∈ ps, Ok n T p ∧ OgOk M pc im n r.2.sk og p) →
    Inv M pc im n T (ps.foldl (stepP M og) r).2 ∧ r.2.sk <+: (ps.foldl (stepP M og) r).2.sk ∧ ∀ p ∈ ps, ∃ o ∈ (ps.foldl (stepP M og) r).2.sk, ∀ d, Fit n p d → Fit n o d
  | [], r, h, _ => ⟨h, List.prefix_refl _, fun p hp => by simp at hp⟩
  | p :: ps, r, h, hp => by
    obtain ⟨a1, a2, o, ho, a3⟩ := place_inv E h (hp p (by simp)).1 (hp p (by simp)).2
    obtain ⟨b1, b2, b3⟩ := fold_inv E ps (stepP M og r p) a1 (fun q hq => ⟨(hp q (by simp [hq])).1, (hp q (by simp [hq])).2.mono a2⟩)
    refine ⟨b1, a2.trans b2, fun q hq => ?_⟩
    rcases List.mem_cons.mp hq with e | e
    · subst e
      exact ⟨o, b2.subset ho, a3⟩
    · exact b3 q e
theorem deedI_mem {j : Nat} (h : j < M.deeds.length) : deedI M (j : Int) ∈ M.deeds := by
  unfold deedI
  rw [Int.toNat_natCast]
  exact getD_mem h
theorem rowStep_inv (E : Env M pc im n T As) {S : SS} {k j : Nat} (h : Inv M pc im n T S) (hk : k < S.sk.length) (hj : j < M.deeds.length) :
    Inv M pc im n T (rowStep M pc (k : Int) S (j : Int)) ∧ S.sk <+: (rowStep M pc (k : Int) S (j : Int)).sk ∧
    ∀ x, x.length = n → Fit n (fullI M) x → GFit (deedI M (j : Int)) x → Fit n (S.sk.getD k []) (effI x (deedI M (j : Int)).c) → NoPc n pc x → ∃ o ∈ (rowStep M pc (k : Int) S (j : Int)).sk, Fit n o x := by
  have hs := h.ok _ (getD_mem (d := []) hk)
  have hD := E.deeds _ (deedI_mem hj)
  unfold rowStep
  rw [Int.toNat_natCast]
  split
  · rename_i hb
    refine ⟨h, List.prefix_refl _, fun x hx hxf hg he hnp => ?_⟩
    exact absurd ⟨hg, he⟩ (before_none E.Tn E.full hs hD hb x hx hxf)
  · rename_i e hb
    obtain ⟨c1, c2⟩ := before_some E.Tn E.full hs hD hb
    have w := without_ok E.Tn E.n1 E.pcs c1
    obtain ⟨d1, d2, d3⟩ := fold_inv E (og := some ((j : Int), (k : Int))) (withoutI e pc) ([], S) h (fun p hp => ⟨w.ok p hp, by
      refine ⟨by omega, by rw [Int.toNat_natCast]; exact hj, by omega, by rw [Int.toNat_natCast]; exact hk, fun x hx hxf hfx => ?_⟩
      obtain ⟨e1, e2⟩ := w.no p hp x hfx
      refine ⟨?_, e2⟩
      rw [Int.toNat_natCast]
      exact (c2 x hx hxf).mp e1⟩)
    refine ⟨d1, d2, fun x hx hxf hg he hnp => ?_⟩
    obtain ⟨p, hp, hpx⟩ := w.cov x ((c2 x hx hxf).mpr ⟨hg, he⟩) hnp
    obtain ⟨o, ho, hpo⟩ := d3 p hp
    exact ⟨o, ho, hpo x hpx⟩
/-- the row of k has been made up to the deed j -/
def RowD (M : Mach) (pc : List (List Int)) (n : Nat) (S : SS) (k j : Nat) : Prop := ∀ i, i < j → ∀ x, x.length = n → Fit n (fullI M) x → GFit (deedI M (i : Int)) x → Fit n (S.sk.getD k []) (effI x (deedI M (i : Int)).c) → NoPc n pc x → ∃ o ∈ S.sk, Fit n o x
theorem RowD.mono {S S' : SS} {k j : Nat} (h : RowD M pc n S k j) (hk : k < S.sk.length) (p : S.sk <+: S'.sk) : RowD M pc n S' k j := fun i hi x h1 h2 h3 h4 h5 => by
  rw [pre_getD p hk] at h4
  obtain ⟨o, ho, h6⟩ := h i hi x h1 h2 h3 h4 h5
  exact ⟨o, p.subset ho, h6⟩
theorem rowTo_inv (E : Env M pc im n T As) {S : SS} {k : Nat} (h : Inv M pc im n T S) (hk : k < S.sk.length) : ∀ j, j ≤ M.deeds.length →
    Inv M pc im n T (rowTo M pc (k : Int) S j) ∧ S.sk <+: (rowTo M pc (k : Int) S j).sk ∧ RowD M pc n (rowTo M pc (k : Int) S j) k j
  | 0, _ => ⟨h, List.prefix_refl _, fun i hi => absurd hi (by omega)⟩
  | j + 1, hj => by
    obtain ⟨a1, a2, a3⟩ := rowTo_inv E h hk j (by omega)
    have hk2 : k < (rowTo M pc (k : Int) S j).sk.length := Nat.lt_of_lt_of_le hk a2.length_le
    obtain ⟨b1, b2, b3⟩ := rowStep_inv E a1 hk2 (j := j) (by omega)
    rw [rowTo_succ]
    refine ⟨b1, a2.trans b2, fun i hi => ?_⟩
    by_cases e : i = j
    · subst e
      intro x h1 h2 h3 h4 h5
      rw [pre_getD b2 hk2] at h4
      exact b3 x h1 h2 h3 h4 h5
    · exact a3.mono hk2 b2 i (by omega)
theorem row_ok (E : Env M pc im n T As) {S : SS} {k : Nat} (h : Inv M pc im n T S) (hk : k < S.sk.length) : RowOk M pc (k : Int) S := fun j hj => by
  obtain ⟨a1, a2, _⟩ := rowTo_inv E h hk j (by omega)
  have hk2 : k < (rowTo M pc (k : Int) S j).sk.length := Nat.lt_of_lt_of_le hk a2.length_le
  have hs := a1.ok _ (getD_mem (d := []) hk2)
  rw [Int.toNat_natCast]
  refine ⟨a1.wf, hk2, by rw [hs.len, E.cl], fun e he => ?_⟩
  obtain ⟨c1, c2⟩ := before_some E.Tn E.full hs (E.deeds _ (deedI_mem hj)) he
  have w := without_ok E.Tn E.n1 E.pcs c1
  refine ⟨⟨by rw [c1.len]; exact E.n24, E.pcl, fun s hs => by rw [c1.len]; exact (E.pcs s hs).nn.1⟩, fun p hp => E.skOk (w.ok p hp), ?_⟩
  have := E.count a1
  have := w.cnt
  have := E.bound
  omega
theorem tell_run (E : Env M pc im n T As) : ∀ (m k : Nat) (S : SS), Inv M pc im n T S → (∀ i, i < k → RowD M pc n S i M.deeds.length) → k ≤ S.sk.length → lenP As ≤ k + m →
    ∃ c S', TellTo M pc c k S S' ∧ Inv M pc im n T S' ∧ S.sk <+: S'.sk ∧ k + c ≤ S'.sk.length ∧ (S'.found < 0 → ∀ i, i < S'.sk.length → RowD M pc n S' i M.deeds.length)
  | m, k, S, h, hd, hk, hm => by
    by_cases hc : S.found < 0 ∧ k < S.sk.length
    · cases m with
      | zero => have := E.count h; omega
      | succ m =>
        obtain ⟨a1, a2, a3⟩ := rowTo_inv E h hc.2 M.deeds.length (Nat.le_refl _)
        obtain ⟨c, S', b1, b2, b3, b4, b5⟩ := tell_run E m (k + 1) (rowTo M pc (k : Int) S M.deeds.length) a1 (fun i hi => by
          by_cases e : i = k
          · subst e; exact a3
          · exact (hd i (by omega)).mono (by omega) a2) (Nat.lt_of_lt_of_le hc.2 a2.length_le) (by omega)
        exact ⟨c + 1, S', .step hc (row_ok E h hc.2) b1, b2, a2.trans b3, by omega, b5⟩
    · refine ⟨0, S, .stop hc, h, List.prefix_refl _, by omega, fun hf i hi => ?_⟩
      have : ¬ k < S.sk.length := fun z => hc ⟨hf, z⟩
      exact hd i (by omega)
theorem val_mem {m v : Int} (h0 : 0 ≤ m) (hv : 0 ≤ v) (h : bitB m v = true) : v ∈ valuesI m := by
  obtain ⟨i, rfl⟩ := Int.eq_ofNat_of_zero_le hv
  have hm := bit_ne h
  have hi : m.toNat.testBit i = true := by rw [bit_tb h0, Int.toNat_natCast] at h; exact h
  have hl : i < Builtin.Int.intBits m := by
    unfold Builtin.Int.intBits
    rw [if_neg (by simpa using hm)]
    have hx : m.natAbs = m.toNat := by omega
    rw [hx]
    apply Classical.byContradiction
    intro hge
    have h2 : m.toNat < 2 ^ (m.toNat.log2 + 1) := Nat.lt_log2_self
    have h3 : m.toNat < 2 ^ i := Nat.lt_of_lt_of_le h2 (Nat.pow_le_pow_right (by decide) (by omega))
    rw [Nat.testBit_lt_two_pow h3] at hi
    cases hi
  exact List.mem_filter.mpr ⟨List.mem_map.mpr ⟨i, List.mem_range.mpr hl, rfl⟩, h⟩
theorem val_ne {m : Int} (h0 : 0 ≤ m) (h : m ≠ 0) : valuesI m ≠ [] := by
  intro hc
  have h1 : m.toNat ≠ 0 := by omega
  obtain ⟨i, hi⟩ := Nat.exists_testBit_of_ne_zero h1
  have hb : bitB m (i : Int) = true := by rw [bit_tb h0, Int.toNat_natCast]; exact hi
  have := val_mem h0 (by omega) hb
  rw [hc] at this
  cases this
theorem least_fit {mt : List Int} (h1 : mt.length = n) (h2 : ∀ i, i < n → 0 ≤ g0 mt i ∧ g0 mt i ≠ 0) : ∀ i, i < n → bitB (g0 mt i) (g0 (leastI mt) i) = true ∧ 0 ≤ g0 (leastI mt) i := fun i hi => by
  have e : g0 (leastI mt) i = (valuesI (g0 mt i)).headD 0 := by
    unfold leastI g0
    simp [List.getD_eq_getElem?_getD, show i < mt.length by omega]
  rw [e]
  have hn := val_ne (h2 i hi).1 (h2 i hi).2
  cases hv : valuesI (g0 mt i) with
  | nil => exact absurd hv hn
  | cons v r =>
    have : v ∈ valuesI (g0 mt i) := by rw [hv]; simp
    have h3 := List.mem_filter.mp this
    exact ⟨h3.2, (rg_mem h3.1).1⟩
/-- a run by deeds that avoids the piece and ends in the image -/
inductive Run (M : Mach) (pc : List (List Int)) (im : List Int) (n : Nat) : List Int → List Int → Prop where
  | nil {x : List Int} (h1 : Fit n im x) (h2 : NoPc n pc x) : Run M pc im n x []
  | cons {x : List Int} {d : Int} {ds : List Int} (h1 : NoPc n pc x) (h2 : 0 ≤ d) (h3 : d.toNat < M.deeds.length) (h4 : GFit (deedI M d) x) (r : Run M pc im n (effI x (deedI M d).c) ds) : Run M pc im n x (d :: ds)
theorem hist_run (E : Env M pc im n T As) {S : SS} (h : Inv M pc im n T S) {f : Nat} {ds : List Int} (hh : Hist S.og f ds) : ∀ x, x.length = n → Fit n (fullI M) x → Fit n (S.sk.getD f []) x → Run M pc im n x ds := by
  induction hh with
  | nil hn =>
    intro x hx hxf hfx
    obtain ⟨h1, h2⟩ := h.org _ _ hn x hfx
    exact .nil h1 h2
  | @cons m d j ds hn h0 h1 r ih =>
    intro x hx hxf hfx
    obtain ⟨a1, a2, a3, a4, a5⟩ := h.org _ _ hn
    obtain ⟨⟨b1, b2⟩, b3⟩ := a5 x hx hxf hfx
    have hD : deedI M d ∈ M.deeds := by unfold deedI; exact getD_mem a2
    refine .cons b3 a1 a2 b1 (ih _ (by rw [eff_len, hx]) (eff_full (E.deeds _ hD) hx hxf) ?_)
    have e : (S.sk.take m).getD j.toNat [] = S.sk.getD j.toNat [] := by
      rw [List.length_take] at a4
      exact (pre_getD (List.take_prefix _ _) (by rw [List.length_take]; exact a4)).symm
    rw [e] at b2
    exact b2
theorem hist_ex (h : Inv M pc im n T S) : ∀ (f : Nat), f < S.sk.length → ∃ ds, Hist S.og f ds := fun f => by
  induction f using Nat.strongRecOn with
  | ind f ih =>
    intro hf
    have w := h.wf
    unfold Wf at w
    have hl : f < S.og.length := by omega
    have e := List.getElem?_eq_getElem hl
    have ho := h.org f _ e
    cases hq : S.og[f] with
    | none => rw [hq] at e; exact ⟨[], .nil e⟩
    | some p =>
      obtain ⟨d, j⟩ := p
      rw [hq] at ho e
      obtain ⟨a1, a2, a3, a4, a5⟩ := ho
      rw [List.length_take] at a4
      obtain ⟨ds, hds⟩ := ih j.toNat (by omega) (by omega)
      exact ⟨d :: ds, .cons e a3 (by omega) hds⟩
/-- what tell finds -/
structure TellRes (M : Mach) (pc : List (List Int)) (im : List Int) (n : Nat) (g : TG) : Prop where
  yes : g.told = true → g.disk = none ∧ g.deeds = none ∧ ∃ L : List (List Int), (∀ x, Fit n im x → NoPc n pc x → ∃ s ∈ L, Fit n s x) ∧ (∀ s ∈ L, ∀ j : Nat, j < M.deeds.length → ∀ x, x.length = n → Fit n (fullI M) x → GFit (deedI M (j : Int)) x → Fit n s (effI x (deedI M (j : Int)).c) → NoPc n pc x → ∃ s' ∈ L, Fit n s' x) ∧ ∀ s ∈ L, ∀ x, Fit n M.first x → ¬ Fit n s x
  no : g.told = false → ∃ x ds, g.disk = some x ∧ g.deeds = some ds ∧ x.length = n ∧ (∀ i, i < n → 0 ≤ g0 x i) ∧ Fit n M.first x ∧ Run M pc im n x ds
theorem tell_all (E : Env M pc im n T As) (hM : MachOk M.cells M.deeds M.first) (hi : sketchB M im = true) (hp : ∀ s ∈ pc, sketchB M s = true) :
    ∃ told disk deeds, TellOk ⟨M, im, pc, told, disk, deeds⟩ ∧ TellRes M pc im n ⟨M, im, pc, told, disk, deeds⟩ := by
  have w := without_ok E.Tn E.n1 E.pcs E.im
  have h0 : Inv M pc im n T ⟨[], [], -1⟩ := ⟨rfl, fun s hs => by simp at hs, List.nodup_nil, fun i o h => by simp at h, .inl ⟨by decide, fun s hs => by simp at hs⟩⟩
  obtain ⟨a1, _, a3⟩ := fold_inv E (og := none) (withoutI im pc) ([], ⟨[], [], -1⟩) h0 (fun p hp => ⟨w.ok p hp, fun x hx => w.no p hp x hx⟩)
  have a1 : Inv M pc im n T (start0 M im pc) := a1
  have a3 : ∀ p ∈ withoutI im pc, ∃ o ∈ (start0 M im pc).sk, ∀ d, Fit n p d → Fit n o d := a3
  obtain ⟨c, S', b1, b2, b3, b4, b5⟩ := tell_run E (lenP As) 0 (start0 M im pc) a1 (fun i hi => absurd hi (by omega)) (Nat.zero_le _) (by omega)
  have hcnt := E.count b2
  have hb := E.bound
  have hcom : MachOk M.cells M.deeds M.first ∧ sketchB M im = true ∧ (∀ s ∈ pc, sketchB M s = true) ∧ pc.length ≤ 4 ∧ (∀ p ∈ withoutI im pc, skOk p) ∧ (withoutI im pc).length ≤ sizeLine := ⟨hM, hi, hp, E.pcl, fun p hp => E.skOk (w.ok p hp), by have := w.cnt; omega⟩
  obtain ⟨c1, c2, c3, c4, c5, c6⟩ := hcom
  rcases b2.fd with ⟨f1, f2⟩ | ⟨f, f1, f2, mt, f3⟩
  · refine ⟨true, none, none, ⟨c1, c2, c3, c4, c5, c6, c, S', b1, by omega, by omega, .inl ⟨f1, rfl, rfl, rfl⟩⟩, ⟨fun _ => ⟨rfl, rfl, S'.sk, fun x hx hn => ?_, fun s hs j hj x h1 h2 h3 h4 h5 => ?_, fun s hs x hx hsx => ?_⟩, fun h => (by cases h)⟩⟩
    · obtain ⟨p, hp, hpx⟩ := w.cov x hx hn
      obtain ⟨o, ho, hpo⟩ := a3 p hp
      exact ⟨o, b3.subset ho, hpo x hpx⟩
    · obtain ⟨i, hi, rfl⟩ := List.getElem_of_mem hs
      have e : S'.sk.getD i [] = S'.sk[i] := by rw [List.getD_eq_getElem?_getD, List.getElem?_eq_getElem hi]; rfl
      exact b5 f1 i hi j hj x h1 h2 h3 (by rw [e]; exact h4) h5
    · exact meet_fit ((b2.ok s hs).nn E.Tn) E.first hsx hx (f2 s hs)
  · obtain ⟨ds, hds⟩ := hist_ex b2 f f2
    have hs := b2.ok _ (getD_mem (d := []) f2)
    have hnn := hs.nn E.Tn
    obtain ⟨m1, m2⟩ := meet_some hs.len E.first.1 f3
    have m3 : ∀ i, i < n → 0 ≤ g0 mt i ∧ g0 mt i < 65536 ∧ g0 mt i ≠ 0 := fun i hi => by
      have q := and_nn (hnn.2 i hi) (E.first.2 i hi)
      have r := E.rng hs i hi
      obtain ⟨q1, q2⟩ := m2 i hi
      rw [q1] at q2 ⊢
      exact ⟨q.1, by omega, q2⟩
    have m4 := g0_mem_all (P := fun m => 0 ≤ m ∧ m < 65536 ∧ m ≠ 0) m1 m3
    have hfit' := least_fit m1 fun i hi => ⟨(m3 i hi).1, (m3 i hi).2.2⟩
    have hfit : Fit n mt (leastI mt) := fun i hi => (hfit' i hi).1
    have hf1 : Fit n (S'.sk.getD f []) (leastI mt) := fun i hi => by
      have := hfit i hi
      rw [(m2 i hi).1, bit_and (hnn.2 i hi) (E.first.2 i hi), Bool.and_eq_true] at this
      exact this.1
    have hf2 : Fit n M.first (leastI mt) := fun i hi => by
      have := hfit i hi
      rw [(m2 i hi).1, bit_and (hnn.2 i hi) (E.first.2 i hi), Bool.and_eq_true] at this
      exact this.2
    have hlen : (leastI mt).length = n := by unfold leastI; rw [List.length_map, m1]
    refine ⟨false, some (leastI mt), some ds, ⟨c1, c2, c3, c4, c5, c6, c, S', b1, by omega, by omega, .inr ⟨f, ds, mt, f1, f2, by omega, by rw [hs.len]; have := E.n24; omega, f3, ⟨by rw [m1]; have := E.n24; omega, fun m hm => ⟨⟨(m4 m hm).1, (m4 m hm).2.1⟩, val_ne (m4 m hm).1 (m4 m hm).2.2⟩⟩, hds, rfl, rfl, rfl⟩⟩, ⟨fun h => (by cases h), fun _ => ⟨leastI mt, ds, rfl, rfl, hlen, fun i hi => (hfit' i hi).2, hf2, hist_run E b2 hds _ hlen (E.ff _ hf2) hf1⟩⟩⟩
end
end Q
end RW
set_option Elab.async false
set_option linter.all false
set_option maxRecDepth 100000
set_option maxHeartbeats 4000000
namespace RW
open PySem PySem.Spec PyProof.Rows L2
local macro_rules | `(tactic| walk_at "sm") => `(tactic| first
  | exact Same.refl _
  | assumption
  | exact same_new (by assumption)
  | (refine Same.trans ?_ (by assumption); walk_at "sm")
  | (refine Same.trans ?_ (same_new (by assumption)); walk_at "sm"))
local macro_rules | `(tactic| walk_at "rp") => `(tactic| first
  | assumption
  | exact rfl
  | (refine Rep.mono (tx_of ?_) (by assumption); walk_at "sm")
  | (refine Mo.mo ?_ (by assumption); walk_at "sm"))
local macro_rules | `(tactic| walk_at "ev") => `(tactic| first
  | exact ev_ci
  | exact ev_cs
  | exact ev_cb
  | exact ev_cn
  | (refine @ev_rv _ _ _ _ _ _ _ rfl ?_; walk_at "rp")
  | (refine @ev_var _ _ _ _ _ ?_ rfl ?_; (first | infer_instance | skip); walk_at "rp")
  | (refine ev_ii ?_ ?_ <;> walk_at "ev")
  | (refine ev_ib ?_ ?_ <;> walk_at "ev")
  | (refine ev_eqI ?_ ?_ <;> walk_at "ev")
  | (refine ev_neI ?_ ?_ <;> walk_at "ev")
  | (refine ev_lenT ?_ <;> walk_at "ev")
  | (refine ev_lenL ?_ <;> walk_at "ev")
  | (refine ev_int1 ?_ <;> walk_at "ev")
  | (refine et_test ?_ <;> walk_at "ev")
  | (refine et_B ?_ <;> walk_at "ev")
  | (refine et_not ?_ <;> walk_at "ev")
  | (refine et_or ?_ (fun _ => ?_) <;> walk_at "ev")
  | (refine et_and ?_ (fun _ => ?_) <;> walk_at "ev"))
namespace Q
/-! ### the class of the masks -/
def CB (U b : Int) : Prop := 0 ≤ b ∧ (Builtin.bitAnd b U = 0 ∨ Builtin.bitAnd b U = U)
def TI (sz U m0 m : Int) : Prop := 0 ≤ m ∧ m < 2 ^ sz.toNat ∧ (Builtin.bitAnd m U = 0 ∨ Builtin.bitAnd m U = U ∨ Builtin.bitAnd m U = Builtin.bitAnd m0 U)
instance {U b : Int} : Decidable (CB U b) := by unfold CB; infer_instance
theorem and_assocI {a b c : Int} (ha : 0 ≤ a) (hb : 0 ≤ b) (hc : 0 ≤ c) : Builtin.bitAnd (Builtin.bitAnd a b) c = Builtin.bitAnd a (Builtin.bitAnd b c) := by
  rw [bitAnd_pp ha hb, bitAnd_pp (by omega) hc, bitAnd_pp hb hc, bitAnd_pp ha (by omega)]
  simp only [Int.toNat_natCast]
  rw [Nat.and_assoc]
theorem and_z {a : Int} (ha : 0 ≤ a) : Builtin.bitAnd a 0 = 0 := by
  rw [bitAnd_pp ha (by omega)]; simp
theorem rest_andI {m b U : Int} (hm : 0 ≤ m) (hb : 0 ≤ b) (hU : 0 ≤ U) : Builtin.bitAnd (Builtin.bitXor m (Builtin.bitAnd m b)) U = (((m.toNat &&& U.toNat) ^^^ (m.toNat &&& (b.toNat &&& U.toNat)) : Nat) : Int) := by
  rw [xor_nat hm hb, bitAnd_pp (by omega) hU]
  simp only [Int.toNat_natCast]
  rw [Nat.and_xor_distrib_right, Nat.and_assoc]
theorem rest_le {a b : Int} (ha : 0 ≤ a) (hb : 0 ≤ b) : Builtin.bitXor a (Builtin.bitAnd a b) ≤ a := by
  rw [xor_nat ha hb]
  have e2 : (a.toNat ^^^ (a.toNat &&& b.toNat)) ≤ a.toNat := by
    have h2 : (a.toNat ^^^ (a.toNat &&& b.toNat)) &&& a.toNat = a.toNat ^^^ (a.toNat &&& b.toNat) := by
      apply Nat.eq_of_testBit_eq
      intro i
      simp only [Nat.testBit_and, Nat.testBit_xor]
      cases a.toNat.testBit i <;> cases b.toNat.testBit i <;> rfl
    rw [← h2]
    exact Nat.and_le_right
  omega
theorem ti_and {sz U m0 m b : Int} (hU : 0 ≤ U) (h : TI sz U m0 m) (hb : CB U b) : TI sz U m0 (Builtin.bitAnd m b) := by
  obtain ⟨h1, h2, h3⟩ := h
  have q := and_nn h1 hb.1
  refine ⟨q.1, by omega, ?_⟩
  rw [and_assocI h1 hb.1 hU]
  rcases hb.2 with e | e <;> rw [e]
  · exact .inl (and_z h1)
  · exact h3
theorem ti_rest {sz U m0 m b : Int} (hU : 0 ≤ U) (h : TI sz U m0 m) (hb : CB U b) : TI sz U m0 (Builtin.bitXor m (Builtin.bitAnd m b)) := by
  obtain ⟨h1, h2, h3⟩ := h
  have q := rest_le h1 hb.1
  refine ⟨rest_nn h1 hb.1, by omega, ?_⟩
  rw [rest_andI h1 hb.1 hU]
  rcases hb.2 with e | e
  · rw [bitAnd_pp hb.1 hU] at e
    have e2 : b.toNat &&& U.toNat = 0 := by omega
    rw [e2, Nat.and_zero, Nat.xor_zero, ← bitAnd_pp h1 hU]
    exact h3
  · rw [bitAnd_pp hb.1 hU] at e
    have e2 : b.toNat &&& U.toNat = U.toNat := by omega
    rw [e2, Nat.xor_self]
    exact .inl rfl
def AI (sz U m0 : Int) : List Int := (rg (2 ^ sz.toNat)).filter fun m => decide (m ≠ 0) && (decide (Builtin.bitAnd m U = 0) || decide (Builtin.bitAnd m U = U) || decide (Builtin.bitAnd m U = Builtin.bitAnd m0 U))
theorem ai_mem {sz U m0 m : Int} (h : TI sz U m0 m) (hz : m ≠ 0) : m ∈ AI sz U m0 := by
  obtain ⟨h1, h2, h3⟩ := h
  refine List.mem_filter.mpr ⟨List.mem_map.mpr ⟨m.toNat, List.mem_range.mpr ?_, by omega⟩, ?_⟩
  · have : (m.toNat : Int) < ((2 ^ sz.toNat : Nat) : Int) := by rw [Int.natCast_pow]; show (m.toNat : Int) < 2 ^ sz.toNat; omega
    omega
  · simpa [hz] using (by rcases h3 with h | h | h <;> simp [h] : (Builtin.bitAnd m U = 0 ∨ Builtin.bitAnd m U = U) ∨ Builtin.bitAnd m U = Builtin.bitAnd m0 U)
theorem sub_bit {a b v : Int} (ha : 0 ≤ a) (hb : 0 ≤ b) (h : Builtin.bitAnd a b = a) (hv : bitB a v = true) : bitB b v = true := by
  rw [← h, bit_and ha hb, Bool.and_eq_true] at hv
  exact hv.2
/-- the product of the lengths, bounded -/
def mulP : List Nat → Nat
  | [] => 1
  | B :: r => B * mulP r
theorem lenP_le : ∀ (As : List (List Int)) (Bs : List Nat), As.length = Bs.length → (∀ i, i < Bs.length → (As.getD i []).length ≤ Bs.getD i 0) → lenP As ≤ mulP Bs
  | [], [], _, _ => Nat.le_refl _
  | A :: As, B :: Bs, h, hl => Nat.mul_le_mul (hl 0 (by simp)) (lenP_le As Bs (by simpa using h) fun i hi => hl (i + 1) (by simpa using hi))
  | [], _ :: _, h, _ => by simp at h
  | _ :: _, [], h, _ => by simp at h
end Q
end RW
set_option Elab.async false
set_option linter.all false
set_option maxRecDepth 100000
set_option maxHeartbeats 4000000
namespace RW
open PySem PySem.Spec PyProof.Rows L2
local macro_rules | `(tactic| walk_at "sm") => `(tactic| first
  | exact Same.refl _
  | assumption
  | exact same_new (by assumption)
  | (refine Same.trans ?_ (by assumption); walk_at "sm")
  | (refine Same.trans ?_ (same_new (by assumption)); walk_at "sm"))
local macro_rules | `(tactic| walk_at "rp") => `(tactic| first
  | assumption
  | exact rfl
  | (refine Rep.mono (tx_of ?_) (by assumption); walk_at "sm")
  | (refine Mo.mo ?_ (by assumption); walk_at "sm"))
local macro_rules | `(tactic| walk_at "ev") => `(tactic| first
  | exact ev_ci
  | exact ev_cs
  | exact ev_cb
  | exact ev_cn
  | (refine @ev_rv _ _ _ _ _ _ _ rfl ?_; walk_at "rp")
  | (refine @ev_var _ _ _ _ _ ?_ rfl ?_; (first | infer_instance | skip); walk_at "rp")
  | (refine ev_ii ?_ ?_ <;> walk_at "ev")
  | (refine ev_ib ?_ ?_ <;> walk_at "ev")
  | (refine ev_eqI ?_ ?_ <;> walk_at "ev")
  | (refine ev_neI ?_ ?_ <;> walk_at "ev")
  | (refine ev_lenT ?_ <;> walk_at "ev")
  | (refine ev_lenL ?_ <;> walk_at "ev")
  | (refine ev_int1 ?_ <;> walk_at "ev")
  | (refine et_test ?_ <;> walk_at "ev")
  | (refine et_B ?_ <;> walk_at "ev")
  | (refine et_not ?_ <;> walk_at "ev")
  | (refine et_or ?_ (fun _ => ?_) <;> walk_at "ev")
  | (refine et_and ?_ (fun _ => ?_) <;> walk_at "ev"))
/-! ### data at any depth: disks -/
def dpD (d : List Int) : PyData := .tuple (d.map PyData.int)
theorem dpi_ints {K : PySem.W.Frag} {H : Hp} : ∀ (d : List Int), DpAll K H (d.map V.int) (d.map PyData.int)
  | [] => .nil
  | x :: d => .cons (.int x) (dpi_ints d)
theorem dp_disk {K : PySem.W.Frag} {H : Hp} {d : List Int} {v : V} (h : Rep.rp H d v) : Dp K H v (dpD d) := by
  obtain ⟨a, vs, rfl, ha, r⟩ := h
  rw [r.ints] at ha
  exact .tup (.inl (.inl ha)) (dpi_ints d)
theorem eqvi_ints : ∀ (d e : List Int), PyData.eqvAll (d.map PyData.int) (e.map PyData.int) = decide (d = e)
  | [], [] => by simp [PyData.eqvAll]
  | [], _ :: _ => by simp [PyData.eqvAll]
  | _ :: _, [] => by simp [PyData.eqvAll]
  | x :: d, y :: e => by
    have ih := eqvi_ints d e
    simp only [List.map_cons, PyData.eqvAll]
    rw [ih]
    by_cases h : x = y <;> by_cases h2 : d = e <;> simp [PyData.eqv, h, h2]
theorem eqv_disk (d e : List Int) : PyData.eqv (dpD d) (dpD e) = decide (d = e) := by
  unfold dpD
  rw [← eqvi_ints d e]
  simp [PyData.eqv]
theorem lay_ints : ∀ (d : List Int), PyData.canLayAll0 (d.map PyData.int) = true ∧ PyData.depthAll (d.map PyData.int) = 0
  | [] => ⟨rfl, rfl⟩
  | x :: d => by
    obtain ⟨h1, h2⟩ := lay_ints d
    simp [PyData.canLayAll0, PyData.canLay0, PyData.depthAll, PyData.depth, h1, h2]
theorem shaped_disk (d : List Int) : SeqAt.shaped (dpD d) = true := by
  obtain ⟨h1, h2⟩ := lay_ints d
  simp [SeqAt.shaped, dpD, PyData.canLay0, PyData.depth, h1, h2]
theorem lay_disks : ∀ (ds : List (List Int)), PyData.canLayAll0 (ds.map dpD) = true ∧ PyData.depthAll (ds.map dpD) ≤ 1
  | [] => ⟨rfl, by simp [PyData.depthAll]⟩
  | d :: ds => by
    obtain ⟨h1, h2⟩ := lay_disks ds
    obtain ⟨h3, h4⟩ := lay_ints d
    refine ⟨by simp [PyData.canLayAll0, dpD, PyData.canLay0, h3]; exact h1, ?_⟩
    simp only [List.map_cons, PyData.depthAll]
    have : (dpD d).depth = 1 := by simp [dpD, PyData.depth, h4]
    omega
theorem shaped_disks (ds : List (List Int)) : SeqAt.shaped (.list (ds.map dpD)) = true := by
  obtain ⟨h1, h2⟩ := lay_disks ds
  simp [SeqAt.shaped, PyData.canLay0, PyData.depth, h1]
  omega
theorem any_disks (d : List Int) (ds : List (List Int)) : ((ds.map dpD).any fun z => PyData.eqv z (dpD d)) = decide (d ∈ ds) := by
  rw [Bool.eq_iff_iff, List.any_eq_true, decide_eq_true_eq]
  constructor
  · rintro ⟨z, hz, h⟩
    obtain ⟨e, he, rfl⟩ := List.mem_map.mp hz
    rw [eqv_disk] at h
    rw [← of_decide_eq_true h]; exact he
  · intro h
    exact ⟨dpD d, List.mem_map.mpr ⟨d, h, rfl⟩, by rw [eqv_disk]; simp⟩
theorem dp_disks {K : PySem.W.Frag} {H : Hp} : ∀ {ds : List (List Int)} {vs : List V}, Rps H ds vs → DpAll K H vs (ds.map dpD)
  | _, _, .nil => .nil
  | _, _, .cons r t => .cons (dp_disk r) (dp_disks t)
section
variable {K : PySem.W.Frag} {σ : L2.St} {H : Hp} {ta tb tc : TE} {dd : Addr} {ks : List (List Int)} {vs : List V} {e : List Int}
theorem ev_eqD {d e : List Int} (ha : Ev ta σ H (R d)) (hb : Ev tb σ H (R e)) : Ev (tOp (rEqD K) ta tb) σ H (R (decide (d = e))) :=
  ev_op ha hb fun x y H1 _ h1 h2 Q q => ⟨dpD d, dpD e, dp_disk h1, dp_disk h2, shaped_disk d, shaped_disk e, by rw [eqv_disk]; exact q _ _ (Same.refl _) rfl⟩
theorem ev_inDs {d : List Int} {ds : List (List Int)} (ha : Ev ta σ H (R d)) (hb : Ev tb σ H (Ls ds)) : Ev (tOp (rInD K) ta tb) σ H (R (decide (d ∈ ds))) :=
  ev_op ha hb fun x y H1 _ h1 h2 Q q => by
    obtain ⟨a, vs, rfl, ha, r⟩ := h2
    exact ⟨dpD d, _, dp_disk h1, .lst (.inl (.inl ha)) (dp_disks r), shaped_disk d, shaped_disks ds, by rw [any_disks]; exact q _ _ (Same.refl _) rfl⟩
theorem ev_notInDs {d : List Int} {ds : List (List Int)} (ha : Ev ta σ H (R d)) (hb : Ev tb σ H (Ls ds)) : Ev (tOp (rNotInD K) ta tb) σ H (R (!decide (d ∈ ds))) :=
  ev_op ha hb fun x y H1 _ h1 h2 Q q => by
    obtain ⟨a, vs, rfl, ha, r⟩ := h2
    exact ⟨dpD d, _, dp_disk h1, .lst (.inl (.inl ha)) (dp_disks r), shaped_disk d, shaped_disks ds, by rw [any_disks]; exact q _ _ (Same.refl _) rfl⟩
/-! ### keys of a dict that changes no more -/
theorem frz_var {R' : It → Hp → Prop} {i : Nat} {u : HO} (hi : σ[i]? = some (some (.ref dd))) (hd : H dd = some u) (mu : Mut (some u)) (h : ∀ od, iKeys (tVar i) σ (upd H dd (.frz od u)) R') : iKeys (tFrz (tVar i)) σ H R' :=
  ⟨_, hi, dd, u, rfl, hd, mu, fun od => by
    obtain ⟨v, hv, k⟩ := h od
    rw [hi] at hv
    cases hv
    exact k⟩
theorem rp_key {H : Hp} {q : Addr} {e : List Int} (h : H q = some (.tup ((kd e).map kV))) : Rep.rp H e (.ref q) := ⟨q, e.map V.int, rfl, by rw [h, kd_V], rps_intsK e⟩
where rps_intsK : ∀ (ns : List Int), Rps H ns (ns.map V.int)
  | [] => .nil
  | _ :: r => .cons rfl (rps_intsK r)
theorem mkv_at {i : Nat} {k : List Key} {v : V} (h : (mkv ks vs)[i]? = some (k, v)) : ∃ e, ks[i]? = some e ∧ k = kd e := by
  unfold mkv at h
  rw [List.getElem?_map] at h
  cases hz : (ks.zip vs)[i]? with
  | none => rw [hz] at h; cases h
  | some p =>
    rw [hz] at h
    have h := Option.some.inj h
    obtain ⟨h1, h2⟩ := List.getElem?_zip_eq_some.mp hz
    exact ⟨p.1, h1, (congrArg Prod.fst h).symm⟩
theorem evg_keys {od : Obj} (hl : ks.length = vs.length) (hd : H dd = some (.frz od (.dT (mkv ks vs)))) (h : Ev ta σ H (Is (.ref dd))) : EvG (KeepA dd) (iKeys ta) σ H ks.length (RI ks) := fun H1 e Rr q =>
  h H1 e _ fun v H2 e2 hv => by
    have hd2 := (e.trans e2) _ _ hd
    refine ⟨dd, od, hv, .inr ⟨_, hd2, q _ H2 e2 ?_⟩⟩
    rw [← mkv_len hl]
    exact walk_keysT.mono (fun H3 e3 => by rw [e3.1]; exact hd2) fun i H3 x H' hi e3 y => by
      obtain ⟨rfl, k, v, p, h1, rfl, h3⟩ := y
      obtain ⟨e, he, rfl⟩ := mkv_at h1
      exact ⟨Same.refl _, e, he, rp_key h3⟩
theorem evi_keys {od : Obj} (hl : ks.length = vs.length) (hd : H dd = some (.frz od (.dT (mkv ks vs)))) (h : Ev ta σ H (Is (.ref dd))) : EvI (iKeys ta) σ H ks.length (RI ks) := fun H1 e Rr q =>
  h H1 e _ fun v H2 e2 hv => by
    have hd2 := (e.trans e2) _ _ hd
    refine ⟨dd, od, hv, .inr ⟨_, hd2, q _ H2 e2 ?_⟩⟩
    rw [← mkv_len hl]
    exact walk_keysT.mono (fun H3 e3 => e3 _ _ hd2) fun i H3 x H' hi e3 y => by
      obtain ⟨rfl, k, v, p, h1, rfl, h3⟩ := y
      obtain ⟨e, he, rfl⟩ := mkv_at h1
      exact ⟨Same.refl _, e, he, rp_key h3⟩
theorem evi_frz (hl : ks.length = vs.length) (h : ∀ H1, Same H H1 → Ev ta σ H1 (fun v H' => ∃ dd, v = .ref dd ∧ H1 dd = none ∧ H' dd = some (.dT (mkv ks vs)))) : EvI (iKeys (tFrz ta)) σ H ks.length (RI ks) := fun H1 e Rr q =>
  h H1 e H1 (Same.refl _) _ fun v H2 e2 hv => by
    obtain ⟨dd, rfl, hn, hd⟩ := hv
    refine ⟨dd, _, rfl, hd, trivial, fun od => ⟨dd, od, rfl, .inr ⟨_, upd_same, q _ _ (same_mut e2 hn) ?_⟩⟩⟩
    rw [← mkv_len hl]
    exact walk_keysT.mono (fun H3 e3 => e3 _ _ upd_same) fun i H3 x H' hi e3 y => by
      obtain ⟨rfl, k, v, p, h1, rfl, h3⟩ := y
      obtain ⟨e, he, rfl⟩ := mkv_at h1
      exact ⟨Same.refl _, e, he, rp_key h3⟩
theorem ev_dget2 {i : Nat} {v : V} {φ : Srt} (hd : Rd H dd (.dT (mkv ks vs))) (hn : ks.Nodup) (h1 : ks[i]? = some e) (h2 : vs[i]? = some v) (ho : Ev tb σ H (Is (.ref dd))) (he : Ev ta σ H (R e)) (hz : Ev tc σ H φ) : Ev (tDGet2 tb ta tc) σ H (Is v) := fun H1 s Q q =>
  ho H1 s _ fun x H2 s2 hx => ⟨dd, hx, .inr ⟨_, rd_same hd (s.trans s2)⟩, he H2 (s.trans s2) _ fun y H3 s3 hy => hz H3 ((s.trans s2).trans s3) _ fun z H4 s4 _ => by
    obtain ⟨b, rfl, hb⟩ := tup_kd hy
    exact ⟨some v, .inr ⟨_, kd e, b, rd_same hd (((s.trans s2).trans s3).trans s4), rfl, s4 _ _ hb, (valV_at hn h1 h2).symm⟩, q v H4 ((s2.trans s3).trans s4) rfl⟩⟩
end
theorem last_ixA {α : Type} {f : List α} {d : α} (h : f ≠ []) : atI f (-1) = some (f.getLast?.getD d) := by
  have hl : 0 < f.length := List.length_pos_iff.mpr h
  have e2 : f.getLast?.getD d = f.getLast h := by rw [List.getLast?_eq_some_getLast h]; rfl
  unfold atI ixN
  rw [if_neg (by decide), if_pos (by omega)]
  show f[((-1 : Int) + f.length).toNat]? = _
  rw [show ((-1 : Int) + f.length).toNat = f.length - 1 by omega, e2, List.getLast_eq_getElem, List.getElem?_eq_getElem]
theorem ev_ne1 {σ : L2.St} {H : Hp} : Ev (tUn (rU fun i => V.int (-i)) (tC (V.int 1))) σ H (R (-1 : Int)) := fun H1 e Q q => ⟨1, rfl, q _ H1 (Same.refl _) rfl⟩
end RW
set_option Elab.async false
set_option linter.all false
set_option maxRecDepth 100000
set_option maxHeartbeats 4000000
namespace RW
open PySem PySem.Spec PyProof.Rows L2
local macro_rules | `(tactic| walk_at "sm") => `(tactic| first
  | exact Same.refl _
  | assumption
  | exact same_new (by assumption)
  | (refine Same.trans ?_ (by assumption); walk_at "sm")
  | (refine Same.trans ?_ (same_new (by assumption)); walk_at "sm"))
local macro_rules | `(tactic| walk_at "rp") => `(tactic| first
  | assumption
  | exact rfl
  | (refine Rep.mono (tx_of ?_) (by assumption); walk_at "sm")
  | (refine Mo.mo ?_ (by assumption); walk_at "sm"))
local macro_rules | `(tactic| walk_at "ev") => `(tactic| first
  | exact ev_ci
  | exact ev_cs
  | exact ev_cb
  | exact ev_cn
  | (refine @ev_rv _ _ _ _ _ _ _ rfl ?_; walk_at "rp")
  | (refine @ev_var _ _ _ _ _ ?_ rfl ?_; (first | infer_instance | skip); walk_at "rp")
  | (refine ev_ii ?_ ?_ <;> walk_at "ev")
  | (refine ev_ib ?_ ?_ <;> walk_at "ev")
  | (refine ev_eqI ?_ ?_ <;> walk_at "ev")
  | (refine ev_neI ?_ ?_ <;> walk_at "ev")
  | (refine ev_lenT ?_ <;> walk_at "ev")
  | (refine ev_lenL ?_ <;> walk_at "ev")
  | (refine ev_int1 ?_ <;> walk_at "ev")
  | (refine et_test ?_ <;> walk_at "ev")
  | (refine et_B ?_ <;> walk_at "ev")
  | (refine et_not ?_ <;> walk_at "ev")
  | (refine et_or ?_ (fun _ => ?_) <;> walk_at "ev")
  | (refine et_and ?_ (fun _ => ?_) <;> walk_at "ev"))
section
variable {P : Program} {w : World} {K : PySem.W.Frag} {mg : Str → Option Value} {base : Heap}
/-! ### the law, plain -/
def four : List LF := [⟨1, 3, 2, 2⟩, ⟨1, 2, 2, 2⟩, ⟨2, 2, 2, 1⟩, ⟨1, 3, 2, 1⟩]
def lfI (ns : List Int) : LF := four.getD ((cellI ns 0).fmod 4).toNat ⟨1, 3, 2, 2⟩
def formI (ns : List Int) : Form := ⟨(lfI ns).a, (lfI ns).b, (lfI ns).c, (lfI ns).d, decide (0 < ((cellI ns 0).fdiv 4).fmod 3)⟩
theorem lf_form (ns : List Int) : lf (formI ns) = lfI ns := rfl
theorem lf_at (ns : List Int) : atI four ((cellI ns 0).fmod 4) = some (lfI ns) := by
  have h0 : 0 ≤ (cellI ns 0).fmod 4 := Int.fmod_nonneg_of_pos _ (by decide)
  have h1 : (cellI ns 0).fmod 4 < 4 := Int.fmod_lt_of_pos _ (by decide)
  refine atI_at h0 ?_
  unfold lfI
  exact getD_at (by show _ < 4; omega)
theorem lf_in (ns : List Int) : lfI ns ∈ four := by
  have h0 : 0 ≤ (cellI ns 0).fmod 4 := Int.fmod_nonneg_of_pos _ (by decide)
  have h1 : (cellI ns 0).fmod 4 < 4 := Int.fmod_lt_of_pos _ (by decide)
  exact getD_mem (by show _ < 4; omega)
theorem form_ok (ns : List Int) : okF (formI ns) := by
  have h := lf_in ns
  unfold formI
  generalize lfI ns = L at h
  generalize decide (0 < ((cellI ns 0).fdiv 4).fmod 3) = bb
  simp only [four, List.mem_cons, List.not_mem_nil, or_false] at h
  rcases h with rfl | rfl | rfl | rfl <;> cases bb <;> exact ⟨by decide, by decide, by decide, by decide⟩
theorem ev_tl4 {α : Type} [Rep α] {σ : L2.St} {H : Hp} {ta tb tc td : TE} {x y z u : α} (ha : Ev ta σ H (R x)) (hb : Ev tb σ H (R y)) (hc : Ev tc σ H (R z)) (hd : Ev td σ H (R u)) : Ev (tTup (tCons ta (tCons tb (tCons tc (tCons td tNil))))) σ H (R [x, y, z, u]) :=
  ev_tup (ea_cons ha (ea_cons hb (ea_cons hc (ea_cons hd ea_nil)))) (by simp) (fun a vs H1 h1 h2 => by
    obtain ⟨v, r, rfl, hv, w, r2, rfl, hw, u, r3, rfl, hu, t, r4, rfl, ht, rfl⟩ := h2
    exact ⟨a, [v, w, u, t], rfl, h1, .cons hv (.cons hw (.cons hu (.cons ht .nil)))⟩) (fun vs H1 H2 e h2 => by
    obtain ⟨v, r, rfl, hv, w, r2, rfl, hw, u, r3, rfl, hu, t, r4, rfl, ht, rfl⟩ := h2
    exact ⟨v, _, rfl, Mo.mo e hv, w, _, rfl, Mo.mo e hw, u, _, rfl, Mo.mo e hu, t, _, rfl, Mo.mo e ht, rfl⟩)
theorem rps_ints {H : Hp} : ∀ ns : List Int, Rps H ns (ns.map V.int)
  | [] => .nil
  | _ :: r => .cons rfl (rps_ints r)
theorem ev_slSc {σ : L2.St} {H : Hp} {ta : TE} {ns : List Int} {tlo thi : TO} {lo hi : Option Int} (ha : Ev ta σ H (Sc K ns)) (hlo : EvO tlo σ H lo) (hhi : EvO thi σ H hi) : Ev (L2.tSl (rSlL K) ta tlo thi) σ H (NLs H (cutX ns lo hi)) := fun H1 e Q q =>
  ha H1 e _ fun v H2 e2 hv => hlo H2 (e.trans e2) _ fun H3 e3 => hhi H3 ((e.trans e2).trans e3) _ fun H4 e4 => by
    have s := e3.trans e4
    obtain ⟨a, rfl, hs⟩ := Mo.mo (φ := Sc K ns) s hv
    exact ⟨a, _, rfl, hs, fun p hp => q _ _ ((e2.trans s).trans (same_new hp)) ⟨p, _, rfl, ((e.trans e2).trans s).free hp, upd_same, rps_cut (rps_ints ns) lo hi⟩⟩
def startsL (ns : List Int) : List (List Int) := lstarts (formI ns)
def startI (ns : List Int) : List Int := (startsL ns).getD ((cellI ns 1).fmod ((startsL ns).length : Int)).toNat []
def cellsL (ns : List Int) : List Int := (cutX ns (some 5) (some 25)).map fun c => c
def passedL (ns : List Int) : List (List Int) := endI (formI ns) (startI ns) (cellsL ns)
def lastP (ns : List Int) : List Int := (passedL ns).getLast?.getD []
def imageL (ns : List Int) : List Int := spoilI (lastP ns) (lsizes (formI ns)) (cellI ns 2)
def fileL (ns : List Int) : Int := (cellI ns 3).fmod (lfI ns).a
def cs0N (ns : List Int) : Int := 1 + ((cellI ns 3).fdiv 4).fmod (lfI ns).d
def cs0L (ns : List Int) : List Int := (rg (cs0N ns).toNat).map fun k => (mixI (cellI ns 3) k).fmod (lfI ns).c
def momL (ns : List Int) : List Int := (passedL ns).getD (((cellI ns 4).fdiv 2).fmod ((passedL ns).length : Int)).toNat []
def seenL (ns : List Int) : List Int := liveI (formI ns) (momL ns) (fileL ns)
def csL (ns : List Int) : List Int := if (cellI ns 4).fmod 2 = 1 then (if 0 < (seenL ns).length then seenL ns else cs0L ns) else cs0L ns
def rL (ns : List Int) : RS := reachI (formI ns) (startsL ns)
def badB (ns : List Int) (d : List Int) : Bool := decide (liveI (formI ns) d (fileL ns) = csL ns)
def badL (ns : List Int) : List (List Int) := (rL ns).order.filter (badB ns)
def pieceL (ns : List Int) : List (List Int) := pieceI (formI ns) (fileL ns) (csL ns)
def avL (ns : List Int) : List (List Int) := avoidI (rL ns) (startsL ns) (badL ns)
inductive HistOk (F : Form) (r : RS) (bad : List (List Int)) (im : List Int) : List Int → List Int → Prop where
  | nil {x : List Int} (h1 : x ∉ bad) (h2 : fitsB im x = true) (h3 : ∀ v ∈ x, 0 ≤ v) : HistOk F r bad im x []
  | cons {x : List Int} {d : Int} {ds : List Int} (h1 : x ∉ bad) (h2 : x ∈ r.order) (h0 : 0 ≤ d) (hd : d.toNat < (deedsI F).length) (h3 : Q.effI x (deedI (machI F) d).c ∈ succOf r x) (h4 : ∀ p ∈ (deedI (machI F) d).c, 0 ≤ p.1 ∧ p.1 < x.length) (t : HistOk F r bad im (Q.effI x (deedI (machI F) d).c) ds) : HistOk F r bad im x (d :: ds)
/-- what the walk of the law needs to know of the plain run -/
structure LawOk (ns : List Int) where
  mach : MachOk (cellsI (formI ns)) (deedsI (formI ns)) (firstI (formI ns))
  ne : 0 < (startsL ns).length
  G : List Int → Prop
  kept : Kept (formI ns) G
  st : ∀ d ∈ startsL ns, G d
  pne : passedL ns ≠ []
  sp : ∀ d, G d → d.length ≤ 1000 ∧ d.length = (lsizes (formI ns)).length ∧ (∀ v ∈ d, 0 ≤ v ∧ v ≤ 1000) ∧ ∀ v ∈ lsizes (formI ns), 1 ≤ v ∧ v ≤ 1000
  stn : (startsL ns).Nodup
  stl : (startsL ns).length ≤ 8
  ord : ∀ d ∈ (rL ns).order, G d
  ordl : (rL ns).order.length ≤ 4000
  csok : ((csL ns).length = 1 ∨ (csL ns).length = 2) ∧ ((csL ns).length : Int) ≤ (formI ns).longest ∧ ∀ v ∈ csL ns, 0 ≤ v ∧ v < 2
  pcl : (pieceL ns).length ≤ 1000
  holds : ∀ d ∈ (rL ns).order, decide (0 < ((((pieceL ns).filter fun s => fitsB s d).map fun _ => (1 : Int)).length : Int)) = decide (d ∈ badL ns)
  ag : AGok ⟨rL ns, startsL ns, badL ns⟩
  avl : (avL ns).length ≤ 4000
  avg : ∀ d ∈ avL ns, G d
  told : Bool
  disk : Option (List Int)
  deeds : Option (List Int)
  tell : TellOk ⟨machI (formI ns), imageL ns, pieceL ns, told, disk, deeds⟩
  due : told = decide (((((avL ns).filter fun d => fitsB (imageL ns) d).map fun _ => (1 : Int)).length : Int) = 0)
  yes : told = true → 0 < ((((passedL ns).filter fun d => decide (d ∈ badL ns)).map fun _ => (1 : Int)).length : Int)
  no : told = false → ∃ x ds, disk = some x ∧ deeds = some ds ∧ x ∈ startsL ns ∧ HistOk (formI ns) (rL ns) (badL ns) (imageL ns) x ds
instance {g : RG} : Bk (ReachV g) := ⟨fun e ⟨dd, lo, as, h, r⟩ => ⟨dd, lo, as, h, { r with fr := fun a ha => e.free (r.fr a ha), fd := e.free r.fd, fl := e.free r.fl }⟩⟩
instance {ks : List (List Int)} {vs : List V} : Bk (fun (H : Hp) (v : V) (H' : Hp) => ∃ dd, v = .ref dd ∧ H dd = none ∧ H' dd = some (.dT (mkv ks vs))) := ⟨fun e ⟨dd, h1, h2, h3⟩ => ⟨dd, h1, e.free h2, h3⟩⟩
theorem q_st {tz : TS} {D : Ends} {σ : L2.St} {H : Hp} (σ' : L2.St) (e : σ = σ') (h : tz D σ' H) : tz D σ H := e ▸ h
theorem avL_eq (ns : List Int) : avL ns = avoidI (rL ns) (startsL ns) (badL ns) := rfl
section
variable {K : PySem.W.Frag}
theorem evi_avoid {σ : L2.St} {H : Hp} {ta : TA} {r : RS} {st bad av : List (List Int)} (h : ∀ H1, Same H H1 → EvA ta σ H1 [LinkS r, Ls st, BadS bad]) (ok : AGok ⟨r, st, bad⟩) (e : av = avoidI r st bad) : EvI (iKeys (tFrz (tCall sp_law_avoid [] C8.E0 ta))) σ H av.length (RI av) := by
  rw [e]
  exact evi_frz (trues_len _) fun H1 e => ev_pn (AG.mk r st bad) (h H1 e) ok
end
theorem q_cut {D : Ends} {σ : L2.St} {H : Hp} {tu tz : TS} (h : ∀ KK : TS, KK = tz → tSeq tu KK D σ H) : tSeq tu tz D σ H := h tz rfl
theorem ev_told {σ : L2.St} {H : Hp} {ta : TE} {a : Bool} {b c : Option (List Int)} (T : Txt K mg) (h : Ev ta σ H (AnsS K a b c)) : Ev (tFld K ta "told") σ H (R a) := ev_fldN ["told", "paper", "disk", "deeds"] 0 h T.cAnswer T.nAnswer_told rfl (by decide +kernel) rfl
theorem ev_disk {σ : L2.St} {H : Hp} {ta : TE} {a : Bool} {b c : Option (List Int)} (T : Txt K mg) (h : Ev ta σ H (AnsS K a b c)) : Ev (tFld K ta "disk") σ H (R b) := ev_fldN ["told", "paper", "disk", "deeds"] 2 h T.cAnswer T.nAnswer_disk rfl (by decide +kernel) rfl
theorem ev_deeds {σ : L2.St} {H : Hp} {ta : TE} {a : Bool} {b c : Option (List Int)} (T : Txt K mg) (h : Ev ta σ H (AnsS K a b c)) : Ev (tFld K ta "deeds") σ H (R c) := ev_fldN ["told", "paper", "disk", "deeds"] 3 h T.cAnswer T.nAnswer_deeds rfl (by decide +kernel) rfl
theorem q_mid {D : Ends} {σ : L2.St} {H : Hp} {tu tz : TS} (Pv : L2.St → Hp → Prop) (h1 : ∀ K : L2.St → Hp → Prop, (∀ σ' H', Pv σ' H' → K σ' H') → tu { D with nx := K } σ H) (h2 : ∀ σ' H', Pv σ' H' → tz D σ' H') : tSeq tu tz D σ H := h1 (tz D) h2
theorem q_forFrz {D : Ends} {σ : L2.St} {H : Hp} {g : L2.TG} {tb tz : TS} {dd : Addr} {i : Nat} {u : HO} (hi : σ[i]? = some (some (.ref dd))) (hd : H dd = some u) (mu : Mut (some u)) (h : ∀ od, tSeq (tFor (iKeys (tVar i)) g tb) tz D σ (upd H dd (.frz od u))) : tSeq (tFor (iKeys (tFrz (tVar i))) g tb) tz D σ H := by
  unfold tSeq tFor at h ⊢
  exact frz_var hi hd mu h
theorem RAt.frz {dd lo : Addr} {as : List Addr} {r : RS} {H0 H H1 : Hp} (h : RAt dd lo as r H0 H) (e : Same H H1) (od : Obj) : RdAt dd as r (upd H1 dd (.frz od (.dT (mkv r.order (as.map V.ref))))) := by
  refine ⟨.inr ⟨od, upd_same⟩, h.l1, fun i a ha => ?_, h.no⟩
  obtain ⟨vs, h1, h2⟩ := h.s i a ha
  have hne : a ≠ dd := fun z => by rw [z, h.d] at h1; cases h1
  refine ⟨vs, by rw [upd_ne hne]; exact e _ _ h1, Rps.mono (fun c xs hc => ?_) h2⟩
  have hne2 : c ≠ dd := fun z => by rw [z, h.d] at hc; cases hc
  rw [upd_ne hne2]
  exact e _ _ hc
/-- the dict of bad disks in the making, beside the dict of links -/
structure BAt (dd bd : Addr) (od : Obj) (as : List Addr) (r : RS) (b : List (List Int)) (H H' : Hp) : Prop where
  sm : Same H H'
  z : H' dd = some (.frz od (.dT (mkv r.order (as.map V.ref))))
  rd : RdAt dd as r H'
  b : H' bd = some (.dT (mkv b (trues b)))
  fd : H dd = none
  fb : H bd = none
theorem BAt.same {dd bd : Addr} {od : Obj} {as : List Addr} {r : RS} {b : List (List Int)} {H H1 H2 : Hp} (h : BAt dd bd od as r b H H1) (e : Same H1 H2) : BAt dd bd od as r b H H2 := ⟨h.sm.trans e, e _ _ h.z, h.rd.same e, e _ _ h.b, h.fd, h.fb⟩
theorem BAt.put {dd bd : Addr} {od : Obj} {as : List Addr} {r : RS} {b : List (List Int)} {H H1 : Hp} {e : List Int} (h : BAt dd bd od as r b H H1) : BAt dd bd od as r (b ++ [e]) H (upd H1 bd (.dT (mkv (b ++ [e]) (trues (b ++ [e]))))) := by
  have hne : dd ≠ bd := fun z => by have h1 := h.z; rw [z, h.b] at h1; cases h1
  have hz : (upd H1 bd (.dT (mkv (b ++ [e]) (trues (b ++ [e]))))) dd = some (.frz od (.dT (mkv r.order (as.map V.ref)))) := by rw [upd_ne hne]; exact h.z
  refine ⟨same_mut h.sm h.fb, hz, ⟨.inr ⟨od, hz⟩, h.rd.l1, fun i a ha => ?_, h.rd.no⟩, upd_same, h.fd, h.fb⟩
  obtain ⟨vs, h1, h2⟩ := h.rd.s i a ha
  have hne : a ≠ bd := fun z => by rw [z, h.b] at h1; cases h1
  exact ⟨vs, by rw [upd_ne hne]; exact h1, Rps.mono (tx_dT h.b) h2⟩
theorem filter_take {α : Type} {p : α → Bool} {xs : List α} {i : Nat} {x : α} (h : xs[i]? = some x) : (xs.take (i + 1)).filter p = if p x = true then (xs.take i).filter p ++ [x] else (xs.take i).filter p := by
  rw [List.take_add_one, h, List.filter_append]
  cases hp : p x <;> simp [hp]
/-- C(.., k = v, ..) -/
theorem ev_mkK {γ : Type} {σ : L2.St} {H : Hp} {t tk : TA} {φs : γ → List Srt} {φ1 φ2 : List Srt} {pre : γ → Prop} {E : XK} {C : Addr} {n m : Nat} {fs : γ → List (Str × Srt)} (g : γ) [MoA φ1] [MoA φ2] (ha : EvA t σ H φ1) (hk : EvA tk σ H φ2) (hl1 : φ1.length = n) (hl2 : φ2.length = m) (hφ : ∀ vs zs H1, Fas φ1 vs H1 → Fas φ2 zs H1 → Fas (φs g) (vs ++ zs) H1) (hp : pre g) :
    Ev (L2.tMakeK C n m (Pi C φs pre fs) (fun vs zs => vs ++ zs) E t tk) σ H (Ins C (fs g)) := fun H1 e Q q =>
  ha H1 e _ fun vs H2 e2 hv => hk H2 (e.trans e2) _ fun zs H3 e3 hz => ⟨by rw [fas_len hv, hl1], by rw [fas_len hz, hl2], fun x dx hx hd ne => by
    have s := made_same (C := C) hx hd
    refine ⟨g, x, dx, vs ++ zs, rfl, upd_same, hφ vs zs _ (MoA.mo (e3.trans s) hv) (MoA.mo s hz), hp, fun H' off ⟨dx', ws, h1, h2⟩ => ⟨rfl, q _ H' ((e2.trans e3).trans fun b o hb => off b o (ne_of_none hb hx) (s b o hb)) ⟨x, dx', ws, rfl, h1, h2⟩⟩⟩⟩
end
end RW
set_option Elab.async false
set_option linter.all false
set_option maxRecDepth 100000
set_option maxHeartbeats 4000000
namespace RW
open PySem PySem.Spec PyProof.Rows L2
local macro_rules | `(tactic| walk_at "sm") => `(tactic| first
  | exact Same.refl _
  | assumption
  | exact same_new (by assumption)
  | (refine Same.trans ?_ (by assumption); walk_at "sm")
  | (refine Same.trans ?_ (same_new (by assumption)); walk_at "sm"))
local macro_rules | `(tactic| walk_at "rp") => `(tactic| first
  | assumption
  | exact rfl
  | (refine Rep.mono (tx_of ?_) (by assumption); walk_at "sm")
  | (refine Mo.mo ?_ (by assumption); walk_at "sm"))
local macro_rules | `(tactic| walk_at "ev") => `(tactic| first
  | exact ev_ci
  | exact ev_cs
  | exact ev_cb
  | exact ev_cn
  | (refine @ev_rv _ _ _ _ _ _ _ rfl ?_; walk_at "rp")
  | (refine @ev_var _ _ _ _ _ ?_ rfl ?_; (first | infer_instance | skip); walk_at "rp")
  | (refine ev_ii ?_ ?_ <;> walk_at "ev")
  | (refine ev_ib ?_ ?_ <;> walk_at "ev")
  | (refine ev_eqI ?_ ?_ <;> walk_at "ev")
  | (refine ev_neI ?_ ?_ <;> walk_at "ev")
  | (refine ev_lenT ?_ <;> walk_at "ev")
  | (refine ev_lenL ?_ <;> walk_at "ev")
  | (refine ev_int1 ?_ <;> walk_at "ev")
  | (refine et_test ?_ <;> walk_at "ev")
  | (refine et_B ?_ <;> walk_at "ev")
  | (refine et_not ?_ <;> walk_at "ev")
  | (refine et_or ?_ (fun _ => ?_) <;> walk_at "ev")
  | (refine et_and ?_ (fun _ => ?_) <;> walk_at "ev"))
namespace Q
/-! ### the eight forms -/
def forms : List Form := [⟨1, 3, 2, 2, true⟩, ⟨1, 2, 2, 2, true⟩, ⟨2, 2, 2, 1, true⟩, ⟨1, 3, 2, 1, true⟩, ⟨1, 3, 2, 2, false⟩, ⟨1, 2, 2, 2, false⟩, ⟨2, 2, 2, 1, false⟩, ⟨1, 3, 2, 1, false⟩]
def nI (F : Form) : Nat := (F.files + 2 * F.blocks).toNat
def uI (F : Form) : List Int := if F.blocks = 3 then [113, 4, 12, 28, 0, 0, 0] else [0, 0, 0, 0, 0, 0]
def bI (F : Form) : List Nat := if F.blocks = 3 then [23, 31, 23, 11, 3, 3, 3] else if F.files = 1 then [31, 15, 15, 3, 3] else [31, 31, 15, 15, 3, 3]
def contsI (F : Form) : List (List Int) := if F.longest = 1 then lawC 1 else lawC 1 ++ lawC 2
def CellOk (F : Form) (i : Nat) : Prop := 0 ≤ g0 (uI F) i ∧ (1 ≤ g0 (lsizes F) i ∧ g0 (lsizes F) i ≤ 16) ∧ (2 : Int) ^ (g0 (lsizes F) i).toNat ≤ 65536 ∧ g0 (fullI (machI F)) i = 2 ^ (g0 (lsizes F) i).toNat - 1 ∧ 0 ≤ g0 (fullI (machI F)) i ∧ CB (g0 (uI F) i) (g0 (fullI (machI F)) i) ∧ (0 ≤ g0 (firstI F) i ∧ g0 (firstI F) i < 65536) ∧ Builtin.bitAnd (g0 (firstI F) i) (g0 (fullI (machI F)) i) = g0 (firstI F) i
instance {F : Form} {i : Nat} : Decidable (CellOk F i) := by unfold CellOk; infer_instance
def LenOk (F : Form) : Prop := (cellsI F).length = nI F ∧ 1 ≤ nI F ∧ nI F ≤ 24 ∧ lsizes F = (cellsI F).map (·.2) ∧ (bI F).length = nI F ∧ (firstI F).length = nI F ∧ mulP (bI F) + nI F ^ 3 ≤ 16777216
instance {F : Form} : Decidable (LenOk F) := by unfold LenOk; infer_instance
def DeedOk (F : Form) (D : Deed) : Prop := (∀ p ∈ D.b, p.1.toNat < nI F ∧ CB (g0 (uI F) p.1.toNat) p.2) ∧ (∀ p ∈ D.c, (0 ≤ p.1 ∧ p.1 < nI F) ∧ bitB (g0 (fullI (machI F)) p.1.toNat) p.2.2 = true) ∧ (D.c.map fun p => p.1.toNat).Nodup
instance {F : Form} {D : Deed} : Decidable (DeedOk F D) := by unfold DeedOk; infer_instance
def PieceOk (F : Form) (file : Int) (cs : List Int) : Prop := (pieceI F file cs).length ≤ 3 ∧ ∀ s ∈ pieceI F file cs, s.length = nI F ∧ sketchB (machI F) s = true ∧ ∀ i, i < nI F → CB (g0 (uI F) i) (g0 s i)
instance {F : Form} {file : Int} {cs : List Int} : Decidable (PieceOk F file cs) := by unfold PieceOk; infer_instance
theorem chk_len : ∀ F ∈ forms, LenOk F := by decide +kernel
theorem chk_cell : ∀ F ∈ forms, ∀ i, i < nI F → CellOk F i := by decide +kernel
theorem chk_deed : ∀ F ∈ forms, ∀ D ∈ deedsI F, DeedOk F D := by decide +kernel
theorem chk_piece : ∀ F ∈ forms, ∀ file ∈ rg F.files.toNat, ∀ cs ∈ contsI F, PieceOk F file cs := by decide +kernel
theorem chk_cnt : ∀ F ∈ forms, ∀ i, i < nI F → ∀ m0 ∈ rg (2 ^ (g0 (lsizes F) i).toNat), (AI (g0 (lsizes F) i) (g0 (uI F) i) m0).length ≤ (bI F).getD i 0 := by decide +kernel
theorem chk_mach1 : ∀ F ∈ forms, (1 ≤ (cellsI F).length ∧ (cellsI F).length ≤ 24) ∧ (deedsI F).length ≤ 400 ∧ (∀ z ∈ (cellsI F).map (·.2), 1 ≤ z ∧ z ≤ 16) ∧ (firstI F).length = (cellsI F).length ∧ ((firstI F).zip ((cellsI F).map (·.2))).all (fun p => isMaskI p.1 p.2) = true := by decide +kernel
theorem chk_mach2 : ∀ F ∈ forms, ((cellsI F).map (·.1)).all nameB = true ∧ ((cellsI F).map (·.1)).Nodup := by decide +kernel
theorem chk_mach3 : ∀ F ∈ forms, ((deedsI F).map (·.a)).all nameB = true := by decide +kernel
theorem chk_mach4 : ∀ F ∈ forms, ((deedsI F).map (·.a)).Nodup := by decide +kernel
theorem chk_mach5 : ∀ F ∈ forms, ∀ x ∈ deedsI F, ordB (cellsI F).length (-1) (x.b.map (·.1)) = true ∧ ordB (cellsI F).length (-1) (x.c.map (·.1)) = true ∧ guardB ((cellsI F).map (·.2)) x.b = true ∧ changesB ((cellsI F).map (·.2)) x.c = true := by decide +kernel
theorem mach_ok {F : Form} (h : F ∈ forms) : MachOk (cellsI F) (deedsI F) (firstI F) :=
  have h1 := chk_mach1 F h
  ⟨h1.1, h1.2.1, chk_mach2 F h, ⟨chk_mach3 F h, chk_mach4 F h⟩, h1.2.2.1, chk_mach5 F h, h1.2.2.2.1, h1.2.2.2.2⟩
end Q
end RW
set_option Elab.async false
set_option linter.all false
set_option maxRecDepth 100000
set_option maxHeartbeats 4000000
namespace RW
open PySem PySem.Spec PyProof.Rows L2
local macro_rules | `(tactic| walk_at "sm") => `(tactic| first
  | exact Same.refl _
  | assumption
  | exact same_new (by assumption)
  | (refine Same.trans ?_ (by assumption); walk_at "sm")
  | (refine Same.trans ?_ (same_new (by assumption)); walk_at "sm"))
local macro_rules | `(tactic| walk_at "rp") => `(tactic| first
  | assumption
  | exact rfl
  | (refine Rep.mono (tx_of ?_) (by assumption); walk_at "sm")
  | (refine Mo.mo ?_ (by assumption); walk_at "sm"))
local macro_rules | `(tactic| walk_at "ev") => `(tactic| first
  | exact ev_ci
  | exact ev_cs
  | exact ev_cb
  | exact ev_cn
  | (refine @ev_rv _ _ _ _ _ _ _ rfl ?_; walk_at "rp")
  | (refine @ev_var _ _ _ _ _ ?_ rfl ?_; (first | infer_instance | skip); walk_at "rp")
  | (refine ev_ii ?_ ?_ <;> walk_at "ev")
  | (refine ev_ib ?_ ?_ <;> walk_at "ev")
  | (refine ev_eqI ?_ ?_ <;> walk_at "ev")
  | (refine ev_neI ?_ ?_ <;> walk_at "ev")
  | (refine ev_lenT ?_ <;> walk_at "ev")
  | (refine ev_lenL ?_ <;> walk_at "ev")
  | (refine ev_int1 ?_ <;> walk_at "ev")
  | (refine et_test ?_ <;> walk_at "ev")
  | (refine et_B ?_ <;> walk_at "ev")
  | (refine et_not ?_ <;> walk_at "ev")
  | (refine et_or ?_ (fun _ => ?_) <;> walk_at "ev")
  | (refine et_and ?_ (fun _ => ?_) <;> walk_at "ev"))
namespace Q
/-! ### reached disks -/
theorem fold_id {α : Type} {f : α → Nat → α} {r : α} : ∀ ks : List Nat, (∀ k ∈ ks, f r k = r) → ks.foldl f r = r
  | [], _ => rfl
  | k :: ks, h => by
    rw [List.foldl_cons, h k (by simp)]
    exact fold_id ks fun x hx => h x (by simp [hx])
theorem range_cut {α : Type} {f : α → Nat → α} {a : α} (h : ∀ k, 64 ≤ k → f ((List.range 64).foldl f a) k = (List.range 64).foldl f a) : (List.range 4000).foldl f a = (List.range 64).foldl f a := by
  rw [show (4000 : Nat) = 64 + 3936 from rfl, List.range_add, List.foldl_append]
  exact fold_id _ fun k hk => by
    obtain ⟨j, _, rfl⟩ := List.mem_map.mp hk
    exact h _ (by omega)
def reachM (F : Form) : RS := (List.range 64).foldl (turnR F) (startR (lstarts F))
def avoidM (r : RS) (st bad : List (List Int)) : List (List Int) := (List.range 64).foldl (turnA r bad) (st.foldl (addA bad) [])
theorem reach_eq {F : Form} (h : (reachM F).order.length ≤ 64) : reachI F (lstarts F) = reachM F := range_cut fun k hk => by
  exact if_neg (show ¬ k < (reachM F).order.length by omega)
theorem avoid_eq {r : RS} {st bad : List (List Int)} (h : (avoidM r st bad).length ≤ 64) : avoidI r st bad = avoidM r st bad := range_cut fun k hk => by
  exact if_neg (show ¬ k < (avoidM r st bad).length by omega)
def gfitB (D : Deed) (x : List Int) : Bool := D.b.all fun p => bitB p.2 (g0 x p.1.toNat)
def tab : List (Form × List (List Int) × List (List (List Int))) := [
(⟨1, 3, 2, 2, true⟩, [[0, 0, 0, 0, 0, 0, 0], [1, 1, 0, 0, 0, 0, 0], [1, 1, 0, 0, 1, 0, 0], [1, 3, 1, 0, 0, 0, 0], [1, 3, 1, 0, 0, 1, 0], [1, 3, 1, 0, 1, 0, 0], [1, 3, 1, 0, 1, 1, 0], [4, 0, 0, 0, 0, 0, 0], [4, 0, 0, 0, 1, 0, 0], [4, 0, 0, 0, 0, 1, 0], [4, 0, 0, 0, 1, 1, 0], [1, 1, 0, 0, 0, 1, 0], [1, 1, 0, 0, 1, 1, 0]], [[[1, 1, 0, 0, 0, 0, 0], [1, 1, 0, 0, 1, 0, 0], [1, 3, 1, 0, 0, 0, 0], [1, 3, 1, 0, 0, 1, 0], [1, 3, 1, 0, 1, 0, 0], [1, 3, 1, 0, 1, 1, 0]], [[1, 1, 0, 0, 0, 0, 0], [1, 1, 0, 0, 1, 0, 0], [4, 0, 0, 0, 0, 0, 0]], [[1, 1, 0, 0, 0, 0, 0], [1, 1, 0, 0, 1, 0, 0], [4, 0, 0, 0, 1, 0, 0]], [[1, 3, 1, 0, 0, 0, 0], [1, 3, 1, 0, 0, 1, 0], [1, 3, 1, 0, 1, 0, 0], [1, 3, 1, 0, 1, 1, 0], [4, 0, 0, 0, 0, 0, 0]], [[1, 3, 1, 0, 0, 0, 0], [1, 3, 1, 0, 0, 1, 0], [1, 3, 1, 0, 1, 0, 0], [1, 3, 1, 0, 1, 1, 0], [4, 0, 0, 0, 0, 1, 0]], [[1, 3, 1, 0, 0, 0, 0], [1, 3, 1, 0, 0, 1, 0], [1, 3, 1, 0, 1, 0, 0], [1, 3, 1, 0, 1, 1, 0], [4, 0, 0, 0, 1, 0, 0]], [[1, 3, 1, 0, 0, 0, 0], [1, 3, 1, 0, 0, 1, 0], [1, 3, 1, 0, 1, 0, 0], [1, 3, 1, 0, 1, 1, 0], [4, 0, 0, 0, 1, 1, 0]], [[1, 1, 0, 0, 0, 0, 0], [1, 1, 0, 0, 1, 0, 0], [1, 3, 1, 0, 0, 0, 0], [1, 3, 1, 0, 0, 1, 0], [1, 3, 1, 0, 1, 0, 0], [1, 3, 1, 0, 1, 1, 0]], [[1, 1, 0, 0, 0, 0, 0], [1, 1, 0, 0, 1, 0, 0], [1, 3, 1, 0, 0, 0, 0], [1, 3, 1, 0, 0, 1, 0], [1, 3, 1, 0, 1, 0, 0], [1, 3, 1, 0, 1, 1, 0]], [[1, 1, 0, 0, 0, 1, 0], [1, 1, 0, 0, 1, 1, 0], [1, 3, 1, 0, 0, 0, 0], [1, 3, 1, 0, 0, 1, 0], [1, 3, 1, 0, 1, 0, 0], [1, 3, 1, 0, 1, 1, 0]], [[1, 1, 0, 0, 0, 1, 0], [1, 1, 0, 0, 1, 1, 0], [1, 3, 1, 0, 0, 0, 0], [1, 3, 1, 0, 0, 1, 0], [1, 3, 1, 0, 1, 0, 0], [1, 3, 1, 0, 1, 1, 0]], [[1, 1, 0, 0, 0, 1, 0], [1, 1, 0, 0, 1, 1, 0], [4, 0, 0, 0, 0, 1, 0]], [[1, 1, 0, 0, 0, 1, 0], [1, 1, 0, 0, 1, 1, 0], [4, 0, 0, 0, 1, 1, 0]]]),
(⟨1, 2, 2, 2, true⟩, [[0, 0, 0, 0, 0], [1, 1, 0, 0, 0], [1, 1, 0, 1, 0], [1, 3, 1, 0, 0], [1, 3, 1, 0, 1], [1, 3, 1, 1, 0], [1, 3, 1, 1, 1], [3, 0, 0, 0, 0], [3, 0, 0, 1, 0], [3, 0, 0, 0, 1], [3, 0, 0, 1, 1], [1, 1, 0, 0, 1], [1, 1, 0, 1, 1]], [[[1, 1, 0, 0, 0], [1, 1, 0, 1, 0], [1, 3, 1, 0, 0], [1, 3, 1, 0, 1], [1, 3, 1, 1, 0], [1, 3, 1, 1, 1]], [[1, 1, 0, 0, 0], [1, 1, 0, 1, 0], [3, 0, 0, 0, 0]], [[1, 1, 0, 0, 0], [1, 1, 0, 1, 0], [3, 0, 0, 1, 0]], [[1, 3, 1, 0, 0], [1, 3, 1, 0, 1], [1, 3, 1, 1, 0], [1, 3, 1, 1, 1], [3, 0, 0, 0, 0]], [[1, 3, 1, 0, 0], [1, 3, 1, 0, 1], [1, 3, 1, 1, 0], [1, 3, 1, 1, 1], [3, 0, 0, 0, 1]], [[1, 3, 1, 0, 0], [1, 3, 1, 0, 1], [1, 3, 1, 1, 0], [1, 3, 1, 1, 1], [3, 0, 0, 1, 0]], [[1, 3, 1, 0, 0], [1, 3, 1, 0, 1], [1, 3, 1, 1, 0], [1, 3, 1, 1, 1], [3, 0, 0, 1, 1]], [[1, 1, 0, 0, 0], [1, 1, 0, 1, 0], [1, 3, 1, 0, 0], [1, 3, 1, 0, 1], [1, 3, 1, 1, 0], [1, 3, 1, 1, 1]], [[1, 1, 0, 0, 0], [1, 1, 0, 1, 0], [1, 3, 1, 0, 0], [1, 3, 1, 0, 1], [1, 3, 1, 1, 0], [1, 3, 1, 1, 1]], [[1, 1, 0, 0, 1], [1, 1, 0, 1, 1], [1, 3, 1, 0, 0], [1, 3, 1, 0, 1], [1, 3, 1, 1, 0], [1, 3, 1, 1, 1]], [[1, 1, 0, 0, 1], [1, 1, 0, 1, 1], [1, 3, 1, 0, 0], [1, 3, 1, 0, 1], [1, 3, 1, 1, 0], [1, 3, 1, 1, 1]], [[1, 1, 0, 0, 1], [1, 1, 0, 1, 1], [3, 0, 0, 0, 1]], [[1, 1, 0, 0, 1], [1, 1, 0, 1, 1], [3, 0, 0, 1, 1]]]),
(⟨2, 2, 2, 1, true⟩, [[0, 0, 0, 0, 0, 0], [1, 0, 1, 0, 0, 0], [1, 0, 1, 0, 1, 0], [0, 1, 1, 0, 0, 0], [0, 1, 1, 0, 1, 0], [3, 0, 0, 0, 0, 0], [1, 2, 1, 1, 0, 0], [1, 2, 1, 1, 0, 1], [3, 0, 0, 0, 1, 0], [1, 2, 1, 1, 1, 0], [1, 2, 1, 1, 1, 1], [2, 1, 1, 1, 0, 0], [2, 1, 1, 1, 0, 1], [0, 3, 0, 0, 0, 0], [2, 1, 1, 1, 1, 0], [2, 1, 1, 1, 1, 1], [0, 3, 0, 0, 1, 0], [3, 1, 1, 0, 0, 0], [3, 1, 1, 0, 1, 0], [3, 2, 0, 1, 0, 0], [1, 4, 1, 0, 0, 0], [3, 2, 0, 1, 0, 1], [1, 4, 1, 0, 0, 1], [3, 2, 0, 1, 1, 0], [1, 4, 1, 0, 1, 0], [3, 2, 0, 1, 1, 1], [1, 4, 1, 0, 1, 1], [4, 1, 1, 0, 0, 0], [2, 3, 0, 1, 0, 0], [4, 1, 1, 0, 0, 1], [2, 3, 0, 1, 0, 1], [1, 3, 1, 0, 0, 0], [1, 3, 1, 0, 1, 0], [4, 1, 1, 0, 1, 0], [2, 3, 0, 1, 1, 0], [4, 1, 1, 0, 1, 1], [2, 3, 0, 1, 1, 1], [3, 3, 0, 0, 0, 0], [3, 3, 0, 0, 1, 0], [3, 4, 0, 0, 0, 0], [3, 4, 0, 0, 0, 1], [3, 4, 0, 0, 1, 0], [3, 4, 0, 0, 1, 1], [4, 3, 0, 0, 0, 0], [4, 3, 0, 0, 0, 1], [4, 3, 0, 0, 1, 0], [4, 3, 0, 0, 1, 1], [3, 1, 1, 0, 0, 1], [3, 1, 1, 0, 1, 1], [1, 3, 1, 0, 0, 1], [1, 3, 1, 0, 1, 1], [3, 3, 0, 0, 0, 1], [3, 3, 0, 0, 1, 1]], [[[1, 0, 1, 0, 0, 0], [1, 0, 1, 0, 1, 0], [0, 1, 1, 0, 0, 0], [0, 1, 1, 0, 1, 0]], [[1, 0, 1, 0, 0, 0], [1, 0, 1, 0, 1, 0], [3, 0, 0, 0, 0, 0], [1, 2, 1, 1, 0, 0], [1, 2, 1, 1, 0, 1]], [[1, 0, 1, 0, 0, 0], [1, 0, 1, 0, 1, 0], [3, 0, 0, 0, 1, 0], [1, 2, 1, 1, 1, 0], [1, 2, 1, 1, 1, 1]], [[2, 1, 1, 1, 0, 0], [2, 1, 1, 1, 0, 1], [0, 1, 1, 0, 0, 0], [0, 1, 1, 0, 1, 0], [0, 3, 0, 0, 0, 0]], [[2, 1, 1, 1, 1, 0], [2, 1, 1, 1, 1, 1], [0, 1, 1, 0, 0, 0], [0, 1, 1, 0, 1, 0], [0, 3, 0, 0, 1, 0]], [[1, 0, 1, 0, 0, 0], [1, 0, 1, 0, 1, 0], [3, 1, 1, 0, 0, 0], [3, 1, 1, 0, 1, 0]], [[1, 2, 1, 1, 0, 0], [1, 2, 1, 1, 1, 0], [3, 2, 0, 1, 0, 0], [1, 2, 1, 1, 0, 0], [1, 2, 1, 1, 0, 1], [1, 4, 1, 0, 0, 0]], [[1, 2, 1, 1, 0, 1], [1, 2, 1, 1, 1, 1], [3, 2, 0, 1, 0, 1], [1, 2, 1, 1, 0, 0], [1, 2, 1, 1, 0, 1], [1, 4, 1, 0, 0, 1]], [[1, 0, 1, 0, 0, 0], [1, 0, 1, 0, 1, 0], [3, 1, 1, 0, 0, 0], [3, 1, 1, 0, 1, 0]], [[1, 2, 1, 1, 0, 0], [1, 2, 1, 1, 1, 0], [3, 2, 0, 1, 1, 0], [1, 2, 1, 1, 1, 0], [1, 2, 1, 1, 1, 1], [1, 4, 1, 0, 1, 0]], [[1, 2, 1, 1, 0, 1], [1, 2, 1, 1, 1, 1], [3, 2, 0, 1, 1, 1], [1, 2, 1, 1, 1, 0], [1, 2, 1, 1, 1, 1], [1, 4, 1, 0, 1, 1]], [[2, 1, 1, 1, 0, 0], [2, 1, 1, 1, 0, 1], [4, 1, 1, 0, 0, 0], [2, 1, 1, 1, 0, 0], [2, 1, 1, 1, 1, 0], [2, 3, 0, 1, 0, 0]], [[2, 1, 1, 1, 0, 0], [2, 1, 1, 1, 0, 1], [4, 1, 1, 0, 0, 1], [2, 1, 1, 1, 0, 1], [2, 1, 1, 1, 1, 1], [2, 3, 0, 1, 0, 1]], [[1, 3, 1, 0, 0, 0], [1, 3, 1, 0, 1, 0], [0, 1, 1, 0, 0, 0], [0, 1, 1, 0, 1, 0]], [[2, 1, 1, 1, 1, 0], [2, 1, 1, 1, 1, 1], [4, 1, 1, 0, 1, 0], [2, 1, 1, 1, 0, 0], [2, 1, 1, 1, 1, 0], [2, 3, 0, 1, 1, 0]], [[2, 1, 1, 1, 1, 0], [2, 1, 1, 1, 1, 1], [4, 1, 1, 0, 1, 1], [2, 1, 1, 1, 0, 1], [2, 1, 1, 1, 1, 1], [2, 3, 0, 1, 1, 1]], [[1, 3, 1, 0, 0, 0], [1, 3, 1, 0, 1, 0], [0, 1, 1, 0, 0, 0], [0, 1, 1, 0, 1, 0]], [[2, 1, 1, 1, 0, 0], [2, 1, 1, 1, 0, 1], [3, 1, 1, 0, 0, 0], [3, 1, 1, 0, 1, 0], [3, 3, 0, 0, 0, 0]], [[2, 1, 1, 1, 1, 0], [2, 1, 1, 1, 1, 1], [3, 1, 1, 0, 0, 0], [3, 1, 1, 0, 1, 0], [3, 3, 0, 0, 1, 0]], [[1, 2, 1, 1, 0, 0], [1, 2, 1, 1, 1, 0], [3, 2, 0, 1, 0, 0], [3, 2, 0, 1, 0, 1], [3, 4, 0, 0, 0, 0]], [[1, 4, 1, 0, 0, 0], [1, 4, 1, 0, 1, 0], [3, 4, 0, 0, 0, 0], [1, 2, 1, 1, 0, 0], [1, 2, 1, 1, 0, 1]], [[1, 2, 1, 1, 0, 1], [1, 2, 1, 1, 1, 1], [3, 2, 0, 1, 0, 0], [3, 2, 0, 1, 0, 1], [3, 4, 0, 0, 0, 1]], [[1, 4, 1, 0, 0, 1], [1, 4, 1, 0, 1, 1], [3, 4, 0, 0, 0, 1], [1, 2, 1, 1, 0, 0], [1, 2, 1, 1, 0, 1]], [[1, 2, 1, 1, 0, 0], [1, 2, 1, 1, 1, 0], [3, 2, 0, 1, 1, 0], [3, 2, 0, 1, 1, 1], [3, 4, 0, 0, 1, 0]], [[1, 4, 1, 0, 0, 0], [1, 4, 1, 0, 1, 0], [3, 4, 0, 0, 1, 0], [1, 2, 1, 1, 1, 0], [1, 2, 1, 1, 1, 1]], [[1, 2, 1, 1, 0, 1], [1, 2, 1, 1, 1, 1], [3, 2, 0, 1, 1, 0], [3, 2, 0, 1, 1, 1], [3, 4, 0, 0, 1, 1]], [[1, 4, 1, 0, 0, 1], [1, 4, 1, 0, 1, 1], [3, 4, 0, 0, 1, 1], [1, 2, 1, 1, 1, 0], [1, 2, 1, 1, 1, 1]], [[2, 1, 1, 1, 0, 0], [2, 1, 1, 1, 0, 1], [4, 1, 1, 0, 0, 0], [4, 1, 1, 0, 1, 0], [4, 3, 0, 0, 0, 0]], [[2, 3, 0, 1, 0, 0], [2, 3, 0, 1, 0, 1], [4, 3, 0, 0, 0, 0], [2, 1, 1, 1, 0, 0], [2, 1, 1, 1, 1, 0]], [[2, 1, 1, 1, 0, 0], [2, 1, 1, 1, 0, 1], [4, 1, 1, 0, 0, 1], [4, 1, 1, 0, 1, 1], [4, 3, 0, 0, 0, 1]], [[2, 3, 0, 1, 0, 0], [2, 3, 0, 1, 0, 1], [4, 3, 0, 0, 0, 1], [2, 1, 1, 1, 0, 1], [2, 1, 1, 1, 1, 1]], [[1, 3, 1, 0, 0, 0], [1, 3, 1, 0, 1, 0], [3, 3, 0, 0, 0, 0], [1, 2, 1, 1, 0, 0], [1, 2, 1, 1, 0, 1]], [[1, 3, 1, 0, 0, 0], [1, 3, 1, 0, 1, 0], [3, 3, 0, 0, 1, 0], [1, 2, 1, 1, 1, 0], [1, 2, 1, 1, 1, 1]], [[2, 1, 1, 1, 1, 0], [2, 1, 1, 1, 1, 1], [4, 1, 1, 0, 0, 0], [4, 1, 1, 0, 1, 0], [4, 3, 0, 0, 1, 0]], [[2, 3, 0, 1, 1, 0], [2, 3, 0, 1, 1, 1], [4, 3, 0, 0, 1, 0], [2, 1, 1, 1, 0, 0], [2, 1, 1, 1, 1, 0]], [[2, 1, 1, 1, 1, 0], [2, 1, 1, 1, 1, 1], [4, 1, 1, 0, 0, 1], [4, 1, 1, 0, 1, 1], [4, 3, 0, 0, 1, 1]], [[2, 3, 0, 1, 1, 0], [2, 3, 0, 1, 1, 1], [4, 3, 0, 0, 1, 1], [2, 1, 1, 1, 0, 1], [2, 1, 1, 1, 1, 1]], [[1, 3, 1, 0, 0, 0], [1, 3, 1, 0, 1, 0], [3, 1, 1, 0, 0, 0], [3, 1, 1, 0, 1, 0]], [[1, 3, 1, 0, 0, 0], [1, 3, 1, 0, 1, 0], [3, 1, 1, 0, 0, 0], [3, 1, 1, 0, 1, 0]], [[1, 4, 1, 0, 0, 0], [1, 4, 1, 0, 1, 0], [3, 1, 1, 0, 0, 0], [3, 1, 1, 0, 1, 0]], [[1, 4, 1, 0, 0, 1], [1, 4, 1, 0, 1, 1], [3, 1, 1, 0, 0, 1], [3, 1, 1, 0, 1, 1]], [[1, 4, 1, 0, 0, 0], [1, 4, 1, 0, 1, 0], [3, 1, 1, 0, 0, 0], [3, 1, 1, 0, 1, 0]], [[1, 4, 1, 0, 0, 1], [1, 4, 1, 0, 1, 1], [3, 1, 1, 0, 0, 1], [3, 1, 1, 0, 1, 1]], [[1, 3, 1, 0, 0, 0], [1, 3, 1, 0, 1, 0], [4, 1, 1, 0, 0, 0], [4, 1, 1, 0, 1, 0]], [[1, 3, 1, 0, 0, 1], [1, 3, 1, 0, 1, 1], [4, 1, 1, 0, 0, 1], [4, 1, 1, 0, 1, 1]], [[1, 3, 1, 0, 0, 0], [1, 3, 1, 0, 1, 0], [4, 1, 1, 0, 0, 0], [4, 1, 1, 0, 1, 0]], [[1, 3, 1, 0, 0, 1], [1, 3, 1, 0, 1, 1], [4, 1, 1, 0, 0, 1], [4, 1, 1, 0, 1, 1]], [[2, 1, 1, 1, 0, 0], [2, 1, 1, 1, 0, 1], [3, 1, 1, 0, 0, 1], [3, 1, 1, 0, 1, 1], [3, 3, 0, 0, 0, 1]], [[2, 1, 1, 1, 1, 0], [2, 1, 1, 1, 1, 1], [3, 1, 1, 0, 0, 1], [3, 1, 1, 0, 1, 1], [3, 3, 0, 0, 1, 1]], [[1, 3, 1, 0, 0, 1], [1, 3, 1, 0, 1, 1], [3, 3, 0, 0, 0, 1], [1, 2, 1, 1, 0, 0], [1, 2, 1, 1, 0, 1]], [[1, 3, 1, 0, 0, 1], [1, 3, 1, 0, 1, 1], [3, 3, 0, 0, 1, 1], [1, 2, 1, 1, 1, 0], [1, 2, 1, 1, 1, 1]], [[1, 3, 1, 0, 0, 1], [1, 3, 1, 0, 1, 1], [3, 1, 1, 0, 0, 1], [3, 1, 1, 0, 1, 1]], [[1, 3, 1, 0, 0, 1], [1, 3, 1, 0, 1, 1], [3, 1, 1, 0, 0, 1], [3, 1, 1, 0, 1, 1]]]),
(⟨1, 3, 2, 1, true⟩, [[0, 0, 0, 0, 0, 0, 0], [1, 1, 0, 0, 0, 0, 0], [1, 1, 0, 0, 1, 0, 0], [4, 0, 0, 0, 0, 0, 0], [4, 0, 0, 0, 1, 0, 0]], [[[1, 1, 0, 0, 0, 0, 0], [1, 1, 0, 0, 1, 0, 0]], [[1, 1, 0, 0, 0, 0, 0], [1, 1, 0, 0, 1, 0, 0], [4, 0, 0, 0, 0, 0, 0]], [[1, 1, 0, 0, 0, 0, 0], [1, 1, 0, 0, 1, 0, 0], [4, 0, 0, 0, 1, 0, 0]], [[1, 1, 0, 0, 0, 0, 0], [1, 1, 0, 0, 1, 0, 0]], [[1, 1, 0, 0, 0, 0, 0], [1, 1, 0, 0, 1, 0, 0]]]),
(⟨1, 3, 2, 2, false⟩, [[0, 0, 0, 0, 0, 0, 0], [0, 0, 0, 0, 0, 0, 1], [0, 0, 0, 0, 0, 1, 0], [0, 0, 0, 0, 0, 1, 1], [0, 0, 0, 0, 1, 0, 0], [0, 0, 0, 0, 1, 0, 1], [0, 0, 0, 0, 1, 1, 0], [0, 0, 0, 0, 1, 1, 1], [1, 1, 0, 0, 0, 0, 0], [1, 1, 0, 0, 1, 0, 0], [1, 3, 1, 0, 0, 0, 0], [1, 3, 1, 0, 0, 1, 0], [1, 3, 1, 0, 1, 0, 0], [1, 3, 1, 0, 1, 1, 0], [1, 1, 0, 0, 0, 0, 1], [1, 1, 0, 0, 1, 0, 1], [1, 3, 1, 0, 0, 0, 1], [1, 3, 1, 0, 0, 1, 1], [1, 3, 1, 0, 1, 0, 1], [1, 3, 1, 0, 1, 1, 1], [1, 1, 0, 0, 0, 1, 0], [1, 1, 0, 0, 1, 1, 0], [1, 1, 0, 0, 0, 1, 1], [1, 1, 0, 0, 1, 1, 1], [4, 0, 0, 0, 0, 0, 0], [4, 0, 0, 0, 1, 0, 0], [4, 0, 0, 0, 0, 1, 0], [4, 0, 0, 0, 1, 1, 0], [4, 0, 0, 0, 0, 0, 1], [4, 0, 0, 0, 1, 0, 1], [4, 0, 0, 0, 0, 1, 1], [4, 0, 0, 0, 1, 1, 1]], [[[1, 1, 0, 0, 0, 0, 0], [1, 1, 0, 0, 1, 0, 0], [1, 3, 1, 0, 0, 0, 0], [1, 3, 1, 0, 0, 1, 0], [1, 3, 1, 0, 1, 0, 0], [1, 3, 1, 0, 1, 1, 0]], [[1, 1, 0, 0, 0, 0, 1], [1, 1, 0, 0, 1, 0, 1], [1, 3, 1, 0, 0, 0, 1], [1, 3, 1, 0, 0, 1, 1], [1, 3, 1, 0, 1, 0, 1], [1, 3, 1, 0, 1, 1, 1]], [[1, 1, 0, 0, 0, 1, 0], [1, 1, 0, 0, 1, 1, 0], [1, 3, 1, 0, 0, 0, 0], [1, 3, 1, 0, 0, 1, 0], [1, 3, 1, 0, 1, 0, 0], [1, 3, 1, 0, 1, 1, 0]], [[1, 1, 0, 0, 0, 1, 1], [1, 1, 0, 0, 1, 1, 1], [1, 3, 1, 0, 0, 0, 1], [1, 3, 1, 0, 0, 1, 1], [1, 3, 1, 0, 1, 0, 1], [1, 3, 1, 0, 1, 1, 1]], [[1, 1, 0, 0, 0, 0, 0], [1, 1, 0, 0, 1, 0, 0], [1, 3, 1, 0, 0, 0, 0], [1, 3, 1, 0, 0, 1, 0], [1, 3, 1, 0, 1, 0, 0], [1, 3, 1, 0, 1, 1, 0]], [[1, 1, 0, 0, 0, 0, 1], [1, 1, 0, 0, 1, 0, 1], [1, 3, 1, 0, 0, 0, 1], [1, 3, 1, 0, 0, 1, 1], [1, 3, 1, 0, 1, 0, 1], [1, 3, 1, 0, 1, 1, 1]], [[1, 1, 0, 0, 0, 1, 0], [1, 1, 0, 0, 1, 1, 0], [1, 3, 1, 0, 0, 0, 0], [1, 3, 1, 0, 0, 1, 0], [1, 3, 1, 0, 1, 0, 0], [1, 3, 1, 0, 1, 1, 0]], [[1, 1, 0, 0, 0, 1, 1], [1, 1, 0, 0, 1, 1, 1], [1, 3, 1, 0, 0, 0, 1], [1, 3, 1, 0, 0, 1, 1], [1, 3, 1, 0, 1, 0, 1], [1, 3, 1, 0, 1, 1, 1]], [[1, 1, 0, 0, 0, 0, 0], [1, 1, 0, 0, 1, 0, 0], [4, 0, 0, 0, 0, 0, 0]], [[1, 1, 0, 0, 0, 0, 0], [1, 1, 0, 0, 1, 0, 0], [4, 0, 0, 0, 1, 0, 0]], [[1, 3, 1, 0, 0, 0, 0], [1, 3, 1, 0, 0, 1, 0], [1, 3, 1, 0, 1, 0, 0], [1, 3, 1, 0, 1, 1, 0], [4, 0, 0, 0, 0, 0, 0]], [[1, 3, 1, 0, 0, 0, 0], [1, 3, 1, 0, 0, 1, 0], [1, 3, 1, 0, 1, 0, 0], [1, 3, 1, 0, 1, 1, 0], [4, 0, 0, 0, 0, 1, 0]], [[1, 3, 1, 0, 0, 0, 0], [1, 3, 1, 0, 0, 1, 0], [1, 3, 1, 0, 1, 0, 0], [1, 3, 1, 0, 1, 1, 0], [4, 0, 0, 0, 1, 0, 0]], [[1, 3, 1, 0, 0, 0, 0], [1, 3, 1, 0, 0, 1, 0], [1, 3, 1, 0, 1, 0, 0], [1, 3, 1, 0, 1, 1, 0], [4, 0, 0, 0, 1, 1, 0]], [[1, 1, 0, 0, 0, 0, 1], [1, 1, 0, 0, 1, 0, 1], [4, 0, 0, 0, 0, 0, 1]], [[1, 1, 0, 0, 0, 0, 1], [1, 1, 0, 0, 1, 0, 1], [4, 0, 0, 0, 1, 0, 1]], [[1, 3, 1, 0, 0, 0, 1], [1, 3, 1, 0, 0, 1, 1], [1, 3, 1, 0, 1, 0, 1], [1, 3, 1, 0, 1, 1, 1], [4, 0, 0, 0, 0, 0, 1]], [[1, 3, 1, 0, 0, 0, 1], [1, 3, 1, 0, 0, 1, 1], [1, 3, 1, 0, 1, 0, 1], [1, 3, 1, 0, 1, 1, 1], [4, 0, 0, 0, 0, 1, 1]], [[1, 3, 1, 0, 0, 0, 1], [1, 3, 1, 0, 0, 1, 1], [1, 3, 1, 0, 1, 0, 1], [1, 3, 1, 0, 1, 1, 1], [4, 0, 0, 0, 1, 0, 1]], [[1, 3, 1, 0, 0, 0, 1], [1, 3, 1, 0, 0, 1, 1], [1, 3, 1, 0, 1, 0, 1], [1, 3, 1, 0, 1, 1, 1], [4, 0, 0, 0, 1, 1, 1]], [[1, 1, 0, 0, 0, 1, 0], [1, 1, 0, 0, 1, 1, 0], [4, 0, 0, 0, 0, 1, 0]], [[1, 1, 0, 0, 0, 1, 0], [1, 1, 0, 0, 1, 1, 0], [4, 0, 0, 0, 1, 1, 0]], [[1, 1, 0, 0, 0, 1, 1], [1, 1, 0, 0, 1, 1, 1], [4, 0, 0, 0, 0, 1, 1]], [[1, 1, 0, 0, 0, 1, 1], [1, 1, 0, 0, 1, 1, 1], [4, 0, 0, 0, 1, 1, 1]], [[1, 1, 0, 0, 0, 0, 0], [1, 1, 0, 0, 1, 0, 0], [1, 3, 1, 0, 0, 0, 0], [1, 3, 1, 0, 0, 1, 0], [1, 3, 1, 0, 1, 0, 0], [1, 3, 1, 0, 1, 1, 0]], [[1, 1, 0, 0, 0, 0, 0], [1, 1, 0, 0, 1, 0, 0], [1, 3, 1, 0, 0, 0, 0], [1, 3, 1, 0, 0, 1, 0], [1, 3, 1, 0, 1, 0, 0], [1, 3, 1, 0, 1, 1, 0]], [[1, 1, 0, 0, 0, 1, 0], [1, 1, 0, 0, 1, 1, 0], [1, 3, 1, 0, 0, 0, 0], [1, 3, 1, 0, 0, 1, 0], [1, 3, 1, 0, 1, 0, 0], [1, 3, 1, 0, 1, 1, 0]], [[1, 1, 0, 0, 0, 1, 0], [1, 1, 0, 0, 1, 1, 0], [1, 3, 1, 0, 0, 0, 0], [1, 3, 1, 0, 0, 1, 0], [1, 3, 1, 0, 1, 0, 0], [1, 3, 1, 0, 1, 1, 0]], [[1, 1, 0, 0, 0, 0, 1], [1, 1, 0, 0, 1, 0, 1], [1, 3, 1, 0, 0, 0, 1], [1, 3, 1, 0, 0, 1, 1], [1, 3, 1, 0, 1, 0, 1], [1, 3, 1, 0, 1, 1, 1]], [[1, 1, 0, 0, 0, 0, 1], [1, 1, 0, 0, 1, 0, 1], [1, 3, 1, 0, 0, 0, 1], [1, 3, 1, 0, 0, 1, 1], [1, 3, 1, 0, 1, 0, 1], [1, 3, 1, 0, 1, 1, 1]], [[1, 1, 0, 0, 0, 1, 1], [1, 1, 0, 0, 1, 1, 1], [1, 3, 1, 0, 0, 0, 1], [1, 3, 1, 0, 0, 1, 1], [1, 3, 1, 0, 1, 0, 1], [1, 3, 1, 0, 1, 1, 1]], [[1, 1, 0, 0, 0, 1, 1], [1, 1, 0, 0, 1, 1, 1], [1, 3, 1, 0, 0, 0, 1], [1, 3, 1, 0, 0, 1, 1], [1, 3, 1, 0, 1, 0, 1], [1, 3, 1, 0, 1, 1, 1]]]),
(⟨1, 2, 2, 2, false⟩, [[0, 0, 0, 0, 0], [0, 0, 0, 0, 1], [0, 0, 0, 1, 0], [0, 0, 0, 1, 1], [1, 1, 0, 0, 0], [1, 1, 0, 1, 0], [1, 3, 1, 0, 0], [1, 3, 1, 0, 1], [1, 3, 1, 1, 0], [1, 3, 1, 1, 1], [1, 1, 0, 0, 1], [1, 1, 0, 1, 1], [3, 0, 0, 0, 0], [3, 0, 0, 1, 0], [3, 0, 0, 0, 1], [3, 0, 0, 1, 1]], [[[1, 1, 0, 0, 0], [1, 1, 0, 1, 0], [1, 3, 1, 0, 0], [1, 3, 1, 0, 1], [1, 3, 1, 1, 0], [1, 3, 1, 1, 1]], [[1, 1, 0, 0, 1], [1, 1, 0, 1, 1], [1, 3, 1, 0, 0], [1, 3, 1, 0, 1], [1, 3, 1, 1, 0], [1, 3, 1, 1, 1]], [[1, 1, 0, 0, 0], [1, 1, 0, 1, 0], [1, 3, 1, 0, 0], [1, 3, 1, 0, 1], [1, 3, 1, 1, 0], [1, 3, 1, 1, 1]], [[1, 1, 0, 0, 1], [1, 1, 0, 1, 1], [1, 3, 1, 0, 0], [1, 3, 1, 0, 1], [1, 3, 1, 1, 0], [1, 3, 1, 1, 1]], [[1, 1, 0, 0, 0], [1, 1, 0, 1, 0], [3, 0, 0, 0, 0]], [[1, 1, 0, 0, 0], [1, 1, 0, 1, 0], [3, 0, 0, 1, 0]], [[1, 3, 1, 0, 0], [1, 3, 1, 0, 1], [1, 3, 1, 1, 0], [1, 3, 1, 1, 1], [3, 0, 0, 0, 0]], [[1, 3, 1, 0, 0], [1, 3, 1, 0, 1], [1, 3, 1, 1, 0], [1, 3, 1, 1, 1], [3, 0, 0, 0, 1]], [[1, 3, 1, 0, 0], [1, 3, 1, 0, 1], [1, 3, 1, 1, 0], [1, 3, 1, 1, 1], [3, 0, 0, 1, 0]], [[1, 3, 1, 0, 0], [1, 3, 1, 0, 1], [1, 3, 1, 1, 0], [1, 3, 1, 1, 1], [3, 0, 0, 1, 1]], [[1, 1, 0, 0, 1], [1, 1, 0, 1, 1], [3, 0, 0, 0, 1]], [[1, 1, 0, 0, 1], [1, 1, 0, 1, 1], [3, 0, 0, 1, 1]], [[1, 1, 0, 0, 0], [1, 1, 0, 1, 0], [1, 3, 1, 0, 0], [1, 3, 1, 0, 1], [1, 3, 1, 1, 0], [1, 3, 1, 1, 1]], [[1, 1, 0, 0, 0], [1, 1, 0, 1, 0], [1, 3, 1, 0, 0], [1, 3, 1, 0, 1], [1, 3, 1, 1, 0], [1, 3, 1, 1, 1]], [[1, 1, 0, 0, 1], [1, 1, 0, 1, 1], [1, 3, 1, 0, 0], [1, 3, 1, 0, 1], [1, 3, 1, 1, 0], [1, 3, 1, 1, 1]], [[1, 1, 0, 0, 1], [1, 1, 0, 1, 1], [1, 3, 1, 0, 0], [1, 3, 1, 0, 1], [1, 3, 1, 1, 0], [1, 3, 1, 1, 1]]]),
(⟨2, 2, 2, 1, false⟩, [[0, 0, 0, 0, 0, 0], [0, 0, 0, 0, 0, 1], [0, 0, 0, 0, 1, 0], [0, 0, 0, 0, 1, 1], [1, 0, 1, 0, 0, 0], [1, 0, 1, 0, 1, 0], [0, 1, 1, 0, 0, 0], [0, 1, 1, 0, 1, 0], [1, 0, 1, 0, 0, 1], [1, 0, 1, 0, 1, 1], [0, 1, 1, 0, 0, 1], [0, 1, 1, 0, 1, 1], [3, 0, 0, 0, 0, 0], [1, 2, 1, 1, 0, 0], [1, 2, 1, 1, 0, 1], [3, 0, 0, 0, 1, 0], [1, 2, 1, 1, 1, 0], [1, 2, 1, 1, 1, 1], [2, 1, 1, 1, 0, 0], [2, 1, 1, 1, 0, 1], [0, 3, 0, 0, 0, 0], [2, 1, 1, 1, 1, 0], [2, 1, 1, 1, 1, 1], [0, 3, 0, 0, 1, 0], [3, 0, 0, 0, 0, 1], [3, 0, 0, 0, 1, 1], [0, 3, 0, 0, 0, 1], [0, 3, 0, 0, 1, 1], [3, 1, 1, 0, 0, 0], [3, 1, 1, 0, 1, 0], [3, 2, 0, 1, 0, 0], [1, 4, 1, 0, 0, 0], [3, 2, 0, 1, 0, 1], [1, 4, 1, 0, 0, 1], [3, 2, 0, 1, 1, 0], [1, 4, 1, 0, 1, 0], [3, 2, 0, 1, 1, 1], [1, 4, 1, 0, 1, 1], [4, 1, 1, 0, 0, 0], [2, 3, 0, 1, 0, 0], [4, 1, 1, 0, 0, 1], [2, 3, 0, 1, 0, 1], [1, 3, 1, 0, 0, 0], [1, 3, 1, 0, 1, 0], [4, 1, 1, 0, 1, 0], [2, 3, 0, 1, 1, 0], [4, 1, 1, 0, 1, 1], [2, 3, 0, 1, 1, 1], [3, 1, 1, 0, 0, 1], [3, 1, 1, 0, 1, 1], [1, 3, 1, 0, 0, 1], [1, 3, 1, 0, 1, 1], [3, 3, 0, 0, 0, 0], [3, 3, 0, 0, 1, 0], [3, 4, 0, 0, 0, 0], [3, 4, 0, 0, 0, 1], [3, 4, 0, 0, 1, 0], [3, 4, 0, 0, 1, 1], [4, 3, 0, 0, 0, 0], [4, 3, 0, 0, 0, 1], [4, 3, 0, 0, 1, 0], [4, 3, 0, 0, 1, 1], [3, 3, 0, 0, 0, 1], [3, 3, 0, 0, 1, 1]], [[[1, 0, 1, 0, 0, 0], [1, 0, 1, 0, 1, 0], [0, 1, 1, 0, 0, 0], [0, 1, 1, 0, 1, 0]], [[1, 0, 1, 0, 0, 1], [1, 0, 1, 0, 1, 1], [0, 1, 1, 0, 0, 1], [0, 1, 1, 0, 1, 1]], [[1, 0, 1, 0, 0, 0], [1, 0, 1, 0, 1, 0], [0, 1, 1, 0, 0, 0], [0, 1, 1, 0, 1, 0]], [[1, 0, 1, 0, 0, 1], [1, 0, 1, 0, 1, 1], [0, 1, 1, 0, 0, 1], [0, 1, 1, 0, 1, 1]], [[1, 0, 1, 0, 0, 0], [1, 0, 1, 0, 1, 0], [3, 0, 0, 0, 0, 0], [1, 2, 1, 1, 0, 0], [1, 2, 1, 1, 0, 1]], [[1, 0, 1, 0, 0, 0], [1, 0, 1, 0, 1, 0], [3, 0, 0, 0, 1, 0], [1, 2, 1, 1, 1, 0], [1, 2, 1, 1, 1, 1]], [[2, 1, 1, 1, 0, 0], [2, 1, 1, 1, 0, 1], [0, 1, 1, 0, 0, 0], [0, 1, 1, 0, 1, 0], [0, 3, 0, 0, 0, 0]], [[2, 1, 1, 1, 1, 0], [2, 1, 1, 1, 1, 1], [0, 1, 1, 0, 0, 0], [0, 1, 1, 0, 1, 0], [0, 3, 0, 0, 1, 0]], [[1, 0, 1, 0, 0, 1], [1, 0, 1, 0, 1, 1], [3, 0, 0, 0, 0, 1], [1, 2, 1, 1, 0, 0], [1, 2, 1, 1, 0, 1]], [[1, 0, 1, 0, 0, 1], [1, 0, 1, 0, 1, 1], [3, 0, 0, 0, 1, 1], [1, 2, 1, 1, 1, 0], [1, 2, 1, 1, 1, 1]], [[2, 1, 1, 1, 0, 0], [2, 1, 1, 1, 0, 1], [0, 1, 1, 0, 0, 1], [0, 1, 1, 0, 1, 1], [0, 3, 0, 0, 0, 1]], [[2, 1, 1, 1, 1, 0], [2, 1, 1, 1, 1, 1], [0, 1, 1, 0, 0, 1], [0, 1, 1, 0, 1, 1], [0, 3, 0, 0, 1, 1]], [[1, 0, 1, 0, 0, 0], [1, 0, 1, 0, 1, 0], [3, 1, 1, 0, 0, 0], [3, 1, 1, 0, 1, 0]], [[1, 2, 1, 1, 0, 0], [1, 2, 1, 1, 1, 0], [3, 2, 0, 1, 0, 0], [1, 2, 1, 1, 0, 0], [1, 2, 1, 1, 0, 1], [1, 4, 1, 0, 0, 0]], [[1, 2, 1, 1, 0, 1], [1, 2, 1, 1, 1, 1], [3, 2, 0, 1, 0, 1], [1, 2, 1, 1, 0, 0], [1, 2, 1, 1, 0, 1], [1, 4, 1, 0, 0, 1]], [[1, 0, 1, 0, 0, 0], [1, 0, 1, 0, 1, 0], [3, 1, 1, 0, 0, 0], [3, 1, 1, 0, 1, 0]], [[1, 2, 1, 1, 0, 0], [1, 2, 1, 1, 1, 0], [3, 2, 0, 1, 1, 0], [1, 2, 1, 1, 1, 0], [1, 2, 1, 1, 1, 1], [1, 4, 1, 0, 1, 0]], [[1, 2, 1, 1, 0, 1], [1, 2, 1, 1, 1, 1], [3, 2, 0, 1, 1, 1], [1, 2, 1, 1, 1, 0], [1, 2, 1, 1, 1, 1], [1, 4, 1, 0, 1, 1]], [[2, 1, 1, 1, 0, 0], [2, 1, 1, 1, 0, 1], [4, 1, 1, 0, 0, 0], [2, 1, 1, 1, 0, 0], [2, 1, 1, 1, 1, 0], [2, 3, 0, 1, 0, 0]], [[2, 1, 1, 1, 0, 0], [2, 1, 1, 1, 0, 1], [4, 1, 1, 0, 0, 1], [2, 1, 1, 1, 0, 1], [2, 1, 1, 1, 1, 1], [2, 3, 0, 1, 0, 1]], [[1, 3, 1, 0, 0, 0], [1, 3, 1, 0, 1, 0], [0, 1, 1, 0, 0, 0], [0, 1, 1, 0, 1, 0]], [[2, 1, 1, 1, 1, 0], [2, 1, 1, 1, 1, 1], [4, 1, 1, 0, 1, 0], [2, 1, 1, 1, 0, 0], [2, 1, 1, 1, 1, 0], [2, 3, 0, 1, 1, 0]], [[2, 1, 1, 1, 1, 0], [2, 1, 1, 1, 1, 1], [4, 1, 1, 0, 1, 1], [2, 1, 1, 1, 0, 1], [2, 1, 1, 1, 1, 1], [2, 3, 0, 1, 1, 1]], [[1, 3, 1, 0, 0, 0], [1, 3, 1, 0, 1, 0], [0, 1, 1, 0, 0, 0], [0, 1, 1, 0, 1, 0]], [[1, 0, 1, 0, 0, 1], [1, 0, 1, 0, 1, 1], [3, 1, 1, 0, 0, 1], [3, 1, 1, 0, 1, 1]], [[1, 0, 1, 0, 0, 1], [1, 0, 1, 0, 1, 1], [3, 1, 1, 0, 0, 1], [3, 1, 1, 0, 1, 1]], [[1, 3, 1, 0, 0, 1], [1, 3, 1, 0, 1, 1], [0, 1, 1, 0, 0, 1], [0, 1, 1, 0, 1, 1]], [[1, 3, 1, 0, 0, 1], [1, 3, 1, 0, 1, 1], [0, 1, 1, 0, 0, 1], [0, 1, 1, 0, 1, 1]], [[2, 1, 1, 1, 0, 0], [2, 1, 1, 1, 0, 1], [3, 1, 1, 0, 0, 0], [3, 1, 1, 0, 1, 0], [3, 3, 0, 0, 0, 0]], [[2, 1, 1, 1, 1, 0], [2, 1, 1, 1, 1, 1], [3, 1, 1, 0, 0, 0], [3, 1, 1, 0, 1, 0], [3, 3, 0, 0, 1, 0]], [[1, 2, 1, 1, 0, 0], [1, 2, 1, 1, 1, 0], [3, 2, 0, 1, 0, 0], [3, 2, 0, 1, 0, 1], [3, 4, 0, 0, 0, 0]], [[1, 4, 1, 0, 0, 0], [1, 4, 1, 0, 1, 0], [3, 4, 0, 0, 0, 0], [1, 2, 1, 1, 0, 0], [1, 2, 1, 1, 0, 1]], [[1, 2, 1, 1, 0, 1], [1, 2, 1, 1, 1, 1], [3, 2, 0, 1, 0, 0], [3, 2, 0, 1, 0, 1], [3, 4, 0, 0, 0, 1]], [[1, 4, 1, 0, 0, 1], [1, 4, 1, 0, 1, 1], [3, 4, 0, 0, 0, 1], [1, 2, 1, 1, 0, 0], [1, 2, 1, 1, 0, 1]], [[1, 2, 1, 1, 0, 0], [1, 2, 1, 1, 1, 0], [3, 2, 0, 1, 1, 0], [3, 2, 0, 1, 1, 1], [3, 4, 0, 0, 1, 0]], [[1, 4, 1, 0, 0, 0], [1, 4, 1, 0, 1, 0], [3, 4, 0, 0, 1, 0], [1, 2, 1, 1, 1, 0], [1, 2, 1, 1, 1, 1]], [[1, 2, 1, 1, 0, 1], [1, 2, 1, 1, 1, 1], [3, 2, 0, 1, 1, 0], [3, 2, 0, 1, 1, 1], [3, 4, 0, 0, 1, 1]], [[1, 4, 1, 0, 0, 1], [1, 4, 1, 0, 1, 1], [3, 4, 0, 0, 1, 1], [1, 2, 1, 1, 1, 0], [1, 2, 1, 1, 1, 1]], [[2, 1, 1, 1, 0, 0], [2, 1, 1, 1, 0, 1], [4, 1, 1, 0, 0, 0], [4, 1, 1, 0, 1, 0], [4, 3, 0, 0, 0, 0]], [[2, 3, 0, 1, 0, 0], [2, 3, 0, 1, 0, 1], [4, 3, 0, 0, 0, 0], [2, 1, 1, 1, 0, 0], [2, 1, 1, 1, 1, 0]], [[2, 1, 1, 1, 0, 0], [2, 1, 1, 1, 0, 1], [4, 1, 1, 0, 0, 1], [4, 1, 1, 0, 1, 1], [4, 3, 0, 0, 0, 1]], [[2, 3, 0, 1, 0, 0], [2, 3, 0, 1, 0, 1], [4, 3, 0, 0, 0, 1], [2, 1, 1, 1, 0, 1], [2, 1, 1, 1, 1, 1]], [[1, 3, 1, 0, 0, 0], [1, 3, 1, 0, 1, 0], [3, 3, 0, 0, 0, 0], [1, 2, 1, 1, 0, 0], [1, 2, 1, 1, 0, 1]], [[1, 3, 1, 0, 0, 0], [1, 3, 1, 0, 1, 0], [3, 3, 0, 0, 1, 0], [1, 2, 1, 1, 1, 0], [1, 2, 1, 1, 1, 1]], [[2, 1, 1, 1, 1, 0], [2, 1, 1, 1, 1, 1], [4, 1, 1, 0, 0, 0], [4, 1, 1, 0, 1, 0], [4, 3, 0, 0, 1, 0]], [[2, 3, 0, 1, 1, 0], [2, 3, 0, 1, 1, 1], [4, 3, 0, 0, 1, 0], [2, 1, 1, 1, 0, 0], [2, 1, 1, 1, 1, 0]], [[2, 1, 1, 1, 1, 0], [2, 1, 1, 1, 1, 1], [4, 1, 1, 0, 0, 1], [4, 1, 1, 0, 1, 1], [4, 3, 0, 0, 1, 1]], [[2, 3, 0, 1, 1, 0], [2, 3, 0, 1, 1, 1], [4, 3, 0, 0, 1, 1], [2, 1, 1, 1, 0, 1], [2, 1, 1, 1, 1, 1]], [[2, 1, 1, 1, 0, 0], [2, 1, 1, 1, 0, 1], [3, 1, 1, 0, 0, 1], [3, 1, 1, 0, 1, 1], [3, 3, 0, 0, 0, 1]], [[2, 1, 1, 1, 1, 0], [2, 1, 1, 1, 1, 1], [3, 1, 1, 0, 0, 1], [3, 1, 1, 0, 1, 1], [3, 3, 0, 0, 1, 1]], [[1, 3, 1, 0, 0, 1], [1, 3, 1, 0, 1, 1], [3, 3, 0, 0, 0, 1], [1, 2, 1, 1, 0, 0], [1, 2, 1, 1, 0, 1]], [[1, 3, 1, 0, 0, 1], [1, 3, 1, 0, 1, 1], [3, 3, 0, 0, 1, 1], [1, 2, 1, 1, 1, 0], [1, 2, 1, 1, 1, 1]], [[1, 3, 1, 0, 0, 0], [1, 3, 1, 0, 1, 0], [3, 1, 1, 0, 0, 0], [3, 1, 1, 0, 1, 0]], [[1, 3, 1, 0, 0, 0], [1, 3, 1, 0, 1, 0], [3, 1, 1, 0, 0, 0], [3, 1, 1, 0, 1, 0]], [[1, 4, 1, 0, 0, 0], [1, 4, 1, 0, 1, 0], [3, 1, 1, 0, 0, 0], [3, 1, 1, 0, 1, 0]], [[1, 4, 1, 0, 0, 1], [1, 4, 1, 0, 1, 1], [3, 1, 1, 0, 0, 1], [3, 1, 1, 0, 1, 1]], [[1, 4, 1, 0, 0, 0], [1, 4, 1, 0, 1, 0], [3, 1, 1, 0, 0, 0], [3, 1, 1, 0, 1, 0]], [[1, 4, 1, 0, 0, 1], [1, 4, 1, 0, 1, 1], [3, 1, 1, 0, 0, 1], [3, 1, 1, 0, 1, 1]], [[1, 3, 1, 0, 0, 0], [1, 3, 1, 0, 1, 0], [4, 1, 1, 0, 0, 0], [4, 1, 1, 0, 1, 0]], [[1, 3, 1, 0, 0, 1], [1, 3, 1, 0, 1, 1], [4, 1, 1, 0, 0, 1], [4, 1, 1, 0, 1, 1]], [[1, 3, 1, 0, 0, 0], [1, 3, 1, 0, 1, 0], [4, 1, 1, 0, 0, 0], [4, 1, 1, 0, 1, 0]], [[1, 3, 1, 0, 0, 1], [1, 3, 1, 0, 1, 1], [4, 1, 1, 0, 0, 1], [4, 1, 1, 0, 1, 1]], [[1, 3, 1, 0, 0, 1], [1, 3, 1, 0, 1, 1], [3, 1, 1, 0, 0, 1], [3, 1, 1, 0, 1, 1]], [[1, 3, 1, 0, 0, 1], [1, 3, 1, 0, 1, 1], [3, 1, 1, 0, 0, 1], [3, 1, 1, 0, 1, 1]]]),
(⟨1, 3, 2, 1, false⟩, [[0, 0, 0, 0, 0, 0, 0], [0, 0, 0, 0, 0, 0, 1], [0, 0, 0, 0, 0, 1, 0], [0, 0, 0, 0, 0, 1, 1], [0, 0, 0, 0, 1, 0, 0], [0, 0, 0, 0, 1, 0, 1], [0, 0, 0, 0, 1, 1, 0], [0, 0, 0, 0, 1, 1, 1], [1, 1, 0, 0, 0, 0, 0], [1, 1, 0, 0, 1, 0, 0], [1, 1, 0, 0, 0, 0, 1], [1, 1, 0, 0, 1, 0, 1], [1, 1, 0, 0, 0, 1, 0], [1, 1, 0, 0, 1, 1, 0], [1, 1, 0, 0, 0, 1, 1], [1, 1, 0, 0, 1, 1, 1], [4, 0, 0, 0, 0, 0, 0], [4, 0, 0, 0, 1, 0, 0], [4, 0, 0, 0, 0, 0, 1], [4, 0, 0, 0, 1, 0, 1], [4, 0, 0, 0, 0, 1, 0], [4, 0, 0, 0, 1, 1, 0], [4, 0, 0, 0, 0, 1, 1], [4, 0, 0, 0, 1, 1, 1]], [[[1, 1, 0, 0, 0, 0, 0], [1, 1, 0, 0, 1, 0, 0]], [[1, 1, 0, 0, 0, 0, 1], [1, 1, 0, 0, 1, 0, 1]], [[1, 1, 0, 0, 0, 1, 0], [1, 1, 0, 0, 1, 1, 0]], [[1, 1, 0, 0, 0, 1, 1], [1, 1, 0, 0, 1, 1, 1]], [[1, 1, 0, 0, 0, 0, 0], [1, 1, 0, 0, 1, 0, 0]], [[1, 1, 0, 0, 0, 0, 1], [1, 1, 0, 0, 1, 0, 1]], [[1, 1, 0, 0, 0, 1, 0], [1, 1, 0, 0, 1, 1, 0]], [[1, 1, 0, 0, 0, 1, 1], [1, 1, 0, 0, 1, 1, 1]], [[1, 1, 0, 0, 0, 0, 0], [1, 1, 0, 0, 1, 0, 0], [4, 0, 0, 0, 0, 0, 0]], [[1, 1, 0, 0, 0, 0, 0], [1, 1, 0, 0, 1, 0, 0], [4, 0, 0, 0, 1, 0, 0]], [[1, 1, 0, 0, 0, 0, 1], [1, 1, 0, 0, 1, 0, 1], [4, 0, 0, 0, 0, 0, 1]], [[1, 1, 0, 0, 0, 0, 1], [1, 1, 0, 0, 1, 0, 1], [4, 0, 0, 0, 1, 0, 1]], [[1, 1, 0, 0, 0, 1, 0], [1, 1, 0, 0, 1, 1, 0], [4, 0, 0, 0, 0, 1, 0]], [[1, 1, 0, 0, 0, 1, 0], [1, 1, 0, 0, 1, 1, 0], [4, 0, 0, 0, 1, 1, 0]], [[1, 1, 0, 0, 0, 1, 1], [1, 1, 0, 0, 1, 1, 1], [4, 0, 0, 0, 0, 1, 1]], [[1, 1, 0, 0, 0, 1, 1], [1, 1, 0, 0, 1, 1, 1], [4, 0, 0, 0, 1, 1, 1]], [[1, 1, 0, 0, 0, 0, 0], [1, 1, 0, 0, 1, 0, 0]], [[1, 1, 0, 0, 0, 0, 0], [1, 1, 0, 0, 1, 0, 0]], [[1, 1, 0, 0, 0, 0, 1], [1, 1, 0, 0, 1, 0, 1]], [[1, 1, 0, 0, 0, 0, 1], [1, 1, 0, 0, 1, 0, 1]], [[1, 1, 0, 0, 0, 1, 0], [1, 1, 0, 0, 1, 1, 0]], [[1, 1, 0, 0, 0, 1, 0], [1, 1, 0, 0, 1, 1, 0]], [[1, 1, 0, 0, 0, 1, 1], [1, 1, 0, 0, 1, 1, 1]], [[1, 1, 0, 0, 0, 1, 1], [1, 1, 0, 0, 1, 1, 1]]])]

theorem tab_all : ∀ F ∈ forms, ∃ p ∈ tab, p.1 = F := by decide +kernel
theorem tab_ok : ∀ p ∈ tab, (reachM p.1).order = p.2.1 ∧ (reachM p.1).succ = p.2.2 := by decide +kernel
def RP1 (F : Form) (r : RS) : Prop := r.order.length ≤ 64 ∧ r.succ.length = r.order.length ∧ r.order.Nodup ∧ (lstarts F).Nodup ∧ (lstarts F).length ≤ 8 ∧ 0 < (lstarts F).length ∧ (∀ d ∈ lstarts F, d ∈ r.order ∧ fitsB (firstI F) d = true) ∧ (∀ s ∈ r.succ, s.length ≤ 1000 ∧ ∀ e ∈ s, e ∈ r.order) ∧ ∀ d ∈ prodL ((firstI F).map valuesI), d ∈ lstarts F
instance {F : Form} {r : RS} : Decidable (RP1 F r) := by unfold RP1; infer_instance
def RP2 (F : Form) (r : RS) : Prop := ∀ d ∈ r.order, ((d.length : Int) = F.files + 2 * F.blocks) ∧ (∀ b ∈ rg F.blocks.toNat, 0 ≤ szI d (F.files + b) ∧ szI d (F.files + b) < 2 + F.blocks) ∧ (∀ v ∈ d, 0 ≤ v ∧ v ≤ 1000) ∧ (∀ i, i < nI F → 0 ≤ g0 d i ∧ g0 d i < g0 (lsizes F) i) ∧ fitsB (fullI (machI F)) d = true
instance {F : Form} {r : RS} : Decidable (RP2 F r) := by unfold RP2; infer_instance
def RP3 (F : Form) (r : RS) : Prop := ∀ d ∈ r.order, ∀ x ∈ waysI F, ∀ e ∈ (doI F d x.a x.b x.c).toList, e ∈ succOf r d
instance {F : Form} {r : RS} : Decidable (RP3 F r) := by unfold RP3; infer_instance
def RP4 (F : Form) (r : RS) : Prop := ∀ d ∈ r.order, ∀ D ∈ deedsI F, gfitB D d = true → effI d D.c ∈ succOf r d
instance {F : Form} {r : RS} : Decidable (RP4 F r) := by unfold RP4; infer_instance
def RP5 (F : Form) (r : RS) : Prop := ∀ d ∈ r.order, ∀ e ∈ succOf r d, ∃ D ∈ deedsI F, gfitB D d = true ∧ effI d D.c = e
instance {F : Form} {r : RS} : Decidable (RP5 F r) := by unfold RP5; infer_instance
def RP6 (F : Form) (r : RS) : Prop := ∀ file ∈ rg F.files.toNat, ∀ d ∈ r.order, (liveI F d file = [] ∨ liveI F d file ∈ contsI F) ∧ ∀ cs ∈ contsI F, decide (0 < ((((pieceI F file cs).filter fun s => fitsB s d).map fun _ => (1 : Int)).length : Int)) = decide (liveI F d file = cs)
instance {F : Form} {r : RS} : Decidable (RP6 F r) := by unfold RP6; infer_instance
def badM (F : Form) (r : RS) (file : Int) (cs : List Int) : List (List Int) := r.order.filter fun d => decide (liveI F d file = cs)
def AvOk (r : RS) (st bad av : List (List Int)) : Prop := av.length ≤ 64 ∧ (∀ d ∈ st, d ∈ bad ∨ d ∈ av) ∧ ∀ d ∈ av, d ∈ r.order ∧ d ∉ bad ∧ ∀ e ∈ succOf r d, e ∈ bad ∨ e ∈ av
instance {r : RS} {st bad av : List (List Int)} : Decidable (AvOk r st bad av) := by unfold AvOk; infer_instance
def RP7 (F : Form) (r : RS) : Prop := ∀ file ∈ rg F.files.toNat, ∀ cs ∈ contsI F, AvOk r (lstarts F) (badM F r file cs) (avoidM r (lstarts F) (badM F r file cs))
instance {F : Form} {r : RS} : Decidable (RP7 F r) := by unfold RP7; infer_instance
theorem rp1 : ∀ p ∈ tab, RP1 p.1 ⟨p.2.1, p.2.2⟩ := by decide +kernel
theorem rp2 : ∀ p ∈ tab, RP2 p.1 ⟨p.2.1, p.2.2⟩ := by decide +kernel
theorem rp3 : ∀ p ∈ tab, RP3 p.1 ⟨p.2.1, p.2.2⟩ := by decide +kernel
theorem rp4 : ∀ p ∈ tab, RP4 p.1 ⟨p.2.1, p.2.2⟩ := by decide +kernel
theorem rp5 : ∀ p ∈ tab, RP5 p.1 ⟨p.2.1, p.2.2⟩ := by decide +kernel
theorem rp6 : ∀ p ∈ tab, RP6 p.1 ⟨p.2.1, p.2.2⟩ := by decide +kernel
theorem rp7 : ∀ p ∈ tab, RP7 p.1 ⟨p.2.1, p.2.2⟩ := by decide +kernel
end Q
end RW
set_option Elab.async false
set_option linter.all false
set_option maxRecDepth 100000
set_option maxHeartbeats 4000000
namespace RW
open PySem PySem.Spec PyProof.Rows L2
local macro_rules | `(tactic| walk_at "sm") => `(tactic| first
  | exact Same.refl _
  | assumption
  | exact same_new (by assumption)
  | (refine Same.trans ?_ (by assumption); walk_at "sm")
  | (refine Same.trans ?_ (same_new (by assumption)); walk_at "sm"))
local macro_rules | `(tactic| walk_at "rp") => `(tactic| first
  | assumption
  | exact rfl
  | (refine Rep.mono (tx_of ?_) (by assumption); walk_at "sm")
  | (refine Mo.mo ?_ (by assumption); walk_at "sm"))
local macro_rules | `(tactic| walk_at "ev") => `(tactic| first
  | exact ev_ci
  | exact ev_cs
  | exact ev_cb
  | exact ev_cn
  | (refine @ev_rv _ _ _ _ _ _ _ rfl ?_; walk_at "rp")
  | (refine @ev_var _ _ _ _ _ ?_ rfl ?_; (first | infer_instance | skip); walk_at "rp")
  | (refine ev_ii ?_ ?_ <;> walk_at "ev")
  | (refine ev_ib ?_ ?_ <;> walk_at "ev")
  | (refine ev_eqI ?_ ?_ <;> walk_at "ev")
  | (refine ev_neI ?_ ?_ <;> walk_at "ev")
  | (refine ev_lenT ?_ <;> walk_at "ev")
  | (refine ev_lenL ?_ <;> walk_at "ev")
  | (refine ev_int1 ?_ <;> walk_at "ev")
  | (refine et_test ?_ <;> walk_at "ev")
  | (refine et_B ?_ <;> walk_at "ev")
  | (refine et_not ?_ <;> walk_at "ev")
  | (refine et_or ?_ (fun _ => ?_) <;> walk_at "ev")
  | (refine et_and ?_ (fun _ => ?_) <;> walk_at "ev"))
namespace Q
/-! ### every form has its class -/
def TF (F : Form) (im : List Int) (i : Nat) (m : Int) : Prop := TI (g0 (lsizes F) i) (g0 (uI F) i) (g0 im i) m
def AF (F : Form) (im : List Int) : List (List Int) := (List.range (nI F)).map fun i => AI (g0 (lsizes F) i) (g0 (uI F) i) (g0 im i)
theorem af_get {F : Form} {im : List Int} {i : Nat} (h : i < nI F) : (AF F im).getD i [] = AI (g0 (lsizes F) i) (g0 (uI F) i) (g0 im i) := by
  unfold AF
  simp [List.getD_eq_getElem?_getD, h]
theorem cb_cl {F : Form} {im : List Int} {s : List Int} (hu : ∀ i, i < nI F → 0 ≤ g0 (uI F) i) (hl : s.length = nI F) (h : ∀ i, i < nI F → CB (g0 (uI F) i) (g0 s i)) : Cl (nI F) (TF F im) s :=
  ⟨⟨hl, fun i hi => (h i hi).1⟩, fun i m hi hm => ti_and (hu i hi) hm (h i hi), fun i m hi hm => ti_rest (hu i hi) hm (h i hi)⟩
theorem zip_snd (im : List Int) : ∀ (cs : List (Str × Int)), (im.zip cs).all (fun p => isMaskI p.1 p.2.2) = (im.zip (cs.map (·.2))).all (fun p => isMaskI p.1 p.2) := fun cs => by
  rw [List.zip_map_right, List.all_map]
  rfl
theorem sketch_iff {F : Form} (h : F ∈ forms) {im : List Int} : sketchB (machI F) im = true ↔ im.length = nI F ∧ ∀ i, i < nI F → 0 < g0 im i ∧ g0 im i < 2 ^ (g0 (lsizes F) i).toNat := by
  obtain ⟨l1, _, _, l4, _⟩ := chk_len F h
  unfold sketchB
  rw [Bool.and_eq_true, decide_eq_true_eq]
  show im.length = (cellsI F).length ∧ (im.zip (cellsI F)).all (fun p => isMaskI p.1 p.2.2) = true ↔ _
  rw [zip_snd, ← l4, l1]
  have hz : (lsizes F).length = nI F := by rw [l4, List.length_map, l1]
  constructor
  · rintro ⟨h1, h2⟩
    rw [zip_all im _ (by omega)] at h2
    refine ⟨h1, fun i hi => ?_⟩
    have := h2 i (by omega)
    simpa [isMaskI] using this
  · rintro ⟨h1, h2⟩
    refine ⟨h1, ?_⟩
    rw [zip_all im _ (by omega)]
    intro i hi
    have := h2 i (by omega)
    simpa [isMaskI] using this
theorem full_len {F : Form} (h : F ∈ forms) : (fullI (machI F)).length = nI F := by
  obtain ⟨l1, _⟩ := chk_len F h
  rw [← l1]
  exact List.length_map _
theorem env_ok {F : Form} (h : F ∈ forms) {file : Int} {cs im : List Int} (hf : file ∈ rg F.files.toNat) (hc : cs ∈ contsI F) (hi : sketchB (machI F) im = true) : Env (machI F) (pieceI F file cs) im (nI F) (TF F im) (AF F im) := by
  obtain ⟨l1, l2, l3, l4, l5, l6, l7⟩ := chk_len F h
  obtain ⟨p1, p2⟩ := chk_piece F h file hf cs hc
  rw [sketch_iff h] at hi
  have hcell := chk_cell F h
  have hu : ∀ i, i < nI F → 0 ≤ g0 (uI F) i := fun i hi => (hcell i hi).1
  have hfirst : NN (nI F) (firstI F) := ⟨l6, fun i hi => (hcell i hi).2.2.2.2.2.2.1.1⟩
  refine ⟨l2, l3, l1, fun i m hi hm => ⟨hm.1, ?_⟩, fun s hs => cb_cl hu (p2 s hs).1 (p2 s hs).2.2, by omega, ⟨hi.1, fun i hii => ⟨by have := (hi.2 i hii).1; omega, (hi.2 i hii).2, .inr (.inr rfl)⟩, fun i hii => by have := (hi.2 i hii).1; omega⟩, fun i hii => ?_, hfirst, fun i hii => (hcell i hii).2.2.2.2.2.2.1.2, fun x hx i hii => ?_, fun D hD => ?_, ?_, fun i m hii hm hz => ?_, ?_⟩
  · have := (hcell i hi).2.2.1
    have := hm.2.1
    omega
  · obtain ⟨_, _, _, e, n, c, _⟩ := hcell i hii
    refine ⟨n, by rw [e]; omega, ?_⟩
    rcases c.2 with c | c
    · exact .inl c
    · exact .inr (.inl c)
  · obtain ⟨_, _, _, _, n, _, f, e⟩ := hcell i hii
    exact sub_bit f.1 n e (hx i hii)
  · obtain ⟨d1, d2, d3⟩ := chk_deed F h D hD
    exact ⟨fun p hp => ⟨(d1 p hp).1, (d1 p hp).2.1, fun m hm => ti_and (hu _ (d1 p hp).1) hm (d1 p hp).2⟩, fun p hp => ⟨by have := (d2 p hp).1; omega, (d2 p hp).2⟩, d3⟩
  · unfold AF; rw [List.length_map, List.length_range]
  · rw [af_get hii]
    exact ai_mem hm hz
  · have hle : lenP (AF F im) ≤ mulP (bI F) := lenP_le _ _ (by unfold AF; rw [List.length_map, List.length_range, l5]) fun i hii => by
      have hii : i < nI F := by omega
      rw [af_get hii]
      refine chk_cnt F h i hii (g0 im i) (List.mem_map.mpr ⟨(g0 im i).toNat, List.mem_range.mpr ?_, ?_⟩)
      · have h1 := (hi.2 i hii).2
        have h2 := (hi.2 i hii).1
        have : ((g0 im i).toNat : Int) < ((2 ^ (g0 (lsizes F) i).toNat : Nat) : Int) := by rw [Int.natCast_pow]; show ((g0 im i).toNat : Int) < 2 ^ (g0 (lsizes F) i).toNat; omega
        omega
      · have h2 := (hi.2 i hii).1
        omega
    have hp : nI F ^ (pieceI F file cs).length ≤ nI F ^ 3 := Nat.pow_le_pow_right (by omega) p1
    rw [sizeLine_eq]
    omega
/-! ### the spoiled disk -/
theorem bit_pow {v : Nat} : bitB ((2 : Int) ^ v) (v : Int) = true := by
  have e : ((2 : Int) ^ v) = ((2 ^ v : Nat) : Int) := by rw [Int.natCast_pow]; rfl
  rw [e, bit_tb (Int.natCast_nonneg _)]
  simp only [Int.toNat_natCast]
  exact Nat.testBit_two_pow_self
theorem pow_ltI {v z : Int} (h0 : 0 ≤ v) (h : v < z) : (2 : Int) ^ v.toNat < 2 ^ z.toNat := by
  have : 2 ^ v.toNat < 2 ^ z.toNat := Nat.pow_lt_pow_right (by decide) (by omega)
  have e : ∀ k : Nat, ((2 : Int) ^ k) = ((2 ^ k : Nat) : Int) := fun k => by rw [Int.natCast_pow]; rfl
  rw [e, e]
  omega
theorem pow_posI (k : Nat) : (0 : Int) < 2 ^ k := by
  have e : ((2 : Int) ^ k) = ((2 ^ k : Nat) : Int) := by rw [Int.natCast_pow]; rfl
  have := Nat.pow_pos (n := k) (show 0 < 2 by decide)
  omega
theorem spoil_mask {d sz : List Int} {c : Int} {k : Nat} (h0 : 0 ≤ g0 d k) (h : g0 d k < g0 sz k) : 0 < spoilM d sz c (k : Int) ∧ spoilM d sz c (k : Int) < 2 ^ (g0 sz k).toNat ∧ bitB (spoilM d sz c (k : Int)) (g0 d k) = true := by
  have ed : szI d (k : Int) = g0 d k := rfl
  have ez : szI sz (k : Int) = g0 sz k := rfl
  have p1 := pow_posI (g0 d k).toNat
  have p2 := pow_ltI h0 h
  have hv : g0 d k = ((g0 d k).toNat : Int) := by omega
  have hb : bitB ((2 : Int) ^ (g0 d k).toNat) (g0 d k) = true := by
    rw [hv, Int.toNat_natCast]
    exact bit_pow
  unfold spoilM
  rw [ed, ez]
  have e : ∀ k : Nat, ((2 : Int) ^ k) = ((2 ^ k : Nat) : Int) := fun k => by rw [Int.natCast_pow]; rfl
  split
  · refine ⟨by omega, by omega, ?_⟩
    rw [Int.one_mul, e]
    have e3 : (((2 ^ (g0 sz k).toNat : Nat) : Int) - 1) = ((2 ^ (g0 sz k).toNat - 1 : Nat) : Int) := by
      have := Nat.pow_pos (n := (g0 sz k).toNat) (show 0 < 2 by decide)
      omega
    rw [e3, bit_tb (Int.natCast_nonneg _), Int.toNat_natCast, Nat.testBit_two_pow_sub_one]
    exact decide_eq_true (by omega)
  · split
    · rw [Int.one_mul, Int.one_mul]
      have q0 : 0 ≤ (mixI c ((k : Int) + 40)).fmod (g0 sz k) := Int.fmod_nonneg_of_pos _ (by omega)
      have q1 : (mixI c ((k : Int) + 40)).fmod (g0 sz k) < g0 sz k := Int.fmod_lt_of_pos _ (by omega)
      have p3 := pow_posI ((mixI c ((k : Int) + 40)).fmod (g0 sz k)).toNat
      have p4 := pow_ltI q0 q1
      rw [or_nn (by omega) (by omega)]
      generalize (2 : Int) ^ ((mixI c ((k : Int) + 40)).fmod (g0 sz k)).toNat = w at p3 p4
      generalize hq : (2 : Int) ^ (g0 d k).toNat = u at p1 p2 hb
      rw [e] at p2 p4 ⊢
      refine ⟨?_, ?_, ?_⟩
      · have : u.toNat ≤ u.toNat ||| w.toNat := Nat.left_le_or
        omega
      · have : u.toNat ||| w.toNat < 2 ^ (g0 sz k).toNat := Nat.or_lt_two_pow (by omega) (by omega)
        omega
      · rw [bit_tb (by omega)] at hb ⊢
        rw [Int.toNat_natCast, Nat.testBit_or, hb]; rfl
    · rw [Int.one_mul]
      exact ⟨p1, p2, hb⟩
theorem spoil_get {d sz : List Int} {c : Int} {k : Nat} (h : k < d.length) : g0 (spoilI d sz c) k = spoilM d sz c (k : Int) := by
  unfold spoilI g0 rg
  simp [List.getD_eq_getElem?_getD, h]
theorem spoil_len {d sz : List Int} {c : Int} : (spoilI d sz c).length = d.length := by
  unfold spoilI; rw [List.length_map, rg_len]
end Q
end RW
set_option Elab.async false
set_option linter.all false
set_option maxRecDepth 100000
set_option maxHeartbeats 4000000
namespace RW
open PySem PySem.Spec PyProof.Rows L2
local macro_rules | `(tactic| walk_at "sm") => `(tactic| first
  | exact Same.refl _
  | assumption
  | exact same_new (by assumption)
  | (refine Same.trans ?_ (by assumption); walk_at "sm")
  | (refine Same.trans ?_ (same_new (by assumption)); walk_at "sm"))
local macro_rules | `(tactic| walk_at "rp") => `(tactic| first
  | assumption
  | exact rfl
  | (refine Rep.mono (tx_of ?_) (by assumption); walk_at "sm")
  | (refine Mo.mo ?_ (by assumption); walk_at "sm"))
local macro_rules | `(tactic| walk_at "ev") => `(tactic| first
  | exact ev_ci
  | exact ev_cs
  | exact ev_cb
  | exact ev_cn
  | (refine @ev_rv _ _ _ _ _ _ _ rfl ?_; walk_at "rp")
  | (refine @ev_var _ _ _ _ _ ?_ rfl ?_; (first | infer_instance | skip); walk_at "rp")
  | (refine ev_ii ?_ ?_ <;> walk_at "ev")
  | (refine ev_ib ?_ ?_ <;> walk_at "ev")
  | (refine ev_eqI ?_ ?_ <;> walk_at "ev")
  | (refine ev_neI ?_ ?_ <;> walk_at "ev")
  | (refine ev_lenT ?_ <;> walk_at "ev")
  | (refine ev_lenL ?_ <;> walk_at "ev")
  | (refine ev_int1 ?_ <;> walk_at "ev")
  | (refine et_test ?_ <;> walk_at "ev")
  | (refine et_B ?_ <;> walk_at "ev")
  | (refine et_not ?_ <;> walk_at "ev")
  | (refine et_or ?_ (fun _ => ?_) <;> walk_at "ev")
  | (refine et_and ?_ (fun _ => ?_) <;> walk_at "ev"))
namespace Q
theorem addA_P {bad : List (List Int)} {P : List Int → Prop} {o : List (List Int)} {e : List Int} (h : ∀ x ∈ o, P x) (he : e ∉ bad → P e) : ∀ x ∈ addA bad o e, P x := by
  unfold addA
  split
  · rename_i hc
    intro x hx
    rcases List.mem_append.mp hx with hx | hx
    · exact h x hx
    · rw [List.mem_singleton.mp hx]; exact he hc.2
  · exact h
theorem foldA_P {bad : List (List Int)} {P : List Int → Prop} : ∀ (es o : List (List Int)), (∀ x ∈ o, P x) → (∀ e ∈ es, e ∉ bad → P e) → ∀ x ∈ es.foldl (addA bad) o, P x
  | [], o, h, _ => h
  | e :: es, o, h, he => foldA_P es (addA bad o e) (addA_P h (he e (by simp))) fun x hx => he x (by simp [hx])
theorem avoid_ind {r : RS} {st bad : List (List Int)} {P : List Int → Prop} (h0 : ∀ s ∈ st, s ∉ bad → P s) (h1 : ∀ d e, P d → e ∈ succOf r d → e ∉ bad → P e) : ∀ x ∈ avoidI r st bad, P x := by
  have key : ∀ (ks : List Nat) (o : List (List Int)), (∀ x ∈ o, P x) → ∀ x ∈ ks.foldl (turnA r bad) o, P x := fun ks => by
    induction ks with
    | nil => exact fun o h => h
    | cons k ks ih =>
      intro o h
      refine ih (turnA r bad o k) ?_
      unfold turnA
      split
      · rename_i hk
        exact foldA_P _ _ h fun e he hb => h1 _ e (h _ (getD_mem hk)) he hb
      · exact h
  exact key _ _ (foldA_P _ _ (fun x hx => by simp at hx) fun e he hb => h0 e he hb)
/-! ### the facts of a form -/
structure Facts (F : Form) (r : RS) : Prop where
  p1 : RP1 F r
  p2 : RP2 F r
  p3 : RP3 F r
  p4 : RP4 F r
  p5 : RP5 F r
  p6 : RP6 F r
  p7 : RP7 F r
theorem facts {F : Form} (h : F ∈ forms) : reachI F (lstarts F) = reachM F ∧ Facts F (reachM F) := by
  obtain ⟨⟨F', o, s⟩, hp, e⟩ := tab_all F h
  have e : F' = F := e
  subst e
  obtain ⟨t1, t2⟩ := tab_ok _ hp
  have t1 : (reachM F').order = o := t1
  have t2 : (reachM F').succ = s := t2
  have hr : reachM F' = ⟨o, s⟩ := by rw [← t1, ← t2]
  have q1 := rp1 _ hp
  refine ⟨reach_eq (by rw [t1]; exact q1.1), ?_⟩
  rw [hr]
  exact ⟨q1, rp2 _ hp, rp3 _ hp, rp4 _ hp, rp5 _ hp, rp6 _ hp, rp7 _ hp⟩
theorem kept_of {F : Form} (h : F ∈ forms) {r : RS} (f : Facts F r) : Kept F fun d => d ∈ r.order := by
  refine ⟨fun d hd => ?_, fun d x e hx hd he => ?_⟩
  · obtain ⟨h1, h2, h3, _⟩ := f.p2 d hd
    refine ⟨h1, fun b hb hb2 => h2 b (List.mem_map.mpr ⟨b.toNat, List.mem_range.mpr (by omega), by omega⟩), fun v hv => (h3 v hv).1⟩
  · have h1 := f.p3 d hd x hx e (by rw [he]; simp)
    have hi : r.order.idxOf d < r.succ.length := by rw [f.p1.2.1]; exact List.idxOf_lt_length_of_mem hd
    exact (f.p1.2.2.2.2.2.2.2.1 (succOf r d) (getD_mem hi)).2 e h1
theorem succ_in {F : Form} {r : RS} (f : Facts F r) {d e : List Int} (hd : d ∈ r.order) (he : e ∈ succOf r d) : e ∈ r.order := by
  have hi : r.order.idxOf d < r.succ.length := by rw [f.p1.2.1]; exact List.idxOf_lt_length_of_mem hd
  exact (f.p1.2.2.2.2.2.2.2.1 (succOf r d) (getD_mem hi)).2 e he
theorem gfit_iff {D : Deed} {x : List Int} : gfitB D x = true ↔ GFit D x := by
  unfold gfitB GFit
  rw [List.all_eq_true]
/-! ### what the law compares -/
section
variable {F : Form} {r : RS} {file : Int} {cs im : List Int}
theorem disk_ok (hF : F ∈ forms) (f : Facts F r) {d : List Int} (hd : d ∈ r.order) : d.length = nI F ∧ Fit (nI F) (fullI (machI F)) d := by
  obtain ⟨h1, _, _, _, h5⟩ := f.p2 d hd
  have hl : d.length = nI F := by unfold nI; omega
  exact ⟨hl, (fitsB_iff (full_len hF) hl).mp h5⟩
theorem nopc_iff (hF : F ∈ forms) (f : Facts F r) (hf : file ∈ rg F.files.toNat) (hc : cs ∈ contsI F) {d : List Int} (hd : d ∈ r.order) : NoPc (nI F) (pieceI F file cs) d ↔ d ∉ badM F r file cs := by
  have h6 := (f.p6 file hf d hd).2 cs hc
  have hl := (disk_ok hF f hd).1
  have hb : d ∈ badM F r file cs ↔ liveI F d file = cs := by
    unfold badM
    rw [List.mem_filter]
    exact ⟨fun h => of_decide_eq_true h.2, fun h => ⟨hd, decide_eq_true h⟩⟩
  rw [hb]
  have hcnt : (0 < ((((pieceI F file cs).filter fun s => fitsB s d).map fun _ => (1 : Int)).length : Int)) ↔ ∃ s ∈ pieceI F file cs, fitsB s d = true := by
    rw [List.length_map]
    constructor
    · intro h
      have : 0 < ((pieceI F file cs).filter fun s => fitsB s d).length := by omega
      obtain ⟨s, hs⟩ := List.exists_mem_of_length_pos this
      obtain ⟨h1, h2⟩ := List.mem_filter.mp hs
      exact ⟨s, h1, h2⟩
    · rintro ⟨s, h1, h2⟩
      have := List.length_pos_of_mem (List.mem_filter.mpr ⟨h1, h2⟩ : s ∈ (pieceI F file cs).filter fun s => fitsB s d)
      omega
  have hp := (chk_piece F hF file hf cs hc).2
  constructor
  · intro h e
    rw [decide_eq_true e] at h6
    obtain ⟨s, h1, h2⟩ := hcnt.mp (of_decide_eq_true h6)
    exact h s h1 ((fitsB_iff (hp s h1).1 hl).mp h2)
  · intro h s h1 h2
    rw [decide_eq_false h] at h6
    exact of_decide_eq_false h6 (hcnt.mpr ⟨s, h1, (fitsB_iff (hp s h1).1 hl).mpr h2⟩)
theorem av_sub (hF : F ∈ forms) (f : Facts F r) (hf : file ∈ rg F.files.toNat) (hc : cs ∈ contsI F) : avoidI r (lstarts F) (badM F r file cs) = avoidM r (lstarts F) (badM F r file cs) ∧ AvOk r (lstarts F) (badM F r file cs) (avoidI r (lstarts F) (badM F r file cs)) := by
  have h7 := f.p7 file hf cs hc
  have e := avoid_eq h7.1
  exact ⟨e, by rw [e]; exact h7⟩
/-- told: no disk that the law gets to fits the image -/
theorem told_due (hF : F ∈ forms) (f : Facts F r) (hf : file ∈ rg F.files.toNat) (hc : cs ∈ contsI F) (hil : im.length = nI F) {g : TG} (hR : TellRes (machI F) (pieceI F file cs) im (nI F) g) (ht : g.told = true) : ∀ d ∈ avoidI r (lstarts F) (badM F r file cs), fitsB im d = false := by
  obtain ⟨_, _, L, l1, l2, l3⟩ := hR.yes ht
  have key := avoid_ind (r := r) (st := lstarts F) (bad := badM F r file cs) (P := fun d => d ∈ r.order ∧ d ∉ badM F r file cs ∧ ∀ s ∈ L, ¬ Fit (nI F) s d) (fun s hs hb => by
    obtain ⟨h1, h2⟩ := f.p1.2.2.2.2.2.2.1 s hs
    exact ⟨h1, hb, fun k hk => l3 k hk s ((fitsB_iff (chk_len F hF).2.2.2.2.2.1 (disk_ok hF f h1).1).mp h2)⟩) (fun d e ⟨h1, h2, h3⟩ he hb => by
    have h4 := succ_in f h1 he
    refine ⟨h4, hb, fun s hs hse => ?_⟩
    obtain ⟨D, hD, hg, hE⟩ := f.p5 d h1 e he
    obtain ⟨j, hj, rfl⟩ := List.getElem_of_mem hD
    have ej : deedI (machI F) (j : Int) = (deedsI F)[j] := by
      unfold deedI
      rw [Int.toNat_natCast]
      show (deedsI F).getD j _ = _
      rw [List.getD_eq_getElem?_getD, List.getElem?_eq_getElem hj]; rfl
    have hdk := disk_ok hF f h1
    obtain ⟨s', hs', hf'⟩ := l2 s hs j hj d hdk.1 hdk.2 (by rw [ej]; exact gfit_iff.mp hg) (by rw [ej, hE]; exact hse) ((nopc_iff hF f hf hc h1).mpr h2)
    exact h3 s' hs' hf')
  intro d hd
  obtain ⟨h1, h2, h3⟩ := key d hd
  cases hfit : fitsB im d with
  | false => rfl
  | true =>
    obtain ⟨s, hs, hsd⟩ := l1 d ((fitsB_iff hil (disk_ok hF f h1).1).mp hfit) ((nopc_iff hF f hf hc h1).mpr h2)
    exact absurd hsd (h3 s hs)
theorem deed_step (hF : F ∈ forms) (f : Facts F r) {x : List Int} {d : Int} (hx : x ∈ r.order) (hd : d.toNat < (deedsI F).length) (hg : GFit (deedI (machI F) d) x) : effI x (deedI (machI F) d).c ∈ succOf r x := by
  have hm : deedI (machI F) d ∈ deedsI F := by unfold deedI; exact getD_mem hd
  exact f.p4 x hx _ hm (gfit_iff.mpr hg)
theorem start_in (hF : F ∈ forms) (f : Facts F r) {x : List Int} (hl : x.length = nI F) (hn : ∀ i, i < nI F → 0 ≤ g0 x i) (hx : Fit (nI F) (firstI F) x) : x ∈ lstarts F := by
  obtain ⟨_, _, _, _, _, l6, _⟩ := chk_len F hF
  refine f.p1.2.2.2.2.2.2.2.2 x (prodL_mem _ _ (by rw [List.length_map]; omega) fun i hi => ?_)
  rw [List.length_map] at hi
  have hi' : i < nI F := by omega
  have e : ((firstI F).map valuesI).getD i [] = valuesI (g0 (firstI F) i) := by
    unfold g0
    simp [List.getD_eq_getElem?_getD, hi]
  rw [e]
  exact val_mem ((chk_cell F hF i hi').2.2.2.2.2.2.1.1) (hn i hi') (hx i hi')
/-- not told: the history is a run of the law -/
theorem run_hist (hF : F ∈ forms) (f : Facts F r) (hf : file ∈ rg F.files.toNat) (hc : cs ∈ contsI F) (hil : im.length = nI F) {x ds : List Int} (hr : Run (machI F) (pieceI F file cs) im (nI F) x ds) : x ∈ r.order → HistOk F r (badM F r file cs) im x ds ∧ (x ∈ avoidI r (lstarts F) (badM F r file cs) → ∃ d ∈ avoidI r (lstarts F) (badM F r file cs), fitsB im d = true) := by
  have av := (av_sub hF f hf hc).2
  induction hr with
  | @nil x h1 h2 =>
    intro hx
    have hdk := disk_ok hF f hx
    have hfit := (fitsB_iff hil hdk.1).mpr h1
    exact ⟨.nil ((nopc_iff hF f hf hc hx).mp h2) hfit fun v hv => ((f.p2 x hx).2.2.1 v hv).1, fun ha => ⟨x, ha, hfit⟩⟩
  | @cons x d ds h1 h2 h3 h4 t ih =>
    intro hx
    have hs := deed_step hF f hx h3 h4
    have hin := succ_in f hx hs
    obtain ⟨i1, i2⟩ := ih hin
    have hm : deedI (machI F) d ∈ deedsI F := by unfold deedI; exact getD_mem h3
    have hdd := chk_deed F hF _ hm
    have hl := (disk_ok hF f hx).1
    have hnb : effI x (deedI (machI F) d).c ∉ badM F r file cs := by
      cases i1 with
      | nil h1 => exact h1
      | cons h1 => exact h1
    refine ⟨.cons ((nopc_iff hF f hf hc hx).mp h1) hx h2 h3 hs (fun p hp => by
      have := (hdd.2.1 p hp).1
      rw [hl]; exact this) i1, fun ha => i2 ?_⟩
    rcases (av.2.2 x ha).2.2 _ hs with h | h
    · exact absurd h hnb
    · exact h
end
end Q
end RW
set_option Elab.async false
set_option linter.all false
set_option maxRecDepth 100000
set_option maxHeartbeats 4000000
namespace RW
open PySem PySem.Spec PyProof.Rows L2
local macro_rules | `(tactic| walk_at "sm") => `(tactic| first
  | exact Same.refl _
  | assumption
  | exact same_new (by assumption)
  | (refine Same.trans ?_ (by assumption); walk_at "sm")
  | (refine Same.trans ?_ (same_new (by assumption)); walk_at "sm"))
local macro_rules | `(tactic| walk_at "rp") => `(tactic| first
  | assumption
  | exact rfl
  | (refine Rep.mono (tx_of ?_) (by assumption); walk_at "sm")
  | (refine Mo.mo ?_ (by assumption); walk_at "sm"))
local macro_rules | `(tactic| walk_at "ev") => `(tactic| first
  | exact ev_ci
  | exact ev_cs
  | exact ev_cb
  | exact ev_cn
  | (refine @ev_rv _ _ _ _ _ _ _ rfl ?_; walk_at "rp")
  | (refine @ev_var _ _ _ _ _ ?_ rfl ?_; (first | infer_instance | skip); walk_at "rp")
  | (refine ev_ii ?_ ?_ <;> walk_at "ev")
  | (refine ev_ib ?_ ?_ <;> walk_at "ev")
  | (refine ev_eqI ?_ ?_ <;> walk_at "ev")
  | (refine ev_neI ?_ ?_ <;> walk_at "ev")
  | (refine ev_lenT ?_ <;> walk_at "ev")
  | (refine ev_lenL ?_ <;> walk_at "ev")
  | (refine ev_int1 ?_ <;> walk_at "ev")
  | (refine et_test ?_ <;> walk_at "ev")
  | (refine et_B ?_ <;> walk_at "ev")
  | (refine et_not ?_ <;> walk_at "ev")
  | (refine et_or ?_ (fun _ => ?_) <;> walk_at "ev")
  | (refine et_and ?_ (fun _ => ?_) <;> walk_at "ev"))
namespace Q
theorem form_in (ns : List Int) : formI ns ∈ forms := by
  have h := lf_in ns
  unfold formI
  generalize lfI ns = L at h
  generalize decide (0 < ((cellI ns 0).fdiv 4).fmod 3) = bb
  simp only [four, List.mem_cons, List.not_mem_nil, or_false] at h
  rcases h with rfl | rfl | rfl | rfl <;> cases bb <;> decide
theorem conts_ok : ∀ F ∈ forms, (F.longest = 1 ∨ F.longest = 2) ∧ ∀ cs ∈ contsI F, (cs.length = 1 ∨ cs.length = 2) ∧ (cs.length : Int) ≤ F.longest ∧ ∀ v ∈ cs, 0 ≤ v ∧ v < 2 := by decide +kernel
theorem conts_mem {F : Form} (hF : F ∈ forms) : ∀ (cs : List Int), 1 ≤ cs.length → (cs.length : Int) ≤ F.longest → (∀ v ∈ cs, v = 0 ∨ v = 1) → cs ∈ contsI F
  | [], h, _, _ => by simp at h
  | [v], _, _, hv => by
    rcases hv v (by simp) with e | e <;> subst e <;> (unfold contsI; split <;> decide)
  | [v, w], _, h, hv => by
    have h : (2 : Int) ≤ F.longest := h
    rcases hv v (by simp) with e | e <;> rcases hv w (by simp) with e2 | e2 <;> subst e <;> subst e2 <;> (unfold contsI; rw [if_neg (by omega)]; decide)
  | _ :: _ :: _ :: l, _, h, _ => by
    have := (conts_ok F hF).1
    simp only [List.length_cons] at h
    omega
theorem ways_step {F : Form} {r : RS} (hF : okF F) (f : Facts F r) {d e : List Int} {c : Int} (hd : d ∈ r.order) (h : doI F d (wayAt F c).a (wayAt F c).b (wayAt F c).c = some e) : e ∈ succOf r d :=
  f.p3 d hd _ (List.mem_of_getElem? (wayAt_in hF c).1) e (by rw [h]; simp)
theorem pass_av {F : Form} {r : RS} {bad av : List (List Int)} (hF : okF F) (f : Facts F r) (ha : AvOk r (lstarts F) bad av) : ∀ (cs : List Int) (p : List Int × List (List Int)), p.1 ∈ r.order → p.2.getLast? = some p.1 → ((∀ x ∈ p.2, x ∉ bad) → p.1 ∈ av) →
    (cs.foldl (endStep F) p).1 ∈ r.order ∧ (cs.foldl (endStep F) p).2.getLast? = some (cs.foldl (endStep F) p).1 ∧ ((∀ x ∈ (cs.foldl (endStep F) p).2, x ∉ bad) → (cs.foldl (endStep F) p).1 ∈ av)
  | [], p, h1, h2, h3 => ⟨h1, h2, h3⟩
  | c :: cs, p, h1, h2, h3 => by
    rw [List.foldl_cons]
    have key : (endStep F p c).1 ∈ r.order ∧ (endStep F p c).2.getLast? = some (endStep F p c).1 ∧ ((∀ x ∈ (endStep F p c).2, x ∉ bad) → (endStep F p c).1 ∈ av) := by
      unfold endStep
      split
      · exact ⟨h1, h2, h3⟩
      · rename_i e he
        have hs := ways_step hF f h1 he
        refine ⟨succ_in f h1 hs, by simp, fun hb => ?_⟩
        have h4 := h3 fun x hx => hb x (List.mem_append_left _ hx)
        rcases (ha.2.2 _ h4).2.2 e hs with h5 | h5
        · exact absurd h5 (hb e (by simp))
        · exact h5
    exact pass_av hF f ha cs _ key.1 key.2.1 key.2.2
theorem law_ne (ns : List Int) : Nonempty (LawOk ns) := by
  have hF := form_in ns
  have pF := form_ok ns
  have f : Facts (formI ns) (rL ns) := by
    rw [show rL ns = reachM (formI ns) from (facts hF).1]
    exact (facts hF).2
  have ha : (lfI ns).a = 1 ∨ (lfI ns).a = 2 := pF.1
  have hc2 : (lfI ns).c = 2 := pF.2.2.1
  have hd2 : (lfI ns).d = 1 ∨ (lfI ns).d = 2 := pF.2.2.2
  have hk := kept_of hF f
  have q1 := f.p1
  have hst : ∀ d ∈ startsL ns, d ∈ (rL ns).order := fun d hd => (q1.2.2.2.2.2.2.1 d hd).1
  have hne : 0 < (startsL ns).length := q1.2.2.2.2.2.1
  have i0 : 0 ≤ (cellI ns 1).fmod ((startsL ns).length : Int) := Int.fmod_nonneg_of_pos _ (by omega)
  have i1 : (cellI ns 1).fmod ((startsL ns).length : Int) < ((startsL ns).length : Int) := Int.fmod_lt_of_pos _ (by omega)
  have hs0 : startI ns ∈ startsL ns := getD_mem (by omega)
  have hfl : fileL ns ∈ rg (formI ns).files.toNat := by
    have h0 : 0 ≤ fileL ns := Int.fmod_nonneg_of_pos _ (by omega)
    have h1 : fileL ns < (lfI ns).a := Int.fmod_lt_of_pos _ (by omega)
    have e : (formI ns).files = (lfI ns).a := rfl
    exact List.mem_map.mpr ⟨(fileL ns).toNat, List.mem_range.mpr (by omega), by omega⟩
  have hpo : ∀ d ∈ passedL ns, d ∈ (rL ns).order := (end_in pF hk (cellsL ns) (startI ns, [startI ns]) (hst _ hs0) (fun x hx => by rw [List.mem_singleton.mp hx]; exact hst _ hs0)).1.2
  have hlast0 := pass_av (bad := []) (av := (rL ns).order) pF f
  have hn0 : 0 ≤ ((cellI ns 3).fdiv 4).fmod (lfI ns).d := Int.fmod_nonneg_of_pos _ (by omega)
  have hn1 : ((cellI ns 3).fdiv 4).fmod (lfI ns).d < (lfI ns).d := Int.fmod_lt_of_pos _ (by omega)
  have hcs0 : cs0L ns ∈ contsI (formI ns) := by
    refine conts_mem hF _ ?_ ?_ fun v hv => ?_
    · unfold cs0L cs0N; rw [List.length_map, rg_len]; omega
    · have e : (formI ns).longest = (lfI ns).d := rfl
      unfold cs0L cs0N; rw [List.length_map, rg_len, e]; omega
    · obtain ⟨k, _, rfl⟩ := List.mem_map.mp hv
      have h0 : 0 ≤ (mixI (cellI ns 3) k).fmod (lfI ns).c := Int.fmod_nonneg_of_pos _ (by omega)
      have h1 : (mixI (cellI ns 3) k).fmod (lfI ns).c < (lfI ns).c := Int.fmod_lt_of_pos _ (by omega)
      show (mixI (cellI ns 3) k).fmod (lfI ns).c = 0 ∨ (mixI (cellI ns 3) k).fmod (lfI ns).c = 1
      omega
  have hcell : startI ns ∈ passedL ns ∧ (passedL ns) ≠ [] := by
    have key : ∀ (cs : List Int) (p : List Int × List (List Int)), ∀ x ∈ p.2, x ∈ (cs.foldl (endStep (formI ns)) p).2 := fun cs => by
      induction cs with
      | nil => exact fun p x hx => hx
      | cons c cs ih =>
        intro p x hx
        rw [List.foldl_cons]
        refine ih _ x ?_
        unfold endStep
        split
        · exact hx
        · exact List.mem_append_left _ hx
    have h := key (cellsL ns) (startI ns, [startI ns]) (startI ns) (by simp)
    exact ⟨h, fun z => by have h2 : startI ns ∈ passedL ns := h; rw [z] at h2; cases h2⟩
  have hcs : csL ns ∈ contsI (formI ns) := by
    unfold csL
    split
    · split
      · rename_i hlen
        have hp0 : 0 < (passedL ns).length := List.length_pos_iff.mpr hcell.2
        have j0 : 0 ≤ ((cellI ns 4).fdiv 2).fmod ((passedL ns).length : Int) := Int.fmod_nonneg_of_pos _ (by omega)
        have j1 : ((cellI ns 4).fdiv 2).fmod ((passedL ns).length : Int) < ((passedL ns).length : Int) := Int.fmod_lt_of_pos _ (by omega)
        have hm : momL ns ∈ passedL ns := getD_mem (by omega)
        rcases (f.p6 (fileL ns) hfl (momL ns) (hpo _ hm)).1 with h | h
        · have h2 : seenL ns = [] := h
          rw [h2] at hlen
          simp at hlen
        · exact h
      · exact hcs0
    · exact hcs0
  have av := (av_sub hF f hfl hcs).2
  have hav : avL ns = avoidI (rL ns) (lstarts (formI ns)) (badM (formI ns) (rL ns) (fileL ns) (csL ns)) := rfl
  have hbd : badL ns = badM (formI ns) (rL ns) (fileL ns) (csL ns) := rfl
  obtain ⟨l1, l2, l3, l4, l5, l6, l7⟩ := chk_len _ hF
  have hzl : (lsizes (formI ns)).length = nI (formI ns) := by rw [l4, List.length_map, l1]
  have hpass := pass_av pF f av (cellsL ns) (startI ns, [startI ns]) (hst _ hs0) rfl fun hb => by
    rcases av.2.1 (startI ns) hs0 with h | h
    · exact absurd h (hb _ (by simp))
    · exact h
  have hl : lastP ns = ((cellsL ns).foldl (endStep (formI ns)) (startI ns, [startI ns])).1 := by
    have h := hpass.2.1
    show (passedL ns).getLast?.getD [] = _
    rw [show (passedL ns).getLast? = _ from h]
    rfl
  rw [← hl] at hpass
  have hlo : lastP ns ∈ (rL ns).order := hpass.1
  have hld := (disk_ok hF f hlo).1
  have hlv := (f.p2 _ hlo).2.2.2.1
  have hil : (imageL ns).length = nI (formI ns) := spoil_len.trans hld
  have him : sketchB (machI (formI ns)) (imageL ns) = true := (sketch_iff hF).mpr ⟨hil, fun i hi => by
    have h := spoil_mask (c := cellI ns 2) (hlv i hi).1 (hlv i hi).2
    rw [show g0 (imageL ns) i = _ from spoil_get (by omega)]
    exact ⟨h.1, h.2.1⟩⟩
  have hfit : fitsB (imageL ns) (lastP ns) = true := (fitsB_iff hil hld).mpr fun i hi => by
    have h := spoil_mask (c := cellI ns 2) (hlv i hi).1 (hlv i hi).2
    rw [show g0 (imageL ns) i = _ from spoil_get (by omega)]
    exact h.2.2
  have hpc := chk_piece _ hF (fileL ns) hfl (csL ns) hcs
  obtain ⟨told, disk, deeds, hT, hR⟩ := tell_all (env_ok hF hfl hcs him) (mach_ok hF) him fun s hs => (hpc.2 s hs).2.1
  have hx : told = false → ∃ x ds, disk = some x ∧ deeds = some ds ∧ x ∈ startsL ns ∧ HistOk (formI ns) (rL ns) (badL ns) (imageL ns) x ds ∧ ∃ d ∈ avL ns, fitsB (imageL ns) d = true := fun ht => by
    obtain ⟨x, ds, h1, h2, h3, h4, h5, h6⟩ := hR.no ht
    have hxs := start_in hF f h3 h4 h5
    obtain ⟨k1, k2⟩ := run_hist hF f hfl hcs hil h6 (hst x hxs)
    refine ⟨x, ds, h1, h2, hxs, k1, k2 ?_⟩
    have hnb : x ∉ badM (formI ns) (rL ns) (fileL ns) (csL ns) := by
      cases k1 with
      | nil h1 => exact h1
      | cons h1 => exact h1
    rcases av.2.1 x hxs with h | h
    · exact absurd h hnb
    · exact h
  refine ⟨⟨mach_ok hF, hne, fun d => d ∈ (rL ns).order, hk, hst, hcell.2, fun d hd => ⟨?_, ?_, (f.p2 d hd).2.2.1, ?_⟩, q1.2.2.2.1, q1.2.2.2.2.1, fun d hd => hd, by have := q1.1; omega, (conts_ok _ hF).2 _ hcs, by have := hpc.1; show (pieceI _ _ _).length ≤ 1000; omega, fun d hd => ?_, ⟨q1.2.2.2.1, q1.2.2.2.2.1, hst, q1.2.2.2.2.2.2.2.1, q1.2.1⟩, by rw [hav]; have := av.1; omega, fun d hd => (av.2.2 d hd).1, told, disk, deeds, hT, ?_, fun ht => ?_, fun ht => ?_⟩⟩
  · have := (disk_ok hF f hd).1; omega
  · rw [(disk_ok hF f hd).1, hzl]
  · intro v hv
    obtain ⟨i, hi, rfl⟩ := List.getElem_of_mem hv
    have h := (chk_cell _ hF i (by omega)).2.1
    have e : g0 (lsizes (formI ns)) i = (lsizes (formI ns))[i] := by
      unfold g0
      rw [List.getD_eq_getElem?_getD, List.getElem?_eq_getElem hi]; rfl
    rw [← e]
    omega
  · rw [show pieceL ns = pieceI (formI ns) (fileL ns) (csL ns) from rfl, (f.p6 (fileL ns) hfl d hd).2 _ hcs, decide_eq_decide, hbd]
    unfold badM
    rw [List.mem_filter]
    exact ⟨fun h => ⟨hd, decide_eq_true h⟩, fun h => of_decide_eq_true h.2⟩
  · cases ht : told with
    | true =>
      have h := told_due hF f hfl hcs hil hR ht
      rw [← hav] at h
      have e : (avL ns).filter (fun d => fitsB (imageL ns) d) = [] := List.filter_eq_nil_iff.mpr fun d hd => by rw [h d hd]; decide
      rw [e]; rfl
    | false =>
      obtain ⟨_, _, _, _, _, _, d, hd, hfd⟩ := hx ht
      have hpos := List.length_pos_of_mem (List.mem_filter.mpr ⟨hd, hfd⟩ : d ∈ (avL ns).filter fun d => fitsB (imageL ns) d)
      symm
      refine decide_eq_false ?_
      rw [List.length_map]
      omega
  · apply Classical.byContradiction
    intro hc
    rw [List.length_map] at hc
    have hz : (passedL ns).filter (fun d => decide (d ∈ badL ns)) = [] := List.eq_nil_of_length_eq_zero (by omega)
    have hall : ∀ x ∈ passedL ns, x ∉ badL ns := fun x hx hb => by
      have := List.filter_eq_nil_iff.mp hz x hx
      exact this (decide_eq_true hb)
    have hla := hpass.2.2 hall
    have := told_due hF f hfl hcs hil hR ht _ hla
    rw [hfit] at this
    cases this
  · obtain ⟨x, ds, h1, h2, h3, h4, _⟩ := hx ht
    exact ⟨x, ds, h1, h2, h3, h4⟩
end Q
end RW
set_option Elab.async false
set_option linter.all false
set_option maxRecDepth 100000
set_option maxHeartbeats 4000000
namespace RW
open PySem PySem.Spec PyProof.Rows L2
local macro_rules | `(tactic| walk_at "sm") => `(tactic| first
  | exact Same.refl _
  | assumption
  | exact same_new (by assumption)
  | (refine Same.trans ?_ (by assumption); walk_at "sm")
  | (refine Same.trans ?_ (same_new (by assumption)); walk_at "sm"))
local macro_rules | `(tactic| walk_at "rp") => `(tactic| first
  | assumption
  | exact rfl
  | (refine Rep.mono (tx_of ?_) (by assumption); walk_at "sm")
  | (refine Mo.mo ?_ (by assumption); walk_at "sm"))
local macro_rules | `(tactic| walk_at "ev") => `(tactic| first
  | exact ev_ci
  | exact ev_cs
  | exact ev_cb
  | exact ev_cn
  | (refine @ev_rv _ _ _ _ _ _ _ rfl ?_; walk_at "rp")
  | (refine @ev_var _ _ _ _ _ ?_ rfl ?_; (first | infer_instance | skip); walk_at "rp")
  | (refine ev_ii ?_ ?_ <;> walk_at "ev")
  | (refine ev_ib ?_ ?_ <;> walk_at "ev")
  | (refine ev_eqI ?_ ?_ <;> walk_at "ev")
  | (refine ev_neI ?_ ?_ <;> walk_at "ev")
  | (refine ev_lenT ?_ <;> walk_at "ev")
  | (refine ev_lenL ?_ <;> walk_at "ev")
  | (refine ev_int1 ?_ <;> walk_at "ev")
  | (refine et_test ?_ <;> walk_at "ev")
  | (refine et_B ?_ <;> walk_at "ev")
  | (refine et_not ?_ <;> walk_at "ev")
  | (refine et_or ?_ (fun _ => ?_) <;> walk_at "ev")
  | (refine et_and ?_ (fun _ => ?_) <;> walk_at "ev"))
set_option maxHeartbeats 0
section
variable {P : Program} {w : World} {K : PySem.W.Frag} {mg : Str → Option Value} {base : Heap}
abbrev N_law : List Str := ["_law_script", "_law_form", "_law_files", "_law_blocks_here", "_law_values", "_law_longest", "_law_wiped", "_law_made", "_law_machine", "_law_starts_here", "_law_passed", "_law_image", "_law_file", "_law_contents_here", "_law_seen", "_law_links_here", "_law_bad", "_law_disk", "_law_piece", "_law_holds", "_law_due", "_law_answer", "_law_number", "_law_cells", "_law_cell_here", "_law_source", "_law_k", "_law_sketch"]
theorem sc_law : FnScope N_law ["_law_script"] (defScope s_law) := ⟨rfl, rfl, rfl, by decide +kernel, rfl, by decide +kernel, by decide +kernel⟩
abbrev sp_law (K : PySem.W.Frag) : Sp := (spLaw K)
theorem ok_law {f f0 : Addr} {fd fd0 : FuncData} {gk : List Value → List Value → List Value} (T : Txt K mg) (c_law_cell : C8.Cal P w K mg base 1 "_law_cell" (sp_law_cell K) []) (c_chain_machine : C8.Cal P w K mg base 5 "chain_machine" (sp_chain_machine K) []) (c_law_starts : C8.Cal P w K mg base 2 "_law_starts" sp_law_starts []) (c_law_end : C8.Cal P w K mg base 3 "_law_end" sp_law_end []) (c_law_spoil : C8.Cal P w K mg base 2 "_law_spoil" sp_law_spoil []) (c_law_sizes : C8.Cal P w K mg base 1 "_law_sizes" sp_law_sizes []) (c_law_mix : C8.Cal P w K mg base 1 "_law_mix" sp_law_mix []) (c_law_live : C8.Cal P w K mg base 2 "_law_live" sp_law_live []) (c_law_reached : C8.Cal P w K mg base 3 "_law_reached" sp_law_reached []) (c_chain_piece : C8.Cal P w K mg base 3 "chain_piece" (sp_chain_piece K) []) (c_law_fits : C8.Cal P w K mg base 1 "_law_fits" sp_law_fits []) (c_law_avoid : C8.Cal P w K mg base 1 "_law_avoid" sp_law_avoid []) (c_tell : C8.Cal P w K mg base 6 "tell" (sp_tell K) []) (kf_f : FnOk P w K mg base CX0 2 (He.ma K (CChainForm K) "__init__") fd0 ["self", "files", "blocks", "alphabet", "longest", "wiped"] (sp_ChainForm_init K)) (kf_b : KBn K fd0 ["self", "files", "blocks", "alphabet", "longest", "wiped"] 5 ["wiped"] gk (fun vs zs => vs ++ zs)) (hplain : ∀ ns : List Int, ns.length ≤ 63 → LawOk ns) (F : FunD K "law" "law" (defArgs s_law) (defBody s_law) (defScope s_law) [] [] f fd) : FnOk P w K mg base CX0 7 f fd ["_law_script"] (sp_law K) := by
  refine F.ok sc_law (fun vs H Q E ⟨a, ns, e, _⟩ => by rw [e]; rfl) (fun cdv A outer s H vs Q E hr h => ?_)
  refine noxT ?_
  have hu : (A.deeper (envOfC "law" (defScope s_law) s.heap.objs.size f cdv)).units + 1 < cLine := by have := hr.un; omega
  have hu64 : (A.deeper (envOfC "law" (defScope s_law) s.heap.objs.size f cdv)).units + 64 < cLine := by have := hr.un; omega
  have hu65 : (A.deeper (envOfC "law" (defScope s_law) s.heap.objs.size f cdv)).units + 65 < cLine := by have := hr.un; omega
  obtain ⟨a0, ns, rfl, hS, hl, q⟩ := h
  refine ⟨_, (pss_cons (ps_set (i := 1) sc_law.nd rfl (by first | exact .inl rfl | exact .inr rfl) (pe_ix (k_ixT (K := K) rfl) (pe_tup (pa_cons (pe_tup (pa_cons pe_int (pa_cons pe_int (pa_cons pe_int (pa_cons pe_int pa_nil))))) (pa_cons (pe_tup (pa_cons pe_int (pa_cons pe_int (pa_cons pe_int (pa_cons pe_int pa_nil))))) (pa_cons (pe_tup (pa_cons pe_int (pa_cons pe_int (pa_cons pe_int (pa_cons pe_int pa_nil))))) (pa_cons (pe_tup (pa_cons pe_int (pa_cons pe_int (pa_cons pe_int (pa_cons pe_int pa_nil))))) pa_nil))))) (pe_op op_modN (C8.pe_c c_law_cell hr (by decide) (by rfl) (pa_cons (pv 0) (pa_cons pe_int pa_nil))) pe_int) (fun _ _ => rfl)))
      (pss_cons (ps_asg (pv 1) (k_gtup (K := K) (n := 4) rfl rfl (pgs_cons (pg_name (i := 2) sc_law.nd rfl (by first | exact .inl rfl | exact .inr rfl)) (pgs_cons (pg_name (i := 3) sc_law.nd rfl (by first | exact .inl rfl | exact .inr rfl)) (pgs_cons (pg_name (i := 4) sc_law.nd rfl (by first | exact .inl rfl | exact .inr rfl)) (pgs_cons (pg_name (i := 5) sc_law.nd rfl (by first | exact .inl rfl | exact .inr rfl)) pgs_nil))))))
      (pss_cons (ps_set (i := 6) sc_law.nd rfl (by first | exact .inl rfl | exact .inr rfl) (pe_cmpR op_gt (pe_op op_modN (pe_op op_fdivN (C8.pe_c c_law_cell hr (by decide) (by rfl) (pa_cons (pv 0) (pa_cons pe_int pa_nil))) pe_int) pe_int) pe_int (nomark _)))
      (pss_cons (ps_set (i := 7) sc_law.nd rfl (by first | exact .inl rfl | exact .inr rfl) (L2.pe_makeK T.kChainForm kf_f (hr.mono (by decide)) (by rfl) T.gChainForm kf_b pass0 (pa_cons (pv 2) (pa_cons (pv 3) (pa_cons (pv 4) (pa_cons (pv 5) pa_nil)))) (pk_cons (pv 6) pk_nil)))
      (pss_cons (ps_set (i := 8) sc_law.nd rfl (by first | exact .inl rfl | exact .inr rfl) (C8.pe_c c_chain_machine hr (by decide) (by rfl) (pa_cons (pv 7) pa_nil)))
      (pss_cons (ps_set (i := 9) sc_law.nd rfl (by first | exact .inl rfl | exact .inr rfl) (C8.pe_c c_law_starts hr (by decide) (by rfl) (pa_cons (pv 1) (pa_cons (pv 6) pa_nil))))
      (pss_cons (ps_set (i := 10) sc_law.nd rfl (by first | exact .inl rfl | exact .inr rfl) (C8.pe_c c_law_end hr (by decide) (by rfl) (pa_cons (pv 1) (pa_cons (pe_ix (k_ixL (K := K) rfl) (pv 9) (pe_op op_modN (C8.pe_c c_law_cell hr (by decide) (by rfl) (pa_cons (pv 0) (pa_cons pe_int pa_nil))) (pe_callB (k_len (K := K) rfl) (by rfl) T.len PySem.boot_len (pa_cons (pv 9) pa_nil))) (fun _ _ => rfl)) (pa_cons (pe_lc (own := [("_law_cell_here", 24)]) rfl sc_law.nd (k_list (K := K) rfl (pe_slice (k_slL (K := K) rfl) (pv 0) (po_some pe_int) (po_some pe_int))) (blkOk_by (N := N_law) (sc := defScope s_law) (by decide +kernel)) (fun _ _ _ _ _ => (pg_name (i := 24) sc_law.nd rfl (by first | exact .inl rfl | exact .inr rfl))) (fun _ _ _ _ _ => pts_nil) (fun _ _ _ _ _ => (pe_callTy call_int1 (by rfl) T.int (by decide +kernel) (pa_cons (pv 24) pa_nil)))) pa_nil)))))
      (pss_cons (ps_set (i := 11) sc_law.nd rfl (by first | exact .inl rfl | exact .inr rfl) (C8.pe_c c_law_spoil hr (by decide) (by rfl) (pa_cons (pe_ix (k_ixL (K := K) rfl) (pv 10) (pe_un un_neg pe_int) (fun _ _ => rfl)) (pa_cons (C8.pe_c c_law_sizes hr (by decide) (by rfl) (pa_cons (pv 1) pa_nil)) (pa_cons (C8.pe_c c_law_cell hr (by decide) (by rfl) (pa_cons (pv 0) (pa_cons pe_int pa_nil))) pa_nil)))))
      (pss_cons (ps_set (i := 12) sc_law.nd rfl (by first | exact .inl rfl | exact .inr rfl) (pe_op op_modN (C8.pe_c c_law_cell hr (by decide) (by rfl) (pa_cons (pv 0) (pa_cons pe_int pa_nil))) (pv 2)))
      (pss_cons (ps_set (i := 13) sc_law.nd rfl (by first | exact .inl rfl | exact .inr rfl) (pe_callTy (k_tuple (K := K) rfl) (by rfl) T.tuple (by decide +kernel) (pa_cons (pe_lc (own := [("_law_k", 26)]) rfl sc_law.nd (pi_range1 (by rfl) T.range (pa_cons (pe_op op_add pe_int (pe_op op_modN (pe_op op_fdivN (C8.pe_c c_law_cell hr (by decide) (by rfl) (pa_cons (pv 0) (pa_cons pe_int pa_nil))) pe_int) (pv 5))) pa_nil)) (blkOk_by (N := N_law) (sc := defScope s_law) (by decide +kernel)) (fun _ _ _ _ _ => (pg_name (i := 26) sc_law.nd rfl (by first | exact .inl rfl | exact .inr rfl))) (fun _ _ _ _ _ => pts_nil) (fun _ _ _ _ _ => (pe_op op_modN (C8.pe_c c_law_mix hr (by decide) (by rfl) (pa_cons (C8.pe_c c_law_cell hr (by decide) (by rfl) (pa_cons (pv 0) (pa_cons pe_int pa_nil))) (pa_cons (pv 26) pa_nil))) (pv 4)))) pa_nil)))
      (pss_cons (ps_if (pt_cmpR op_eq (pe_op op_modN (C8.pe_c c_law_cell hr (by decide) (by rfl) (pa_cons (pv 0) (pa_cons pe_int pa_nil))) pe_int) pe_int (nomark _)) (pss_cons (ps_set (i := 14) sc_law.nd rfl (by first | exact .inl rfl | exact .inr rfl) (C8.pe_c c_law_live hr (by decide) (by rfl) (pa_cons (pv 1) (pa_cons (pe_ix (k_ixL (K := K) rfl) (pv 10) (pe_op op_modN (pe_op op_fdivN (C8.pe_c c_law_cell hr (by decide) (by rfl) (pa_cons (pv 0) (pa_cons pe_int pa_nil))) pe_int) (pe_callB (k_len (K := K) rfl) (by rfl) T.len PySem.boot_len (pa_cons (pv 10) pa_nil))) (fun _ _ => rfl)) (pa_cons (pv 12) pa_nil)))))
        (pss_one (ps_if (pt_cmpR op_gt (pe_callB (k_len (K := K) rfl) (by rfl) T.len PySem.boot_len (pa_cons (pv 14) pa_nil)) pe_int (nomark _)) (pss_one (ps_set (i := 13) sc_law.nd rfl (by first | exact .inl rfl | exact .inr rfl) (pv 14))) pss_nil))) pss_nil)
      (pss_cons (ps_set (i := 15) sc_law.nd rfl (by first | exact .inl rfl | exact .inr rfl) (C8.pe_c c_law_reached hr (by decide) (by rfl) (pa_cons (pv 1) (pa_cons (pv 9) pa_nil))))
      (pss_cons (ps_set (i := 16) sc_law.nd rfl (by first | exact .inl rfl | exact .inr rfl) pe_dnewT)
      (pss_cons (ps_for PassesOwn.never rfl (pi_keys (pe_frz (pv 15))) (pg_name (i := 17) sc_law.nd rfl (by first | exact .inl rfl | exact .inr rfl))
        (pss_one (ps_if (pt_cmpR (op_eqD hu64) (C8.pe_c c_law_live hr (by decide) (by rfl) (pa_cons (pv 1) (pa_cons (pv 17) (pa_cons (pv 12) pa_nil)))) (pv 13) (nomark _)) (pss_one (ps_dput hu (pv 16) (pv 17) pe_bl rfl)) pss_nil)))
      (pss_cons (ps_set (i := 18) sc_law.nd rfl (by first | exact .inl rfl | exact .inr rfl) (C8.pe_c c_chain_piece hr (by decide) (by rfl) (pa_cons (pv 7) (pa_cons (pv 12) (pa_cons (pv 13) pa_nil)))))
      (pss_cons (ps_for PassesOwn.never rfl (pi_keys (pv 15)) (pg_name (i := 17) sc_law.nd rfl (by first | exact .inl rfl | exact .inr rfl))
        (pss_cons (ps_set (i := 19) sc_law.nd rfl (by first | exact .inl rfl | exact .inr rfl) (pe_cmpR op_gt (pe_callB (k_len (K := K) rfl) (by rfl) T.len PySem.boot_len (pa_cons (pe_lc (own := [("_law_sketch", 27)]) rfl sc_law.nd (k_list (K := K) rfl (pv 18)) (blkOk_by (N := N_law) (sc := defScope s_law) (by decide +kernel)) (fun _ _ _ _ _ => (pg_name (i := 27) sc_law.nd rfl (by first | exact .inl rfl | exact .inr rfl))) (fun _ _ _ _ _ => (pts_one (pt_val (C8.pe_c c_law_fits hr (by decide) (by rfl) (pa_cons (pv 27) (pa_cons (pv 17) pa_nil)))))) (fun _ _ _ _ _ => pe_int)) pa_nil)) pe_int (nomark _)))
        (pss_one (ps_if (pt_cmpR op_ne (pv 19) (pe_cmp (pc_din hu (pv 17) (pv 16))) (nomark _)) (pss_one (ps_ret pe_bl)) pss_nil))))
      (pss_cons (ps_set (i := 20) sc_law.nd rfl (by first | exact .inl rfl | exact .inr rfl) (pe_cmpR op_eq (pe_callB (k_len (K := K) rfl) (by rfl) T.len PySem.boot_len (pa_cons (pe_lc (own := [("_law_disk", 17)]) rfl sc_law.nd (pi_keys (pe_frz (C8.pe_c c_law_avoid hr (by decide) (by rfl) (pa_cons (pv 15) (pa_cons (pv 9) (pa_cons (pv 16) pa_nil)))))) (blkOk_by (N := N_law) (sc := defScope s_law) (by decide +kernel)) (fun _ _ _ _ _ => (pg_name (i := 17) sc_law.nd rfl (by first | exact .inl rfl | exact .inr rfl))) (fun _ _ _ _ _ => (pts_one (pt_val (C8.pe_c c_law_fits hr (by decide) (by rfl) (pa_cons (pv 11) (pa_cons (pv 17) pa_nil)))))) (fun _ _ _ _ _ => pe_int)) pa_nil)) pe_int (nomark _)))
      (pss_cons (ps_set (i := 21) sc_law.nd rfl (by first | exact .inl rfl | exact .inr rfl) (C8.pe_c c_tell hr (by decide) (by rfl) (pa_cons (pv 8) (pa_cons (pv 11) (pa_cons (pv 18) pa_nil)))))
      (pss_cons (ps_if (pt_cmpR op_ne (k_fld (K := K) rfl (pv 21) rfl) (pv 20) (nomark _)) (pss_one (ps_ret pe_bl)) pss_nil)
      (pss_cons (ps_if (pt_val (k_fld (K := K) rfl (pv 21) rfl)) (pss_one (ps_ret (pe_cmpR op_gt (pe_callB (k_len (K := K) rfl) (by rfl) T.len PySem.boot_len (pa_cons (pe_lc (own := [("_law_disk", 17)]) rfl sc_law.nd (k_list (K := K) rfl (pv 10)) (blkOk_by (N := N_law) (sc := defScope s_law) (by decide +kernel)) (fun _ _ _ _ _ => (pg_name (i := 17) sc_law.nd rfl (by first | exact .inl rfl | exact .inr rfl))) (fun _ _ _ _ _ => (pts_one (pt_cmp (pc_din hu (pv 17) (pv 16))))) (fun _ _ _ _ _ => pe_int)) pa_nil)) pe_int (nomark _)))) pss_nil)
      (pss_cons (ps_set (i := 17) sc_law.nd rfl (by first | exact .inl rfl | exact .inr rfl) (k_fld (K := K) rfl (pv 21) rfl))
      (pss_cons (ps_for PassesOwn.never rfl (k_tup (K := K) rfl (k_fld (K := K) rfl (pv 21) rfl)) (pg_name (i := 22) sc_law.nd rfl (by first | exact .inl rfl | exact .inr rfl))
        (pss_cons (ps_set (i := 23) sc_law.nd rfl (by first | exact .inl rfl | exact .inr rfl) (pe_callTy (k_listOf (K := K) rfl) (by rfl) T.list (by decide +kernel) (pa_cons (pv 17) pa_nil)))
        (pss_cons (ps_for PassesOwn.never rfl (k_tup (K := K) rfl (pe_ix (k_ixT (K := K) rfl) (pe_ix (k_ixT (K := K) rfl) (k_fld (K := K) rfl (pv 8) rfl) (pv 22) (fun _ _ => rfl)) pe_int (fun _ _ => rfl))) (k_gtup (K := K) (n := 2) rfl rfl (pgs_cons (pg_name (i := 24) sc_law.nd rfl (by first | exact .inl rfl | exact .inr rfl)) (pgs_cons (pg_name (i := 25) sc_law.nd rfl (by first | exact .inl rfl | exact .inr rfl)) pgs_nil)))
          (pss_one (ps_asg (pe_ix (k_ixT (K := K) rfl) (pv 25) pe_int (fun _ _ => rfl)) (pg_sub (pv 23) (pv 24) set_list))))
        (pss_cons (ps_if (PW.pt (pw_or (pt_cmp (pc_din hu (pv 17) (pv 16))) (pw_or1 (pt_cmpR (op_notInD hu65) (pe_callTy (k_tuple (K := K) rfl) (by rfl) T.tuple (by decide +kernel) (pa_cons (pv 23) pa_nil)) (pe_dget2 hu (pv 15) (pv 17) (pe_lst pa_nil) ⟨rfl, rfl, rfl, rfl⟩) (by rfl))))) (pss_one (ps_ret pe_bl)) pss_nil)
        (pss_one (ps_set (i := 17) sc_law.nd rfl (by first | exact .inl rfl | exact .inr rfl) (pe_callTy (k_tuple (K := K) rfl) (by rfl) T.tuple (by decide +kernel) (pa_cons (pv 23) pa_nil))))))))
      (pss_one (ps_ret (pe_and (pe_cmpR (op_inD hu65) (k_fld (K := K) rfl (pv 21) rfl) (pv 9) (by rfl)) (pe_and (pe_cmp (pc_dnotin hu (pv 17) (pv 16))) (pe_one (C8.pe_c c_law_fits hr (by decide) (by rfl) (pa_cons (pv 11) (pa_cons (pv 17) pa_nil)))))))))))))))))))))))))))))), ?_⟩
  have sc : Sc K ns (.ref a0) H := ⟨a0, rfl, hS⟩
  have ce : ∀ {σ : L2.St} {H1 : Hp} {k : Nat}, Same H H1 → (σ[0]? = some (some (.ref a0))) → Ev (tCall (sp_law_cell K) [] E0 (tCons (tVar 0) (tCons (tC (.int (k : Int))) tNil))) σ H1 (R (cellI ns k)) := fun {σ H1 k} e h0 => ev_pp (ns, k) (ea_cons (ev_var h0 (Mo.mo e sc)) (ea_cons ev_ci ea_nil)) trivial
  have hplain := hplain ns hl
  have pF := form_ok ns
  refine q_asg (ev_ixT (xs := four) (ev_tl4 (ev_t4 ev_ci ev_ci ev_ci ev_ci) (ev_t4 ev_ci ev_ci ev_ci ev_ci) (ev_t4 ev_ci ev_ci ev_ci ev_ci) (ev_t4 ev_ci ev_ci ev_ci ev_ci)) (ev_iiC (g := fun i j => i.fmod j) (ce (k := 0) (Same.refl _) rfl) ev_ci (by decide)) (lf_at ns)) fun v1 H1 e1 hv1 => ?_
  refine q_asgG (ev_rv (x := lfI ns) rfl hv1) fun v2 H2 e2 hv2 => g_t4n hv2 fun y2 y3 y4 y5 hy2 hy3 hy4 hy5 => ?_
  obtain rfl : y2 = .int (lfI ns).a := hy2
  obtain rfl : y3 = .int (lfI ns).b := hy3
  obtain rfl : y4 = .int (lfI ns).c := hy4
  obtain rfl : y5 = .int (lfI ns).d := hy5
  have s2 := e1.trans e2
  refine q_asg (φ := R (formI ns).wiped) (ev_ib (g := fun i j => decide (j < i)) (ev_iiC (g := fun i j => i.fmod j) (ev_iiC (g := fun i j => i.fdiv j) (ce (k := 0) s2 rfl) ev_ci ⟨by decide, by decide⟩) ev_ci (show (3 : Int) ≠ 0 by decide)) ev_ci) fun v3 H3 e3 hv3 => ?_
  have s3 := s2.trans e3
  have hv3 : Rep.rp H3 (formI ns).wiped v3 := hv3
  refine q_asg (φ := FormS K (formI ns)) (ev_mkK (formI ns) (φ1 := [R (lfI ns).a, R (lfI ns).b, R (lfI ns).c, R (lfI ns).d]) (φ2 := [R (formI ns).wiped]) (ea_cons (ev_rv (x := (lfI ns).a) rfl rfl) (ea_cons (ev_rv (x := (lfI ns).b) rfl rfl) (ea_cons (ev_rv (x := (lfI ns).c) rfl rfl) (ea_cons (ev_rv (x := (lfI ns).d) rfl rfl) ea_nil)))) (ea_cons (ev_rv rfl hv3) ea_nil) rfl rfl (fun vs zs H1 h1 h2 => by
    obtain ⟨b1, b2, b3, b4, rfl, k1, k2, k3, k4⟩ := fas4 h1
    obtain ⟨b5, rfl, k5⟩ := fas1 h2
    exact ⟨b1, _, rfl, k1, b2, _, rfl, k2, b3, _, rfl, k3, b4, _, rfl, k4, b5, _, rfl, k5, rfl⟩) pF) fun v4 H4 e4 hv4 => ?_
  have s4 := s3.trans e4
  refine q_asg (ev_pp (formI ns) (ea_cons (ev_var rfl hv4) ea_nil) ⟨pF, hplain.mach⟩) fun v5 H5 e5 hv5 => ?_
  have s5 := s4.trans e5
  refine q_asg (ev_pn (formI ns) (ea_cons (ev_rv (x := lfI ns) rfl (Rep.mono (tx_of (((e2.trans e3).trans e4).trans e5)) hv1)) (ea_cons (ev_rv (x := (formI ns).wiped) rfl (Rep.mono (tx_of (e4.trans e5)) hv3)) ea_nil)) pF) fun v6 H6 e6 hv6 => ?_
  have s6 := s5.trans e6
  have hst : Ls (startsL ns) v6 H6 := hv6.ls
  have i0 : 0 ≤ (cellI ns 1).fmod ((startsL ns).length : Int) := Int.fmod_nonneg_of_pos _ (by have := hplain.ne; omega)
  have i1 : (cellI ns 1).fmod ((startsL ns).length : Int) < ((startsL ns).length : Int) := Int.fmod_lt_of_pos _ (by have := hplain.ne; omega)
  have i2 : ((cellI ns 1).fmod ((startsL ns).length : Int)).toNat < (startsL ns).length := by omega
  have hsG : hplain.G (startI ns) := hplain.st _ (getD_mem i2)
  have hcl : (cellsL ns).length ≤ 63 := by
    unfold cellsL cutX
    rw [List.length_map, List.length_take, List.length_drop]
    omega
  have hcl2 : (cutX ns (some 5) (some 25)).length ≤ 63 := by unfold cellsL at hcl; rw [List.length_map] at hcl; exact hcl
  have g1 := Rep.mono (tx_of ((((e2.trans e3).trans e4).trans e5).trans e6)) hv1
  refine q_asg (ev_pn (EndG.mk (formI ns) (startI ns) (cellsL ns)) (ea_cons (ev_rv (x := lfI ns) rfl g1) (ea_cons (ev_ixL (x := startI ns) (ev_var rfl hst) (ev_iiC (g := fun i j => i.fmod j) (ce (k := 1) s6 rfl) (ev_lenL (ev_var rfl hst)) (by show ((startsL ns).length : Int) ≠ 0; have := hplain.ne; omega)) (atI_at i0 (getD_at i2))) (ea_cons (φ := Ls (cellsL ns)) (ev_ls (ev_lcm (fun c : Int => c) 0 (evi_list (ev_ls (ev_slSc (ev_var rfl (Mo.mo s6 sc)) (eo_some (i := 5) ev_ci) (eo_some (i := 25) ev_ci)))) (by rw [sizeLine_eq]; omega) (fun _ => rfl) (fun z x H1 hz e hx => ev_int1 (ev_rv rfl hx)))) ea_nil))) ⟨pF, by show (cellsL ns).length ≤ 1000; omega, hplain.G, hplain.kept, hsG⟩) fun v7 H7 e7 hv7 => ?_
  have s7 := s6.trans e7
  have hpa : Ls (passedL ns) v7 H7 := hv7.ls
  refine q_st ([some (.ref a0), some v1, some (.int (lfI ns).a), some (.int (lfI ns).b), some (.int (lfI ns).c), some (.int (lfI ns).d), some v3, some v4, some v5, some v6, some v7, none, none, none, none, none, none, none, none, none, none, none, none, none, none, none, none, none]) rfl ?_
  have hend := end_in pF hplain.kept (cellsL ns) (startI ns, [startI ns]) hsG (fun x hx => by rw [List.mem_singleton.mp hx]; exact hsG)
  have hpG : ∀ d ∈ passedL ns, hplain.G d := hend.1.2
  have hpl : (passedL ns).length ≤ 64 := by
    have := hend.2
    have e : passedL ns = ((cellsL ns).foldl (endStep (formI ns)) (startI ns, [startI ns])).2 := rfl
    rw [e]
    have e2 : (startI ns, [startI ns]).2.length = 1 := rfl
    omega
  have hpne := hplain.pne
  have hlP : lastP ns ∈ passedL ns := by
    unfold lastP
    rw [List.getLast?_eq_some_getLast hpne]
    exact List.getLast_mem hpne
  have g7 := Rep.mono (tx_of e7) g1
  have ha : (lfI ns).a = 1 ∨ (lfI ns).a = 2 := pF.1
  have hc2 : (lfI ns).c = 2 := pF.2.2.1
  have hd2 : (lfI ns).d = 1 ∨ (lfI ns).d = 2 := pF.2.2.2
  refine q_cut fun KK hKK => ?_
  refine q_asg (ev_pp (T3.mk (lastP ns) (lsizes (formI ns)) (cellI ns 2)) (ea_cons (ev_ixL (x := lastP ns) (ev_var rfl hpa) ev_ne1 (last_ixA hpne)) (ea_cons (φ := Ls (lsizes (formI ns))) (ev_ls (ev_pn (formI ns) (ea_cons (ev_rv (x := lfI ns) rfl g7) ea_nil) pF)) (ea_cons (ce (k := 2) s7 rfl) ea_nil))) (hplain.sp _ (hpG _ hlP))) fun v8 H8 e8 hv8 => ?_
  subst hKK
  have hv8 : Rep.rp H8 (imageL ns) v8 := hv8
  have s8 := s7.trans e8
  have ha0 : (lfI ns).a ≠ 0 := by omega
  refine q_cut fun KK hKK => ?_
  refine q_asg (φ := R (fileL ns)) (ev_iiC (g := fun i j => i.fmod j) (ce (k := 3) s8 rfl) (ev_rv (x := (lfI ns).a) rfl rfl) ha0) fun v9 H9 e9 hv9 => ?_
  subst hKK
  have s9 := s8.trans e9
  obtain rfl : v9 = .int (fileL ns) := hv9
  refine q_st ([some (.ref a0), some v1, some (.int (lfI ns).a), some (.int (lfI ns).b), some (.int (lfI ns).c), some (.int (lfI ns).d), some v3, some v4, some v5, some v6, some v7, some v8, some (.int (fileL ns)), none, none, none, none, none, none, none, none, none, none, none, none, none, none, none]) rfl ?_
  have hf0 : 0 ≤ fileL ns := Int.fmod_nonneg_of_pos _ (by omega)
  have hf1 : fileL ns < (lfI ns).a := Int.fmod_lt_of_pos _ (by omega)
  have hn0 : 0 ≤ ((cellI ns 3).fdiv 4).fmod (lfI ns).d := Int.fmod_nonneg_of_pos _ (by omega)
  have hn1 : ((cellI ns 3).fdiv 4).fmod (lfI ns).d < (lfI ns).d := Int.fmod_lt_of_pos _ (by omega)
  have hd0 : (lfI ns).d ≠ 0 := by omega
  have hc0 : (lfI ns).c ≠ 0 := by omega
  refine q_cut fun KK hKK => ?_
  refine q_asg (φ := R (cs0L ns)) (ev_tupL (ev_ls (ev_lcm (fun k : Int => (mixI (cellI ns 3) k).fmod (lfI ns).c) 0 (by rw [rg_len]; exact evi_range1 (n := cs0N ns) (ea_cons (ev_ii ev_ci (ev_iiC (g := fun i j => i.fmod j) (ev_iiC (g := fun i j => i.fdiv j) (ce (k := 3) s9 rfl) ev_ci ⟨by decide, by decide⟩) (ev_rv (x := (lfI ns).d) rfl rfl) hd0)) ea_nil) (by unfold cs0N; omega) (by unfold cs0N; omega)) (by rw [rg_len, sizeLine_eq]; unfold cs0N; omega) (fun _ => rfl) (fun z x H1 hz e hx => ev_iiC (g := fun i j => i.fmod j) (ev_pp (cellI ns 3, z) (ea_cons (ce (k := 3) (s9.trans e) rfl) (ea_cons (ev_rv rfl hx) ea_nil)) trivial) (ev_rv (x := (lfI ns).c) rfl rfl) hc0)))) fun v10 H10 e10 hv10 => ?_
  subst hKK
  have hv10 : Rep.rp H10 (cs0L ns) v10 := hv10
  have s10 := s9.trans e10
  have t10 := (e8.trans e9).trans e10
  have g10 := Rep.mono (tx_of t10) g7
  have hpa10 : Ls (passedL ns) v7 H10 := Mo.mo t10 hpa
  refine q_st ([some (.ref a0), some v1, some (.int (lfI ns).a), some (.int (lfI ns).b), some (.int (lfI ns).c), some (.int (lfI ns).d), some v3, some v4, some v5, some v6, some v7, some v8, some (.int (fileL ns)), some v10, none, none, none, none, none, none, none, none, none, none, none, none, none, none]) rfl ?_
  refine q_mid (fun σ' H' => ∃ y13 y14, σ' = [some (.ref a0), some v1, some (.int (lfI ns).a), some (.int (lfI ns).b), some (.int (lfI ns).c), some (.int (lfI ns).d), some v3, some v4, some v5, some v6, some v7, some v8, some (.int (fileL ns)), some y13, y14, none, none, none, none, none, none, none, none, none, none, none, none, none] ∧ Same H10 H' ∧ Rep.rp H' (csL ns) y13) (fun K0 kk => ?_) ?_
  · refine s_when (b := decide ((cellI ns 4).fmod 2 = 1)) (et_test (ev_eqI (ev_iiC (g := fun i j => i.fmod j) (ce (k := 4) s10 rfl) ev_ci (by decide)) ev_ci)) (fun eb H11 e11 => ?_) (fun eb H11 e11 => ?_)
    · have eb := of_decide_eq_true eb
      have hp0 : 0 < (passedL ns).length := List.length_pos_iff.mpr hpne
      have j0 : 0 ≤ ((cellI ns 4).fdiv 2).fmod ((passedL ns).length : Int) := Int.fmod_nonneg_of_pos _ (by omega)
      have j1 : ((cellI ns 4).fdiv 2).fmod ((passedL ns).length : Int) < ((passedL ns).length : Int) := Int.fmod_lt_of_pos _ (by omega)
      have j2 : (((cellI ns 4).fdiv 2).fmod ((passedL ns).length : Int)).toNat < (passedL ns).length := by omega
      have hpa11 : Ls (passedL ns) v7 H11 := Mo.mo e11 hpa10
      have hmG : hplain.G (momL ns) := hpG _ (getD_mem j2)
      have hlne : ((passedL ns).length : Int) ≠ 0 := by omega
      refine q_asg (ev_pp (T3.mk (formI ns) (momL ns) (fileL ns)) (ea_cons (ev_rv (x := lfI ns) rfl (Rep.mono (tx_of e11) g10)) (ea_cons (ev_ixL (x := momL ns) (ev_var rfl hpa11) (ev_iiC (g := fun i j => i.fmod j) (ev_iiC (g := fun i j => i.fdiv j) (ce (k := 4) (s10.trans e11) rfl) ev_ci ⟨by decide, by decide⟩) (ev_lenL (ev_var rfl hpa11)) hlne) (atI_at j0 (getD_at j2))) (ea_cons (ev_rv (x := fileL ns) rfl rfl) ea_nil))) ⟨pF, hplain.kept.ok _ hmG, hf0, hf1⟩) fun v12 H12 e12 hv12 => ?_
      have hv12 : Rep.rp H12 (seenL ns) v12 := hv12
      refine s_when (b := decide ((0 : Int) < ((seenL ns).length : Int))) (et_test (ev_ib (g := fun i j => decide (j < i)) (ev_lenT (ev_rv rfl hv12)) ev_ci)) (fun eb2 H13 e13 => ?_) (fun eb2 H13 e13 => ?_)
      · have eb2 := of_decide_eq_true eb2
        refine s_asg (ev_rv rfl (Rep.mono (tx_of e13) hv12)) fun v14 H14 e14 hv14 => kk _ _ ⟨v14, some v12, rfl, ((e11.trans e12).trans e13).trans e14, ?_⟩
        have e : csL ns = seenL ns := by unfold csL; rw [if_pos eb, if_pos (by omega)]
        rw [e]
        exact hv14
      · have eb2 := of_decide_eq_false eb2
        refine kk _ _ ⟨v10, some v12, rfl, (e11.trans e12).trans e13, ?_⟩
        have e : csL ns = cs0L ns := by unfold csL; rw [if_pos eb, if_neg (by omega)]
        rw [e]
        exact Rep.mono (tx_of ((e11.trans e12).trans e13)) hv10
    · have eb := of_decide_eq_false eb
      refine kk _ _ ⟨v10, none, rfl, e11, ?_⟩
      have e : csL ns = cs0L ns := by unfold csL; rw [if_neg eb]
      rw [e]
      exact Rep.mono (tx_of e11) hv10
  rintro _ H11 ⟨y13, y14, rfl, e11, hcs⟩
  have g11 := Rep.mono (tx_of e11) g10
  have t11 := (e7.trans t10).trans e11
  have hst11 : Ls (startsL ns) v6 H11 := Mo.mo t11 hst
  refine q_cut fun KK hKK => ?_
  refine q_asg (ev_pn (RG.mk (formI ns) (startsL ns)) (ea_cons (ev_rv (x := lfI ns) rfl g11) (ea_cons (ev_var rfl hst11) ea_nil)) ⟨pF, hplain.stn, hplain.stl, hplain.G, hplain.kept, hplain.st⟩) fun v12 H12 e12 hv12 => ?_
  subst hKK
  obtain ⟨dd, lo, as, rfl, hR⟩ := hv12
  have hR : RAt dd lo as (rL ns) H11 H12 := hR
  refine q_cut fun KK hKK => ?_
  refine q_asg ev_dnew fun v13 H13 e13 hv13 => ?_
  subst hKK
  obtain ⟨bd, rfl, nb, hb0⟩ := hv13
  refine q_cut fun KK hKK => ?_
  refine q_forFrz rfl (e13 _ _ hR.d) trivial fun od => ?_
  have hne : dd ≠ bd := fun z => by have h1 := hR.d; rw [z, nb] at h1; cases h1
  have m0 : BAt dd bd od as (rL ns) [] H11 (upd H13 dd (.frz od (.dT (mkv (rL ns).order (as.map V.ref))))) := ⟨same_mut (e12.trans e13) hR.fd, upd_same, hR.frz e13 od, by rw [upd_ne (fun z => hne z.symm)]; exact hb0, hR.fd, e12.free nb⟩
  have hal : (rL ns).order.length = (as.map V.ref).length := by rw [List.length_map, hR.l1]
  generalize upd H13 dd (.frz od (.dT (mkv (rL ns).order (as.map V.ref)))) = H14 at m0
  refine q_forG (evg_keys (ks := (rL ns).order) hal m0.z (ev_is rfl)) (fun Hb i σ' H' => KeepA dd Hb H' ∧ BAt dd bd od as (rL ns) (((rL ns).order.take i).filter (badB ns)) H11 H' ∧ ∃ y, σ' = [some (.ref a0), some v1, some (.int (lfI ns).a), some (.int (lfI ns).b), some (.int (lfI ns).c), some (.int (lfI ns).d), some v3, some v4, some v5, some v6, some v7, some v8, some (.int (fileL ns)), some y13, y14, some (.ref dd), some (.ref bd), y, none, none, none, none, none, none, none, none, none, none]) (fun H5 e5 => ⟨⟨rfl, Tx.refl _⟩, m0.same e5, none, rfl⟩) (fun Hb i σ' H' p => p.1) ?_ ?_
  · rintro Hb i x σ' H4 H5 eb hi ⟨k4, m4, y, rfl⟩ s5 ⟨d, hz, hx⟩
    have m5 := m4.same s5
    have hdi : d ∈ (rL ns).order := List.mem_of_getElem? hz
    have hdG := hplain.ord d hdi
    have hil : i < (rL ns).order.length := hi
    have hdn : d ∉ ((rL ns).order.take i).filter (badB ns) := fun hm => by
      have hm := (List.mem_filter.mp hm).1
      obtain ⟨j, hj, ej⟩ := List.mem_iff_getElem.mp hm
      rw [List.length_take] at hj
      rw [List.getElem_take] at ej
      obtain ⟨hil, ei⟩ := List.getElem?_eq_some_iff.mp hz
      exact absurd ((List.getElem_inj hR.no).mp (ej.trans ei.symm)) (by omega)
    have hbl : (((rL ns).order.take i).filter (badB ns)).length < sizeLine := by
      have h1 := List.length_filter_le (badB ns) ((rL ns).order.take i)
      rw [List.length_take] at h1
      have := hplain.ordl
      rw [sizeLine_eq]; omega
    rw [filter_take hz]
    generalize ((rL ns).order.take i).filter (badB ns) = b at m4 m5 hdn hbl
    have hzb : Hb dd = some (.frz od (.dT (mkv (rL ns).order (as.map V.ref)))) := eb _ _ m0.z
    refine s_when (b := badB ns d) (et_test (ev_eqD (d := liveI (formI ns) d (fileL ns)) (e := csL ns) (ev_pp (T3.mk (formI ns) d (fileL ns)) (ea_cons (ev_rv (x := lfI ns) rfl (Rep.mono (tx_of m5.sm) g11)) (ea_cons (ev_rv rfl hx) (ea_cons (ev_rv (x := fileL ns) rfl rfl) ea_nil))) ⟨pF, hplain.kept.ok _ hdG, hf0, hf1⟩) (ev_rv rfl (Rep.mono (tx_of m5.sm) hcs)))) (fun en H6 e6 => ?_) (fun en H6 e6 => ?_)
    · rw [if_pos en]
      have m6 := m5.same e6
      refine s_dput (φ := Is (.bl true)) m6.b (trues_len b) hbl (fun H1 s Q q => q _ H1 (Same.refl H1) rfl) (ev_is rfl) (ev_rv rfl (Rep.mono (tx_of e6) hx)) hdn fun v7' H7 e7' hv7' => ?_
      obtain rfl : v7' = .bl true := hv7'
      rw [trues_snoc b d]
      have m7 := m6.same e7'
      have m8 := m7.put (e := d)
      exact ⟨⟨by rw [m8.z, hzb], (((k4.2.trans (tx_of s5)).trans (tx_of e6)).trans (tx_of e7')).trans (tx_dT m7.b)⟩, m8, some x, rfl⟩
    · rw [if_neg (by rw [en]; decide)]
      have m6 := m5.same e6
      exact ⟨⟨by rw [m6.z, hzb], (k4.2.trans (tx_of s5)).trans (tx_of e6)⟩, m6, some x, rfl⟩
  rintro Hb σ' H15 eb ⟨k15, m15, y17, rfl⟩
  subst hKK
  rw [List.take_length] at m15
  have m15 : BAt dd bd od as (rL ns) (badL ns) H11 H15 := m15
  have t15 := t11.trans m15.sm
  have g15 := Rep.mono (tx_of m15.sm) g11
  have hfm : FormS K (formI ns) v4 H15 := Mo.mo ((e5.trans e6).trans t15) hv4
  have hmc : MachS K (machI (formI ns)) v5 H15 := Mo.mo (e6.trans t15) hv5
  have hst15 : Ls (startsL ns) v6 H15 := Mo.mo t15 hst
  have hpa15 : Ls (passedL ns) v7 H15 := Mo.mo ((t10.trans e11).trans m15.sm) hpa
  have him15 : Rep.rp H15 (imageL ns) v8 := Rep.mono (tx_of ((((e9.trans e10).trans e11)).trans m15.sm)) hv8
  have hcs15 : Rep.rp H15 (csL ns) y13 := Rep.mono (tx_of m15.sm) hcs
  clear hcs hpa10 hpa hst hst11 g11 g10 g7 g1 hv10 hv8 hv7 hv6 hv5 hv4 hv3 hv2 hv1 t10 t11 s10 s9 s8 s7 s6 s5 s4 s3 s2 e1 e2 e3 e4 e5 e6 e7 e8 e9 e10 e11 ce m0 k15 hR hb0 hS sc
  refine q_cut fun KK hKK => ?_
  refine q_asg (ev_pn (T3.mk (formI ns) (fileL ns) (csL ns)) (ea_cons (ev_var rfl hfm) (ea_cons (ev_rv (x := fileL ns) rfl rfl) (ea_cons (ev_rv rfl hcs15) ea_nil))) ⟨pF, ⟨hf0, hf1⟩, hplain.csok.1, hplain.csok.2.1, hplain.csok.2.2⟩) fun v18 H16 e16 hv18 => ?_
  subst hKK
  have hpc : Ls (pieceL ns) v18 H16 := NLs.ls hv18
  have m16 := m15.same e16
  have hpcl := hplain.pcl
  refine q_cut fun KK hKK => ?_
  refine q_for (evi_keys hal m16.z (ev_is rfl)) (fun Hb i σ' H' => Same Hb H' ∧ ∃ y y19, σ' = [some (.ref a0), some v1, some (.int (lfI ns).a), some (.int (lfI ns).b), some (.int (lfI ns).c), some (.int (lfI ns).d), some v3, some v4, some v5, some v6, some v7, some v8, some (.int (fileL ns)), some y13, y14, some (.ref dd), some (.ref bd), y, some v18, y19, none, none, none, none, none, none, none, none]) (fun H5 e5 => ⟨Same.refl _, y17, none, rfl⟩) (fun Hb i σ' H' p => p.1) ?_ ?_
  · rintro Hb i x σ' H4' H5' eb hi ⟨k4, y, y19, rfl⟩ s5' ⟨d, hz, hx⟩
    have m5 := ((m16.same eb).same k4).same s5'
    have hdi := List.mem_of_getElem? hz
    have hpc5 : Ls (pieceL ns) v18 H5' := Mo.mo ((eb.trans k4).trans s5') hpc
    have hdn : ∀ v ∈ d, 0 ≤ v := fun v hv => ((hplain.sp d (hplain.ord d hdi)).2.2.1 v hv).1
    refine q_asg (φ := R (decide (0 < ((((pieceL ns).filter fun s => fitsB s d).map fun _ => (1 : Int)).length : Int)))) (ev_ib (g := fun i j => decide (j < i)) (ev_lenL (ev_ls (ev_lcf (fun s : List Int => fitsB s d) (fun _ => (1 : Int)) [] (evi_list (ev_var rfl hpc5)) (by rw [sizeLine_eq]; omega) (fun _ => rfl) (fun z x1 H1 hz e hx1 => et_B (ev_pp (z, d) (ea_cons (ev_rv rfl hx1) (ea_cons (ev_rv rfl (Rep.mono (tx_of e) hx)) ea_nil)) hdn)) (fun z x1 H1 hz e hx1 _ => ev_ci)))) ev_ci) fun v19 H6' e6' hv19 => ?_
    have hv19 : Rep.rp H6' (decide (0 < ((((pieceL ns).filter fun s => fitsB s d).map fun _ => (1 : Int)).length : Int))) v19 := hv19
    rw [hplain.holds d hdi] at hv19
    have m6 := m5.same e6'
    refine s_when (b := (decide (d ∈ badL ns) != decide (d ∈ badL ns))) (et_test (ev_neB (ev_rv rfl hv19) (ev_din (.inl m6.b) (trues_len _) (ev_rv rfl (Rep.mono (tx_of e6') hx)) (ev_is rfl)))) (fun eb => by simp at eb) (fun eb' H7' e7' => ⟨((k4.trans s5').trans e6').trans e7', some x, some v19, rfl⟩)
  rintro Hb' σ' H17 eb' ⟨k17, y17', y19, rfl⟩
  subst hKK
  have e17 := (e16.trans eb').trans k17
  have m17 := m15.same e17
  have hst17 : Ls (startsL ns) v6 H17 := Mo.mo e17 hst15
  have him17 : Rep.rp H17 (imageL ns) v8 := Rep.mono (tx_of e17) him15
  have hpc17 : Ls (pieceL ns) v18 H17 := Mo.mo (eb'.trans k17) hpc
  have hmc17 : MachS K (machI (formI ns)) v5 H17 := Mo.mo e17 hmc
  have hpa17 : Ls (passedL ns) v7 H17 := Mo.mo e17 hpa15
  have havl := hplain.avl
  refine q_cut fun KK hKK => ?_
  refine q_asg (φ := R (decide (((((avL ns).filter fun d => fitsB (imageL ns) d).map fun _ => (1 : Int)).length : Int) = 0))) (ev_eqI (ev_lenL (ev_ls (ev_lcf (fun d : List Int => fitsB (imageL ns) d) (fun _ => (1 : Int)) [] (evi_avoid (av := avL ns) (r := rL ns) (st := startsL ns) (bad := badL ns) (fun H1 e => ea_cons (φ := LinkS (rL ns)) (ev_var rfl ⟨dd, as, rfl, (m17.same e).rd⟩) (ea_cons (φ := Ls (startsL ns)) (ev_var rfl (Mo.mo e hst17)) (ea_cons (φ := BadS (badL ns)) (ev_var rfl ⟨bd, rfl, .inl (m17.same e).b⟩) ea_nil))) hplain.ag (avL_eq ns)) (by rw [sizeLine_eq]; omega) (fun _ => rfl) (fun z x1 H1 hz e hx1 => et_B (ev_pp (imageL ns, z) (ea_cons (ev_rv rfl (Rep.mono (tx_of e) him17)) (ea_cons (ev_rv rfl hx1) ea_nil)) (fun v hv => ((hplain.sp z (hplain.avg z hz)).2.2.1 v hv).1))) (fun z x1 H1 hz e hx1 _ => ev_ci)))) ev_ci) fun v20 H18 e18 hv20 => ?_
  subst hKK
  have hv20 : Rep.rp H18 (decide (((((avL ns).filter fun d => fitsB (imageL ns) d).map fun _ => (1 : Int)).length : Int) = 0)) v20 := hv20
  rw [← hplain.due] at hv20
  have hmc18 : MachS K (machI (formI ns)) v5 H18 := Mo.mo e18 hmc17
  have hpc18 : Ls (pieceL ns) v18 H18 := Mo.mo e18 hpc17
  refine q_cut fun KK hKK => ?_
  refine q_asg (ev_pp (TG.mk (machI (formI ns)) (imageL ns) (pieceL ns) hplain.told hplain.disk hplain.deeds) (ea_cons (ev_var rfl hmc18) (ea_cons (ev_rv rfl (Rep.mono (tx_of e18) him17)) (ea_cons (ev_var rfl hpc18) ea_nil))) hplain.tell) fun v21 H19 e19 hv21 => ?_
  subst hKK
  have hA : AnsS K hplain.told hplain.disk hplain.deeds v21 H19 := hv21
  refine q_cut fun KK hKK => ?_
  refine q_when (b := (hplain.told != hplain.told)) (et_test (ev_neB (ev_told T (ev_var rfl hA)) (ev_rv rfl (Rep.mono (tx_of e19) hv20)))) (fun eb => by simp at eb) (fun eb2 H20 e20 => ?_)
  subst hKK
  have e20' := (e18.trans e19).trans e20
  have hA20 : AnsS K hplain.told hplain.disk hplain.deeds v21 H20 := Mo.mo e20 hA
  have m20 := m17.same e20'
  refine q_cut fun KK hKK => ?_
  refine q_when (b := hplain.told) (et_B (ev_told T (ev_var rfl hA20))) (fun et H21 e21 => ?_) (fun et H21 e21 => ?_)
  · have hpa21 : Ls (passedL ns) v7 H21 := Mo.mo (e20'.trans e21) hpa17
    have m21 := m20.same e21
    refine s_ret (φ := R (decide (0 < ((((passedL ns).filter fun d => decide (d ∈ badL ns)).map fun _ => (1 : Int)).length : Int)))) (ev_ib (g := fun i j => decide (j < i)) (ev_lenL (ev_ls (ev_lcf (fun d : List Int => decide (d ∈ badL ns)) (fun _ => (1 : Int)) [] (evi_list (ev_var rfl hpa21)) (by rw [sizeLine_eq]; omega) (fun _ => rfl) (fun z x1 H1 hz e hx1 => et_B (ev_din (.inl (m21.same e).b) (trues_len _) (ev_rv rfl hx1) (ev_is rfl))) (fun z x1 H1 hz e hx1 _ => ev_ci)))) ev_ci) fun v H22 e22 hv => ?_
    have hv : Rep.rp H22 (decide (0 < ((((passedL ns).filter fun d => decide (d ∈ badL ns)).map fun _ => (1 : Int)).length : Int))) v := hv
    rw [decide_eq_true (hplain.yes et)] at hv
    obtain rfl : v = .bl true := hv
    exact q _
  subst hKK
  obtain ⟨x0, ds, hd1, hd2', hxs, hh⟩ := hplain.no et
  have hA21 : AnsS K hplain.told hplain.disk hplain.deeds v21 H21 := Mo.mo e21 hA20
  rw [hd1, hd2'] at hA21
  have m21 := m20.same e21
  have hmc21 : MachS K (machI (formI ns)) v5 H21 := Mo.mo (e20'.trans e21) hmc17
  have hst21 : Ls (startsL ns) v6 H21 := Mo.mo (e20'.trans e21) hst17
  have him21 : Rep.rp H21 (imageL ns) v8 := Rep.mono (tx_of (e20'.trans e21)) him17
  have hag := hplain.ag
  refine q_cut fun KK hKK => ?_
  refine q_asg (φ := R x0) (ev_some (ev_disk T (ev_var rfl hA21)) rfl) fun v17 H22 e22 hv17 => ?_
  subst hKK
  have hA22 : AnsS K hplain.told (some x0) (some ds) v21 H22 := Mo.mo e22 hA21
  have m22 := m21.same e22
  have hmc22 : MachS K (machI (formI ns)) v5 H22 := Mo.mo e22 hmc21
  have hst22 : Ls (startsL ns) v6 H22 := Mo.mo e22 hst21
  have him22 : Rep.rp H22 (imageL ns) v8 := Rep.mono (tx_of e22) him21
  have hcl0 := hag.c
  have hee := hag.e
  refine q_cut fun KK hKK => ?_
  refine q_for (evi_tup (xs := ds) (ev_some (ev_deeds T (ev_var rfl hA22)) rfl)) (fun Hb i σ' H' => Same Hb H' ∧ ∃ x y17 y22 y23 y24 y25, HistOk (formI ns) (rL ns) (badL ns) (imageL ns) x (ds.drop i) ∧ Rep.rp H' x y17 ∧ σ' = [some (.ref a0), some v1, some (.int (lfI ns).a), some (.int (lfI ns).b), some (.int (lfI ns).c), some (.int (lfI ns).d), some v3, some v4, some v5, some v6, some v7, some v8, some (.int (fileL ns)), some y13, y14, some (.ref dd), some (.ref bd), some y17, some v18, y19, some v20, some v21, y22, y23, y24, y25, none, none]) (fun H5 e5 => ⟨Same.refl _, x0, v17, none, none, none, none, hh, Rep.mono (tx_of e5) hv17, rfl⟩) (fun Hb i σ' H' p => p.1) ?_ ?_
  · rintro Hb i xj σ' H4' H5' eb hi ⟨k4, x, y17, y22, y23, y24, y25, hh, hx, rfl⟩ s5' ⟨j, hz, hj⟩
    have hx5 := Rep.mono (tx_of s5') hx
    obtain rfl : xj = .int j := hj
    obtain ⟨hil, ei⟩ := List.getElem?_eq_some_iff.mp hz
    rw [List.drop_eq_getElem_cons hil, ei] at hh
    cases hh with
    | cons h1 h2 h0 hd h3 h4 t =>
    have sB := (eb.trans k4).trans s5'
    have m5 := m22.same sB
    have hD : (machI (formI ns)).deeds[j.toNat]? = some (deedI (machI (formI ns)) j) := by
      unfold deedI
      exact getD_at hd
    refine q_cut fun KK2 hKK2 => ?_
    refine q_asg (ev_listT (ev_rv rfl hx5)) fun v23 H6 e6 hv23 => ?_
    subst hKK2
    obtain ⟨l, rfl, n6, a6⟩ := at_of hv23
    have hmc6 : MachS K (machI (formI ns)) v5 H6 := Mo.mo (sB.trans e6) hmc22
    refine q_cut fun KK2 hKK2 => ?_
    refine q_forAcc (fun (m : List Int) (p : Int × (Str × Int)) => m.set p.1.toNat p.2.2) x (fun m σ' H' => At l m H' ∧ ∃ ya yb, σ' = [some (.ref a0), some v1, some (.int (lfI ns).a), some (.int (lfI ns).b), some (.int (lfI ns).c), some (.int (lfI ns).d), some v3, some v4, some v5, some v6, some v7, some v8, some (.int (fileL ns)), some y13, y14, some (.ref dd), some (.ref bd), some y17, some v18, y19, some v20, some v21, some (.int j), some (.ref l), ya, yb, none, none]) (evg_tup a6.ll (ev_ix32 (p := deedI (machI (formI ns)) j) (ev_ixT (x := deedI (machI (formI ns)) j) (ev_mdeeds T (ev_var rfl hmc6)) (ev_rv (x := j) rfl rfl) (atI_at h0 hD)))) (fun H7 e7 => ⟨a6.same e7, y24, y25, rfl⟩) (fun c σ' H' H'' p e => ⟨p.1.same e, p.2⟩) ?_ ?_
    · rintro pre p suf xp σ' H7 D' hzs ⟨A7, x1, x2, rfl⟩ o7 hxp kk _
      have hp := h4 p (by rw [hzs]; exact List.mem_append_right _ List.mem_cons_self)
      have hl7 : (pre.foldl (fun (m : List Int) (p : Int × (Str × Int)) => m.set p.1.toNat p.2.2) x).length = x.length := RW.Q.eff_len pre x
      refine g_pair hxp fun z1 z2 hz1 hz2 => ?_
      exact s_setA A7 (ev_ixP1 (ev_rv rfl hz2)) (ev_is rfl) (ev_rv rfl hz1) hp.1 (by rw [hl7]; exact hp.2) fun H8 o8 at8 => (kk _ H8 o8 ⟨at8, some z1, some z2, rfl⟩).1
    · rintro σ' H8 o8 ⟨A8, ya, yb, rfl⟩
      subst hKK2
      have A8 : At l (RW.Q.effI x (deedI (machI (formI ns)) j).c) H8 := A8
      have sA : Same H5' H8 := same_off e6 o8 (fun c hc => by rw [show c = l from by simpa using hc]; exact n6)
      have m8 := m5.same sA
      have hx8 := Rep.mono (tx_of sA) hx5
      have hix := List.idxOf_lt_length_of_mem h2
      have hka : as[(rL ns).order.idxOf x]? = some (as.getD ((rL ns).order.idxOf x) dd) := getD_at (by rw [m8.rd.l1]; exact hix)
      have hat := m8.rd.s _ _ hka
      have hord : (rL ns).order[(rL ns).order.idxOf x]? = some x := by rw [List.getElem?_eq_getElem hix, List.getElem_idxOf hix]
      rw [show (rL ns).succ.getD ((rL ns).order.idxOf x) [] = succOf (rL ns) x from rfl] at hat
      refine q_cut fun KK2 hKK2 => ?_
      refine q_when (b := decide (x ∈ badL ns) || !decide (RW.Q.effI x (deedI (machI (formI ns)) j).c ∈ succOf (rL ns) x)) (et_or (et_B (ev_din (.inl m8.b) (trues_len _) (ev_rv rfl hx8) (ev_is rfl))) (fun _ => et_test (ev_notInDs (ev_tupL (ev_at A8 rfl)) (ev_isF (φ := Ls (succOf (rL ns) x)) (ev_dget2 (v := .ref (as.getD ((rL ns).order.idxOf x) dd)) m8.rd.d m8.rd.no hord (by rw [List.getElem?_map, hka]; rfl) (ev_is rfl) (ev_rv rfl hx8) (ev_nl0 (α := List Int))) hat.ls)))) (fun eb => absurd eb (by rw [decide_eq_false h1, decide_eq_true h3]; decide)) (fun eb3 H9 e9 => ?_)
      subst hKK2
      exact s_asg (ev_tupL (ev_at (A8.same e9) rfl)) fun v24 H10 e10 hv24 => ⟨(((k4.trans s5').trans sA).trans e9).trans e10, _, v24, some (.int j), some (.ref l), ya, yb, t, hv24, rfl⟩
  rintro Hb2 σ' H23 eb3 ⟨k23, x, y17, y22, y23, y24, y25, hh, hx, rfl⟩
  subst hKK
  rw [List.drop_length] at hh
  cases hh with
  | nil h1 h2 h3 =>
  have sB := eb3.trans k23
  have hA23 : AnsS K hplain.told (some x0) (some ds) v21 H23 := Mo.mo sB hA22
  have m23 := m22.same sB
  refine s_ret (φ := R (decide (x0 ∈ startsL ns) && (!decide (x ∈ badL ns) && fitsB (imageL ns) x))) (ev_andV (ev_inDs (ev_some (ev_disk T (ev_var rfl hA23)) rfl) (ev_var rfl (Mo.mo sB hst22))) (fun _ => ev_andV (ev_dnotin (.inl m23.b) (trues_len _) (ev_rv rfl hx) (ev_is rfl)) (fun _ => ev_pp (imageL ns, x) (ea_cons (ev_rv rfl (Rep.mono (tx_of sB) him22)) (ea_cons (ev_rv rfl hx) ea_nil)) h3))) fun v H24 e24 hv => ?_
  rw [decide_eq_true hxs, decide_eq_false h1, h2] at hv
  obtain rfl : v = .bl true := hv
  exact q _
end
end RW
set_option Elab.async false
set_option linter.all false
set_option maxRecDepth 100000
set_option maxHeartbeats 4000000
namespace RW
open PySem PySem.Spec PyProof.Rows L2
local macro_rules | `(tactic| walk_at "sm") => `(tactic| first
  | exact Same.refl _
  | assumption
  | exact same_new (by assumption)
  | (refine Same.trans ?_ (by assumption); walk_at "sm")
  | (refine Same.trans ?_ (same_new (by assumption)); walk_at "sm"))
local macro_rules | `(tactic| walk_at "rp") => `(tactic| first
  | assumption
  | exact rfl
  | (refine Rep.mono (tx_of ?_) (by assumption); walk_at "sm")
  | (refine Mo.mo ?_ (by assumption); walk_at "sm"))
local macro_rules | `(tactic| walk_at "ev") => `(tactic| first
  | exact ev_ci
  | exact ev_cs
  | exact ev_cb
  | exact ev_cn
  | (refine @ev_rv _ _ _ _ _ _ _ rfl ?_; walk_at "rp")
  | (refine @ev_var _ _ _ _ _ ?_ rfl ?_; (first | infer_instance | skip); walk_at "rp")
  | (refine ev_ii ?_ ?_ <;> walk_at "ev")
  | (refine ev_ib ?_ ?_ <;> walk_at "ev")
  | (refine ev_eqI ?_ ?_ <;> walk_at "ev")
  | (refine ev_neI ?_ ?_ <;> walk_at "ev")
  | (refine ev_lenT ?_ <;> walk_at "ev")
  | (refine ev_lenL ?_ <;> walk_at "ev")
  | (refine ev_int1 ?_ <;> walk_at "ev")
  | (refine et_test ?_ <;> walk_at "ev")
  | (refine et_B ?_ <;> walk_at "ev")
  | (refine et_not ?_ <;> walk_at "ev")
  | (refine et_or ?_ (fun _ => ?_) <;> walk_at "ev")
  | (refine et_and ?_ (fun _ => ?_) <;> walk_at "ev"))
theorem law_holds : PySem.Challenge.rw_raisedwreck_k21_whole_chains.Holds := holds_of fun w K h mg f X G hmg c => by
  have e := g_law X G c
  rw [hmg] at e
  obtain rfl := Value.ref.inj (Option.some.inj e)
  obtain ⟨fd_law, F_law⟩ := f_law c
  refine ⟨fd_law, fun s v => F_law.bindsA (ps := ["_law_script"]) (fun _ _ _ _ _ _ us hl => match us, hl with | [_], _ => rfl) s [v] rfl, fun base X G => ?_⟩
  have T := txt_of X G c
  obtain ⟨fd_meet, F_meet⟩ := f_meet c
  obtain ⟨fd_split, F_split⟩ := f_split c
  obtain ⟨fd_without, F_without⟩ := f_without c
  obtain ⟨fd_values_of, F_values_of⟩ := f_values_of c
  obtain ⟨fd_least_disk, F_least_disk⟩ := f_least_disk c
  obtain ⟨fd_law_avoid, F_law_avoid⟩ := f_law_avoid c
  obtain ⟨fd_check_file, F_check_file⟩ := f_check_file c
  obtain ⟨fd_check_contents, F_check_contents⟩ := f_check_contents c
  obtain ⟨fd_ChainForm_link, F_ChainForm_link⟩ := f_ChainForm_link c
  obtain ⟨fd_ChainForm_data, F_ChainForm_data⟩ := f_ChainForm_data c
  obtain ⟨fd_ChainForm_live, F_ChainForm_live⟩ := f_ChainForm_live c
  obtain ⟨fd_ChainForm_gone, F_ChainForm_gone⟩ := f_ChainForm_gone c
  obtain ⟨fd_links, F_links⟩ := f_links c
  obtain ⟨fd_digits, F_digits⟩ := f_digits c
  obtain ⟨fd_law_cell, F_law_cell⟩ := f_law_cell c
  obtain ⟨fd_law_mix, F_law_mix⟩ := f_law_mix c
  obtain ⟨fd_law_contents, F_law_contents⟩ := f_law_contents c
  obtain ⟨fd_law_links, F_law_links⟩ := f_law_links c
  obtain ⟨fd_law_sizes, F_law_sizes⟩ := f_law_sizes c
  obtain ⟨fd_law_starts, F_law_starts⟩ := f_law_starts c
  obtain ⟨fd_cells, F_cells⟩ := f_cells c
  obtain ⟨fd_one, F_one⟩ := f_one c
  obtain ⟨fd_file_guard, F_file_guard⟩ := f_file_guard c
  obtain ⟨fd_set_to, F_set_to⟩ := f_set_to c
  obtain ⟨fd_data_changes, F_data_changes⟩ := f_data_changes c
  obtain ⟨fd_write_deed, F_write_deed⟩ := f_write_deed c
  obtain ⟨fd_block_tuples, F_block_tuples⟩ := f_block_tuples c
  obtain ⟨fd_all_contents, F_all_contents⟩ := f_all_contents c
  obtain ⟨fd_file_deeds, F_file_deeds⟩ := f_file_deeds c
  obtain ⟨fd_Machine_full, F_Machine_full⟩ := f_Machine_full c
  obtain ⟨fd_sketch_before, F_sketch_before⟩ := f_sketch_before c
  obtain ⟨fd_packed_sketch, F_packed_sketch⟩ := f_packed_sketch c
  obtain ⟨fd_Search_place, F_Search_place⟩ := f_Search_place c
  obtain ⟨fd_Search_places, F_Search_places⟩ := f_Search_places c
  obtain ⟨fd_Search_row, F_Search_row⟩ := f_Search_row c
  obtain ⟨fd_law_ways, F_law_ways⟩ := f_law_ways c
  obtain ⟨fd_law_blocks, F_law_blocks⟩ := f_law_blocks c
  obtain ⟨fd_law_put, F_law_put⟩ := f_law_put c
  obtain ⟨fd_law_do, F_law_do⟩ := f_law_do c
  obtain ⟨fd_law_reached, F_law_reached⟩ := f_law_reached c
  obtain ⟨fd_is_mask, F_is_mask⟩ := f_is_mask c
  obtain ⟨fd_check_sketch, F_check_sketch⟩ := f_check_sketch c
  obtain ⟨fd_check_question, F_check_question⟩ := f_check_question c
  obtain ⟨fd_Machine_check_deed, F_Machine_check_deed⟩ := f_Machine_check_deed c
  obtain ⟨fd_is_name, F_is_name⟩ := f_is_name c
  obtain ⟨fd_check_names, F_check_names⟩ := f_check_names c
  obtain ⟨fd_check_order, F_check_order⟩ := f_check_order c
  obtain ⟨fd_Machine_init, F_Machine_init⟩ := f_Machine_init c
  obtain ⟨fd_law_fits, F_law_fits⟩ := f_law_fits c
  obtain ⟨fd_law_live, F_law_live⟩ := f_law_live c
  obtain ⟨fd_Search_history, F_Search_history⟩ := f_Search_history c
  obtain ⟨fd_check_range, F_check_range⟩ := f_check_range c
  obtain ⟨fd_check_count, F_check_count⟩ := f_check_count c
  obtain ⟨fd_Search_init, F_Search_init⟩ := f_Search_init c
  obtain ⟨fd_Answer_init, F_Answer_init⟩ := f_Answer_init c
  obtain ⟨fd_Paper_init, F_Paper_init⟩ := f_Paper_init c
  obtain ⟨fd_tell, F_tell⟩ := f_tell c
  obtain ⟨fd_law_end, F_law_end⟩ := f_law_end c
  obtain ⟨fd_law_spoil, F_law_spoil⟩ := f_law_spoil c
  obtain ⟨fd_chain_machine, F_chain_machine⟩ := f_chain_machine c
  obtain ⟨fd_chain_piece, F_chain_piece⟩ := f_chain_piece c
  obtain ⟨fd_ChainForm_init, F_ChainForm_init⟩ := f_ChainForm_init c
  have r_meet := ok_meet (P := PR) (w := w) (K := K) (mg := mg) (base := base) T F_meet (g_meet X G c)
  have r_split := ok_split (P := PR) (w := w) (K := K) (mg := mg) (base := base) T r_meet F_split (g_split X G c)
  have r_without := ok_without (P := PR) (w := w) (K := K) (mg := mg) (base := base) T r_split F_without (g_without X G c)
  have r_values_of := ok_values_of (P := PR) (w := w) (K := K) (mg := mg) (base := base) T F_values_of (g_values_of X G c)
  have r_least_disk := ok_least_disk (P := PR) (w := w) (K := K) (mg := mg) (base := base) T r_values_of F_least_disk (g_least_disk X G c)
  have r_law_avoid := ok_law_avoid (P := PR) (w := w) (K := K) (mg := mg) (base := base) T F_law_avoid (g_law_avoid X G c)
  have r_check_file := ok_check_file (P := PR) (w := w) (K := K) (mg := mg) (base := base) T F_check_file (g_check_file X G c)
  have r_check_contents := ok_check_contents (P := PR) (w := w) (K := K) (mg := mg) (base := base) T F_check_contents (g_check_contents X G c)
  have r_ChainForm_link := ok_ChainForm_link (P := PR) (w := w) (K := K) (mg := mg) (base := base) T F_ChainForm_link T.mChainForm_link
  have r_ChainForm_data := ok_ChainForm_data (P := PR) (w := w) (K := K) (mg := mg) (base := base) T F_ChainForm_data T.mChainForm_data
  have r_ChainForm_live := ok_ChainForm_live (P := PR) (w := w) (K := K) (mg := mg) (base := base) T F_ChainForm_live T.mChainForm_live
  have r_ChainForm_gone := ok_ChainForm_gone (P := PR) (w := w) (K := K) (mg := mg) (base := base) T F_ChainForm_gone T.mChainForm_gone
  have r_links := ok_links (P := PR) (w := w) (K := K) (mg := mg) (base := base) T F_links (g_links X G c)
  have r_digits := ok_digits (P := PR) (w := w) (K := K) (mg := mg) (base := base) T F_digits (g_digits X G c)
  have r_law_cell := ok_law_cell (P := PR) (w := w) (K := K) (mg := mg) (base := base) T F_law_cell (g_law_cell X G c)
  have r_law_mix := ok_law_mix (P := PR) (w := w) (K := K) (mg := mg) (base := base) T F_law_mix (g_law_mix X G c)
  have r_law_contents := ok_law_contents (P := PR) (w := w) (K := K) (mg := mg) (base := base) T F_law_contents (g_law_contents X G c)
  have r_law_links := ok_law_links (P := PR) (w := w) (K := K) (mg := mg) (base := base) T F_law_links (g_law_links X G c)
  have r_law_sizes := ok_law_sizes (P := PR) (w := w) (K := K) (mg := mg) (base := base) T F_law_sizes (g_law_sizes X G c)
  have r_law_starts := ok_law_starts (P := PR) (w := w) (K := K) (mg := mg) (base := base) T r_law_contents F_law_starts (g_law_starts X G c)
  have r_cells := ok_cells (P := PR) (w := w) (K := K) (mg := mg) (base := base) T F_cells (g_cells X G c)
  have r_one := ok_one (P := PR) (w := w) (K := K) (mg := mg) (base := base) F_one (g_one X G c)
  have r_file_guard := ok_file_guard (P := PR) (w := w) (K := K) (mg := mg) (base := base) T r_one r_ChainForm_live r_links r_ChainForm_link F_file_guard (g_file_guard X G c)
  have r_set_to := ok_set_to (P := PR) (w := w) (K := K) (mg := mg) (base := base) F_set_to (g_set_to X G c)
  have r_data_changes := ok_data_changes (P := PR) (w := w) (K := K) (mg := mg) (base := base) T r_set_to r_ChainForm_data F_data_changes (g_data_changes X G c)
  have r_write_deed := ok_write_deed (P := PR) (w := w) (K := K) (mg := mg) (base := base) T r_one r_ChainForm_live r_ChainForm_link r_set_to r_links r_digits r_data_changes F_write_deed (g_write_deed X G c)
  have r_block_tuples := ok_block_tuples (P := PR) (w := w) (K := K) (mg := mg) (base := base) T F_block_tuples (g_block_tuples X G c)
  have r_all_contents := ok_all_contents (P := PR) (w := w) (K := K) (mg := mg) (base := base) T F_all_contents (g_all_contents X G c)
  have r_file_deeds := ok_file_deeds (P := PR) (w := w) (K := K) (mg := mg) (base := base) T r_block_tuples r_file_guard r_all_contents r_write_deed r_digits r_data_changes r_set_to r_ChainForm_gone r_ChainForm_link F_file_deeds (g_file_deeds X G c)
  have r_Machine_full := ok_Machine_full (P := PR) (w := w) (K := K) (mg := mg) (base := base) T F_Machine_full
  have r_sketch_before := ok_sketch_before (P := PR) (w := w) (K := K) (mg := mg) (base := base) T r_Machine_full F_sketch_before (g_sketch_before X G c)
  have r_packed_sketch := ok_packed_sketch (P := PR) (w := w) (K := K) (mg := mg) (base := base) T F_packed_sketch (g_packed_sketch X G c)
  have r_Search_place := ok_Search_place (P := PR) (w := w) (K := K) (mg := mg) (base := base) T r_packed_sketch r_meet F_Search_place T.mSearch_place
  have r_Search_places := ok_Search_places (P := PR) (w := w) (K := K) (mg := mg) (base := base) T r_without r_Search_place F_Search_places T.mSearch_places
  have r_Search_row := ok_Search_row (P := PR) (w := w) (K := K) (mg := mg) (base := base) T r_sketch_before r_Search_places F_Search_row T.mSearch_row
  have r_law_ways := ok_law_ways (P := PR) (w := w) (K := K) (mg := mg) (base := base) T r_law_contents F_law_ways (g_law_ways X G c)
  have r_law_blocks := ok_law_blocks (P := PR) (w := w) (K := K) (mg := mg) (base := base) T F_law_blocks (g_law_blocks X G c)
  have r_law_put := ok_law_put (P := PR) (w := w) (K := K) (mg := mg) (base := base) T F_law_put (g_law_put X G c)
  have r_law_do := ok_law_do (P := PR) (w := w) (K := K) (mg := mg) (base := base) T r_law_blocks r_law_put r_law_links F_law_do (g_law_do X G c)
  have r_law_reached := ok_law_reached (P := PR) (w := w) (K := K) (mg := mg) (base := base) T r_law_ways r_law_do F_law_reached (g_law_reached X G c)
  have r_is_mask := ok_is_mask (P := PR) (w := w) (K := K) (mg := mg) (base := base) F_is_mask (g_is_mask X G c)
  have r_check_sketch := ok_check_sketch (P := PR) (w := w) (K := K) (mg := mg) (base := base) T r_is_mask F_check_sketch (g_check_sketch X G c)
  have r_check_question := ok_check_question (P := PR) (w := w) (K := K) (mg := mg) (base := base) T r_check_sketch F_check_question (g_check_question X G c)
  have r_Machine_check_deed := ok_Machine_check_deed (P := PR) (w := w) (K := K) (mg := mg) (base := base) T r_is_mask F_Machine_check_deed T.mMachine_check_deed
  have r_is_name := ok_is_name (P := PR) (w := w) (K := K) (mg := mg) (base := base) T F_is_name (g_is_name X G c)
  have r_check_names := ok_check_names (P := PR) (w := w) (K := K) (mg := mg) (base := base) T r_is_name F_check_names (g_check_names X G c)
  have r_check_order := ok_check_order (P := PR) (w := w) (K := K) (mg := mg) (base := base) T F_check_order (g_check_order X G c)
  have r_Machine_init := ok_Machine_init (P := PR) (w := w) (K := K) (mg := mg) (base := base) T r_check_names r_check_order r_Machine_check_deed r_is_mask F_Machine_init T.kMachine
  have r_law_fits := ok_law_fits (P := PR) (w := w) (K := K) (mg := mg) (base := base) T F_law_fits (g_law_fits X G c)
  have r_law_live := ok_law_live (P := PR) (w := w) (K := K) (mg := mg) (base := base) T r_law_blocks F_law_live (g_law_live X G c)
  have r_Search_history := ok_Search_history (P := PR) (w := w) (K := K) (mg := mg) (base := base) T r_least_disk r_meet F_Search_history T.mSearch_history
  have r_check_range := ok_check_range (P := PR) (w := w) (K := K) (mg := mg) (base := base) F_check_range (g_check_range X G c)
  have r_check_count := ok_check_count (P := PR) (w := w) (K := K) (mg := mg) (base := base) T F_check_count (g_check_count X G c)
  have r_Search_init := ok_Search_init (P := PR) (w := w) (K := K) (mg := mg) (base := base) T F_Search_init T.kSearch
  have r_Answer_init := ok_Answer_init (P := PR) (w := w) (K := K) (mg := mg) (base := base) T F_Answer_init T.kAnswer
  have r_Paper_init := ok_Paper_init (P := PR) (w := w) (K := K) (mg := mg) (base := base) T F_Paper_init T.kPaper
  have r_tell := ok_tell (P := PR) (w := w) (K := K) (mg := mg) (base := base) T r_check_question r_Search_init r_Search_places r_Search_row r_Search_history r_Answer_init r_Paper_init F_tell (g_tell X G c)
  have r_law_end := ok_law_end (P := PR) (w := w) (K := K) (mg := mg) (base := base) T r_law_ways r_law_do F_law_end (g_law_end X G c)
  have r_law_spoil := ok_law_spoil (P := PR) (w := w) (K := K) (mg := mg) (base := base) T r_law_mix F_law_spoil (g_law_spoil X G c)
  have r_chain_machine := ok_chain_machine (P := PR) (w := w) (K := K) (mg := mg) (base := base) T r_file_deeds r_one r_Machine_init r_cells F_chain_machine (g_chain_machine X G c)
  have r_chain_piece := ok_chain_piece (P := PR) (w := w) (K := K) (mg := mg) (base := base) T r_check_file r_check_contents r_cells r_block_tuples r_file_guard r_one r_ChainForm_data F_chain_piece (g_chain_piece X G c)
  have r_ChainForm_init := ok_ChainForm_init (P := PR) (w := w) (K := K) (mg := mg) (base := base) T r_check_range r_block_tuples r_all_contents r_check_count F_ChainForm_init
  obtain ⟨mv, kb⟩ := F_ChainForm_init.kbinds0 (ps := ["self", "files", "blocks", "alphabet", "longest", "wiped"]) 5 ["wiped"] [] (fun us _ ws => us ++ ws) (by simp) (by simp) (fun r1 _ r3 => r1.append r3) (fun D doc pm an cdv ct us mv ws h1 h2 h3 => match us, mv, ws, h1, h2, h3 with | [_, _, _, _, _], [], [_], _, _, _ => rfl)
  exact FnOk.mono (ok_law (f0 := He.ga K "law") (P := PR) (w := w) (K := K) (mg := mg) (base := base) T r_law_cell r_chain_machine r_law_starts r_law_end r_law_spoil r_law_sizes r_law_mix r_law_live r_law_reached r_chain_piece r_law_fits r_law_avoid r_tell r_ChainForm_init kb (fun ns _ => Classical.choice (Q.law_ne ns)) F_law) (by decide)
end RW
theorem PySem.Challenge.cw_raisedwreck_k21_whole_chains_holds : PySem.Challenge.rw_raisedwreck_k21_whole_chains.Holds :=
  RW.law_holds
