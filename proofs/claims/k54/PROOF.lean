import PyProof.Rows.All
import Wide.All
import OpenK.AllK
import Wide.FinOn
import KE.KStateDown
import HandS.ForMost
import HandS.Exc
import HandS.Property
import HandS.Defaults
import HandS.Head0
import HandS.Head1
import HandS.Head2
import HandS.HeadEnd
import HandS.HeadHook1
import HandS.HeadHook2
import PySem.Challenge.RW_lostplaces_k54_whole_told_weights_of_one
import HandS.TupAny
import HandS.IsInst
import HandS.Walk
import HandS.Zip
import HandS.Style
import HandS.Conv
import HandS.TupSets
import HandS.DictTup
import HandS.GenList
import HandS.Flow
import HandS.RaiseMore
import PyProof.ReprRoads
import KE.GoesMore
import KE.KDictCopyH
import PyProof.SumWalkG
import KE.KRevSl
set_option Elab.async false
set_option linter.all false
set_option maxRecDepth 100000
set_option maxHeartbeats 0
namespace K54
open PySem PySem.Spec PyProof.Rows L2
/-! ### the text -/
def topS (i : Nat) : Stmt := PySem.Challenge.pw_lostplaces_k54_whole_told_weights_of_one.main.body.getD i (.Pass ⟨0, 0, 0, 0⟩)
abbrev s_is_whole : Stmt := topS 12
def d_is_whole : He.DefD := ⟨("is_whole", none), "is_whole", "is_whole", defArgs s_is_whole, defBody s_is_whole, defScope s_is_whole, [.non, .non], []⟩
abbrev s_check_letters : Stmt := topS 13
def d_check_letters : He.DefD := ⟨("check_letters", none), "check_letters", "check_letters", defArgs s_check_letters, defBody s_check_letters, defScope s_check_letters, [], []⟩
abbrev s_check_number : Stmt := topS 14
def d_check_number : He.DefD := ⟨("check_number", none), "check_number", "check_number", defArgs s_check_number, defBody s_check_number, defScope s_check_number, [], []⟩
abbrev s_power_of : Stmt := topS 15
def d_power_of : He.DefD := ⟨("power_of", none), "power_of", "power_of", defArgs s_power_of, defBody s_power_of, defScope s_power_of, [], []⟩
abbrev s_choose_of : Stmt := topS 16
def d_choose_of : He.DefD := ⟨("choose_of", none), "choose_of", "choose_of", defArgs s_choose_of, defBody s_choose_of, defScope s_choose_of, [], []⟩
abbrev s_check_word : Stmt := topS 17
def d_check_word : He.DefD := ⟨("check_word", none), "check_word", "check_word", defArgs s_check_word, defBody s_check_word, defScope s_check_word, [.int 24], []⟩
abbrev s_count_above : Stmt := topS 20
def d_count_above : He.DefD := ⟨("count_above", none), "count_above", "count_above", defArgs s_count_above, defBody s_count_above, defScope s_count_above, [], []⟩
abbrev s_longer_words : Stmt := topS 21
def d_longer_words : He.DefD := ⟨("longer_words", none), "longer_words", "longer_words", defArgs s_longer_words, defBody s_longer_words, defScope s_longer_words, [], []⟩
abbrev s_above_words : Stmt := topS 22
def d_above_words : He.DefD := ⟨("above_words", none), "above_words", "above_words", defArgs s_above_words, defBody s_above_words, defScope s_above_words, [], []⟩
abbrev s_count_table : Stmt := topS 25
def d_count_table : He.DefD := ⟨("count_table", none), "count_table", "count_table", defArgs s_count_table, defBody s_count_table, defScope s_count_table, [], []⟩
abbrev s_below_count : Stmt := topS 26
def d_below_count : He.DefD := ⟨("below_count", none), "below_count", "below_count", defArgs s_below_count, defBody s_below_count, defScope s_below_count, [], []⟩
abbrev s_next_place : Stmt := topS 27
def d_next_place : He.DefD := ⟨("next_place", none), "next_place", "next_place", defArgs s_next_place, defBody s_next_place, defScope s_next_place, [], []⟩
abbrev s_below_words : Stmt := topS 28
def d_below_words : He.DefD := ⟨("below_words", none), "below_words", "below_words", defArgs s_below_words, defBody s_below_words, defScope s_below_words, [], []⟩
abbrev s_rest_lengths : Stmt := topS 30
def d_rest_lengths : He.DefD := ⟨("rest_lengths", none), "rest_lengths", "rest_lengths", defArgs s_rest_lengths, defBody s_rest_lengths, defScope s_rest_lengths, [], []⟩
abbrev s_common_length : Stmt := topS 31
def d_common_length : He.DefD := ⟨("common_length", none), "common_length", "common_length", defArgs s_common_length, defBody s_common_length, defScope s_common_length, [], []⟩
abbrev s_come_to : Stmt := topS 32
def d_come_to : He.DefD := ⟨("come_to", none), "come_to", "come_to", defArgs s_come_to, defBody s_come_to, defScope s_come_to, [], []⟩
abbrev s_check_weights : Stmt := topS 38
def d_check_weights : He.DefD := ⟨("check_weights", none), "check_weights", "check_weights", defArgs s_check_weights, defBody s_check_weights, defScope s_check_weights, [], []⟩
abbrev s_check_modulus_weights : Stmt := topS 39
def d_check_modulus_weights : He.DefD := ⟨("check_modulus_weights", none), "check_modulus", "check_modulus", defArgs s_check_modulus_weights, defBody s_check_modulus_weights, defScope s_check_modulus_weights, [], []⟩
abbrev s_last_sum : Stmt := topS 41
def d_last_sum : He.DefD := ⟨("last_sum", none), "last_sum", "last_sum", defArgs s_last_sum, defBody s_last_sum, defScope s_last_sum, [], []⟩
abbrev s_weights_for : Stmt := topS 42
def d_weights_for : He.DefD := ⟨("weights_for", none), "weights_for", "weights_for", defArgs s_weights_for, defBody s_weights_for, defScope s_weights_for, [], []⟩
abbrev s_sum_by : Stmt := topS 43
def d_sum_by : He.DefD := ⟨("sum_by", none), "sum_by", "sum_by", defArgs s_sum_by, defBody s_sum_by, defScope s_sum_by, [], []⟩
abbrev s_word_at : Stmt := topS 44
def d_word_at : He.DefD := ⟨("word_at", none), "word_at", "word_at", defArgs s_word_at, defBody s_word_at, defScope s_word_at, [], []⟩
abbrev s_weight_members : Stmt := topS 45
def d_weight_members : He.DefD := ⟨("weight_members", none), "weight_members", "weight_members", defArgs s_weight_members, defBody s_weight_members, defScope s_weight_members, [], []⟩
abbrev s_WeightBook_init : Stmt := inClass (topS 46) 0
def d_WeightBook_init : He.DefD := ⟨("WeightBook", some "__init__"), "__init__", "WeightBook.__init__", defArgs s_WeightBook_init, defBody s_WeightBook_init, defScope s_WeightBook_init, [], []⟩
abbrev s_WeightBook_has : Stmt := inClass (topS 46) 2
def d_WeightBook_has : He.DefD := ⟨("WeightBook", some "has"), "has", "WeightBook.has", defArgs s_WeightBook_has, defBody s_WeightBook_has, defScope s_WeightBook_has, [], []⟩
abbrev s_TooClose_init : Stmt := inClass (topS 49) 0
def d_TooClose_init : He.DefD := ⟨("TooClose", some "__init__"), "__init__", "TooClose.__init__", defArgs s_TooClose_init, defBody s_TooClose_init, defScope s_TooClose_init, [], []⟩
abbrev s_members_behind : Stmt := topS 50
def d_members_behind : He.DefD := ⟨("members_behind", none), "members_behind", "members_behind", defArgs s_members_behind, defBody s_members_behind, defScope s_members_behind, [], []⟩
abbrev s_read_several : Stmt := topS 51
def d_read_several : He.DefD := ⟨("read_several", none), "read_several", "read_several", defArgs s_read_several, defBody s_read_several, defScope s_read_several, [], []⟩
abbrev s_first_couple : Stmt := topS 52
def d_first_couple : He.DefD := ⟨("first_couple", none), "first_couple", "first_couple", defArgs s_first_couple, defBody s_first_couple, defScope s_first_couple, [], []⟩
abbrev s_close_couple : Stmt := topS 53
def d_close_couple : He.DefD := ⟨("close_couple", none), "close_couple", "close_couple", defArgs s_close_couple, defBody s_close_couple, defScope s_close_couple, [], []⟩
abbrev s_NearPair_init : Stmt := inClass (topS 55) 0
def d_NearPair_init : He.DefD := ⟨("NearPair", some "__init__"), "__init__", "NearPair.__init__", defArgs s_NearPair_init, defBody s_NearPair_init, defScope s_NearPair_init, [], []⟩
abbrev s_sum_places : Stmt := topS 60
def d_sum_places : He.DefD := ⟨("sum_places", none), "sum_places", "sum_places", defArgs s_sum_places, defBody s_sum_places, defScope s_sum_places, [], []⟩
abbrev s_lifting_step : Stmt := topS 61
def d_lifting_step : He.DefD := ⟨("lifting_step", none), "lifting_step", "lifting_step", defArgs s_lifting_step, defBody s_lifting_step, defScope s_lifting_step, [], []⟩
abbrev s_lift_word : Stmt := topS 62
def d_lift_word : He.DefD := ⟨("lift_word", none), "lift_word", "lift_word", defArgs s_lift_word, defBody s_lift_word, defScope s_lift_word, [], []⟩
abbrev s_lowering_place : Stmt := topS 63
def d_lowering_place : He.DefD := ⟨("lowering_place", none), "lowering_place", "lowering_place", defArgs s_lowering_place, defBody s_lowering_place, defScope s_lowering_place, [], []⟩
abbrev s_check_modulus_sums : Stmt := topS 64
def d_check_modulus_sums : He.DefD := ⟨("check_modulus_sums", none), "check_modulus", "check_modulus", defArgs s_check_modulus_sums, defBody s_check_modulus_sums, defScope s_check_modulus_sums, [], []⟩
abbrev s_check_rest : Stmt := topS 66
def d_check_rest : He.DefD := ⟨("check_rest", none), "check_rest", "check_rest", defArgs s_check_rest, defBody s_check_rest, defScope s_check_rest, [], []⟩
abbrev s_SumBook_init : Stmt := inClass (topS 67) 0
def d_SumBook_init : He.DefD := ⟨("SumBook", some "__init__"), "__init__", "SumBook.__init__", defArgs s_SumBook_init, defBody s_SumBook_init, defScope s_SumBook_init, [], []⟩
abbrev s_every_word : Stmt := topS 68
def d_every_word : He.DefD := ⟨("every_word", none), "every_word", "every_word", defArgs s_every_word, defBody s_every_word, defScope s_every_word, [], []⟩
abbrev s_sum_members : Stmt := topS 69
def d_sum_members : He.DefD := ⟨("sum_members", none), "sum_members", "sum_members", defArgs s_sum_members, defBody s_sum_members, defScope s_sum_members, [], []⟩
abbrev s_modulus_clash : Stmt := topS 70
def d_modulus_clash : He.DefD := ⟨("modulus_clash", none), "modulus_clash", "modulus_clash", defArgs s_modulus_clash, defBody s_modulus_clash, defScope s_modulus_clash, [], []⟩
abbrev s_check_read : Stmt := topS 72
def d_check_read : He.DefD := ⟨("check_read", none), "check_read", "check_read", defArgs s_check_read, defBody s_check_read, defScope s_check_read, [], []⟩
abbrev s_loss_amount : Stmt := topS 73
def d_loss_amount : He.DefD := ⟨("loss_amount", none), "loss_amount", "loss_amount", defArgs s_loss_amount, defBody s_loss_amount, defScope s_loss_amount, [], []⟩
abbrev s_put_place : Stmt := topS 74
def d_put_place : He.DefD := ⟨("put_place", none), "put_place", "put_place", defArgs s_put_place, defBody s_put_place, defScope s_put_place, [], []⟩
abbrev s_member_above : Stmt := topS 75
def d_member_above : He.DefD := ⟨("member_above", none), "member_above", "member_above", defArgs s_member_above, defBody s_member_above, defScope s_member_above, [], []⟩
abbrev s_member_below : Stmt := topS 76
def d_member_below : He.DefD := ⟨("member_below", none), "member_below", "member_below", defArgs s_member_below, defBody s_member_below, defScope s_member_below, [], []⟩
abbrev s_read_lost : Stmt := topS 77
def d_read_lost : He.DefD := ⟨("read_lost", none), "read_lost", "read_lost", defArgs s_read_lost, defBody s_read_lost, defScope s_read_lost, [], []⟩
abbrev s_read_put : Stmt := topS 78
def d_read_put : He.DefD := ⟨("read_put", none), "read_put", "read_put", defArgs s_read_put, defBody s_read_put, defScope s_read_put, [], []⟩
abbrev s_near_members : Stmt := topS 79
def d_near_members : He.DefD := ⟨("near_members", none), "near_members", "near_members", defArgs s_near_members, defBody s_near_members, defScope s_near_members, [], []⟩
abbrev s_law_hand : Stmt := topS 81
def d_law_hand : He.DefD := ⟨("_law_hand", none), "_law_hand", "_law_hand", defArgs s_law_hand, defBody s_law_hand, defScope s_law_hand, [], []⟩
abbrev s_law_mixed : Stmt := topS 82
def d_law_mixed : He.DefD := ⟨("_law_mixed", none), "_law_mixed", "_law_mixed", defArgs s_law_mixed, defBody s_law_mixed, defScope s_law_mixed, [], []⟩
abbrev s_law_take : Stmt := topS 83
def d_law_take : He.DefD := ⟨("_law_take", none), "_law_take", "_law_take", defArgs s_law_take, defBody s_law_take, defScope s_law_take, [], []⟩
abbrev s_law_all_words : Stmt := topS 84
def d_law_all_words : He.DefD := ⟨("_law_all_words", none), "_law_all_words", "_law_all_words", defArgs s_law_all_words, defBody s_law_all_words, defScope s_law_all_words, [], []⟩
abbrev s_law_common : Stmt := topS 85
def d_law_common : He.DefD := ⟨("_law_common", none), "_law_common", "_law_common", defArgs s_law_common, defBody s_law_common, defScope s_law_common, [], []⟩
abbrev s_law_sum : Stmt := topS 86
def d_law_sum : He.DefD := ⟨("_law_sum", none), "_law_sum", "_law_sum", defArgs s_law_sum, defBody s_law_sum, defScope s_law_sum, [], []⟩
abbrev s_law_sum_words : Stmt := topS 87
def d_law_sum_words : He.DefD := ⟨("_law_sum_words", none), "_law_sum_words", "_law_sum_words", defArgs s_law_sum_words, defBody s_law_sum_words, defScope s_law_sum_words, [], []⟩
abbrev s_law_behind : Stmt := topS 88
def d_law_behind : He.DefD := ⟨("_law_behind", none), "_law_behind", "_law_behind", defArgs s_law_behind, defBody s_law_behind, defScope s_law_behind, [], []⟩
abbrev s_law_same_right : Stmt := topS 89
def d_law_same_right : He.DefD := ⟨("_law_same_right", none), "_law_same_right", "_law_same_right", defArgs s_law_same_right, defBody s_law_same_right, defScope s_law_same_right, [], []⟩
abbrev s_law_clash_right : Stmt := topS 90
def d_law_clash_right : He.DefD := ⟨("_law_clash_right", none), "_law_clash_right", "_law_clash_right", defArgs s_law_clash_right, defBody s_law_clash_right, defScope s_law_clash_right, [], []⟩
abbrev s_law : Stmt := topS 91
def d_law : He.DefD := ⟨("law", none), "law", "law", defArgs s_law, defBody s_law, defScope s_law, [], []⟩
abbrev s_is_full : Stmt := inClass (topS 67) 2
def fn : List He.DefD := [d_is_whole, d_check_letters, d_check_number, d_power_of, d_choose_of, d_check_word, d_count_above, d_longer_words, d_above_words, d_count_table, d_below_count, d_next_place, d_below_words, d_rest_lengths, d_common_length, d_come_to, d_check_weights, d_check_modulus_weights, d_last_sum, d_weights_for, d_sum_by, d_word_at, d_weight_members, d_WeightBook_init, d_WeightBook_has, d_TooClose_init, d_members_behind, d_read_several, d_first_couple, d_close_couple, d_NearPair_init, d_sum_places, d_lifting_step, d_lift_word, d_lowering_place, d_check_modulus_sums, d_check_rest, d_SumBook_init, d_every_word, d_sum_members, d_modulus_clash, d_check_read, d_loss_amount, d_put_place, d_member_above, d_member_below, d_read_lost, d_read_put, d_near_members, d_law_hand, d_law_mixed, d_law_take, d_law_all_words, d_law_common, d_law_sum, d_law_sum_words, d_law_behind, d_law_same_right, d_law_clash_right, d_law]
def fa0 : List He.Fa := [.glo "is_whole", .glo "check_letters", .glo "check_number", .glo "power_of", .glo "choose_of", .glo "check_word", .glo "count_above", .glo "longer_words", .glo "above_words", .glo "count_table", .glo "below_count", .glo "next_place", .glo "below_words", .glo "rest_lengths", .glo "common_length", .glo "come_to", .glo "check_weights", .glo "check_modulus_weights", .glo "last_sum", .glo "weights_for", .glo "sum_by", .glo "word_at", .glo "weight_members", .glo "members_behind", .glo "read_several", .glo "first_couple", .glo "close_couple", .glo "sum_places", .glo "lifting_step", .glo "lift_word"]
def fa1 : List He.Fa := [.glo "lowering_place", .glo "check_modulus_sums", .glo "check_rest", .glo "every_word", .glo "sum_members", .glo "modulus_clash", .glo "check_read", .glo "loss_amount", .glo "put_place", .glo "member_above", .glo "member_below", .glo "read_lost", .glo "read_put", .glo "near_members", .glo "_law_hand", .glo "_law_mixed", .glo "_law_take", .glo "_law_all_words", .glo "_law_common", .glo "_law_sum", .glo "_law_sum_words", .glo "_law_behind", .glo "_law_same_right", .glo "_law_clash_right", .glo "law", .glo "WeightBook", .cls "WeightBook", .mkr "WeightBook", .glo "TooClose", .cls "TooClose"]
def fa2 : List He.Fa := [.mkr "TooClose", .glo "NearPair", .cls "NearPair", .mkr "NearPair", .glo "SumBook", .cls "SumBook", .mkr "SumBook", .meth "WeightBook" "has", .noat "WeightBook" "letters", .noat "WeightBook" "weights", .noat "WeightBook" "length", .noat "WeightBook" "modulus", .noat "WeightBook" "rest", .noat "SumBook" "length", .noat "SumBook" "modulus", .noat "SumBook" "rest", .noat "NearPair" "one", .noat "NearPair" "other", .noat "NearPair" "below", .noat "NearPair" "above", .noat "TooClose" "one", .noat "TooClose" "other", .int "MOST_WORDS_above" 2000, .int "MOST_WORDS_below" 2000, .int "MOST_WEIGHTS" 24, .int "MOST_WEIGHT" 1000000000000000, .int "MOST_MODULUS_weights" 10000000000000000, .int "MOST_MEMBERS" 2048, .int "MOST_COUPLED" 64, .int "MOST_LENGTH" 200]
def fa3 : List He.Fa := [.int "MOST_MODULUS_sums" 1000000, .int "MOST_WALKED" 14, .free "len", .free "range", .free "isinstance", .free "tuple", .free "list", .free "sum", .free "min", .free "max", .free "enumerate", .free "zip", .free "sorted", .free "divmod", .free "repr", .free "abs", .free "int", .free "bool"]
def fa : List He.Fa := fa0 ++ fa1 ++ fa2 ++ fa3
def nm0 : List PySem.Str := ["_wall", "PlaceError", "BadLetters", "BadNumber", "BadWord", "TooMany", "BadModulus", "BadRest", "NotOneOff", "BadWeights", "is_whole", "check_letters", "check_number", "power_of", "choose_of", "check_word", "MOST_WORDS_above", "count_above", "longer_words", "above_words", "MOST_WORDS_below", "count_table", "below_count", "next_place", "below_words", "rest_lengths", "common_length", "come_to", "MOST_WEIGHTS", "MOST_WEIGHT"]
def nm1 : List PySem.Str := ["MOST_MODULUS_weights", "MOST_MEMBERS", "check_weights", "check_modulus", "check_modulus_weights", "last_sum", "weights_for", "sum_by", "word_at", "weight_members", "WeightBook", "MOST_COUPLED", "TooClose", "members_behind", "read_several", "first_couple", "close_couple", "NearPair", "MOST_LENGTH", "MOST_MODULUS_sums", "MOST_WALKED", "sum_places", "lifting_step", "lift_word", "lowering_place", "check_modulus_sums", "check_rest", "SumBook", "every_word", "sum_members"]
def nm2 : List PySem.Str := ["modulus_clash", "check_read", "loss_amount", "put_place", "member_above", "member_below", "read_lost", "read_put", "near_members", "_law_hand", "_law_mixed", "_law_take", "_law_all_words", "_law_common", "_law_sum", "_law_sum_words", "_law_behind", "_law_same_right", "_law_clash_right"]
def names : List PySem.Str := nm0 ++ nm1 ++ nm2
/-! ### the property -/
def pA (K : PySem.W.Frag) : Addr := He.ma K (He.ga K "SumBook") "is_full"
def gA (K : PySem.W.Frag) : Addr := match PySem.W.recIn K (pA K) "property" with
  | some (.ref g :: _) => g
  | _ => 0
def isPropRec (K : PySem.W.Frag) : Bool := match PySem.W.recIn K (pA K) "property" with
  | some (.ref _ :: _) => true
  | _ => false
def propB (K : PySem.W.Frag) : Bool :=
  He.eqO (PySem.W.findIn K (.ref (He.ga K "SumBook")) "is_full") (some (some (.ref (pA K)))) && (He.eqO (PySem.W.specialIn K (.ref (pA K)) "__get__") (some (some (.builtin "property.__get__"))) &&
    (decide (PySem.W.takesIn K (.ref (pA K)) = some true) && (isPropRec K && (PySem.W.keepIn K (.ref (gA K)) && (match K.lookup (gA K) with
      | some ⟨_, _, .func fd, _⟩ => PySem.W.codeIn K fd.code "SumBook.is_full" && (match fd.defaults with | .none => true | _ => false)
      | _ => false)))))
def propW (K : PySem.W.Frag) : He.FnW := match K.lookup (gA K) with
  | some ⟨_, _, .func fd, _⟩ => some (fd.name, fd.qualname, fd.params, fd.body, fd.scope, fd.globals, fd.closure, fd.builtins)
  | _ => none
def propV : He.FnW := some ("is_full", "SumBook.is_full", defArgs s_is_full, .stmts (defBody s_is_full), defScope s_is_full, mainGlobals, [], builtinsNs)
/-! ### the head -/
abbrev R : PySem.W.OpenRow := PySem.W.OpenLaw.row PySem.Challenge.rw_lostplaces_k54_whole_told_weights_of_one
abbrev AlK : Type := He.AlD × (Bool × He.FnW)
def obsK (K : PySem.W.Frag) : AlK := (He.obsD fa fn K, (propB K, propW K))
def valK : AlK := (He.valD fn, (true, propV))
/-- the addresses that the facts speak of: the module's names, their code and defaults, the namespaces of the classes straight under object, their methods, a property's getter -/
def valRefs (o : Obj) : List Addr := match o.data with
  | .dict es _ => es.toList.flatMap fun e => He.refV e.val
  | _ => []
def fnRefs (o : Obj) : List Addr := match o.data with
  | .func fd => He.refV fd.code ++ He.refV fd.defaults
  | .cls cd => (match cd.mro with | [_, _] => [cd.ns] | _ => [])
  | _ => []
def fldRefs (o : Obj) : List Addr := match o.data with
  | .fields vs => vs.toList.flatMap He.refV
  | .func fd => He.refV fd.code ++ He.refV fd.defaults
  | _ => []
def grow (g : Addr → Option Obj) (f : Obj → List Addr) (l : List Addr) : List Addr := l.flatMap fun a => match g a with
  | some o => f o
  | none => []
def isCls (g : Addr → Option Obj) (l : List Addr) : List Addr := l.filter fun a => match g a with
  | some ⟨_, _, .cls _, _⟩ => true
  | _ => false
def asK (g : Addr → Option Obj) : List Addr :=
  let l1 := grow g valRefs [mainGlobals]
  let l2 := grow g fnRefs l1
  let ns := grow g fnRefs (isCls g l1)
  let l3 := grow g valRefs ns
  let l4 := grow g fldRefs l3
  let l5 := grow g fldRefs l4
  mainGlobals :: l1 ++ l2 ++ l3 ++ l4 ++ l5
def obsKG (g : Addr → Option Obj) : AlK := obsK (He.frG g (asK g))
def Says (K : PySem.W.Frag) : Prop := obsK K = valK
def hk : PySem.W.Hook where
  α := AlK
  obs := fun s => obsKG s.heap.get?
  val := fun _ => valK
  says := fun _ h => ∃ K : PySem.W.Frag, K.In h ∧ Says K
  of := fun _ _ e => ⟨_, He.frG_in, e⟩
  keeps := fun _ _ _ ⟨K, hK, c⟩ k => ⟨K, PySem.W.Frag.In.keeps hK k, c⟩
def ob (s : PySem.W.SharedT) : AlK := obsKG (HandSHeadRun.getT s)
theorem ob_eq (s : PySem.W.SharedT) : ob s = hk.obs s.abs := by
  have e : HandSHeadRun.getT s = s.abs.heap.get? := funext (HandSHeadRun.getT_eq s)
  unfold ob
  rw [e] <;> rfl
theorem run (w : World) : HandSHeadRun.RunEq R (PySem.W.view R.prog [91]) hk ob 6000 names w := by
  intro os
  kernel_rfl
end K54

set_option Elab.async false
set_option linter.all false
set_option maxRecDepth 100000
set_option maxHeartbeats 4000000
/-! J1: the judgements by values over the hand layer, with data in the place of addresses. -/
namespace K54
open PySem PySem.Spec PyProof.Rows L2

/-! ### the readings that ask just what the code asks -/
def wE (X : Cx) (e : Expr) : TE := fun σ H Q => ∀ (pins : List (Addr × Obj)) (s : Shared), Inv X pins σ H s → wpAny (model X.prog X.w) X.A (eval e X.env) (EP X pins σ Q) X.xe s
def wT (X : Cx) (e : Expr) : TT := fun σ H Q => ∀ (pins : List (Addr × Obj)) (s : Shared), Inv X pins σ H s → wpAny (model X.prog X.w) X.A (isTrue e X.env (eval e X.env)) (TP X pins σ Q) X.xe s
def wA (X : Cx) (es : List Expr) : TA := fun σ H Q => ∀ (pos : Pos) (pins : List (Addr × Obj)) (s : Shared), Inv X pins σ H s → wpAny (model X.prog X.w) X.A (spliced (backTo pos (starEach es X.env))) (AP X pins σ Q) X.xe s
def wS (X : Cx) (st : Stmt) : TS := fun D σ H => ∀ (pins : List (Addr × Obj)) (s : Shared), Inv X pins σ H s → wpAny (model X.prog X.w) X.A (exec st X.env) (SP X pins D) X.xe s
def wB (X : Cx) (sts : List Stmt) : TS := fun D σ H => ∀ (pins : List (Addr × Obj)) (s : Shared), Inv X pins σ H s → wpAny (model X.prog X.w) X.A (execs sts X.env) (SP X pins D) X.xe s
theorem peW (X : Cx) (e : Expr) : PE X e (wE X e) := ⟨fun pins s _ _ _ I h => h pins s I⟩
theorem ptW (X : Cx) (e : Expr) : PT X e (wT X e) := ⟨fun pins s _ _ _ I h => h pins s I⟩
theorem paW (X : Cx) (es : List Expr) : PA X es (wA X es) := ⟨fun pos pins s _ _ _ I h => h pos pins s I⟩
theorem psW (X : Cx) (st : Stmt) : PS X st (wS X st) := ⟨fun pins s _ _ _ I h => h pins s I⟩
theorem pssW (X : Cx) (sts : List Stmt) : PSs X sts (wB X sts) := ⟨fun pins s _ _ _ I h => h pins s I⟩
section
variable {X : Cx} {e : Expr} {es : List Expr} {st : Stmt} {sts : List Stmt} {σ : L2.St} {H : Hp}
theorem wE_of {t : TE} (h : PE X e t) {Q : VK} (q : t σ H Q) : wE X e σ H Q := fun pins s I => h.run pins s σ H Q I q
theorem wT_of {t : TT} (h : PT X e t) {Q : Bool → Hp → Prop} (q : t σ H Q) : wT X e σ H Q := fun pins s I => h.run pins s σ H Q I q
theorem wA_of {t : TA} (h : PA X es t) {Q : List V → Hp → Prop} (q : t σ H Q) : wA X es σ H Q := fun pos pins s I => h.run pos pins s σ H Q I q
theorem wS_of {t : TS} (h : PS X st t) {D : Ends} (q : t D σ H) : wS X st D σ H := fun pins s I => h.run pins s σ H D I q
theorem wB_of {t : TS} (h : PSs X sts t) {D : Ends} (q : t D σ H) : wB X sts D σ H := fun pins s I => h.run pins s σ H D I q
theorem wE_mono {Q Q' : VK} (h : wE X e σ H Q) (m : ∀ v H', Q v H' → Q' v H') : wE X e σ H Q' := fun pins s I => thn (h pins s I) fun _ _ ⟨v, H', I', r, q⟩ => ⟨v, H', I', r, m v H' q⟩
theorem wT_mono {Q Q' : Bool → Hp → Prop} (h : wT X e σ H Q) (m : ∀ b H', Q b H' → Q' b H') : wT X e σ H Q' := fun pins s I => thn (h pins s I) fun _ _ ⟨H', I', q⟩ => ⟨H', I', m _ H' q⟩
end
/-- ends that ask less -/
structure EndsLe (D D' : Ends) : Prop where
  nx : ∀ σ H, D.nx σ H → D'.nx σ H
  rt : ∀ v H, D.rt v H → D'.rt v H
  bk : ∀ σ H, D.bk σ H → D'.bk σ H
  ct : ∀ σ H, D.ct σ H → D'.ct σ H
theorem SP.le {X : Cx} {pins : List (Addr × Obj)} {D D' : Ends} (l : EndsLe D D') {f : PySem.Flow} {s : Shared} (h : SP X pins D f s) : SP X pins D' f s := by
  cases f with
  | next => obtain ⟨σ, H, I, q⟩ := h; exact ⟨σ, H, I, l.nx _ _ q⟩
  | brk => obtain ⟨σ, H, I, q⟩ := h; exact ⟨σ, H, I, l.bk _ _ q⟩
  | cont => obtain ⟨σ, H, I, q⟩ := h; exact ⟨σ, H, I, l.ct _ _ q⟩
  | ret u => obtain ⟨v, σ, H, I, r, q⟩ := h; exact ⟨v, σ, H, I, r, l.rt _ _ q⟩
theorem wS_le {X : Cx} {st : Stmt} {D D' : Ends} (l : EndsLe D D') {σ : L2.St} {H : Hp} (h : wS X st D σ H) : wS X st D' σ H := fun pins s I => thn (h pins s I) fun _ _ q => SP.le l q
theorem wB_le {X : Cx} {st : List Stmt} {D D' : Ends} (l : EndsLe D D') {σ : L2.St} {H : Hp} (h : wB X st D σ H) : wB X st D' σ H := fun pins s I => thn (h pins s I) fun _ _ q => SP.le l q
theorem wB_cons {X : Cx} {st : Stmt} {rest : List Stmt} {D : Ends} {σ : L2.St} {H : Hp} (h : wS X st { D with nx := wB X rest D } σ H) : wB X (st :: rest) D σ H :=
  wB_of (pss_cons (psW X st) (pssW X rest)) h

/-! ### two heaps: what stands for good, and all that is -/
theorem Same.upd_new {H : Hp} {p : Addr} {o : HO} (h : H p = none) : Same H (upd H p o) := fun b x e => by
  rw [upd_ne (ne_of_none e h)]
  exact e
def isTupO : HO → Bool
  | .tup _ => true
  | _ => false
structure Stp (Hs H Hs2 H2 : Hp) : Prop where
  s : Same Hs Hs2
  h : Same H H2
  sub : Same Hs2 H2
  own : ∀ b o, H b = some o → isTupO o = false → Hs b = none → Hs2 b = none
theorem Stp.refl {Hs H : Hp} (h : Same Hs H) : Stp Hs H Hs H := ⟨Same.refl _, Same.refl _, h, fun _ _ _ _ e => e⟩
theorem same_ne {H H' : Hp} (h : Same H H') {b : Addr} (e : H b ≠ none) : H' b ≠ none := by
  cases q : H b with
  | none => exact absurd q e
  | some o =>
    rw [h b o q]
    intro z
    cases z
theorem Stp.trans {Hs H Hs1 H1 Hs2 H2 : Hp} (a : Stp Hs H Hs1 H1) (b : Stp Hs1 H1 Hs2 H2) : Stp Hs H Hs2 H2 :=
  ⟨a.s.trans b.s, a.h.trans b.h, b.sub, fun c o e z n => b.own c o (a.h _ _ e) z (a.own c o e z n)⟩
theorem Stp.sub0 {Hs H Hs2 H2 : Hp} (a : Stp Hs H Hs2 H2) : Same Hs2 H2 := a.sub
theorem sub_none {Hs H : Hp} (h : Same Hs H) {p : Addr} (e : H p = none) : Hs p = none := Same.free h e
theorem sub_upd {Hs H : Hp} (h : Same Hs H) {p : Addr} {o : HO} : Same (upd Hs p o) (upd H p o) := fun b x e => by
  by_cases hb : b = p
  · subst hb
    rw [upd_same] at e ⊢
    exact e
  · rw [upd_ne hb] at e ⊢
    exact h b x e
theorem stp_new {Hs H : Hp} {p : Addr} {o : HO} (h : Same Hs H) (hp : H p = none) : Stp Hs H (upd Hs p o) (upd H p o) :=
  ⟨Same.upd_new (sub_none h hp), Same.upd_new hp, sub_upd h, fun b o e _ n => by
    have hb : b ≠ p := ne_of_none e hp
    rw [upd_ne hb]
    exact n⟩
/-- a new object of one's own: what stands for good does not know it -/
theorem stp_own {Hs H : Hp} {p : Addr} {o : HO} (h : Same Hs H) (hp : H p = none) : Stp Hs H Hs (upd H p o) :=
  ⟨Same.refl _, Same.upd_new hp, h.trans (Same.upd_new hp), fun _ _ _ _ n => n⟩

/-! ### data -/
inductive Da where
  | non | bl (b : Bool) | int (i : Int) | str (x : Str)
  | wd (w : List Int) | tw (ws : List (List Int)) | pr (w : List Int) (k : Int)
  | li (ns : List Int) | lw (ws : List (List Int)) | ll (rows : List (List Int)) | lp (ps : List (List Int × Int))
  | sb (n m r : Int) | wb (q : Int) (ws : List Int) (m r : Int) | ob | rf (a : Addr)
  | hl (cells : List Int) (a b c : Int)
section
variable (K : PySem.W.Frag) (H : Hp)
def WdR (_K : PySem.W.Frag) (H : Hp) (v : V) (w : List Int) : Prop := ∃ a, v = .ref a ∧ H a = some (.tup (w.map V.int))
def LiR (v : V) (ns : List Int) : Prop := ∃ a, v = .ref a ∧ SqL K H a (ns.map V.int)
def PrR (K : PySem.W.Frag) (H : Hp) (v : V) (p : List Int × Int) : Prop := ∃ a u, v = .ref a ∧ H a = some (.tup [u, .int p.2]) ∧ WdR K H u p.1
/-- a list's items -/
def LstR (vs : List V) : Da → Prop
  | .li ns => vs = ns.map V.int
  | .lw ws => Paired (WdR K H) vs ws
  | .ll rows => Paired (LiR K H) vs rows
  | .lp ps => Paired (PrR K H) vs ps
  | .hl cells a b c => ∃ q, vs = [.ref q, .int a, .int b, .int c] ∧ SqL K H q (cells.map V.int)
  | _ => False
def DR (v : V) : Da → Prop
  | .non => v = .non
  | .bl b => v = .bl b
  | .int i => v = .int i
  | .str x => v = .str x
  | .wd w => WdR K H v w
  | .tw ws => ∃ a vs, v = .ref a ∧ H a = some (.tup vs) ∧ Paired (WdR K H) vs ws
  | .pr w k => PrR K H v (w, k)
  | .li ns => ∃ a vs, v = .ref a ∧ SqL K H a vs ∧ LstR K H vs (.li ns)
  | .lw ws => ∃ a vs, v = .ref a ∧ SqL K H a vs ∧ LstR K H vs (.lw ws)
  | .ll rows => ∃ a vs, v = .ref a ∧ SqL K H a vs ∧ LstR K H vs (.ll rows)
  | .lp ps => ∃ a vs, v = .ref a ∧ SqL K H a vs ∧ LstR K H vs (.lp ps)
  | .sb n m r => ∃ a dx, v = .ref a ∧ H a = some (.ins (He.ga K "SumBook") dx [("length", .int n), ("modulus", .int m), ("rest", .int r)])
  | .wb q ws m r => ∃ a dx t, v = .ref a ∧ H a = some (.ins (He.ga K "WeightBook") dx [("letters", .int q), ("weights", .ref t), ("length", .int ws.length), ("modulus", .int m), ("rest", .int r)]) ∧ H t = some (.tup (ws.map V.int))
  | .ob => ∃ a, v = .ref a
  | .rf a => v = .ref a
  | .hl cells a b c => ∃ p vs, v = .ref p ∧ SqL K H p vs ∧ LstR K H vs (.hl cells a b c)
end
section
variable {K : PySem.W.Frag} {H H' : Hp}
theorem sqT_ex {K : PySem.W.Frag} (h : Same H H') {a : Addr} {xs : List V} (q : H a = some (.tup xs)) : SqT K H' a xs := .inl (.inl (h _ _ q))
theorem sqT_ex' (h : Same H H') {a : Addr} {xs : List V} (q : SqT K H a xs) : SqT K H' a xs := by
  rcases q with (q | ⟨o, q⟩) | q
  · exact .inl (.inl (h _ _ q))
  · exact .inl (.inr ⟨o, h _ _ q⟩)
  · exact .inr q
theorem sqL_ex (h : Same H H') {a : Addr} {xs : List V} (q : SqL K H a xs) : SqL K H' a xs := h.seq q
theorem WdR.ex (h : Same H H') {v : V} {w : List Int} (r : WdR K H v w) : WdR K H' v w := let ⟨a, e, q⟩ := r; ⟨a, e, h _ _ q⟩
theorem LiR.ex (h : Same H H') {v : V} {w : List Int} (r : LiR K H v w) : LiR K H' v w := let ⟨a, e, q⟩ := r; ⟨a, e, sqL_ex h q⟩
theorem PrR.ex (h : Same H H') {v : V} {p : List Int × Int} (r : PrR K H v p) : PrR K H' v p := let ⟨a, u, e, q, z⟩ := r; ⟨a, u, e, h _ _ q, z.ex h⟩
theorem LstR.ex (h : Same H H') {vs : List V} {d : Da} (r : LstR K H vs d) : LstR K H' vs d := by
  cases d <;> first
    | exact r
    | (obtain ⟨q, e1, e2⟩ := r; exact ⟨q, e1, sqL_ex h e2⟩)
    | exact Paired.mapP (show Paired (WdR K H) vs _ from r) fun _ _ q => q.ex h
    | exact Paired.mapP (show Paired (LiR K H) vs _ from r) fun _ _ q => q.ex h
    | exact Paired.mapP (show Paired (PrR K H) vs _ from r) fun _ _ q => q.ex h
theorem DR.ex (h : Same H H') {v : V} {d : Da} (r : DR K H v d) : DR K H' v d := by
  cases d with
  | non => exact r
  | bl b => exact r
  | int i => exact r
  | str x => exact r
  | wd w => exact WdR.ex (K := K) h r
  | tw ws => obtain ⟨a, vs, e, q, p⟩ := r; exact ⟨a, vs, e, h _ _ q, Paired.mapP p fun _ _ q => q.ex h⟩
  | pr w k => exact PrR.ex (K := K) h r
  | li ns => obtain ⟨a, vs, e, q, p⟩ := r; exact ⟨a, vs, e, sqL_ex h q, LstR.ex h p⟩
  | lw ns => obtain ⟨a, vs, e, q, p⟩ := r; exact ⟨a, vs, e, sqL_ex h q, LstR.ex h p⟩
  | ll ns => obtain ⟨a, vs, e, q, p⟩ := r; exact ⟨a, vs, e, sqL_ex h q, LstR.ex h p⟩
  | lp ns => obtain ⟨a, vs, e, q, p⟩ := r; exact ⟨a, vs, e, sqL_ex h q, LstR.ex h p⟩
  | sb n m z => obtain ⟨a, dx, e, q⟩ := r; exact ⟨a, dx, e, h _ _ q⟩
  | wb k ws m z => obtain ⟨a, dx, t, e, q, p⟩ := r; exact ⟨a, dx, t, e, h _ _ q, h _ _ p⟩
  | ob => exact r
  | rf a => exact r
  | hl cells x y z => obtain ⟨a, vs, e, q, p⟩ := r; exact ⟨a, vs, e, sqL_ex h q, LstR.ex h p⟩
/-- the list kinds -/
def isLst : Da → Bool
  | .li _ => true
  | .lw _ => true
  | .ll _ => true
  | .lp _ => true
  | _ => false
def dlen : Da → Nat
  | .li ns => ns.length
  | .lw ws => ws.length
  | .ll ws => ws.length
  | .lp ws => ws.length
  | .wd w => w.length
  | .tw w => w.length
  | .hl _ _ _ _ => 4
  | _ => 0
/-- the i-th item -/
def item : Da → Nat → Option Da
  | .li ns, i => ns[i]?.map Da.int
  | .lw ws, i => ws[i]?.map Da.wd
  | .ll ws, i => ws[i]?.map Da.li
  | .lp ws, i => ws[i]?.map fun p => Da.pr p.1 p.2
  | .hl cells _ _ _, 0 => some (.li cells)
  | .hl _ a _ _, 1 => some (.int a)
  | .hl _ _ b _, 2 => some (.int b)
  | .hl _ _ _ c, 3 => some (.int c)
  | _, _ => none
/-- one more item -/
def snoc : Da → Da → Option Da
  | .li ns, .int i => some (.li (ns ++ [i]))
  | .lw ws, .wd w => some (.lw (ws ++ [w]))
  | .ll ws, .li w => some (.ll (ws ++ [w]))
  | .lp ws, .pr w k => some (.lp (ws ++ [(w, k)]))
  | _, _ => none
theorem DR.lst {v : V} {d : Da} (hl : isLst d = true) (r : DR K H v d) : ∃ a vs, v = .ref a ∧ SqL K H a vs ∧ LstR K H vs d := by
  cases d <;> first | exact r | cases hl
theorem DR.of_lst {a : Addr} {vs : List V} {d : Da} (q : SqL K H a vs) (r : LstR K H vs d) : DR K H (.ref a) d := by
  cases d <;> first | exact ⟨a, vs, rfl, q, r⟩ | exact r.elim
theorem pget1 {α β : Type} {F : α → β → Prop} : ∀ {l₁ : List α} {l₂ : List β} {i : Nat} {x : β}, Paired F l₁ l₂ → l₂[i]? = some x → ∃ y, l₁[i]? = some y ∧ F y x
  | _, _, _, _, .nil, e => by simp at e
  | _, _, 0, _, .cons r _, e => by simp at e; subst e; exact ⟨_, rfl, r⟩
  | _, _, i + 1, x, .cons _ t, e => by
    obtain ⟨u, h1, h2⟩ := pget1 (i := i) (x := x) t (by simpa using e)
    exact ⟨u, by simpa using h1, h2⟩
theorem pget2 {α β : Type} {F : α → β → Prop} : ∀ {l₁ : List α} {l₂ : List β} {i : Nat} {y : α}, Paired F l₁ l₂ → l₁[i]? = some y → ∃ x, l₂[i]? = some x ∧ F y x
  | _, _, _, _, .nil, e => by simp at e
  | _, _, 0, _, .cons r _, e => by simp at e; subst e; exact ⟨_, rfl, r⟩
  | _, _, i + 1, x, .cons _ t, e => by
    obtain ⟨u, h1, h2⟩ := pget2 (i := i) (y := x) t (by simpa using e)
    exact ⟨u, by simpa using h1, h2⟩
theorem pset {α β : Type} {F : α → β → Prop} {x : α} {y : β} (r : F x y) : ∀ {l₁ : List α} {l₂ : List β} (i : Nat), Paired F l₁ l₂ → Paired F (l₁.set i x) (l₂.set i y)
  | _, _, _, .nil => .nil
  | _, _, 0, .cons _ t => .cons r t
  | _, _, i + 1, .cons q t => .cons q (pset r i t)
theorem ptake {α β : Type} {F : α → β → Prop} : ∀ {l₁ : List α} {l₂ : List β} (n : Nat), Paired F l₁ l₂ → Paired F (l₁.take n) (l₂.take n)
  | _, _, 0, _ => .nil
  | _, _, _ + 1, .nil => .nil
  | _, _, n + 1, .cons r t => .cons r (ptake n t)
theorem pdrop {α β : Type} {F : α → β → Prop} : ∀ {l₁ : List α} {l₂ : List β} (n : Nat), Paired F l₁ l₂ → Paired F (l₁.drop n) (l₂.drop n)
  | _, _, 0, r => r
  | _, _, _ + 1, .nil => .nil
  | _, _, n + 1, .cons _ t => pdrop n t
theorem papp {α β : Type} {F : α → β → Prop} : ∀ {l₁ m₁ : List α} {l₂ m₂ : List β}, Paired F l₁ l₂ → Paired F m₁ m₂ → Paired F (l₁ ++ m₁) (l₂ ++ m₂)
  | _, _, _, _, .nil, h => h
  | _, _, _, _, .cons r t, h => .cons r (papp t h)
theorem prev {α β : Type} {F : α → β → Prop} : ∀ {l₁ : List α} {l₂ : List β}, Paired F l₁ l₂ → Paired F l₁.reverse l₂.reverse
  | _, _, .nil => .nil
  | _, _, .cons r t => by
    rw [List.reverse_cons, List.reverse_cons]
    exact papp (prev t) (.cons r .nil)
theorem pmapL {α β γ : Type} {F : α → β → Prop} {f : γ → α} {g : γ → β} : ∀ (l : List γ), (∀ x ∈ l, F (f x) (g x)) → Paired F (l.map f) (l.map g)
  | [], _ => .nil
  | x :: r, h => .cons (h x List.mem_cons_self) (pmapL r fun y hy => h y (List.mem_cons_of_mem _ hy))
theorem LstR.len {vs : List V} {d : Da} (r : LstR K H vs d) : vs.length = dlen d := by
  cases d <;> first
    | exact r.elim
    | (obtain ⟨q, e1, _⟩ := r; rw [e1]; rfl)
    | (rw [show vs = _ from r, List.length_map]; rfl)
    | exact Paired.length (show Paired (WdR K H) vs _ from r)
    | exact Paired.length (show Paired (LiR K H) vs _ from r)
    | exact Paired.length (show Paired (PrR K H) vs _ from r)
theorem LstR.get {vs : List V} {d e : Da} {i : Nat} (r : LstR K H vs d) (h : item d i = some e) : ∃ v, vs[i]? = some v ∧ DR K H v e := by
  cases d with
  | li ns =>
    have r' : vs = ns.map V.int := r
    obtain ⟨x, hx, hxe⟩ := Option.map_eq_some_iff.mp (show ns[i]?.map Da.int = some e from h)
    subst hxe
    exact ⟨.int x, by rw [r', List.getElem?_map, hx]; rfl, rfl⟩
  | lw ws =>
    obtain ⟨x, hx, hxe⟩ := Option.map_eq_some_iff.mp (show ws[i]?.map Da.wd = some e from h)
    subst hxe
    obtain ⟨v, hv, q⟩ := pget1 (show Paired (WdR K H) vs ws from r) hx
    exact ⟨v, hv, q⟩
  | ll ws =>
    obtain ⟨x, hx, hxe⟩ := Option.map_eq_some_iff.mp (show ws[i]?.map Da.li = some e from h)
    subst hxe
    obtain ⟨v, hv, a, ev, q⟩ := pget1 (show Paired (LiR K H) vs ws from r) hx
    exact ⟨v, hv, a, _, ev, q, rfl⟩
  | lp ws =>
    obtain ⟨x, hx, hxe⟩ := Option.map_eq_some_iff.mp (show ws[i]?.map (fun p => Da.pr p.1 p.2) = some e from h)
    subst hxe
    obtain ⟨v, hv, q⟩ := pget1 (show Paired (PrR K H) vs ws from r) hx
    exact ⟨v, hv, q⟩
  | hl cells x y z =>
    obtain ⟨q, e1, e2⟩ := r
    subst e1
    match i, h with
    | 0, h => cases h; exact ⟨_, rfl, q, _, rfl, e2, rfl⟩
    | 1, h => cases h; exact ⟨_, rfl, rfl⟩
    | 2, h => cases h; exact ⟨_, rfl, rfl⟩
    | 3, h => cases h; exact ⟨_, rfl, rfl⟩
    | n + 4, h => cases h
  | _ => exact r.elim
theorem LstR.snoc {vs : List V} {d e d' : Da} {v : V} (r : LstR K H vs d) (q : DR K H v e) (h : K54.snoc d e = some d') : LstR K H (vs ++ [v]) d' := by
  cases d <;> cases e <;> first
    | (cases h; done)
    | (injection h with h; subst h
       first
       | (show vs ++ [v] = _
          rw [show vs = _ from r, show v = _ from q, List.map_append]
          rfl)
       | exact papp (show Paired (WdR K H) vs _ from r) (.cons q .nil)
       | exact papp (show Paired (PrR K H) vs _ from r) (.cons q .nil)
       | (obtain ⟨a, us, e1, e2, e3⟩ := q
          have e3' : us = _ := e3
          rw [e3'] at e2
          exact papp (show Paired (LiR K H) vs _ from r) (.cons ⟨a, e1, e2⟩ .nil)))
/-- the list without items -/
theorem LstR.nilI : LstR K H [] (.li []) := rfl
theorem LstR.nilW : LstR K H [] (.lw []) := Paired.nil
theorem LstR.nilL : LstR K H [] (.ll []) := Paired.nil
theorem LstR.nilP : LstR K H [] (.lp []) := Paired.nil
end

/-! ### what the slots hold -/
inductive Ent where
  | no | val (d : Da) | own (d : Da) | dT (ws : List (List Int)) | dK (kvs : List (Int × Int))
def dTO (ws : List (List Int)) : HO := .dT (ws.map fun w => (w.map Sum.inl, V.bl true))
def dKO (kvs : List (Int × Int)) : HO := .dK (kvs.map fun p => (Sum.inl p.1, V.int p.2))
def Ent.isOwn : Ent → Bool
  | .no => false
  | .val _ => false
  | _ => true
def EntOk (K : PySem.W.Frag) (H0 Hs H : Hp) (o : Option V) : Ent → Prop
  | .no => True
  | .val d => ∃ v, o = some v ∧ DR K Hs v d
  | .own d => ∃ a vs, o = some (.ref a) ∧ H0 a = none ∧ Hs a = none ∧ H a = some (.lst vs) ∧ LstR K Hs vs d
  | .dT ws => ∃ a, o = some (.ref a) ∧ H0 a = none ∧ Hs a = none ∧ H a = some (dTO ws)
  | .dK kvs => ∃ a, o = some (.ref a) ∧ H0 a = none ∧ Hs a = none ∧ H a = some (dKO kvs)
structure St2 (K : PySem.W.Frag) (H0 Hs H : Hp) (σ : L2.St) (Γ : List Ent) : Prop where
  sub : Same Hs H
  len : Γ.length = σ.length
  ent : ∀ (i : Nat) (e : Ent) (o : Option V), Γ[i]? = some e → σ[i]? = some o → EntOk K H0 Hs H o e
  dis : ∀ (i j : Nat) (e f : Ent) (a b : Addr), i ≠ j → Γ[i]? = some e → Γ[j]? = some f → e.isOwn = true → f.isOwn = true → σ[i]? = some (some (.ref a)) → σ[j]? = some (some (.ref b)) → a ≠ b
section
variable {K : PySem.W.Frag} {H0 Hs H Hs2 H2 : Hp} {σ : L2.St} {Γ Γ' : List Ent}
theorem St2.at (S : St2 K H0 Hs H σ Γ) {i : Nat} {e : Ent} (h : Γ[i]? = some e) : ∃ o, σ[i]? = some o ∧ EntOk K H0 Hs H o e := by
  have hl : i < σ.length := by
    rw [← S.len]
    exact (List.getElem?_eq_some_iff.mp h).1
  exact ⟨σ[i], List.getElem?_eq_getElem hl, S.ent i e _ h (List.getElem?_eq_getElem hl)⟩
theorem St2.val (S : St2 K H0 Hs H σ Γ) {i : Nat} {d : Da} (h : Γ[i]? = some (.val d)) : ∃ v, σ[i]? = some (some v) ∧ DR K Hs v d := by
  obtain ⟨o, ho, v, e, r⟩ := S.at h
  exact ⟨v, by rw [ho, e], r⟩
theorem St2.ownAt (S : St2 K H0 Hs H σ Γ) {i : Nat} {d : Da} (h : Γ[i]? = some (.own d)) : ∃ a vs, σ[i]? = some (some (.ref a)) ∧ H0 a = none ∧ Hs a = none ∧ H a = some (.lst vs) ∧ LstR K Hs vs d := by
  obtain ⟨o, ho, a, vs, e, r⟩ := S.at h
  exact ⟨a, vs, by rw [ho, e], r⟩
theorem St2.dTAt (S : St2 K H0 Hs H σ Γ) {i : Nat} {ws : List (List Int)} (h : Γ[i]? = some (.dT ws)) : ∃ a, σ[i]? = some (some (.ref a)) ∧ H0 a = none ∧ Hs a = none ∧ H a = some (dTO ws) := by
  obtain ⟨o, ho, a, e, r⟩ := S.at h
  exact ⟨a, by rw [ho, e], r⟩
theorem St2.dKAt (S : St2 K H0 Hs H σ Γ) {i : Nat} {ws : List (Int × Int)} (h : Γ[i]? = some (.dK ws)) : ∃ a, σ[i]? = some (some (.ref a)) ∧ H0 a = none ∧ Hs a = none ∧ H a = some (dKO ws) := by
  obtain ⟨o, ho, a, e, r⟩ := S.at h
  exact ⟨a, by rw [ho, e], r⟩
theorem EntOk.step (t : Stp Hs H Hs2 H2) {o : Option V} {e : Ent} (h : EntOk K H0 Hs H o e) : EntOk K H0 Hs2 H2 o e := by
  cases e with
  | no => trivial
  | val d => obtain ⟨v, e, r⟩ := h; exact ⟨v, e, r.ex t.s⟩
  | own d => obtain ⟨a, vs, e, h0, hs, hh, r⟩ := h; exact ⟨a, vs, e, h0, t.own a _ hh rfl hs, t.h _ _ hh, r.ex t.s⟩
  | dT d => obtain ⟨a, e, h0, hs, hh⟩ := h; exact ⟨a, e, h0, t.own a _ hh rfl hs, t.h _ _ hh⟩
  | dK d => obtain ⟨a, e, h0, hs, hh⟩ := h; exact ⟨a, e, h0, t.own a _ hh rfl hs, t.h _ _ hh⟩
theorem St2.step (S : St2 K H0 Hs H σ Γ) (t : Stp Hs H Hs2 H2) : St2 K H0 Hs2 H2 σ Γ :=
  ⟨t.sub, S.len, fun i e o h1 h2 => (S.ent i e o h1 h2).step t, S.dis⟩
/-- what an own entry stands at -/
theorem EntOk.addr {o : Option V} {e : Ent} (h : EntOk K H0 Hs H o e) (ho : e.isOwn = true) : ∃ a, o = some (.ref a) ∧ H0 a = none ∧ Hs a = none ∧ H a ≠ none := by
  cases e with
  | no => cases ho
  | val d => cases ho
  | own d => obtain ⟨a, vs, e, h0, hs, hh, r⟩ := h; exact ⟨a, e, h0, hs, by rw [hh]; intro z; cases z⟩
  | dT d => obtain ⟨a, e, h0, hs, hh⟩ := h; exact ⟨a, e, h0, hs, by rw [hh]; intro z; cases z⟩
  | dK d => obtain ⟨a, e, h0, hs, hh⟩ := h; exact ⟨a, e, h0, hs, by rw [hh]; intro z; cases z⟩
/-- forgetting -/
def Weak : List Ent → List Ent → Prop
  | [], [] => True
  | _ :: r, .no :: r' => Weak r r'
  | e :: r, e' :: r' => e = e' ∧ Weak r r'
  | _, _ => False
theorem Weak.len : ∀ {Γ Γ' : List Ent}, Weak Γ Γ' → Γ'.length = Γ.length
  | [], [], _ => rfl
  | [], _ :: _, h => h.elim
  | _ :: r, [], h => by cases h
  | _ :: r, .no :: r', h => congrArg (· + 1) (Weak.len (show Weak r r' from h))
  | _ :: r, .val _ :: r', h => congrArg (· + 1) (Weak.len h.2)
  | _ :: r, .own _ :: r', h => congrArg (· + 1) (Weak.len h.2)
  | _ :: r, .dT _ :: r', h => congrArg (· + 1) (Weak.len h.2)
  | _ :: r, .dK _ :: r', h => congrArg (· + 1) (Weak.len h.2)
theorem Weak.at : ∀ {Γ Γ' : List Ent}, Weak Γ Γ' → ∀ {i : Nat} {e : Ent}, Γ'[i]? = some e → e = .no ∨ Γ[i]? = some e
  | [], [], _, i, e, h => by simp at h
  | [], _ :: _, h, _, _, _ => h.elim
  | _ :: r, [], h, _, _, _ => by cases h
  | x :: r, .no :: r', h, 0, e, q => .inl (by simpa using q.symm)
  | x :: r, .val _ :: r', h, 0, e, q => .inr (by rw [h.1]; exact q)
  | x :: r, .own _ :: r', h, 0, e, q => .inr (by rw [h.1]; exact q)
  | x :: r, .dT _ :: r', h, 0, e, q => .inr (by rw [h.1]; exact q)
  | x :: r, .dK _ :: r', h, 0, e, q => .inr (by rw [h.1]; exact q)
  | x :: r, .no :: r', h, i + 1, e, q => Weak.at (show Weak r r' from h) (i := i) (by simpa using q)
  | x :: r, .val _ :: r', h, i + 1, e, q => Weak.at h.2 (i := i) (by simpa using q)
  | x :: r, .own _ :: r', h, i + 1, e, q => Weak.at h.2 (i := i) (by simpa using q)
  | x :: r, .dT _ :: r', h, i + 1, e, q => Weak.at h.2 (i := i) (by simpa using q)
  | x :: r, .dK _ :: r', h, i + 1, e, q => Weak.at h.2 (i := i) (by simpa using q)
theorem Weak.refl : ∀ Γ : List Ent, Weak Γ Γ
  | [] => trivial
  | .no :: r => Weak.refl r
  | .val _ :: r => ⟨rfl, Weak.refl r⟩
  | .own _ :: r => ⟨rfl, Weak.refl r⟩
  | .dT _ :: r => ⟨rfl, Weak.refl r⟩
  | .dK _ :: r => ⟨rfl, Weak.refl r⟩
theorem St2.weak (S : St2 K H0 Hs H σ Γ) (w : Weak Γ Γ') : St2 K H0 Hs H σ Γ' := by
  refine ⟨S.sub, w.len.trans S.len, fun i e o h1 h2 => ?_, fun i j e f a b hn h1 h2 o1 o2 => ?_⟩
  · rcases w.at h1 with z | z
    · rw [z]; trivial
    · exact S.ent i e o z h2
  · rcases w.at h1 with z | z
    · rw [z] at o1; cases o1
    · rcases w.at h2 with z' | z'
      · rw [z'] at o2; cases o2
      · exact S.dis i j e f a b hn z z' o1 o2
/-- a slot stored -/
theorem St2.set (S : St2 K H0 Hs H σ Γ) (i : Nat) {v : V} {d : Da} (r : DR K Hs v d) : St2 K H0 Hs H (σ.set i (some v)) (Γ.set i (.val d)) := by
  refine ⟨S.sub, by simpa using S.len, fun j e o h1 h2 => ?_, fun j k e f a b hn h1 h2 o1 o2 s1 s2 => ?_⟩
  · by_cases hj : j = i
    · subst hj
      have l1 : j < Γ.length := by have := (List.getElem?_eq_some_iff.mp h1).1; simpa using this
      have l2 : j < σ.length := by rw [← S.len]; exact l1
      rw [List.getElem?_set_self l1] at h1
      rw [List.getElem?_set_self l2] at h2
      cases h1; cases h2
      exact ⟨v, rfl, r⟩
    · rw [List.getElem?_set_ne (Ne.symm hj)] at h1 h2
      exact S.ent j e o h1 h2
  · by_cases hj : j = i
    · subst hj
      have l1 : j < Γ.length := by have := (List.getElem?_eq_some_iff.mp h1).1; simpa using this
      rw [List.getElem?_set_self l1] at h1
      cases h1; cases o1
    · by_cases hk : k = i
      · subst hk
        have l1 : k < Γ.length := by have := (List.getElem?_eq_some_iff.mp h2).1; simpa using this
        rw [List.getElem?_set_self l1] at h2
        cases h2; cases o2
      · rw [List.getElem?_set_ne (Ne.symm hj)] at h1 s1
        rw [List.getElem?_set_ne (Ne.symm hk)] at h2 s2
        exact S.dis j k e f a b hn h1 h2 o1 o2 s1 s2
/-- a slot stored: an own object, new -/
theorem St2.setOwn (S : St2 K H0 Hs H σ Γ) (i : Nat) {a : Addr} {e : Ent} (hn : ∀ j f b, j ≠ i → Γ[j]? = some f → f.isOwn = true → σ[j]? = some (some (.ref b)) → a ≠ b) (r : EntOk K H0 Hs H (some (.ref a)) e) (ho : e.isOwn = true) :
    St2 K H0 Hs H (σ.set i (some (.ref a))) (Γ.set i e) := by
  refine ⟨S.sub, by simpa using S.len, fun j e' o h1 h2 => ?_, fun j k e' f a' b hne h1 h2 o1 o2 s1 s2 => ?_⟩
  · by_cases hj : j = i
    · subst hj
      have l1 : j < Γ.length := by have := (List.getElem?_eq_some_iff.mp h1).1; simpa using this
      have l2 : j < σ.length := by rw [← S.len]; exact l1
      rw [List.getElem?_set_self l1] at h1
      rw [List.getElem?_set_self l2] at h2
      cases h1; cases h2
      exact r
    · rw [List.getElem?_set_ne (Ne.symm hj)] at h1 h2
      exact S.ent j e' o h1 h2
  · by_cases hj : j = i
    · subst hj
      have hk : k ≠ j := fun z => hne z.symm
      have l1 : j < Γ.length := by have := (List.getElem?_eq_some_iff.mp h1).1; simpa using this
      have l2 : j < σ.length := by rw [← S.len]; exact l1
      rw [List.getElem?_set_self l2] at s1
      cases s1
      rw [List.getElem?_set_ne (Ne.symm hk)] at h2 s2
      exact hn k f b hk h2 o2 s2
    · by_cases hk : k = i
      · subst hk
        have l1 : k < Γ.length := by have := (List.getElem?_eq_some_iff.mp h2).1; simpa using this
        have l2 : k < σ.length := by rw [← S.len]; exact l1
        rw [List.getElem?_set_self l2] at s2
        cases s2
        rw [List.getElem?_set_ne (Ne.symm hj)] at h1 s1
        exact (hn j e' a' hj h1 o1 s1).symm
      · rw [List.getElem?_set_ne (Ne.symm hj)] at h1 s1
        rw [List.getElem?_set_ne (Ne.symm hk)] at h2 s2
        exact S.dis j k e' f a' b hne h1 h2 o1 o2 s1 s2
/-- an own object is written -/
theorem St2.write (S : St2 K H0 Hs H σ Γ) {i : Nat} {a : Addr} {e e' : Ent} {o : HO} (h1 : Γ[i]? = some e) (ho : e.isOwn = true) (h2 : σ[i]? = some (some (.ref a))) (hs : Hs a = none) (ho' : e'.isOwn = true)
    (r : EntOk K H0 Hs (upd H a o) (some (.ref a)) e') : St2 K H0 Hs (upd H a o) σ (Γ.set i e') := by
  have l1 : i < Γ.length := (List.getElem?_eq_some_iff.mp h1).1
  refine ⟨fun b x q => ?_, by simpa using S.len, fun j f u q1 q2 => ?_, fun j k f g b c hn q1 q2 o1 o2 s1 s2 => ?_⟩
  · have hb : b ≠ a := fun z => by rw [z, hs] at q; cases q
    rw [upd_ne hb]
    exact S.sub b x q
  · by_cases hj : j = i
    · subst hj
      rw [List.getElem?_set_self l1] at q1
      rw [h2] at q2
      cases q1; cases q2
      exact r
    · rw [List.getElem?_set_ne (Ne.symm hj)] at q1
      have z := S.ent j f u q1 q2
      cases f with
      | no => trivial
      | val d => exact z
      | own d =>
        obtain ⟨b, vs, e1, e2, e3, e4, e5⟩ := z
        subst e1
        have nb : b ≠ a := S.dis j i _ _ b a hj q1 h1 rfl ho q2 h2
        exact ⟨b, vs, rfl, e2, e3, by rw [upd_ne nb]; exact e4, e5⟩
      | dT d =>
        obtain ⟨b, e1, e2, e3, e4⟩ := z
        subst e1
        have nb : b ≠ a := S.dis j i _ _ b a hj q1 h1 rfl ho q2 h2
        exact ⟨b, rfl, e2, e3, by rw [upd_ne nb]; exact e4⟩
      | dK d =>
        obtain ⟨b, e1, e2, e3, e4⟩ := z
        subst e1
        have nb : b ≠ a := S.dis j i _ _ b a hj q1 h1 rfl ho q2 h2
        exact ⟨b, rfl, e2, e3, by rw [upd_ne nb]; exact e4⟩
  · have back : ∀ (m : Nat) (y : Ent), (Γ.set i e')[m]? = some y → y.isOwn = true → ∃ y', Γ[m]? = some y' ∧ y'.isOwn = true := fun m y hm hy => by
      by_cases hmi : m = i
      · subst hmi; exact ⟨e, h1, ho⟩
      · rw [List.getElem?_set_ne (Ne.symm hmi)] at hm
        exact ⟨y, hm, hy⟩
    obtain ⟨f', z1, z2⟩ := back j f q1 o1
    obtain ⟨g', z3, z4⟩ := back k g q2 o2
    exact S.dis j k f' g' b c hn z1 z3 z2 z4 s1 s2
end
end K54

set_option Elab.async false
set_option linter.all false
set_option maxRecDepth 100000
set_option maxHeartbeats 4000000
/-! J2: expressions. -/
namespace K54
open PySem PySem.Spec PyProof.Rows L2

/-- evaluates to the data d -/
def EV (X : Cx) (e : Expr) (Γ : List Ent) (d : Da) : Prop := ∀ (H0 Hs H : Hp) (σ : L2.St), St2 X.K H0 Hs H σ Γ → ∀ Q : VK, (∀ v Hs2 H2, Stp Hs H Hs2 H2 → DR X.K Hs2 v d → Q v H2) → wE X e σ H Q
/-- evaluates to a new list -/
def EL (X : Cx) (e : Expr) (Γ : List Ent) (d : Da) : Prop := ∀ (H0 Hs H : Hp) (σ : L2.St), St2 X.K H0 Hs H σ Γ → ∀ Q : VK,
  (∀ p vs Hs2 H2, Stp Hs H Hs2 H2 → H p = none → Hs2 p = none → H2 p = some (.lst vs) → LstR X.K Hs2 vs d → Q (.ref p) H2) → wE X e σ H Q
def ET (X : Cx) (e : Expr) (Γ : List Ent) (b : Bool) : Prop := ∀ (H0 Hs H : Hp) (σ : L2.St), St2 X.K H0 Hs H σ Γ → ∀ Q : Bool → Hp → Prop, (∀ Hs2 H2, Stp Hs H Hs2 H2 → Q b H2) → wT X e σ H Q
def EA (X : Cx) (es : List Expr) (Γ : List Ent) (ds : List Da) : Prop := ∀ (H0 Hs H : Hp) (σ : L2.St), St2 X.K H0 Hs H σ Γ → ∀ Q : List V → Hp → Prop,
  (∀ vs Hs2 H2, Stp Hs H Hs2 H2 → Paired (DR X.K Hs2) vs ds → Q vs H2) → wA X es σ H Q

section
variable {X : Cx} {a b c e o : Expr} {es : List Expr} {Γ : List Ent} {pos : Pos} {d d1 d2 : Da} {ds : List Da} {i j : Int}

theorem ev_of_el (hl : isLst d = true) (h : EL X e Γ d) : EV X e Γ d := fun H0 Hs H σ S Q q => h H0 Hs H σ S Q fun p vs Hs2 H2 t hp hs h2 r => by
  have sub : Same (upd Hs2 p (.lst vs)) H2 := fun b x hb => by
    by_cases z : b = p
    · subst z; rw [upd_same] at hb; cases hb; exact h2
    · rw [upd_ne z] at hb; exact t.sub b x hb
  refine q (.ref p) (upd Hs2 p (.lst vs)) H2 ⟨t.s.trans (Same.upd_new hs), t.h, sub, fun b o hb hz hn => ?_⟩ (DR.of_lst (.inl (.inl upd_same)) (r.ex (Same.upd_new hs)))
  have nb : b ≠ p := ne_of_none hb hp
  rw [upd_ne nb]
  exact t.own b o hb hz hn

/-! ### constants and names -/
theorem ev_int {k : Int} {j : Nat} : EV X (.Constant (.int k) j pos) Γ (.int k) := fun H0 Hs H σ S Q q => wE_of pe_int (q _ Hs H (Stp.refl S.sub) rfl)
theorem ev_bl {k : Bool} {j : Nat} : EV X (.Constant (.bool k) j pos) Γ (.bl k) := fun H0 Hs H σ S Q q => wE_of pe_bl (q _ Hs H (Stp.refl S.sub) rfl)
theorem ev_non {j : Nat} : EV X (.Constant .none j pos) Γ .non := fun H0 Hs H σ S Q q => wE_of pe_non (q _ Hs H (Stp.refl S.sub) rfl)
theorem ev_var (i : Nat) {x : Str} (h : Γ[i]? = some (.val d)) (hN : X.N[i]? = some x := by rfl) (hv : Vis X.env.scope x := by first | exact Or.inl rfl | exact Or.inr (Or.inl rfl) | exact Or.inr (Or.inr rfl)) (hd : (x == ("__debug__" : Str)) = false := by decide)
    (hcd : (x == ("__classdict__" : Str)) = false := by decide) : EV X (.Name x pos) Γ d := fun H0 Hs H σ S Q q => by
  obtain ⟨v, e, r⟩ := S.val h
  exact wE_of (pe_var hN hv hd hcd) ⟨v, e, q v Hs H (Stp.refl S.sub) r⟩
theorem ev_glob {x : Str} {k : Int} (hm : ∃ t, X.mg x = some (.int k t)) (hg : Gl X x := by rfl) (hd : (x == ("__debug__" : Str)) = false := by decide) : EV X (.Name x pos) Γ (.int k) := fun H0 Hs H σ S Q q => by
  obtain ⟨t, hm⟩ := hm
  exact wE_of (pe_glob (v := .int k) hg hm ⟨t, rfl⟩ hd) (q _ Hs H (Stp.refl S.sub) rfl)

/-! ### two operands -/
theorem two (ha : EV X a Γ d1) (hb : EV X b Γ d2) {H0 Hs H : Hp} {σ : L2.St} (S : St2 X.K H0 Hs H σ Γ) {R : V → V → Hp → Prop}
    (q : ∀ x y Hs2 H2, Stp Hs H Hs2 H2 → DR X.K Hs2 x d1 → DR X.K Hs2 y d2 → R x y H2) : wE X a σ H fun x H1 => wE X b σ H1 fun y H2 => R x y H2 :=
  ha H0 Hs H σ S _ fun x Hs1 H1 t1 r1 => hb H0 Hs1 H1 σ (S.step t1) _ fun y Hs2 H2 t2 r2 => q x y Hs2 H2 (t1.trans t2) (r1.ex t2.s) r2
theorem ev_opI {op : Operator} {C : Int → Int → Prop} {g : Int → Int → Int} (ho : OpR X (binaryOp op) (rI C fun i j => .int (g i j))) (ha : EV X a Γ (.int i)) (hb : EV X b Γ (.int j)) (hc : C i j) :
    EV X (.BinOp a op b pos) Γ (.int (g i j)) := fun H0 Hs H σ S Q q => wE_of (pe_op ho (peW X a) (peW X b)) (two ha hb S fun x y Hs2 H2 t r1 r2 => ⟨i, j, r1, r2, hc, q _ Hs2 H2 t rfl⟩)
theorem ev_opI0 {op : Operator} {g : Int → Int → Int} (ho : OpR X (binaryOp op) (rI0 fun i j => .int (g i j))) (ha : EV X a Γ (.int i)) (hb : EV X b Γ (.int j)) :
    EV X (.BinOp a op b pos) Γ (.int (g i j)) := fun H0 Hs H σ S Q q => wE_of (pe_op ho (peW X a) (peW X b)) (two ha hb S fun x y Hs2 H2 t r1 r2 => ⟨i, j, r1, r2, q _ Hs2 H2 t rfl⟩)
theorem ev_add (ha : EV X a Γ (.int i)) (hb : EV X b Γ (.int j)) : EV X (.BinOp a .Add b pos) Γ (.int (i + j)) := ev_opI0 (g := fun i j => i + j) op_add ha hb
theorem ev_sub (ha : EV X a Γ (.int i)) (hb : EV X b Γ (.int j)) : EV X (.BinOp a .Sub b pos) Γ (.int (i - j)) := ev_opI0 (g := fun i j => i - j) op_sub ha hb
theorem ev_mul (ha : EV X a Γ (.int i)) (hb : EV X b Γ (.int j)) (hc : CMul i j) : EV X (.BinOp a .Mult b pos) Γ (.int (i * j)) := ev_opI (g := fun i j => i * j) op_mul ha hb hc
theorem ev_div (ha : EV X a Γ (.int i)) (hb : EV X b Γ (.int j)) (hc : CDiv i j) : EV X (.BinOp a .FloorDiv b pos) Γ (.int (i / j)) := ev_opI (g := fun i j => i / j) op_fdiv ha hb hc
theorem ev_mod (ha : EV X a Γ (.int i)) (hb : EV X b Γ (.int j)) (hc : 0 < j) : EV X (.BinOp a .Mod b pos) Γ (.int (i % j)) := ev_opI (g := fun i j => i % j) op_mod ha hb hc
theorem ev_pow (ha : EV X a Γ (.int i)) (hb : EV X b Γ (.int j)) (hc : CPow i j) : EV X (.BinOp a .Pow b pos) Γ (.int (i ^ j.toNat)) := ev_opI (g := fun i j => i ^ j.toNat) op_pow ha hb hc
theorem ev_neg (ha : EV X a Γ (.int i)) : EV X (.UnaryOp .USub a pos) Γ (.int (-i)) := fun H0 Hs H σ S Q q =>
  wE_of (pe_un un_neg (peW X a)) (ha H0 Hs H σ S _ fun x Hs2 H2 t r => ⟨i, r, q _ Hs2 H2 t rfl⟩)
/-! ### comparisons -/
theorem ev_cmp {op : CmpOp} {g : Int → Int → Bool} (ho : OpR X (compareOp op) (rI0 fun i j => .bl (g i j))) (hm : behindInMarks op b = false) (ha : EV X a Γ (.int i)) (hb : EV X b Γ (.int j)) :
    EV X (.Compare a [op] [b] pos) Γ (.bl (g i j)) := fun H0 Hs H σ S Q q => wE_of (pe_cmpR ho (peW X a) (peW X b) hm) (two ha hb S fun x y Hs2 H2 t r1 r2 => ⟨i, j, r1, r2, q _ Hs2 H2 t rfl⟩)
theorem ev_lt (ha : EV X a Γ (.int i)) (hb : EV X b Γ (.int j)) : EV X (.Compare a [.Lt] [b] pos) Γ (.bl (decide (i < j))) := ev_cmp (g := fun i j => decide (i < j)) op_lt (nomark _) ha hb
theorem ev_le (ha : EV X a Γ (.int i)) (hb : EV X b Γ (.int j)) : EV X (.Compare a [.LtE] [b] pos) Γ (.bl (decide (i ≤ j))) := ev_cmp (g := fun i j => decide (i ≤ j)) op_le (nomark _) ha hb
theorem ev_gt (ha : EV X a Γ (.int i)) (hb : EV X b Γ (.int j)) : EV X (.Compare a [.Gt] [b] pos) Γ (.bl (decide (j < i))) := ev_cmp (g := fun i j => decide (j < i)) op_gt (nomark _) ha hb
theorem ev_ge (ha : EV X a Γ (.int i)) (hb : EV X b Γ (.int j)) : EV X (.Compare a [.GtE] [b] pos) Γ (.bl (decide (j ≤ i))) := ev_cmp (g := fun i j => decide (j ≤ i)) op_ge (nomark _) ha hb
/-- the scalars -/
def sv : Da → Option V
  | .non => some .non
  | .bl b => some (.bl b)
  | .int i => some (.int i)
  | .str x => some (.str x)
  | _ => none
theorem sv_eq {K : PySem.W.Frag} {H : Hp} {v x : V} {d : Da} (r : DR K H v d) (h : sv d = some x) : v = x := by
  cases d <;> first | (cases h; exact r) | cases h
theorem ev_eq {x y : V} (ha : EV X a Γ d1) (hb : EV X b Γ d2) (h1 : sv d1 = some x) (h2 : sv d2 = some y) (hs : scal x y = true) : EV X (.Compare a [.Eq] [b] pos) Γ (.bl (decide (x = y))) := fun H0 Hs H σ S Q q =>
  wE_of (pe_cmpR op_eq (peW X a) (peW X b) (nomark _)) (two ha hb S fun u w Hs2 H2 t r1 r2 => by
    rw [sv_eq r1 h1, sv_eq r2 h2]
    exact ⟨hs, q _ Hs2 H2 t rfl⟩)
theorem ev_ne {x y : V} (ha : EV X a Γ d1) (hb : EV X b Γ d2) (h1 : sv d1 = some x) (h2 : sv d2 = some y) (hs : scal x y = true) : EV X (.Compare a [.NotEq] [b] pos) Γ (.bl (!decide (x = y))) := fun H0 Hs H σ S Q q =>
  wE_of (pe_cmpR op_ne (peW X a) (peW X b) (nomark _)) (two ha hb S fun u w Hs2 H2 t r1 r2 => by
    rw [sv_eq r1 h1, sv_eq r2 h2]
    exact ⟨hs, q _ Hs2 H2 t rfl⟩)
theorem ev_eqI (ha : EV X a Γ (.int i)) (hb : EV X b Γ (.int j)) : EV X (.Compare a [.Eq] [b] pos) Γ (.bl (decide (i = j))) := by
  have h := ev_eq (pos := pos) ha hb rfl rfl rfl
  have e : decide (V.int i = V.int j) = decide (i = j) := by simp
  rw [e] at h
  exact h
theorem ev_neI (ha : EV X a Γ (.int i)) (hb : EV X b Γ (.int j)) : EV X (.Compare a [.NotEq] [b] pos) Γ (.bl (decide (i ≠ j))) := by
  have h := ev_ne (pos := pos) ha hb rfl rfl rfl
  have e : (!decide (V.int i = V.int j)) = decide (i ≠ j) := by simp
  rw [e] at h
  exact h
theorem ev_neB {p q : Bool} (ha : EV X a Γ (.bl p)) (hb : EV X b Γ (.bl q)) : EV X (.Compare a [.NotEq] [b] pos) Γ (.bl (p != q)) := by
  have h := ev_ne (pos := pos) ha hb rfl rfl rfl
  have e : (!decide (V.bl p = V.bl q)) = (p != q) := by cases p <;> cases q <;> decide
  rw [e] at h
  exact h
theorem ev_eqB {p q : Bool} (ha : EV X a Γ (.bl p)) (hb : EV X b Γ (.bl q)) : EV X (.Compare a [.Eq] [b] pos) Γ (.bl (p == q)) := by
  have h := ev_eq (pos := pos) ha hb rfl rfl rfl
  have e : (decide (V.bl p = V.bl q)) = (p == q) := by cases p <;> cases q <;> decide
  rw [e] at h
  exact h
theorem ev_neS {p q : Str} (ha : EV X a Γ (.str p)) (hb : EV X b Γ (.str q)) : EV X (.Compare a [.NotEq] [b] pos) Γ (.bl (!decide (p = q))) := by
  have h := ev_ne (pos := pos) ha hb rfl rfl rfl
  have e : (!decide (V.str p = V.str q)) = (!decide (p = q)) := by simp
  rw [e] at h
  exact h
/-- is None -/
def isNon : Da → Bool
  | .non => true
  | _ => false
theorem isNon_of {K : PySem.W.Frag} {H : Hp} {v : V} {d : Da} (r : DR K H v d) : decide (v = .non) = isNon d := by
  cases d with
  | non => rw [show v = .non from r]; rfl
  | bl b => rw [show v = _ from r]; rfl
  | int b => rw [show v = _ from r]; rfl
  | str b => rw [show v = _ from r]; rfl
  | wd w => obtain ⟨p, e, _⟩ := r; rw [e]; rfl
  | tw w => obtain ⟨p, _, e, _⟩ := r; rw [e]; rfl
  | pr w k => obtain ⟨p, _, e, _⟩ := r; rw [e]; rfl
  | li w => obtain ⟨p, _, e, _⟩ := r; rw [e]; rfl
  | lw w => obtain ⟨p, _, e, _⟩ := r; rw [e]; rfl
  | ll w => obtain ⟨p, _, e, _⟩ := r; rw [e]; rfl
  | lp w => obtain ⟨p, _, e, _⟩ := r; rw [e]; rfl
  | sb n m z => obtain ⟨p, _, e, _⟩ := r; rw [e]; rfl
  | wb k ws m z => obtain ⟨p, _, _, e, _⟩ := r; rw [e]; rfl
  | ob => obtain ⟨p, e⟩ := r; rw [e]; rfl
  | rf p => rw [show v = _ from r]; rfl
  | hl c x y z => obtain ⟨p, _, e, _⟩ := r; rw [e]; rfl
theorem ev_isN {j : Nat} {p2 : Pos} (ha : EV X a Γ d) : EV X (.Compare a [.Is] [.Constant .none j p2] pos) Γ (.bl (isNon d)) := fun H0 Hs H σ S Q q =>
  wE_of (pe_cmpR op_isN (peW X a) pe_non (nomark _)) (ha H0 Hs H σ S _ fun x Hs2 H2 t r => ⟨rfl, by rw [isNon_of r]; exact q _ Hs2 H2 t rfl⟩)
theorem ev_notN {j : Nat} {p2 : Pos} (ha : EV X a Γ d) : EV X (.Compare a [.IsNot] [.Constant .none j p2] pos) Γ (.bl (!isNon d)) := fun H0 Hs H σ S Q q =>
  wE_of (pe_cmpR op_notN (peW X a) pe_non (nomark _)) (ha H0 Hs H σ S _ fun x Hs2 H2 t r => ⟨rfl, by rw [isNon_of r]; exact q _ Hs2 H2 t rfl⟩)
/-! ### tests -/
theorem et_val {k : Bool} (h : EV X e Γ (.bl k)) (he : ∀ whole, isTrue e X.env whole = (do let v ← whole; standAt e.pos; holding [v] (truthy v)) := by intro _; rfl) : ET X e Γ k := fun H0 Hs H σ S Q q =>
  wT_of (pt_val (peW X e) he) (h H0 Hs H σ S _ fun x Hs2 H2 t r => ⟨k, r, q Hs2 H2 t⟩)
theorem et_cmpI {op : CmpOp} {g : Int → Int → Bool} (ho : OpR X (compareOp op) (rI0 fun i j => .bl (g i j))) (hm : behindInMarks op b = false) (ha : EV X a Γ (.int i)) (hb : EV X b Γ (.int j)) :
    ET X (.Compare a [op] [b] pos) Γ (g i j) := fun H0 Hs H σ S Q q => wT_of (pt_cmpR ho (peW X a) (peW X b) hm) (two ha hb S fun x y Hs2 H2 t r1 r2 => ⟨i, j, r1, r2, _, rfl, q Hs2 H2 t⟩)
theorem et_lt (ha : EV X a Γ (.int i)) (hb : EV X b Γ (.int j)) : ET X (.Compare a [.Lt] [b] pos) Γ (decide (i < j)) := et_cmpI (g := fun i j => decide (i < j)) op_lt (nomark _) ha hb
theorem et_le (ha : EV X a Γ (.int i)) (hb : EV X b Γ (.int j)) : ET X (.Compare a [.LtE] [b] pos) Γ (decide (i ≤ j)) := et_cmpI (g := fun i j => decide (i ≤ j)) op_le (nomark _) ha hb
theorem et_gt (ha : EV X a Γ (.int i)) (hb : EV X b Γ (.int j)) : ET X (.Compare a [.Gt] [b] pos) Γ (decide (j < i)) := et_cmpI (g := fun i j => decide (j < i)) op_gt (nomark _) ha hb
theorem et_ge (ha : EV X a Γ (.int i)) (hb : EV X b Γ (.int j)) : ET X (.Compare a [.GtE] [b] pos) Γ (decide (j ≤ i)) := et_cmpI (g := fun i j => decide (j ≤ i)) op_ge (nomark _) ha hb
theorem et_eq {x y : V} (ha : EV X a Γ d1) (hb : EV X b Γ d2) (h1 : sv d1 = some x) (h2 : sv d2 = some y) (hs : scal x y = true) : ET X (.Compare a [.Eq] [b] pos) Γ (decide (x = y)) := fun H0 Hs H σ S Q q =>
  wT_of (pt_cmpR op_eq (peW X a) (peW X b) (nomark _)) (two ha hb S fun u w Hs2 H2 t r1 r2 => by
    rw [sv_eq r1 h1, sv_eq r2 h2]
    exact ⟨hs, _, rfl, q Hs2 H2 t⟩)
theorem et_ne {x y : V} (ha : EV X a Γ d1) (hb : EV X b Γ d2) (h1 : sv d1 = some x) (h2 : sv d2 = some y) (hs : scal x y = true) : ET X (.Compare a [.NotEq] [b] pos) Γ (!decide (x = y)) := fun H0 Hs H σ S Q q =>
  wT_of (pt_cmpR op_ne (peW X a) (peW X b) (nomark _)) (two ha hb S fun u w Hs2 H2 t r1 r2 => by
    rw [sv_eq r1 h1, sv_eq r2 h2]
    exact ⟨hs, _, rfl, q Hs2 H2 t⟩)
theorem et_cast {k k' : Bool} (h : ET X e Γ k) (e' : k = k') : ET X e Γ k' := e' ▸ h
theorem ev_cast (h : EV X e Γ d) (e' : d = d1) : EV X e Γ d1 := e' ▸ h
theorem el_cast (h : EL X e Γ d) (e' : d = d1) : EL X e Γ d1 := e' ▸ h
theorem et_eqI (ha : EV X a Γ (.int i)) (hb : EV X b Γ (.int j)) : ET X (.Compare a [.Eq] [b] pos) Γ (decide (i = j)) := et_cast (et_eq ha hb rfl rfl rfl) (by simp)
theorem et_neI (ha : EV X a Γ (.int i)) (hb : EV X b Γ (.int j)) : ET X (.Compare a [.NotEq] [b] pos) Γ (decide (i ≠ j)) := et_cast (et_ne ha hb rfl rfl rfl) (by simp)
theorem et_neS {p q : Str} (ha : EV X a Γ (.str p)) (hb : EV X b Γ (.str q)) : ET X (.Compare a [.NotEq] [b] pos) Γ (!decide (p = q)) := et_cast (et_ne ha hb rfl rfl rfl) (by simp)
theorem et_neB {p q : Bool} (ha : EV X a Γ (.bl p)) (hb : EV X b Γ (.bl q)) : ET X (.Compare a [.NotEq] [b] pos) Γ (p != q) := et_cast (et_ne ha hb rfl rfl rfl) (by cases p <;> cases q <;> decide)
theorem et_isN {j : Nat} {p2 : Pos} (ha : EV X a Γ d) : ET X (.Compare a [.Is] [.Constant .none j p2] pos) Γ (isNon d) := fun H0 Hs H σ S Q q =>
  wT_of (pt_cmpR op_isN (peW X a) pe_non (nomark _)) (ha H0 Hs H σ S _ fun x Hs2 H2 t r => ⟨rfl, _, rfl, by rw [isNon_of r]; exact q Hs2 H2 t⟩)
theorem et_notN {j : Nat} {p2 : Pos} (ha : EV X a Γ d) : ET X (.Compare a [.IsNot] [.Constant .none j p2] pos) Γ (!isNon d) := fun H0 Hs H σ S Q q =>
  wT_of (pt_cmpR op_notN (peW X a) pe_non (nomark _)) (ha H0 Hs H σ S _ fun x Hs2 H2 t r => ⟨rfl, _, rfl, by rw [isNon_of r]; exact q Hs2 H2 t⟩)
theorem et_not {k : Bool} (h : ET X a Γ k) : ET X (.UnaryOp .Not a pos) Γ (!k) := fun H0 Hs H σ S Q q =>
  wT_of (pt_not (ptW X a)) (h H0 Hs H σ S _ fun Hs2 H2 t => q Hs2 H2 t)
theorem et_and2 {k k' : Bool} (ha : ET X a Γ k) (hb : k = true → ET X b Γ k') : ET X (.BoolOp .And [a, b] pos) Γ (k && k') := fun H0 Hs H σ S Q q =>
  wT_of (PW.pt (pw_and (ptW X a) (pw_and1 (ptW X b)))) (ha H0 Hs H σ S _ fun Hs1 H1 t1 => by
    cases k with
    | true => exact hb rfl H0 Hs1 H1 σ (S.step t1) _ fun Hs2 H2 t2 => q Hs2 H2 (t1.trans t2)
    | false => exact q Hs1 H1 t1)
theorem et_or2 {k k' : Bool} (ha : ET X a Γ k) (hb : k = false → ET X b Γ k') : ET X (.BoolOp .Or [a, b] pos) Γ (k || k') := fun H0 Hs H σ S Q q =>
  wT_of (PW.pt (pw_or (ptW X a) (pw_or1 (ptW X b)))) (ha H0 Hs H σ S _ fun Hs1 H1 t1 => by
    cases k with
    | true => exact q Hs1 H1 t1
    | false => exact hb rfl H0 Hs1 H1 σ (S.step t1) _ fun Hs2 H2 t2 => q Hs2 H2 (t1.trans t2))
theorem et_and3 {k k' k'' : Bool} (ha : ET X a Γ k) (hb : k = true → ET X b Γ k') (hc : k = true → k' = true → ET X c Γ k'') : ET X (.BoolOp .And [a, b, c] pos) Γ (k && (k' && k'')) := fun H0 Hs H σ S Q q =>
  wT_of (PW.pt (pw_and (ptW X a) (pw_and (ptW X b) (pw_and1 (ptW X c))))) (ha H0 Hs H σ S _ fun Hs1 H1 t1 => by
    cases k with
    | false => exact q Hs1 H1 t1
    | true =>
      refine (hb rfl H0 Hs1 H1 σ (S.step t1) (fun z H2 => if z = true then wT X c σ H2 Q else Q false H2) fun Hs2 H2 t2 => ?_)
      cases k' with
      | true => exact hc rfl rfl H0 Hs2 H2 σ ((S.step t1).step t2) _ fun Hs3 H3 t3 => q Hs3 H3 ((t1.trans t2).trans t3)
      | false => exact q Hs2 H2 (t1.trans t2))
theorem et_or3 {k k' k'' : Bool} (ha : ET X a Γ k) (hb : k = false → ET X b Γ k') (hc : k = false → k' = false → ET X c Γ k'') : ET X (.BoolOp .Or [a, b, c] pos) Γ (k || (k' || k'')) := fun H0 Hs H σ S Q q =>
  wT_of (PW.pt (pw_or (ptW X a) (pw_or (ptW X b) (pw_or1 (ptW X c))))) (ha H0 Hs H σ S _ fun Hs1 H1 t1 => by
    cases k with
    | true => exact q Hs1 H1 t1
    | false =>
      refine (hb rfl H0 Hs1 H1 σ (S.step t1) (fun z H2 => if z = true then Q true H2 else wT X c σ H2 Q) fun Hs2 H2 t2 => ?_)
      cases k' with
      | false => exact hc rfl rfl H0 Hs2 H2 σ ((S.step t1).step t2) _ fun Hs3 H3 t3 => q Hs3 H3 ((t1.trans t2).trans t3)
      | true => exact q Hs2 H2 (t1.trans t2))
/-- a or b as a value, a a bool -/
theorem ev_or2 {k k' : Bool} (ha : EV X a Γ (.bl k)) (hb : k = false → EV X b Γ (.bl k')) : EV X (.BoolOp .Or [a, b] pos) Γ (.bl (k || k')) := fun H0 Hs H σ S Q q =>
  wE_of (pe_or (peW X a) (pe_one (peW X b))) (ha H0 Hs H σ S _ fun x Hs1 H1 t1 r => ⟨k, r, by
    cases k with
    | true => exact q _ Hs1 H1 t1 rfl
    | false => exact hb rfl H0 Hs1 H1 σ (S.step t1) _ fun y Hs2 H2 t2 r2 => q y Hs2 H2 (t1.trans t2) r2⟩)
theorem ev_ifExp {k : Bool} (hc : ET X c Γ k) (ha : k = true → EV X a Γ d) (hb : k = false → EV X b Γ d) : EV X (.IfExp c a b pos) Γ d := fun H0 Hs H σ S Q q =>
  wE_of (pe_ifExp (ptW X c) (peW X a) (peW X b)) (hc H0 Hs H σ S _ fun Hs1 H1 t1 => by
    cases k with
    | true => exact ha rfl H0 Hs1 H1 σ (S.step t1) _ fun y Hs2 H2 t2 r2 => q y Hs2 H2 (t1.trans t2) r2
    | false => exact hb rfl H0 Hs1 H1 σ (S.step t1) _ fun y Hs2 H2 t2 r2 => q y Hs2 H2 (t1.trans t2) r2)
/-- a list's truth -/
theorem et_lst (hl : isLst d = true) (h : EV X a Γ d) (he : ∀ whole, isTrue a X.env whole = (do let v ← whole; standAt a.pos; holding [v] (truthy v)) := by intro _; rfl) : ET X a Γ (decide (0 < dlen d)) := fun H0 Hs H σ S Q q =>
  wT_of (pt_truth (peW X a) he) (h H0 Hs H σ S _ fun x Hs2 H2 t r => by
    obtain ⟨p, vs, ex, hq, hr⟩ := r.lst hl
    subst ex
    refine ⟨_, .inl ⟨vs, sqL_ex t.sub hq, ?_⟩, q Hs2 H2 t⟩
    rw [← hr.len]
    cases vs <;> simp)
/-! ### arguments -/
theorem ea_nil : EA X [] Γ [] := fun H0 Hs H σ S Q q => wA_of pa_nil (q [] Hs H (Stp.refl S.sub) .nil)
theorem ea_cons (ha : EV X e Γ d) (hr : EA X es Γ ds) (hs : starEach (e :: es) X.env = (false, eval e X.env) :: starEach es X.env := by rfl) : EA X (e :: es) Γ (d :: ds) := fun H0 Hs H σ S Q q =>
  wA_of (pa_cons (peW X e) (paW X es) hs) (ha H0 Hs H σ S _ fun x Hs1 H1 t1 r1 => hr H0 Hs1 H1 σ (S.step t1) _ fun vs Hs2 H2 t2 r2 => q (x :: vs) Hs2 H2 (t1.trans t2) (.cons (r1.ex t2.s) r2))
theorem p1 {K : PySem.W.Frag} {H : Hp} {vs : List V} {d : Da} (h : Paired (DR K H) vs [d]) : ∃ v, vs = [v] ∧ DR K H v d := by
  cases h with
  | cons r t => cases t; exact ⟨_, rfl, r⟩
theorem p2 {K : PySem.W.Frag} {H : Hp} {vs : List V} {d d' : Da} (h : Paired (DR K H) vs [d, d']) : ∃ v w, vs = [v, w] ∧ DR K H v d ∧ DR K H w d' := by
  cases h with
  | cons r t =>
    obtain ⟨w, rfl, r2⟩ := p1 t
    exact ⟨_, w, rfl, r, r2⟩
theorem ints_of {K : PySem.W.Frag} {H : Hp} : ∀ {vs : List V} {w : List Int}, Paired (DR K H) vs (w.map Da.int) → vs = w.map V.int
  | _, [], .nil => rfl
  | _, x :: r, .cons h t => by rw [show _ = _ from h, ints_of t]; rfl
theorem wds_of {K : PySem.W.Frag} {H : Hp} : ∀ {vs : List V} {w : List (List Int)}, Paired (DR K H) vs (w.map Da.wd) → Paired (WdR K H) vs w
  | _, [], .nil => .nil
  | _, x :: r, .cons h t => .cons h (wds_of t)
/-! ### displays -/
theorem same_upd2 {Hs H : Hp} {p : Addr} {o : HO} (h : Same Hs H) (hp : H p = none) : Stp Hs H (upd Hs p o) (upd H p o) := stp_new h hp
/-- a tuple of ints -/
theorem ev_tupI {x1 : Nat} {w : List Int} (h : EA X es Γ (w.map Da.int)) (hz : w.length ≤ 1000 := by decide) : EV X (.Tuple es x1 pos) Γ (.wd w) := fun H0 Hs H σ S Q q =>
  wE_of (pe_tup (paW X es)) (h H0 Hs H σ S _ fun vs Hs1 H1 t1 r => by
    have e := ints_of r
    subst e
    refine ⟨by rw [List.length_map]; exact Nat.le_of_lt (small1000 hz), fun p hp => q _ _ _ (t1.trans (stp_new t1.sub hp)) ⟨p, rfl, upd_same⟩⟩)
/-- a tuple of words -/
theorem ev_tupW {x1 : Nat} {w : List (List Int)} (h : EA X es Γ (w.map Da.wd)) (hz : w.length ≤ 1000 := by decide) : EV X (.Tuple es x1 pos) Γ (.tw w) := fun H0 Hs H σ S Q q =>
  wE_of (pe_tup (paW X es)) (h H0 Hs H σ S _ fun vs Hs1 H1 t1 r => by
    have e := wds_of r
    refine ⟨by rw [e.length]; exact Nat.le_of_lt (small1000 hz), fun p hp => q _ _ _ (t1.trans (stp_new t1.sub hp)) ⟨p, vs, rfl, upd_same, Paired.mapP e fun _ _ z => z.ex (Same.upd_new (sub_none t1.sub hp))⟩⟩)
/-- a pair of a word and an int -/
theorem ev_tupP {x1 : Nat} {w : List Int} {k : Int} (h : EA X es Γ [.wd w, .int k]) : EV X (.Tuple es x1 pos) Γ (.pr w k) := fun H0 Hs H σ S Q q =>
  wE_of (pe_tup (paW X es)) (h H0 Hs H σ S _ fun vs Hs1 H1 t1 r => by
    obtain ⟨v, u, rfl, r1, r2⟩ := p2 r
    have e : u = .int k := r2
    subst e
    refine ⟨by show 2 ≤ sizeLine; decide, fun p hp => q _ _ _ (t1.trans (stp_new t1.sub hp)) ⟨p, v, rfl, upd_same, WdR.ex (Same.upd_new (sub_none t1.sub hp)) r1⟩⟩)
/-- lists -/
theorem el_lst {f : List V → Hp → Prop} {d : Da} (h : EA X es Γ ds) (hr : ∀ vs Hs, Paired (DR X.K Hs) vs ds → LstR X.K Hs vs d) (hz : ds.length ≤ 1000 := by decide) : EL X (.List es pos) Γ d := fun H0 Hs H σ S Q q =>
  wE_of (pe_lst (paW X es)) (h H0 Hs H σ S _ fun vs Hs1 H1 t1 r =>
    ⟨by rw [r.length]; exact Nat.le_of_lt (small1000 hz), fun p hp => q p vs Hs1 _ (t1.trans (stp_own t1.sub hp)) (Same.free t1.h hp) (sub_none t1.sub hp) upd_same (hr _ _ r)⟩)
theorem el_lstI {w : List Int} (h : EA X es Γ (w.map Da.int)) (hz : (w.map Da.int).length ≤ 1000 := by decide) : EL X (.List es pos) Γ (.li w) := el_lst (f := fun _ _ => True) h (fun vs Hs r => ints_of r) hz
theorem el_lstW {w : List (List Int)} (h : EA X es Γ (w.map Da.wd)) (hz : (w.map Da.wd).length ≤ 1000 := by decide) : EL X (.List es pos) Γ (.lw w) := el_lst (f := fun _ _ => True) h (fun vs Hs r => wds_of r) hz
theorem el_lst1L {w : List Int} (h : EA X es Γ [.li w]) : EL X (.List es pos) Γ (.ll [w]) := el_lst (f := fun _ _ => True) h (fun vs Hs r => by
  obtain ⟨v, rfl, a, us, e1, e2, e3⟩ := p1 r
  have e3' : us = _ := e3
  subst e3'
  exact .cons ⟨a, e1, e2⟩ .nil) (by show 1 ≤ 1000; decide)
theorem el_lst1P {w : List Int} {k : Int} (h : EA X es Γ [.pr w k]) : EL X (.List es pos) Γ (.lp [(w, k)]) := el_lst (f := fun _ _ => True) h (fun vs Hs r => by
  obtain ⟨v, rfl, r'⟩ := p1 r
  exact .cons r' .nil) (by show 1 ≤ 1000; decide)
theorem el_nil {d : Da} (h : ∀ Hs, LstR X.K Hs [] d) : EL X (.List [] pos) Γ d := el_lst (f := fun _ _ => True) (ds := []) ea_nil (fun vs Hs r => by cases r; exact h Hs)
/-! ### tuples -/
theorem ev_cat {w u : List Int} (ha : EV X a Γ (.wd w)) (hb : EV X b Γ (.wd u)) (hz : w.length + u.length ≤ 1000) : EV X (.BinOp a .Add b pos) Γ (.wd (w ++ u)) := fun H0 Hs H σ S Q q =>
  wE_of (pe_op op_catA (peW X a) (peW X b)) (two ha hb S fun x y Hs2 H2 t ⟨p, e1, q1⟩ ⟨p', e2, q2⟩ => by
    refine ⟨p, p', _, _, e1, e2, sqT_ex t.sub q1, sqT_ex t.sub q2, by rw [List.length_map, List.length_map]; exact Nat.le_of_lt (small1000 hz), fun z => ?_, fun z z' => ?_, fun z z' r hr => ?_⟩
    · have e : w = [] := List.map_eq_nil_iff.mp z
      subst e
      exact q _ Hs2 H2 t ⟨p', rfl, q2⟩
    · have e : u = [] := List.map_eq_nil_iff.mp z'
      subst e
      exact q _ Hs2 H2 t ⟨p, rfl, by rw [List.append_nil]; exact q1⟩
    · refine q _ _ _ (t.trans (stp_new t.sub hr)) ⟨r, rfl, ?_⟩
      rw [upd_same, List.map_append])
theorem cut_map {w : List Int} {lo hi : Option Int} : cutV (w.map V.int) lo hi = (((w.drop (HT.sIx w.length 0 lo)).take (HT.sIx w.length w.length hi - HT.sIx w.length 0 lo))).map V.int := by
  unfold cutV
  rw [List.length_map, List.map_take, List.map_drop]
/-- t[lo:hi] -/
theorem ev_sl0 {w : List Int} {lo hi : Option Expr} {tl th : TO} {l u : Option Int} {p2 : Pos} (ha : EV X a Γ (.wd w)) (hl : PO X lo tl) (hu : PO X hi th)
    (hlo : ∀ (H0 Hs H : Hp) (σ : L2.St), St2 X.K H0 Hs H σ Γ → ∀ Q : Option Int → Hp → Prop, (∀ Hs2 H2, Stp Hs H Hs2 H2 → Q l H2) → tl σ H Q)
    (hhi : ∀ (H0 Hs H : Hp) (σ : L2.St), St2 X.K H0 Hs H σ Γ → ∀ Q : Option Int → Hp → Prop, (∀ Hs2 H2, Stp Hs H Hs2 H2 → Q u H2) → th σ H Q) :
    EV X (.Subscript a (.Slice lo hi none p2) pos) Γ (.wd ((w.drop (HT.sIx w.length 0 l)).take (HT.sIx w.length w.length u - HT.sIx w.length 0 l))) := fun H0 Hs H σ S Q q =>
  wE_of (pe_slice sl_tupA (peW X a) hl hu) (ha H0 Hs H σ S _ fun x Hs1 H1 t1 ⟨p, e1, q1⟩ => hlo H0 Hs1 H1 σ (S.step t1) _ fun Hs2 H2 t2 => hhi H0 Hs2 H2 σ ((S.step t1).step t2) _ fun Hs3 H3 t3 => by
    have t := (t1.trans t2).trans t3
    have q2 := (t2.s.trans t3.s) _ _ q1
    refine ⟨p, w.map V.int, e1, sqT_ex t.sub q2, fun z => ?_, fun z r hr => ?_⟩
    · rw [List.length_map] at z
      refine q _ Hs3 H3 t ⟨p, rfl, ?_⟩
      rw [z.1, z.2, List.drop_zero, Nat.sub_zero, List.take_length]
      exact q2
    · refine q _ _ _ (t.trans (stp_new t.sub hr)) ⟨r, rfl, ?_⟩
      rw [upd_same, cut_map])
theorem po_ev {i : Int} (h : EV X e Γ (.int i)) : ∀ (H0 Hs H : Hp) (σ : L2.St), St2 X.K H0 Hs H σ Γ → ∀ Q : Option Int → Hp → Prop, (∀ Hs2 H2, Stp Hs H Hs2 H2 → Q (some i) H2) → tPart (wE X e) σ H Q :=
  fun H0 Hs H σ S Q q => h H0 Hs H σ S _ fun x Hs2 H2 t r => ⟨i, r, q Hs2 H2 t⟩
theorem po_ev0 : ∀ (H0 Hs H : Hp) (σ : L2.St), St2 X.K H0 Hs H σ Γ → ∀ Q : Option Int → Hp → Prop, (∀ Hs2 H2, Stp Hs H Hs2 H2 → Q none H2) → tNoPart σ H Q :=
  fun H0 Hs H σ S Q q => q Hs H (Stp.refl S.sub)
theorem sIx_pos {n d : Nat} {i : Int} (h : 0 ≤ i) : HT.sIx n d (some i) = min i.toNat n := by
  show (if i < 0 then (i + (n : Int)).toNat else min i.toNat n) = _
  rw [if_neg (by omega)]
theorem cut_from {w : List Int} {i : Int} (h : 0 ≤ i) : ((w.drop (HT.sIx w.length 0 (some i))).take (HT.sIx w.length w.length none - HT.sIx w.length 0 (some i))) = w.drop i.toNat := by
  rw [sIx_pos h, HT.sIx_none]
  by_cases hi : i.toNat ≤ w.length
  · rw [Nat.min_eq_left hi, List.take_of_length_le (by rw [List.length_drop]; omega)]
  · rw [Nat.min_eq_right (by omega), List.drop_length, List.take_nil, List.drop_of_length_le (by omega)]
theorem cut_to {w : List Int} {i : Int} (h : 0 ≤ i) : ((w.drop (HT.sIx w.length 0 none)).take (HT.sIx w.length w.length (some i) - HT.sIx w.length 0 none)) = w.take i.toNat := by
  rw [sIx_pos h, HT.sIx_none, List.drop_zero, Nat.sub_zero]
  by_cases hi : i.toNat ≤ w.length
  · rw [Nat.min_eq_left hi]
  · rw [Nat.min_eq_right (by omega), List.take_length, List.take_of_length_le (by omega)]
theorem ev_from {w : List Int} {p2 : Pos} (ha : EV X a Γ (.wd w)) (hb : EV X b Γ (.int i)) (h0 : 0 ≤ i) : EV X (.Subscript a (.Slice (some b) none none p2) pos) Γ (.wd (w.drop i.toNat)) :=
  ev_cast (ev_sl0 ha (po_some (peW X b)) po_none (po_ev hb) po_ev0) (by rw [cut_from h0])
theorem ev_to {w : List Int} {p2 : Pos} (ha : EV X a Γ (.wd w)) (hb : EV X b Γ (.int i)) (h0 : 0 ≤ i) : EV X (.Subscript a (.Slice none (some b) none p2) pos) Γ (.wd (w.take i.toNat)) :=
  ev_cast (ev_sl0 ha po_none (po_some (peW X b)) po_ev0 (po_ev hb)) (by rw [cut_to h0])
/-- a list of ints sliced -/
theorem el_slI {w : List Int} {lo hi : Option Expr} {tl th : TO} {l u : Option Int} {p2 : Pos} (ha : EV X a Γ (.li w)) (hl : PO X lo tl) (hu : PO X hi th)
    (hlo : ∀ (H0 Hs H : Hp) (σ : L2.St), St2 X.K H0 Hs H σ Γ → ∀ Q : Option Int → Hp → Prop, (∀ Hs2 H2, Stp Hs H Hs2 H2 → Q l H2) → tl σ H Q)
    (hhi : ∀ (H0 Hs H : Hp) (σ : L2.St), St2 X.K H0 Hs H σ Γ → ∀ Q : Option Int → Hp → Prop, (∀ Hs2 H2, Stp Hs H Hs2 H2 → Q u H2) → th σ H Q) :
    EL X (.Subscript a (.Slice lo hi none p2) pos) Γ (.li ((w.drop (HT.sIx w.length 0 l)).take (HT.sIx w.length w.length u - HT.sIx w.length 0 l))) := fun H0 Hs H σ S Q q =>
  wE_of (pe_slice sl_list (peW X a) hl hu) (ha H0 Hs H σ S _ fun x Hs1 H1 t1 ⟨p, vs, e1, q1, e2⟩ => hlo H0 Hs1 H1 σ (S.step t1) _ fun Hs2 H2 t2 => hhi H0 Hs2 H2 σ ((S.step t1).step t2) _ fun Hs3 H3 t3 => by
    have t := (t1.trans t2).trans t3
    have e2' : vs = w.map V.int := e2
    subst e2'
    have q2 := sqL_ex (t2.s.trans t3.s) q1
    refine ⟨p, w.map V.int, e1, sqL_ex t.sub q2, fun r hr => q r _ Hs3 _ (t.trans (stp_own t.sub hr)) (Same.free t.h hr) (sub_none t.sub hr) upd_same cut_map⟩)
theorem el_from {w : List Int} {p2 : Pos} (ha : EV X a Γ (.li w)) (hb : EV X b Γ (.int i)) (h0 : 0 ≤ i) : EL X (.Subscript a (.Slice (some b) none none p2) pos) Γ (.li (w.drop i.toNat)) :=
  el_cast (el_slI ha (po_some (peW X b)) po_none (po_ev hb) po_ev0) (by rw [cut_from h0])
theorem el_to {w : List Int} {p2 : Pos} (ha : EV X a Γ (.li w)) (hb : EV X b Γ (.int i)) (h0 : 0 ≤ i) : EL X (.Subscript a (.Slice none (some b) none p2) pos) Γ (.li (w.take i.toNat)) :=
  el_cast (el_slI ha po_none (po_some (peW X b)) po_ev0 (po_ev hb)) (by rw [cut_to h0])
/-! ### items -/
theorem atI_of {α : Type} {xs : List α} {i : Int} {v : α} (h0 : 0 ≤ i) (h : xs[i.toNat]? = some v) : atI xs i = some v := by
  have := atI_nat h
  rw [show ((i.toNat : Nat) : Int) = i by omega] at this
  exact this
theorem getD_map {w : List Int} {k : Nat} (h : k < w.length) : (w.map V.int)[k]? = some (.int (w.getD k 0)) := by
  rw [List.getElem?_map, List.getElem?_eq_getElem h, List.getD_eq_getElem?_getD, List.getElem?_eq_getElem h]
  rfl
theorem ev_ixW {w : List Int} (ha : EV X a Γ (.wd w)) (hb : EV X b Γ (.int i)) (h0 : 0 ≤ i) (h1 : i < w.length) (hp : PlainIx b := by exact fun _ _ => rfl) : EV X (.Subscript a b pos) Γ (.int (w.getD i.toNat 0)) := fun H0 Hs H σ S Q q =>
  wE_of (pe_ix ix_tup (peW X a) (peW X b) hp) (two ha hb S fun x y Hs2 H2 t ⟨p, e1, q1⟩ r2 =>
    ⟨p, _, i, _, e1, r2, sqT_ex t.sub q1, atI_of h0 (getD_map (by omega)), q _ Hs2 H2 t rfl⟩)
theorem ev_ixT {ws : List (List Int)} {w : List Int} (ha : EV X a Γ (.tw ws)) (hb : EV X b Γ (.int i)) (h0 : 0 ≤ i) (h1 : ws[i.toNat]? = some w) (hp : PlainIx b := by exact fun _ _ => rfl) : EV X (.Subscript a b pos) Γ (.wd w) := fun H0 Hs H σ S Q q =>
  wE_of (pe_ix ix_tup (peW X a) (peW X b) hp) (two ha hb S fun x y Hs2 H2 t ⟨p, vs, e1, q1, q3⟩ r2 => by
    obtain ⟨v, hv, rv⟩ := pget1 q3 h1
    exact ⟨p, _, i, _, e1, r2, sqT_ex t.sub q1, atI_of h0 hv, q v Hs2 H2 t rv⟩)
theorem ev_ixP {w : List Int} {k : Int} {p3 : Pos} {j : Nat} (ha : EV X a Γ (.pr w k)) (hp : PlainIx (.Constant (.int 0) j p3) := by exact fun _ _ => rfl) : EV X (.Subscript a (.Constant (.int 0) j p3) pos) Γ (.wd w) := fun H0 Hs H σ S Q q =>
  wE_of (pe_ix ix_tup (peW X a) (peW X _) hp) (two ha ev_int S fun x y Hs2 H2 t ⟨p, u, e1, q1, q3⟩ r2 =>
    ⟨p, _, 0, u, e1, r2, sqT_ex t.sub q1, rfl, q u Hs2 H2 t q3⟩)
theorem ev_ixL {d' : Da} (hl : isLst d = true) (ha : EV X a Γ d) (hb : EV X b Γ (.int i)) (h0 : 0 ≤ i) (h1 : item d i.toNat = some d') (hp : PlainIx b := by exact fun _ _ => rfl) : EV X (.Subscript a b pos) Γ d' := fun H0 Hs H σ S Q q =>
  wE_of (pe_ix ix_list (peW X a) (peW X b) hp) (two ha hb S fun x y Hs2 H2 t r1 r2 => by
    obtain ⟨p, vs, e1, q1, q3⟩ := r1.lst hl
    obtain ⟨v, hv, rv⟩ := q3.get h1
    exact ⟨p, vs, i, v, e1, r2, sqL_ex t.sub q1, atI_of h0 hv, q v Hs2 H2 t rv⟩)
/-- an own list's item -/
theorem ev_ixOwn (k : Nat) {x : Str} {px : Pos} {d' : Da} (h : Γ[k]? = some (.own d)) (hb : EV X b Γ (.int i)) (h0 : 0 ≤ i) (h1 : item d i.toNat = some d') (hN : X.N[k]? = some x := by rfl)
    (hv : Vis X.env.scope x := by first | exact Or.inl rfl | exact Or.inr (Or.inl rfl) | exact Or.inr (Or.inr rfl)) (hd : (x == ("__debug__" : Str)) = false := by decide) (hcd : (x == ("__classdict__" : Str)) = false := by decide)
    (hp : PlainIx b := by exact fun _ _ => rfl) : EV X (.Subscript (.Name x px) b pos) Γ d' := fun H0 Hs H σ S Q q => by
  obtain ⟨p, vs, e, n0, ns, hh, r⟩ := S.ownAt h
  refine wE_of (pe_ix ix_list (pe_var hN hv hd hcd) (peW X b) hp) ⟨_, e, hb H0 Hs H σ S _ fun y Hs2 H2 t r2 => ?_⟩
  obtain ⟨v, hv, rv⟩ := r.get h1
  exact ⟨p, vs, i, v, rfl, r2, .inl (.inl (t.h _ _ hh)), atI_of h0 hv, q v Hs2 H2 t (rv.ex t.s)⟩
/-- .. the last one: rows[-1] -/
theorem ev_lastOwn (k : Nat) {x : Str} {px p3 p4 : Pos} {j : Nat} {d' : Da} (h : Γ[k]? = some (.own d)) (h0 : 0 < dlen d) (h1 : item d (dlen d - 1) = some d') (hN : X.N[k]? = some x := by rfl)
    (hv : Vis X.env.scope x := by first | exact Or.inl rfl | exact Or.inr (Or.inl rfl) | exact Or.inr (Or.inr rfl)) (hd : (x == ("__debug__" : Str)) = false := by decide) (hcd : (x == ("__classdict__" : Str)) = false := by decide)
    (hp : PlainIx (.UnaryOp .USub (.Constant (.int 1) j p3) p4) := by exact fun _ _ => rfl) : EV X (.Subscript (.Name x px) (.UnaryOp .USub (.Constant (.int 1) j p3) p4) pos) Γ d' := fun H0 Hs H σ S Q q => by
  obtain ⟨p, vs, e, n0, ns, hh, r⟩ := S.ownAt h
  refine wE_of (pe_ix ix_list (pe_var hN hv hd hcd) (peW X _) hp) ⟨_, e, ev_neg ev_int H0 Hs H σ S _ fun y Hs2 H2 t r2 => ?_⟩
  obtain ⟨v, hv, rv⟩ := r.get h1
  refine ⟨p, vs, -1, v, rfl, r2, .inl (.inl (t.h _ _ hh)), ?_, q v Hs2 H2 t (rv.ex t.s)⟩
  unfold atI ixN
  rw [if_neg (by decide), r.len, if_pos (by omega)]
  show vs[(-1 + (dlen d : Int)).toNat]? = some v
  rw [show (-1 + (dlen d : Int)).toNat = dlen d - 1 by omega]
  exact hv
/-! ### calls of built-ins -/
theorem ev_cb {f id : Str} {p0 : Pos} {r : List V → Hp → VK → Prop} {idS : String} (hc : CallR X (.builtin idS) r) (hm : X.mg f = none) (hv : bootBuiltins f = some (.builtin idS)) (ha : EA X (e :: es) Γ ds)
    (hq : ∀ vs Hs H Q, Same Hs H → Paired (DR X.K Hs) vs ds → (∀ v Hs2 H2, Stp Hs H Hs2 H2 → DR X.K Hs2 v d → Q v H2) → r vs H Q)
    (hg : Gl X f := by rfl) (hn : f ≠ "__name__" := by decide) (hdb : (f == ("__debug__" : Str)) = false := by decide) (he : starEach (e :: es) X.env = (false, eval e X.env) :: starEach es X.env := by rfl) (hpl : (backTo pos (starEach es X.env)).any (·.1) = false := by rfl) :
    EV X (.Call (.Name f p0) (e :: es) [] pos) Γ d := fun H0 Hs H σ S Q q =>
  wE_of (pe_callB hc hg hm hv (paW X (e :: es)) hn hdb he hpl) (ha H0 Hs H σ S _ fun vs Hs2 H2 t r => hq vs Hs2 H2 Q t.sub r fun v Hs3 H3 t3 r3 => q v Hs3 H3 (t.trans t3) r3)
theorem ev_cty {f : Str} {p0 : Pos} {r : List V → Hp → VK → Prop} {idS : String} (hc : CallR X (.type idS) r) (hm : X.mg f = none) (hv : bootBuiltins f = some (.type idS)) (ha : EA X (e :: es) Γ ds)
    (hq : ∀ vs Hs H Q, Same Hs H → Paired (DR X.K Hs) vs ds → (∀ v Hs2 H2, Stp Hs H Hs2 H2 → DR X.K Hs2 v d → Q v H2) → r vs H Q)
    (hg : Gl X f := by rfl) (hn : f ≠ "__name__" := by decide) (hdb : (f == ("__debug__" : Str)) = false := by decide) (he : starEach (e :: es) X.env = (false, eval e X.env) :: starEach es X.env := by rfl) (hpl : (backTo pos (starEach es X.env)).any (·.1) = false := by rfl) :
    EV X (.Call (.Name f p0) (e :: es) [] pos) Γ d := fun H0 Hs H σ S Q q =>
  wE_of (pe_callTy hc hg hm hv (paW X (e :: es)) hn hdb he hpl) (ha H0 Hs H σ S _ fun vs Hs2 H2 t r => hq vs Hs2 H2 Q t.sub r fun v Hs3 H3 t3 r3 => q v Hs3 H3 (t.trans t3) r3)
/-- a list or tuple of n items is to be read -/
def isSeq : Da → Bool
  | .wd _ => true
  | .tw _ => true
  | d => isLst d
theorem DR.seq {K : PySem.W.Frag} {H : Hp} {v : V} (hs : isSeq d = true) (r : DR K H v d) : ∃ p xs, v = .ref p ∧ (SqL K H p xs ∨ SqT K H p xs) ∧ xs.length = dlen d := by
  cases d with
  | wd w => obtain ⟨p, e, q⟩ := r; exact ⟨p, _, e, .inr (.of q), by rw [List.length_map]; rfl⟩
  | tw ws => obtain ⟨p, vs, e, q, z⟩ := r; exact ⟨p, vs, e, .inr (.of q), z.length⟩
  | li ns => obtain ⟨p, vs, e, q, z⟩ := r; exact ⟨p, vs, e, .inl q, z.len⟩
  | lw ns => obtain ⟨p, vs, e, q, z⟩ := r; exact ⟨p, vs, e, .inl q, z.len⟩
  | ll ns => obtain ⟨p, vs, e, q, z⟩ := r; exact ⟨p, vs, e, .inl q, z.len⟩
  | lp ns => obtain ⟨p, vs, e, q, z⟩ := r; exact ⟨p, vs, e, .inl q, z.len⟩
  | _ => cases hs
theorem ev_len {p0 : Pos} (hm : X.mg "len" = none) (hs : isSeq d = true) (ha : EV X e Γ d) (hg : Gl X "len" := by rfl) (he : starEach [e] X.env = (false, eval e X.env) :: starEach [] X.env := by rfl) :
    EV X (.Call (.Name "len" p0) [e] [] pos) Γ (.int (dlen d)) :=
  ev_cb (id := "len") call_len_seq hm boot_len (ea_cons ha ea_nil he) (fun vs Hs H Q sub r q => by
    obtain ⟨v, rfl, r'⟩ := p1 r
    obtain ⟨p, xs, rfl, z, hl⟩ := DR.seq hs r'
    refine ⟨p, xs, rfl, z.imp (sqL_ex sub) (sqT_ex' sub), ?_⟩
    rw [hl]
    exact q _ Hs H (Stp.refl sub) rfl) hg (he := he)
theorem boot_abs' : bootBuiltins "abs" = some (.builtin "abs") := by decide +kernel
theorem boot_max' : bootBuiltins "max" = some (.builtin "max") := by decide +kernel
theorem boot_min' : bootBuiltins "min" = some (.builtin "min") := by decide +kernel
theorem boot_int' : bootBuiltins "int" = some (.type "int") := by decide +kernel
theorem boot_tuple' : bootBuiltins "tuple" = some (.type "tuple") := by decide +kernel
theorem boot_list' : bootBuiltins "list" = some (.type "list") := by decide +kernel
theorem boot_isi' : bootBuiltins "isinstance" = some (.builtin "isinstance") := by decide +kernel
theorem boot_sum' : bootBuiltins "sum" = some (.builtin "sum") := by decide +kernel
theorem boot_divmod' : bootBuiltins "divmod" = some (.builtin "divmod") := by decide +kernel
theorem boot_repr' : bootBuiltins "repr" = some (.builtin "repr") := by decide +kernel
theorem boot_sorted' : bootBuiltins "sorted" = some (.builtin "sorted") := by decide +kernel
theorem ev_abs {p0 : Pos} (hm : X.mg "abs" = none) (ha : EV X e Γ (.int i)) (hg : Gl X "abs" := by rfl) (he : starEach [e] X.env = (false, eval e X.env) :: starEach [] X.env := by rfl) :
    EV X (.Call (.Name "abs" p0) [e] [] pos) Γ (.int (if i < 0 then -i else i)) :=
  ev_cb (id := "abs") call_abs hm boot_abs' (ea_cons ha ea_nil he) (fun vs Hs H Q sub r q => by
    obtain ⟨v, rfl, r'⟩ := p1 r
    have e : v = .int i := r'
    subst e
    exact ⟨i, rfl, q _ Hs H (Stp.refl sub) rfl⟩) hg (he := he)
theorem ev_intOf {p0 : Pos} (hm : X.mg "int" = none) (ha : EV X e Γ (.int i)) (hg : Gl X "int" := by rfl) (he : starEach [e] X.env = (false, eval e X.env) :: starEach [] X.env := by rfl) :
    EV X (.Call (.Name "int" p0) [e] [] pos) Γ (.int i) :=
  ev_cty call_int1 hm boot_int' (ea_cons ha ea_nil he) (fun vs Hs H Q sub r q => by
    obtain ⟨v, rfl, r'⟩ := p1 r
    have e : v = .int i := r'
    subst e
    exact .inl ⟨i, rfl, q _ Hs H (Stp.refl sub) rfl⟩) hg (he := he)
theorem ev_max {p0 : Pos} (hc : X.calm = true) (hm : X.mg "max" = none) (ha : EV X a Γ (.int i)) (hb : EV X b Γ (.int j)) (hg : Gl X "max" := by rfl) (he : starEach [a, b] X.env = (false, eval a X.env) :: starEach [b] X.env := by rfl)
    (he2 : starEach [b] X.env = (false, eval b X.env) :: starEach [] X.env := by rfl) (hpl : (backTo pos (starEach [b] X.env)).any (·.1) = false := by rfl) :
    EV X (.Call (.Name "max" p0) [a, b] [] pos) Γ (.int (if j > i then j else i)) :=
  ev_cb (id := "max") (call_max2 hc) hm boot_max' (ea_cons ha (ea_cons hb ea_nil he2) he) (fun vs Hs H Q sub r q => by
    obtain ⟨v, w, rfl, r1, r2⟩ := p2 r
    have e : v = .int i := r1
    have e2 : w = .int j := r2
    subst e e2
    exact ⟨i, j, rfl, q _ Hs H (Stp.refl sub) rfl⟩) hg (he := he) (hpl := hpl)
theorem ev_min {p0 : Pos} (hc : X.calm = true) (hm : X.mg "min" = none) (ha : EV X a Γ (.int i)) (hb : EV X b Γ (.int j)) (hg : Gl X "min" := by rfl) (he : starEach [a, b] X.env = (false, eval a X.env) :: starEach [b] X.env := by rfl)
    (he2 : starEach [b] X.env = (false, eval b X.env) :: starEach [] X.env := by rfl) (hpl : (backTo pos (starEach [b] X.env)).any (·.1) = false := by rfl) :
    EV X (.Call (.Name "min" p0) [a, b] [] pos) Γ (.int (if j < i then j else i)) :=
  ev_cb (id := "min") (call_min2 hc) hm boot_min' (ea_cons ha (ea_cons hb ea_nil he2) he) (fun vs Hs H Q sub r q => by
    obtain ⟨v, w, rfl, r1, r2⟩ := p2 r
    have e : v = .int i := r1
    have e2 : w = .int j := r2
    subst e e2
    exact ⟨i, j, rfl, q _ Hs H (Stp.refl sub) rfl⟩) hg (he := he) (hpl := hpl)
/-- sum of a list of ints -/
theorem ev_sumL {p0 : Pos} {ns : List Int} (hc : X.calm = true) (hm : X.mg "sum" = none) (ha : EV X e Γ (.li ns)) (hg : Gl X "sum" := by rfl) (he : starEach [e] X.env = (false, eval e X.env) :: starEach [] X.env := by rfl) :
    EV X (.Call (.Name "sum" p0) [e] [] pos) Γ (.int ns.sum) :=
  ev_cb (id := "sum") (cr_sum hc) hm boot_sum' (ea_cons ha ea_nil he) (fun vs Hs H Q sub r q => by
    obtain ⟨v, rfl, p, us, e1, e2, e3⟩ := p1 r
    have e3' : us = ns.map V.int := e3
    subst e3' e1
    exact ⟨p, ns, rfl, sqL_ex sub e2, q _ Hs H (Stp.refl sub) rfl⟩) hg (he := he)
/-- tuple(word) is the word -/
theorem ev_tupleW {p0 : Pos} {w : List Int} (hm : X.mg "tuple" = none) (ha : EV X e Γ (.wd w)) (hg : Gl X "tuple" := by rfl) (he : starEach [e] X.env = (false, eval e X.env) :: starEach [] X.env := by rfl) :
    EV X (.Call (.Name "tuple" p0) [e] [] pos) Γ (.wd w) :=
  ev_cty call_tuple_of hm boot_tuple' (ea_cons ha ea_nil he) (fun vs Hs H Q sub r q => by
    obtain ⟨v, rfl, p, e1, e2⟩ := p1 r
    subst e1
    exact ⟨p, _, rfl, .inr ⟨sqT_ex sub e2, q _ Hs H (Stp.refl sub) ⟨p, rfl, e2⟩⟩⟩) hg (he := he)
theorem ev_tupleL {p0 : Pos} {w : List Int} (hm : X.mg "tuple" = none) (ha : EV X e Γ (.li w)) (hg : Gl X "tuple" := by rfl) (he : starEach [e] X.env = (false, eval e X.env) :: starEach [] X.env := by rfl) :
    EV X (.Call (.Name "tuple" p0) [e] [] pos) Γ (.wd w) :=
  ev_cty call_tuple_of hm boot_tuple' (ea_cons ha ea_nil he) (fun vs Hs H Q sub r q => by
    obtain ⟨v, rfl, p, us, e1, e2, e3⟩ := p1 r
    have e3' : us = w.map V.int := e3
    subst e3' e1
    exact ⟨p, _, rfl, .inl ⟨sqL_ex sub e2, fun l hl => q _ _ _ (stp_new sub hl) ⟨l, rfl, upd_same⟩⟩⟩) hg (he := he)
theorem ev_tupleLW {p0 : Pos} {ws : List (List Int)} (hm : X.mg "tuple" = none) (ha : EV X e Γ (.lw ws)) (hg : Gl X "tuple" := by rfl) (he : starEach [e] X.env = (false, eval e X.env) :: starEach [] X.env := by rfl) :
    EV X (.Call (.Name "tuple" p0) [e] [] pos) Γ (.tw ws) :=
  ev_cty call_tuple_of hm boot_tuple' (ea_cons ha ea_nil he) (fun vs Hs H Q sub r q => by
    obtain ⟨v, rfl, p, us, e1, e2, e3⟩ := p1 r
    subst e1
    exact ⟨p, _, rfl, .inl ⟨sqL_ex sub e2, fun l hl => q _ _ _ (stp_new sub hl) ⟨l, us, rfl, upd_same, Paired.mapP (show Paired (WdR X.K Hs) us ws from e3) fun _ _ z => z.ex (Same.upd_new (sub_none sub hl))⟩⟩⟩) hg (he := he)
/-- a call that gives a new list -/
theorem el_cty {f : Str} {p0 : Pos} {r : List V → Hp → VK → Prop} {idS : String} (hc : CallR X (.type idS) r) (hm : X.mg f = none) (hv : bootBuiltins f = some (.type idS)) (ha : EA X (e :: es) Γ ds)
    (hq : ∀ vs Hs H Q, Same Hs H → Paired (DR X.K Hs) vs ds → (∀ p us, H p = none → LstR X.K Hs us d → Q (.ref p) (upd H p (.lst us))) → r vs H Q)
    (hg : Gl X f := by rfl) (hn : f ≠ "__name__" := by decide) (hdb : (f == ("__debug__" : Str)) = false := by decide) (he : starEach (e :: es) X.env = (false, eval e X.env) :: starEach es X.env := by rfl) (hpl : (backTo pos (starEach es X.env)).any (·.1) = false := by rfl) :
    EL X (.Call (.Name f p0) (e :: es) [] pos) Γ d := fun H0 Hs H σ S Q q =>
  wE_of (pe_callTy hc hg hm hv (paW X (e :: es)) hn hdb he hpl) (ha H0 Hs H σ S _ fun vs Hs2 H2 t r => hq vs Hs2 H2 Q t.sub r fun p us hp hr => q p us Hs2 _ (t.trans (stp_own t.sub hp)) (Same.free t.h hp) (sub_none t.sub hp) upd_same hr)
/-- list(xs) of a list or a tuple -/
def listOf : Da → Option Da
  | .wd w => some (.li w)
  | .tw w => some (.lw w)
  | .li w => some (.li w)
  | .lw w => some (.lw w)
  | .lp w => some (.lp w)
  | _ => none
theorem el_list {p0 : Pos} {d' : Da} (hm : X.mg "list" = none) (ha : EV X e Γ d) (hd : listOf d = some d') (hg : Gl X "list" := by rfl) (he : starEach [e] X.env = (false, eval e X.env) :: starEach [] X.env := by rfl) :
    EL X (.Call (.Name "list" p0) [e] [] pos) Γ d' :=
  el_cty call_list_of hm boot_list' (ea_cons ha ea_nil he) (fun vs Hs H Q sub r q => by
    obtain ⟨v, rfl, r'⟩ := p1 r
    cases d <;> first
      | (cases hd; done)
      | (injection hd with hd; subst hd
         first
         | (obtain ⟨p, e1, e2⟩ := r'
            subst e1
            exact ⟨p, _, rfl, .inr (sqT_ex sub e2), fun l hl => q l _ hl rfl⟩)
         | (obtain ⟨p, us, e1, e2, e3⟩ := r'
            subst e1
            first
            | exact ⟨p, _, rfl, .inr (sqT_ex sub e2), fun l hl => q l _ hl e3⟩
            | exact ⟨p, _, rfl, .inl (sqL_ex sub e2), fun l hl => q l _ hl e3⟩))) hg (he := he)
/-- a list times an int -/
theorem el_rep {k : Int} {j2 : Nat} {p3 p4 : Pos} (hb : EV X b Γ (.int i)) (h0 : 0 ≤ i) (h1 : i ≤ 1000) : EL X (.BinOp (.List [.Constant (.int k) j2 p3] p4) .Mult b pos) Γ (.li (List.replicate i.toNat k)) := fun H0 Hs H σ S Q q =>
  wE_of (pe_op op_rep (peW X _) (peW X b)) (el_lstI (w := [k]) (ea_cons ev_int ea_nil) (by show 1 ≤ 1000; decide) H0 Hs H σ S _ fun p vs Hs1 H1 t1 hp hs hh r => hb H0 Hs1 H1 σ (S.step t1) _ fun y Hs2 H2 t2 r2 => by
    have e : vs = [V.int k] := r
    subst e
    refine ⟨p, i, _, rfl, r2, t2.h _ _ hh, by omega, by omega, ?_, fun l hl => q l _ Hs2 _ ((t1.trans t2).trans (stp_own t2.sub hl)) (Same.free (t1.trans t2).h hl) (sub_none t2.sub hl) upd_same ?_⟩
    · show 1 * i.toNat ≤ sizeLine
      exact Nat.le_of_lt (small1000 (by omega))
    · show (List.replicate i.toNat [V.int k]).flatten = (List.replicate i.toNat k).map V.int
      rw [List.map_replicate]
      exact List.flatten_replicate_singleton)
/-- two lists joined -/
theorem el_catW {w u : List (List Int)} (ha : EL X a Γ (.lw w)) (hb : EL X b Γ (.lw u)) (hz : w.length + u.length ≤ 1000) : EL X (.BinOp a .Add b pos) Γ (.lw (w ++ u)) := fun H0 Hs H σ S Q q =>
  wE_of (pe_op op_cat (peW X a) (peW X b)) (ha H0 Hs H σ S _ fun p vs Hs1 H1 t1 hp hs hh r1 => hb H0 Hs1 H1 σ (S.step t1) _ fun p' us Hs2 H2 t2 hp' hs' hh' r2 => by
    refine ⟨p, p', vs, us, rfl, rfl, t2.h _ _ hh, hh', ?_, fun l hl => q l _ Hs2 _ ((t1.trans t2).trans (stp_own t2.sub hl)) (Same.free (t1.trans t2).h hl) (sub_none t2.sub hl) upd_same ?_⟩
    · rw [r1.len, r2.len]
      exact Nat.le_of_lt (small1000 hz)
    · exact papp (show Paired (WdR X.K Hs2) vs w from LstR.ex (d := .lw w) t2.s r1) r2)
/-- list + list, the first one any list that is tracked: a name -/
theorem rd_lst {K : PySem.W.Frag} {H : Hp} : True := trivial
end
end K54

set_option Elab.async false
set_option linter.all false
set_option maxRecDepth 100000
set_option maxHeartbeats 4000000
/-! J3: statements, defs. -/
namespace K54
open PySem PySem.Spec PyProof.Rows L2

/-- what is wanted behind a statement, by data -/
structure Pst where
  nx : List Ent → Prop
  rt : Da → Prop
  bk : List Ent → Prop := fun _ => False
  ct : List Ent → Prop := fun _ => False
def AtD (K : PySem.W.Frag) (Hs0 H0 : Hp) (P : List Ent → Prop) : L2.St → Hp → Prop := fun σ H => ∃ Hs Γ, Stp Hs0 H0 Hs H ∧ St2 K H0 Hs H σ Γ ∧ P Γ
def ends (K : PySem.W.Frag) (Hs0 H0 : Hp) (P : Pst) : Ends where
  nx := AtD K Hs0 H0 P.nx
  rt := fun v H => ∃ Hs d, Stp Hs0 H0 Hs H ∧ DR K Hs v d ∧ P.rt d
  bk := AtD K Hs0 H0 P.bk
  ct := AtD K Hs0 H0 P.ct
def BD (X : Cx) (sts : List Stmt) (Γ : List Ent) (P : Pst) : Prop := ∀ (Hs0 H0 Hs H : Hp) (σ : L2.St), Stp Hs0 H0 Hs H → St2 X.K H0 Hs H σ Γ → wB X sts (ends X.K Hs0 H0 P) σ H
def SD (X : Cx) (st : Stmt) (Γ : List Ent) (P : Pst) : Prop := ∀ (Hs0 H0 Hs H : Hp) (σ : L2.St), Stp Hs0 H0 Hs H → St2 X.K H0 Hs H σ Γ → wS X st (ends X.K Hs0 H0 P) σ H
section
variable {X : Cx} {a b c e o : Expr} {es : List Expr} {st : Stmt} {sts rest : List Stmt} {Γ Γ' : List Ent} {pos : Pos} {d d1 d2 : Da} {ds : List Da} {i j : Int} {P : Pst}

theorem AtD.mono {K : PySem.W.Frag} {Hs0 H0 : Hp} {p q : List Ent → Prop} (h : ∀ Γ, p Γ → q Γ) {σ : L2.St} {H : Hp} (z : AtD K Hs0 H0 p σ H) : AtD K Hs0 H0 q σ H := let ⟨Hs, Γ, a, b, c⟩ := z; ⟨Hs, Γ, a, b, h Γ c⟩
theorem bd_nil (w : Weak Γ Γ') (h : P.nx Γ') : BD X [] Γ P := fun Hs0 H0 Hs H σ t S => wB_of pss_nil ⟨Hs, Γ', t, S.weak w, h⟩
theorem bd_cons (h : SD X st Γ { P with nx := fun Γ' => BD X rest Γ' P }) : BD X (st :: rest) Γ P := fun Hs0 H0 Hs H σ t S =>
  wB_cons (wS_le (D := ends X.K Hs0 H0 { P with nx := fun Γ' => BD X rest Γ' P }) (D' := { (ends X.K Hs0 H0 P) with nx := wB X rest (ends X.K Hs0 H0 P) }) ⟨fun σ' H' ⟨Hs', Γ', t', S', q⟩ => q Hs0 H0 Hs' H' σ' t' S', fun _ _ q => q, fun _ _ q => q, fun _ _ q => q⟩ (h Hs0 H0 Hs H σ t S))
theorem bd_weak (w : Weak Γ Γ') (h : BD X sts Γ' P) : BD X sts Γ P := fun Hs0 H0 Hs H σ t S => h Hs0 H0 Hs H σ t (S.weak w)
theorem bd_one (h : SD X st Γ P) : BD X [st] Γ P := bd_cons (fun Hs0 H0 Hs H σ t S => wS_le (D := ends X.K Hs0 H0 P) (D' := ends X.K Hs0 H0 { P with nx := fun Γ' => BD X [] Γ' P }) ⟨fun σ' H' ⟨Hs', Γ', t', S', q⟩ => ⟨Hs', Γ', t', S', bd_nil (Weak.refl _) q⟩, fun _ _ q => q, fun _ _ q => q, fun _ _ q => q⟩ (h Hs0 H0 Hs H σ t S))
theorem bd_le {P' : Pst} (h : BD X sts Γ P) (l1 : ∀ Γ, P.nx Γ → P'.nx Γ) (l2 : ∀ d, P.rt d → P'.rt d) (l3 : ∀ Γ, P.bk Γ → P'.bk Γ) (l4 : ∀ Γ, P.ct Γ → P'.ct Γ) : BD X sts Γ P' := fun Hs0 H0 Hs H σ t S =>
  wB_le (D := ends X.K Hs0 H0 P) (D' := ends X.K Hs0 H0 P') ⟨fun _ _ q => AtD.mono l1 q, fun _ _ ⟨Hs, d, a, b, c⟩ => ⟨Hs, d, a, b, l2 d c⟩, fun _ _ q => AtD.mono l3 q, fun _ _ q => AtD.mono l4 q⟩ (h Hs0 H0 Hs H σ t S)
/-- name = e -/
theorem sd_set (i : Nat) {x : Str} {p' : Pos} (he : EV X e Γ d) (h : P.nx (Γ.set i (.val d))) (hN : X.N.Nodup) (hi : X.N[i]? = some x := by rfl) (hx : Loc X.env.scope x := by first | exact Or.inl rfl | exact Or.inr rfl)
    (hs : swapsWith e (some (.Name x p')) pos.line X.env = pure false := by rfl) (hf : X.fn x = true ∨ X.env.scope.names.lookup x = some .local := by first | exact .inl rfl | exact .inr rfl) : SD X (.Assign [.Name x p'] e pos) Γ P := fun Hs0 H0 Hs H σ t S =>
  wS_of (ps_set hN hi hx (peW X e) hs hf) (he H0 Hs H σ S _ fun v Hs2 H2 t2 r => ⟨Hs2, _, t.trans t2, (S.step t2).set i r, h⟩)
/-- name = a new list, one's own -/
theorem own_new {K : PySem.W.Frag} {H0 Hs H Hs2 H2 : Hp} {σ : L2.St} {p : Addr} {e' : Ent} (S : St2 K H0 Hs H σ Γ) (hp : H p = none) : ∀ (j : Nat) (f : Ent) (b : Addr), j ≠ i' → Γ[j]? = some f → f.isOwn = true → σ[j]? = some (some (.ref b)) → p ≠ b := fun j f b _ h1 h2 h3 z => by
  subst z
  obtain ⟨a, e1, _, _, e4⟩ := (S.ent j f _ h1 h3).addr h2
  cases e1
  exact e4 hp
theorem sd_setOwn (i : Nat) {x : Str} {p' : Pos} (he : EL X e Γ d) (h : P.nx (Γ.set i (.own d))) (hN : X.N.Nodup) (hi : X.N[i]? = some x := by rfl) (hx : Loc X.env.scope x := by first | exact Or.inl rfl | exact Or.inr rfl)
    (hs : swapsWith e (some (.Name x p')) pos.line X.env = pure false := by rfl) (hf : X.fn x = true ∨ X.env.scope.names.lookup x = some .local := by first | exact .inl rfl | exact .inr rfl) : SD X (.Assign [.Name x p'] e pos) Γ P := fun Hs0 H0 Hs H σ t S =>
  wS_of (ps_set hN hi hx (peW X e) hs hf) (he H0 Hs H σ S _ fun p vs Hs2 H2 t2 hp hs2 hh r => by
    have n0 : H0 p = none := Same.free t.h hp
    exact ⟨Hs2, _, t.trans t2, St2.setOwn (e := .own d) (S.step t2) i (own_new (Hs2 := Hs2) (H2 := H2) (e' := .no) S hp) ⟨p, vs, rfl, n0, hs2, hh, r⟩ rfl, h⟩)
theorem sd_setT (i : Nat) {x : Str} {p' p2 : Pos} (h : P.nx (Γ.set i (.dT []))) (hN : X.N.Nodup) (hi : X.N[i]? = some x := by rfl) (hx : Loc X.env.scope x := by first | exact Or.inl rfl | exact Or.inr rfl)
    (hs : swapsWith (.Dict [] [] p2) (some (.Name x p')) pos.line X.env = pure false := by rfl) (hf : X.fn x = true ∨ X.env.scope.names.lookup x = some .local := by first | exact .inl rfl | exact .inr rfl) : SD X (.Assign [.Name x p'] (.Dict [] [] p2) pos) Γ P := fun Hs0 H0 Hs H σ t S =>
  wS_of (ps_set hN hi hx pe_dnewT hs hf) (fun p hp => by
    have n0 : H0 p = none := Same.free t.h hp
    have t2 := stp_own (o := .dT []) S.sub hp
    exact ⟨Hs, _, t.trans t2, St2.setOwn (e := .dT []) (S.step t2) i (own_new (Hs2 := Hs) (H2 := H) (e' := .no) S hp) ⟨p, rfl, n0, sub_none S.sub hp, upd_same⟩ rfl, h⟩)
theorem sd_setK (i : Nat) {x : Str} {p' p2 : Pos} (h : P.nx (Γ.set i (.dK []))) (hN : X.N.Nodup) (hi : X.N[i]? = some x := by rfl) (hx : Loc X.env.scope x := by first | exact Or.inl rfl | exact Or.inr rfl)
    (hs : swapsWith (.Dict [] [] p2) (some (.Name x p')) pos.line X.env = pure false := by rfl) (hf : X.fn x = true ∨ X.env.scope.names.lookup x = some .local := by first | exact .inl rfl | exact .inr rfl) : SD X (.Assign [.Name x p'] (.Dict [] [] p2) pos) Γ P := fun Hs0 H0 Hs H σ t S =>
  wS_of (ps_set hN hi hx pe_dnewK hs hf) (fun p hp => by
    have n0 : H0 p = none := Same.free t.h hp
    have t2 := stp_own (o := .dK []) S.sub hp
    exact ⟨Hs, _, t.trans t2, St2.setOwn (e := .dK []) (S.step t2) i (own_new (Hs2 := Hs) (H2 := H) (e' := .no) S hp) ⟨p, rfl, n0, sub_none S.sub hp, upd_same⟩ rfl, h⟩)
/-! ### if, return, expressions -/
theorem sd_if {k : Bool} {A B : List Stmt} (hc : ET X c Γ k) (hA : k = true → BD X A Γ P) (hB : k = false → BD X B Γ P) : SD X (.If c A B pos) Γ P := fun Hs0 H0 Hs H σ t S =>
  wS_of (ps_if (ptW X c) (pssW X A) (pssW X B)) (hc H0 Hs H σ S _ fun Hs2 H2 t2 => by
    cases k with
    | true => exact hA rfl Hs0 H0 Hs2 H2 σ (t.trans t2) (S.step t2)
    | false => exact hB rfl Hs0 H0 Hs2 H2 σ (t.trans t2) (S.step t2))
theorem sd_ret (he : EV X e Γ d) (h : P.rt d) : SD X (.Return (some e) pos) Γ P := fun Hs0 H0 Hs H σ t S =>
  wS_of (ps_ret (peW X e)) (he H0 Hs H σ S _ fun v Hs2 H2 t2 r => ⟨Hs2, d, t.trans t2, r, h⟩)
/-- return of an own list -/
theorem ev_own (k : Nat) {x : Str} (h : Γ[k]? = some (.own d)) {Hs0 H0 Hs H : Hp} {σ : L2.St} (t : Stp Hs0 H0 Hs H) (S : St2 X.K H0 Hs H σ Γ) : ∃ a, σ[k]? = some (some (.ref a)) ∧ ∃ Hs', Stp Hs0 H0 Hs' H ∧ DR X.K Hs' (.ref a) d := by
  obtain ⟨p, vs, e, n0, ns, hh, r⟩ := S.ownAt h
  refine ⟨p, e, upd Hs p (.lst vs), ⟨t.s.trans (Same.upd_new ns), t.h, fun b x hb => ?_, fun b o h1 h3 h2 => ?_⟩, DR.of_lst (.inl (.inl upd_same)) (r.ex (Same.upd_new ns))⟩
  · by_cases z : b = p
    · subst z; rw [upd_same] at hb; cases hb; exact hh
    · rw [upd_ne z] at hb; exact t.sub b x hb
  · have nb : b ≠ p := ne_of_none h1 n0
    rw [upd_ne nb]
    exact t.own b o h1 h3 h2
theorem sd_retOwn (k : Nat) {x : Str} {px : Pos} (h : Γ[k]? = some (.own d)) (hr : P.rt d) (hN : X.N[k]? = some x := by rfl) (hv : Vis X.env.scope x := by first | exact Or.inl rfl | exact Or.inr (Or.inl rfl) | exact Or.inr (Or.inr rfl))
    (hd : (x == ("__debug__" : Str)) = false := by decide) (hcd : (x == ("__classdict__" : Str)) = false := by decide) : SD X (.Return (some (.Name x px)) pos) Γ P := fun Hs0 H0 Hs H σ t S => by
  obtain ⟨p, e, Hs', t', r⟩ := ev_own (x := x) k h t S
  exact wS_of (ps_ret (pe_var hN hv hd hcd)) ⟨_, e, Hs', d, t', r, hr⟩
theorem sd_retN (h : P.rt .non) : SD X (.Return none pos) Γ P := fun Hs0 H0 Hs H σ t S => wS_of ps_retN ⟨Hs, .non, t, rfl, h⟩
theorem sd_expr (he : EV X e Γ d) (h : P.nx Γ) (hs : swapsWith e none pos.line X.env = pure false := by rfl) : SD X (.Expr e pos) Γ P := fun Hs0 H0 Hs H σ t S =>
  wS_of (ps_expr (peW X e) hs) (he H0 Hs H σ S _ fun v Hs2 H2 t2 r => ⟨Hs2, Γ, t.trans t2, S.step t2, h⟩)
theorem sd_pass (h : P.nx Γ) : SD X (.Pass pos) Γ P := fun Hs0 H0 Hs H σ t S => wS_of ps_pass ⟨Hs, Γ, t, S, h⟩
theorem bd_no (h : False) : BD X sts Γ P := h.elim
/-! ### own lists are changed -/
theorem sd_append (k : Nat) {x : Str} {px pa cpos : Pos} {d' d'' : Da} (h : Γ[k]? = some (.own d)) (he : EV X e Γ d') (hs : snoc d d' = some d'') (hz : dlen d < 1000000) (hn : P.nx (Γ.set k (.own d''))) (hN : X.N[k]? = some x := by rfl)
    (hv : Vis X.env.scope x := by first | exact Or.inl rfl | exact Or.inr (Or.inl rfl) | exact Or.inr (Or.inr rfl)) (hd : (x == ("__debug__" : Str)) = false := by decide) (hcd : (x == ("__classdict__" : Str)) = false := by decide)
    (hbase : attributeBase (.Name x px) "append" X.env (eval (.Name x px) X.env) = eval (.Name x px) X.env := by rfl)
    (hfew : ((backTo cpos (starEach [e] X.env)).all (fun x => !x.1) && (backToKw cpos (keywordEach [] X.env)).all (fun x => x.1.isSome)
      && decide ([e].length + ([] : List Keyword).length + (if ([] : List Keyword).isEmpty then 0 else 1) < 30)) = true := by rfl)
    (hline : (pa.endLine == cpos.line) = true := by rfl) (hst : starEach [e] X.env = (false, eval e X.env) :: starEach [] X.env := by rfl) (hplain : (backTo cpos (starEach [] X.env)).any (·.1) = false := by rfl)
    (hsw : swapsWith (.Call (.Attribute (.Name x px) "append" pa) [e] [] cpos) none pos.line X.env = pure false := by rfl) :
    SD X (.Expr (.Call (.Attribute (.Name x px) "append" pa) [e] [] cpos) pos) Γ P := fun Hs0 H0 Hs H σ t S => by
  obtain ⟨p, vs, e1, n0, ns, hh, r⟩ := S.ownAt h
  refine wS_of (ps_expr (pe_bm PySem.F.plainAttrs_list PySem.F.slot_list_append PySem.F.type_list_append mt_append (pe_var hN hv hd hcd) (pa_cons (peW X e) pa_nil hst) hbase hfew hline hst hplain) hsw) ?_
  refine ⟨_, e1, .inl ⟨rfl, _, .inl (.inl hh)⟩, he H0 Hs H σ S _ fun v Hs2 H2 t2 r2 => ?_⟩
  have hh2 := t2.h _ _ hh
  have ns2 := t2.own p _ hh rfl ns
  refine ⟨p, vs, v, rfl, rfl, hh2, ?_, Hs2, _, ?_, St2.write (e' := .own d'') (S.step t2) h rfl e1 ns2 rfl ⟨p, _, rfl, n0, ns2, upd_same, (r.ex t2.s).snoc r2 hs⟩, hn⟩
  · rw [r.len]
    exact Nat.lt_of_lt_of_le hz (by decide)
  · have t3 := t.trans t2
    exact ⟨t3.s, fun b o z => by rw [upd_ne (show b ≠ p from fun q => by rw [q, n0] at z; cases z)]; exact t3.h b o z, fun b o z => by rw [upd_ne (show b ≠ p from fun q => by rw [q, ns2] at z; cases z)]; exact t3.sub b o z, t3.own⟩
/-- an own list is put at the end of another own list -/
theorem sd_appendOwn (k j : Nat) {x y : Str} {px pa cpos py : Pos} {d' d'' : Da} (hjk : j ≠ k) (h : Γ[k]? = some (.own d)) (hj : Γ[j]? = some (.own d')) (hs : snoc d d' = some d'') (hz : dlen d < 1000000) (hn : P.nx ((Γ.set j (.val d')).set k (.own d''))) (hN : X.N[k]? = some x := by rfl) (hNj : X.N[j]? = some y := by rfl)
    (hv : Vis X.env.scope x := by first | exact Or.inl rfl | exact Or.inr (Or.inl rfl) | exact Or.inr (Or.inr rfl)) (hd : (x == ("__debug__" : Str)) = false := by decide) (hcd : (x == ("__classdict__" : Str)) = false := by decide)
    (hvj : Vis X.env.scope y := by first | exact Or.inl rfl | exact Or.inr (Or.inl rfl) | exact Or.inr (Or.inr rfl)) (hdj : (y == ("__debug__" : Str)) = false := by decide) (hcdj : (y == ("__classdict__" : Str)) = false := by decide)
    (hbase : attributeBase (.Name x px) "append" X.env (eval (.Name x px) X.env) = eval (.Name x px) X.env := by rfl)
    (hfew : ((backTo cpos (starEach [.Name y py] X.env)).all (fun x => !x.1) && (backToKw cpos (keywordEach [] X.env)).all (fun x => x.1.isSome)
      && decide ([Expr.Name y py].length + ([] : List Keyword).length + (if ([] : List Keyword).isEmpty then 0 else 1) < 30)) = true := by rfl)
    (hline : (pa.endLine == cpos.line) = true := by rfl) (hst : starEach [.Name y py] X.env = (false, eval (.Name y py) X.env) :: starEach [] X.env := by rfl) (hplain : (backTo cpos (starEach [] X.env)).any (·.1) = false := by rfl)
    (hsw : swapsWith (.Call (.Attribute (.Name x px) "append" pa) [.Name y py] [] cpos) none pos.line X.env = pure false := by rfl) :
    SD X (.Expr (.Call (.Attribute (.Name x px) "append" pa) [.Name y py] [] cpos) pos) Γ P := fun Hs0 H0 Hs H σ t S => by
  obtain ⟨p, vs, e1, n0, ns, hh, r⟩ := S.ownAt h
  obtain ⟨p', vs', e1', n0', ns', hh', r'⟩ := S.ownAt hj
  have npp : p' ≠ p := S.dis j k _ _ p' p hjk hj h rfl rfl e1' e1
  refine wS_of (ps_expr (pe_bm PySem.F.plainAttrs_list PySem.F.slot_list_append PySem.F.type_list_append mt_append (pe_var hN hv hd hcd) (pa_cons (pe_var hNj hvj hdj hcdj) pa_nil hst) hbase hfew hline hst hplain) hsw) ?_
  refine ⟨_, e1, .inl ⟨rfl, _, .inl (.inl hh)⟩, _, e1', p, vs, _, rfl, rfl, hh, by rw [r.len]; exact Nat.lt_of_lt_of_le hz (by decide), upd Hs p' (.lst vs'), _, ?_, ?_, hn⟩
  · refine ⟨t.s.trans (Same.upd_new ns'), fun b o z => by rw [upd_ne (show b ≠ p from fun q => by rw [q, n0] at z; cases z)]; exact t.h b o z, fun b o z => ?_, fun b o h1 h3 h2 => ?_⟩
    · have nb : b ≠ p := fun q => by rw [q, upd_ne npp.symm, ns] at z; cases z
      rw [upd_ne nb]
      by_cases hb : b = p'
      · subst hb; rw [upd_same] at z; cases z; exact hh'
      · rw [upd_ne hb] at z; exact t.sub b o z
    · have nb : b ≠ p' := ne_of_none h1 n0'
      rw [upd_ne nb]
      exact t.own b o h1 h3 h2
  · -- first j is frozen, then k written
    have Hm : Same Hs (upd Hs p' (.lst vs')) := Same.upd_new ns'
    have sub' : Same (upd Hs p' (.lst vs')) H := fun b o z => by
      by_cases hb : b = p'
      · subst hb; rw [upd_same] at z; cases z; exact hh'
      · rw [upd_ne hb] at z; exact S.sub b o z
    have lj : j < Γ.length := (List.getElem?_eq_some_iff.mp hj).1
    have S1 : St2 X.K H0 (upd Hs p' (.lst vs')) H σ (Γ.set j (.val d')) := by
      refine ⟨sub', by simpa using S.len, fun m f o q1 q2 => ?_, fun m n f g b c hne q1 q2 o1 o2 s1 s2 => ?_⟩
      · by_cases hm : m = j
        · subst hm
          rw [List.getElem?_set_self lj] at q1
          rw [e1'] at q2
          cases q1; cases q2
          exact ⟨_, rfl, DR.of_lst (.inl (.inl upd_same)) (r'.ex Hm)⟩
        · rw [List.getElem?_set_ne (Ne.symm hm)] at q1
          have z := S.ent m f o q1 q2
          cases f with
          | no => trivial
          | val d => obtain ⟨v, a1, a2⟩ := z; exact ⟨v, a1, a2.ex Hm⟩
          | own d =>
            obtain ⟨b, us, a1, a2, a3, a4, a5⟩ := z
            subst a1
            have nb : b ≠ p' := S.dis m j _ _ b p' hm q1 hj rfl rfl q2 e1'
            exact ⟨b, us, rfl, a2, by rw [upd_ne nb]; exact a3, a4, a5.ex Hm⟩
          | dT d =>
            obtain ⟨b, a1, a2, a3, a4⟩ := z
            subst a1
            have nb : b ≠ p' := S.dis m j _ _ b p' hm q1 hj rfl rfl q2 e1'
            exact ⟨b, rfl, a2, by rw [upd_ne nb]; exact a3, a4⟩
          | dK d =>
            obtain ⟨b, a1, a2, a3, a4⟩ := z
            subst a1
            have nb : b ≠ p' := S.dis m j _ _ b p' hm q1 hj rfl rfl q2 e1'
            exact ⟨b, rfl, a2, by rw [upd_ne nb]; exact a3, a4⟩
      · by_cases hm : m = j
        · subst hm; rw [List.getElem?_set_self lj] at q1; cases q1; cases o1
        · by_cases hk : n = j
          · subst hk; rw [List.getElem?_set_self lj] at q2; cases q2; cases o2
          · rw [List.getElem?_set_ne (Ne.symm hm)] at q1
            rw [List.getElem?_set_ne (Ne.symm hk)] at q2
            exact S.dis m n f g b c hne q1 q2 o1 o2 s1 s2
    have hk' : (Γ.set j (.val d'))[k]? = some (.own d) := by rw [List.getElem?_set_ne hjk]; exact h
    have ns2 : (upd Hs p' (.lst vs')) p = none := by rw [upd_ne npp.symm]; exact ns
    exact St2.write (e' := .own d'') S1 hk' rfl e1 ns2 rfl ⟨p, _, rfl, n0, ns2, upd_same, (r.ex Hm).snoc (DR.of_lst (.inl (.inl upd_same)) (r'.ex Hm)) hs⟩
/-- x[i] = e -/
def setAt : Da → Nat → Da → Option Da
  | .li ns, k, .int i => some (.li (ns.set k i))
  | .hl cells _ b c, 1, .int i => some (.hl cells i b c)
  | .hl cells a _ c, 2, .int i => some (.hl cells a i c)
  | .hl cells a b _, 3, .int i => some (.hl cells a b i)
  | _, _, _ => none
theorem LstR.set {K : PySem.W.Frag} {H : Hp} {vs : List V} {v : V} {k : Nat} {d' d'' : Da} (r : LstR K H vs d) (q : DR K H v d') (h : setAt d k d' = some d'') : LstR K H (vs.set k v) d'' := by
  unfold setAt at h
  split at h
  · cases h
    show vs.set k v = _
    rw [show vs = _ from r, show v = _ from q, List.map_set]
  · obtain ⟨q', e1, e2⟩ := r
    have ev : v = _ := q
    subst e1 ev
    cases h
    exact ⟨q', rfl, e2⟩
  · obtain ⟨q', e1, e2⟩ := r
    have ev : v = _ := q
    subst e1 ev
    cases h
    exact ⟨q', rfl, e2⟩
  · obtain ⟨q', e1, e2⟩ := r
    have ev : v = _ := q
    subst e1 ev
    cases h
    exact ⟨q', rfl, e2⟩
  · cases h
theorem sd_setItem (k : Nat) {x : Str} {px ps : Pos} {d' d'' : Da} (h : Γ[k]? = some (.own d)) (he : EV X e Γ d') (hi : EV X b Γ (.int i)) (h0 : 0 ≤ i) (h1 : i < dlen d) (hs : setAt d i.toNat d' = some d'') (hn : P.nx (Γ.set k (.own d''))) (hN : X.N[k]? = some x := by rfl)
    (hv : Vis X.env.scope x := by first | exact Or.inl rfl | exact Or.inr (Or.inl rfl) | exact Or.inr (Or.inr rfl)) (hd : (x == ("__debug__" : Str)) = false := by decide) (hcd : (x == ("__classdict__" : Str)) = false := by decide)
    (ha : ∀ v, assign (.Subscript (.Name x px) b ps) X.env v = (do
      let ov ← holding [v] (eval (.Name x px) X.env)
      let iv ← holding [v, ov] (eval b X.env)
      standAt ps
      holding [v, ov, iv] (setItem ov iv v)
      release [v, ov, iv] []) := by intro _; rfl)
    (hs1 : swapsWithSole [.Subscript (.Name x px) b ps] e pos.line X.env = pure false := by rfl) (hw : swappedStores [.Subscript (.Name x px) b ps] e X.env = pure none := by rfl)
    (hh1 : (assignEach [.Subscript (.Name x px) b ps] X.env).map (·.2) = [assign (.Subscript (.Name x px) b ps) X.env] := by rfl) :
    SD X (.Assign [.Subscript (.Name x px) b ps] e pos) Γ P := fun Hs0 H0 Hs H σ t S => by
  obtain ⟨p, vs, e1, n0, ns, hh, r⟩ := S.ownAt h
  refine wS_of (ps_asg (peW X e) (pg_sub (pe_var hN hv hd hcd) (peW X b) set_list ha) hs1 hw hh1) (he H0 Hs H σ S _ fun v Hs1 H1 t1 r1 => ⟨_, e1, hi H0 Hs1 H1 σ (S.step t1) _ fun y Hs2 H2 t2 r2 => ?_⟩)
  have t12 := t1.trans t2
  have hh2 := t12.h _ _ hh
  have ns2 := t12.own p _ hh rfl ns
  refine ⟨p, vs, i, i.toNat, rfl, r2, hh2, ?_, Hs2, _, ?_, St2.write (e' := .own d'') (S.step t12) h rfl e1 ns2 rfl ⟨p, _, rfl, n0, ns2, upd_same, LstR.set (r.ex t12.s) (r1.ex t2.s) hs⟩, hn⟩
  · unfold ixN
    rw [if_pos h0, if_pos (by rw [r.len]; exact h1)]
  · have t3 := t.trans t12
    exact ⟨t3.s, fun b o z => by rw [upd_ne (show b ≠ p from fun q => by rw [q, n0] at z; cases z)]; exact t3.h b o z, fun b o z => by rw [upd_ne (show b ≠ p from fun q => by rw [q, ns2] at z; cases z)]; exact t3.sub b o z, t3.own⟩
/-- an own list lent: the value is a scalar -/
theorem ev_lend (k : Nat) {x : V} (h : Γ[k]? = some (.own d)) (hv : sv d1 = some x) (he : EV X e (Γ.set k (.val d)) d1) : EV X e Γ d1 := fun H0 Hs H σ S Q q => by
  obtain ⟨p, vs, e1, n0, ns, hh, r⟩ := S.ownAt h
  have Hm : Same Hs (upd Hs p (.lst vs)) := Same.upd_new ns
  have lk : k < Γ.length := (List.getElem?_eq_some_iff.mp h).1
  have S1 : St2 X.K H0 (upd Hs p (.lst vs)) H σ (Γ.set k (.val d)) := by
    refine ⟨fun b o z => ?_, by simpa using S.len, fun m f o q1 q2 => ?_, fun m n f g b c hne q1 q2 o1 o2 s1 s2 => ?_⟩
    · by_cases hb : b = p
      · subst hb; rw [upd_same] at z; cases z; exact hh
      · rw [upd_ne hb] at z; exact S.sub b o z
    · by_cases hm : m = k
      · subst hm
        rw [List.getElem?_set_self lk] at q1
        rw [e1] at q2
        cases q1; cases q2
        exact ⟨_, rfl, DR.of_lst (.inl (.inl upd_same)) (r.ex Hm)⟩
      · rw [List.getElem?_set_ne (Ne.symm hm)] at q1
        have z := S.ent m f o q1 q2
        cases f with
        | no => trivial
        | val d => obtain ⟨v, a1, a2⟩ := z; exact ⟨v, a1, a2.ex Hm⟩
        | own d =>
          obtain ⟨b, us, a1, a2, a3, a4, a5⟩ := z
          subst a1
          have nb : b ≠ p := S.dis m k _ _ b p hm q1 h rfl rfl q2 e1
          exact ⟨b, us, rfl, a2, by rw [upd_ne nb]; exact a3, a4, a5.ex Hm⟩
        | dT d =>
          obtain ⟨b, a1, a2, a3, a4⟩ := z
          subst a1
          have nb : b ≠ p := S.dis m k _ _ b p hm q1 h rfl rfl q2 e1
          exact ⟨b, rfl, a2, by rw [upd_ne nb]; exact a3, a4⟩
        | dK d =>
          obtain ⟨b, a1, a2, a3, a4⟩ := z
          subst a1
          have nb : b ≠ p := S.dis m k _ _ b p hm q1 h rfl rfl q2 e1
          exact ⟨b, rfl, a2, by rw [upd_ne nb]; exact a3, a4⟩
    · by_cases hm : m = k
      · subst hm; rw [List.getElem?_set_self lk] at q1; cases q1; cases o1
      · by_cases hk : n = k
        · subst hk; rw [List.getElem?_set_self lk] at q2; cases q2; cases o2
        · rw [List.getElem?_set_ne (Ne.symm hm)] at q1
          rw [List.getElem?_set_ne (Ne.symm hk)] at q2
          exact S.dis m n f g b c hne q1 q2 o1 o2 s1 s2
  refine he H0 _ H σ S1 _ fun v Hs2 H2 t2 r2 => ?_
  have e2 : v = x := sv_eq r2 hv
  subst e2
  refine q v Hs H2 ⟨Same.refl _, t2.h, S.sub.trans t2.h, fun _ _ _ _ z => z⟩ ?_
  cases d1 <;> first | exact r2 | cases hv
/-! ### loops -/
abbrev Never (X : Cx) : Prop := PassesOwn (model X.prog X.w) X.A X.env X.xe
/-- a loop's word: what stood for good at its start stands -/
def Lp (K : PySem.W.Frag) (Hs0 H0 Hs2 : Hp) (I : List Ent → Prop) : L2.St → Hp → Prop := fun σ H => ∃ Hs Γ, Stp Hs0 H0 Hs H ∧ Same Hs2 Hs ∧ St2 K H0 Hs H σ Γ ∧ I Γ
theorem turn {body : List Stmt} {J : List Ent → Prop} {Hs0 H0 Hs2 Hs' H' : Hp} {σ : L2.St} (B : BD X body Γ { nx := J, ct := J, bk := P.nx, rt := P.rt }) (t' : Stp Hs0 H0 Hs' H') (s' : Same Hs2 Hs') (S : St2 X.K H0 Hs' H' σ Γ) :
    wB X body { (ends X.K Hs0 H0 P) with nx := Lp X.K Hs0 H0 Hs2 J, ct := Lp X.K Hs0 H0 Hs2 J, bk := (ends X.K Hs0 H0 P).nx } σ H' :=
  wB_le (D := ends X.K Hs' H0 { nx := J, ct := J, bk := P.nx, rt := P.rt }) (D' := { (ends X.K Hs0 H0 P) with nx := Lp X.K Hs0 H0 Hs2 J, ct := Lp X.K Hs0 H0 Hs2 J, bk := (ends X.K Hs0 H0 P).nx })
    ⟨fun _ _ ⟨Hs3, Γ3, t3, S3, q3⟩ => ⟨Hs3, Γ3, ⟨t'.s.trans t3.s, t3.h, t3.sub, fun b o e1 e2 e3 => t3.own b o e1 e2 (t'.own b o e1 e2 e3)⟩, s'.trans t3.s, S3, q3⟩,
      fun _ _ ⟨Hs3, d3, t3, r3, q3⟩ => ⟨Hs3, d3, ⟨t'.s.trans t3.s, t3.h, t3.sub, fun b o e1 e2 e3 => t3.own b o e1 e2 (t'.own b o e1 e2 e3)⟩, r3, q3⟩,
      fun _ _ ⟨Hs3, Γ3, t3, S3, q3⟩ => ⟨Hs3, Γ3, ⟨t'.s.trans t3.s, t3.h, t3.sub, fun b o e1 e2 e3 => t3.own b o e1 e2 (t'.own b o e1 e2 e3)⟩, S3, q3⟩,
      fun _ _ ⟨Hs3, Γ3, t3, S3, q3⟩ => ⟨Hs3, Γ3, ⟨t'.s.trans t3.s, t3.h, t3.sub, fun b o e1 e2 e3 => t3.own b o e1 e2 (t'.own b o e1 e2 e3)⟩, s'.trans t3.s, S3, q3⟩⟩
    (B Hs' H0 Hs' H' σ ⟨Same.refl _, t'.h, t'.sub, fun _ _ _ _ z => z⟩ S)
theorem item_of (hl : isLst d = true) {i : Nat} (hlen : i < dlen d) : ∃ d', item d i = some d' := by
  cases d with
  | li ns => exact ⟨_, by show ns[i]?.map Da.int = _; rw [List.getElem?_eq_getElem hlen]; rfl⟩
  | lw ns => exact ⟨_, by show ns[i]?.map Da.wd = _; rw [List.getElem?_eq_getElem hlen]; rfl⟩
  | ll ns => exact ⟨_, by show ns[i]?.map Da.li = _; rw [List.getElem?_eq_getElem hlen]; rfl⟩
  | lp ns => exact ⟨_, by show ns[i]?.map (fun p => Da.pr p.1 p.2) = _; rw [List.getElem?_eq_getElem hlen]; rfl⟩
  | _ => cases hl
/-- over a list -/
theorem sd_forL (j : Nat) {x : Str} {px : Pos} {body : List Stmt} (hp : Never X) (hc : X.calm = true) (hl : isLst d = true) (he : EV X e Γ d) (I : Nat → List Ent → Prop) (h0 : I 0 Γ)
    (hs : ∀ i d' Γ', item d i = some d' → I i Γ' → BD X body (Γ'.set j (.val d')) { nx := I (i + 1), ct := I (i + 1), bk := P.nx, rt := P.rt }) (hd : ∀ Γ', I (dlen d) Γ' → P.nx Γ') (hN : X.N.Nodup) (hi : X.N[j]? = some x := by rfl) (hx : Loc X.env.scope x := by first | exact Or.inl rfl | exact Or.inr rfl)
    (hf : X.fn x = true ∨ X.env.scope.names.lookup x = some .local := by first | exact .inl rfl | exact .inr rfl) (hfs : ∀ x, foldedSetIterable e X.env x = pure x := by intro _; rfl) : SD X (.For (.Name x px) e body [] pos) Γ P := fun Hs0 H0 Hs H σ t S =>
  wS_of (ps_for hp hc (pi_list (peW X e)) (pg_name hN hi hx hf) (pssW X body) hfs) (he H0 Hs H σ S _ fun v Hs2 H2 t2 r => by
    obtain ⟨a, vs, ev, q, hr⟩ := r.lst hl
    refine ⟨a, ev, ⟨vs, sqL_ex t2.sub q⟩, for_list (K := X.K) (a := a) (xs := vs) (fun i => Lp X.K Hs0 H0 Hs2 (I i))
      ⟨Hs2, Γ, t.trans t2, Same.refl _, S.step t2, h0⟩ (fun i σ' H' _ ⟨Hs', _, t', s', _, _⟩ => sqL_ex t'.sub (sqL_ex s' q)) ?_ ?_⟩
    · rintro i y σ' H' hy ⟨Hs', Γ', t', s', S', hI⟩
      have hlen : i < dlen d := by
        rw [← hr.len]
        exact (List.getElem?_eq_some_iff.mp hy).1
      obtain ⟨d', hd'⟩ := item_of hl hlen
      obtain ⟨y', hy', ry⟩ := hr.get hd'
      rw [hy] at hy'
      cases hy'
      exact turn (hs i d' Γ' hd' hI) t' s' (S'.set j (ry.ex s'))
    · rintro σ' H' ⟨Hs', Γ', t', s', S', hI⟩
      rw [hr.len] at hI
      exact ⟨Hs', Γ', t', S', hd Γ' hI⟩)
/-- over a word -/
theorem sd_forT (j : Nat) {x : Str} {px : Pos} {body : List Stmt} {w : List Int} (hp : Never X) (hc : X.calm = true) (he : EV X e Γ (.wd w)) (I : Nat → List Ent → Prop) (h0 : I 0 Γ)
    (hs : ∀ i k Γ', w[i]? = some k → I i Γ' → BD X body (Γ'.set j (.val (.int k))) { nx := I (i + 1), ct := I (i + 1), bk := P.nx, rt := P.rt }) (hd : ∀ Γ', I w.length Γ' → P.nx Γ') (hN : X.N.Nodup) (hi : X.N[j]? = some x := by rfl) (hx : Loc X.env.scope x := by first | exact Or.inl rfl | exact Or.inr rfl)
    (hf : X.fn x = true ∨ X.env.scope.names.lookup x = some .local := by first | exact .inl rfl | exact .inr rfl) (hfs : ∀ x, foldedSetIterable e X.env x = pure x := by intro _; rfl) : SD X (.For (.Name x px) e body [] pos) Γ P := fun Hs0 H0 Hs H σ t S =>
  wS_of (ps_for hp hc (pi_tup (peW X e)) (pg_name hN hi hx hf) (pssW X body) hfs) (he H0 Hs H σ S _ fun v Hs2 H2 t2 ⟨a, ev, q⟩ => by
    refine ⟨a, ev, ⟨_, sqT_ex t2.sub q⟩, for_tup (K := X.K) (a := a) (xs := w.map V.int) (fun i => Lp X.K Hs0 H0 Hs2 (I i))
      ⟨Hs2, Γ, t.trans t2, Same.refl _, S.step t2, h0⟩ (fun i σ' H' _ ⟨Hs', _, t', s', _, _⟩ => sqT_ex t'.sub (s' _ _ q)) ?_ ?_⟩
    · rintro i y σ' H' hy ⟨Hs', Γ', t', s', S', hI⟩
      rw [List.getElem?_map] at hy
      obtain ⟨k, hk, ey⟩ := Option.map_eq_some_iff.mp hy
      subst ey
      exact turn (hs i k Γ' hk hI) t' s' (S'.set j (d := .int k) rfl)
    · rintro σ' H' ⟨Hs', Γ', t', s', S', hI⟩
      rw [List.length_map] at hI
      exact ⟨Hs', Γ', t', S', hd Γ' hI⟩)
/-- over range(a), range(a, b) -/
theorem rng_ok (j : Nat) {body : List Stmt} {lo : Int} {n : Nat} {Hs0 H0 Hs2 H2 : Hp} {σ : L2.St} (t : Stp Hs0 H0 Hs2 H2) (S : St2 X.K H0 Hs2 H2 σ Γ) (I : Nat → List Ent → Prop) (h0 : I 0 Γ)
    (hs : ∀ (i : Nat) Γ', i < n → I i Γ' → BD X body (Γ'.set j (.val (.int (lo + i)))) { nx := I (i + 1), ct := I (i + 1), bk := P.nx, rt := P.rt }) (hd : ∀ Γ', I n Γ' → P.nx Γ') :
    ∃ W : Nat → Nat → L2.St → Hp → Prop, (∃ m, W 0 m σ H2) ∧ ∀ i m σ H, W i m σ H →
      ((Itr lo n).stop i H ∧ (ends X.K Hs0 H0 P).nx σ H) ∨ ((Itr lo n).go i H ∧ ∃ N : L2.St → Hp → Prop, (∀ σ' H', N σ' H' → ∃ m', m' < m ∧ W (i + 1) m' σ' H') ∧ ∀ x H', (Itr lo n).yld i H x H' → gName j x σ H' fun σ2 H2 => wB X body { (ends X.K Hs0 H0 P) with nx := N, ct := N, bk := (ends X.K Hs0 H0 P).nx } σ2 H2) :=
  for_range (lo := lo) (n := n) (fun i => Lp X.K Hs0 H0 Hs2 (I i)) ⟨Hs2, Γ, t, Same.refl _, S, h0⟩
    (fun i σ' H' hi ⟨Hs', Γ', t', s', S', hI⟩ => turn (hs i Γ' hi hI) t' s' (S'.set j (d := .int (lo + i)) rfl))
    (fun σ' H' ⟨Hs', Γ', t', s', S', hI⟩ => ⟨Hs', Γ', t', S', hd Γ' hI⟩)
theorem sd_forR1 (j : Nat) {x : Str} {px p0 pc : Pos} {body : List Stmt} (hp : Never X) (hc : X.calm = true) (hm : X.mg "range" = none) (ha : EV X a Γ (.int i)) (hb : -100000 ≤ i ∧ i ≤ 100000) (I : Nat → List Ent → Prop) (h0 : I 0 Γ)
    (hs : ∀ (k : Nat) Γ', (k : Int) < i → I k Γ' → BD X body (Γ'.set j (.val (.int (k : Int)))) { nx := I (k + 1), ct := I (k + 1), bk := P.nx, rt := P.rt }) (hd : ∀ Γ', I i.toNat Γ' → P.nx Γ') (hN : X.N.Nodup) (hi : X.N[j]? = some x := by rfl) (hx : Loc X.env.scope x := by first | exact Or.inl rfl | exact Or.inr rfl)
    (hf : X.fn x = true ∨ X.env.scope.names.lookup x = some .local := by first | exact .inl rfl | exact .inr rfl) (hg : Gl X "range" := by rfl) (hst : starEach [a] X.env = (false, eval a X.env) :: starEach [] X.env := by rfl)
    (hs1 : starEach [a] X.env = [(false, eval a X.env)] := by rfl) (hfs : ∀ x, foldedSetIterable (.Call (.Name "range" p0) [a] [] pc) X.env x = pure x := by intro _; rfl) : SD X (.For (.Name x px) (.Call (.Name "range" p0) [a] [] pc) body [] pos) Γ P := fun Hs0 H0 Hs H σ t S =>
  wS_of (ps_for hp hc (pi_range1 hg hm (paW X [a]) hs1) (pg_name hN hi hx hf) (pssW X body) hfs) (ea_cons ha ea_nil hst H0 Hs H σ S _ fun vs Hs2 H2 t2 r => by
    obtain ⟨v, rfl, r'⟩ := p1 r
    have ev : v = .int i := r'
    subst ev
    refine ⟨i, rfl, by omega, by omega, rng_ok j (t.trans t2) (S.step t2) I h0 (fun k Γ' hk hI => ?_) hd⟩
    rw [Int.zero_add]
    exact hs k Γ' (by omega) hI)
theorem sd_forR2 (j : Nat) {x : Str} {px p0 pc : Pos} {body : List Stmt} {lo : Int} (hp : Never X) (hc : X.calm = true) (hm : X.mg "range" = none) (ha : EV X a Γ (.int lo)) (hb : EV X b Γ (.int i)) (hl : -100000 ≤ lo ∧ lo ≤ 100000 ∧ -100000 ≤ i ∧ i ≤ 100000) (I : Nat → List Ent → Prop) (h0 : I 0 Γ)
    (hs : ∀ (k : Nat) Γ', lo + (k : Int) < i → I k Γ' → BD X body (Γ'.set j (.val (.int (lo + k)))) { nx := I (k + 1), ct := I (k + 1), bk := P.nx, rt := P.rt }) (hd : ∀ Γ', I (i - lo).toNat Γ' → P.nx Γ') (hN : X.N.Nodup) (hi : X.N[j]? = some x := by rfl) (hx : Loc X.env.scope x := by first | exact Or.inl rfl | exact Or.inr rfl)
    (hf : X.fn x = true ∨ X.env.scope.names.lookup x = some .local := by first | exact .inl rfl | exact .inr rfl) (hg : Gl X "range" := by rfl) (hst : starEach [a, b] X.env = (false, eval a X.env) :: starEach [b] X.env := by rfl) (hst2 : starEach [b] X.env = (false, eval b X.env) :: starEach [] X.env := by rfl)
    (hs1 : starEach [a, b] X.env = [(false, eval a X.env), (false, eval b X.env)] := by rfl) (hs2 : starEach [b] X.env = [(false, eval b X.env)] := by rfl) (hfs : ∀ x, foldedSetIterable (.Call (.Name "range" p0) [a, b] [] pc) X.env x = pure x := by intro _; rfl) :
    SD X (.For (.Name x px) (.Call (.Name "range" p0) [a, b] [] pc) body [] pos) Γ P := fun Hs0 H0 Hs H σ t S =>
  wS_of (ps_for hp hc (pi_range2 hg hm (paW X [a, b]) hs1 hs2) (pg_name hN hi hx hf) (pssW X body) hfs) (ea_cons ha (ea_cons hb ea_nil hst2) hst H0 Hs H σ S _ fun vs Hs2 H2 t2 r => by
    obtain ⟨v, u, rfl, r1, r2⟩ := p2 r
    have ev : v = .int lo := r1
    have eu : u = .int i := r2
    subst ev eu
    exact ⟨lo, i, rfl, ⟨by omega, by omega, by omega, by omega⟩, rng_ok j (t.trans t2) (S.step t2) I h0 (fun k Γ' hk hI => hs k Γ' (by omega) hI) hd⟩)
/-- while -/
theorem sd_while {body : List Stmt} (hp : Never X) (N : Nat) (I : Nat → List Ent → Prop) (h0 : I 0 Γ) (hs : ∀ i Γ', I i Γ' → ∃ k, ET X c Γ' k ∧ (k = true → i < N ∧ BD X body Γ' { nx := I (i + 1), ct := I (i + 1), bk := P.nx, rt := P.rt }) ∧ (k = false → P.nx Γ')) :
    SD X (.While c body [] pos) Γ P := fun Hs0 H0 Hs H σ t S =>
  wS_of (ps_while hp (ptW X c) (pssW X body)) (by
    refine ⟨fun m σ' H' => ∃ i, m + i = N ∧ Lp X.K Hs0 H0 Hs (I i) σ' H' ∨ (m = 0 ∧ N ≤ i ∧ Lp X.K Hs0 H0 Hs (I i) σ' H'), ⟨N, 0, .inl ⟨rfl, Hs, Γ, t, Same.refl _, S, h0⟩⟩, fun m σ' H' ⟨i, hm⟩ => ?_⟩
    have hL : Lp X.K Hs0 H0 Hs (I i) σ' H' := by rcases hm with ⟨_, z⟩ | ⟨_, _, z⟩ <;> exact z
    obtain ⟨Hs', Γ', t', s', S', hI⟩ := hL
    obtain ⟨k, hk, h1, h2⟩ := hs i Γ' hI
    refine hk H0 Hs' H' σ' S' _ fun Hs3 H3 t3 => ?_
    cases k with
    | false => exact ⟨Hs3, Γ', t'.trans t3, S'.step t3, h2 rfl⟩
    | true =>
      obtain ⟨hi, hB⟩ := h1 rfl
      rw [if_pos rfl]
      refine ⟨Lp X.K Hs0 H0 Hs (I (i + 1)), fun σ4 H4 z => ⟨N - (i + 1), by rcases hm with ⟨z1, _⟩ | ⟨_, z2, _⟩ <;> omega, i + 1, .inl ⟨by omega, z⟩⟩, turn hB (t'.trans t3) (s'.trans t3.s) (S'.step t3)⟩)
end
end K54

set_option Elab.async false
set_option linter.all false
set_option maxRecDepth 100000
set_option maxHeartbeats 4000000
/-! J4: defs and their calls; sources; comprehensions. -/
namespace K54
open PySem PySem.Spec PyProof.Rows L2

/-- what a def gives, by data -/
abbrev Rel := List Da → Da → Prop
def spR (K : PySem.W.Frag) (R : Rel) : Sp := fun vs H Q _ => ∃ Hs ds r, Same Hs H ∧ Paired (DR K Hs) vs ds ∧ R ds r ∧ ∀ v Hs2 H2, Stp Hs H Hs2 H2 → DR K Hs2 v r → Q v H2
abbrev fX (P : Program) (w : World) (K : PySem.W.Frag) (mg : Str → Option Value) (base : Heap) (N : List Str) (qual : Str) (scope : Scope) (f : Addr) (cd : Value) (A : Around) (outer : List Env) (s : Shared) (H : Hp) (E : XK) : Cx :=
  (cxOf CX0 P w K mg base N qual scope f cd A outer s H E).nox
def Γ0 (N : List Str) (ds : List Da) : List Ent := ds.map Ent.val ++ List.replicate (N.length - ds.length) .no
theorem st2_start {K : PySem.W.Frag} {Hs H : Hp} {N : List Str} {vs : List V} {ds : List Da} (h : Same Hs H) (r : Paired (DR K Hs) vs ds) : St2 K H Hs H (L2.start N vs) (Γ0 N ds) := by
  have hl := r.length
  refine ⟨h, by unfold Γ0 L2.start; simp [hl], fun i e o h1 h2 => ?_, fun i j e f a b _ h1 _ o1 => ?_⟩
  · unfold Γ0 at h1
    unfold L2.start at h2
    by_cases hi : i < ds.length
    · rw [List.getElem?_append_left (by simpa using hi), List.getElem?_map] at h1
      rw [List.getElem?_append_left (by simpa [hl] using hi), List.getElem?_map] at h2
      obtain ⟨d, hd, ed⟩ := Option.map_eq_some_iff.mp h1
      obtain ⟨v, hv, ev⟩ := Option.map_eq_some_iff.mp h2
      subst ed ev
      obtain ⟨v', hv', q⟩ := pget1 r hd
      rw [hv] at hv'
      cases hv'
      exact ⟨v, rfl, q⟩
    · rw [List.getElem?_append_right (by simpa using Nat.le_of_not_lt hi)] at h1
      have := List.mem_of_getElem? h1
      rw [List.mem_replicate] at this
      rw [this.2]
      trivial
  · exfalso
    unfold Γ0 at h1
    have := List.mem_of_getElem? h1
    rcases List.mem_append.mp this with z | z
    · obtain ⟨d, _, rfl⟩ := List.mem_map.mp z
      cases o1
    · rw [List.mem_replicate] at z
      rw [z.2] at o1
      cases o1
section
variable {P : Program} {w : World} {K : PySem.W.Frag} {mg : Str → Option Value} {base : Heap}
/-- THE RULE for a def, by data -/
theorem fn_ok {x qual : Str} {params : Arguments} {body : List Stmt} {scope : Scope} {dvs : List V} {kws : List (Str × V)} {f : Addr} {fd : FuncData} {N ps : List Str} {k : Nat} (F : FunD K x qual params body scope dvs kws f fd) (S : FnScope N ps scope) (R : Rel)
    (len : ∀ ds r, R ds r → ds.length = ps.length)
    (hb : ∀ (cd : Value) (A : Around) (outer : List Env) (s : Shared) (H : Hp) (E : XK), Room k (fX P w K mg base N qual scope f cd A outer s H E).A → ∀ ds r, R ds r →
      BD (fX P w K mg base N qual scope f cd A outer s H E) body (Γ0 N ds) { nx := fun _ => r = .non, rt := fun d => d = r }) : FnOk P w K mg base CX0 (k + 1) f fd ps (spR K R) := by
  refine F.ok S (fun vs H Q E ⟨Hs, ds, r, _, hp, hR, _⟩ => hp.length.trans (len ds r hR)) fun cd A outer s H vs Q E hr ⟨Hs, ds, r, hs, hp, hR, hq⟩ => ?_
  refine ⟨wB (fX P w K mg base N qual scope f cd A outer s H E) body, PSs.nox (pssW _ _), ?_⟩
  refine wB_le (D := ends K Hs H { nx := fun _ => r = .non, rt := fun d => d = r }) ⟨fun σ' H' ⟨Hs', Γ', t, _, e⟩ => hq .non Hs' H' t (by rw [e]; rfl), fun v H' ⟨Hs', d, t, q, e⟩ => hq v Hs' H' t (by rw [← e]; exact q), fun _ _ ⟨_, _, _, _, z⟩ => z.elim, fun _ _ ⟨_, _, _, _, z⟩ => z.elim⟩
    (hb cd A outer s H E hr ds r hR Hs H Hs H _ (Stp.refl hs) (st2_start hs hp))
/-- a def that may be called: dd the data of the defaults that fill up -/
structure Can (P : Program) (w : World) (K : PySem.W.Frag) (mg : Str → Option Value) (base : Heap) (k : Nat) (x : Str) (dd : List Da) (R : Rel) : Prop where
  ex : ∃ (f : Addr) (fd : FuncData) (ps : List Str) (dvs : List V) (ds : List Value), mg x = some (.ref f) ∧ PySem.W.keepIn K (.ref f) = true ∧ Vals dvs ds ∧ Binds K fd ps ds ∧ FnOk P w K mg base CX0 k f fd ps (spR K R) ∧ ∀ H, Paired (DR K H) dvs dd
end
section
variable {X : Cx} {a b c e o : Expr} {es : List Expr} {Γ : List Ent} {pos : Pos} {d d1 d2 : Da} {ds dd : List Da} {i j : Int} {P : Pst} {k : Nat} {x : Str} {R : Rel}
theorem Can.mono {P : Program} {w : World} {K : PySem.W.Frag} {mg : Str → Option Value} {base : Heap} {k' : Nat} (C : Can P w K mg base k x dd R) (h : k ≤ k') : Can P w K mg base k' x dd R :=
  let ⟨f, fd, ps, dvs, ds, h1, h2, h3, h4, h5, h6⟩ := C.ex; ⟨f, fd, ps, dvs, ds, h1, h2, h3, h4, h5.mono h, h6⟩
theorem ev_call {p0 : Pos} (C : Can X.prog X.w X.K X.mg X.base k x dd R) (hr : Room k X.A) (ha : EA X (e :: es) Γ ds) (hR : R (ds ++ dd) d) (hg : Gl X x := by rfl)
    (hdb : (x == ("__debug__" : Str)) = false := by decide) (he : starEach (e :: es) X.env = (false, eval e X.env) :: starEach es X.env := by rfl) (hpl : (backTo pos (starEach es X.env)).any (·.1) = false := by rfl) : EV X (.Call (.Name x p0) (e :: es) [] pos) Γ d := fun H0 Hs H σ S Q q => by
  obtain ⟨f, fd, ps, dvs, us, h1, h2, h3, h4, h5, h6⟩ := C.ex
  refine wE_of (pe_call h5 hr hg h1 h2 h4 h3 pass0 (paW X (e :: es)) hdb he hpl) (ha H0 Hs H σ S _ fun vs Hs2 H2 t r => ?_)
  exact ⟨Hs2, ds ++ dd, d, t.sub, papp r (h6 Hs2), hR, fun v Hs3 H3 t3 r3 => q v Hs3 H3 (t.trans t3) r3⟩
/-! ### sources of turns -/
/-- an iterator that has come at (Hs, H): n turns, the target's store is y -/
structure Turns (X : Cx) (g : TG) (vs : List Nat) (n : Nat) (y : Nat → List Ent → List Ent) (Hs : Hp) (J : It) : Prop where
  go : ∀ i Hs' H', i < n → Same Hs Hs' → Same Hs' H' → J.go i H'
  stop : ∀ Hs' H', Same Hs Hs' → Same Hs' H' → J.stop n H'
  yld : ∀ (i : Nat) (v : V) (H0 Hs' H' H'' : Hp) (σ : L2.St) (Γ : List Ent) (Q : L2.St → Hp → Prop), i < n → Same Hs Hs' → St2 X.K H0 Hs' H' σ Γ → J.yld i H' v H'' →
    (∀ σ2 Hs2 H2, Stp Hs' H' Hs2 H2 → St2 X.K H0 Hs2 H2 σ2 (y i Γ) → wipe σ2 vs = wipe σ vs → Q σ2 H2) → g v σ H'' Q
def Src (X : Cx) (wi : TI) (g : TG) (vs : List Nat) (Γ : List Ent) (n : Nat) (y : Nat → List Ent → List Ent) : Prop :=
  ∀ (H0 Hs H : Hp) (σ : L2.St), St2 X.K H0 Hs H σ Γ → ∀ R : It → Hp → Prop, (∀ J Hs2 H2, Stp Hs H Hs2 H2 → Turns X g vs n y Hs2 J → R J H2) → wi σ H R
theorem wipe1 {σ : L2.St} {j : Nat} {o : Option V} : wipe (σ.set j o) [j] = wipe σ [j] := by
  show (σ.set j o).set j none = σ.set j none
  rw [List.set_set]
/-- a for over any of them -/
theorem sd_for {tg iter : Expr} {body : List Stmt} {wi : TI} {g : TG} {vs : List Nat} {n : Nat} {y : Nat → List Ent → List Ent} (hp : Never X) (hc : X.calm = true) (hi : PI X tg iter wi) (hg : PG X tg g) (S0 : Src X wi g vs Γ n y) (I : Nat → List Ent → Prop) (h0 : I 0 Γ)
    (hs : ∀ i Γ', i < n → I i Γ' → BD X body (y i Γ') { nx := I (i + 1), ct := I (i + 1), bk := P.nx, rt := P.rt }) (hd : ∀ Γ', I n Γ' → P.nx Γ') (hfs : ∀ x, foldedSetIterable iter X.env x = pure x := by intro _; rfl) : SD X (.For tg iter body [] pos) Γ P := fun Hs0 H0 Hs H σ t S =>
  wS_of (ps_for hp hc hi hg (pssW X body) hfs) (S0 H0 Hs H σ S _ fun J Hs2 H2 t2 T => by
    refine ⟨fun i m σ' H' => m + i = n ∧ Lp X.K Hs0 H0 Hs2 (I i) σ' H', ⟨n, rfl, Hs2, Γ, t.trans t2, Same.refl _, S.step t2, h0⟩, ?_⟩
    rintro i m σ' H' ⟨hm, Hs', Γ', t', s', S', hI⟩
    by_cases hlt : i < n
    · refine .inr ⟨T.go i Hs' H' hlt s' t'.sub, Lp X.K Hs0 H0 Hs2 (I (i + 1)), fun σ3 H3 z => ⟨m - 1, by omega, by omega, z⟩, fun v H'' hy => ?_⟩
      exact T.yld i v H0 Hs' H' H'' σ' Γ' _ hlt s' S' hy fun σ3 Hs3 H3 t3 S3 _ => turn (hs i Γ' hlt hI) (t'.trans t3) (s'.trans t3.s) S3
    · have e : i = n := by omega
      subst e
      exact .inl ⟨T.stop Hs' H' s' t'.sub, Hs', Γ', t', S', hd Γ' hI⟩)
/-! ### comprehensions -/
abbrev bX (X : Cx) (scope : Scope) (s : Shared) (H : Hp) (C : Addr) (cl : List (Str × Addr)) (fp : List Addr) : Cx := X.blk s H scope (compEnvC scope cl C X.env) fp
/-- in every block -/
def EVb (X : Cx) (scope : Scope) (e : Expr) (Γ : List Ent) (d : Da) : Prop := ∀ s H C cl fp, EV (bX X scope s H C cl fp) e Γ d
def ETb (X : Cx) (scope : Scope) (e : Expr) (Γ : List Ent) (k : Bool) : Prop := ∀ s H C cl fp, ET (bX X scope s H C cl fp) e Γ k
def wEb (X : Cx) (scope : Scope) (e : Expr) : TE := fun σ H Q => ∀ s Hb C cl fp, wE (bX X scope s Hb C cl fp) e σ H Q
def wTb (X : Cx) (scope : Scope) (e : Expr) : TT := fun σ H Q => ∀ s Hb C cl fp, wT (bX X scope s Hb C cl fp) e σ H Q
theorem peWb {scope : Scope} (s : Shared) (H : Hp) (C : Addr) (cl : List (Str × Addr)) (fp : List Addr) : PE (bX X scope s H C cl fp) e (wEb X scope e) := ⟨fun pins s' σ H' Q I h => h s H C cl fp pins s' I⟩
theorem ptWb {scope : Scope} (s : Shared) (H : Hp) (C : Addr) (cl : List (Str × Addr)) (fp : List Addr) : PT (bX X scope s H C cl fp) e (wTb X scope e) := ⟨fun pins s' σ H' Q I h => h s H C cl fp pins s' I⟩
/-- the word of a comprehension -/
def Lc (K : PySem.W.Frag) (H0 Hs H Hs2 : Hp) (D : Addr) (σ : L2.St) (Γ : List Ent) (d : Da) : Hp → Prop := fun H' => ∃ Hs' vs, Stp Hs H Hs' H' ∧ Same Hs2 Hs' ∧ Hs' D = none ∧ H D = none ∧ St2 K H0 Hs' H' σ Γ ∧ H' D = some (.lst vs) ∧ LstR K Hs' vs d
theorem st2_wipe {K : PySem.W.Frag} {H0 Hs H : Hp} {σ : L2.St} (S : St2 K H0 Hs H σ Γ) (j : Nat) : St2 K H0 Hs H (σ.set j none) (Γ.set j .no) := by
  refine ⟨S.sub, by simpa using S.len, fun m e o h1 h2 => ?_, fun m n e f a b hn h1 h2 o1 o2 s1 s2 => ?_⟩
  · by_cases hm : m = j
    · subst hm
      have l1 : m < Γ.length := by have := (List.getElem?_eq_some_iff.mp h1).1; simpa using this
      rw [List.getElem?_set_self l1] at h1
      cases h1
      trivial
    · rw [List.getElem?_set_ne (Ne.symm hm)] at h1 h2
      exact S.ent m e o h1 h2
  · by_cases hm : m = j
    · subst hm
      have l1 : m < Γ.length := by have := (List.getElem?_eq_some_iff.mp h1).1; simpa using this
      rw [List.getElem?_set_self l1] at h1
      cases h1; cases o1
    · by_cases hk : n = j
      · subst hk
        have l1 : n < Γ.length := by have := (List.getElem?_eq_some_iff.mp h2).1; simpa using this
        rw [List.getElem?_set_self l1] at h2
        cases h2; cases o2
      · rw [List.getElem?_set_ne (Ne.symm hm)] at h1 s1
        rw [List.getElem?_set_ne (Ne.symm hk)] at h2 s2
        exact S.dis m n e f a b hn h1 h2 o1 o2 s1 s2
/-- the slots of the names vs forgotten -/
def wipeΓ (Γ : List Ent) : List Nat → List Ent
  | [] => Γ
  | v :: vs => (wipeΓ Γ vs).set v .no
theorem st2_wipes {K : PySem.W.Frag} {H0 Hs H : Hp} {σ : L2.St} (S : St2 K H0 Hs H σ Γ) : ∀ vs : List Nat, St2 K H0 Hs H (wipe σ vs) (wipeΓ Γ vs)
  | [] => S
  | v :: vs => st2_wipe (st2_wipes S vs) v
theorem wipe_set {σ : L2.St} {i : Nat} {o : Option V} : ∀ {vs : List Nat}, i ∈ vs → wipe (σ.set i o) vs = wipe σ vs
  | [], h => by cases h
  | v :: vs, h => by
    show (wipe (σ.set i o) vs).set v none = (wipe σ vs).set v none
    by_cases hv : i ∈ vs
    · rw [wipe_set hv]
    · have e : i = v := by
        rcases List.mem_cons.mp h with z | z
        · exact z
        · exact absurd z hv
      subst e
      have q : ∀ (τ : L2.St) (us : List Nat), i ∉ us → wipe (τ.set i o) us = (wipe τ us).set i o := by
        intro τ us
        induction us with
        | nil => intro _; rfl
        | cons u us ih =>
          intro hu
          show (wipe (τ.set i o) us).set u none = ((wipe τ us).set u none).set i o
          rw [ih (fun z => hu (List.mem_cons_of_mem _ z)), List.set_comm _ _ (fun z => hu (by rw [z]; exact List.mem_cons_self))]
      rw [q σ vs hv, List.set_set]
theorem wipe_wipe {σ : L2.St} : ∀ {vs : List Nat}, wipe (wipe σ vs) vs = wipe σ vs := by
  have key : ∀ (us vs : List Nat) (τ : L2.St), (∀ u ∈ us, u ∈ vs) → wipe (wipe τ us) vs = wipe τ vs := by
    intro us
    induction us with
    | nil => intro vs τ _; rfl
    | cons u us ih =>
      intro vs τ h
      show wipe ((wipe τ us).set u none) vs = _
      rw [wipe_set (h u List.mem_cons_self)]
      exact ih vs τ fun z hz => h z (List.mem_cons_of_mem _ hz)
  intro vs
  exact key vs vs σ fun _ h => h
theorem tLc_ok {wi : TI} {g : TG} {vs : List Nat} {n : Nat} {y : Nat → List Ent → List Ent} {tt : TT} {te : TE} (S0 : Src X wi g vs Γ n y) (A : Nat → Da) (hA : ∀ Hs, LstR X.K Hs [] (A 0)) (hz : n ≤ 1000000)
    (ht : ∀ i, i < n → ∃ k : Bool, (∀ (H0 Hs H : Hp) (σ : L2.St), St2 X.K H0 Hs H σ (y i (wipeΓ Γ vs)) → ∀ Q : Bool → Hp → Prop, (∀ Hs2 H2, Stp Hs H Hs2 H2 → Q k H2) → tt σ H Q) ∧
      (k = true → ∃ e', (∀ (H0 Hs H : Hp) (σ : L2.St), St2 X.K H0 Hs H σ (y i (wipeΓ Γ vs)) → ∀ Q : VK, (∀ v Hs2 H2, Stp Hs H Hs2 H2 → DR X.K Hs2 v e' → Q v H2) → te σ H Q) ∧ snoc (A i) e' = some (A (i + 1))) ∧ (k = false → A (i + 1) = A i))
    (hlen : ∀ i, i ≤ n → dlen (A i) ≤ i) {H0 Hs H : Hp} {σ : L2.St} (S : St2 X.K H0 Hs H σ Γ) {Q : VK} (q : ∀ p us Hs2 H2, Stp Hs H Hs2 H2 → H p = none → Hs2 p = none → H2 p = some (.lst us) → LstR X.K Hs2 us (A n) → Q (.ref p) H2) :
    tLc wi g tt te vs σ H Q := S0 H0 Hs H σ S _ fun J Hs2 H2 t2 T => by
  intro D hD
  have hDs : H D = none := Same.free t2.h hD
  refine ⟨fun i m H' => m + i = n ∧ Lc X.K H0 Hs H Hs2 D (wipe σ vs) (wipeΓ Γ vs) (A i) H', ⟨n, rfl, Hs2, [], t2.trans (stp_own t2.sub hD), Same.refl _, sub_none t2.sub hD, hDs, st2_wipes ((S.step t2).step (stp_own t2.sub hD)) vs, upd_same, hA _⟩, ?_⟩
  rintro i m H' ⟨hm, Hs', us, t', s', n1, n2, S', hh, r⟩
  by_cases hlt : i < n
  · refine .inr ⟨T.go i Hs' H' hlt s' t'.sub, Lc X.K H0 Hs H Hs2 D (wipe σ vs) (wipeΓ Γ vs) (A (i + 1)), fun H3 z => ⟨m - 1, by omega, by omega, z⟩, fun v H'' hy => ?_⟩
    refine T.yld i v H0 Hs' H' H'' (wipe σ vs) (wipeΓ Γ vs) _ hlt s' S' hy fun σ3 Hs3 H3 t3 S3 hw => ⟨by rw [hw, wipe_wipe], ?_⟩
    obtain ⟨k, h1, h2, h3⟩ := ht i hlt
    have hDne : H' D ≠ none := by rw [hh]; intro z; cases z
    refine h1 H0 Hs3 H3 σ3 S3 _ fun Hs4 H4 t4 => ?_
    have t34 := t3.trans t4
    cases k with
    | true =>
      obtain ⟨e', he, hsn⟩ := h2 rfl
      refine he H0 Hs4 H4 σ3 (S3.step t4) _ fun u Hs5 H5 t5 r5 => ?_
      have t35 := t34.trans t5
      have hD5 := t35.h _ _ hh
      have nD5 := t35.own D _ hh rfl n1
      refine ⟨us, hD5, ?_, Hs5, us ++ [u], ?_, s'.trans t35.s, nD5, n2, ?_, upd_same, (r.ex t35.s).snoc r5 hsn⟩
      · rw [r.len]
        exact Nat.lt_of_le_of_lt (hlen i (by omega)) (Nat.lt_of_lt_of_le (Nat.lt_of_lt_of_le hlt hz) (by decide))
      · have t0 := t'.trans t35
        exact ⟨t0.s, fun b o z => by rw [upd_ne (show b ≠ D from fun q => by rw [q, n2] at z; cases z)]; exact t0.h b o z, fun b o z => by rw [upd_ne (show b ≠ D from fun q => by rw [q, nD5] at z; cases z)]; exact t0.sub b o z, t0.own⟩
      · -- the slots do not hold D
        have S5 := S'.step t35
        refine ⟨fun b o z => by rw [upd_ne (show b ≠ D from fun q => by rw [q, nD5] at z; cases z)]; exact S5.sub b o z, S5.len, fun m' e'' o h1' h2' => ?_, S5.dis⟩
        have z := S5.ent m' e'' o h1' h2'
        have zD : ∀ a, e''.isOwn = true → o = some (.ref a) → a ≠ D := fun a ho hoa hz' => by
          -- an own slot's object stands in H (it was there when the comprehension began)
          subst hz'
          have hΓ : (wipeΓ Γ vs)[m']? = some e'' := h1'
          have key : ∀ (us' : List Nat), (wipeΓ Γ us')[m']? = some e'' → (wipe σ us')[m']? = some o → Γ[m']? = some e'' ∧ σ[m']? = some o := by
            intro us'
            induction us' with
            | nil => exact fun h h' => ⟨h, h'⟩
            | cons u us' ih =>
              intro h h'
              have hmu : m' ≠ u := fun z => by
                subst z
                have l1 : m' < (wipeΓ Γ us').length := by
                  have := (List.getElem?_eq_some_iff.mp h).1
                  simpa [wipeΓ] using this
                have h'' : ((wipeΓ Γ us').set m' Ent.no)[m']? = some e'' := h
                rw [List.getElem?_set_self l1] at h''
                cases h''
                cases ho
              have h1'' : ((wipeΓ Γ us').set u Ent.no)[m']? = some e'' := h
              have h2'' : ((wipe σ us').set u none)[m']? = some o := h'
              rw [List.getElem?_set_ne (Ne.symm hmu)] at h1'' h2''
              exact ih h1'' h2''
          obtain ⟨k1, k2⟩ := key vs hΓ h2'
          obtain ⟨a', ea, _, _, e4⟩ := (S.ent m' e'' o k1 k2).addr ho
          rw [hoa] at ea
          cases ea
          exact e4 n2
        cases e'' with
        | no => trivial
        | val d => exact z
        | own d => obtain ⟨b, ws, a1, a2, a3, a4, a5⟩ := z; exact ⟨b, ws, a1, a2, a3, by rw [upd_ne (zD b rfl a1)]; exact a4, a5⟩
        | dT d => obtain ⟨b, a1, a2, a3, a4⟩ := z; exact ⟨b, a1, a2, a3, by rw [upd_ne (zD b rfl a1)]; exact a4⟩
        | dK d => obtain ⟨b, a1, a2, a3, a4⟩ := z; exact ⟨b, a1, a2, a3, by rw [upd_ne (zD b rfl a1)]; exact a4⟩
    | false =>
      refine ⟨Hs4, us, t'.trans t34, s'.trans t34.s, t34.own D _ hh rfl n1, n2, S'.step t34, t34.h _ _ hh, ?_⟩
      rw [h3 rfl]
      exact r.ex t34.s
  · have e : i = n := by omega
    subst e
    exact .inl ⟨T.stop Hs' H' s' t'.sub, q D us Hs' H' t' n2 n1 hh r⟩
/-- [elt for tg in iter] -/
theorem el_lc0 {tg iter elt : Expr} {scope : Scope} {own : List (Str × Nat)} {wi : TI} {g : TG} {n : Nat} {y : Nat → List Ent → List Ent} (hc : X.calm = true) (hN : X.N.Nodup) (hi : PI X tg iter wi) (ok : BlkOk X.N X.env.scope scope own)
    (hg : ∀ (s : Shared) (H : Hp) (C : Addr) (cl : List (Str × Addr)) (fp : List Addr), PG (bX X scope s H C cl fp) tg g) (S0 : Src X wi g (own.map (·.2)) Γ n y) (A : Nat → Da) (hA : ∀ Hs, LstR X.K Hs [] (A 0)) (hz : n ≤ 1000000)
    (ht : ∀ i, i < n → ∃ e', EVb X scope elt (y i (wipeΓ Γ (own.map (·.2)))) e' ∧ snoc (A i) e' = some (A (i + 1))) (hlen : ∀ i, i ≤ n → dlen (A i) ≤ i) (hs : ∀ x, foldedSetIterable iter X.env x = pure x := by intro _; rfl) :
    EL X (.ListComp elt [⟨tg, iter, [], 0⟩] scope pos) Γ (A n) := fun H0 Hs H σ S Q q =>
  wE_of (pe_lc hc hN hi ok hg (fun _ _ _ _ _ => pts_nil) (fun s H C cl fp => peWb s H C cl fp) hs) (tLc_ok S0 A hA hz (fun i hi => by
    obtain ⟨e', h1, h2⟩ := ht i hi
    exact ⟨true, fun H0 Hs H σ S Q q => q Hs H (Stp.refl S.sub), fun _ => ⟨e', fun H0 Hs H σ S Q q s Hb C cl fp => h1 s Hb C cl fp H0 Hs H σ S Q q, h2⟩, fun z => by cases z⟩) hlen S q)
/-- [elt for tg in iter if cond] -/
theorem el_lc1 {tg iter elt cond : Expr} {scope : Scope} {own : List (Str × Nat)} {wi : TI} {g : TG} {n : Nat} {y : Nat → List Ent → List Ent} (hc : X.calm = true) (hN : X.N.Nodup) (hi : PI X tg iter wi) (ok : BlkOk X.N X.env.scope scope own)
    (hg : ∀ (s : Shared) (H : Hp) (C : Addr) (cl : List (Str × Addr)) (fp : List Addr), PG (bX X scope s H C cl fp) tg g) (S0 : Src X wi g (own.map (·.2)) Γ n y) (A : Nat → Da) (hA : ∀ Hs, LstR X.K Hs [] (A 0)) (hz : n ≤ 1000000)
    (ht : ∀ i, i < n → ∃ k, ETb X scope cond (y i (wipeΓ Γ (own.map (·.2)))) k ∧ (k = true → ∃ e', EVb X scope elt (y i (wipeΓ Γ (own.map (·.2)))) e' ∧ snoc (A i) e' = some (A (i + 1))) ∧ (k = false → A (i + 1) = A i)) (hlen : ∀ i, i ≤ n → dlen (A i) ≤ i)
    (hs : ∀ x, foldedSetIterable iter X.env x = pure x := by intro _; rfl) :
    EL X (.ListComp elt [⟨tg, iter, [cond], 0⟩] scope pos) Γ (A n) := fun H0 Hs H σ S Q q =>
  wE_of (pe_lc hc hN hi ok hg (fun s H C cl fp => pts_one (ptWb s H C cl fp)) (fun s H C cl fp => peWb s H C cl fp) hs) (tLc_ok S0 A hA hz (fun i hi => by
    obtain ⟨k, h1, h2, h3⟩ := ht i hi
    exact ⟨k, fun H0 Hs H σ S Q q s Hb C cl fp => h1 s Hb C cl fp H0 Hs H σ S Q q, fun z => by
      obtain ⟨e', h4, h5⟩ := h2 z
      exact ⟨e', fun H0 Hs H σ S Q q s Hb C cl fp => h4 s Hb C cl fp H0 Hs H σ S Q q, h5⟩, h3⟩) hlen S q)
/-! ### the sources -/
def itd (d : Da) (i : Nat) : Da := (item d i).getD .non
theorem itd_of (hl : isLst d = true) {i : Nat} (h : i < dlen d) : item d i = some (itd d i) := by
  obtain ⟨d', e⟩ := item_of hl h
  unfold itd
  rw [e]; rfl
theorem src_list {t : TE} (j : Nat) (hl : isLst d = true) (h : ∀ (H0 Hs H : Hp) (σ : L2.St), St2 X.K H0 Hs H σ Γ → ∀ Q : VK, (∀ v Hs2 H2, Stp Hs H Hs2 H2 → DR X.K Hs2 v d → Q v H2) → t σ H Q) :
    Src X (iList X.K t) (gName j) [j] Γ (dlen d) (fun i Γ' => Γ'.set j (.val (itd d i))) := fun H0 Hs H σ S R r => h H0 Hs H σ S _ fun v Hs2 H2 t2 rv => by
  obtain ⟨a, vs, ev, q, hr⟩ := rv.lst hl
  refine ⟨a, ev, ⟨vs, sqL_ex t2.sub q⟩, r _ Hs2 H2 t2 ⟨fun i Hs' H' hi s' u' => ?_, fun Hs' H' s' u' => ⟨vs, sqL_ex u' (sqL_ex s' q), by rw [hr.len]; exact Nat.le_refl _⟩, fun i x H0' Hs' H' H'' σ' Γ' Q hi s' S' hy k => ?_⟩⟩
  · have hiv : i < vs.length := by rw [hr.len]; exact hi
    exact ⟨vs, vs[i], sqL_ex u' (sqL_ex s' q), List.getElem?_eq_getElem hiv⟩
  · obtain ⟨e1, e2⟩ := hy
    subst e1
    have hx := e2 vs (sqL_ex S'.sub (sqL_ex s' q))
    obtain ⟨y, hy, ry⟩ := hr.get (itd_of hl hi)
    rw [hx] at hy
    cases hy
    exact k _ Hs' _ (Stp.refl S'.sub) (S'.set j (ry.ex s')) wipe1
theorem src_tw {t : TE} {ws : List (List Int)} (j : Nat) (h : ∀ (H0 Hs H : Hp) (σ : L2.St), St2 X.K H0 Hs H σ Γ → ∀ Q : VK, (∀ v Hs2 H2, Stp Hs H Hs2 H2 → DR X.K Hs2 v (.tw ws) → Q v H2) → t σ H Q) :
    Src X (iTup X.K t) (gName j) [j] Γ ws.length (fun i Γ' => Γ'.set j (.val (.wd (ws.getD i [])))) := fun H0 Hs H σ S R r => h H0 Hs H σ S _ fun v Hs2 H2 t2 ⟨a, vs, ev, q, hr⟩ => by
  have hl := hr.length
  refine ⟨a, ev, ⟨vs, sqT_ex t2.sub q⟩, r _ Hs2 H2 t2 ⟨fun i Hs' H' hi s' u' => ?_, fun Hs' H' s' u' => ⟨vs, sqT_ex u' (s' _ _ q), by omega⟩, fun i x H0' Hs' H' H'' σ' Γ' Q hi s' S' hy k => ?_⟩⟩
  · have hiv : i < vs.length := by omega
    exact ⟨vs, vs[i], sqT_ex u' (s' _ _ q), List.getElem?_eq_getElem hiv⟩
  · obtain ⟨e1, e2⟩ := hy
    subst e1
    have hx := e2 vs (sqT_ex S'.sub (s' _ _ q))
    have hw : ws[i]? = some (ws.getD i []) := by rw [List.getD_eq_getElem?_getD, List.getElem?_eq_getElem hi]; rfl
    obtain ⟨y, hy, ry⟩ := pget1 hr hw
    rw [hx] at hy
    cases hy
    exact k _ Hs' _ (Stp.refl S'.sub) (S'.set j (d := .wd (ws.getD i [])) (ry.ex s')) wipe1
theorem turns_range (j : Nat) {lo : Int} {n : Nat} {Hs : Hp} : Turns X (gName j) [j] n (fun i Γ' => Γ'.set j (.val (.int (lo + (i : Int))))) Hs (Itr lo n) :=
  ⟨fun i _ _ hi _ _ => hi, fun _ _ _ _ => Nat.le_refl _, fun i x H0' Hs' H' H'' σ' Γ' Q hi s' S' hy k => by
    obtain ⟨e1, e2⟩ := hy
    subst e1 e2
    exact k _ Hs' _ (Stp.refl S'.sub) (S'.set j (d := .int (lo + (i : Int))) rfl) wipe1⟩
theorem src_r1 {t : TA} (j : Nat) (hb : -100000 ≤ i ∧ i ≤ 100000) (h : ∀ (H0 Hs H : Hp) (σ : L2.St), St2 X.K H0 Hs H σ Γ → ∀ Q : List V → Hp → Prop, (∀ vs Hs2 H2, Stp Hs H Hs2 H2 → Paired (DR X.K Hs2) vs [.int i] → Q vs H2) → t σ H Q) :
    Src X (iRng1 t) (gName j) [j] Γ i.toNat (fun k Γ' => Γ'.set j (.val (.int ((0 : Int) + (k : Int))))) := fun H0 Hs H σ S R r => h H0 Hs H σ S _ fun vs Hs2 H2 t2 rv => by
  obtain ⟨v, rfl, rv'⟩ := p1 rv
  have ev : v = .int i := rv'
  subst ev
  exact ⟨i, rfl, by omega, by omega, r _ Hs2 H2 t2 (turns_range j)⟩
theorem src_r2 {t : TA} {lo : Int} (j : Nat) (hb : -100000 ≤ lo ∧ lo ≤ 100000 ∧ -100000 ≤ i ∧ i ≤ 100000) (h : ∀ (H0 Hs H : Hp) (σ : L2.St), St2 X.K H0 Hs H σ Γ → ∀ Q : List V → Hp → Prop, (∀ vs Hs2 H2, Stp Hs H Hs2 H2 → Paired (DR X.K Hs2) vs [.int lo, .int i] → Q vs H2) → t σ H Q) :
    Src X (iRng2 t) (gName j) [j] Γ (i - lo).toNat (fun k Γ' => Γ'.set j (.val (.int (lo + (k : Int))))) := fun H0 Hs H σ S R r => h H0 Hs H σ S _ fun vs Hs2 H2 t2 rv => by
  obtain ⟨v, u, rfl, r1, r2⟩ := p2 rv
  have ev : v = .int lo := r1
  have eu : u = .int i := r2
  subst ev eu
  exact ⟨lo, i, rfl, ⟨by omega, by omega, by omega, by omega⟩, r _ Hs2 H2 t2 (turns_range j)⟩
/-- range(a, b, -1) -/
theorem src_r3 {t : TA} {lo c : Int} {n : Nat} (j : Nat) (hr : RgC lo i c n) (h : ∀ (H0 Hs H : Hp) (σ : L2.St), St2 X.K H0 Hs H σ Γ → ∀ Q : List V → Hp → Prop, (∀ vs Hs2 H2, Stp Hs H Hs2 H2 → Paired (DR X.K Hs2) vs [.int lo, .int i, .int c] → Q vs H2) → t σ H Q) :
    Src X (iRng3 t) (gName j) [j] Γ n (fun k Γ' => Γ'.set j (.val (.int (lo + (k : Nat) * c)))) := fun H0 Hs H σ S R r => h H0 Hs H σ S _ fun vs Hs2 H2 t2 rv => by
  cases rv with
  | cons r1 rv =>
    obtain ⟨v, u, rfl, r2, r3⟩ := p2 rv
    have e1 : _ = V.int lo := r1
    have e2 : v = .int i := r2
    have e3 : u = .int c := r3
    subst e1 e2 e3
    refine ⟨lo, i, c, n, rfl, hr, r _ Hs2 H2 t2 ⟨fun i _ _ hi _ _ => hi, fun _ _ _ _ => Nat.le_refl _, fun i x H0' Hs' H' H'' σ' Γ' Q hi s' S' hy k => ?_⟩⟩
    obtain ⟨e1, e2⟩ := hy
    subst e1 e2
    exact k _ Hs' _ (Stp.refl S'.sub) (S'.set j (d := .int (lo + (i : Nat) * c)) rfl) wipe1
end
end K54

set_option Elab.async false
set_option linter.all false
set_option maxRecDepth 100000
set_option maxHeartbeats 4000000
/-! J5: isinstance, enumerate of tuples, zip, fields, methods. -/
namespace PySem
open Sem (wp)
open AutoSeq1 (wpAny_loadPart')
theorem meets_enumerate_newK54 (l : Addr) (items : Array Value) (n : Nat) (dct : Option Addr) (sl : Array (Option Value)) :
    Meets (Builtin.«enumerate.__new__» ⟨[.type "enumerate", .ref l], []⟩) (fun _ R s => s.heap.get? l = some { cls := .type "tuple", dict := dct, data := .seq items n, slots := sl } ∧
      R (.ok (.ret (.ref (s.heap.push { cls := .type "tuple_iterator", data := .fields #[.ref l, .int 0 0] }).objs.size)))
        { s with heap := (s.heap.push { cls := .type "tuple_iterator", data := .fields #[.ref l, .int 0 0] }).push { cls := .type "enumerate", data := .fields #[.none, .bool false, .ref s.heap.objs.size, rawInt 0, .none, .none] } }) :=
  .of_wp fun prog w A R s h => by
    obtain ⟨hp, g, d, tk, os⟩ := s; obtain ⟨hl, h⟩ := h
    have hsub := sub_enumerate
    have hL : Heap.IsTuple (Shared.heap ⟨hp, g, d, tk, os⟩) l items := ⟨_, hl, rfl, n, rfl⟩
    wp_walk using wpAny_loadPart' hl
    refine wpAny_stack_any fun st => wpAny_pure ?_
    split
    · rename_i c _ _ _ _ _
      cases (c == Value.type "enumerate")
      · wp_walk using wpAny_loadPart' hl, wpAny_pyIter_tuple hL
        exact ⟨_, rfl, h⟩
      · wp_walk using wpAny_loadPart' hl, wpAny_pyIter_tuple hL
        exact ⟨_, rfl, h⟩
    · wp_walk using wpAny_loadPart' hl, wpAny_pyIter_tuple hL
      exact ⟨_, rfl, h⟩
section
variable {prog : Program} {w : World} {A : Around} {E : Value → Shared → Prop} {s : Shared}
theorem call_enumerate_tup54 {l : Addr} {items : Array Value} {Q : Value → Shared → Prop} (hL : s.heap.IsTuple l items)
    (h : ∀ h', IsEnum h' (s.heap.objs.size + 1) s.heap.objs.size 0 .none → h'.IsTupleIter s.heap.objs.size l 0 → h'.objs.size = s.heap.objs.size + 2 →
      (∀ b o, s.heap.get? b = some o → h'.get? b = some o) → Q (.ref (s.heap.objs.size + 1)) { s with heap := h' }) :
    wpAny (model prog w) A (call (.type "enumerate") [.ref l]) Q E s := by
  obtain ⟨⟨c, dct, dt, sl⟩, hl, hc, n, hd⟩ := hL
  replace hc : c = .type "tuple" := hc
  replace hd : dt = .seq items n := hd
  subst hc hd
  refine callType_new F.called_enumerate (by decide) (F.typeCall_enumerate_1 _) (F.newCall_enumerate_1 _) (fun obj => F.args_object_init_2 obj _) F.entry_enumerate_new
    (meets_enumerate_newK54 l items n dct sl) ⟨hl, ?_⟩
  have hz : (s.heap.push { cls := .type "tuple_iterator", data := .fields #[.ref l, .int 0 0] }).objs.size = s.heap.objs.size + 1 := Heap.size_push ..
  show _ ∧ _
  rw [hz]
  have he : IsEnum ((s.heap.push { cls := .type "tuple_iterator", data := .fields #[.ref l, .int 0 0] }).push
      { cls := .type "enumerate", data := .fields #[.none, .bool false, .ref s.heap.objs.size, rawInt 0, .none, .none] }) (s.heap.objs.size + 1) s.heap.objs.size 0 .none := by
    have := Heap.get?_push_size (s.heap.push { cls := .type "tuple_iterator", data := .fields #[.ref l, .int 0 0] })
      (o := { cls := .type "enumerate", data := .fields #[.none, .bool false, .ref s.heap.objs.size, rawInt 0, .none, .none] }) rfl
    rw [hz] at this; exact this
  refine ⟨⟨_, he, rfl⟩, h _ he ⟨_, Heap.get?_push_of_some _ (Heap.get?_push_size _ rfl), rfl, rfl⟩ (by rw [Heap.size_push, hz]) fun b o x => Heap.get?_push_of_some _ (Heap.get?_push_of_some _ x)⟩
end
end PySem
namespace K54
open PySem PySem.Spec PyProof.Rows L2

/-! ### enumerate(tuple) -/
def IteT (K : PySem.W.Frag) (a : Addr) : It :=
  ⟨fun i H => ∃ (xs : List V) (x : V), SqT K H a xs ∧ xs[i]? = some x, fun i H v H' => ∃ T x, v = .ref T ∧ H T = none ∧ H' = upd H T (.tup [.int (i : Nat), x]) ∧ ∀ xs, SqT K H a xs → xs[i]? = some x, fun i H => ∃ xs : List V, SqT K H a xs ∧ xs.length ≤ i⟩
theorem turn_enumT {P : Program} {w : World} {K : PySem.W.Frag} {elts : List Expr} {kk : Nat} {tpos : Pos} (a e it : Addr) (hai : a ≠ it) (hae : a ≠ e) :
    Turn P w K (.Tuple elts kk tpos) (IteT K a) [e, it] e (fun i h => (∃ old, IsEnum h e it ((i : Nat) : Int) old) ∧ h.IsTupleIter it a i ∧ e ≠ it) where
  mem := by simp
  obj := fun i h st b hb => by
    obtain ⟨⟨old, he⟩, ⟨o, ho, hc, hd⟩, _⟩ := st
    have e' : b = e ∨ b = it := by simpa using hb
    rcases e' with z | z
    · rw [z]; exact ⟨_, he, fun v q => nomatch q⟩
    · rw [z]; exact ⟨o, ho, fun v q => by rw [hd] at q; cases q⟩
  keep := fun i h h' st k => let ⟨⟨old, he⟩, hi, hne⟩ := st; ⟨⟨old, k e (by simp) _ he⟩, hi.at fun o q => k it (by simp) o q, hne⟩
  item := by
    intro X hP hw hK hc i pins s σ H E I hf st hg
    subst hP hw hK
    obtain ⟨⟨old, he⟩, hit, hne⟩ := st
    obtain ⟨xs, x, hq, hx⟩ := hg
    obtain ⟨its, rv, p, hz⟩ := I.tuple hq
    obtain ⟨u, hu, ru⟩ := rv.get hx
    have hel : e < s.heap.objs.size := Heap.lt_size he
    have hil : it < s.heap.objs.size := by obtain ⟨_, q, _⟩ := hit; exact Heap.lt_size q
    have D := Draws.tuple (prog := X.prog) (w := X.w) (A := X.A.in1) (I.ok.hd hc) it a hai its.toArray
    have hsz : i < its.toArray.size := by
      have := (List.getElem?_eq_some_iff.mp hu).1
      simpa using this
    refine wpAny_pyNext_enum_itemD D he ⟨hit, p⟩ hsz hne (by simp [hne]; exact fun z => hae z.symm) fun x' h' tk hx' ho st' hT hsz' hk => ?_
    have ex : x' = u := by
      have q : its[i]? = some x' := by simpa using hx'
      rw [hu] at q
      cases q; rfl
    subst ex
    refine ⟨_, rfl, wpAny_letOwnedTupleGo_enum (s := { s with heap := h', toks := tk + 1 }) ho fun h'' he' sb => ?_⟩
    have hT2 : h''.get? s.heap.objs.size = some { cls := .type "tuple", data := .seq #[.int i tk, x'] } := (sb.2 _ (Nat.ne_of_gt hel)).trans hT
    have new : ObjOk X.prog X.w (upd H s.heap.objs.size (.tup [.int (i : Nat), x])) h'' s.heap.objs.size (.tup [.int (i : Nat), x]) :=
      ⟨by show 2 ≤ sizeLine; decide, [.int i tk, x'], .cons ⟨_, rfl⟩ (.cons ru .nil), ⟨_, hT2, rfl, _, rfl⟩⟩
    have I1 : Inv X pins σ (upd H s.heap.objs.size (.tup [.int (i : Nat), x])) { s with heap := h'', toks := tk + 1 } :=
      I.turnedNew (ch := [e, it]) (fun b ob hb q => (sb.2 b (fun z => hb (by simp [z]))).trans (hk b ob (fun z => hb (by simp [z])) (fun z => hb (by simp [z])) q)) hf (Nat.le_refl _) new
    refine ⟨.ref s.heap.objs.size, _, I1, rfl, ⟨_, x, rfl, I.hok.fresh (Nat.le_refl _), rfl, fun ys hy => by rw [I.tuple_inj hy hq]; exact hx⟩, ⟨⟨x', ?_⟩, st'.1.at fun o q => (sb.2 it (Ne.symm hne)).trans q, hne⟩, fun b hb => ?_⟩
    · have e1 : ((i + 1 : Nat) : Int) = (i : Int) + 1 := by omega
      rw [e1]; exact he'
    · have hb' : b < s.heap.objs.size := by
        have e' : b = e ∨ b = it := by simpa using hb
        rcases e' with z | z
        · rw [z]; exact hel
        · rw [z]; exact hil
      rw [upd_ne (Nat.ne_of_lt hb')]
      exact (hf b hb).1
  done := by
    intro X hP hw hK hc i pins s σ H E I hf st hg
    subst hP hw hK
    obtain ⟨⟨old, he⟩, hit, hne⟩ := st
    obtain ⟨xs, hq, hx⟩ := hg
    obtain ⟨its, rv, p, hz⟩ := I.tuple hq
    obtain ⟨f0, f1, f2, f3, f4, f5⟩ := hf it (by simp)
    have hl := rv.length
    have D := Draws.tuple (prog := X.prog) (w := X.w) (A := X.A.in1) (I.ok.hd hc) it a hai its.toArray
    -- the iterator stands at i ≥ its length: its state is the end's
    have hend : ∀ (s : Shared) (Q : Value → Shared → Prop) (E : Value → Shared → Prop), s.heap.IsTupleIter it a i → s.heap.IsTuple a its.toArray →
        (∀ h' e, Heap.ExtBut it s.heap h' → (∃ o, h'.get? e = some o ∧ o.cls = .type "StopIteration") → E (.ref e) { s with heap := h' }) → wpAny (model X.prog X.w) X.A.in1 (Builtin.SmallTypes.nextOf (.ref it)) Q E s :=
      fun s Q E h1 h2 h3 => wpAny_nextOf_tuple_end (I.ok.hd hc) h1 h2 (by simp; omega) h3
    have hT : s.TypeIs (.ref e) "enumerate" := ⟨_, he, rfl⟩
    unfold pyNext
    refine wpAny_bind (wpAny_attempt (wpAny_callSpecial?_slot (name := Str.ofString "__next__") hT F.slot_enumerate_next
      (wpAny_call_entry F.slot_enumerate_next hT F.entry_enumerate_next ?_ (F.args_enumerate_next_1 _))))
    show wpAny _ _ (field (.ref e) 2 >>= _) _ _ _
    refine wpAny_bind (wpAny_field he rfl (x := .ref it) rfl ?_)
    refine wpAny_bind (hend _ _ _ hit p fun h' x he' hx' => ?_)
    obtain ⟨o, ho, hc'⟩ := hx'
    refine wpAny_bind (wpAny_isInstance (T := "StopIteration") (b := true) ⟨o, ho, hc'⟩ isSubtype_stop ?_)
    exact wpAny_pure ⟨rfl, I.turned (t' := s.toks) (fun b o hb q => he' b o hb q) f0 f1 f3 f4 f5⟩
  self := fun A i s Q E st h => let ⟨⟨_, he⟩, _⟩ := st; wpAny_pyIter_enum he h
def iEnumT (K : PySem.W.Frag) (ta : TA) : TI := fun σ H R => ta σ H fun vs H1 => ∃ a xs, vs = [.ref a] ∧ SqT K H1 a xs ∧ R (IteT K a) H1
theorem pi_enumT {X : Cx} {e : Expr} {ta : TA} {p pos tpos : Pos} {elts : List Expr} {kk : Nat} (hg : Gl X "enumerate") (hm : X.mg "enumerate" = none) (ha : PA X [e] ta) (hs : starEach [e] X.env = [(false, eval e X.env)] := by rfl) :
    PI X (.Tuple elts kk tpos) (.Call (.Name "enumerate" p) [e] [] pos) (iEnumT X.K ta) := by
  refine ⟨fun pins s σ H R I h => ?_⟩
  refine Call_ (ld_blt I hg hm boot_enumerate (PyProof.Rows.callWith_type1 (thn (ha.run pos pins s σ H _ I h) fun us s1 ⟨vs, H1, I1, r1, q1⟩ => ?_) hs rfl))
  obtain ⟨a, xs, ex, hq, q⟩ := q1
  subst ex
  cases r1 with
  | cons r rr =>
    cases rr
    cases r
    obtain ⟨its, rv, p', hz⟩ := I1.tuple hq
    have hal : a < s1.heap.objs.size := p'.lt
    refine call_enumerate_tup54 p' fun h' he hit hsz hk => wpAny_pyIter_enum he ?_
    have I2 : Inv X pins σ H1 { s1 with heap := h' } := I1.kept (t' := s1.toks) hk
    refine ⟨s1.heap.objs.size + 1, [s1.heap.objs.size + 1, s1.heap.objs.size], _, _, H1, rfl, I2, turn_enumT a (s1.heap.objs.size + 1) s1.heap.objs.size (Nat.ne_of_lt hal) (Nat.ne_of_lt (Nat.lt_succ_of_lt hal)), ⟨⟨.none, he⟩, hit, Nat.succ_ne_self _⟩, fun b hb => ?_, q⟩
    have e' : b = s1.heap.objs.size + 1 ∨ b = s1.heap.objs.size := by simpa using hb
    have hle : s1.heap.objs.size ≤ b := by
      rcases e' with z | z
      · rw [z]; exact Nat.le_add_right _ _
      · rw [z]; exact Nat.le_refl _
    exact I1.fpOk hle (I1.hok.fresh hle)
section
variable {X : Cx} {a b c e o : Expr} {es : List Expr} {Γ : List Ent} {pos : Pos} {d d1 d2 : Da} {ds dd : List Da} {i j : Int} {P : Pst} {k : Nat} {x : Str} {R : Rel}
/-! ### two targets -/
/-- the target m, n of a new pair -/
abbrev gPair (K : PySem.W.Frag) (m n : Nat) : TG := gTup K 2 (gCons (gName m) (gCons (gName n) gNil))
theorem pair_store {K : PySem.W.Frag} {m n : Nat} {T : Addr} {x y : V} {σ : L2.St} {H : Hp} {Q : L2.St → Hp → Prop} (h : SqT K H T [x, y]) (q : Q ((σ.set m (some x)).set n (some y)) H) : gPair K m n (.ref T) σ H Q :=
  ⟨T, [x, y], rfl, h, rfl, x, [y], rfl, y, [], rfl, rfl, q⟩
theorem pg_pair {m n : Nat} {x y : Str} {p1 p2 p3 : Pos} {kk : Nat} (hc : X.calm = true) (hN : X.N.Nodup) (hm : X.N[m]? = some x) (hn : X.N[n]? = some y) (hx : Loc X.env.scope x) (hy : Loc X.env.scope y)
    (hf : X.fn x = true ∨ X.env.scope.names.lookup x = some .local) (hf2 : X.fn y = true ∨ X.env.scope.names.lookup y = some .local)
    (h1 : (assignEach [.Name x p1, .Name y p2] X.env).map (·.2) = assign (.Name x p1) X.env :: (assignEach [.Name y p2] X.env).map (·.2) := by rfl)
    (h2 : (assignEach [.Name y p2] X.env).map (·.2) = assign (.Name y p2) X.env :: (assignEach [] X.env).map (·.2) := by rfl)
    (hl : (assignEach [.Name x p1, .Name y p2] X.env).length = 2 := by rfl) (hst : (assignEach [.Name x p1, .Name y p2] X.env).findIdx? (·.1) = none := by rfl) :
    PG X (.Tuple [.Name x p1, .Name y p2] kk p3) (gPair X.K m n) :=
  pg_tup hc (pgs_cons (pg_name hN hm hx hf) (pgs_cons (pg_name hN hn hy hf2) pgs_nil h2) h1) hl hst
theorem wipe2 {σ : L2.St} {m n : Nat} {u v : Option V} : wipe ((σ.set m u).set n v) [m, n] = wipe σ [m, n] := by
  rw [wipe_set (by simp), wipe_set (by simp)]
/-- enumerate of a word -/
theorem src_enumT {t : TA} {w : List Int} (m n : Nat) (h : ∀ (H0 Hs H : Hp) (σ : L2.St), St2 X.K H0 Hs H σ Γ → ∀ Q : List V → Hp → Prop, (∀ vs Hs2 H2, Stp Hs H Hs2 H2 → Paired (DR X.K Hs2) vs [.wd w] → Q vs H2) → t σ H Q) :
    Src X (iEnumT X.K t) (gPair X.K m n) [m, n] Γ w.length (fun i Γ' => (Γ'.set m (.val (.int (i : Int)))).set n (.val (.int (w.getD i 0)))) := fun H0 Hs H σ S R r => h H0 Hs H σ S _ fun vs Hs2 H2 t2 rv => by
  obtain ⟨v, rfl, a, ev, q⟩ := p1 rv
  subst ev
  refine ⟨a, _, rfl, sqT_ex t2.sub q, r _ Hs2 H2 t2 ⟨fun i Hs' H' hi s' u' => ⟨_, _, sqT_ex u' (s' _ _ q), getD_map hi⟩, fun Hs' H' s' u' => ⟨_, sqT_ex u' (s' _ _ q), by rw [List.length_map]; exact Nat.le_refl _⟩, fun i x H0' Hs' H' H'' σ' Γ' Q hi s' S' hy k => ?_⟩⟩
  obtain ⟨T, y, e1, hT, e2, hx⟩ := hy
  subst e1 e2
  have hx' := hx _ (sqT_ex S'.sub (s' _ _ q))
  rw [getD_map hi] at hx'
  cases hx'
  have t3 := stp_new (o := .tup [.int (i : Nat), .int (w.getD i 0)]) S'.sub hT
  exact pair_store (.inl (.inl upd_same)) (k _ _ _ t3 (((S'.step t3).set m (d := .int (i : Int)) rfl).set n (d := .int (w.getD i 0)) rfl) wipe2)
/-- enumerate of a list -/
theorem src_enumL {t : TA} (m n : Nat) (hl : isLst d = true) (h : ∀ (H0 Hs H : Hp) (σ : L2.St), St2 X.K H0 Hs H σ Γ → ∀ Q : List V → Hp → Prop, (∀ vs Hs2 H2, Stp Hs H Hs2 H2 → Paired (DR X.K Hs2) vs [d] → Q vs H2) → t σ H Q) :
    Src X (iEnum X.K t) (gPair X.K m n) [m, n] Γ (dlen d) (fun i Γ' => (Γ'.set m (.val (.int (i : Int)))).set n (.val (itd d i))) := fun H0 Hs H σ S R r => h H0 Hs H σ S _ fun vs Hs2 H2 t2 rv => by
  obtain ⟨v, rfl, rv'⟩ := p1 rv
  obtain ⟨a, us, ev, q, hr⟩ := rv'.lst hl
  subst ev
  refine ⟨a, _, rfl, sqL_ex t2.sub q, r _ Hs2 H2 t2 ⟨fun i Hs' H' hi s' u' => ?_, fun Hs' H' s' u' => ⟨_, sqL_ex u' (sqL_ex s' q), by rw [hr.len]; exact Nat.le_refl _⟩, fun i x H0' Hs' H' H'' σ' Γ' Q hi s' S' hy k => ?_⟩⟩
  · have hiv : i < us.length := by rw [hr.len]; exact hi
    exact ⟨us, us[i], sqL_ex u' (sqL_ex s' q), List.getElem?_eq_getElem hiv⟩
  · obtain ⟨T, y, e1, hT, e2, hx⟩ := hy
    subst e1 e2
    have hx' := hx _ (sqL_ex S'.sub (sqL_ex s' q))
    obtain ⟨y', hy', ry⟩ := hr.get (itd_of hl hi)
    rw [hx'] at hy'
    cases hy'
    have t3 := stp_new (o := .tup [.int (i : Nat), y]) S'.sub hT
    exact pair_store (.inl (.inl upd_same)) (k _ _ _ t3 (((S'.step t3).set m (d := .int (i : Int)) rfl).set n (ry.ex (s'.trans t3.s))) wipe2)
/-- zip of two words of one length -/
theorem src_zip {t : TA} {w u : List Int} (m n : Nat) (hwu : w.length = u.length) (h : ∀ (H0 Hs H : Hp) (σ : L2.St), St2 X.K H0 Hs H σ Γ → ∀ Q : List V → Hp → Prop, (∀ vs Hs2 H2, Stp Hs H Hs2 H2 → Paired (DR X.K Hs2) vs [.wd w, .wd u] → Q vs H2) → t σ H Q) :
    Src X (RZ.iZipA X.K t) (gPair X.K m n) [m, n] Γ w.length (fun i Γ' => (Γ'.set m (.val (.int (w.getD i 0)))).set n (.val (.int (u.getD i 0)))) := fun H0 Hs H σ S R r => h H0 Hs H σ S _ fun vs Hs2 H2 t2 rv => by
  obtain ⟨v, v2, rfl, ⟨a, ev, q⟩, ⟨b, ev2, q2⟩⟩ := p2 rv
  subst ev ev2
  refine ⟨a, b, _, _, rfl, .inr ⟨sqT_ex t2.sub q, sqT_ex t2.sub q2, r _ Hs2 H2 t2 ⟨fun i Hs' H' hi s' u' => ⟨_, _, _, _, sqT_ex u' (s' _ _ q), sqT_ex u' (s' _ _ q2), getD_map hi, getD_map (by omega)⟩,
    fun Hs' H' s' u' => ⟨_, _, sqT_ex u' (s' _ _ q), sqT_ex u' (s' _ _ q2), .inl (by rw [List.length_map]; exact Nat.le_refl _)⟩, fun i x H0' Hs' H' H'' σ' Γ' Q hi s' S' hy k => ?_⟩⟩⟩
  obtain ⟨T, y, y2, e1, hT, e2, hx, hx2⟩ := hy
  subst e1 e2
  have hx' := hx _ (sqT_ex S'.sub (s' _ _ q))
  have hx2' := hx2 _ (sqT_ex S'.sub (s' _ _ q2))
  rw [getD_map hi] at hx'
  rw [getD_map (by omega)] at hx2'
  cases hx'; cases hx2'
  have t3 := stp_new (o := .tup [.int (w.getD i 0), .int (u.getD i 0)]) S'.sub hT
  exact pair_store (.inl (.inl upd_same)) (k _ _ _ t3 (((S'.step t3).set m (d := .int (w.getD i 0)) rfl).set n (d := .int (u.getD i 0)) rfl) wipe2)
/-- a list of pairs, taken apart -/
theorem src_lp {t : TE} {ps : List (List Int × Int)} (m n : Nat) (h : ∀ (H0 Hs H : Hp) (σ : L2.St), St2 X.K H0 Hs H σ Γ → ∀ Q : VK, (∀ v Hs2 H2, Stp Hs H Hs2 H2 → DR X.K Hs2 v (.lp ps) → Q v H2) → t σ H Q) :
    Src X (iList X.K t) (gPair X.K m n) [m, n] Γ ps.length (fun i Γ' => (Γ'.set m (.val (.wd (ps.getD i ([], 0)).1))).set n (.val (.int (ps.getD i ([], 0)).2))) := fun H0 Hs H σ S R r => h H0 Hs H σ S _ fun v Hs2 H2 t2 ⟨a, us, ev, q, hr⟩ => by
  have hr' : Paired (PrR X.K Hs2) us ps := hr
  have hl := hr'.length
  refine ⟨a, ev, ⟨us, sqL_ex t2.sub q⟩, r _ Hs2 H2 t2 ⟨fun i Hs' H' hi s' u' => ?_, fun Hs' H' s' u' => ⟨us, sqL_ex u' (sqL_ex s' q), by omega⟩, fun i x H0' Hs' H' H'' σ' Γ' Q hi s' S' hy k => ?_⟩⟩
  · have hiv : i < us.length := by omega
    exact ⟨us, us[i], sqL_ex u' (sqL_ex s' q), List.getElem?_eq_getElem hiv⟩
  · obtain ⟨e1, e2⟩ := hy
    subst e1
    have hx := e2 us (sqL_ex S'.sub (sqL_ex s' q))
    have hw : ps[i]? = some (ps.getD i ([], 0)) := by rw [List.getD_eq_getElem?_getD, List.getElem?_eq_getElem hi]; rfl
    obtain ⟨y, hy, T, u, ey, hT, hu⟩ := pget1 hr' hw
    rw [hx] at hy
    cases hy
    subst ey
    exact pair_store (sqT_ex S'.sub (s' _ _ hT)) (k _ Hs' _ (Stp.refl S'.sub) ((S'.set m (d := .wd _) (hu.ex s')).set n (d := .int _) rfl) wipe2)
/-! ### isinstance -/
def tyOf : Da → Option String
  | .int _ => some "int"
  | .wd _ => some "tuple"
  | .li _ => some "list"
  | _ => none
theorem DR.ty {K : PySem.W.Frag} {Hs H : Hp} (sub : Same Hs H) {v : V} {T : String} (r : DR K Hs v d) (h : tyOf d = some T) : TyX K H v (.type T) := by
  cases d with
  | int i =>
    have e : v = .int i := r
    subst e
    cases h
    exact .base (.int i)
  | wd w =>
    obtain ⟨a, e, q⟩ := r
    subst e
    cases h
    exact .base (.tup (sub _ _ q))
  | li ns =>
    obtain ⟨a, vs, e, q, _⟩ := r
    subst e
    cases h
    rcases q with (q | ⟨ob, q⟩) | ⟨ob, its, n, hk, hc, _⟩
    · exact .base (.lst (sub _ _ q))
    · exact .base (.frz (sub _ _ q))
    · exact .kList hk hc
  | _ => cases h
theorem ev_isi {p0 p1 : Pos} {T U : String} {u : Str} {r : Bool} (hm : X.mg "isinstance" = none) (hu : X.mg u = none) (hv : bootBuiltins u = some (.type U)) (ha : EV X a Γ d) (ht : tyOf d = some T) (hk : kitB T U = some r)
    (hg : Gl X "isinstance" := by rfl) (hgu : Gl X u := by rfl) (hn : u ≠ "__name__" := by decide) (hdb : (u == ("__debug__" : Str)) = false := by decide)
    (he : starEach [a, .Name u p1] X.env = (false, eval a X.env) :: starEach [.Name u p1] X.env := by rfl) (he2 : starEach [.Name u p1] X.env = (false, eval (.Name u p1) X.env) :: starEach [] X.env := by rfl)
    (hpl : (backTo pos (starEach [.Name u p1] X.env)).any (·.1) = false := by rfl) : EV X (.Call (.Name "isinstance" p0) [a, .Name u p1] [] pos) Γ (.bl r) := fun H0 Hs H σ S Q q =>
  wE_of (pe_callB call_isi hg hm boot_isi' (pa_cons (peW X a) (pa_cons (pe_bltn (v := .ty U) hgu hu hv rfl hn hdb) pa_nil he2) he) (by decide) (by decide) he hpl) (ha H0 Hs H σ S _ fun x Hs2 H2 t rx =>
    ⟨x, .ty U, .type T, .type U, r, rfl, .ty U, rx.ty t.sub ht, kit_ty hk, q _ Hs2 H2 t rfl⟩)
theorem ev_isi2 {p0 p1 p2 p3 : Pos} {kk : Nat} {T U U' : String} {u u' : Str} {r : Bool} (hm : X.mg "isinstance" = none) (hu : X.mg u = none) (hv : bootBuiltins u = some (.type U)) (hu' : X.mg u' = none) (hv' : bootBuiltins u' = some (.type U')) (ha : EV X a Γ d) (ht : tyOf d = some T)
    (hk : ∀ K, PySem.W.kitAny K (.type T) [.type U, .type U'] = some r)
    (hg : Gl X "isinstance" := by rfl) (hgu : Gl X u := by rfl) (hgu' : Gl X u' := by rfl) (hn : u ≠ "__name__" := by decide) (hdb : (u == ("__debug__" : Str)) = false := by decide) (hn' : u' ≠ "__name__" := by decide) (hdb' : (u' == ("__debug__" : Str)) = false := by decide)
    (he : starEach [a, .Tuple [.Name u p1, .Name u' p2] kk p3] X.env = (false, eval a X.env) :: starEach [.Tuple [.Name u p1, .Name u' p2] kk p3] X.env := by rfl)
    (he2 : starEach [.Tuple [.Name u p1, .Name u' p2] kk p3] X.env = (false, eval (.Tuple [.Name u p1, .Name u' p2] kk p3) X.env) :: starEach [] X.env := by rfl)
    (he3 : starEach [.Name u p1, .Name u' p2] X.env = (false, eval (.Name u p1) X.env) :: starEach [.Name u' p2] X.env := by rfl) (he4 : starEach [.Name u' p2] X.env = (false, eval (.Name u' p2) X.env) :: starEach [] X.env := by rfl)
    (hpl : (backTo pos (starEach [.Tuple [.Name u p1, .Name u' p2] kk p3] X.env)).any (·.1) = false := by rfl) : EV X (.Call (.Name "isinstance" p0) [a, .Tuple [.Name u p1, .Name u' p2] kk p3] [] pos) Γ (.bl r) := fun H0 Hs H σ S Q q =>
  wE_of (pe_callB call_isiT hg hm boot_isi' (pa_cons (peW X a) (pa_cons (pe_tup (pa_cons (pe_bltn (v := .ty U) hgu hu hv rfl hn hdb) (pa_cons (pe_bltn (v := .ty U') hgu' hu' hv' rfl hn' hdb') pa_nil he4) he3)) pa_nil he2) he) (by decide) (by decide) he hpl)
    (ha H0 Hs H σ S _ fun x Hs2 H2 t rx => ⟨by show 2 ≤ sizeLine; decide, fun p hp => by
      have t3 := stp_new (o := .tup [.ty U, .ty U']) t.sub hp
      exact ⟨x, p, [.ty U, .ty U'], .type T, [.type U, .type U'], r, rfl, upd_same, .cons (.ty U) (.cons (.ty U') .nil), (rx.ex t3.s).ty t3.sub ht, hk _, q _ _ _ (t.trans t3) rfl⟩⟩)
/-! ### books: fields, made, methods -/
theorem lk1 {a : Str} {x : V} {r : List (Str × V)} : List.lookup a ((a, x) :: r) = some x := by simp [List.lookup]
theorem lk2 {a b : Str} {x : V} {r : List (Str × V)} (h : (a == b) = false) : List.lookup a ((b, x) :: r) = List.lookup a r := by simp [List.lookup, h]
def sbF (n m r : Int) : List (Str × V) := [("length", .int n), ("modulus", .int m), ("rest", .int r)]
theorem sb_len {n m r : Int} : (sbF n m r).lookup ("length" : Str) = some (V.int n) := lk1
theorem sb_mod {n m r : Int} : (sbF n m r).lookup ("modulus" : Str) = some (V.int m) := (lk2 (by decide +kernel)).trans lk1
theorem sb_rest {n m r : Int} : (sbF n m r).lookup ("rest" : Str) = some (V.int r) := (lk2 (by decide +kernel)).trans ((lk2 (by decide +kernel)).trans lk1)
theorem ev_sbF {p : Pos} {f : Str} {n m r k : Int} (hc : Cls X.K (He.ga X.K "SumBook")) (hn : NoAttr X.K (He.ga X.K "SumBook") f) (hl : (sbF n m r).lookup f = some (.int k)) (ha : EV X a Γ (.sb n m r)) (hb : attributeBase a f X.env (eval a X.env) = eval a X.env := by rfl) : EV X (.Attribute a f p) Γ (.int k) := fun H0 Hs H σ S Q q =>
  wE_of (pe_fld (peW X a) hb) (ha H0 Hs H σ S _ fun x Hs2 H2 t ⟨p', dx, e1, e2⟩ => ⟨p', _, dx, _, .int k, e1, t.sub _ _ e2, hc, hn, hl, q _ Hs2 H2 t rfl⟩)
def wbF (q : Int) (t : Addr) (n m r : Int) : List (Str × V) := [("letters", .int q), ("weights", .ref t), ("length", .int n), ("modulus", .int m), ("rest", .int r)]
theorem wb_let {q n m r : Int} {t : Addr} : (wbF q t n m r).lookup ("letters" : Str) = some (V.int q) := lk1
theorem wb_wei {q n m r : Int} {t : Addr} : (wbF q t n m r).lookup ("weights" : Str) = some (V.ref t) := (lk2 (by decide +kernel)).trans lk1
theorem wb_len {q n m r : Int} {t : Addr} : (wbF q t n m r).lookup ("length" : Str) = some (V.int n) := (lk2 (by decide +kernel)).trans ((lk2 (by decide +kernel)).trans lk1)
theorem wb_mod {q n m r : Int} {t : Addr} : (wbF q t n m r).lookup ("modulus" : Str) = some (V.int m) := (lk2 (by decide +kernel)).trans ((lk2 (by decide +kernel)).trans ((lk2 (by decide +kernel)).trans lk1))
theorem wb_rest {q n m r : Int} {t : Addr} : (wbF q t n m r).lookup ("rest" : Str) = some (V.int r) := (lk2 (by decide +kernel)).trans ((lk2 (by decide +kernel)).trans ((lk2 (by decide +kernel)).trans ((lk2 (by decide +kernel)).trans lk1)))
theorem ev_wbF {p : Pos} {f : Str} {ws : List Int} {q0 m r k : Int} (hc : Cls X.K (He.ga X.K "WeightBook")) (hn : NoAttr X.K (He.ga X.K "WeightBook") f) (hl : ∀ t, (wbF q0 t ws.length m r).lookup f = some (.int k)) (ha : EV X a Γ (.wb q0 ws m r)) (hb : attributeBase a f X.env (eval a X.env) = eval a X.env := by rfl) : EV X (.Attribute a f p) Γ (.int k) := fun H0 Hs H σ S Q q =>
  wE_of (pe_fld (peW X a) hb) (ha H0 Hs H σ S _ fun x Hs2 H2 t ⟨p', dx, tw, e1, e2, _⟩ => ⟨p', _, dx, _, .int k, e1, t.sub _ _ e2, hc, hn, hl tw, q _ Hs2 H2 t rfl⟩)
theorem ev_wbW {p : Pos} {ws : List Int} {q0 m r : Int} (hc : Cls X.K (He.ga X.K "WeightBook")) (hn : NoAttr X.K (He.ga X.K "WeightBook") "weights") (ha : EV X a Γ (.wb q0 ws m r)) (hb : attributeBase a "weights" X.env (eval a X.env) = eval a X.env := by rfl) : EV X (.Attribute a "weights" p) Γ (.wd ws) := fun H0 Hs H σ S Q q =>
  wE_of (pe_fld (peW X a) hb) (ha H0 Hs H σ S _ fun x Hs2 H2 t ⟨p', dx, tw, e1, e2, e3⟩ => ⟨p', _, dx, _, .ref tw, e1, t.sub _ _ e2, hc, hn, wb_wei, q _ Hs2 H2 t ⟨tw, rfl, e3⟩⟩)
end
end K54

set_option Elab.async false
set_option linter.all false
set_option maxRecDepth 100000
set_option maxHeartbeats 4000000
/-! Fx: the head's facts by name, the scopes. Printed by gen_fx.py. -/
namespace K54
open PySem PySem.Spec PyProof.Rows L2
structure Tx (K : PySem.W.Frag) (mg : Str → Option Value) : Prop where
  says : Says K
  at_ : ∃ h : Heap, K.In h ∧ h.Ns mainGlobals mg
section
variable {K : PySem.W.Frag} {mg : Str → Option Value}
theorem Tx.D (T : Tx K mg) : He.SaysD fa fn K := congrArg (fun z : AlK => z.1) T.says
theorem Tx.P (T : Tx K mg) : propB K = true := congrArg (fun z : AlK => z.2.1) T.says
theorem Tx.W (T : Tx K mg) : propW K = propV := congrArg (fun z : AlK => z.2.2) T.says
theorem Tx.g_is_whole (T : Tx K mg) : mg "is_whole" = some (.ref (He.ga K "is_whole")) := let ⟨_, X, G⟩ := T.at_; He.glo_ok X G (T.D.fact 0 (f := .glo "is_whole") rfl)
theorem Tx.g_check_letters (T : Tx K mg) : mg "check_letters" = some (.ref (He.ga K "check_letters")) := let ⟨_, X, G⟩ := T.at_; He.glo_ok X G (T.D.fact 1 (f := .glo "check_letters") rfl)
theorem Tx.g_check_number (T : Tx K mg) : mg "check_number" = some (.ref (He.ga K "check_number")) := let ⟨_, X, G⟩ := T.at_; He.glo_ok X G (T.D.fact 2 (f := .glo "check_number") rfl)
theorem Tx.g_power_of (T : Tx K mg) : mg "power_of" = some (.ref (He.ga K "power_of")) := let ⟨_, X, G⟩ := T.at_; He.glo_ok X G (T.D.fact 3 (f := .glo "power_of") rfl)
theorem Tx.g_choose_of (T : Tx K mg) : mg "choose_of" = some (.ref (He.ga K "choose_of")) := let ⟨_, X, G⟩ := T.at_; He.glo_ok X G (T.D.fact 4 (f := .glo "choose_of") rfl)
theorem Tx.g_check_word (T : Tx K mg) : mg "check_word" = some (.ref (He.ga K "check_word")) := let ⟨_, X, G⟩ := T.at_; He.glo_ok X G (T.D.fact 5 (f := .glo "check_word") rfl)
theorem Tx.g_count_above (T : Tx K mg) : mg "count_above" = some (.ref (He.ga K "count_above")) := let ⟨_, X, G⟩ := T.at_; He.glo_ok X G (T.D.fact 6 (f := .glo "count_above") rfl)
theorem Tx.g_longer_words (T : Tx K mg) : mg "longer_words" = some (.ref (He.ga K "longer_words")) := let ⟨_, X, G⟩ := T.at_; He.glo_ok X G (T.D.fact 7 (f := .glo "longer_words") rfl)
theorem Tx.g_above_words (T : Tx K mg) : mg "above_words" = some (.ref (He.ga K "above_words")) := let ⟨_, X, G⟩ := T.at_; He.glo_ok X G (T.D.fact 8 (f := .glo "above_words") rfl)
theorem Tx.g_count_table (T : Tx K mg) : mg "count_table" = some (.ref (He.ga K "count_table")) := let ⟨_, X, G⟩ := T.at_; He.glo_ok X G (T.D.fact 9 (f := .glo "count_table") rfl)
theorem Tx.g_below_count (T : Tx K mg) : mg "below_count" = some (.ref (He.ga K "below_count")) := let ⟨_, X, G⟩ := T.at_; He.glo_ok X G (T.D.fact 10 (f := .glo "below_count") rfl)
theorem Tx.g_next_place (T : Tx K mg) : mg "next_place" = some (.ref (He.ga K "next_place")) := let ⟨_, X, G⟩ := T.at_; He.glo_ok X G (T.D.fact 11 (f := .glo "next_place") rfl)
theorem Tx.g_below_words (T : Tx K mg) : mg "below_words" = some (.ref (He.ga K "below_words")) := let ⟨_, X, G⟩ := T.at_; He.glo_ok X G (T.D.fact 12 (f := .glo "below_words") rfl)
theorem Tx.g_rest_lengths (T : Tx K mg) : mg "rest_lengths" = some (.ref (He.ga K "rest_lengths")) := let ⟨_, X, G⟩ := T.at_; He.glo_ok X G (T.D.fact 13 (f := .glo "rest_lengths") rfl)
theorem Tx.g_common_length (T : Tx K mg) : mg "common_length" = some (.ref (He.ga K "common_length")) := let ⟨_, X, G⟩ := T.at_; He.glo_ok X G (T.D.fact 14 (f := .glo "common_length") rfl)
theorem Tx.g_come_to (T : Tx K mg) : mg "come_to" = some (.ref (He.ga K "come_to")) := let ⟨_, X, G⟩ := T.at_; He.glo_ok X G (T.D.fact 15 (f := .glo "come_to") rfl)
theorem Tx.g_check_weights (T : Tx K mg) : mg "check_weights" = some (.ref (He.ga K "check_weights")) := let ⟨_, X, G⟩ := T.at_; He.glo_ok X G (T.D.fact 16 (f := .glo "check_weights") rfl)
theorem Tx.g_check_modulus_weights (T : Tx K mg) : mg "check_modulus_weights" = some (.ref (He.ga K "check_modulus_weights")) := let ⟨_, X, G⟩ := T.at_; He.glo_ok X G (T.D.fact 17 (f := .glo "check_modulus_weights") rfl)
theorem Tx.g_last_sum (T : Tx K mg) : mg "last_sum" = some (.ref (He.ga K "last_sum")) := let ⟨_, X, G⟩ := T.at_; He.glo_ok X G (T.D.fact 18 (f := .glo "last_sum") rfl)
theorem Tx.g_weights_for (T : Tx K mg) : mg "weights_for" = some (.ref (He.ga K "weights_for")) := let ⟨_, X, G⟩ := T.at_; He.glo_ok X G (T.D.fact 19 (f := .glo "weights_for") rfl)
theorem Tx.g_sum_by (T : Tx K mg) : mg "sum_by" = some (.ref (He.ga K "sum_by")) := let ⟨_, X, G⟩ := T.at_; He.glo_ok X G (T.D.fact 20 (f := .glo "sum_by") rfl)
theorem Tx.g_word_at (T : Tx K mg) : mg "word_at" = some (.ref (He.ga K "word_at")) := let ⟨_, X, G⟩ := T.at_; He.glo_ok X G (T.D.fact 21 (f := .glo "word_at") rfl)
theorem Tx.g_weight_members (T : Tx K mg) : mg "weight_members" = some (.ref (He.ga K "weight_members")) := let ⟨_, X, G⟩ := T.at_; He.glo_ok X G (T.D.fact 22 (f := .glo "weight_members") rfl)
theorem Tx.g_members_behind (T : Tx K mg) : mg "members_behind" = some (.ref (He.ga K "members_behind")) := let ⟨_, X, G⟩ := T.at_; He.glo_ok X G (T.D.fact 23 (f := .glo "members_behind") rfl)
theorem Tx.g_read_several (T : Tx K mg) : mg "read_several" = some (.ref (He.ga K "read_several")) := let ⟨_, X, G⟩ := T.at_; He.glo_ok X G (T.D.fact 24 (f := .glo "read_several") rfl)
theorem Tx.g_first_couple (T : Tx K mg) : mg "first_couple" = some (.ref (He.ga K "first_couple")) := let ⟨_, X, G⟩ := T.at_; He.glo_ok X G (T.D.fact 25 (f := .glo "first_couple") rfl)
theorem Tx.g_close_couple (T : Tx K mg) : mg "close_couple" = some (.ref (He.ga K "close_couple")) := let ⟨_, X, G⟩ := T.at_; He.glo_ok X G (T.D.fact 26 (f := .glo "close_couple") rfl)
theorem Tx.g_sum_places (T : Tx K mg) : mg "sum_places" = some (.ref (He.ga K "sum_places")) := let ⟨_, X, G⟩ := T.at_; He.glo_ok X G (T.D.fact 27 (f := .glo "sum_places") rfl)
theorem Tx.g_lifting_step (T : Tx K mg) : mg "lifting_step" = some (.ref (He.ga K "lifting_step")) := let ⟨_, X, G⟩ := T.at_; He.glo_ok X G (T.D.fact 28 (f := .glo "lifting_step") rfl)
theorem Tx.g_lift_word (T : Tx K mg) : mg "lift_word" = some (.ref (He.ga K "lift_word")) := let ⟨_, X, G⟩ := T.at_; He.glo_ok X G (T.D.fact 29 (f := .glo "lift_word") rfl)
theorem Tx.g_lowering_place (T : Tx K mg) : mg "lowering_place" = some (.ref (He.ga K "lowering_place")) := let ⟨_, X, G⟩ := T.at_; He.glo_ok X G (T.D.fact 30 (f := .glo "lowering_place") rfl)
theorem Tx.g_check_modulus_sums (T : Tx K mg) : mg "check_modulus_sums" = some (.ref (He.ga K "check_modulus_sums")) := let ⟨_, X, G⟩ := T.at_; He.glo_ok X G (T.D.fact 31 (f := .glo "check_modulus_sums") rfl)
theorem Tx.g_check_rest (T : Tx K mg) : mg "check_rest" = some (.ref (He.ga K "check_rest")) := let ⟨_, X, G⟩ := T.at_; He.glo_ok X G (T.D.fact 32 (f := .glo "check_rest") rfl)
theorem Tx.g_every_word (T : Tx K mg) : mg "every_word" = some (.ref (He.ga K "every_word")) := let ⟨_, X, G⟩ := T.at_; He.glo_ok X G (T.D.fact 33 (f := .glo "every_word") rfl)
theorem Tx.g_sum_members (T : Tx K mg) : mg "sum_members" = some (.ref (He.ga K "sum_members")) := let ⟨_, X, G⟩ := T.at_; He.glo_ok X G (T.D.fact 34 (f := .glo "sum_members") rfl)
theorem Tx.g_modulus_clash (T : Tx K mg) : mg "modulus_clash" = some (.ref (He.ga K "modulus_clash")) := let ⟨_, X, G⟩ := T.at_; He.glo_ok X G (T.D.fact 35 (f := .glo "modulus_clash") rfl)
theorem Tx.g_check_read (T : Tx K mg) : mg "check_read" = some (.ref (He.ga K "check_read")) := let ⟨_, X, G⟩ := T.at_; He.glo_ok X G (T.D.fact 36 (f := .glo "check_read") rfl)
theorem Tx.g_loss_amount (T : Tx K mg) : mg "loss_amount" = some (.ref (He.ga K "loss_amount")) := let ⟨_, X, G⟩ := T.at_; He.glo_ok X G (T.D.fact 37 (f := .glo "loss_amount") rfl)
theorem Tx.g_put_place (T : Tx K mg) : mg "put_place" = some (.ref (He.ga K "put_place")) := let ⟨_, X, G⟩ := T.at_; He.glo_ok X G (T.D.fact 38 (f := .glo "put_place") rfl)
theorem Tx.g_member_above (T : Tx K mg) : mg "member_above" = some (.ref (He.ga K "member_above")) := let ⟨_, X, G⟩ := T.at_; He.glo_ok X G (T.D.fact 39 (f := .glo "member_above") rfl)
theorem Tx.g_member_below (T : Tx K mg) : mg "member_below" = some (.ref (He.ga K "member_below")) := let ⟨_, X, G⟩ := T.at_; He.glo_ok X G (T.D.fact 40 (f := .glo "member_below") rfl)
theorem Tx.g_read_lost (T : Tx K mg) : mg "read_lost" = some (.ref (He.ga K "read_lost")) := let ⟨_, X, G⟩ := T.at_; He.glo_ok X G (T.D.fact 41 (f := .glo "read_lost") rfl)
theorem Tx.g_read_put (T : Tx K mg) : mg "read_put" = some (.ref (He.ga K "read_put")) := let ⟨_, X, G⟩ := T.at_; He.glo_ok X G (T.D.fact 42 (f := .glo "read_put") rfl)
theorem Tx.g_near_members (T : Tx K mg) : mg "near_members" = some (.ref (He.ga K "near_members")) := let ⟨_, X, G⟩ := T.at_; He.glo_ok X G (T.D.fact 43 (f := .glo "near_members") rfl)
theorem Tx.g__law_hand (T : Tx K mg) : mg "_law_hand" = some (.ref (He.ga K "_law_hand")) := let ⟨_, X, G⟩ := T.at_; He.glo_ok X G (T.D.fact 44 (f := .glo "_law_hand") rfl)
theorem Tx.g__law_mixed (T : Tx K mg) : mg "_law_mixed" = some (.ref (He.ga K "_law_mixed")) := let ⟨_, X, G⟩ := T.at_; He.glo_ok X G (T.D.fact 45 (f := .glo "_law_mixed") rfl)
theorem Tx.g__law_take (T : Tx K mg) : mg "_law_take" = some (.ref (He.ga K "_law_take")) := let ⟨_, X, G⟩ := T.at_; He.glo_ok X G (T.D.fact 46 (f := .glo "_law_take") rfl)
theorem Tx.g__law_all_words (T : Tx K mg) : mg "_law_all_words" = some (.ref (He.ga K "_law_all_words")) := let ⟨_, X, G⟩ := T.at_; He.glo_ok X G (T.D.fact 47 (f := .glo "_law_all_words") rfl)
theorem Tx.g__law_common (T : Tx K mg) : mg "_law_common" = some (.ref (He.ga K "_law_common")) := let ⟨_, X, G⟩ := T.at_; He.glo_ok X G (T.D.fact 48 (f := .glo "_law_common") rfl)
theorem Tx.g__law_sum (T : Tx K mg) : mg "_law_sum" = some (.ref (He.ga K "_law_sum")) := let ⟨_, X, G⟩ := T.at_; He.glo_ok X G (T.D.fact 49 (f := .glo "_law_sum") rfl)
theorem Tx.g__law_sum_words (T : Tx K mg) : mg "_law_sum_words" = some (.ref (He.ga K "_law_sum_words")) := let ⟨_, X, G⟩ := T.at_; He.glo_ok X G (T.D.fact 50 (f := .glo "_law_sum_words") rfl)
theorem Tx.g__law_behind (T : Tx K mg) : mg "_law_behind" = some (.ref (He.ga K "_law_behind")) := let ⟨_, X, G⟩ := T.at_; He.glo_ok X G (T.D.fact 51 (f := .glo "_law_behind") rfl)
theorem Tx.g__law_same_right (T : Tx K mg) : mg "_law_same_right" = some (.ref (He.ga K "_law_same_right")) := let ⟨_, X, G⟩ := T.at_; He.glo_ok X G (T.D.fact 52 (f := .glo "_law_same_right") rfl)
theorem Tx.g__law_clash_right (T : Tx K mg) : mg "_law_clash_right" = some (.ref (He.ga K "_law_clash_right")) := let ⟨_, X, G⟩ := T.at_; He.glo_ok X G (T.D.fact 53 (f := .glo "_law_clash_right") rfl)
theorem Tx.g_law (T : Tx K mg) : mg "law" = some (.ref (He.ga K "law")) := let ⟨_, X, G⟩ := T.at_; He.glo_ok X G (T.D.fact 54 (f := .glo "law") rfl)
theorem Tx.g_WeightBook (T : Tx K mg) : mg "WeightBook" = some (.ref (He.ga K "WeightBook")) := let ⟨_, X, G⟩ := T.at_; He.glo_ok X G (T.D.fact 55 (f := .glo "WeightBook") rfl)
theorem Tx.c_WeightBook (T : Tx K mg) : Cls K (He.ga K "WeightBook") := He.cls_ok (T.D.fact 56 (f := .cls "WeightBook") rfl)
theorem Tx.k_WeightBook (T : Tx K mg) : Mk K (He.ga K "WeightBook") (He.ma K (He.ga K "WeightBook") "__init__") := He.mkr_ok (T.D.fact 57 (f := .mkr "WeightBook") rfl)
theorem Tx.g_TooClose (T : Tx K mg) : mg "TooClose" = some (.ref (He.ga K "TooClose")) := let ⟨_, X, G⟩ := T.at_; He.glo_ok X G (T.D.fact 58 (f := .glo "TooClose") rfl)
theorem Tx.c_TooClose (T : Tx K mg) : Cls K (He.ga K "TooClose") := He.cls_ok (T.D.fact 59 (f := .cls "TooClose") rfl)
theorem Tx.k_TooClose (T : Tx K mg) : Mk K (He.ga K "TooClose") (He.ma K (He.ga K "TooClose") "__init__") := He.mkr_ok (T.D.fact 60 (f := .mkr "TooClose") rfl)
theorem Tx.g_NearPair (T : Tx K mg) : mg "NearPair" = some (.ref (He.ga K "NearPair")) := let ⟨_, X, G⟩ := T.at_; He.glo_ok X G (T.D.fact 61 (f := .glo "NearPair") rfl)
theorem Tx.c_NearPair (T : Tx K mg) : Cls K (He.ga K "NearPair") := He.cls_ok (T.D.fact 62 (f := .cls "NearPair") rfl)
theorem Tx.k_NearPair (T : Tx K mg) : Mk K (He.ga K "NearPair") (He.ma K (He.ga K "NearPair") "__init__") := He.mkr_ok (T.D.fact 63 (f := .mkr "NearPair") rfl)
theorem Tx.g_SumBook (T : Tx K mg) : mg "SumBook" = some (.ref (He.ga K "SumBook")) := let ⟨_, X, G⟩ := T.at_; He.glo_ok X G (T.D.fact 64 (f := .glo "SumBook") rfl)
theorem Tx.c_SumBook (T : Tx K mg) : Cls K (He.ga K "SumBook") := He.cls_ok (T.D.fact 65 (f := .cls "SumBook") rfl)
theorem Tx.k_SumBook (T : Tx K mg) : Mk K (He.ga K "SumBook") (He.ma K (He.ga K "SumBook") "__init__") := He.mkr_ok (T.D.fact 66 (f := .mkr "SumBook") rfl)
theorem Tx.m_WeightBook_has (T : Tx K mg) : Meth K (He.ga K "WeightBook") "has" (He.ma K (He.ga K "WeightBook") "has") := He.meth_ok (T.D.fact 67 (f := .meth "WeightBook" "has") rfl)
theorem Tx.n_WeightBook_letters (T : Tx K mg) : NoAttr K (He.ga K "WeightBook") "letters" := He.noat_ok (T.D.fact 68 (f := .noat "WeightBook" "letters") rfl)
theorem Tx.n_WeightBook_weights (T : Tx K mg) : NoAttr K (He.ga K "WeightBook") "weights" := He.noat_ok (T.D.fact 69 (f := .noat "WeightBook" "weights") rfl)
theorem Tx.n_WeightBook_length (T : Tx K mg) : NoAttr K (He.ga K "WeightBook") "length" := He.noat_ok (T.D.fact 70 (f := .noat "WeightBook" "length") rfl)
theorem Tx.n_WeightBook_modulus (T : Tx K mg) : NoAttr K (He.ga K "WeightBook") "modulus" := He.noat_ok (T.D.fact 71 (f := .noat "WeightBook" "modulus") rfl)
theorem Tx.n_WeightBook_rest (T : Tx K mg) : NoAttr K (He.ga K "WeightBook") "rest" := He.noat_ok (T.D.fact 72 (f := .noat "WeightBook" "rest") rfl)
theorem Tx.n_SumBook_length (T : Tx K mg) : NoAttr K (He.ga K "SumBook") "length" := He.noat_ok (T.D.fact 73 (f := .noat "SumBook" "length") rfl)
theorem Tx.n_SumBook_modulus (T : Tx K mg) : NoAttr K (He.ga K "SumBook") "modulus" := He.noat_ok (T.D.fact 74 (f := .noat "SumBook" "modulus") rfl)
theorem Tx.n_SumBook_rest (T : Tx K mg) : NoAttr K (He.ga K "SumBook") "rest" := He.noat_ok (T.D.fact 75 (f := .noat "SumBook" "rest") rfl)
theorem Tx.n_NearPair_one (T : Tx K mg) : NoAttr K (He.ga K "NearPair") "one" := He.noat_ok (T.D.fact 76 (f := .noat "NearPair" "one") rfl)
theorem Tx.n_NearPair_other (T : Tx K mg) : NoAttr K (He.ga K "NearPair") "other" := He.noat_ok (T.D.fact 77 (f := .noat "NearPair" "other") rfl)
theorem Tx.n_NearPair_below (T : Tx K mg) : NoAttr K (He.ga K "NearPair") "below" := He.noat_ok (T.D.fact 78 (f := .noat "NearPair" "below") rfl)
theorem Tx.n_NearPair_above (T : Tx K mg) : NoAttr K (He.ga K "NearPair") "above" := He.noat_ok (T.D.fact 79 (f := .noat "NearPair" "above") rfl)
theorem Tx.n_TooClose_one (T : Tx K mg) : NoAttr K (He.ga K "TooClose") "one" := He.noat_ok (T.D.fact 80 (f := .noat "TooClose" "one") rfl)
theorem Tx.n_TooClose_other (T : Tx K mg) : NoAttr K (He.ga K "TooClose") "other" := He.noat_ok (T.D.fact 81 (f := .noat "TooClose" "other") rfl)
theorem Tx.i_MOST_WORDS_above (T : Tx K mg) : ∃ t, mg "MOST_WORDS_above" = some (.int 2000 t) := let ⟨_, X, G⟩ := T.at_; He.int_ok X G (T.D.fact 82 (f := .int "MOST_WORDS_above" 2000) rfl)
theorem Tx.i_MOST_WORDS_below (T : Tx K mg) : ∃ t, mg "MOST_WORDS_below" = some (.int 2000 t) := let ⟨_, X, G⟩ := T.at_; He.int_ok X G (T.D.fact 83 (f := .int "MOST_WORDS_below" 2000) rfl)
theorem Tx.i_MOST_WEIGHTS (T : Tx K mg) : ∃ t, mg "MOST_WEIGHTS" = some (.int 24 t) := let ⟨_, X, G⟩ := T.at_; He.int_ok X G (T.D.fact 84 (f := .int "MOST_WEIGHTS" 24) rfl)
theorem Tx.i_MOST_WEIGHT (T : Tx K mg) : ∃ t, mg "MOST_WEIGHT" = some (.int 1000000000000000 t) := let ⟨_, X, G⟩ := T.at_; He.int_ok X G (T.D.fact 85 (f := .int "MOST_WEIGHT" 1000000000000000) rfl)
theorem Tx.i_MOST_MODULUS_weights (T : Tx K mg) : ∃ t, mg "MOST_MODULUS_weights" = some (.int 10000000000000000 t) := let ⟨_, X, G⟩ := T.at_; He.int_ok X G (T.D.fact 86 (f := .int "MOST_MODULUS_weights" 10000000000000000) rfl)
theorem Tx.i_MOST_MEMBERS (T : Tx K mg) : ∃ t, mg "MOST_MEMBERS" = some (.int 2048 t) := let ⟨_, X, G⟩ := T.at_; He.int_ok X G (T.D.fact 87 (f := .int "MOST_MEMBERS" 2048) rfl)
theorem Tx.i_MOST_COUPLED (T : Tx K mg) : ∃ t, mg "MOST_COUPLED" = some (.int 64 t) := let ⟨_, X, G⟩ := T.at_; He.int_ok X G (T.D.fact 88 (f := .int "MOST_COUPLED" 64) rfl)
theorem Tx.i_MOST_LENGTH (T : Tx K mg) : ∃ t, mg "MOST_LENGTH" = some (.int 200 t) := let ⟨_, X, G⟩ := T.at_; He.int_ok X G (T.D.fact 89 (f := .int "MOST_LENGTH" 200) rfl)
theorem Tx.i_MOST_MODULUS_sums (T : Tx K mg) : ∃ t, mg "MOST_MODULUS_sums" = some (.int 1000000 t) := let ⟨_, X, G⟩ := T.at_; He.int_ok X G (T.D.fact 90 (f := .int "MOST_MODULUS_sums" 1000000) rfl)
theorem Tx.i_MOST_WALKED (T : Tx K mg) : ∃ t, mg "MOST_WALKED" = some (.int 14 t) := let ⟨_, X, G⟩ := T.at_; He.int_ok X G (T.D.fact 91 (f := .int "MOST_WALKED" 14) rfl)
theorem Tx.b_len (T : Tx K mg) : mg "len" = none := let ⟨_, X, G⟩ := T.at_; He.free_ok X G (T.D.fact 92 (f := .free "len") rfl)
theorem Tx.b_range (T : Tx K mg) : mg "range" = none := let ⟨_, X, G⟩ := T.at_; He.free_ok X G (T.D.fact 93 (f := .free "range") rfl)
theorem Tx.b_isinstance (T : Tx K mg) : mg "isinstance" = none := let ⟨_, X, G⟩ := T.at_; He.free_ok X G (T.D.fact 94 (f := .free "isinstance") rfl)
theorem Tx.b_tuple (T : Tx K mg) : mg "tuple" = none := let ⟨_, X, G⟩ := T.at_; He.free_ok X G (T.D.fact 95 (f := .free "tuple") rfl)
theorem Tx.b_list (T : Tx K mg) : mg "list" = none := let ⟨_, X, G⟩ := T.at_; He.free_ok X G (T.D.fact 96 (f := .free "list") rfl)
theorem Tx.b_sum (T : Tx K mg) : mg "sum" = none := let ⟨_, X, G⟩ := T.at_; He.free_ok X G (T.D.fact 97 (f := .free "sum") rfl)
theorem Tx.b_min (T : Tx K mg) : mg "min" = none := let ⟨_, X, G⟩ := T.at_; He.free_ok X G (T.D.fact 98 (f := .free "min") rfl)
theorem Tx.b_max (T : Tx K mg) : mg "max" = none := let ⟨_, X, G⟩ := T.at_; He.free_ok X G (T.D.fact 99 (f := .free "max") rfl)
theorem Tx.b_enumerate (T : Tx K mg) : mg "enumerate" = none := let ⟨_, X, G⟩ := T.at_; He.free_ok X G (T.D.fact 100 (f := .free "enumerate") rfl)
theorem Tx.b_zip (T : Tx K mg) : mg "zip" = none := let ⟨_, X, G⟩ := T.at_; He.free_ok X G (T.D.fact 101 (f := .free "zip") rfl)
theorem Tx.b_sorted (T : Tx K mg) : mg "sorted" = none := let ⟨_, X, G⟩ := T.at_; He.free_ok X G (T.D.fact 102 (f := .free "sorted") rfl)
theorem Tx.b_divmod (T : Tx K mg) : mg "divmod" = none := let ⟨_, X, G⟩ := T.at_; He.free_ok X G (T.D.fact 103 (f := .free "divmod") rfl)
theorem Tx.b_repr (T : Tx K mg) : mg "repr" = none := let ⟨_, X, G⟩ := T.at_; He.free_ok X G (T.D.fact 104 (f := .free "repr") rfl)
theorem Tx.b_abs (T : Tx K mg) : mg "abs" = none := let ⟨_, X, G⟩ := T.at_; He.free_ok X G (T.D.fact 105 (f := .free "abs") rfl)
theorem Tx.b_int (T : Tx K mg) : mg "int" = none := let ⟨_, X, G⟩ := T.at_; He.free_ok X G (T.D.fact 106 (f := .free "int") rfl)
theorem Tx.b_bool (T : Tx K mg) : mg "bool" = none := let ⟨_, X, G⟩ := T.at_; He.free_ok X G (T.D.fact 107 (f := .free "bool") rfl)
abbrev n_is_whole : List Str := ["thing", "low", "high"]
theorem sc_is_whole : FnScope n_is_whole ["thing", "low", "high"] (defScope s_is_whole) := ⟨rfl, rfl, rfl, by decide +kernel, rfl, by decide +kernel, by decide +kernel⟩
theorem Tx.f_is_whole (T : Tx K mg) : ∃ fd, FunD K "is_whole" "is_whole" (defArgs s_is_whole) (defBody s_is_whole) (defScope s_is_whole) (d_is_whole.dvs K) [] (He.fAd K ("is_whole", none)) fd := T.D.def_ 0 (d := d_is_whole) rfl
abbrev n_check_letters : List Str := ["letters"]
theorem sc_check_letters : FnScope n_check_letters ["letters"] (defScope s_check_letters) := ⟨rfl, rfl, rfl, by decide +kernel, rfl, by decide +kernel, by decide +kernel⟩
theorem Tx.f_check_letters (T : Tx K mg) : ∃ fd, FunD K "check_letters" "check_letters" (defArgs s_check_letters) (defBody s_check_letters) (defScope s_check_letters) (d_check_letters.dvs K) [] (He.fAd K ("check_letters", none)) fd := T.D.def_ 1 (d := d_check_letters) rfl
theorem b_check_letters {fd : FuncData} {f : Addr} (F : FunD K "check_letters" "check_letters" (defArgs s_check_letters) (defBody s_check_letters) (defScope s_check_letters) [] [] f fd) : Binds K fd ["letters"] [] := F.bindsN fun _ _ _ _ _ _ us hl => match us, hl with | [_], _ => rfl
abbrev n_check_number : List Str := ["thing", "low", "high"]
theorem sc_check_number : FnScope n_check_number ["thing", "low", "high"] (defScope s_check_number) := ⟨rfl, rfl, rfl, by decide +kernel, rfl, by decide +kernel, by decide +kernel⟩
theorem Tx.f_check_number (T : Tx K mg) : ∃ fd, FunD K "check_number" "check_number" (defArgs s_check_number) (defBody s_check_number) (defScope s_check_number) (d_check_number.dvs K) [] (He.fAd K ("check_number", none)) fd := T.D.def_ 2 (d := d_check_number) rfl
theorem b_check_number {fd : FuncData} {f : Addr} (F : FunD K "check_number" "check_number" (defArgs s_check_number) (defBody s_check_number) (defScope s_check_number) [] [] f fd) : Binds K fd ["thing", "low", "high"] [] := F.bindsN fun _ _ _ _ _ _ us hl => match us, hl with | [_, _, _], _ => rfl
abbrev n_power_of : List Str := ["base", "exponent", "total", "step"]
theorem sc_power_of : FnScope n_power_of ["base", "exponent"] (defScope s_power_of) := ⟨rfl, rfl, rfl, by decide +kernel, rfl, by decide +kernel, by decide +kernel⟩
theorem Tx.f_power_of (T : Tx K mg) : ∃ fd, FunD K "power_of" "power_of" (defArgs s_power_of) (defBody s_power_of) (defScope s_power_of) (d_power_of.dvs K) [] (He.fAd K ("power_of", none)) fd := T.D.def_ 3 (d := d_power_of) rfl
theorem b_power_of {fd : FuncData} {f : Addr} (F : FunD K "power_of" "power_of" (defArgs s_power_of) (defBody s_power_of) (defScope s_power_of) [] [] f fd) : Binds K fd ["base", "exponent"] [] := F.bindsN fun _ _ _ _ _ _ us hl => match us, hl with | [_, _], _ => rfl
abbrev n_choose_of : List Str := ["many", "taken", "total", "step"]
theorem sc_choose_of : FnScope n_choose_of ["many", "taken"] (defScope s_choose_of) := ⟨rfl, rfl, rfl, by decide +kernel, rfl, by decide +kernel, by decide +kernel⟩
theorem Tx.f_choose_of (T : Tx K mg) : ∃ fd, FunD K "choose_of" "choose_of" (defArgs s_choose_of) (defBody s_choose_of) (defScope s_choose_of) (d_choose_of.dvs K) [] (He.fAd K ("choose_of", none)) fd := T.D.def_ 4 (d := d_choose_of) rfl
theorem b_choose_of {fd : FuncData} {f : Addr} (F : FunD K "choose_of" "choose_of" (defArgs s_choose_of) (defBody s_choose_of) (defScope s_choose_of) [] [] f fd) : Binds K fd ["many", "taken"] [] := F.bindsN fun _ _ _ _ _ _ us hl => match us, hl with | [_, _], _ => rfl
abbrev n_check_word : List Str := ["letters", "word", "most", "at", "letter"]
theorem sc_check_word : FnScope n_check_word ["letters", "word", "most"] (defScope s_check_word) := ⟨rfl, rfl, rfl, by decide +kernel, rfl, by decide +kernel, by decide +kernel⟩
theorem Tx.f_check_word (T : Tx K mg) : ∃ fd, FunD K "check_word" "check_word" (defArgs s_check_word) (defBody s_check_word) (defScope s_check_word) (d_check_word.dvs K) [] (He.fAd K ("check_word", none)) fd := T.D.def_ 5 (d := d_check_word) rfl
abbrev n_count_above : List Str := ["letters", "length", "put", "total", "step"]
theorem sc_count_above : FnScope n_count_above ["letters", "length", "put"] (defScope s_count_above) := ⟨rfl, rfl, rfl, by decide +kernel, rfl, by decide +kernel, by decide +kernel⟩
theorem Tx.f_count_above (T : Tx K mg) : ∃ fd, FunD K "count_above" "count_above" (defArgs s_count_above) (defBody s_count_above) (defScope s_count_above) (d_count_above.dvs K) [] (He.fAd K ("count_above", none)) fd := T.D.def_ 6 (d := d_count_above) rfl
theorem b_count_above {fd : FuncData} {f : Addr} (F : FunD K "count_above" "count_above" (defArgs s_count_above) (defBody s_count_above) (defScope s_count_above) [] [] f fd) : Binds K fd ["letters", "length", "put"] [] := F.bindsN fun _ _ _ _ _ _ us hl => match us, hl with | [_, _, _], _ => rfl
abbrev n_longer_words : List Str := ["letters", "words", "told", "word", "at", "letter"]
theorem sc_longer_words : FnScope n_longer_words ["letters", "words"] (defScope s_longer_words) := ⟨rfl, rfl, rfl, by decide +kernel, rfl, by decide +kernel, by decide +kernel⟩
theorem Tx.f_longer_words (T : Tx K mg) : ∃ fd, FunD K "longer_words" "longer_words" (defArgs s_longer_words) (defBody s_longer_words) (defScope s_longer_words) (d_longer_words.dvs K) [] (He.fAd K ("longer_words", none)) fd := T.D.def_ 7 (d := d_longer_words) rfl
theorem b_longer_words {fd : FuncData} {f : Addr} (F : FunD K "longer_words" "longer_words" (defArgs s_longer_words) (defBody s_longer_words) (defScope s_longer_words) [] [] f fd) : Binds K fd ["letters", "words"] [] := F.bindsN fun _ _ _ _ _ _ us hl => match us, hl with | [_, _], _ => rfl
abbrev n_above_words : List Str := ["letters", "word", "put", "count", "words", "step"]
theorem sc_above_words : FnScope n_above_words ["letters", "word", "put"] (defScope s_above_words) := ⟨rfl, rfl, rfl, by decide +kernel, rfl, by decide +kernel, by decide +kernel⟩
theorem Tx.f_above_words (T : Tx K mg) : ∃ fd, FunD K "above_words" "above_words" (defArgs s_above_words) (defBody s_above_words) (defScope s_above_words) (d_above_words.dvs K) [] (He.fAd K ("above_words", none)) fd := T.D.def_ 8 (d := d_above_words) rfl
theorem b_above_words {fd : FuncData} {f : Addr} (F : FunD K "above_words" "above_words" (defArgs s_above_words) (defBody s_above_words) (defScope s_above_words) [] [] f fd) : Binds K fd ["letters", "word", "put"] [] := F.bindsN fun _ _ _ _ _ _ us hl => match us, hl with | [_, _, _], _ => rfl
abbrev n_count_table : List Str := ["word", "rows", "ahead", "at", "letter", "above", "row", "many", "total"]
theorem sc_count_table : FnScope n_count_table ["word"] (defScope s_count_table) := ⟨rfl, rfl, rfl, by decide +kernel, rfl, by decide +kernel, by decide +kernel⟩
theorem Tx.f_count_table (T : Tx K mg) : ∃ fd, FunD K "count_table" "count_table" (defArgs s_count_table) (defBody s_count_table) (defScope s_count_table) (d_count_table.dvs K) [] (He.fAd K ("count_table", none)) fd := T.D.def_ 9 (d := d_count_table) rfl
theorem b_count_table {fd : FuncData} {f : Addr} (F : FunD K "count_table" "count_table" (defArgs s_count_table) (defBody s_count_table) (defScope s_count_table) [] [] f fd) : Binds K fd ["word"] [] := F.bindsN fun _ _ _ _ _ _ us hl => match us, hl with | [_], _ => rfl
abbrev n_below_count : List Str := ["word", "lost"]
theorem sc_below_count : FnScope n_below_count ["word", "lost"] (defScope s_below_count) := ⟨rfl, rfl, rfl, by decide +kernel, rfl, by decide +kernel, by decide +kernel⟩
theorem Tx.f_below_count (T : Tx K mg) : ∃ fd, FunD K "below_count" "below_count" (defArgs s_below_count) (defBody s_below_count) (defScope s_below_count) (d_below_count.dvs K) [] (He.fAd K ("below_count", none)) fd := T.D.def_ 10 (d := d_below_count) rfl
theorem b_below_count {fd : FuncData} {f : Addr} (F : FunD K "below_count" "below_count" (defArgs s_below_count) (defBody s_below_count) (defScope s_below_count) [] [] f fd) : Binds K fd ["word", "lost"] [] := F.bindsN fun _ _ _ _ _ _ us hl => match us, hl with | [_, _], _ => rfl
abbrev n_next_place : List Str := ["word", "letter", "start", "at"]
theorem sc_next_place : FnScope n_next_place ["word", "letter", "start"] (defScope s_next_place) := ⟨rfl, rfl, rfl, by decide +kernel, rfl, by decide +kernel, by decide +kernel⟩
theorem Tx.f_next_place (T : Tx K mg) : ∃ fd, FunD K "next_place" "next_place" (defArgs s_next_place) (defBody s_next_place) (defScope s_next_place) (d_next_place.dvs K) [] (He.fAd K ("next_place", none)) fd := T.D.def_ 11 (d := d_next_place) rfl
theorem b_next_place {fd : FuncData} {f : Addr} (F : FunD K "next_place" "next_place" (defArgs s_next_place) (defBody s_next_place) (defScope s_next_place) [] [] f fd) : Binds K fd ["word", "letter", "start"] [] := F.bindsN fun _ _ _ _ _ _ us hl => match us, hl with | [_, _, _], _ => rfl
abbrev n_below_words : List Str := ["word", "lost", "count", "rows", "step", "longer", "head", "start", "letter", "at", "row"]
theorem sc_below_words : FnScope n_below_words ["word", "lost"] (defScope s_below_words) := ⟨rfl, rfl, rfl, by decide +kernel, rfl, by decide +kernel, by decide +kernel⟩
theorem Tx.f_below_words (T : Tx K mg) : ∃ fd, FunD K "below_words" "below_words" (defArgs s_below_words) (defBody s_below_words) (defScope s_below_words) (d_below_words.dvs K) [] (He.fAd K ("below_words", none)) fd := T.D.def_ 12 (d := d_below_words) rfl
theorem b_below_words {fd : FuncData} {f : Addr} (F : FunD K "below_words" "below_words" (defArgs s_below_words) (defBody s_below_words) (defScope s_below_words) [] [] f fd) : Binds K fd ["word", "lost"] [] := F.bindsN fun _ _ _ _ _ _ us hl => match us, hl with | [_, _], _ => rfl
abbrev n_rest_lengths : List Str := ["one", "other", "rows", "letter", "under", "row", "at"]
theorem sc_rest_lengths : FnScope n_rest_lengths ["one", "other"] (defScope s_rest_lengths) := ⟨rfl, rfl, rfl, by decide +kernel, rfl, by decide +kernel, by decide +kernel⟩
theorem Tx.f_rest_lengths (T : Tx K mg) : ∃ fd, FunD K "rest_lengths" "rest_lengths" (defArgs s_rest_lengths) (defBody s_rest_lengths) (defScope s_rest_lengths) (d_rest_lengths.dvs K) [] (He.fAd K ("rest_lengths", none)) fd := T.D.def_ 13 (d := d_rest_lengths) rfl
theorem b_rest_lengths {fd : FuncData} {f : Addr} (F : FunD K "rest_lengths" "rest_lengths" (defArgs s_rest_lengths) (defBody s_rest_lengths) (defScope s_rest_lengths) [] [] f fd) : Binds K fd ["one", "other"] [] := F.bindsN fun _ _ _ _ _ _ us hl => match us, hl with | [_, _], _ => rfl
abbrev n_common_length : List Str := ["one", "other"]
theorem sc_common_length : FnScope n_common_length ["one", "other"] (defScope s_common_length) := ⟨rfl, rfl, rfl, by decide +kernel, rfl, by decide +kernel, by decide +kernel⟩
theorem Tx.f_common_length (T : Tx K mg) : ∃ fd, FunD K "common_length" "common_length" (defArgs s_common_length) (defBody s_common_length) (defScope s_common_length) (d_common_length.dvs K) [] (He.fAd K ("common_length", none)) fd := T.D.def_ 14 (d := d_common_length) rfl
theorem b_common_length {fd : FuncData} {f : Addr} (F : FunD K "common_length" "common_length" (defArgs s_common_length) (defBody s_common_length) (defScope s_common_length) [] [] f fd) : Binds K fd ["one", "other"] [] := F.bindsN fun _ _ _ _ _ _ us hl => match us, hl with | [_, _], _ => rfl
abbrev n_come_to : List Str := ["letters", "word", "lost", "put", "count", "told", "short", "long"]
theorem sc_come_to : FnScope n_come_to ["letters", "word", "lost", "put"] (defScope s_come_to) := ⟨rfl, rfl, rfl, by decide +kernel, rfl, by decide +kernel, by decide +kernel⟩
theorem Tx.f_come_to (T : Tx K mg) : ∃ fd, FunD K "come_to" "come_to" (defArgs s_come_to) (defBody s_come_to) (defScope s_come_to) (d_come_to.dvs K) [] (He.fAd K ("come_to", none)) fd := T.D.def_ 15 (d := d_come_to) rfl
theorem b_come_to {fd : FuncData} {f : Addr} (F : FunD K "come_to" "come_to" (defArgs s_come_to) (defBody s_come_to) (defScope s_come_to) [] [] f fd) : Binds K fd ["letters", "word", "lost", "put"] [] := F.bindsN fun _ _ _ _ _ _ us hl => match us, hl with | [_, _, _, _], _ => rfl
abbrev n_check_weights : List Str := ["weights", "at", "weight"]
theorem sc_check_weights : FnScope n_check_weights ["weights"] (defScope s_check_weights) := ⟨rfl, rfl, rfl, by decide +kernel, rfl, by decide +kernel, by decide +kernel⟩
theorem Tx.f_check_weights (T : Tx K mg) : ∃ fd, FunD K "check_weights" "check_weights" (defArgs s_check_weights) (defBody s_check_weights) (defScope s_check_weights) (d_check_weights.dvs K) [] (He.fAd K ("check_weights", none)) fd := T.D.def_ 16 (d := d_check_weights) rfl
theorem b_check_weights {fd : FuncData} {f : Addr} (F : FunD K "check_weights" "check_weights" (defArgs s_check_weights) (defBody s_check_weights) (defScope s_check_weights) [] [] f fd) : Binds K fd ["weights"] [] := F.bindsN fun _ _ _ _ _ _ us hl => match us, hl with | [_], _ => rfl
abbrev n_check_modulus_weights : List Str := ["modulus"]
theorem sc_check_modulus_weights : FnScope n_check_modulus_weights ["modulus"] (defScope s_check_modulus_weights) := ⟨rfl, rfl, rfl, by decide +kernel, rfl, by decide +kernel, by decide +kernel⟩
theorem Tx.f_check_modulus_weights (T : Tx K mg) : ∃ fd, FunD K "check_modulus" "check_modulus" (defArgs s_check_modulus_weights) (defBody s_check_modulus_weights) (defScope s_check_modulus_weights) (d_check_modulus_weights.dvs K) [] (He.fAd K ("check_modulus_weights", none)) fd := T.D.def_ 17 (d := d_check_modulus_weights) rfl
theorem b_check_modulus_weights {fd : FuncData} {f : Addr} (F : FunD K "check_modulus" "check_modulus" (defArgs s_check_modulus_weights) (defBody s_check_modulus_weights) (defScope s_check_modulus_weights) [] [] f fd) : Binds K fd ["modulus"] [] := F.bindsN fun _ _ _ _ _ _ us hl => match us, hl with | [_], _ => rfl
abbrev n_last_sum : List Str := ["weights", "many"]
theorem sc_last_sum : FnScope n_last_sum ["weights", "many"] (defScope s_last_sum) := ⟨rfl, rfl, rfl, by decide +kernel, rfl, by decide +kernel, by decide +kernel⟩
theorem Tx.f_last_sum (T : Tx K mg) : ∃ fd, FunD K "last_sum" "last_sum" (defArgs s_last_sum) (defBody s_last_sum) (defScope s_last_sum) (d_last_sum.dvs K) [] (He.fAd K ("last_sum", none)) fd := T.D.def_ 18 (d := d_last_sum) rfl
theorem b_last_sum {fd : FuncData} {f : Addr} (F : FunD K "last_sum" "last_sum" (defArgs s_last_sum) (defBody s_last_sum) (defScope s_last_sum) [] [] f fd) : Binds K fd ["weights", "many"] [] := F.bindsN fun _ _ _ _ _ _ us hl => match us, hl with | [_, _], _ => rfl
abbrev n_weights_for : List Str := ["letters", "lost", "length", "told", "step"]
theorem sc_weights_for : FnScope n_weights_for ["letters", "lost", "length"] (defScope s_weights_for) := ⟨rfl, rfl, rfl, by decide +kernel, rfl, by decide +kernel, by decide +kernel⟩
theorem Tx.f_weights_for (T : Tx K mg) : ∃ fd, FunD K "weights_for" "weights_for" (defArgs s_weights_for) (defBody s_weights_for) (defScope s_weights_for) (d_weights_for.dvs K) [] (He.fAd K ("weights_for", none)) fd := T.D.def_ 19 (d := d_weights_for) rfl
theorem b_weights_for {fd : FuncData} {f : Addr} (F : FunD K "weights_for" "weights_for" (defArgs s_weights_for) (defBody s_weights_for) (defScope s_weights_for) [] [] f fd) : Binds K fd ["letters", "lost", "length"] [] := F.bindsN fun _ _ _ _ _ _ us hl => match us, hl with | [_, _, _], _ => rfl
abbrev n_sum_by : List Str := ["weights", "word", "weight", "letter"]
theorem sc_sum_by : FnScope n_sum_by ["weights", "word"] (defScope s_sum_by) := ⟨rfl, rfl, rfl, by decide +kernel, rfl, by decide +kernel, by decide +kernel⟩
theorem Tx.f_sum_by (T : Tx K mg) : ∃ fd, FunD K "sum_by" "sum_by" (defArgs s_sum_by) (defBody s_sum_by) (defScope s_sum_by) (d_sum_by.dvs K) [] (He.fAd K ("sum_by", none)) fd := T.D.def_ 20 (d := d_sum_by) rfl
theorem b_sum_by {fd : FuncData} {f : Addr} (F : FunD K "sum_by" "sum_by" (defArgs s_sum_by) (defBody s_sum_by) (defScope s_sum_by) [] [] f fd) : Binds K fd ["weights", "word"] [] := F.bindsN fun _ _ _ _ _ _ us hl => match us, hl with | [_, _], _ => rfl
abbrev n_word_at : List Str := ["letters", "length", "number", "told", "step", "letter"]
theorem sc_word_at : FnScope n_word_at ["letters", "length", "number"] (defScope s_word_at) := ⟨rfl, rfl, rfl, by decide +kernel, rfl, by decide +kernel, by decide +kernel⟩
theorem Tx.f_word_at (T : Tx K mg) : ∃ fd, FunD K "word_at" "word_at" (defArgs s_word_at) (defBody s_word_at) (defScope s_word_at) (d_word_at.dvs K) [] (He.fAd K ("word_at", none)) fd := T.D.def_ 21 (d := d_word_at) rfl
theorem b_word_at {fd : FuncData} {f : Addr} (F : FunD K "word_at" "word_at" (defArgs s_word_at) (defBody s_word_at) (defScope s_word_at) [] [] f fd) : Binds K fd ["letters", "length", "number"] [] := F.bindsN fun _ _ _ _ _ _ us hl => match us, hl with | [_, _, _], _ => rfl
abbrev n_weight_members : List Str := ["book", "count", "number", "word"]
theorem sc_weight_members : GScope n_weight_members ["book"] (defScope s_weight_members) := ⟨rfl, rfl, rfl, by decide +kernel, rfl, by decide +kernel, by decide +kernel⟩
theorem Tx.f_weight_members (T : Tx K mg) : ∃ fd, FunD K "weight_members" "weight_members" (defArgs s_weight_members) (defBody s_weight_members) (defScope s_weight_members) (d_weight_members.dvs K) [] (He.fAd K ("weight_members", none)) fd := T.D.def_ 22 (d := d_weight_members) rfl
theorem b_weight_members {fd : FuncData} {f : Addr} (F : FunD K "weight_members" "weight_members" (defArgs s_weight_members) (defBody s_weight_members) (defScope s_weight_members) [] [] f fd) : Binds K fd ["book"] [] := F.bindsN fun _ _ _ _ _ _ us hl => match us, hl with | [_], _ => rfl
abbrev n_WeightBook_init : List Str := ["self", "letters", "weights", "modulus", "rest"]
theorem sc_WeightBook_init : FnScope n_WeightBook_init ["self", "letters", "weights", "modulus", "rest"] (defScope s_WeightBook_init) := ⟨rfl, rfl, rfl, by decide +kernel, rfl, by decide +kernel, by decide +kernel⟩
theorem Tx.f_WeightBook_init (T : Tx K mg) : ∃ fd, FunD K "__init__" "WeightBook.__init__" (defArgs s_WeightBook_init) (defBody s_WeightBook_init) (defScope s_WeightBook_init) (d_WeightBook_init.dvs K) [] (He.fAd K ("WeightBook", some "__init__")) fd := T.D.def_ 23 (d := d_WeightBook_init) rfl
theorem b_WeightBook_init {fd : FuncData} {f : Addr} (F : FunD K "__init__" "WeightBook.__init__" (defArgs s_WeightBook_init) (defBody s_WeightBook_init) (defScope s_WeightBook_init) [] [] f fd) : Binds K fd ["self", "letters", "weights", "modulus", "rest"] [] := F.bindsN fun _ _ _ _ _ _ us hl => match us, hl with | [_, _, _, _, _], _ => rfl
abbrev n_WeightBook_has : List Str := ["self", "word"]
theorem sc_WeightBook_has : FnScope n_WeightBook_has ["self", "word"] (defScope s_WeightBook_has) := ⟨rfl, rfl, rfl, by decide +kernel, rfl, by decide +kernel, by decide +kernel⟩
theorem Tx.f_WeightBook_has (T : Tx K mg) : ∃ fd, FunD K "has" "WeightBook.has" (defArgs s_WeightBook_has) (defBody s_WeightBook_has) (defScope s_WeightBook_has) (d_WeightBook_has.dvs K) [] (He.fAd K ("WeightBook", some "has")) fd := T.D.def_ 24 (d := d_WeightBook_has) rfl
theorem b_WeightBook_has {fd : FuncData} {f : Addr} (F : FunD K "has" "WeightBook.has" (defArgs s_WeightBook_has) (defBody s_WeightBook_has) (defScope s_WeightBook_has) [] [] f fd) : Binds K fd ["self", "word"] [] := F.bindsN fun _ _ _ _ _ _ us hl => match us, hl with | [_, _], _ => rfl
abbrev n_TooClose_init : List Str := ["self", "one", "other"]
theorem sc_TooClose_init : FnScope n_TooClose_init ["self", "one", "other"] (defScope s_TooClose_init) := ⟨rfl, rfl, rfl, by decide +kernel, rfl, by decide +kernel, by decide +kernel⟩
theorem Tx.f_TooClose_init (T : Tx K mg) : ∃ fd, FunD K "__init__" "TooClose.__init__" (defArgs s_TooClose_init) (defBody s_TooClose_init) (defScope s_TooClose_init) (d_TooClose_init.dvs K) [] (He.fAd K ("TooClose", some "__init__")) fd := T.D.def_ 25 (d := d_TooClose_init) rfl
theorem b_TooClose_init {fd : FuncData} {f : Addr} (F : FunD K "__init__" "TooClose.__init__" (defArgs s_TooClose_init) (defBody s_TooClose_init) (defScope s_TooClose_init) [] [] f fd) : Binds K fd ["self", "one", "other"] [] := F.bindsN fun _ _ _ _ _ _ us hl => match us, hl with | [_, _, _], _ => rfl
abbrev n_members_behind : List Str := ["book", "word", "lost", "put", "behind", "one"]
theorem sc_members_behind : FnScope n_members_behind ["book", "word", "lost", "put"] (defScope s_members_behind) := ⟨rfl, rfl, rfl, by decide +kernel, rfl, by decide +kernel, by decide +kernel⟩
theorem Tx.f_members_behind (T : Tx K mg) : ∃ fd, FunD K "members_behind" "members_behind" (defArgs s_members_behind) (defBody s_members_behind) (defScope s_members_behind) (d_members_behind.dvs K) [] (He.fAd K ("members_behind", none)) fd := T.D.def_ 26 (d := d_members_behind) rfl
theorem b_members_behind {fd : FuncData} {f : Addr} (F : FunD K "members_behind" "members_behind" (defArgs s_members_behind) (defBody s_members_behind) (defScope s_members_behind) [] [] f fd) : Binds K fd ["book", "word", "lost", "put"] [] := F.bindsN fun _ _ _ _ _ _ us hl => match us, hl with | [_, _, _, _], _ => rfl
abbrev n_read_several : List Str := ["book", "word", "lost", "put", "behind"]
theorem sc_read_several : FnScope n_read_several ["book", "word", "lost", "put"] (defScope s_read_several) := ⟨rfl, rfl, rfl, by decide +kernel, rfl, by decide +kernel, by decide +kernel⟩
theorem Tx.f_read_several (T : Tx K mg) : ∃ fd, FunD K "read_several" "read_several" (defArgs s_read_several) (defBody s_read_several) (defScope s_read_several) (d_read_several.dvs K) [] (He.fAd K ("read_several", none)) fd := T.D.def_ 27 (d := d_read_several) rfl
theorem b_read_several {fd : FuncData} {f : Addr} (F : FunD K "read_several" "read_several" (defArgs s_read_several) (defBody s_read_several) (defScope s_read_several) [] [] f fd) : Binds K fd ["book", "word", "lost", "put"] [] := F.bindsN fun _ _ _ _ _ _ us hl => match us, hl with | [_, _, _, _], _ => rfl
abbrev n_first_couple : List Str := ["words", "rests", "shared", "here", "one", "there"]
theorem sc_first_couple : FnScope n_first_couple ["words", "rests", "shared"] (defScope s_first_couple) := ⟨rfl, rfl, rfl, by decide +kernel, rfl, by decide +kernel, by decide +kernel⟩
theorem Tx.f_first_couple (T : Tx K mg) : ∃ fd, FunD K "first_couple" "first_couple" (defArgs s_first_couple) (defBody s_first_couple) (defScope s_first_couple) (d_first_couple.dvs K) [] (He.fAd K ("first_couple", none)) fd := T.D.def_ 28 (d := d_first_couple) rfl
theorem b_first_couple {fd : FuncData} {f : Addr} (F : FunD K "first_couple" "first_couple" (defArgs s_first_couple) (defBody s_first_couple) (defScope s_first_couple) [] [] f fd) : Binds K fd ["words", "rests", "shared"] [] := F.bindsN fun _ _ _ _ _ _ us hl => match us, hl with | [_, _, _], _ => rfl
abbrev n_close_couple : List Str := ["letters", "weights", "modulus", "lost", "count", "words", "rests", "number", "word"]
theorem sc_close_couple : FnScope n_close_couple ["letters", "weights", "modulus", "lost"] (defScope s_close_couple) := ⟨rfl, rfl, rfl, by decide +kernel, rfl, by decide +kernel, by decide +kernel⟩
theorem Tx.f_close_couple (T : Tx K mg) : ∃ fd, FunD K "close_couple" "close_couple" (defArgs s_close_couple) (defBody s_close_couple) (defScope s_close_couple) (d_close_couple.dvs K) [] (He.fAd K ("close_couple", none)) fd := T.D.def_ 29 (d := d_close_couple) rfl
theorem b_close_couple {fd : FuncData} {f : Addr} (F : FunD K "close_couple" "close_couple" (defArgs s_close_couple) (defBody s_close_couple) (defScope s_close_couple) [] [] f fd) : Binds K fd ["letters", "weights", "modulus", "lost"] [] := F.bindsN fun _ _ _ _ _ _ us hl => match us, hl with | [_, _, _, _], _ => rfl
abbrev n_NearPair_init : List Str := ["self", "one", "other", "below", "above"]
theorem sc_NearPair_init : FnScope n_NearPair_init ["self", "one", "other", "below", "above"] (defScope s_NearPair_init) := ⟨rfl, rfl, rfl, by decide +kernel, rfl, by decide +kernel, by decide +kernel⟩
theorem Tx.f_NearPair_init (T : Tx K mg) : ∃ fd, FunD K "__init__" "NearPair.__init__" (defArgs s_NearPair_init) (defBody s_NearPair_init) (defScope s_NearPair_init) (d_NearPair_init.dvs K) [] (He.fAd K ("NearPair", some "__init__")) fd := T.D.def_ 30 (d := d_NearPair_init) rfl
theorem b_NearPair_init {fd : FuncData} {f : Addr} (F : FunD K "__init__" "NearPair.__init__" (defArgs s_NearPair_init) (defBody s_NearPair_init) (defScope s_NearPair_init) [] [] f fd) : Binds K fd ["self", "one", "other", "below", "above"] [] := F.bindsN fun _ _ _ _ _ _ us hl => match us, hl with | [_, _, _, _, _], _ => rfl
abbrev n_sum_places : List Str := ["word", "total", "at", "letter"]
theorem sc_sum_places : FnScope n_sum_places ["word"] (defScope s_sum_places) := ⟨rfl, rfl, rfl, by decide +kernel, rfl, by decide +kernel, by decide +kernel⟩
theorem Tx.f_sum_places (T : Tx K mg) : ∃ fd, FunD K "sum_places" "sum_places" (defArgs s_sum_places) (defBody s_sum_places) (defScope s_sum_places) (d_sum_places.dvs K) [] (He.fAd K ("sum_places", none)) fd := T.D.def_ 31 (d := d_sum_places) rfl
theorem b_sum_places {fd : FuncData} {f : Addr} (F : FunD K "sum_places" "sum_places" (defArgs s_sum_places) (defBody s_sum_places) (defScope s_sum_places) [] [] f fd) : Binds K fd ["word"] [] := F.bindsN fun _ _ _ _ _ _ us hl => match us, hl with | [_], _ => rfl
abbrev n_lifting_step : List Str := ["word", "amount", "ones", "at", "left"]
theorem sc_lifting_step : FnScope n_lifting_step ["word", "amount"] (defScope s_lifting_step) := ⟨rfl, rfl, rfl, by decide +kernel, rfl, by decide +kernel, by decide +kernel⟩
theorem Tx.f_lifting_step (T : Tx K mg) : ∃ fd, FunD K "lifting_step" "lifting_step" (defArgs s_lifting_step) (defBody s_lifting_step) (defScope s_lifting_step) (d_lifting_step.dvs K) [] (He.fAd K ("lifting_step", none)) fd := T.D.def_ 32 (d := d_lifting_step) rfl
theorem b_lifting_step {fd : FuncData} {f : Addr} (F : FunD K "lifting_step" "lifting_step" (defArgs s_lifting_step) (defBody s_lifting_step) (defScope s_lifting_step) [] [] f fd) : Binds K fd ["word", "amount"] [] := F.bindsN fun _ _ _ _ _ _ us hl => match us, hl with | [_, _], _ => rfl
abbrev n_lift_word : List Str := ["word", "amount", "at", "letter"]
theorem sc_lift_word : FnScope n_lift_word ["word", "amount"] (defScope s_lift_word) := ⟨rfl, rfl, rfl, by decide +kernel, rfl, by decide +kernel, by decide +kernel⟩
theorem Tx.f_lift_word (T : Tx K mg) : ∃ fd, FunD K "lift_word" "lift_word" (defArgs s_lift_word) (defBody s_lift_word) (defScope s_lift_word) (d_lift_word.dvs K) [] (He.fAd K ("lift_word", none)) fd := T.D.def_ 33 (d := d_lift_word) rfl
theorem b_lift_word {fd : FuncData} {f : Addr} (F : FunD K "lift_word" "lift_word" (defArgs s_lift_word) (defBody s_lift_word) (defScope s_lift_word) [] [] f fd) : Binds K fd ["word", "amount"] [] := F.bindsN fun _ _ _ _ _ _ us hl => match us, hl with | [_, _], _ => rfl
abbrev n_lowering_place : List Str := ["word", "amount", "ones", "behind", "at", "ahead", "letter"]
theorem sc_lowering_place : FnScope n_lowering_place ["word", "amount"] (defScope s_lowering_place) := ⟨rfl, rfl, rfl, by decide +kernel, rfl, by decide +kernel, by decide +kernel⟩
theorem Tx.f_lowering_place (T : Tx K mg) : ∃ fd, FunD K "lowering_place" "lowering_place" (defArgs s_lowering_place) (defBody s_lowering_place) (defScope s_lowering_place) (d_lowering_place.dvs K) [] (He.fAd K ("lowering_place", none)) fd := T.D.def_ 34 (d := d_lowering_place) rfl
theorem b_lowering_place {fd : FuncData} {f : Addr} (F : FunD K "lowering_place" "lowering_place" (defArgs s_lowering_place) (defBody s_lowering_place) (defScope s_lowering_place) [] [] f fd) : Binds K fd ["word", "amount"] [] := F.bindsN fun _ _ _ _ _ _ us hl => match us, hl with | [_, _], _ => rfl
abbrev n_check_modulus_sums : List Str := ["modulus", "low"]
theorem sc_check_modulus_sums : FnScope n_check_modulus_sums ["modulus", "low"] (defScope s_check_modulus_sums) := ⟨rfl, rfl, rfl, by decide +kernel, rfl, by decide +kernel, by decide +kernel⟩
theorem Tx.f_check_modulus_sums (T : Tx K mg) : ∃ fd, FunD K "check_modulus" "check_modulus" (defArgs s_check_modulus_sums) (defBody s_check_modulus_sums) (defScope s_check_modulus_sums) (d_check_modulus_sums.dvs K) [] (He.fAd K ("check_modulus_sums", none)) fd := T.D.def_ 35 (d := d_check_modulus_sums) rfl
theorem b_check_modulus_sums {fd : FuncData} {f : Addr} (F : FunD K "check_modulus" "check_modulus" (defArgs s_check_modulus_sums) (defBody s_check_modulus_sums) (defScope s_check_modulus_sums) [] [] f fd) : Binds K fd ["modulus", "low"] [] := F.bindsN fun _ _ _ _ _ _ us hl => match us, hl with | [_, _], _ => rfl
abbrev n_check_rest : List Str := ["rest", "modulus"]
theorem sc_check_rest : FnScope n_check_rest ["rest", "modulus"] (defScope s_check_rest) := ⟨rfl, rfl, rfl, by decide +kernel, rfl, by decide +kernel, by decide +kernel⟩
theorem Tx.f_check_rest (T : Tx K mg) : ∃ fd, FunD K "check_rest" "check_rest" (defArgs s_check_rest) (defBody s_check_rest) (defScope s_check_rest) (d_check_rest.dvs K) [] (He.fAd K ("check_rest", none)) fd := T.D.def_ 36 (d := d_check_rest) rfl
theorem b_check_rest {fd : FuncData} {f : Addr} (F : FunD K "check_rest" "check_rest" (defArgs s_check_rest) (defBody s_check_rest) (defScope s_check_rest) [] [] f fd) : Binds K fd ["rest", "modulus"] [] := F.bindsN fun _ _ _ _ _ _ us hl => match us, hl with | [_, _], _ => rfl
abbrev n_SumBook_init : List Str := ["self", "length", "modulus", "rest"]
theorem sc_SumBook_init : FnScope n_SumBook_init ["self", "length", "modulus", "rest"] (defScope s_SumBook_init) := ⟨rfl, rfl, rfl, by decide +kernel, rfl, by decide +kernel, by decide +kernel⟩
theorem Tx.f_SumBook_init (T : Tx K mg) : ∃ fd, FunD K "__init__" "SumBook.__init__" (defArgs s_SumBook_init) (defBody s_SumBook_init) (defScope s_SumBook_init) (d_SumBook_init.dvs K) [] (He.fAd K ("SumBook", some "__init__")) fd := T.D.def_ 37 (d := d_SumBook_init) rfl
theorem b_SumBook_init {fd : FuncData} {f : Addr} (F : FunD K "__init__" "SumBook.__init__" (defArgs s_SumBook_init) (defBody s_SumBook_init) (defScope s_SumBook_init) [] [] f fd) : Binds K fd ["self", "length", "modulus", "rest"] [] := F.bindsN fun _ _ _ _ _ _ us hl => match us, hl with | [_, _, _, _], _ => rfl
abbrev n_every_word : List Str := ["letters", "length", "words", "step", "word", "letter"]
theorem sc_every_word : FnScope n_every_word ["letters", "length"] (defScope s_every_word) := ⟨rfl, rfl, rfl, by decide +kernel, rfl, by decide +kernel, by decide +kernel⟩
theorem Tx.f_every_word (T : Tx K mg) : ∃ fd, FunD K "every_word" "every_word" (defArgs s_every_word) (defBody s_every_word) (defScope s_every_word) (d_every_word.dvs K) [] (He.fAd K ("every_word", none)) fd := T.D.def_ 38 (d := d_every_word) rfl
theorem b_every_word {fd : FuncData} {f : Addr} (F : FunD K "every_word" "every_word" (defArgs s_every_word) (defBody s_every_word) (defScope s_every_word) [] [] f fd) : Binds K fd ["letters", "length"] [] := F.bindsN fun _ _ _ _ _ _ us hl => match us, hl with | [_, _], _ => rfl
abbrev n_sum_members : List Str := ["book", "word"]
theorem sc_sum_members : GScope n_sum_members ["book"] (defScope s_sum_members) := ⟨rfl, rfl, rfl, by decide +kernel, rfl, by decide +kernel, by decide +kernel⟩
theorem Tx.f_sum_members (T : Tx K mg) : ∃ fd, FunD K "sum_members" "sum_members" (defArgs s_sum_members) (defBody s_sum_members) (defScope s_sum_members) (d_sum_members.dvs K) [] (He.fAd K ("sum_members", none)) fd := T.D.def_ 39 (d := d_sum_members) rfl
theorem b_sum_members {fd : FuncData} {f : Addr} (F : FunD K "sum_members" "sum_members" (defArgs s_sum_members) (defBody s_sum_members) (defScope s_sum_members) [] [] f fd) : Binds K fd ["book"] [] := F.bindsN fun _ _ _ _ _ _ us hl => match us, hl with | [_], _ => rfl
abbrev n_modulus_clash : List Str := ["length", "modulus", "rest", "below", "other", "place"]
theorem sc_modulus_clash : FnScope n_modulus_clash ["length", "modulus", "rest"] (defScope s_modulus_clash) := ⟨rfl, rfl, rfl, by decide +kernel, rfl, by decide +kernel, by decide +kernel⟩
theorem Tx.f_modulus_clash (T : Tx K mg) : ∃ fd, FunD K "modulus_clash" "modulus_clash" (defArgs s_modulus_clash) (defBody s_modulus_clash) (defScope s_modulus_clash) (d_modulus_clash.dvs K) [] (He.fAd K ("modulus_clash", none)) fd := T.D.def_ 40 (d := d_modulus_clash) rfl
theorem b_modulus_clash {fd : FuncData} {f : Addr} (F : FunD K "modulus_clash" "modulus_clash" (defArgs s_modulus_clash) (defBody s_modulus_clash) (defScope s_modulus_clash) [] [] f fd) : Binds K fd ["length", "modulus", "rest"] [] := F.bindsN fun _ _ _ _ _ _ us hl => match us, hl with | [_, _, _], _ => rfl
abbrev n_check_read : List Str := ["word", "length"]
theorem sc_check_read : FnScope n_check_read ["word", "length"] (defScope s_check_read) := ⟨rfl, rfl, rfl, by decide +kernel, rfl, by decide +kernel, by decide +kernel⟩
theorem Tx.f_check_read (T : Tx K mg) : ∃ fd, FunD K "check_read" "check_read" (defArgs s_check_read) (defBody s_check_read) (defScope s_check_read) (d_check_read.dvs K) [] (He.fAd K ("check_read", none)) fd := T.D.def_ 41 (d := d_check_read) rfl
theorem b_check_read {fd : FuncData} {f : Addr} (F : FunD K "check_read" "check_read" (defArgs s_check_read) (defBody s_check_read) (defScope s_check_read) [] [] f fd) : Binds K fd ["word", "length"] [] := F.bindsN fun _ _ _ _ _ _ us hl => match us, hl with | [_, _], _ => rfl
abbrev n_loss_amount : List Str := ["book", "word", "amount"]
theorem sc_loss_amount : FnScope n_loss_amount ["book", "word"] (defScope s_loss_amount) := ⟨rfl, rfl, rfl, by decide +kernel, rfl, by decide +kernel, by decide +kernel⟩
theorem Tx.f_loss_amount (T : Tx K mg) : ∃ fd, FunD K "loss_amount" "loss_amount" (defArgs s_loss_amount) (defBody s_loss_amount) (defScope s_loss_amount) (d_loss_amount.dvs K) [] (He.fAd K ("loss_amount", none)) fd := T.D.def_ 42 (d := d_loss_amount) rfl
theorem b_loss_amount {fd : FuncData} {f : Addr} (F : FunD K "loss_amount" "loss_amount" (defArgs s_loss_amount) (defBody s_loss_amount) (defScope s_loss_amount) [] [] f fd) : Binds K fd ["book", "word"] [] := F.bindsN fun _ _ _ _ _ _ us hl => match us, hl with | [_, _], _ => rfl
abbrev n_put_place : List Str := ["book", "word", "amount", "at"]
theorem sc_put_place : FnScope n_put_place ["book", "word"] (defScope s_put_place) := ⟨rfl, rfl, rfl, by decide +kernel, rfl, by decide +kernel, by decide +kernel⟩
theorem Tx.f_put_place (T : Tx K mg) : ∃ fd, FunD K "put_place" "put_place" (defArgs s_put_place) (defBody s_put_place) (defScope s_put_place) (d_put_place.dvs K) [] (He.fAd K ("put_place", none)) fd := T.D.def_ 43 (d := d_put_place) rfl
theorem b_put_place {fd : FuncData} {f : Addr} (F : FunD K "put_place" "put_place" (defArgs s_put_place) (defBody s_put_place) (defScope s_put_place) [] [] f fd) : Binds K fd ["book", "word"] [] := F.bindsN fun _ _ _ _ _ _ us hl => match us, hl with | [_, _], _ => rfl
abbrev n_member_above : List Str := ["book", "word", "amount"]
theorem sc_member_above : FnScope n_member_above ["book", "word"] (defScope s_member_above) := ⟨rfl, rfl, rfl, by decide +kernel, rfl, by decide +kernel, by decide +kernel⟩
theorem Tx.f_member_above (T : Tx K mg) : ∃ fd, FunD K "member_above" "member_above" (defArgs s_member_above) (defBody s_member_above) (defScope s_member_above) (d_member_above.dvs K) [] (He.fAd K ("member_above", none)) fd := T.D.def_ 44 (d := d_member_above) rfl
theorem b_member_above {fd : FuncData} {f : Addr} (F : FunD K "member_above" "member_above" (defArgs s_member_above) (defBody s_member_above) (defScope s_member_above) [] [] f fd) : Binds K fd ["book", "word"] [] := F.bindsN fun _ _ _ _ _ _ us hl => match us, hl with | [_, _], _ => rfl
abbrev n_member_below : List Str := ["book", "word", "at"]
theorem sc_member_below : FnScope n_member_below ["book", "word"] (defScope s_member_below) := ⟨rfl, rfl, rfl, by decide +kernel, rfl, by decide +kernel, by decide +kernel⟩
theorem Tx.f_member_below (T : Tx K mg) : ∃ fd, FunD K "member_below" "member_below" (defArgs s_member_below) (defBody s_member_below) (defScope s_member_below) (d_member_below.dvs K) [] (He.fAd K ("member_below", none)) fd := T.D.def_ 45 (d := d_member_below) rfl
theorem b_member_below {fd : FuncData} {f : Addr} (F : FunD K "member_below" "member_below" (defArgs s_member_below) (defBody s_member_below) (defScope s_member_below) [] [] f fd) : Binds K fd ["book", "word"] [] := F.bindsN fun _ _ _ _ _ _ us hl => match us, hl with | [_, _], _ => rfl
abbrev n_read_lost : List Str := ["book", "word"]
theorem sc_read_lost : FnScope n_read_lost ["book", "word"] (defScope s_read_lost) := ⟨rfl, rfl, rfl, by decide +kernel, rfl, by decide +kernel, by decide +kernel⟩
theorem Tx.f_read_lost (T : Tx K mg) : ∃ fd, FunD K "read_lost" "read_lost" (defArgs s_read_lost) (defBody s_read_lost) (defScope s_read_lost) (d_read_lost.dvs K) [] (He.fAd K ("read_lost", none)) fd := T.D.def_ 46 (d := d_read_lost) rfl
theorem b_read_lost {fd : FuncData} {f : Addr} (F : FunD K "read_lost" "read_lost" (defArgs s_read_lost) (defBody s_read_lost) (defScope s_read_lost) [] [] f fd) : Binds K fd ["book", "word"] [] := F.bindsN fun _ _ _ _ _ _ us hl => match us, hl with | [_, _], _ => rfl
abbrev n_read_put : List Str := ["book", "word"]
theorem sc_read_put : FnScope n_read_put ["book", "word"] (defScope s_read_put) := ⟨rfl, rfl, rfl, by decide +kernel, rfl, by decide +kernel, by decide +kernel⟩
theorem Tx.f_read_put (T : Tx K mg) : ∃ fd, FunD K "read_put" "read_put" (defArgs s_read_put) (defBody s_read_put) (defScope s_read_put) (d_read_put.dvs K) [] (He.fAd K ("read_put", none)) fd := T.D.def_ 47 (d := d_read_put) rfl
theorem b_read_put {fd : FuncData} {f : Addr} (F : FunD K "read_put" "read_put" (defArgs s_read_put) (defBody s_read_put) (defScope s_read_put) [] [] f fd) : Binds K fd ["book", "word"] [] := F.bindsN fun _ _ _ _ _ _ us hl => match us, hl with | [_, _], _ => rfl
abbrev n_near_members : List Str := ["book", "word", "told", "at", "member"]
theorem sc_near_members : FnScope n_near_members ["book", "word"] (defScope s_near_members) := ⟨rfl, rfl, rfl, by decide +kernel, rfl, by decide +kernel, by decide +kernel⟩
theorem Tx.f_near_members (T : Tx K mg) : ∃ fd, FunD K "near_members" "near_members" (defArgs s_near_members) (defBody s_near_members) (defScope s_near_members) (d_near_members.dvs K) [] (He.fAd K ("near_members", none)) fd := T.D.def_ 48 (d := d_near_members) rfl
theorem b_near_members {fd : FuncData} {f : Addr} (F : FunD K "near_members" "near_members" (defArgs s_near_members) (defBody s_near_members) (defScope s_near_members) [] [] f fd) : Binds K fd ["book", "word"] [] := F.bindsN fun _ _ _ _ _ _ us hl => match us, hl with | [_, _], _ => rfl
abbrev n_law_hand : List Str := ["_law_script", "_law_total", "_law_cells", "_law_cell"]
theorem sc_law_hand : FnScope n_law_hand ["_law_script"] (defScope s_law_hand) := ⟨rfl, rfl, rfl, by decide +kernel, rfl, by decide +kernel, by decide +kernel⟩
theorem Tx.f_law_hand (T : Tx K mg) : ∃ fd, FunD K "_law_hand" "_law_hand" (defArgs s_law_hand) (defBody s_law_hand) (defScope s_law_hand) (d_law_hand.dvs K) [] (He.fAd K ("_law_hand", none)) fd := T.D.def_ 49 (d := d_law_hand) rfl
theorem b_law_hand {fd : FuncData} {f : Addr} (F : FunD K "_law_hand" "_law_hand" (defArgs s_law_hand) (defBody s_law_hand) (defScope s_law_hand) [] [] f fd) : Binds K fd ["_law_script"] [] := F.bindsN fun _ _ _ _ _ _ us hl => match us, hl with | [_], _ => rfl
abbrev n_law_mixed : List Str := ["_law_number", "_law_turn", "_law_once", "_law_twice"]
theorem sc_law_mixed : FnScope n_law_mixed ["_law_number", "_law_turn"] (defScope s_law_mixed) := ⟨rfl, rfl, rfl, by decide +kernel, rfl, by decide +kernel, by decide +kernel⟩
theorem Tx.f_law_mixed (T : Tx K mg) : ∃ fd, FunD K "_law_mixed" "_law_mixed" (defArgs s_law_mixed) (defBody s_law_mixed) (defScope s_law_mixed) (d_law_mixed.dvs K) [] (He.fAd K ("_law_mixed", none)) fd := T.D.def_ 50 (d := d_law_mixed) rfl
theorem b_law_mixed {fd : FuncData} {f : Addr} (F : FunD K "_law_mixed" "_law_mixed" (defArgs s_law_mixed) (defBody s_law_mixed) (defScope s_law_mixed) [] [] f fd) : Binds K fd ["_law_number", "_law_turn"] [] := F.bindsN fun _ _ _ _ _ _ us hl => match us, hl with | [_, _], _ => rfl
abbrev n_law_take : List Str := ["_law_hand_here", "_law_many", "_law_cell", "_law_rest"]
theorem sc_law_take : FnScope n_law_take ["_law_hand_here", "_law_many"] (defScope s_law_take) := ⟨rfl, rfl, rfl, by decide +kernel, rfl, by decide +kernel, by decide +kernel⟩
theorem Tx.f_law_take (T : Tx K mg) : ∃ fd, FunD K "_law_take" "_law_take" (defArgs s_law_take) (defBody s_law_take) (defScope s_law_take) (d_law_take.dvs K) [] (He.fAd K ("_law_take", none)) fd := T.D.def_ 51 (d := d_law_take) rfl
theorem b_law_take {fd : FuncData} {f : Addr} (F : FunD K "_law_take" "_law_take" (defArgs s_law_take) (defBody s_law_take) (defScope s_law_take) [] [] f fd) : Binds K fd ["_law_hand_here", "_law_many"] [] := F.bindsN fun _ _ _ _ _ _ us hl => match us, hl with | [_, _], _ => rfl
abbrev n_law_all_words : List Str := ["_law_q", "_law_n", "_law_told", "_law_k", "_law_longer", "_law_word", "_law_letter"]
theorem sc_law_all_words : FnScope n_law_all_words ["_law_q", "_law_n"] (defScope s_law_all_words) := ⟨rfl, rfl, rfl, by decide +kernel, rfl, by decide +kernel, by decide +kernel⟩
theorem Tx.f_law_all_words (T : Tx K mg) : ∃ fd, FunD K "_law_all_words" "_law_all_words" (defArgs s_law_all_words) (defBody s_law_all_words) (defScope s_law_all_words) (d_law_all_words.dvs K) [] (He.fAd K ("_law_all_words", none)) fd := T.D.def_ 52 (d := d_law_all_words) rfl
theorem b_law_all_words {fd : FuncData} {f : Addr} (F : FunD K "_law_all_words" "_law_all_words" (defArgs s_law_all_words) (defBody s_law_all_words) (defScope s_law_all_words) [] [] f fd) : Binds K fd ["_law_q", "_law_n"] [] := F.bindsN fun _ _ _ _ _ _ us hl => match us, hl with | [_, _], _ => rfl
abbrev n_law_common : List Str := ["_law_one", "_law_other", "_law_row", "_law_letter", "_law_last", "_law_k", "_law_here"]
theorem sc_law_common : FnScope n_law_common ["_law_one", "_law_other"] (defScope s_law_common) := ⟨rfl, rfl, rfl, by decide +kernel, rfl, by decide +kernel, by decide +kernel⟩
theorem Tx.f_law_common (T : Tx K mg) : ∃ fd, FunD K "_law_common" "_law_common" (defArgs s_law_common) (defBody s_law_common) (defScope s_law_common) (d_law_common.dvs K) [] (He.fAd K ("_law_common", none)) fd := T.D.def_ 53 (d := d_law_common) rfl
theorem b_law_common {fd : FuncData} {f : Addr} (F : FunD K "_law_common" "_law_common" (defArgs s_law_common) (defBody s_law_common) (defScope s_law_common) [] [] f fd) : Binds K fd ["_law_one", "_law_other"] [] := F.bindsN fun _ _ _ _ _ _ us hl => match us, hl with | [_, _], _ => rfl
abbrev n_law_sum : List Str := ["_law_word", "_law_k"]
theorem sc_law_sum : FnScope n_law_sum ["_law_word"] (defScope s_law_sum) := ⟨rfl, rfl, rfl, by decide +kernel, rfl, by decide +kernel, by decide +kernel⟩
theorem Tx.f_law_sum (T : Tx K mg) : ∃ fd, FunD K "_law_sum" "_law_sum" (defArgs s_law_sum) (defBody s_law_sum) (defScope s_law_sum) (d_law_sum.dvs K) [] (He.fAd K ("_law_sum", none)) fd := T.D.def_ 54 (d := d_law_sum) rfl
theorem b_law_sum {fd : FuncData} {f : Addr} (F : FunD K "_law_sum" "_law_sum" (defArgs s_law_sum) (defBody s_law_sum) (defScope s_law_sum) [] [] f fd) : Binds K fd ["_law_word"] [] := F.bindsN fun _ _ _ _ _ _ us hl => match us, hl with | [_], _ => rfl
abbrev n_law_sum_words : List Str := ["_law_n", "_law_modulus", "_law_rest", "_law_word"]
theorem sc_law_sum_words : FnScope n_law_sum_words ["_law_n", "_law_modulus", "_law_rest"] (defScope s_law_sum_words) := ⟨rfl, rfl, rfl, by decide +kernel, rfl, by decide +kernel, by decide +kernel⟩
theorem Tx.f_law_sum_words (T : Tx K mg) : ∃ fd, FunD K "_law_sum_words" "_law_sum_words" (defArgs s_law_sum_words) (defBody s_law_sum_words) (defScope s_law_sum_words) (d_law_sum_words.dvs K) [] (He.fAd K ("_law_sum_words", none)) fd := T.D.def_ 55 (d := d_law_sum_words) rfl
theorem b_law_sum_words {fd : FuncData} {f : Addr} (F : FunD K "_law_sum_words" "_law_sum_words" (defArgs s_law_sum_words) (defBody s_law_sum_words) (defScope s_law_sum_words) [] [] f fd) : Binds K fd ["_law_n", "_law_modulus", "_law_rest"] [] := F.bindsN fun _ _ _ _ _ _ us hl => match us, hl with | [_, _, _], _ => rfl
abbrev n_law_behind : List Str := ["_law_members", "_law_word", "_law_a", "_law_one"]
theorem sc_law_behind : FnScope n_law_behind ["_law_members", "_law_word", "_law_a"] (defScope s_law_behind) := ⟨rfl, rfl, rfl, by decide +kernel, rfl, by decide +kernel, by decide +kernel⟩
theorem Tx.f_law_behind (T : Tx K mg) : ∃ fd, FunD K "_law_behind" "_law_behind" (defArgs s_law_behind) (defBody s_law_behind) (defScope s_law_behind) (d_law_behind.dvs K) [] (He.fAd K ("_law_behind", none)) fd := T.D.def_ 56 (d := d_law_behind) rfl
theorem b_law_behind {fd : FuncData} {f : Addr} (F : FunD K "_law_behind" "_law_behind" (defArgs s_law_behind) (defBody s_law_behind) (defScope s_law_behind) [] [] f fd) : Binds K fd ["_law_members", "_law_word", "_law_a"] [] := F.bindsN fun _ _ _ _ _ _ us hl => match us, hl with | [_, _, _], _ => rfl
abbrev n_law_same_right : List Str := ["_law_hand_here", "_law_n", "_law_modulus", "_law_rest", "_law_sums", "_law_book", "_law_members", "_law_word", "_law_behind_here", "_law_due", "_law_told"]
theorem sc_law_same_right : FnScope n_law_same_right ["_law_hand_here"] (defScope s_law_same_right) := ⟨rfl, rfl, rfl, by decide +kernel, rfl, by decide +kernel, by decide +kernel⟩
theorem Tx.f_law_same_right (T : Tx K mg) : ∃ fd, FunD K "_law_same_right" "_law_same_right" (defArgs s_law_same_right) (defBody s_law_same_right) (defScope s_law_same_right) (d_law_same_right.dvs K) [] (He.fAd K ("_law_same_right", none)) fd := T.D.def_ 57 (d := d_law_same_right) rfl
theorem b_law_same_right {fd : FuncData} {f : Addr} (F : FunD K "_law_same_right" "_law_same_right" (defArgs s_law_same_right) (defBody s_law_same_right) (defScope s_law_same_right) [] [] f fd) : Binds K fd ["_law_hand_here"] [] := F.bindsN fun _ _ _ _ _ _ us hl => match us, hl with | [_], _ => rfl
abbrev n_law_clash_right : List Str := ["_law_hand_here", "_law_n", "_law_modulus", "_law_weights", "_law_close", "_law_one", "_law_other"]
theorem sc_law_clash_right : FnScope n_law_clash_right ["_law_hand_here"] (defScope s_law_clash_right) := ⟨rfl, rfl, rfl, by decide +kernel, rfl, by decide +kernel, by decide +kernel⟩
theorem Tx.f_law_clash_right (T : Tx K mg) : ∃ fd, FunD K "_law_clash_right" "_law_clash_right" (defArgs s_law_clash_right) (defBody s_law_clash_right) (defScope s_law_clash_right) (d_law_clash_right.dvs K) [] (He.fAd K ("_law_clash_right", none)) fd := T.D.def_ 58 (d := d_law_clash_right) rfl
theorem b_law_clash_right {fd : FuncData} {f : Addr} (F : FunD K "_law_clash_right" "_law_clash_right" (defArgs s_law_clash_right) (defBody s_law_clash_right) (defScope s_law_clash_right) [] [] f fd) : Binds K fd ["_law_hand_here"] [] := F.bindsN fun _ _ _ _ _ _ us hl => match us, hl with | [_], _ => rfl
abbrev n_law : List Str := ["_law_script", "_law_hand_here"]
theorem sc_law : FnScope n_law ["_law_script"] (defScope s_law) := ⟨rfl, rfl, rfl, by decide +kernel, rfl, by decide +kernel, by decide +kernel⟩
theorem Tx.f_law (T : Tx K mg) : ∃ fd, FunD K "law" "law" (defArgs s_law) (defBody s_law) (defScope s_law) (d_law.dvs K) [] (He.fAd K ("law", none)) fd := T.D.def_ 59 (d := d_law) rfl
theorem b_law {fd : FuncData} {f : Addr} (F : FunD K "law" "law" (defArgs s_law) (defBody s_law) (defScope s_law) [] [] f fd) : Binds K fd ["_law_script"] [] := F.bindsN fun _ _ _ _ _ _ us hl => match us, hl with | [_], _ => rfl
end
end K54

set_option Elab.async false
set_option linter.all false
set_option maxRecDepth 100000
set_option maxHeartbeats 4000000
/-! G1: what an expression gives is reckoned by a Lean function over the slots' data. -/
namespace K54
open PySem PySem.Spec PyProof.Rows L2

abbrev Mx := List Ent → Option Da
abbrev Mt := List Ent → Option Bool
abbrev Ma := List Ent → Option (List Da)
structure GE (X : Cx) (e : Expr) (f : Mx) : Prop where
  ok : ∀ Γ d, f Γ = some d → EV X e Γ d
structure GN (X : Cx) (e : Expr) (f : Mx) : Prop where
  ok : ∀ Γ d, f Γ = some d → EL X e Γ d
structure GT (X : Cx) (e : Expr) (f : Mt) : Prop where
  ok : ∀ Γ d, f Γ = some d → ET X e Γ d
structure GA (X : Cx) (es : List Expr) (f : Ma) : Prop where
  ok : ∀ Γ d, f Γ = some d → EA X es Γ d
def o1 (h : Da → Option Da) (f : Mx) : Mx := fun Γ => match f Γ with
  | some a => h a
  | none => none
def o2 (h : Da → Da → Option Da) (f g : Mx) : Mx := fun Γ => match f Γ with
  | some a => (match g Γ with
    | some b => h a b
    | none => none)
  | none => none
def t1 (h : Da → Option Bool) (f : Mx) : Mt := fun Γ => match f Γ with
  | some a => h a
  | none => none
def t2 (h : Da → Da → Option Bool) (f g : Mx) : Mt := fun Γ => match f Γ with
  | some a => (match g Γ with
    | some b => h a b
    | none => none)
  | none => none
theorem o1_ok {h : Da → Option Da} {f : Mx} {Γ : List Ent} {r : Da} (e : o1 h f Γ = some r) : ∃ a, f Γ = some a ∧ h a = some r := by
  unfold o1 at e
  split at e
  · exact ⟨_, by assumption, e⟩
  · cases e
theorem o2_ok {h : Da → Da → Option Da} {f g : Mx} {Γ : List Ent} {r : Da} (e : o2 h f g Γ = some r) : ∃ a b, f Γ = some a ∧ g Γ = some b ∧ h a b = some r := by
  unfold o2 at e
  split at e
  · split at e
    · exact ⟨_, _, by assumption, by assumption, e⟩
    · cases e
  · cases e
theorem t1_ok {h : Da → Option Bool} {f : Mx} {Γ : List Ent} {r : Bool} (e : t1 h f Γ = some r) : ∃ a, f Γ = some a ∧ h a = some r := by
  unfold t1 at e
  split at e
  · exact ⟨_, by assumption, e⟩
  · cases e
theorem t2_ok {h : Da → Da → Option Bool} {f g : Mx} {Γ : List Ent} {r : Bool} (e : t2 h f g Γ = some r) : ∃ a b, f Γ = some a ∧ g Γ = some b ∧ h a b = some r := by
  unfold t2 at e
  split at e
  · split at e
    · exact ⟨_, _, by assumption, by assumption, e⟩
    · cases e
  · cases e
theorem ev_of_el' {X : Cx} {e : Expr} {Γ : List Ent} {d : Da} (h : EL X e Γ d) : EV X e Γ d := fun H0 Hs H σ S Q q => h H0 Hs H σ S Q fun p vs Hs2 H2 t hp hs h2 r => by
  have sub : Same (upd Hs2 p (.lst vs)) H2 := fun b x hb => by
    by_cases z : b = p
    · subst z; rw [upd_same] at hb; cases hb; exact h2
    · rw [upd_ne z] at hb; exact t.sub b x hb
  refine q (.ref p) (upd Hs2 p (.lst vs)) H2 ⟨t.s.trans (Same.upd_new hs), t.h, sub, fun b o hb hz hn => ?_⟩ (DR.of_lst (.inl (.inl upd_same)) (r.ex (Same.upd_new hs)))
  have nb : b ≠ p := ne_of_none hb hp
  rw [upd_ne nb]
  exact t.own b o hb hz hn
section
variable {X : Cx} {a b c e o : Expr} {es : List Expr} {Γ : List Ent} {pos : Pos} {f g h : Mx} {fa : Ma} {t u v : Mt} {dd : List Da} {k : Nat} {x : Str}
/-! ### constants, names -/
theorem g_int {i : Int} {j : Nat} : GE X (.Constant (.int i) j pos) (fun _ => some (.int i)) := ⟨fun _ _ e => by cases e; exact ev_int⟩
theorem g_bl {i : Bool} {j : Nat} : GE X (.Constant (.bool i) j pos) (fun _ => some (.bl i)) := ⟨fun _ _ e => by cases e; exact ev_bl⟩
theorem g_non {j : Nat} : GE X (.Constant .none j pos) (fun _ => some .non) := ⟨fun _ _ e => by cases e; exact ev_non⟩
def oVar (i : Nat) : Mx := fun Γ => match Γ[i]? with
  | some (.val d) => some d
  | _ => none
theorem oVar_ok {i : Nat} {d : Da} (e : oVar i Γ = some d) : Γ[i]? = some (.val d) := by
  unfold oVar at e
  split at e
  · cases e; assumption
  · cases e
theorem g_var (i : Nat) (hN : X.N[i]? = some x := by rfl) (hv : Vis X.env.scope x := by first | exact Or.inl rfl | exact Or.inr (Or.inl rfl) | exact Or.inr (Or.inr rfl)) (hd : (x == ("__debug__" : Str)) = false := by decide)
    (hcd : (x == ("__classdict__" : Str)) = false := by decide) : GE X (.Name x pos) (oVar i) := ⟨fun Γ d e => ev_var i (oVar_ok e) hN hv hd hcd⟩
theorem g_glob {i : Int} (hm : ∃ t, X.mg x = some (.int i t)) (hg : Gl X x := by rfl) (hd : (x == ("__debug__" : Str)) = false := by decide) : GE X (.Name x pos) (fun _ => some (.int i)) := ⟨fun _ _ e => by cases e; exact ev_glob hm hg hd⟩
theorem g_new (h : GN X e f) : GE X e f := ⟨fun Γ d e => ev_of_el' (h.ok Γ d e)⟩
/-! ### reckoning -/
def addD : Da → Da → Option Da
  | .int i, .int j => some (.int (i + j))
  | .wd w, .wd u => if w.length + u.length ≤ 1000 then some (.wd (w ++ u)) else none
  | _, _ => none
theorem g_add (ha : GE X a f) (hb : GE X b g) : GE X (.BinOp a .Add b pos) (o2 addD f g) := ⟨fun Γ d e => by
  obtain ⟨p, q, e1, e2, e3⟩ := o2_ok e
  have h1 := ha.ok Γ p e1
  have h2 := hb.ok Γ q e2
  unfold addD at e3
  split at e3
  · cases e3; exact ev_add h1 h2
  · split at e3
    · cases e3; exact ev_cat h1 h2 (by assumption)
    · cases e3
  · cases e3⟩
def subD : Da → Da → Option Da
  | .int i, .int j => some (.int (i - j))
  | _, _ => none
theorem g_sub (ha : GE X a f) (hb : GE X b g) : GE X (.BinOp a .Sub b pos) (o2 subD f g) := ⟨fun Γ d e => by
  obtain ⟨p, q, e1, e2, e3⟩ := o2_ok e
  have h1 := ha.ok Γ p e1
  have h2 := hb.ok Γ q e2
  unfold subD at e3
  split at e3
  · cases e3; exact ev_sub h1 h2
  · cases e3⟩
def mulD : Da → Da → Option Da
  | .int i, .int j => if -1000000000000000000 < j ∧ j < 1000000000000000000 then some (.int (i * j)) else none
  | _, _ => none
theorem g_mul (ha : GE X a f) (hb : GE X b g) : GE X (.BinOp a .Mult b pos) (o2 mulD f g) := ⟨fun Γ d e => by
  obtain ⟨p, q, e1, e2, e3⟩ := o2_ok e
  have h1 := ha.ok Γ p e1
  have h2 := hb.ok Γ q e2
  unfold mulD at e3
  split at e3
  · split at e3
    · cases e3; exact ev_mul h1 h2 (.inr (by omega))
    · cases e3
  · cases e3⟩
def divD : Da → Da → Option Da
  | .int i, .int j => if 0 < j ∧ j < 1073741824 then some (.int (i / j)) else none
  | _, _ => none
theorem g_div (ha : GE X a f) (hb : GE X b g) : GE X (.BinOp a .FloorDiv b pos) (o2 divD f g) := ⟨fun Γ d e => by
  obtain ⟨p, q, e1, e2, e3⟩ := o2_ok e
  have h1 := ha.ok Γ p e1
  have h2 := hb.ok Γ q e2
  unfold divD at e3
  split at e3
  · split at e3
    · cases e3; exact ev_div h1 h2 (by assumption)
    · cases e3
  · cases e3⟩
def modD : Da → Da → Option Da
  | .int i, .int j => if 0 < j then some (.int (i % j)) else none
  | _, _ => none
theorem g_mod (ha : GE X a f) (hb : GE X b g) : GE X (.BinOp a .Mod b pos) (o2 modD f g) := ⟨fun Γ d e => by
  obtain ⟨p, q, e1, e2, e3⟩ := o2_ok e
  have h1 := ha.ok Γ p e1
  have h2 := hb.ok Γ q e2
  unfold modD at e3
  split at e3
  · split at e3
    · cases e3; exact ev_mod h1 h2 (by assumption)
    · cases e3
  · cases e3⟩
def negD : Da → Option Da
  | .int i => some (.int (-i))
  | _ => none
theorem g_neg (ha : GE X a f) : GE X (.UnaryOp .USub a pos) (o1 negD f) := ⟨fun Γ d e => by
  obtain ⟨p, e1, e3⟩ := o1_ok e
  have h1 := ha.ok Γ p e1
  unfold negD at e3
  split at e3
  · cases e3; exact ev_neg h1
  · cases e3⟩
/-! ### comparisons -/
def ltD : Da → Da → Option Bool
  | .int i, .int j => some (decide (i < j))
  | _, _ => none
def leD : Da → Da → Option Bool
  | .int i, .int j => some (decide (i ≤ j))
  | _, _ => none
def gtD : Da → Da → Option Bool
  | .int i, .int j => some (decide (j < i))
  | _, _ => none
def geD : Da → Da → Option Bool
  | .int i, .int j => some (decide (j ≤ i))
  | _, _ => none
def eqD : Da → Da → Option Bool
  | .int i, .int j => some (decide (i = j))
  | .bl i, .bl j => some (i == j)
  | _, _ => none
def neD : Da → Da → Option Bool
  | .int i, .int j => some (decide (i ≠ j))
  | .bl i, .bl j => some (i != j)
  | .str i, .str j => some (!decide (i = j))
  | _, _ => none
theorem gt_lt (ha : GE X a f) (hb : GE X b g) : GT X (.Compare a [.Lt] [b] pos) (t2 ltD f g) := ⟨fun Γ d e => by
  obtain ⟨p, q, e1, e2, e3⟩ := t2_ok e
  have h1 := ha.ok Γ p e1
  have h2 := hb.ok Γ q e2
  unfold ltD at e3
  split at e3
  · cases e3; exact et_lt h1 h2
  · cases e3⟩
theorem gt_le (ha : GE X a f) (hb : GE X b g) : GT X (.Compare a [.LtE] [b] pos) (t2 leD f g) := ⟨fun Γ d e => by
  obtain ⟨p, q, e1, e2, e3⟩ := t2_ok e
  have h1 := ha.ok Γ p e1
  have h2 := hb.ok Γ q e2
  unfold leD at e3
  split at e3
  · cases e3; exact et_le h1 h2
  · cases e3⟩
theorem gt_gt (ha : GE X a f) (hb : GE X b g) : GT X (.Compare a [.Gt] [b] pos) (t2 gtD f g) := ⟨fun Γ d e => by
  obtain ⟨p, q, e1, e2, e3⟩ := t2_ok e
  have h1 := ha.ok Γ p e1
  have h2 := hb.ok Γ q e2
  unfold gtD at e3
  split at e3
  · cases e3; exact et_gt h1 h2
  · cases e3⟩
theorem gt_ge (ha : GE X a f) (hb : GE X b g) : GT X (.Compare a [.GtE] [b] pos) (t2 geD f g) := ⟨fun Γ d e => by
  obtain ⟨p, q, e1, e2, e3⟩ := t2_ok e
  have h1 := ha.ok Γ p e1
  have h2 := hb.ok Γ q e2
  unfold geD at e3
  split at e3
  · cases e3; exact et_ge h1 h2
  · cases e3⟩
theorem et_eqB {Γ : List Ent} {p q : Bool} (ha : EV X a Γ (.bl p)) (hb : EV X b Γ (.bl q)) : ET X (.Compare a [.Eq] [b] pos) Γ (p == q) := et_cast (et_eq ha hb rfl rfl rfl) (by cases p <;> cases q <;> decide)
theorem gt_eq (ha : GE X a f) (hb : GE X b g) : GT X (.Compare a [.Eq] [b] pos) (t2 eqD f g) := ⟨fun Γ d e => by
  obtain ⟨p, q, e1, e2, e3⟩ := t2_ok e
  have h1 := ha.ok Γ p e1
  have h2 := hb.ok Γ q e2
  unfold eqD at e3
  split at e3
  · cases e3; exact et_eqI h1 h2
  · cases e3; exact et_eqB h1 h2
  · cases e3⟩
theorem gt_ne (ha : GE X a f) (hb : GE X b g) : GT X (.Compare a [.NotEq] [b] pos) (t2 neD f g) := ⟨fun Γ d e => by
  obtain ⟨p, q, e1, e2, e3⟩ := t2_ok e
  have h1 := ha.ok Γ p e1
  have h2 := hb.ok Γ q e2
  unfold neD at e3
  split at e3
  · cases e3; exact et_neI h1 h2
  · cases e3; exact et_neB h1 h2
  · cases e3; exact et_neS h1 h2
  · cases e3⟩
def blOf (h : Da → Da → Option Bool) : Da → Da → Option Da := fun a b => (h a b).map .bl
theorem blOf_ok {h : Da → Da → Option Bool} {p q r : Da} (e : blOf h p q = some r) : ∃ k, h p q = some k ∧ r = .bl k := by
  unfold blOf at e
  obtain ⟨k, h1, h2⟩ := Option.map_eq_some_iff.mp e
  exact ⟨k, h1, h2.symm⟩
theorem g_eq (ha : GE X a f) (hb : GE X b g) : GE X (.Compare a [.Eq] [b] pos) (o2 (blOf eqD) f g) := ⟨fun Γ d e => by
  obtain ⟨p, q, e1, e2, e3⟩ := o2_ok e
  obtain ⟨k, e4, rfl⟩ := blOf_ok e3
  have h1 := ha.ok Γ p e1
  have h2 := hb.ok Γ q e2
  unfold eqD at e4
  split at e4
  · cases e4; exact ev_eqI h1 h2
  · cases e4; exact ev_eqB h1 h2
  · cases e4⟩
theorem g_gt (ha : GE X a f) (hb : GE X b g) : GE X (.Compare a [.Gt] [b] pos) (o2 (blOf gtD) f g) := ⟨fun Γ d e => by
  obtain ⟨p, q, e1, e2, e3⟩ := o2_ok e
  obtain ⟨k, e4, rfl⟩ := blOf_ok e3
  have h1 := ha.ok Γ p e1
  have h2 := hb.ok Γ q e2
  unfold gtD at e4
  split at e4
  · cases e4; exact ev_gt h1 h2
  · cases e4⟩
theorem g_le (ha : GE X a f) (hb : GE X b g) : GE X (.Compare a [.LtE] [b] pos) (o2 (blOf leD) f g) := ⟨fun Γ d e => by
  obtain ⟨p, q, e1, e2, e3⟩ := o2_ok e
  obtain ⟨k, e4, rfl⟩ := blOf_ok e3
  have h1 := ha.ok Γ p e1
  have h2 := hb.ok Γ q e2
  unfold leD at e4
  split at e4
  · cases e4; exact ev_le h1 h2
  · cases e4⟩
theorem g_isN {j : Nat} {p2 : Pos} (ha : GE X a f) : GE X (.Compare a [.Is] [.Constant .none j p2] pos) (o1 (fun d => some (.bl (isNon d))) f) := ⟨fun Γ d e => by
  obtain ⟨p, e1, e3⟩ := o1_ok e
  cases e3; exact ev_isN (ha.ok Γ p e1)⟩
theorem gt_isN {j : Nat} {p2 : Pos} (ha : GE X a f) : GT X (.Compare a [.Is] [.Constant .none j p2] pos) (t1 (fun d => some (isNon d)) f) := ⟨fun Γ d e => by
  obtain ⟨p, e1, e3⟩ := t1_ok e
  cases e3; exact et_isN (ha.ok Γ p e1)⟩
theorem gt_notN {j : Nat} {p2 : Pos} (ha : GE X a f) : GT X (.Compare a [.IsNot] [.Constant .none j p2] pos) (t1 (fun d => some (!isNon d)) f) := ⟨fun Γ d e => by
  obtain ⟨p, e1, e3⟩ := t1_ok e
  cases e3; exact et_notN (ha.ok Γ p e1)⟩
/-! ### tests -/
def asB : Da → Option Bool
  | .bl k => some k
  | _ => none
theorem gt_val (h : GE X e f) (he : ∀ whole, isTrue e X.env whole = (do let v ← whole; standAt e.pos; holding [v] (truthy v)) := by intro _; rfl) : GT X e (t1 asB f) := ⟨fun Γ d e => by
  obtain ⟨p, e1, e3⟩ := t1_ok e
  have h1 := h.ok Γ p e1
  unfold asB at e3
  split at e3
  · cases e3; exact et_val h1 he
  · cases e3⟩
def fullD (d : Da) : Option Bool := if isLst d then some (decide (0 < dlen d)) else none
theorem gt_lst (h : GE X e f) (he : ∀ whole, isTrue e X.env whole = (do let v ← whole; standAt e.pos; holding [v] (truthy v)) := by intro _; rfl) : GT X e (t1 fullD f) := ⟨fun Γ d e => by
  obtain ⟨p, e1, e3⟩ := t1_ok e
  have h1 := h.ok Γ p e1
  unfold fullD at e3
  split at e3
  · cases e3; exact et_lst (by assumption) h1 he
  · cases e3⟩
def notM (t : Mt) : Mt := fun Γ => match t Γ with
  | some k => some (!k)
  | none => none
theorem gt_not (h : GT X a t) : GT X (.UnaryOp .Not a pos) (notM t) := ⟨fun Γ d e => by
  unfold notM at e
  split at e
  · cases e; exact et_not (h.ok Γ _ (by assumption))
  · cases e⟩
def andM (t u : Mt) : Mt := fun Γ => match t Γ with
  | some true => u Γ
  | some false => some false
  | none => none
def orM (t u : Mt) : Mt := fun Γ => match t Γ with
  | some true => some true
  | some false => u Γ
  | none => none
theorem gt_and2 (ha : GT X a t) (hb : GT X b u) : GT X (.BoolOp .And [a, b] pos) (andM t u) := ⟨fun Γ d e => by
  unfold andM at e
  split at e
  · exact et_cast (et_and2 (ha.ok Γ _ (by assumption)) fun _ => hb.ok Γ d e) (Bool.true_and d)
  · cases e; exact et_and2 (k' := false) (ha.ok Γ _ (by assumption)) fun z => by cases z
  · cases e⟩
theorem gt_or2 (ha : GT X a t) (hb : GT X b u) : GT X (.BoolOp .Or [a, b] pos) (orM t u) := ⟨fun Γ d e => by
  unfold orM at e
  split at e
  · cases e; exact et_or2 (k' := false) (ha.ok Γ _ (by assumption)) fun z => by cases z
  · exact et_cast (et_or2 (ha.ok Γ _ (by assumption)) fun _ => hb.ok Γ d e) (Bool.false_or d)
  · cases e⟩
theorem gt_and3 (ha : GT X a t) (hb : GT X b u) (hc : GT X c v) : GT X (.BoolOp .And [a, b, c] pos) (andM t (andM u v)) := ⟨fun Γ d e => by
  unfold andM at e
  split at e
  · split at e
    · exact et_cast (et_and3 (ha.ok Γ _ (by assumption)) (fun _ => hb.ok Γ _ (by assumption)) fun _ _ => hc.ok Γ d e) (by simp)
    · cases e; exact et_and3 (k'' := false) (ha.ok Γ _ (by assumption)) (fun _ => hb.ok Γ _ (by assumption)) fun _ z => by cases z
    · cases e
  · cases e; exact et_and3 (k' := false) (k'' := false) (ha.ok Γ _ (by assumption)) (fun z => by cases z) fun z => by cases z
  · cases e⟩
def ifE (t : Mt) (f g : Mx) : Mx := fun Γ => match t Γ with
  | some true => f Γ
  | some false => g Γ
  | none => none
theorem g_ifExp (hc : GT X c t) (ha : GE X a f) (hb : GE X b g) : GE X (.IfExp c a b pos) (ifE t f g) := ⟨fun Γ d e => by
  unfold ifE at e
  split at e
  · exact ev_ifExp (hc.ok Γ _ (by assumption)) (fun _ => ha.ok Γ d e) fun z => by cases z
  · exact ev_ifExp (hc.ok Γ _ (by assumption)) (fun z => by cases z) fun _ => hb.ok Γ d e
  · cases e⟩
/-! ### arguments, displays -/
theorem ga_nil : GA X [] (fun _ => some []) := ⟨fun Γ d e => by cases e; exact ea_nil⟩
def consA (f : Mx) (fa : Ma) : Ma := fun Γ => match f Γ with
  | some a => (match fa Γ with
    | some r => some (a :: r)
    | none => none)
  | none => none
theorem ga_cons (ha : GE X e f) (hr : GA X es fa) (hs : starEach (e :: es) X.env = (false, eval e X.env) :: starEach es X.env := by rfl) : GA X (e :: es) (consA f fa) := ⟨fun Γ d e => by
  unfold consA at e
  split at e
  · split at e
    · cases e; exact ea_cons (ha.ok Γ _ (by assumption)) (hr.ok Γ _ (by assumption)) hs
    · cases e
  · cases e⟩
def allI : List Da → Option (List Int)
  | [] => some []
  | .int i :: r => (match allI r with
    | some q => some (i :: q)
    | none => none)
  | _ => none
theorem allI_ok : ∀ {ds : List Da} {w : List Int}, allI ds = some w → ds = w.map Da.int
  | [], w, e => by cases e; rfl
  | .int i :: r, w, e => by
    unfold allI at e
    split at e
    · cases e
      rw [List.map_cons, ← allI_ok (by assumption)]
    · cases e
  | .non :: _, _, e => by cases e
  | .bl _ :: _, _, e => by cases e
  | .str _ :: _, _, e => by cases e
  | .wd _ :: _, _, e => by cases e
  | .tw _ :: _, _, e => by cases e
  | .pr _ _ :: _, _, e => by cases e
  | .li _ :: _, _, e => by cases e
  | .lw _ :: _, _, e => by cases e
  | .ll _ :: _, _, e => by cases e
  | .lp _ :: _, _, e => by cases e
  | .sb _ _ _ :: _, _, e => by cases e
  | .wb _ _ _ _ :: _, _, e => by cases e
  | .ob :: _, _, e => by cases e
  | .rf _ :: _, _, e => by cases e
  | .hl _ _ _ _ :: _, _, e => by cases e
def tupD : List Da → Option Da
  | [.wd w, .int k] => some (.pr w k)
  | [.wd w, .wd u] => some (.tw [w, u])
  | ds => match allI ds with
    | some w => if w.length ≤ 1000 then some (.wd w) else none
    | none => none
def oA (h : List Da → Option Da) (fa : Ma) : Mx := fun Γ => match fa Γ with
  | some ds => h ds
  | none => none
theorem oA_ok {h : List Da → Option Da} {Γ : List Ent} {r : Da} (e : oA h fa Γ = some r) : ∃ ds, fa Γ = some ds ∧ h ds = some r := by
  unfold oA at e
  split at e
  · exact ⟨_, by assumption, e⟩
  · cases e
theorem g_tup {x1 : Nat} (h : GA X es fa) : GE X (.Tuple es x1 pos) (oA tupD fa) := ⟨fun Γ d e => by
  obtain ⟨ds, e1, e3⟩ := oA_ok e
  have h1 := h.ok Γ ds e1
  unfold tupD at e3
  split at e3
  · cases e3; exact ev_tupP h1
  · cases e3; exact ev_tupW (w := [_, _]) h1 (by show 2 ≤ 1000; decide)
  · split at e3
    · split at e3
      · cases e3
        rename_i w hw hz
        rw [allI_ok hw] at h1
        exact ev_tupI h1 hz
      · cases e3
    · cases e3⟩
def lstD : List Da → Option Da
  | [.wd w] => some (.lw [w])
  | [.li w] => some (.ll [w])
  | [.pr w k] => some (.lp [(w, k)])
  | ds => match allI ds with
    | some w => if (w.map Da.int).length ≤ 1000 then some (.li w) else none
    | none => none
theorem gn_lst (h : GA X es fa) : GN X (.List es pos) (oA lstD fa) := ⟨fun Γ d e => by
  obtain ⟨ds, e1, e3⟩ := oA_ok e
  have h1 := h.ok Γ ds e1
  unfold lstD at e3
  split at e3
  · cases e3; exact el_lstW (w := [_]) h1 (by show 1 ≤ 1000; decide)
  · cases e3; exact el_lst1L h1
  · cases e3; exact el_lst1P h1
  · split at e3
    · split at e3
      · cases e3
        rename_i w hw hz
        rw [allI_ok hw] at h1
        exact el_lstI h1 hz
      · cases e3
    · cases e3⟩
/-- an empty list of the kind d0 -/
theorem gn_nil (d0 : Da) (h : ∀ K Hs, LstR K Hs [] d0 := by intro _ _; first | exact rfl | exact Paired.nil) : GN X (.List [] pos) (fun _ => some d0) := ⟨fun Γ d e => by cases e; exact el_nil fun Hs => h _ Hs⟩
/-! ### parts -/
def ixD : Da → Da → Option Da
  | .wd w, .int i => if 0 ≤ i ∧ i < w.length then some (.int (w.getD i.toNat 0)) else none
  | .tw ws, .int i => if 0 ≤ i then (ws[i.toNat]?).map .wd else none
  | .li ws, .int i => if 0 ≤ i then (ws[i.toNat]?).map .int else none
  | .lw ws, .int i => if 0 ≤ i then (ws[i.toNat]?).map .wd else none
  | .ll ws, .int i => if 0 ≤ i then (ws[i.toNat]?).map .li else none
  | .lp ws, .int i => if 0 ≤ i then (ws[i.toNat]?).map (fun p => .pr p.1 p.2) else none
  | _, _ => none
theorem g_ix (ha : GE X a f) (hb : GE X b g) (hp : PlainIx b := by exact fun _ _ => rfl) : GE X (.Subscript a b pos) (o2 ixD f g) := ⟨fun Γ d e => by
  obtain ⟨p, q, e1, e2, e3⟩ := o2_ok e
  have h1 := ha.ok Γ p e1
  have h2 := hb.ok Γ q e2
  unfold ixD at e3
  split at e3
  · split at e3
    · rename_i hz
      cases e3; exact ev_ixW h1 h2 hz.1 hz.2 hp
    · cases e3
  · split at e3
    · rename_i hz
      obtain ⟨w, hw, rfl⟩ := Option.map_eq_some_iff.mp e3
      exact ev_ixT h1 h2 hz hw hp
    · cases e3
  · split at e3
    · exact ev_ixL rfl h1 h2 (by assumption) e3 hp
    · cases e3
  · split at e3
    · exact ev_ixL rfl h1 h2 (by assumption) e3 hp
    · cases e3
  · split at e3
    · exact ev_ixL rfl h1 h2 (by assumption) e3 hp
    · cases e3
  · split at e3
    · exact ev_ixL rfl h1 h2 (by assumption) e3 hp
    · cases e3
  · cases e3⟩
def headD : Da → Option Da
  | .pr w _ => some (.wd w)
  | _ => none
/-- a pair's first -/
theorem g_head {p3 : Pos} {j : Nat} (ha : GE X a f) (hp : PlainIx (.Constant (.int 0) j p3) := by exact fun _ _ => rfl) : GE X (.Subscript a (.Constant (.int 0) j p3) pos) (o1 headD f) := ⟨fun Γ d e => by
  obtain ⟨p, e1, e3⟩ := o1_ok e
  have h1 := ha.ok Γ p e1
  unfold headD at e3
  split at e3
  · cases e3; exact ev_ixP h1 hp
  · cases e3⟩
def fromD : Da → Da → Option Da
  | .wd w, .int i => if 0 ≤ i then some (.wd (w.drop i.toNat)) else none
  | _, _ => none
def toD : Da → Da → Option Da
  | .wd w, .int i => if 0 ≤ i then some (.wd (w.take i.toNat)) else none
  | _, _ => none
theorem g_from {p2 : Pos} (ha : GE X a f) (hb : GE X b g) : GE X (.Subscript a (.Slice (some b) none none p2) pos) (o2 fromD f g) := ⟨fun Γ d e => by
  obtain ⟨p, q, e1, e2, e3⟩ := o2_ok e
  have h1 := ha.ok Γ p e1
  have h2 := hb.ok Γ q e2
  unfold fromD at e3
  split at e3
  · split at e3
    · cases e3; exact ev_from h1 h2 (by assumption)
    · cases e3
  · cases e3⟩
theorem g_to {p2 : Pos} (ha : GE X a f) (hb : GE X b g) : GE X (.Subscript a (.Slice none (some b) none p2) pos) (o2 toD f g) := ⟨fun Γ d e => by
  obtain ⟨p, q, e1, e2, e3⟩ := o2_ok e
  have h1 := ha.ok Γ p e1
  have h2 := hb.ok Γ q e2
  unfold toD at e3
  split at e3
  · split at e3
    · cases e3; exact ev_to h1 h2 (by assumption)
    · cases e3
  · cases e3⟩
def fromL : Da → Da → Option Da
  | .li w, .int i => if 0 ≤ i then some (.li (w.drop i.toNat)) else none
  | _, _ => none
def toL : Da → Da → Option Da
  | .li w, .int i => if 0 ≤ i then some (.li (w.take i.toNat)) else none
  | _, _ => none
theorem gn_from {p2 : Pos} (ha : GE X a f) (hb : GE X b g) : GN X (.Subscript a (.Slice (some b) none none p2) pos) (o2 fromL f g) := ⟨fun Γ d e => by
  obtain ⟨p, q, e1, e2, e3⟩ := o2_ok e
  have h1 := ha.ok Γ p e1
  have h2 := hb.ok Γ q e2
  unfold fromL at e3
  split at e3
  · split at e3
    · cases e3; exact el_from h1 h2 (by assumption)
    · cases e3
  · cases e3⟩
theorem gn_to {p2 : Pos} (ha : GE X a f) (hb : GE X b g) : GN X (.Subscript a (.Slice none (some b) none p2) pos) (o2 toL f g) := ⟨fun Γ d e => by
  obtain ⟨p, q, e1, e2, e3⟩ := o2_ok e
  have h1 := ha.ok Γ p e1
  have h2 := hb.ok Γ q e2
  unfold toL at e3
  split at e3
  · split at e3
    · cases e3; exact el_to h1 h2 (by assumption)
    · cases e3
  · cases e3⟩
/-! ### own lists -/
def ixM (k : Nat) (g : Mx) : Mx := fun Γ => match Γ[k]?, g Γ with
  | some (.own d), some (.int i) => if 0 ≤ i then item d i.toNat else none
  | _, _ => none
theorem g_ixOwn (k : Nat) {px : Pos} (hb : GE X b g) (hN : X.N[k]? = some x := by rfl)
    (hv : Vis X.env.scope x := by first | exact Or.inl rfl | exact Or.inr (Or.inl rfl) | exact Or.inr (Or.inr rfl)) (hd : (x == ("__debug__" : Str)) = false := by decide) (hcd : (x == ("__classdict__" : Str)) = false := by decide)
    (hp : PlainIx b := by exact fun _ _ => rfl) : GE X (.Subscript (.Name x px) b pos) (ixM k g) := ⟨fun Γ d e => by
  unfold ixM at e
  split at e
  · split at e
    · exact ev_ixOwn k (by assumption) (hb.ok Γ _ (by assumption)) (by assumption) e hN hv hd hcd hp
    · cases e
  · cases e⟩
def lastM (k : Nat) : Mx := fun Γ => match Γ[k]? with
  | some (.own d) => if 0 < dlen d then item d (dlen d - 1) else none
  | _ => none
theorem g_lastOwn (k : Nat) {px p3 p4 : Pos} {j : Nat} (hN : X.N[k]? = some x := by rfl)
    (hv : Vis X.env.scope x := by first | exact Or.inl rfl | exact Or.inr (Or.inl rfl) | exact Or.inr (Or.inr rfl)) (hd : (x == ("__debug__" : Str)) = false := by decide) (hcd : (x == ("__classdict__" : Str)) = false := by decide)
    (hp : PlainIx (.UnaryOp .USub (.Constant (.int 1) j p3) p4) := by exact fun _ _ => rfl) : GE X (.Subscript (.Name x px) (.UnaryOp .USub (.Constant (.int 1) j p3) p4) pos) (lastM k) := ⟨fun Γ d e => by
  unfold lastM at e
  split at e
  · split at e
    · exact ev_lastOwn k (by assumption) (by assumption) e hN hv hd hcd hp
    · cases e
  · cases e⟩
def lendM (k : Nat) (f : Mx) : Mx := fun Γ => match Γ[k]? with
  | some (.own d) => (match f (Γ.set k (.val d)) with
    | some r => if (sv r).isSome then some r else none
    | none => none)
  | _ => none
theorem g_lend (k : Nat) (h : GE X e f) : GE X e (lendM k f) := ⟨fun Γ d e => by
  unfold lendM at e
  split at e
  · split at e
    · split at e
      · rename_i hs
        cases e
        obtain ⟨y, hy⟩ := Option.isSome_iff_exists.mp hs
        exact ev_lend k (by assumption) hy (h.ok _ _ (by assumption))
      · cases e
    · cases e
  · cases e⟩
/-! ### calls -/
theorem g_call {F : List Da → Option Da} {p0 : Pos} (C : Can X.prog X.w X.K X.mg X.base k x dd (fun ds r => F ds = some r)) (hr : Room k X.A) (ha : GA X (e :: es) fa) (hg : Gl X x := by rfl)
    (hdb : (x == ("__debug__" : Str)) = false := by decide) (he : starEach (e :: es) X.env = (false, eval e X.env) :: starEach es X.env := by rfl) (hpl : (backTo pos (starEach es X.env)).any (·.1) = false := by rfl) :
    GE X (.Call (.Name x p0) (e :: es) [] pos) (oA (fun ds => F (ds ++ dd)) fa) := ⟨fun Γ d e => by
  obtain ⟨ds, e1, e3⟩ := oA_ok e
  exact ev_call C hr (ha.ok Γ ds e1) e3 hg hdb he hpl⟩
def lenD (d : Da) : Option Da := if isSeq d then some (.int (dlen d)) else none
theorem g_len {p0 : Pos} (hm : X.mg "len" = none) (ha : GE X e f) (hg : Gl X "len" := by rfl) (he : starEach [e] X.env = (false, eval e X.env) :: starEach [] X.env := by rfl) :
    GE X (.Call (.Name "len" p0) [e] [] pos) (o1 lenD f) := ⟨fun Γ d e => by
  obtain ⟨p, e1, e3⟩ := o1_ok e
  unfold lenD at e3
  split at e3
  · cases e3; exact ev_len hm (by assumption) (ha.ok Γ p e1) hg he
  · cases e3⟩
def absD : Da → Option Da
  | .int i => some (.int (if i < 0 then -i else i))
  | _ => none
theorem g_abs {p0 : Pos} (hm : X.mg "abs" = none) (ha : GE X e f) (hg : Gl X "abs" := by rfl) (he : starEach [e] X.env = (false, eval e X.env) :: starEach [] X.env := by rfl) :
    GE X (.Call (.Name "abs" p0) [e] [] pos) (o1 absD f) := ⟨fun Γ d e => by
  obtain ⟨p, e1, e3⟩ := o1_ok e
  unfold absD at e3
  split at e3
  · cases e3; exact ev_abs hm (ha.ok Γ _ e1) hg he
  · cases e3⟩
def intD : Da → Option Da
  | .int i => some (.int i)
  | _ => none
theorem g_intOf {p0 : Pos} (hm : X.mg "int" = none) (ha : GE X e f) (hg : Gl X "int" := by rfl) (he : starEach [e] X.env = (false, eval e X.env) :: starEach [] X.env := by rfl) :
    GE X (.Call (.Name "int" p0) [e] [] pos) (o1 intD f) := ⟨fun Γ d e => by
  obtain ⟨p, e1, e3⟩ := o1_ok e
  unfold intD at e3
  split at e3
  · cases e3; exact ev_intOf hm (ha.ok Γ _ e1) hg he
  · cases e3⟩
def maxD : Da → Da → Option Da
  | .int i, .int j => some (.int (if j > i then j else i))
  | _, _ => none
def minD : Da → Da → Option Da
  | .int i, .int j => some (.int (if j < i then j else i))
  | _, _ => none
theorem g_max {p0 : Pos} (hc : X.calm = true) (hm : X.mg "max" = none) (ha : GE X a f) (hb : GE X b g) (hg : Gl X "max" := by rfl) (he : starEach [a, b] X.env = (false, eval a X.env) :: starEach [b] X.env := by rfl)
    (he2 : starEach [b] X.env = (false, eval b X.env) :: starEach [] X.env := by rfl) (hpl : (backTo pos (starEach [b] X.env)).any (·.1) = false := by rfl) :
    GE X (.Call (.Name "max" p0) [a, b] [] pos) (o2 maxD f g) := ⟨fun Γ d e => by
  obtain ⟨p, q, e1, e2, e3⟩ := o2_ok e
  unfold maxD at e3
  split at e3
  · cases e3; exact ev_max hc hm (ha.ok Γ _ e1) (hb.ok Γ _ e2) hg he he2 hpl
  · cases e3⟩
theorem g_min {p0 : Pos} (hc : X.calm = true) (hm : X.mg "min" = none) (ha : GE X a f) (hb : GE X b g) (hg : Gl X "min" := by rfl) (he : starEach [a, b] X.env = (false, eval a X.env) :: starEach [b] X.env := by rfl)
    (he2 : starEach [b] X.env = (false, eval b X.env) :: starEach [] X.env := by rfl) (hpl : (backTo pos (starEach [b] X.env)).any (·.1) = false := by rfl) :
    GE X (.Call (.Name "min" p0) [a, b] [] pos) (o2 minD f g) := ⟨fun Γ d e => by
  obtain ⟨p, q, e1, e2, e3⟩ := o2_ok e
  unfold minD at e3
  split at e3
  · cases e3; exact ev_min hc hm (ha.ok Γ _ e1) (hb.ok Γ _ e2) hg he he2 hpl
  · cases e3⟩
def sumL : Da → Option Da
  | .li ns => some (.int ns.sum)
  | _ => none
theorem g_sumL {p0 : Pos} (hc : X.calm = true) (hm : X.mg "sum" = none) (ha : GE X e f) (hg : Gl X "sum" := by rfl) (he : starEach [e] X.env = (false, eval e X.env) :: starEach [] X.env := by rfl) :
    GE X (.Call (.Name "sum" p0) [e] [] pos) (o1 sumL f) := ⟨fun Γ d e => by
  obtain ⟨p, e1, e3⟩ := o1_ok e
  unfold sumL at e3
  split at e3
  · cases e3; exact ev_sumL hc hm (ha.ok Γ _ e1) hg he
  · cases e3⟩
def tupleD : Da → Option Da
  | .wd w => some (.wd w)
  | .li w => some (.wd w)
  | .lw w => some (.tw w)
  | _ => none
theorem g_tuple {p0 : Pos} (hm : X.mg "tuple" = none) (ha : GE X e f) (hg : Gl X "tuple" := by rfl) (he : starEach [e] X.env = (false, eval e X.env) :: starEach [] X.env := by rfl) :
    GE X (.Call (.Name "tuple" p0) [e] [] pos) (o1 tupleD f) := ⟨fun Γ d e => by
  obtain ⟨p, e1, e3⟩ := o1_ok e
  have h1 := ha.ok Γ _ e1
  unfold tupleD at e3
  split at e3
  · cases e3; exact ev_tupleW hm h1 hg he
  · cases e3; exact ev_tupleL hm h1 hg he
  · cases e3; exact ev_tupleLW hm h1 hg he
  · cases e3⟩
theorem gn_list {p0 : Pos} (hm : X.mg "list" = none) (ha : GE X e f) (hg : Gl X "list" := by rfl) (he : starEach [e] X.env = (false, eval e X.env) :: starEach [] X.env := by rfl) :
    GN X (.Call (.Name "list" p0) [e] [] pos) (o1 listOf f) := ⟨fun Γ d e => by
  obtain ⟨p, e1, e3⟩ := o1_ok e
  exact el_list hm (ha.ok Γ _ e1) e3 hg he⟩
def repD (i : Int) : Da → Option Da
  | .int n => if 0 ≤ n ∧ n ≤ 1000 then some (.li (List.replicate n.toNat i)) else none
  | _ => none
theorem gn_rep {i : Int} {j2 : Nat} {p3 p4 : Pos} (hb : GE X b f) : GN X (.BinOp (.List [.Constant (.int i) j2 p3] p4) .Mult b pos) (o1 (repD i) f) := ⟨fun Γ d e => by
  obtain ⟨p, e1, e3⟩ := o1_ok e
  have h1 := hb.ok Γ _ e1
  unfold repD at e3
  split at e3
  · split at e3
    · rename_i hz
      cases e3; exact el_rep h1 hz.1 hz.2
    · cases e3
  · cases e3⟩
/-- list + new list of words -/
def catD : Da → Da → Option Da
  | .lw w, .lw u => if w.length + u.length ≤ 1000 then some (.lw (w ++ u)) else none
  | _, _ => none
end
end K54

set_option Elab.async false
set_option linter.all false
set_option maxRecDepth 100000
set_option maxHeartbeats 4000000
/-! G2: what a statement does is reckoned by a Lean function over the slots' data. -/
namespace K54
open PySem PySem.Spec PyProof.Rows L2

inductive Out where
  | nx (Γ : List Ent) | rt (d : Da) | bk (Γ : List Ent) | ct (Γ : List Ent)
abbrev Ms := List Ent → Option Out
def Hits (P : Pst) : Out → Prop
  | .nx Γ => P.nx Γ
  | .rt d => P.rt d
  | .bk Γ => P.bk Γ
  | .ct Γ => P.ct Γ
structure GS (X : Cx) (st : Stmt) (m : Ms) : Prop where
  ok : ∀ Γ r, m Γ = some r → ∀ P, Hits P r → SD X st Γ P
structure GB (X : Cx) (sts : List Stmt) (m : Ms) : Prop where
  ok : ∀ Γ r, m Γ = some r → ∀ P, Hits P r → BD X sts Γ P
def seqM (m n : Ms) : Ms := fun Γ => match m Γ with
  | some (.nx Γ') => n Γ'
  | r => r
def skipM : Ms := fun Γ => some (.nx Γ)
def badM : Ms := fun _ => none
def setM (i : Nat) (f : Mx) : Ms := fun Γ => match f Γ with
  | some d => some (.nx (Γ.set i (.val d)))
  | none => none
def ownM (i : Nat) (f : Mx) : Ms := fun Γ => match f Γ with
  | some d => some (.nx (Γ.set i (.own d)))
  | none => none
def emptyT (i : Nat) : Ms := fun Γ => some (.nx (Γ.set i (.dT [])))
def emptyK (i : Nat) : Ms := fun Γ => some (.nx (Γ.set i (.dK [])))
def ifM (t : Mt) (m n : Ms) : Ms := fun Γ => match t Γ with
  | some true => m Γ
  | some false => n Γ
  | none => none
def retM (f : Mx) : Ms := fun Γ => match f Γ with
  | some d => some (.rt d)
  | none => none
def exM (f : Mx) : Ms := fun Γ => match f Γ with
  | some _ => some (.nx Γ)
  | none => none
def appM (k : Nat) (f : Mx) : Ms := fun Γ => match Γ[k]?, f Γ with
  | some (.own d), some d' => (match snoc d d' with
    | some d'' => if dlen d < 1000000 then some (.nx (Γ.set k (.own d''))) else none
    | none => none)
  | _, _ => none
def appOwnM (k j : Nat) : Ms := fun Γ => match Γ[k]?, Γ[j]? with
  | some (.own d), some (.own d') => (match snoc d d' with
    | some d'' => if dlen d < 1000000 then some (.nx ((Γ.set j (.val d')).set k (.own d''))) else none
    | none => none)
  | _, _ => none
def putM (k : Nat) (f g : Mx) : Ms := fun Γ => match Γ[k]?, f Γ, g Γ with
  | some (.own d), some (.int i), some d' => if 0 ≤ i ∧ i < dlen d then (match setAt d i.toNat d' with
    | some d'' => some (.nx (Γ.set k (.own d'')))
    | none => none) else none
  | _, _, _ => none
def freezeM (k : Nat) (m : Ms) : Ms := fun Γ => match Γ[k]? with
  | some (.own d) => m (Γ.set k (.val d))
  | _ => none
section
variable {X : Cx} {a b c e o : Expr} {es : List Expr} {st : Stmt} {sts rest A B body : List Stmt} {Γ : List Ent} {pos : Pos} {f g h : Mx} {t u v : Mt} {m n : Ms} {x y : Str}
theorem gb_nil : GB X [] skipM := ⟨fun Γ r e P q => by cases e; exact bd_nil (Weak.refl _) q⟩
theorem gb_cons (h : GS X st m) (hr : GB X rest n) : GB X (st :: rest) (seqM m n) := ⟨fun Γ r e P q => by
  unfold seqM at e
  split at e
  · rename_i Γ' e1
    exact bd_cons (h.ok Γ _ e1 _ (hr.ok Γ' r e P q))
  · rename_i hn
    refine bd_cons (h.ok Γ r e _ ?_)
    cases r with
    | nx Γ' => exact absurd e (hn Γ')
    | _ => exact q⟩
theorem gs_bad : GS X st badM := ⟨fun Γ r e => by cases e⟩
theorem gb_bad : GB X sts badM := ⟨fun Γ r e => by cases e⟩
theorem gs_set (i : Nat) {p' : Pos} (he : GE X e f) (hN : X.N.Nodup) (hi : X.N[i]? = some x := by rfl) (hx : Loc X.env.scope x := by first | exact Or.inl rfl | exact Or.inr rfl)
    (hs : swapsWith e (some (.Name x p')) pos.line X.env = pure false := by rfl) (hf : X.fn x = true ∨ X.env.scope.names.lookup x = some .local := by first | exact .inl rfl | exact .inr rfl) : GS X (.Assign [.Name x p'] e pos) (setM i f) := ⟨fun Γ r e' P q => by
  unfold setM at e'
  split at e'
  · cases e'; exact sd_set i (he.ok Γ _ (by assumption)) q hN hi hx hs hf
  · cases e'⟩
theorem gs_own (i : Nat) {p' : Pos} (he : GN X e f) (hN : X.N.Nodup) (hi : X.N[i]? = some x := by rfl) (hx : Loc X.env.scope x := by first | exact Or.inl rfl | exact Or.inr rfl)
    (hs : swapsWith e (some (.Name x p')) pos.line X.env = pure false := by rfl) (hf : X.fn x = true ∨ X.env.scope.names.lookup x = some .local := by first | exact .inl rfl | exact .inr rfl) : GS X (.Assign [.Name x p'] e pos) (ownM i f) := ⟨fun Γ r e' P q => by
  unfold ownM at e'
  split at e'
  · cases e'; exact sd_setOwn i (he.ok Γ _ (by assumption)) q hN hi hx hs hf
  · cases e'⟩
theorem gs_setT (i : Nat) {p' p2 : Pos} (hN : X.N.Nodup) (hi : X.N[i]? = some x := by rfl) (hx : Loc X.env.scope x := by first | exact Or.inl rfl | exact Or.inr rfl)
    (hs : swapsWith (.Dict [] [] p2) (some (.Name x p')) pos.line X.env = pure false := by rfl) (hf : X.fn x = true ∨ X.env.scope.names.lookup x = some .local := by first | exact .inl rfl | exact .inr rfl) : GS X (.Assign [.Name x p'] (.Dict [] [] p2) pos) (emptyT i) :=
  ⟨fun Γ r e' P q => by cases e'; exact sd_setT i q hN hi hx hs hf⟩
theorem gs_setK (i : Nat) {p' p2 : Pos} (hN : X.N.Nodup) (hi : X.N[i]? = some x := by rfl) (hx : Loc X.env.scope x := by first | exact Or.inl rfl | exact Or.inr rfl)
    (hs : swapsWith (.Dict [] [] p2) (some (.Name x p')) pos.line X.env = pure false := by rfl) (hf : X.fn x = true ∨ X.env.scope.names.lookup x = some .local := by first | exact .inl rfl | exact .inr rfl) : GS X (.Assign [.Name x p'] (.Dict [] [] p2) pos) (emptyK i) :=
  ⟨fun Γ r e' P q => by cases e'; exact sd_setK i q hN hi hx hs hf⟩
theorem gs_if (hc : GT X c t) (hA : GB X A m) (hB : GB X B n) : GS X (.If c A B pos) (ifM t m n) := ⟨fun Γ r e P q => by
  unfold ifM at e
  split at e
  · exact sd_if (hc.ok Γ _ (by assumption)) (fun _ => hA.ok Γ r e P q) fun z => by cases z
  · exact sd_if (hc.ok Γ _ (by assumption)) (fun z => by cases z) fun _ => hB.ok Γ r e P q
  · cases e⟩
theorem gs_ret (he : GE X e f) : GS X (.Return (some e) pos) (retM f) := ⟨fun Γ r e' P q => by
  unfold retM at e'
  split at e'
  · cases e'; exact sd_ret (he.ok Γ _ (by assumption)) q
  · cases e'⟩
theorem gs_expr (he : GE X e f) (hs : swapsWith e none pos.line X.env = pure false := by rfl) : GS X (.Expr e pos) (exM f) := ⟨fun Γ r e' P q => by
  unfold exM at e'
  split at e'
  · cases e'; exact sd_expr (he.ok Γ _ (by assumption)) q hs
  · cases e'⟩
theorem gs_app (k : Nat) {px pa cpos : Pos} (he : GE X e f) (hN : X.N[k]? = some x := by rfl)
    (hv : Vis X.env.scope x := by first | exact Or.inl rfl | exact Or.inr (Or.inl rfl) | exact Or.inr (Or.inr rfl)) (hd : (x == ("__debug__" : Str)) = false := by decide) (hcd : (x == ("__classdict__" : Str)) = false := by decide)
    (hbase : attributeBase (.Name x px) "append" X.env (eval (.Name x px) X.env) = eval (.Name x px) X.env := by rfl)
    (hfew : ((backTo cpos (starEach [e] X.env)).all (fun x => !x.1) && (backToKw cpos (keywordEach [] X.env)).all (fun x => x.1.isSome)
      && decide ([e].length + ([] : List Keyword).length + (if ([] : List Keyword).isEmpty then 0 else 1) < 30)) = true := by rfl)
    (hline : (pa.endLine == cpos.line) = true := by rfl) (hst : starEach [e] X.env = (false, eval e X.env) :: starEach [] X.env := by rfl) (hplain : (backTo cpos (starEach [] X.env)).any (·.1) = false := by rfl)
    (hsw : swapsWith (.Call (.Attribute (.Name x px) "append" pa) [e] [] cpos) none pos.line X.env = pure false := by rfl) :
    GS X (.Expr (.Call (.Attribute (.Name x px) "append" pa) [e] [] cpos) pos) (appM k f) := ⟨fun Γ r e' P q => by
  unfold appM at e'
  split at e'
  · split at e'
    · split at e'
      · cases e'; exact sd_append k (by assumption) (he.ok Γ _ (by assumption)) (by assumption) (by assumption) q hN hv hd hcd hbase hfew hline hst hplain hsw
      · cases e'
    · cases e'
  · cases e'⟩
theorem gs_appOwn (k j : Nat) {px pa cpos py : Pos} (hjk : j ≠ k) (hN : X.N[k]? = some x := by rfl) (hNj : X.N[j]? = some y := by rfl)
    (hv : Vis X.env.scope x := by first | exact Or.inl rfl | exact Or.inr (Or.inl rfl) | exact Or.inr (Or.inr rfl)) (hd : (x == ("__debug__" : Str)) = false := by decide) (hcd : (x == ("__classdict__" : Str)) = false := by decide)
    (hvj : Vis X.env.scope y := by first | exact Or.inl rfl | exact Or.inr (Or.inl rfl) | exact Or.inr (Or.inr rfl)) (hdj : (y == ("__debug__" : Str)) = false := by decide) (hcdj : (y == ("__classdict__" : Str)) = false := by decide)
    (hbase : attributeBase (.Name x px) "append" X.env (eval (.Name x px) X.env) = eval (.Name x px) X.env := by rfl)
    (hfew : ((backTo cpos (starEach [.Name y py] X.env)).all (fun x => !x.1) && (backToKw cpos (keywordEach [] X.env)).all (fun x => x.1.isSome)
      && decide ([Expr.Name y py].length + ([] : List Keyword).length + (if ([] : List Keyword).isEmpty then 0 else 1) < 30)) = true := by rfl)
    (hline : (pa.endLine == cpos.line) = true := by rfl) (hst : starEach [.Name y py] X.env = (false, eval (.Name y py) X.env) :: starEach [] X.env := by rfl) (hplain : (backTo cpos (starEach [] X.env)).any (·.1) = false := by rfl)
    (hsw : swapsWith (.Call (.Attribute (.Name x px) "append" pa) [.Name y py] [] cpos) none pos.line X.env = pure false := by rfl) :
    GS X (.Expr (.Call (.Attribute (.Name x px) "append" pa) [.Name y py] [] cpos) pos) (appOwnM k j) := ⟨fun Γ r e' P q => by
  unfold appOwnM at e'
  split at e'
  · split at e'
    · split at e'
      · cases e'; exact sd_appendOwn k j hjk (by assumption) (by assumption) (by assumption) (by assumption) q hN hNj hv hd hcd hvj hdj hcdj hbase hfew hline hst hplain hsw
      · cases e'
    · cases e'
  · cases e'⟩
theorem gs_put (k : Nat) {px ps : Pos} (he : GE X e g) (hi : GE X b f) (hN : X.N[k]? = some x := by rfl)
    (hv : Vis X.env.scope x := by first | exact Or.inl rfl | exact Or.inr (Or.inl rfl) | exact Or.inr (Or.inr rfl)) (hd : (x == ("__debug__" : Str)) = false := by decide) (hcd : (x == ("__classdict__" : Str)) = false := by decide)
    (ha : ∀ v, assign (.Subscript (.Name x px) b ps) X.env v = (do
      let ov ← holding [v] (eval (.Name x px) X.env)
      let iv ← holding [v, ov] (eval b X.env)
      standAt ps
      holding [v, ov, iv] (setItem ov iv v)
      release [v, ov, iv] []) := by intro _; rfl)
    (hs1 : swapsWithSole [.Subscript (.Name x px) b ps] e pos.line X.env = pure false := by rfl) (hw : swappedStores [.Subscript (.Name x px) b ps] e X.env = pure none := by rfl)
    (hh1 : (assignEach [.Subscript (.Name x px) b ps] X.env).map (·.2) = [assign (.Subscript (.Name x px) b ps) X.env] := by rfl) :
    GS X (.Assign [.Subscript (.Name x px) b ps] e pos) (putM k f g) := ⟨fun Γ r e' P q => by
  unfold putM at e'
  split at e'
  · split at e'
    · rename_i hz
      split at e'
      · cases e'; exact sd_setItem k (by assumption) (he.ok Γ _ (by assumption)) (hi.ok Γ _ (by assumption)) hz.1 hz.2 (by assumption) q hN hv hd hcd ha hs1 hw hh1
      · cases e'
    · cases e'
  · cases e'⟩
/-- an own list stands for good -/
theorem bd_freeze {d : Da} {P : Pst} (k : Nat) (h : Γ[k]? = some (.own d)) (hb : BD X sts (Γ.set k (.val d)) P) : BD X sts Γ P := fun Hs0 H0 Hs H σ t S => by
  obtain ⟨p, vs, e1, n0, ns, hh, r⟩ := S.ownAt h
  have Hm : Same Hs (upd Hs p (.lst vs)) := Same.upd_new ns
  have lk : k < Γ.length := (List.getElem?_eq_some_iff.mp h).1
  have sub' : Same (upd Hs p (.lst vs)) H := fun b o z => by
    by_cases hb : b = p
    · subst hb; rw [upd_same] at z; cases z; exact hh
    · rw [upd_ne hb] at z; exact S.sub b o z
  have S1 : St2 X.K H0 (upd Hs p (.lst vs)) H σ (Γ.set k (.val d)) := by
    refine ⟨sub', by simpa using S.len, fun m f o q1 q2 => ?_, fun m n f g b c hne q1 q2 o1 o2 s1 s2 => ?_⟩
    · by_cases hm : m = k
      · subst hm
        rw [List.getElem?_set_self lk] at q1
        rw [e1] at q2
        cases q1; cases q2
        exact ⟨_, rfl, DR.of_lst (.inl (.inl upd_same)) (r.ex Hm)⟩
      · rw [List.getElem?_set_ne (Ne.symm hm)] at q1
        have z := S.ent m f o q1 q2
        cases f with
        | no => trivial
        | val d => obtain ⟨v, a1, a2⟩ := z; exact ⟨v, a1, a2.ex Hm⟩
        | own d =>
          obtain ⟨b, us, a1, a2, a3, a4, a5⟩ := z
          subst a1
          have nb : b ≠ p := S.dis m k _ _ b p hm q1 h rfl rfl q2 e1
          exact ⟨b, us, rfl, a2, by rw [upd_ne nb]; exact a3, a4, a5.ex Hm⟩
        | dT d =>
          obtain ⟨b, a1, a2, a3, a4⟩ := z
          subst a1
          have nb : b ≠ p := S.dis m k _ _ b p hm q1 h rfl rfl q2 e1
          exact ⟨b, rfl, a2, by rw [upd_ne nb]; exact a3, a4⟩
        | dK d =>
          obtain ⟨b, a1, a2, a3, a4⟩ := z
          subst a1
          have nb : b ≠ p := S.dis m k _ _ b p hm q1 h rfl rfl q2 e1
          exact ⟨b, rfl, a2, by rw [upd_ne nb]; exact a3, a4⟩
    · by_cases hm : m = k
      · subst hm; rw [List.getElem?_set_self lk] at q1; cases q1; cases o1
      · by_cases hk : n = k
        · subst hk; rw [List.getElem?_set_self lk] at q2; cases q2; cases o2
        · rw [List.getElem?_set_ne (Ne.symm hm)] at q1
          rw [List.getElem?_set_ne (Ne.symm hk)] at q2
          exact S.dis m n f g b c hne q1 q2 o1 o2 s1 s2
  refine hb Hs0 H0 _ H σ ⟨t.s.trans Hm, t.h, sub', fun b o h1 h3 h2 => ?_⟩ S1
  have nb : b ≠ p := ne_of_none h1 n0
  rw [upd_ne nb]
  exact t.own b o h1 h3 h2
theorem gb_freeze (k : Nat) (h : GB X sts m) : GB X sts (freezeM k m) := ⟨fun Γ r e P q => by
  unfold freezeM at e
  split at e
  · exact bd_freeze k (by assumption) (h.ok _ r e P q)
  · cases e⟩
/-! ### loops -/
def loopM (y : Nat → List Ent → List Ent) (m : Ms) : Nat → Nat → List Ent → Option Out
  | 0, _, Γ => some (.nx Γ)
  | k + 1, i, Γ => match m (y i Γ) with
    | some (.nx Γ') => loopM y m k (i + 1) Γ'
    | some (.ct Γ') => loopM y m k (i + 1) Γ'
    | some (.bk Γ') => some (.nx Γ')
    | some (.rt d) => some (.rt d)
    | none => none
abbrev Msrc := List Ent → Option (Nat × (Nat → List Ent → List Ent))
structure GSrc (X : Cx) (wi : TI) (g : TG) (vs : List Nat) (f : Msrc) : Prop where
  ok : ∀ Γ n y, f Γ = some (n, y) → Src X wi g vs Γ n y
def forM (f : Msrc) (m : Ms) : Ms := fun Γ => match f Γ with
  | some (n, y) => loopM y m n 0 Γ
  | none => none
theorem gs_for {tg iter : Expr} {wi : TI} {gg : TG} {vs : List Nat} {s : Msrc} (hp : Never X) (hc : X.calm = true) (hi : PI X tg iter wi) (hg : PG X tg gg) (S0 : GSrc X wi gg vs s) (hb : GB X body m)
    (hfs : ∀ x, foldedSetIterable iter X.env x = pure x := by intro _; rfl) : GS X (.For tg iter body [] pos) (forM s m) := ⟨fun Γ r e P q => by
  unfold forM at e
  split at e
  · rename_i k y hk
    refine sd_for hp hc hi hg (S0.ok Γ k y hk) (fun i Γ' => loopM y m (k - i) i Γ' = some r) e (fun i Γ' hi hI => ?_) (fun Γ' hI => ?_) hfs
    · obtain ⟨j, hj⟩ : ∃ j, k - i = j + 1 := ⟨k - i - 1, by omega⟩
      have hj' : k - (i + 1) = j := by omega
      rw [hj] at hI
      unfold loopM at hI
      have go : ∀ r', m (y i Γ') = some r' → Hits { nx := fun Γ'' => loopM y m (k - (i + 1)) (i + 1) Γ'' = some r, ct := fun Γ'' => loopM y m (k - (i + 1)) (i + 1) Γ'' = some r, bk := P.nx, rt := P.rt } r' →
          BD X body (y i Γ') { nx := fun Γ'' => loopM y m (k - (i + 1)) (i + 1) Γ'' = some r, ct := fun Γ'' => loopM y m (k - (i + 1)) (i + 1) Γ'' = some r, bk := P.nx, rt := P.rt } := fun r' h1 h2 => hb.ok _ r' h1 _ h2
      rw [hj'] at go ⊢
      split at hI
      · exact go (.nx _) (by assumption) hI
      · exact go (.ct _) (by assumption) hI
      · cases hI; exact go (.bk _) (by assumption) q
      · cases hI; exact go (.rt _) (by assumption) q
      · cases hI
    · rw [Nat.sub_self] at hI
      cases hI
      exact q
  · cases e⟩
def whileM (t : Mt) (m : Ms) : Nat → List Ent → Option Out
  | 0, Γ => (match t Γ with
    | some false => some (.nx Γ)
    | _ => none)
  | k + 1, Γ => match t Γ with
    | some false => some (.nx Γ)
    | some true => (match m Γ with
      | some (.nx Γ') => whileM t m k Γ'
      | some (.ct Γ') => whileM t m k Γ'
      | some (.bk Γ') => some (.nx Γ')
      | some (.rt d) => some (.rt d)
      | none => none)
    | none => none
theorem gs_while (N : Nat) (hp : Never X) (hc : GT X c t) (hb : GB X body m) : GS X (.While c body [] pos) (whileM t m N) := ⟨fun Γ r e P q => by
  refine sd_while hp N (fun i Γ' => i ≤ N ∧ whileM t m (N - i) Γ' = some r) ⟨Nat.zero_le _, e⟩ fun i Γ' ⟨hle, hI⟩ => ?_
  by_cases hlt : i < N
  · obtain ⟨j, hj⟩ : ∃ j, N - i = j + 1 := ⟨N - i - 1, by omega⟩
    have hj' : N - (i + 1) = j := by omega
    rw [hj] at hI
    unfold whileM at hI
    split at hI
    · cases hI
      exact ⟨false, hc.ok Γ' _ (by assumption), (fun z => by cases z), fun _ => q⟩
    · refine ⟨true, hc.ok Γ' _ (by assumption), (fun _ => ⟨hlt, ?_⟩), fun z => by cases z⟩
      have le : ∀ Γ'', whileM t m j Γ'' = some r → i + 1 ≤ N ∧ whileM t m (N - (i + 1)) Γ'' = some r := fun Γ'' z => ⟨hlt, by rw [hj']; exact z⟩
      split at hI
      · exact hb.ok _ (.nx _) (by assumption) _ (le _ hI)
      · exact hb.ok _ (.ct _) (by assumption) _ (le _ hI)
      · cases hI; exact hb.ok _ (.bk _) (by assumption) _ q
      · cases hI; exact hb.ok _ (.rt _) (by assumption) _ q
      · cases hI
    · cases hI
  · have e0 : N - i = 0 := by omega
    rw [e0] at hI
    unfold whileM at hI
    split at hI
    · cases hI
      exact ⟨false, hc.ok Γ' _ (by assumption), (fun z => by cases z), fun _ => q⟩
    · cases hI⟩
/-! ### sources -/
def srcL (j : Nat) (f : Mx) : Msrc := fun Γ => match f Γ with
  | some d => if isLst d then some (dlen d, fun i Γ' => Γ'.set j (.val (itd d i))) else none
  | none => none
theorem gsrc_list (j : Nat) (h : GE X e f) : GSrc X (iList X.K (wE X e)) (gName j) [j] (srcL j f) := ⟨fun Γ n y e' => by
  unfold srcL at e'
  split at e'
  · split at e'
    · cases e'; exact src_list j (by assumption) (h.ok Γ _ (by assumption))
    · cases e'
  · cases e'⟩
def srcTW (j : Nat) (f : Mx) : Msrc := fun Γ => match f Γ with
  | some (.tw ws) => some (ws.length, fun i Γ' => Γ'.set j (.val (.wd (ws.getD i []))))
  | _ => none
theorem gsrc_tw (j : Nat) (h : GE X e f) : GSrc X (iTup X.K (wE X e)) (gName j) [j] (srcTW j f) := ⟨fun Γ n y e' => by
  unfold srcTW at e'
  split at e'
  · cases e'; exact src_tw j (h.ok Γ _ (by assumption))
  · cases e'⟩
/-- a word's letters -/
theorem src_wd {Γ : List Ent} {t : TE} {w : List Int} (j : Nat) (h : ∀ (H0 Hs H : Hp) (σ : L2.St), St2 X.K H0 Hs H σ Γ → ∀ Q : VK, (∀ v Hs2 H2, Stp Hs H Hs2 H2 → DR X.K Hs2 v (.wd w) → Q v H2) → t σ H Q) :
    Src X (iTup X.K t) (gName j) [j] Γ w.length (fun i Γ' => Γ'.set j (.val (.int (w.getD i 0)))) := fun H0 Hs H σ S R r => h H0 Hs H σ S _ fun v Hs2 H2 t2 ⟨a, ev, q⟩ => by
  refine ⟨a, ev, ⟨_, sqT_ex t2.sub q⟩, r _ Hs2 H2 t2 ⟨fun i Hs' H' hi s' u' => ⟨_, _, sqT_ex u' (s' _ _ q), getD_map hi⟩, fun Hs' H' s' u' => ⟨_, sqT_ex u' (s' _ _ q), by rw [List.length_map]; exact Nat.le_refl _⟩, fun i x H0' Hs' H' H'' σ' Γ' Q hi s' S' hy k => ?_⟩⟩
  obtain ⟨e1, e2⟩ := hy
  subst e1
  have hx := e2 _ (sqT_ex S'.sub (s' _ _ q))
  rw [getD_map hi] at hx
  cases hx
  exact k _ Hs' _ (Stp.refl S'.sub) (S'.set j (d := .int (w.getD i 0)) rfl) wipe1
def srcW (j : Nat) (f : Mx) : Msrc := fun Γ => match f Γ with
  | some (.wd w) => some (w.length, fun i Γ' => Γ'.set j (.val (.int (w.getD i 0))))
  | _ => none
theorem gsrc_wd (j : Nat) (h : GE X e f) : GSrc X (iTup X.K (wE X e)) (gName j) [j] (srcW j f) := ⟨fun Γ n y e' => by
  unfold srcW at e'
  split at e'
  · cases e'; exact src_wd j (h.ok Γ _ (by assumption))
  · cases e'⟩
def srcR1 (j : Nat) (f : Mx) : Msrc := fun Γ => match f Γ with
  | some (.int i) => if -100000 ≤ i ∧ i ≤ 100000 then some (i.toNat, fun k Γ' => Γ'.set j (.val (.int (k : Int)))) else none
  | _ => none
theorem gsrc_r1 (j : Nat) (h : GA X [a] (consA f (fun _ => some []))) : GSrc X (iRng1 (wA X [a])) (gName j) [j] (srcR1 j f) := ⟨fun Γ n y e' => by
  unfold srcR1 at e'
  split at e'
  · split at e'
    · cases e'
      rename_i i hi hz
      have h1 := h.ok Γ [.int i] (by unfold consA; rw [hi])
      have h2 := src_r1 (i := i) (t := wA X [a]) j hz h1
      simp only [Int.zero_add] at h2
      exact h2
    · cases e'
  · cases e'⟩
def srcR2 (j : Nat) (f g : Mx) : Msrc := fun Γ => match f Γ, g Γ with
  | some (.int lo), some (.int i) => if -100000 ≤ lo ∧ lo ≤ 100000 ∧ -100000 ≤ i ∧ i ≤ 100000 then some ((i - lo).toNat, fun k Γ' => Γ'.set j (.val (.int (lo + (k : Int))))) else none
  | _, _ => none
theorem gsrc_r2 (j : Nat) (h : GA X [a, b] (consA f (consA g (fun _ => some [])))) : GSrc X (iRng2 (wA X [a, b])) (gName j) [j] (srcR2 j f g) := ⟨fun Γ n y e' => by
  unfold srcR2 at e'
  split at e'
  · split at e'
    · cases e'
      rename_i lo i hlo hi hz
      exact src_r2 j hz (h.ok Γ [.int lo, .int i] (by unfold consA; rw [hlo, hi]))
    · cases e'
  · cases e'⟩
def srcR3 (j : Nat) (f g : Mx) : Msrc := fun Γ => match f Γ, g Γ with
  | some (.int lo), some (.int i) => if -100000 ≤ lo ∧ lo ≤ 100000 ∧ -100000 ≤ i ∧ i ≤ 100000 then some ((lo - i).toNat, fun k Γ' => Γ'.set j (.val (.int (lo + (k : Nat) * (-1))))) else none
  | _, _ => none
theorem gsrc_r3 (j : Nat) (h : GA X [a, b, c] (consA f (consA g (consA (fun _ => some (.int (-1))) (fun _ => some []))))) : GSrc X (iRng3 (wA X [a, b, c])) (gName j) [j] (srcR3 j f g) := ⟨fun Γ n y e' => by
  unfold srcR3 at e'
  split at e'
  · split at e'
    · cases e'
      rename_i lo i hlo hi hz
      exact src_r3 j (RgC.neg (by omega) (by omega) (by omega) (by omega)) (h.ok Γ [.int lo, .int i, .int (-1)] (by unfold consA; rw [hlo, hi]))
    · cases e'
  · cases e'⟩
def srcEn (m n : Nat) (f : Mx) : Msrc := fun Γ => match f Γ with
  | some (.wd w) => some (w.length, fun i Γ' => (Γ'.set m (.val (.int (i : Int)))).set n (.val (.int (w.getD i 0))))
  | _ => none
theorem gsrc_enumT (m n : Nat) (h : GA X [e] (consA f (fun _ => some []))) : GSrc X (iEnumT X.K (wA X [e])) (gPair X.K m n) [m, n] (srcEn m n f) := ⟨fun Γ k y e' => by
  unfold srcEn at e'
  split at e'
  · cases e'
    rename_i w hw
    exact src_enumT m n (h.ok Γ [.wd w] (by unfold consA; rw [hw]))
  · cases e'⟩
def srcEnL (m n : Nat) (f : Mx) : Msrc := fun Γ => match f Γ with
  | some d => if isLst d then some (dlen d, fun i Γ' => (Γ'.set m (.val (.int (i : Int)))).set n (.val (itd d i))) else none
  | none => none
theorem gsrc_enumL (m n : Nat) (h : GA X [e] (consA f (fun _ => some []))) : GSrc X (iEnum X.K (wA X [e])) (gPair X.K m n) [m, n] (srcEnL m n f) := ⟨fun Γ k y e' => by
  unfold srcEnL at e'
  split at e'
  · split at e'
    · cases e'
      rename_i d hd hl
      exact src_enumL m n hl (h.ok Γ [d] (by unfold consA; rw [hd]))
    · cases e'
  · cases e'⟩
def srcZip (m n : Nat) (f g : Mx) : Msrc := fun Γ => match f Γ, g Γ with
  | some (.wd w), some (.wd u) => if w.length = u.length then some (w.length, fun i Γ' => (Γ'.set m (.val (.int (w.getD i 0)))).set n (.val (.int (u.getD i 0)))) else none
  | _, _ => none
theorem gsrc_zip (m n : Nat) (h : GA X [a, b] (consA f (consA g (fun _ => some [])))) : GSrc X (RZ.iZipA X.K (wA X [a, b])) (gPair X.K m n) [m, n] (srcZip m n f g) := ⟨fun Γ k y e' => by
  unfold srcZip at e'
  split at e'
  · split at e'
    · cases e'
      rename_i w u hw hu hl
      exact src_zip m n hl (h.ok Γ [.wd w, .wd u] (by unfold consA; rw [hw, hu]))
    · cases e'
  · cases e'⟩
def srcLp (m n : Nat) (f : Mx) : Msrc := fun Γ => match f Γ with
  | some (.lp ps) => some (ps.length, fun i Γ' => (Γ'.set m (.val (.wd (ps.getD i ([], 0)).1))).set n (.val (.int (ps.getD i ([], 0)).2)))
  | _ => none
theorem gsrc_lp (m n : Nat) (h : GE X e f) : GSrc X (iList X.K (wE X e)) (gPair X.K m n) [m, n] (srcLp m n f) := ⟨fun Γ k y e' => by
  unfold srcLp at e'
  split at e'
  · cases e'; exact src_lp m n (h.ok Γ _ (by assumption))
  · cases e'⟩
/-! ### comprehensions -/
def lcTo (d0 : Da) (y : Nat → List Ent → List Ent) (t : Mt) (f : Mx) (Γ : List Ent) : Nat → Option Da
  | 0 => some d0
  | i + 1 => match lcTo d0 y t f Γ i with
    | some a => (match t (y i Γ) with
      | some true => (match f (y i Γ) with
        | some d => snoc a d
        | none => none)
      | some false => some a
      | none => none)
    | none => none
def lcM (d0 : Da) (s : Msrc) (vs : List Nat) (t : Mt) (f : Mx) : Mx := fun Γ => match s Γ with
  | some (n, y) => if n ≤ 1000000 then lcTo d0 y t f (wipeΓ Γ vs) n else none
  | none => none
theorem lcTo_le {d0 : Da} {y : Nat → List Ent → List Ent} : ∀ {n i : Nat} {r : Da}, lcTo d0 y t f Γ n = some r → i ≤ n → ∃ a, lcTo d0 y t f Γ i = some a
  | 0, i, r, h, hi => ⟨r, by rw [Nat.le_zero.mp hi]; exact h⟩
  | n + 1, i, r, h, hi => by
    by_cases e : i = n + 1
    · subst e; exact ⟨r, h⟩
    · unfold lcTo at h
      split at h
      · exact lcTo_le (by assumption) (by omega)
      · cases h
theorem snoc_len {d e r : Da} (h : snoc d e = some r) : dlen r = dlen d + 1 := by
  cases d <;> cases e <;> first
    | (cases h; done)
    | (injection h with h; subst h; show List.length (_ ++ [_]) = _; rw [List.length_append]; rfl)
theorem lcTo_len {d0 : Da} {y : Nat → List Ent → List Ent} (h0 : dlen d0 = 0) : ∀ {n : Nat} {r : Da}, lcTo d0 y t f Γ n = some r → dlen r ≤ n
  | 0, r, h => by cases h; rw [h0]; exact Nat.le_refl _
  | n + 1, r, h => by
    unfold lcTo at h
    split at h
    · rename_i a ha
      have ih := lcTo_len h0 ha
      split at h
      · split at h
        · rw [snoc_len h]; omega
        · cases h
      · cases h; omega
      · cases h
    · cases h
def yesM : Mt := fun _ => some true
theorem gn_lc0 {tg iter elt : Expr} {scope : Scope} {own : List (Str × Nat)} {wi : TI} {gg : TG} {s : Msrc} (d0 : Da) (hc : X.calm = true) (hN : X.N.Nodup) (hi : PI X tg iter wi) (ok : BlkOk X.N X.env.scope scope own)
    (hg : ∀ (s : Shared) (H : Hp) (C : Addr) (cl : List (Str × Addr)) (fp : List Addr), PG (bX X scope s H C cl fp) tg gg) (S0 : GSrc X wi gg (own.map (·.2)) s) (he : ∀ (s : Shared) (H : Hp) (C : Addr) (cl : List (Str × Addr)) (fp : List Addr), GE (bX X scope s H C cl fp) elt f)
    (hA : ∀ K Hs, LstR K Hs [] d0 := by intro _ _; first | exact rfl | exact Paired.nil) (h0 : dlen d0 = 0 := by rfl) (hs : ∀ x, foldedSetIterable iter X.env x = pure x := by intro _; rfl) :
    GN X (.ListComp elt [⟨tg, iter, [], 0⟩] scope pos) (lcM d0 s (own.map (·.2)) yesM f) := ⟨fun Γ d e' => by
  unfold lcM at e'
  split at e'
  · split at e'
    · rename_i k y hk hz
      have ex : ∀ i, i ≤ k → lcTo d0 y yesM f (wipeΓ Γ (own.map (·.2))) i = some ((lcTo d0 y yesM f (wipeΓ Γ (own.map (·.2))) i).getD .non) := fun i hi => by
        obtain ⟨a, ha⟩ := lcTo_le e' hi
        rw [ha]; rfl
      have hd : d = (lcTo d0 y yesM f (wipeΓ Γ (own.map (·.2))) k).getD .non := by rw [e']; rfl
      subst hd
      refine el_lc0 hc hN hi ok hg (S0.ok Γ k y hk) (fun i => (lcTo d0 y yesM f (wipeΓ Γ (own.map (·.2))) i).getD .non) (fun Hs => hA _ Hs) hz (fun i hi => ?_) (fun i hi => lcTo_len h0 (ex i hi)) hs
      have h1 := ex (i + 1) hi
      have h2 := ex i (by omega)
      generalize (lcTo d0 y yesM f (wipeΓ Γ (own.map (·.2))) i).getD .non = A0 at h2 ⊢
      generalize (lcTo d0 y yesM f (wipeΓ Γ (own.map (·.2))) (i + 1)).getD .non = A1 at h1 ⊢
      unfold lcTo at h1
      rw [h2] at h1
      simp only [yesM] at h1
      split at h1
      · exact ⟨_, fun s H C cl fp => (he s H C cl fp).ok _ _ (by assumption), h1⟩
      · cases h1
    · cases e'
  · cases e'⟩
theorem gn_lc1 {tg iter elt cond : Expr} {scope : Scope} {own : List (Str × Nat)} {wi : TI} {gg : TG} {s : Msrc} (d0 : Da) (hc : X.calm = true) (hN : X.N.Nodup) (hi : PI X tg iter wi) (ok : BlkOk X.N X.env.scope scope own)
    (hg : ∀ (s : Shared) (H : Hp) (C : Addr) (cl : List (Str × Addr)) (fp : List Addr), PG (bX X scope s H C cl fp) tg gg) (S0 : GSrc X wi gg (own.map (·.2)) s) (ht : ∀ (s : Shared) (H : Hp) (C : Addr) (cl : List (Str × Addr)) (fp : List Addr), GT (bX X scope s H C cl fp) cond t)
    (he : ∀ (s : Shared) (H : Hp) (C : Addr) (cl : List (Str × Addr)) (fp : List Addr), GE (bX X scope s H C cl fp) elt f)
    (hA : ∀ K Hs, LstR K Hs [] d0 := by intro _ _; first | exact rfl | exact Paired.nil) (h0 : dlen d0 = 0 := by rfl) (hs : ∀ x, foldedSetIterable iter X.env x = pure x := by intro _; rfl) :
    GN X (.ListComp elt [⟨tg, iter, [cond], 0⟩] scope pos) (lcM d0 s (own.map (·.2)) t f) := ⟨fun Γ d e' => by
  unfold lcM at e'
  split at e'
  · split at e'
    · rename_i k y hk hz
      have ex : ∀ i, i ≤ k → lcTo d0 y t f (wipeΓ Γ (own.map (·.2))) i = some ((lcTo d0 y t f (wipeΓ Γ (own.map (·.2))) i).getD .non) := fun i hi => by
        obtain ⟨a, ha⟩ := lcTo_le e' hi
        rw [ha]; rfl
      have hd : d = (lcTo d0 y t f (wipeΓ Γ (own.map (·.2))) k).getD .non := by rw [e']; rfl
      subst hd
      refine el_lc1 hc hN hi ok hg (S0.ok Γ k y hk) (fun i => (lcTo d0 y t f (wipeΓ Γ (own.map (·.2))) i).getD .non) (fun Hs => hA _ Hs) hz (fun i hi => ?_) (fun i hi => lcTo_len h0 (ex i hi)) hs
      have h1 := ex (i + 1) hi
      have h2 := ex i (by omega)
      generalize (lcTo d0 y t f (wipeΓ Γ (own.map (·.2))) i).getD .non = A0 at h2 ⊢
      generalize (lcTo d0 y t f (wipeΓ Γ (own.map (·.2))) (i + 1)).getD .non = A1 at h1 ⊢
      unfold lcTo at h1
      rw [h2] at h1
      simp only [] at h1
      split at h1
      · split at h1
        · exact ⟨true, fun s H C cl fp => (ht s H C cl fp).ok _ _ (by assumption), fun _ => ⟨_, fun s H C cl fp => (he s H C cl fp).ok _ _ (by assumption), h1⟩, fun z => by cases z⟩
        · cases h1
      · cases h1
        exact ⟨false, fun s H C cl fp => (ht s H C cl fp).ok _ _ (by assumption), (fun z => by cases z), fun _ => rfl⟩
      · cases h1
    · cases e'
  · cases e'⟩
end
/-! ### defs -/
def resM (N : List Str) (n : Nat) (m : Ms) : List Da → Option Da := fun ds => if ds.length = n then (match m (Γ0 N ds) with
  | some (.rt d) => some d
  | some (.nx _) => some .non
  | _ => none) else none
section
variable {P : Program} {w : World} {K : PySem.W.Frag} {mg : Str → Option Value} {base : Heap}
abbrev CanF (P : Program) (w : World) (K : PySem.W.Frag) (mg : Str → Option Value) (base : Heap) (k : Nat) (x : Str) (dd : List Da) (F : List Da → Option Da) : Prop := Can P w K mg base k x dd (fun ds r => F ds = some r)
theorem resM_len {N : List Str} {n : Nat} {m : Ms} {ds : List Da} {r : Da} (h : resM N n m ds = some r) : ds.length = n := by
  unfold resM at h
  split at h
  · assumption
  · cases h
theorem resM_bd {X : Cx} {body : List Stmt} {N : List Str} {n : Nat} {m : Ms} (hb : GB X body m) {ds : List Da} {r : Da} (h : resM N n m ds = some r) : BD X body (Γ0 N ds) { nx := fun _ => r = .non, rt := fun d => d = r } := by
  unfold resM at h
  split at h
  · split at h
    · cases h; exact hb.ok _ (.rt _) (by assumption) _ rfl
    · cases h; exact hb.ok _ (.nx _) (by assumption) _ rfl
    · cases h
  · cases h
theorem canF {x nm qual : Str} {params : Arguments} {body : List Stmt} {scope : Scope} {f : Addr} {fd : FuncData} {N ps : List Str} {k : Nat} {m : Ms} (g : mg x = some (.ref f)) (F : FunD K nm qual params body scope [] [] f fd) (b : Binds K fd ps []) (S : FnScope N ps scope)
    (hb : ∀ (cd : Value) (A : Around) (outer : List Env) (s : Shared) (H : Hp) (E : XK), Room k (fX P w K mg base N qual scope f cd A outer s H E).A → GB (fX P w K mg base N qual scope f cd A outer s H E) body m) : CanF P w K mg base (k + 1) x [] (resM N ps.length m) :=
  ⟨f, fd, ps, [], [], g, F.kp, .nil, b, fn_ok F S _ (fun ds r h => resM_len h) (fun cd A outer s H E hr ds r h => resM_bd (hb cd A outer s H E hr) h), fun _ => .nil⟩
theorem Can.less {x : Str} {k : Nat} {dd : List Da} {F G : List Da → Option Da} (C : CanF P w K mg base k x dd F) (h : ∀ ds r, G ds = some r → F ds = some r) : CanF P w K mg base k x dd G := by
  obtain ⟨f, fd, ps, dvs, us, h1, h2, h3, h4, h5, h6⟩ := C.ex
  refine ⟨f, fd, ps, dvs, us, h1, h2, h3, h4, h5.imp fun vs H Q E z => ?_, h6⟩
  obtain ⟨Hs, ds, r, z1, z2, z3, z4⟩ := z
  exact ⟨Hs, ds, r, z1, z2, h ds r z3, z4⟩
end
end K54

set_option Elab.async false
set_option linter.all false
set_option maxRecDepth 100000
set_option maxHeartbeats 4000000
/-! J6: dicts, sorted words, divmod, unpacking. -/
namespace K54
open PySem PySem.Spec PyProof.Rows L2
abbrev wk (w : List Int) : List L2.Key := w.map Sum.inl
theorem kV_wk (w : List Int) : (wk w).map kV = w.map V.int := by
  unfold wk
  rw [List.map_map]
  rfl
theorem wk_inj {w u : List Int} (h : wk w = wk u) : w = u := by
  have : (wk w).map kV = (wk u).map kV := by rw [h]
  rw [kV_wk, kV_wk] at this
  exact List.map_inj_right (fun a b e => by cases e; rfl) |>.mp this
/-- the word put into the table -/
def putW (ws : List (List Int)) (w : List Int) : List (List Int) := if ws.contains w then ws else ws ++ [w]
def ent1 (w : List Int) : List L2.Key × V := (wk w, V.bl true)
theorem putK_W (ws : List (List Int)) (w : List Int) : putK (ws.map ent1) (wk w) (V.bl true) = (putW ws w).map ent1 := by
  unfold putK putW
  have e : ((ws.map ent1).any fun kv => decide (kv.1 = wk w)) = ws.contains w := by
    rw [List.any_map]
    induction ws with
    | nil => rfl
    | cons x r ih =>
      rw [List.any_cons, ih, List.contains_cons]
      congr 1
      show decide (wk x = wk w) = (w == x)
      by_cases h : w = x
      · rw [h]; simp
      · rw [decide_eq_false (fun z => h (wk_inj z).symm)]
        simp [h]
  rw [e]
  by_cases h : ws.contains w = true
  · rw [if_pos h, if_pos h, List.map_map]
    apply List.map_congr_left
    intro x _
    show (if wk x = wk w then (wk x, V.bl true) else ent1 x) = ent1 x
    split <;> rfl
  · rw [if_neg h, if_neg h, List.map_append]
    rfl
theorem dTO_eq (ws : List (List Int)) : dTO ws = .dT (ws.map ent1) := rfl
def ent2 (p : Int × Int) : L2.Key × V := (Sum.inl p.1, V.int p.2)
theorem dKO_eq (kvs : List (Int × Int)) : dKO kvs = .dK (kvs.map ent2) := rfl
def putI (kvs : List (Int × Int)) (k v : Int) : List (Int × Int) := if (kvs.any fun p => decide (p.1 = k)) = true then kvs.map (fun p => if p.1 = k then (p.1, v) else p) else kvs ++ [(k, v)]
theorem inl_eq {a b : Int} : ((Sum.inl a : L2.Key) = Sum.inl b) ↔ a = b := ⟨fun h => by cases h; rfl, fun h => by rw [h]⟩
theorem putK_I (kvs : List (Int × Int)) (k v : Int) : putK (kvs.map ent2) (Sum.inl k : L2.Key) (V.int v) = (putI kvs k v).map ent2 := by
  unfold putK putI
  have e : ((kvs.map ent2).any fun kv => decide (kv.1 = (Sum.inl k : L2.Key))) = kvs.any fun p => decide (p.1 = k) := by
    rw [List.any_map]
    congr 1
    funext p
    show decide ((Sum.inl p.1 : L2.Key) = Sum.inl k) = decide (p.1 = k)
    simp only [inl_eq]
  rw [e]
  by_cases h : (kvs.any fun p => decide (p.1 = k)) = true
  · rw [if_pos h, if_pos h, List.map_map, List.map_map]
    apply List.map_congr_left
    intro x _
    show (if (Sum.inl x.1 : L2.Key) = Sum.inl k then ((Sum.inl x.1 : L2.Key), V.int v) else ent2 x) = ent2 (if x.1 = k then (x.1, v) else x)
    by_cases hx : x.1 = k
    · rw [if_pos (inl_eq.mpr hx), if_pos hx]; rfl
    · rw [if_neg (fun z => hx (inl_eq.mp z)), if_neg hx]
  · rw [if_neg h, if_neg h, List.map_append]
    rfl
def getI (kvs : List (Int × Int)) (k : Int) : Option Int := (kvs.find? fun p => decide (p.1 = k)).map (·.2)
theorem valV_I (kvs : List (Int × Int)) (k : Int) : valV (kvs.map ent2) (Sum.inl k : L2.Key) = (getI kvs k).map V.int := by
  unfold valV getI
  rw [List.find?_map, Option.map_map, Option.map_map]
  have e : ((fun kv : L2.Key × V => decide (kv.1 = (Sum.inl k : L2.Key))) ∘ ent2) = fun p => decide (p.1 = k) := by
    funext p
    show decide ((Sum.inl p.1 : L2.Key) = Sum.inl k) = decide (p.1 = k)
    simp only [inl_eq]
  rw [e]
  rfl
def putT (i : Nat) (f : Mx) : Ms := fun Γ => match Γ[i]?, f Γ with
  | some (.dT ws), some (.wd w) => if ws.length < 1000000 then some (.nx (Γ.set i (.dT (putW ws w)))) else none
  | _, _ => none
def putKM (i : Nat) (f g : Mx) : Ms := fun Γ => match Γ[i]?, f Γ, g Γ with
  | some (.dK kvs), some (.int v), some (.int k) => if kvs.length < 1000000 then some (.nx (Γ.set i (.dK (putI kvs k v)))) else none
  | _, _, _ => none
theorem room_hu {k : Nat} {A : Around} (r : Room k A) : A.units + 1 < cLine := by have := r.un; omega
theorem room_hu64 {k : Nat} {A : Around} (r : Room k A) : A.units + 64 < cLine := by have := r.un; omega
section
variable {X : Cx} {a b c e o : Expr} {es : List Expr} {Γ : List Ent} {pos : Pos} {d d1 d2 : Da} {ds dd : List Da} {i j : Int} {P : Pst} {k n : Nat} {x : Str} {f g : Mx} {m : Ms}
/-! ### told[e] = True, ahead[letter] = at -/
theorem gs_putT (i : Nat) {px ps p2 : Pos} {j : Nat} (hr : Room n X.A) (he : GE X e f) (hN : X.N[i]? = some x := by rfl)
    (hv : Vis X.env.scope x := by first | exact Or.inl rfl | exact Or.inr (Or.inl rfl) | exact Or.inr (Or.inr rfl)) (hd : (x == ("__debug__" : Str)) = false := by decide) (hcd : (x == ("__classdict__" : Str)) = false := by decide)
    (hs : swapsWith (.Constant (.bool true) j p2) (some (.Subscript (.Name x px) e ps)) pos.line X.env = pure false := by rfl) :
    GS X (.Assign [.Subscript (.Name x px) e ps] (.Constant (.bool true) j p2) pos) (putT i f) := ⟨fun Γ r e' P q => by
  unfold putT at e'
  split at e'
  · split at e'
    · rename_i ws w h1 h2 hz
      cases e'
      intro Hs0 H0 Hs H σ t S
      obtain ⟨p, e1, n0, ns, hh⟩ := S.dTAt h1
      refine wS_of (ps_dput (room_hu hr) (pe_var hN hv hd hcd) (peW X e) pe_bl hs) ⟨_, e1, he.ok Γ _ h2 H0 Hs H σ S _ fun v Hs2 H2 t2 r2 => ?_⟩
      obtain ⟨b, eb, hb⟩ := r2
      subst eb
      have hh2 := t2.h _ _ hh
      have ns2 := t2.own p _ hh rfl ns
      refine ⟨p, _, rfl, DPut.t (k := wk w) hh2 (by rw [kV_wk]; exact t2.sub _ _ hb) (by rw [List.length_map]; exact Nat.lt_of_lt_of_le hz (by decide)), ?_⟩
      rw [show List.map (fun w : List Int => (w.map (Sum.inl : Int → L2.Key), V.bl true)) ws = ws.map ent1 from rfl, putK_W]
      have t3 := t.trans t2
      refine ⟨Hs2, _, ⟨t3.s, fun b o z => by rw [upd_ne (show b ≠ p from fun q => by rw [q, n0] at z; cases z)]; exact t3.h b o z, fun b o z => by rw [upd_ne (show b ≠ p from fun q => by rw [q, ns2] at z; cases z)]; exact t3.sub b o z, t3.own⟩,
        St2.write (e' := .dT (putW ws w)) (S.step t2) h1 rfl e1 ns2 rfl ⟨p, rfl, n0, ns2, upd_same⟩, q⟩
    · cases e'
  · cases e'⟩
theorem gs_putK (i : Nat) {px ps : Pos} (hr : Room n X.A) (hi : GE X b g) (he : GE X e f) (hN : X.N[i]? = some x := by rfl)
    (hv : Vis X.env.scope x := by first | exact Or.inl rfl | exact Or.inr (Or.inl rfl) | exact Or.inr (Or.inr rfl)) (hd : (x == ("__debug__" : Str)) = false := by decide) (hcd : (x == ("__classdict__" : Str)) = false := by decide)
    (hs : swapsWith e (some (.Subscript (.Name x px) b ps)) pos.line X.env = pure false := by rfl) :
    GS X (.Assign [.Subscript (.Name x px) b ps] e pos) (putKM i f g) := ⟨fun Γ r e' P q => by
  unfold putKM at e'
  split at e'
  · split at e'
    · rename_i kvs v k h1 h2 h3 hz
      cases e'
      intro Hs0 H0 Hs H σ t S
      obtain ⟨p, e1, n0, ns, hh⟩ := S.dKAt h1
      refine wS_of (ps_dput (room_hu hr) (pe_var hN hv hd hcd) (peW X b) (peW X e) hs) (he.ok Γ _ h2 H0 Hs H σ S _ fun u Hs1 H1 t1 r1 => ⟨_, e1, hi.ok Γ _ h3 H0 Hs1 H1 σ (S.step t1) _ fun y Hs2 H2 t2' r2 => ?_⟩)
      have t2 := t1.trans t2'
      have eu : u = .int v := r1
      have ey : y = .int k := r2
      subst eu ey
      have hh2 := t2.h _ _ hh
      have ns2 := t2.own p _ hh rfl ns
      refine ⟨p, _, rfl, DPut.k (k := (Sum.inl k : L2.Key)) (v := V.int v) hh2 (by rw [List.length_map]; exact Nat.lt_of_lt_of_le hz (by decide)), ?_⟩
      rw [show List.map (fun p : Int × Int => ((Sum.inl p.1 : L2.Key), V.int p.2)) kvs = kvs.map ent2 from rfl, putK_I]
      have t3 := t.trans t2
      refine ⟨Hs2, _, ⟨t3.s, fun b o z => by rw [upd_ne (show b ≠ p from fun q => by rw [q, n0] at z; cases z)]; exact t3.h b o z, fun b o z => by rw [upd_ne (show b ≠ p from fun q => by rw [q, ns2] at z; cases z)]; exact t3.sub b o z, t3.own⟩,
        St2.write (e' := .dK (putI kvs k v)) (S.step t2) h1 rfl e1 ns2 rfl ⟨p, rfl, n0, ns2, upd_same⟩, q⟩
    · cases e'
  · cases e'⟩
def getM (i : Nat) (g : Mx) : Mx := fun Γ => match Γ[i]?, g Γ with
  | some (.dK kvs), some (.int k) => (getI kvs k).map .int
  | _, _ => none
theorem g_dget (i : Nat) {px : Pos} (hr : Room n X.A) (hb : GE X b g) (hN : X.N[i]? = some x := by rfl)
    (hv : Vis X.env.scope x := by first | exact Or.inl rfl | exact Or.inr (Or.inl rfl) | exact Or.inr (Or.inr rfl)) (hd : (x == ("__debug__" : Str)) = false := by decide) (hcd : (x == ("__classdict__" : Str)) = false := by decide)
    (hs : NoSl b := by intro _ _; rfl) : GE X (.Subscript (.Name x px) b pos) (getM i g) := ⟨fun Γ d e' => by
  unfold getM at e'
  split at e'
  · rename_i kvs k h1 h2
    obtain ⟨v, hv', rfl⟩ := Option.map_eq_some_iff.mp e'
    intro H0 Hs H σ S Q q
    obtain ⟨p, e1, n0, ns, hh⟩ := S.dKAt h1
    refine wE_of (pe_dget (room_hu hr) (pe_var hN hv hd hcd) (peW X b) hs) ⟨_, e1, hb.ok Γ _ h2 H0 Hs H σ S _ fun y Hs2 H2 t2 r2 => ?_⟩
    have ey : y = .int k := r2
    subst ey
    have hh2 := t2.h _ _ hh
    refine ⟨p, .int v, rfl, ?_, q _ Hs2 H2 t2 rfl⟩
    have := DGet.k (k := (Sum.inl k : L2.Key)) hh2
    rw [show List.map (fun p : Int × Int => ((Sum.inl p.1 : L2.Key), V.int p.2)) kvs = kvs.map ent2 from rfl, valV_I, hv'] at this
    exact this
  · cases e'⟩
def inM (i : Nat) (g : Mx) : Mt := fun Γ => match Γ[i]?, g Γ with
  | some (.dK kvs), some (.int k) => some (getI kvs k).isSome
  | _, _ => none
theorem gt_in (i : Nat) {px : Pos} (hr : Room n X.A) (hb : GE X b g) (hN : X.N[i]? = some x := by rfl)
    (hv : Vis X.env.scope x := by first | exact Or.inl rfl | exact Or.inr (Or.inl rfl) | exact Or.inr (Or.inr rfl)) (hd : (x == ("__debug__" : Str)) = false := by decide) (hcd : (x == ("__classdict__" : Str)) = false := by decide)
    (h1 : behindInMarks .In (.Name x px) = false := by rfl) : GT X (.Compare b [.In] [.Name x px] pos) (inM i g) := ⟨fun Γ r e' => by
  unfold inM at e'
  split at e'
  · rename_i kvs k h1' h2
    cases e'
    intro H0 Hs H σ S Q q
    obtain ⟨p, e1, n0, ns, hh⟩ := S.dKAt h1'
    refine wT_of (pt_cmp (pc_din (room_hu hr) (peW X b) (pe_var hN hv hd hcd)) h1) (hb.ok Γ _ h2 H0 Hs H σ S _ fun y Hs2 H2 t2 r2 => ⟨_, e1, p, valV (kvs.map ent2) (Sum.inl k : L2.Key), rfl, ?_, ?_⟩)
    · have ey : y = .int k := r2
      subst ey
      exact DGet.k (k := (Sum.inl k : L2.Key)) (t2.h _ _ hh)
    · rw [valV_I, Option.isSome_map]
      exact ⟨_, rfl, q Hs2 H2 t2⟩
  · cases e'⟩
/-! ### list(told.keys()) -/
def keysO (p d : Addr) : HO := .ext fun h => PySem.W.KdlKeysView h p d
theorem keysO_ok {P : Program} {w : World} {H : Hp} {h : Heap} {p d : Addr} (e : h.get? p = some { cls := .type "dict_keys", data := .fields #[.ref d] }) : ObjOk P w H h p (keysO p d) :=
  ⟨⟨_, e, rfl, rfl⟩, ⟨_, e⟩, fun h1 h2 x k => let ⟨o, ho, r⟩ := x; ⟨o, k o ho, r⟩⟩
def rKeysT : V → List V → Hp → VK → Prop := fun x xs H Q => ∃ (a : Addr) (kvs : List (List L2.Key × V)), x = .ref a ∧ xs = [] ∧ H a = some (.dT kvs) ∧ ∀ p, H p = none → Q (.ref p) (upd H p (keysO p a))
theorem mt_keysT : MtR X "dict.keys" rKeysT := by
  intro pins s σ H x xs v us Q I rx rxs h
  obtain ⟨a, kvs, ex, exs, ha, q⟩ := h
  subst ex exs
  cases rx
  cases rxs
  obtain ⟨z, hd, xs', rel, o, es, ep, ho, hx, hdat, _⟩ := dt_of I.hok ha
  refine call_meetsIn PySem.F.slot_dict_keys (show s.TypeIs (.ref a) "dict" from ⟨o, ho, hx.1⟩) PySem.F.entry_dict_keys (PySem.F.args_dict_keys_1 _) (meets_dict_keys_raw a hd) ⟨⟨es, ep, o, ho, hx, hdat⟩, ?_⟩
  have hf : H s.heap.objs.size = none := I.hok.fresh (Nat.le_refl _)
  exact ⟨.ref s.heap.objs.size, upd H s.heap.objs.size (keysO s.heap.objs.size a), I.laid (t' := s.toks) (fun b u e => Heap.get?_push_of_some _ e) (Nat.le_refl _) (keysO_ok (Heap.get?_push_size _ rfl)), rfl, q _ hf⟩
theorem call_list_keysT (hc : X.calm = true) : CallR X (.type "list") (fun xs H Q => ∃ p a kvs, xs = [V.ref p] ∧ H p = some (keysO p a) ∧ H a = some (.dT kvs) ∧ ∀ l bs, H l = none → IsKeys H kvs bs → Q (.ref l) (upd H l (.lst (bs.map V.ref)))) := by
  intro pins s σ H xs us Q I r h
  obtain ⟨p, d, kvs, exs, hp, hd, q⟩ := h
  subst exs
  obtain ⟨u, eu, rx⟩ := r.one
  subst eu
  cases rx
  have view : PySem.W.KdlKeysView s.heap p d := (show ObjOk X.prog X.w H s.heap p (keysO p d) from I.hok p _ hp).1
  obtain ⟨z, hs, ks, pr, o, es, ep, ho, hx, hdt, he, hn⟩ := dt_of I.hok hd
  have sz1 : es.size = ks.length := size_of_entries he
  have sz2 : kvs.length = ks.length := Paired.length pr
  refine PySem.W.kdl_call KdlSrc.rawKeys (I.ok.hd hc) ⟨view, o, ho, hx, hdt⟩ (by omega) fun h' tk acc' c' kp e it => ?_
  have ea : acc'.toList = (ks.map fun x => x.2.1).map Value.ref := by
    have hl : acc'.toList.length = ks.length := by rw [Array.length_toList, it.1]; exact sz1
    rw [List.map_map]
    apply List.ext_getElem?
    intro j
    rw [List.getElem?_map]
    cases hj : acc'.toList[j]? with
    | none =>
      have hj1 := List.getElem?_eq_none_iff.mp hj
      rw [List.getElem?_eq_none (by omega)]
      rfl
    | some v =>
      obtain ⟨hi, hv⟩ := it.2 j v (by rw [← Array.getElem?_toList]; exact hj)
      have qe := entry_at he j
      rw [Array.getElem?_eq_getElem hi] at qe
      cases hb : ks[j]? with
      | none =>
        rw [hb] at qe
        cases qe
      | some b =>
        rw [hb] at qe
        have en : es[j] = entryOfKey (tupleKind (mixKind X.prog X.w)) b := Option.some.inj qe
        rw [hv, en]
        rfl
  have rv : Vals ((ks.map fun x => x.2.1).map V.ref) acc'.toList := by rw [ea]; exact vals_refs _
  refine ⟨.ref s.heap.objs.size, _, I.laid (t' := tk) (o := .lst ((ks.map fun x => x.2.1).map V.ref)) kp (Nat.le_refl _) ?_, rfl, q _ _ (I.hok.fresh (Nat.le_refl _)) (isKeys_of pr)⟩
  exact ⟨by rw [List.length_map, List.length_map]; omega, acc'.toList, c', rv, by rw [Array.toArray_toList]; exact e⟩
theorem keys_in {H : Hp} {l : Addr} {o : HO} (hl : H l = none) (ho : isTupO o = false := by rfl) : ∀ {us : List (List Int)} {cs : List Addr}, IsKeys (upd H l o) (us.map ent1) cs → Paired (fun b w => H b = some (.tup (w.map V.int))) cs us
  | [], _, .nil => .nil
  | u :: us, _, .cons h t => by
    refine .cons ?_ (keys_in hl ho t)
    have h' : upd H l o _ = some (.tup ((wk u).map kV)) := h
    rw [kV_wk] at h'
    rw [upd_ne (fun z => by rw [z, upd_same] at h'; cases h'; cases ho)] at h'
    exact h'
theorem paired_mem {α β : Type} {F : α → β → Prop} : ∀ {l₁ : List α} {l₂ : List β}, Paired F l₁ l₂ → ∀ b ∈ l₁, ∃ w, F b w
  | _, _, .nil, _, h => by cases h
  | _, _, .cons r t, b, h => by
    rcases List.mem_cons.mp h with z | z
    · subst z; exact ⟨_, r⟩
    · exact paired_mem t b z
theorem pmapM {α β γ : Type} {F : α → β → Prop} {G : γ → β → Prop} {f : α → γ} : ∀ {l₁ : List α} {l₂ : List β}, Paired F l₁ l₂ → (∀ b w, b ∈ l₁ → F b w → G (f b) w) → Paired G (l₁.map f) l₂
  | _, _, .nil, _ => .nil
  | _, _, .cons r t, h => .cons (h _ _ List.mem_cons_self r) (pmapM t fun b w hb hw => h b w (List.mem_cons_of_mem _ hb) hw)
def keysM (i : Nat) : Mx := fun Γ => match Γ[i]? with
  | some (.dT ws) => some (.lw ws)
  | _ => none
theorem gn_keys (i : Nat) {px pa pc p0 : Pos} (hc : X.calm = true) (hm : X.mg "list" = none) (hN : X.N[i]? = some x := by rfl)
    (hv : Vis X.env.scope x := by first | exact Or.inl rfl | exact Or.inr (Or.inl rfl) | exact Or.inr (Or.inr rfl)) (hd : (x == ("__debug__" : Str)) = false := by decide) (hcd : (x == ("__classdict__" : Str)) = false := by decide)
    (hbase : attributeBase (.Name x px) "keys" X.env (eval (.Name x px) X.env) = eval (.Name x px) X.env := by rfl) (hline : (pa.endLine == pc.line) = true := by rfl)
    (hg : Gl X "list" := by rfl) (he : starEach [.Call (.Attribute (.Name x px) "keys" pa) [] [] pc] X.env = (false, eval (.Call (.Attribute (.Name x px) "keys" pa) [] [] pc) X.env) :: starEach [] X.env := by rfl)
    (hpl : (backTo pos (starEach [] X.env)).any (·.1) = false := by rfl) :
    GN X (.Call (.Name "list" p0) [.Call (.Attribute (.Name x px) "keys" pa) [] [] pc] [] pos) (keysM i) := ⟨fun Γ d e' => by
  unfold keysM at e'
  split at e'
  · rename_i ws h1
    cases e'
    intro H0 Hs H σ S Q q
    obtain ⟨p, e1, n0, ns, hh⟩ := S.dTAt h1
    refine wE_of (pe_callTy (call_list_keysT hc) hg hm boot_list' (pa_cons (pe_bm0 PySem.F.plainAttrs_dict PySem.F.slot_dict_keys PySem.F.type_dict_keys mt_keysT (pe_var hN hv hd hcd) hbase hline) pa_nil he) (by decide) (by decide) he hpl) ?_
    refine ⟨_, e1, .inr (.inr (.inl ⟨rfl, .inr ⟨_, hh⟩⟩)), p, _, rfl, rfl, hh, fun l hl => ?_⟩
    have nl : p ≠ l := ne_of_none hh hl
    refine ⟨l, p, ws.map ent1, rfl, upd_same, by rw [upd_ne nl]; exact hh, fun r bs hr ks => ?_⟩
    have hr0 : H r = none := by
      by_cases z : r = l
      · subst z; rw [upd_same] at hr; cases hr
      · rw [upd_ne z] at hr; exact hr
    have nrl : r ≠ l := fun z => by subst z; rw [upd_same] at hr; cases hr
    have key := keys_in (o := keysO l p) hl rfl ks
    have kb : ∀ b ∈ bs, ∃ w : List Int, H b = some (.tup (w.map V.int)) := fun b hb => paired_mem key b hb
    refine q r (bs.map V.ref) (fun b => if b ∈ bs then H b else Hs b) _ ⟨fun b o z => ?_, (Same.upd_new hl).trans (Same.upd_new hr), fun b o z => ?_, fun b o z1 z2 z3 => ?_⟩ hr0 ?_ upd_same ?_
    · show (if b ∈ bs then H b else Hs b) = some o
      split
      · exact S.sub b o z
      · exact z
    · refine (Same.upd_new (o := .lst (bs.map V.ref)) hr) b o (Same.upd_new (o := keysO l p) hl b o ?_)
      have z' : (if b ∈ bs then H b else Hs b) = some o := z
      split at z'
      · exact z'
      · exact S.sub b o z'
    · show (if b ∈ bs then H b else Hs b) = none
      split
      · rename_i hb
        obtain ⟨w, hw⟩ := kb b hb
        rw [hw] at z1
        cases z1
        cases z2
      · exact z3
    · show (if r ∈ bs then H r else Hs r) = none
      split
      · exact hr0
      · exact sub_none S.sub hr0
    · exact pmapM key fun b w hb hw => ⟨b, rfl, by show (if b ∈ bs then H b else Hs b) = _; rw [if_pos hb]; exact hw⟩
  · cases e'⟩
end
end K54

set_option Elab.async false
set_option linter.all false
set_option maxRecDepth 100000
set_option maxHeartbeats 4000000
/-! J7: sorted words, sums of words, turned lists, divmod, unpacking, equality. -/
namespace K54
open PySem PySem.Spec PyProof.Rows L2
/-! ### words in order -/
def leW : List Int → List Int → Bool
  | [], _ => true
  | _ :: _, [] => false
  | a :: r, b :: q => if a < b then true else if b < a then false else leW r q
def insW (w : List Int) : List (List Int) → List (List Int)
  | [] => [w]
  | u :: r => if leW w u then w :: u :: r else u :: insW w r
def sortW : List (List Int) → List (List Int)
  | [] => []
  | w :: r => insW w (sortW r)
theorem leW_total : ∀ a b : List Int, leW a b = true ∨ leW b a = true
  | [], _ => .inl rfl
  | _ :: _, [] => .inr rfl
  | a :: r, b :: q => by
    unfold leW
    by_cases h1 : a < b
    · rw [if_pos h1]; exact .inl rfl
    · by_cases h2 : b < a
      · exact .inr (by rw [if_pos h2])
      · rw [if_neg h1, if_neg h2, if_neg h2, if_neg h1]
        exact leW_total r q
theorem leW_anti : ∀ a b : List Int, leW a b = true → leW b a = true → a = b
  | [], [], _, _ => rfl
  | [], _ :: _, _, h => by cases h
  | _ :: _, [], h, _ => by cases h
  | a :: r, b :: q, h, h' => by
    unfold leW at h h'
    by_cases h1 : a < b
    · rw [if_neg (show ¬ b < a by omega), if_pos h1] at h'; cases h'
    · by_cases h2 : b < a
      · rw [if_neg h1, if_pos h2] at h; cases h
      · rw [if_neg h1, if_neg h2] at h
        rw [if_neg h2, if_neg h1] at h'
        rw [leW_anti r q h h', show a = b by omega]
theorem leW_trans : ∀ a b c : List Int, leW a b = true → leW b c = true → leW a c = true
  | [], _, _, _, _ => rfl
  | _ :: _, [], _, h, _ => by cases h
  | _ :: _, _ :: _, [], _, h => by cases h
  | a :: r, b :: q, c :: p, h, h' => by
    unfold leW at h h' ⊢
    by_cases h1 : a < b
    · by_cases h3 : b < c
      · rw [if_pos (show a < c by omega)]
      · by_cases h4 : c < b
        · rw [if_neg h3, if_pos h4] at h'; cases h'
        · rw [if_pos (show a < c by omega)]
    · by_cases h2 : b < a
      · rw [if_neg h1, if_pos h2] at h; cases h
      · rw [if_neg h1, if_neg h2] at h
        have e : a = b := by omega
        subst e
        by_cases h3 : a < c
        · rw [if_pos h3]
        · by_cases h4 : c < a
          · rw [if_neg h3, if_pos h4] at h'; cases h'
          · rw [if_neg h3, if_neg h4] at h' ⊢
            exact leW_trans r q p h h'
theorem insW_perm (w : List Int) : ∀ ws, (insW w ws).Perm (w :: ws)
  | [] => List.Perm.refl _
  | u :: r => by
    unfold insW
    split
    · exact List.Perm.refl _
    · exact ((insW_perm w r).cons u).trans (List.Perm.swap w u r)
theorem sortW_perm : ∀ ws, (sortW ws).Perm ws
  | [] => List.Perm.refl _
  | w :: r => (insW_perm w (sortW r)).trans ((sortW_perm r).cons w)
theorem insW_pw (w : List Int) : ∀ {ws : List (List Int)}, ws.Pairwise (fun a b => leW a b = true) → (insW w ws).Pairwise (fun a b => leW a b = true)
  | [], _ => by unfold insW; exact List.pairwise_singleton _ _
  | u :: r, h => by
    unfold insW
    rw [List.pairwise_cons] at h
    split
    · rename_i hw
      refine List.pairwise_cons.mpr ⟨fun x hx => ?_, List.pairwise_cons.mpr h⟩
      rcases List.mem_cons.mp hx with z | z
      · rw [z]; exact hw
      · exact leW_trans _ _ _ hw (h.1 x z)
    · rename_i hw
      refine List.pairwise_cons.mpr ⟨fun x hx => ?_, insW_pw w h.2⟩
      rcases List.mem_cons.mp ((insW_perm w r).mem_iff.mp hx) with z | z
      · rw [z]
        rcases leW_total w u with q | q
        · exact absurd q hw
        · exact q
      · exact h.1 x z
theorem sortW_pw : ∀ ws, (sortW ws).Pairwise (fun a b => leW a b = true)
  | [] => List.Pairwise.nil
  | w :: r => insW_pw w (sortW_pw r)
theorem code_leW {B : Int} : ∀ {w u : List Int}, w.length = u.length → TS.Bd B w → TS.Bd B u → TS.code B w ≤ TS.code B u → leW w u = true
  | [], _, _, _, _, _ => rfl
  | _ :: _, [], h, _, _, _ => by cases h
  | a :: r, b :: q, hl, h1, h2, h => by
    have hl' : r.length = q.length := by simpa using hl
    unfold leW
    by_cases c1 : a < b
    · rw [if_pos c1]
    · by_cases c2 : b < a
      · have := TS.code_lt (d := b) (e := a) hl'.symm h2.tail h1.tail c2
        omega
      · have e : a = b := by omega
        subst e
        rw [if_neg c1, if_neg c2]
        refine code_leW hl' h1.tail h2.tail ?_
        by_cases z : TS.code B q < TS.code B r
        · have := (TS.code_same (d := a) hl'.symm).mpr z
          omega
        · omega
theorem paired_perm {α β : Type} {F : α → β → Prop} {l l' : List α} (p : l.Perm l') : ∀ {m : List β}, Paired F l m → ∃ m', Paired F l' m' ∧ m.Perm m' := by
  induction p with
  | nil => intro m h; cases h; exact ⟨[], .nil, List.Perm.refl _⟩
  | cons x _ ih =>
    intro m h
    cases h with
    | cons r t =>
      obtain ⟨m', h1, h2⟩ := ih t
      exact ⟨_ :: m', .cons r h1, h2.cons _⟩
  | swap x y l =>
    intro m h
    cases h with
    | cons r t =>
      cases t with
      | cons r2 t2 => exact ⟨_, .cons r2 (.cons r t2), List.Perm.swap _ _ _⟩
  | trans _ _ ih1 ih2 =>
    intro m h
    obtain ⟨m', h1, h2⟩ := ih1 h
    obtain ⟨m'', h3, h4⟩ := ih2 h1
    exact ⟨m'', h3, h2.trans h4⟩
theorem paired_pw {α β : Type} {F : α → β → Prop} {R : α → α → Prop} {S : β → β → Prop} : ∀ {l : List α} {m : List β}, Paired F l m → l.Pairwise R → (∀ a b x y, F a x → F b y → x ∈ m → y ∈ m → R a b → S x y) → m.Pairwise S
  | _, _, .nil, _, _ => List.Pairwise.nil
  | _, _, .cons r t, h, k => by
    rw [List.pairwise_cons] at h
    refine List.pairwise_cons.mpr ⟨fun y hy => ?_, paired_pw t h.2 fun a b x y f1 f2 m1 m2 q => k a b x y f1 f2 (List.mem_cons_of_mem _ m1) (List.mem_cons_of_mem _ m2) q⟩
    have back : ∀ {l : List _} {m : List _}, Paired F l m → y ∈ m → ∃ b ∈ l, F b y := by
      intro l m p
      induction p with
      | nil => intro h; cases h
      | cons r t ih =>
        intro h
        rcases List.mem_cons.mp h with z | z
        · exact ⟨_, List.mem_cons_self, by rw [z]; exact r⟩
        · obtain ⟨b, hb, hf⟩ := ih z
          exact ⟨b, List.mem_cons_of_mem _ hb, hf⟩
    obtain ⟨b, hb, hf⟩ := back t hy
    exact k _ b _ y r hf List.mem_cons_self (List.mem_cons_of_mem _ hy) (h.1 b hb)
def okS (ws : List (List Int)) : Bool := decide (ws.length < 64) && decide (1 ≤ (ws.headD [0]).length) && ws.all fun w => decide (w.length = (ws.headD [0]).length) && w.all fun i => decide (0 ≤ i ∧ i < 4)
def sortD : Da → Option Da
  | .lw ws => if okS ws then some (.lw (sortW ws)) else none
  | _ => none
section
variable {X : Cx} {a b c e o : Expr} {es : List Expr} {Γ : List Ent} {pos : Pos} {d d1 d2 : Da} {ds dd : List Da} {i j : Int} {P : Pst} {k n : Nat} {x y : Str} {f g : Mx} {m : Ms}
theorem el_sorted {p0 : Pos} {ws : List (List Int)} (hm : X.mg "sorted" = none) (ha : EV X e Γ (.lw ws)) (hw : okS ws = true) (hg : Gl X "sorted" := by rfl) (he : starEach [e] X.env = (false, eval e X.env) :: starEach [] X.env := by rfl) (hpl : (backTo pos (starEach [] X.env)).any (·.1) = false := by rfl) :
    EL X (.Call (.Name "sorted" p0) [e] [] pos) Γ (.lw (sortW ws)) := fun H0 Hs H σ S Q q => by
  unfold okS at hw
  rw [Bool.and_eq_true, Bool.and_eq_true, decide_eq_true_eq, decide_eq_true_eq, List.all_eq_true] at hw
  obtain ⟨⟨h64, h1⟩, hall⟩ := hw
  have hb : ∀ w ∈ ws, w.length = (ws.headD [0]).length ∧ TS.Bd 4 w := fun w hw => by
    have := hall w hw
    rw [Bool.and_eq_true, decide_eq_true_eq, List.all_eq_true] at this
    exact ⟨this.1, fun i hi => of_decide_eq_true (this.2 i hi)⟩
  refine wE_of (pe_callB (cr_sortT (d := (ws.headD [0]).length) (B := 4) h1) hg hm boot_sorted' (paW X [e]) (by decide) (by decide) he hpl) (ea_cons ha ea_nil he H0 Hs H σ S _ fun vs Hs2 H2 t r => ?_)
  obtain ⟨v, rfl, p, us, e1, e2, e3⟩ := p1 r
  subst e1
  have e3' : Paired (WdR X.K Hs2) us ws := e3
  refine ⟨p, us, rfl, sqL_ex t.sub e2, by rw [e3'.length]; exact h64, fun x hx => ?_, fun ys l hp hpw hl => ?_⟩
  · obtain ⟨w, hw⟩ := paired_mem (Paired.mapP e3' fun _ _ z => z) x hx
    have hmem : w ∈ ws ∨ True := .inr trivial
    have key : ∀ {us : List V} {ws' : List (List Int)}, Paired (WdR X.K Hs2) us ws' → x ∈ us → ∃ w ∈ ws', WdR X.K Hs2 x w := by
      intro us ws' p
      induction p with
      | nil => intro h; cases h
      | cons r t ih =>
        intro h
        rcases List.mem_cons.mp h with z | z
        · exact ⟨_, List.mem_cons_self, by rw [z]; exact r⟩
        · obtain ⟨w, hw, hf⟩ := ih z
          exact ⟨w, List.mem_cons_of_mem _ hw, hf⟩
    obtain ⟨w', hw', ⟨tt, et, ht⟩⟩ := key e3' hx
    exact ⟨w', ⟨tt, et, sqT_ex t.sub ht⟩, (hb w' hw').1, (hb w' hw').2⟩
  · obtain ⟨ws', pw, perm⟩ := paired_perm hp.symm e3'
    have srt : ws'.Pairwise (fun a b => leW a b = true) := paired_pw pw hpw fun a b x y f1 f2 m1 m2 hR => by
      obtain ⟨ta, ea, ha'⟩ := f1
      obtain ⟨tb, eb, hb'⟩ := f2
      have hx := hb x (perm.mem_iff.mpr m1)
      have hy := hb y (perm.mem_iff.mpr m2)
      exact code_leW (hx.1.trans hy.1.symm) hx.2 hy.2 (hR x y ⟨ta, ea, sqT_ex t.sub ha'⟩ ⟨tb, eb, sqT_ex t.sub hb'⟩)
    have eq : ws' = sortW ws := List.Perm.eq_of_pairwise (fun a b _ _ h1 h2 => leW_anti a b h1 h2) srt (sortW_pw ws) (perm.symm.trans (sortW_perm ws).symm)
    subst eq
    exact q l ys Hs2 _ (t.trans (stp_own t.sub hl)) (Same.free t.h hl) (sub_none t.sub hl) upd_same pw
theorem gn_sorted {p0 : Pos} (hm : X.mg "sorted" = none) (ha : GE X e f) (hg : Gl X "sorted" := by rfl) (he : starEach [e] X.env = (false, eval e X.env) :: starEach [] X.env := by rfl) (hpl : (backTo pos (starEach [] X.env)).any (·.1) = false := by rfl) :
    GN X (.Call (.Name "sorted" p0) [e] [] pos) (o1 sortD f) := ⟨fun Γ d e' => by
  obtain ⟨p, e1, e3⟩ := o1_ok e'
  unfold sortD at e3
  split at e3
  · split at e3
    · cases e3; exact el_sorted hm (ha.ok Γ _ e1) (by assumption) hg he hpl
    · cases e3
  · cases e3⟩
/-! ### sum of a word -/
theorem cr_sumT (hc : X.calm = true) : CallR X (.builtin "sum") (fun vs H Q => ∃ (a : Addr) (ns : List Int), vs = [V.ref a] ∧ SqT X.K H a (ns.map V.int) ∧ Q (.int ns.sum) H) := by
  intro pins s σ H vs us Q I r h
  obtain ⟨p, ns, e1, hs, q⟩ := h
  subst e1
  obtain ⟨its, rv, hT, _⟩ := I.tuple hs
  rw [Vals.ref1 r]
  have hlen : its.length = ns.length := by rw [← rv.length, List.length_map]
  have hlt : p < s.heap.objs.size := by obtain ⟨o, ho, _⟩ := hT; exact Heap.lt_size ho
  refine call_sum_walkG (wpAny_pyIter_tuple hT ?_)
  refine ⟨s.heap.objs.size, _, _, _, _, _, fun i => ns.getD i 0, rfl, Walks.tuple (A := X.A.in1) (I.ok.hd hc) s.heap.objs.size p (Nat.ne_of_lt hlt) its.toArray, ⟨⟨_, Heap.get?_push_size _ rfl, rfl, rfl⟩, ?_⟩, fun b hb => ?_, fun i v hv => ?_, fun h' tk t' hk => ?_⟩
  · obtain ⟨o, ho, hz⟩ := hT
    exact ⟨o, Heap.get?_push_of_some _ ho, hz⟩
  · show b < (s.heap.push _).objs.size
    rw [Heap.size_push]
    have hb' : b = s.heap.objs.size ∨ b = p := by simpa using hb
    rcases hb' with z | z
    · rw [z]; exact Nat.lt_succ_self _
    · rw [z]; exact Nat.lt_succ_of_lt hlt
  · have hv' : its[i]? = some v := by simpa using hv
    obtain ⟨x, hx, rx⟩ := pget2 (F := fun (x : V) (u : Value) => RelV x u) (show Paired (fun (x : V) (u : Value) => RelV x u) (ns.map V.int) its from rv) (i := i) (y := .int (ns.getD i 0)) (getD_map (by rw [← hlen]; exact (List.getElem?_eq_some_iff.mp hv').1))
    rw [hv'] at hx
    cases hx
    exact rx
  · have e : preSum (fun i => ns.getD i 0) its.toArray.size = ns.sum := by
      rw [preSum_getD, List.size_toArray, hlen, List.take_length]
    rw [e]
    refine ⟨.int _, H, I.kept fun b o z => hk b o (fun hb => ?_) (Heap.get?_push_of_some _ z), ⟨_, rfl⟩, q⟩
    have hb' : b = s.heap.objs.size := by simpa using hb
    exact absurd (Heap.lt_size z) (by rw [hb']; exact Nat.lt_irrefl _)
theorem ev_sumT {p0 : Pos} {ns : List Int} (hc : X.calm = true) (hm : X.mg "sum" = none) (ha : EV X e Γ (.wd ns)) (hg : Gl X "sum" := by rfl) (he : starEach [e] X.env = (false, eval e X.env) :: starEach [] X.env := by rfl) :
    EV X (.Call (.Name "sum" p0) [e] [] pos) Γ (.int ns.sum) :=
  ev_cb (id := "sum") (cr_sumT hc) hm boot_sum' (ea_cons ha ea_nil he) (fun vs Hs H Q sub r q => by
    obtain ⟨v, rfl, p, e1, e2⟩ := p1 r
    subst e1
    exact ⟨p, ns, rfl, sqT_ex sub e2, q _ Hs H (Stp.refl sub) rfl⟩) hg (he := he)
def sumD : Da → Option Da
  | .li ns => some (.int ns.sum)
  | .wd ns => some (.int ns.sum)
  | _ => none
theorem g_sum {p0 : Pos} (hc : X.calm = true) (hm : X.mg "sum" = none) (ha : GE X e f) (hg : Gl X "sum" := by rfl) (he : starEach [e] X.env = (false, eval e X.env) :: starEach [] X.env := by rfl) :
    GE X (.Call (.Name "sum" p0) [e] [] pos) (o1 sumD f) := ⟨fun Γ d e => by
  obtain ⟨p, e1, e3⟩ := o1_ok e
  unfold sumD at e3
  split at e3
  · cases e3; exact ev_sumL hc hm (ha.ok Γ _ e1) hg he
  · cases e3; exact ev_sumT hc hm (ha.ok Γ _ e1) hg he
  · cases e3⟩
/-! ### divmod, unpacking -/
def divmodD : Da → Da → Option Da
  | .int i, .int j => if 0 < j ∧ j < 1073741824 then some (.wd [i / j, i % j]) else none
  | _, _ => none
theorem g_divmod {p0 : Pos} (hm : X.mg "divmod" = none) (ha : GE X a f) (hb : GE X b g) (hg : Gl X "divmod" := by rfl) (he : starEach [a, b] X.env = (false, eval a X.env) :: starEach [b] X.env := by rfl)
    (he2 : starEach [b] X.env = (false, eval b X.env) :: starEach [] X.env := by rfl) (hpl : (backTo pos (starEach [b] X.env)).any (·.1) = false := by rfl) :
    GE X (.Call (.Name "divmod" p0) [a, b] [] pos) (o2 divmodD f g) := ⟨fun Γ d e => by
  obtain ⟨p, q, e1, e2, e3⟩ := o2_ok e
  have h1 := ha.ok Γ _ e1
  have h2 := hb.ok Γ _ e2
  unfold divmodD at e3
  split at e3
  · split at e3
    · rename_i hz
      cases e3
      exact ev_cb (id := "divmod") call_divmod hm boot_divmod' (ea_cons h1 (ea_cons h2 ea_nil he2) he) (fun vs Hs H Q sub r q => by
        obtain ⟨v, w, rfl, r1, r2⟩ := p2 r
        have e : v = .int _ := r1
        have e2 : w = .int _ := r2
        subst e e2
        exact ⟨_, _, rfl, hz, fun l hl => q _ _ _ (stp_new sub hl) ⟨l, rfl, upd_same⟩⟩) hg (he := he) (hpl := hpl)
    · cases e3
  · cases e3⟩
def pairM (i j : Nat) (f : Mx) : Ms := fun Γ => match f Γ with
  | some (.wd [a, b]) => some (.nx ((Γ.set i (.val (.int a))).set j (.val (.int b))))
  | some (.tw [a, b]) => some (.nx ((Γ.set i (.val (.wd a))).set j (.val (.wd b))))
  | _ => none
theorem gs_pair (i j : Nat) {p1 p2 p3 : Pos} {kk : Nat} (he : GE X e f) (hg : PG X (.Tuple [.Name x p1, .Name y p2] kk p3) (gPair X.K i j)) (hs : swapsWithSole [.Tuple [.Name x p1, .Name y p2] kk p3] e pos.line X.env = pure false := by rfl)
    (hw : swappedStores [.Tuple [.Name x p1, .Name y p2] kk p3] e X.env = pure none := by rfl) (h1 : (assignEach [.Tuple [.Name x p1, .Name y p2] kk p3] X.env).map (·.2) = [assign (.Tuple [.Name x p1, .Name y p2] kk p3) X.env] := by rfl) :
    GS X (.Assign [.Tuple [.Name x p1, .Name y p2] kk p3] e pos) (pairM i j f) := ⟨fun Γ r e' P q => by
  unfold pairM at e'
  split at e'
  · cases e'
    rename_i u v hf
    exact fun Hs0 H0 Hs H σ t S => wS_of (ps_asg (peW X e) hg hs hw h1) (he.ok Γ _ hf H0 Hs H σ S _ fun z Hs2 H2 t2 ⟨T, ez, hT⟩ => by
      subst ez
      exact pair_store (sqT_ex t2.sub hT) ⟨Hs2, _, t.trans t2, ((S.step t2).set i (d := .int u) rfl).set j (d := .int v) rfl, q⟩)
  · cases e'
    rename_i u v hf
    exact fun Hs0 H0 Hs H σ t S => wS_of (ps_asg (peW X e) hg hs hw h1) (he.ok Γ _ hf H0 Hs H σ S _ fun z Hs2 H2 t2 ⟨T, vs, ez, hT, pr⟩ => by
      subst ez
      cases pr with
      | cons r1 pr =>
        cases pr with
        | cons r2 pr =>
          cases pr
          exact pair_store (sqT_ex t2.sub hT) ⟨Hs2, _, t.trans t2, ((S.step t2).set i (d := .wd u) r1).set j (d := .wd v) r2, q⟩)
  · cases e'⟩
/-! ### turned lists -/
def revL : Da → Option Da
  | .li w => some (.li w.reverse)
  | .ll w => some (.ll w.reverse)
  | _ => none
theorem gn_rev {k2 : Nat} {p1 p2 p3 : Pos} (ha : GE X e f) : GN X (.Subscript e (.Slice none none (some (.UnaryOp .USub (.Constant (.int 1) k2 p1) p2)) p3) pos) (o1 revL f) := ⟨fun Γ d e' => by
  obtain ⟨p, e1, e3⟩ := o1_ok e'
  have h1 := ha.ok Γ _ e1
  unfold revL at e3
  split at e3
  · cases e3
    exact fun H0 Hs H σ S Q q => wE_of (pe_revL (peW X e)) (h1 H0 Hs H σ S _ fun v Hs2 H2 t ⟨l, us, ev, hl, hr⟩ => ⟨l, us, ev, sqL_ex t.sub hl, fun r hr' => q r _ Hs2 _ (t.trans (stp_own t.sub hr')) (Same.free t.h hr') (sub_none t.sub hr') upd_same (by
      have hr2 : us = _ := hr
      show us.reverse = _
      rw [hr2, List.map_reverse])⟩)
  · cases e3
    exact fun H0 Hs H σ S Q q => wE_of (pe_revL (peW X e)) (h1 H0 Hs H σ S _ fun v Hs2 H2 t ⟨l, us, ev, hl, hr⟩ => ⟨l, us, ev, sqL_ex t.sub hl, fun r hr' => q r _ Hs2 _ (t.trans (stp_own t.sub hr')) (Same.free t.h hr') (sub_none t.sub hr') upd_same (prev (show Paired (LiR X.K Hs2) us _ from hr))⟩)
  · cases e3⟩
end
end K54

set_option Elab.async false
set_option linter.all false
set_option maxRecDepth 100000
set_option maxHeartbeats 4000000
/-! G3: sources of either kind. -/
namespace K54
open PySem PySem.Spec PyProof.Rows L2
def iAny (K : PySem.W.Frag) (t : TE) : TI := fun σ H R => iList K t σ H R ∨ iTup K t σ H R
def iEnA (K : PySem.W.Frag) (t : TA) : TI := fun σ H R => iEnum K t σ H R ∨ iEnumT K t σ H R
section
variable {X : Cx} {a b c e o tg : Expr} {Γ : List Ent} {f g : Mx}
theorem pi_any {t : TE} (h : PE X e t) : PI X tg e (iAny X.K t) := ⟨fun pins s σ H R I q => q.elim ((pi_list h).run pins s σ H R I) ((pi_tup h).run pins s σ H R I)⟩
theorem pi_enA {ta : TA} {p pos tpos : Pos} {elts : List Expr} {kk : Nat} (hg : Gl X "enumerate") (hm : X.mg "enumerate" = none) (ha : PA X [e] ta) (hs : starEach [e] X.env = [(false, eval e X.env)] := by rfl) :
    PI X (.Tuple elts kk tpos) (.Call (.Name "enumerate" p) [e] [] pos) (iEnA X.K ta) := ⟨fun pins s σ H R I q => q.elim ((pi_enum hg hm ha hs).run pins s σ H R I) ((pi_enumT hg hm ha hs).run pins s σ H R I)⟩
def srcA (j : Nat) (f : Mx) : Msrc := fun Γ => match f Γ with
  | some (.wd w) => some (w.length, fun i Γ' => Γ'.set j (.val (.int (w.getD i 0))))
  | some (.tw ws) => some (ws.length, fun i Γ' => Γ'.set j (.val (.wd (ws.getD i []))))
  | some d => if isLst d then some (dlen d, fun i Γ' => Γ'.set j (.val (itd d i))) else none
  | none => none
theorem gsrc_any (j : Nat) (h : GE X e f) : GSrc X (iAny X.K (wE X e)) (gName j) [j] (srcA j f) := ⟨fun Γ n y e' => by
  unfold srcA at e'
  split at e'
  · cases e'
    rename_i w hw
    exact fun H0 Hs H σ S R r => .inr (src_wd j (h.ok Γ _ hw) H0 Hs H σ S R r)
  · cases e'
    rename_i w hw
    exact fun H0 Hs H σ S R r => .inr (src_tw j (h.ok Γ _ hw) H0 Hs H σ S R r)
  · split at e'
    · cases e'
      rename_i d _ _ hd hl
      exact fun H0 Hs H σ S R r => .inl (src_list j hl (h.ok Γ _ hd) H0 Hs H σ S R r)
    · cases e'
  · cases e'⟩
def srcE (m n : Nat) (f : Mx) : Msrc := fun Γ => match f Γ with
  | some (.wd w) => some (w.length, fun i Γ' => (Γ'.set m (.val (.int (i : Int)))).set n (.val (.int (w.getD i 0))))
  | some d => if isLst d then some (dlen d, fun i Γ' => (Γ'.set m (.val (.int (i : Int)))).set n (.val (itd d i))) else none
  | none => none
theorem gsrc_en (m n : Nat) (h : GA X [e] (consA f (fun _ => some []))) : GSrc X (iEnA X.K (wA X [e])) (gPair X.K m n) [m, n] (srcE m n f) := ⟨fun Γ k y e' => by
  unfold srcE at e'
  split at e'
  · cases e'
    rename_i w hw
    exact fun H0 Hs H σ S R r => .inr (src_enumT m n (h.ok Γ [.wd w] (by unfold consA; rw [hw])) H0 Hs H σ S R r)
  · split at e'
    · cases e'
      rename_i d _ hd hl
      exact fun H0 Hs H σ S R r => .inl (src_enumL m n hl (h.ok Γ [d] (by unfold consA; rw [hd])) H0 Hs H σ S R r)
    · cases e'
  · cases e'⟩
/-- isinstance(e, U), of what the model knows -/
def isiD (U : String) : Da → Option Da := fun d => match tyOf d with
  | some T => (kitB T U).map .bl
  | none => none
theorem g_isi {p0 p1 pos : Pos} {U : String} {u : Str} (hm : X.mg "isinstance" = none) (hu : X.mg u = none) (hv : bootBuiltins u = some (.type U)) (ha : GE X a f)
    (hg : Gl X "isinstance" := by rfl) (hgu : Gl X u := by rfl) (hn : u ≠ "__name__" := by decide) (hdb : (u == ("__debug__" : Str)) = false := by decide)
    (he : starEach [a, .Name u p1] X.env = (false, eval a X.env) :: starEach [.Name u p1] X.env := by rfl) (he2 : starEach [.Name u p1] X.env = (false, eval (.Name u p1) X.env) :: starEach [] X.env := by rfl)
    (hpl : (backTo pos (starEach [.Name u p1] X.env)).any (·.1) = false := by rfl) : GE X (.Call (.Name "isinstance" p0) [a, .Name u p1] [] pos) (o1 (isiD U) f) := ⟨fun Γ d e' => by
  obtain ⟨p, e1, e3⟩ := o1_ok e'
  unfold isiD at e3
  split at e3
  · obtain ⟨r, h1, h2⟩ := Option.map_eq_some_iff.mp e3
    subst h2
    exact ev_isi hm hu hv (ha.ok Γ _ e1) (by assumption) h1 hg hgu hn hdb he he2 hpl
  · cases e3⟩
def isSeqW : Da → Option Da
  | .wd _ => some (.bl true)
  | .li _ => some (.bl true)
  | _ => none
theorem kitLT1 (K : PySem.W.Frag) : PySem.W.kitAny K (.type "tuple") [.type "list", .type "tuple"] = some true := by rfl
theorem kitLT2 (K : PySem.W.Frag) : PySem.W.kitAny K (.type "list") [.type "list", .type "tuple"] = some true := by rfl
theorem g_isLT {p0 p1 p2 p3 pos : Pos} {kk : Nat} (hm : X.mg "isinstance" = none) (hu : X.mg "list" = none) (hu' : X.mg "tuple" = none) (ha : GE X a f)
    (hg : Gl X "isinstance" := by rfl) (hgu : Gl X "list" := by rfl) (hgu' : Gl X "tuple" := by rfl)
    (he : starEach [a, .Tuple [.Name "list" p1, .Name "tuple" p2] kk p3] X.env = (false, eval a X.env) :: starEach [.Tuple [.Name "list" p1, .Name "tuple" p2] kk p3] X.env := by rfl)
    (he2 : starEach [.Tuple [.Name "list" p1, .Name "tuple" p2] kk p3] X.env = (false, eval (.Tuple [.Name "list" p1, .Name "tuple" p2] kk p3) X.env) :: starEach [] X.env := by rfl)
    (he3 : starEach [.Name "list" p1, .Name "tuple" p2] X.env = (false, eval (.Name "list" p1) X.env) :: starEach [.Name "tuple" p2] X.env := by rfl) (he4 : starEach [.Name "tuple" p2] X.env = (false, eval (.Name "tuple" p2) X.env) :: starEach [] X.env := by rfl)
    (hpl : (backTo pos (starEach [.Tuple [.Name "list" p1, .Name "tuple" p2] kk p3] X.env)).any (·.1) = false := by rfl) : GE X (.Call (.Name "isinstance" p0) [a, .Tuple [.Name "list" p1, .Name "tuple" p2] kk p3] [] pos) (o1 isSeqW f) := ⟨fun Γ d e' => by
  obtain ⟨p, e1, e3⟩ := o1_ok e'
  unfold isSeqW at e3
  split at e3
  · cases e3; exact ev_isi2 hm hu boot_list' hu' boot_tuple' (ha.ok Γ _ e1) rfl kitLT1 hg hgu hgu' (by decide) (by decide) (by decide) (by decide) he he2 he3 he4 hpl
  · cases e3; exact ev_isi2 hm hu boot_list' hu' boot_tuple' (ha.ok Γ _ e1) rfl kitLT2 hg hgu hgu' (by decide) (by decide) (by decide) (by decide) he he2 he3 he4 hpl
  · cases e3⟩
theorem blk_ok {N : List Str} {sc scope : Scope} {own : List (Str × Nat)} (h0 : scope.kind = .function) (h1 : (scope.names.all fun y => decide (scope.names.lookup y.1 = some y.2)) = true) (h2 : (own.all fun p => decide (N[p.2]? = some p.1)) = true)
    (h3 : (scope.names.all fun y => !decide (y.2 = .free) || (decide (sc.names.lookup y.1 = some .cell) || decide (sc.names.lookup y.1 = some .free))) = true)
    (h4 : (scope.names.all fun y => !(decide (y.2 = .local) || decide (y.2 = .cell)) || ((own.map (·.1)).contains y.1 || !N.contains y.1)) = true) : BlkOk N sc scope own := by
  rw [List.all_eq_true] at h1 h2 h3 h4
  refine ⟨h0, fun y hy => of_decide_eq_true (h1 y hy), fun p hp => of_decide_eq_true (h2 p hp), fun y hy hf => ?_, fun y hy hf => ?_⟩
  · have := h3 y hy
    simp only [hf, decide_true, Bool.not_true, Bool.false_or, Bool.or_eq_true, decide_eq_true_eq] at this
    exact this
  · have := h4 y hy
    have e : (decide (y.2 = .local) || decide (y.2 = .cell)) = true := by simpa using hf
    rw [e, Bool.not_true, Bool.false_or, Bool.or_eq_true] at this
    rcases this with z | z
    · exact .inl (by simpa using z)
    · exact .inr (by simpa using z)
theorem boot_bool' : bootBuiltins "bool" = some (.type "bool") := by decide +kernel
theorem never {X : Cx} : Never X.nox := PassesOwn.never
end
end K54

set_option Elab.async false
set_option linter.all false
set_option maxRecDepth 100000
set_option maxHeartbeats 4000000
/-! J8: turned words, fields, joined lists, comprehensions given a name. -/
namespace HT
open PySem PySem.Spec PyProof.Rows
section
variable {prog : Program} {w : World} {A : Around} {E : Value → Shared → Prop} {s : Shared}
theorem sliceApplied_turn54 {sl : Addr} {u : Tok} {n : Nat} {Q : Int × Int × Nat → Shared → Prop} (hs : s.heap.IsSliceOf sl .none .none (.int (-1) u)) (h : Q ((n : Int) - 1, -1, n) s) :
    wpAny (model prog w) A (Builtin.Slice.sliceApplied (.ref sl) (pure (n : Int))) Q E s := by
  obtain ⟨os, hos, hcs, hds⟩ := id hs
  unfold Builtin.Slice.sliceApplied Builtin.Slice.sliceFields
  refine wpAny_bind (wpAny_bind (wpAny_field hos hds (x := .none) rfl (wpAny_bind (wpAny_field hos hds (x := .none) rfl (wpAny_bind (wpAny_field hos hds (x := .int (-1) u) rfl (wpAny_pure ?_)))))))
  refine wpAny_bind (slicePart_ (.int (-1) u) ?_)
  show wpAny _ _ (if ((-1 : Int) == 0) = true then _ else _) _ _ s
  rw [if_neg (by decide)]
  refine wpAny_bind (slicePart_ .none (wpAny_bind (slicePart_ .none (wpAny_bind (wpAny_pure ?_)))))
  have e1 : Builtin.Slice.sliceAdjust none none (-1) (n : Int) = ((n : Int) - 1, -1) := by
    unfold Builtin.Slice.sliceAdjust
    rfl
  have e2 : Builtin.Slice.slicePlaces ((n : Int) - 1) (-1) (-1) = n := by
    unfold Builtin.Slice.slicePlaces
    rw [if_neg (by decide)]
    by_cases z : (n : Int) - 1 > -1
    · rw [if_pos z, show (- -1 : Int) = 1 by decide, Int.ediv_one]
      omega
    · rw [if_neg z]
      omega
  show wpAny _ _ (match Builtin.Slice.sliceAdjust none none (-1) (n : Int) with | (lo, hi) => pure (lo, (-1 : Int), Builtin.Slice.slicePlaces lo hi (-1))) _ _ s
  rw [e1]
  show wpAny _ _ (pure ((n : Int) - 1, (-1 : Int), Builtin.Slice.slicePlaces ((n : Int) - 1) (-1) (-1))) _ _ s
  rw [e2]
  exact wpAny_pure h
theorem pick_turn54 (xs : Array Value) : ((List.range xs.size).filterMap fun (m : Nat) => xs[((xs.size : Int) - 1 + (m : Int) * (-1)).toNat]?).toArray = xs.toList.reverse.toArray := by
  have h := PySem.W.krv_pick xs
  unfold slicePick at h
  rw [PySem.W.krv_bounds] at h
  have h' : ((sliceRange ((xs.size : Int) - 1) (-1) (-1)).filterMap (xs[·]?)).toArray = xs.toList.reverse.toArray := h
  rw [PySem.W.krv_sliceRange, List.filterMap_map] at h'
  rw [← h']
  have ef : (fun (m : Nat) => xs[((xs.size : Int) - 1 + (m : Int) * (-1)).toNat]?) = ((xs[·]?) ∘ fun k => xs.size - 1 - k) := by
    funext m
    show xs[((xs.size : Int) - 1 + (m : Int) * (-1)).toNat]? = xs[xs.size - 1 - m]?
    rw [show ((xs.size : Int) - 1 + (m : Int) * (-1)).toNat = xs.size - 1 - m by omega]
  rw [ef]
theorem getItem_tuple_turn54 {t sl : Addr} {items : Array Value} {u : Tok} {Q : Value → Shared → Prop} (ht : IsTup s.heap t items) (hs : s.heap.IsSliceOf sl .none .none (.int (-1) u))
    (h : Q (.ref s.heap.objs.size) { s with heap := s.heap.push { cls := .type "tuple", data := .seq items.toList.reverse.toArray } }) (hsz : items.size ≤ sizeLine) : wpAny (model prog w) A (getItem (.ref t) (.ref sl)) Q E s := by
  have htake : sizeOk (.seq items.toList.reverse.toArray) := by
    show items.toList.reverse.toArray.size ≤ sizeLine
    rw [List.size_toArray, List.length_reverse, Array.length_toList]
    exact hsz
  obtain ⟨os, hos, hcs, hds⟩ := id hs
  have hTs : s.TypeIs (.ref sl) "slice" := ⟨os, hos, hcs⟩
  unfold getItem
  try with_reducible refine wpAny_holding ?_
  first | refine wpAny_bind (wpAny_pure ?_) | skip
  refine wpAny_bind (wpAny_sequenceKey ht.typeIs (by decide) ?_)
  refine wpAny_bind (wpAny_callSpecial?_slot (name := Str.ofString "__getitem__") ht.typeIs PyProof.Rows.slot_tuple_getitem
    (wpAny_call_entry PyProof.Rows.slot_tuple_getitem ht.typeIs entry_tuple_getitem ?_ (args_tuple_getitem _ _)))
  show wpAny _ _ (Builtin.Tuple.tupleItemsOf (.ref t) >>= _) _ _ s
  refine wpAny_bind (tupleItemsOf_ ht ?_)
  refine wpAny_bind (wpAny_typeOf hTs ?_)
  rw [if_pos (by decide)]
  refine wpAny_bind (sliceApplied_turn54 hs ?_)
  have hno : ¬ ((((items.size : Int) - 1 == 0) && ((-1 : Int) == 1) && (items.size == items.size)) = true) := by
    intro q
    rw [Bool.and_eq_true, Bool.and_eq_true] at q
    exact absurd q.1.2 (by decide)
  show wpAny _ _ (if (((items.size : Int) - 1 == 0) && ((-1 : Int) == 1) && (items.size == items.size)) = true then _ else _) _ _ s
  rw [if_neg hno, pick_turn54]
  first
    | exact wpAny_bind (m := Builtin.Tuple.tupleExact _) (wpAny_newObj_type (wpAny_pure ⟨_, rfl, wpAny_pure h⟩) htake)
    | exact wpAny_bind (m := Builtin.Tuple.tupleExact _) (wpAny_newObj_type (wpAny_bind (wpAny_pure (wpAny_pure ⟨_, rfl, wpAny_pure h⟩))) htake)
    | exact wpAny_bind (wpAny_bind (m := Builtin.Tuple.tupleExact _) (wpAny_newObj_type (wpAny_pure (wpAny_pure ⟨_, rfl, wpAny_pure h⟩)) htake))
    | exact wpAny_bind (wpAny_bind (m := Builtin.Tuple.tupleExact _) (wpAny_newObj_type (wpAny_pure ⟨_, rfl, wpAny_pure h⟩) htake))
end
end HT
namespace K54
open PySem PySem.Spec PyProof.Rows L2
def tRevT (K : PySem.W.Frag) (te : TE) : TE := fun σ H Q => te σ H fun x H1 => ∃ a xs, x = .ref a ∧ SqT K H1 a xs ∧ ∀ p, H1 p = none → Q (.ref p) (upd H1 p (.tup xs.reverse))
section
variable {X : Cx} {a b c e o : Expr} {es : List Expr} {Γ : List Ent} {pos : Pos} {d d1 d2 : Da} {ds dd : List Da} {i j : Int} {P : Pst} {k n : Nat} {x y : Str} {f g : Mx} {m : Ms}
theorem pe_revT {te : TE} {k : Nat} {p1 p2 p3 pos : Pos} (he : PE X e te) : PE X (.Subscript e (.Slice none none (some (.UnaryOp .USub (.Constant (.int 1) k p1) p2)) p3) pos) (tRevT X.K te) := by
  refine ⟨fun pins s σ H Q I h => Subscript_ (thn (he.run pins s σ H _ I h) fun v s1 ⟨x, H1, I1, r1, q1⟩ => ?_)⟩
  obtain ⟨a, xs, ex, hx, q⟩ := q1
  subst ex
  cases r1
  have hst : PO X (some (.UnaryOp .USub (.Constant (.int 1) k p1) p2)) (tPart (tUn (rU fun i => .int (-i)) (tC (.int 1)))) := po_some (pe_un un_neg pe_int)
  refine wpAny_Slice (thn (po_none.run pins s1 σ H1 (fun o H2 => o = none ∧ H2 = H1) I1 ⟨rfl, rfl⟩) fun vl s2 ⟨l, H2, I2, pl, e2⟩ => ?_)
  obtain ⟨el, eh⟩ := e2
  subst el eh
  refine thn (po_none.run pins s2 σ H2 (fun o H3 => o = none ∧ H3 = H2) I2 ⟨rfl, rfl⟩) fun vu s3 ⟨u, H3, I3, pu, e3⟩ => ?_
  obtain ⟨eu, eh⟩ := e3
  subst eu eh
  refine thn (hst.run pins s3 σ H3 (fun o H4 => o = some (-1) ∧ H4 = H3) I3 ⟨1, rfl, -1, rfl, rfl, rfl⟩) fun vs s4 ⟨o, H4, I4, ps, e4⟩ => ?_
  obtain ⟨eo, eh⟩ := e4
  subst eo eh
  have I5 : Inv X pins σ H4 { s4 with heap := s4.heap.push { cls := .type "slice", data := .fields #[vl, vu, vs] } } := I4.kept (t' := s4.toks) fun b ob q => Heap.get?_push_of_some _ q
  obtain ⟨its, r, ht, hz⟩ := I5.tuple hx
  have hlen := r.length
  cases pl
  cases pu
  cases ps with
  | int _ t =>
  show wpAny (model X.prog X.w) X.A (subscriptTail e (.Slice none none (some (.UnaryOp .USub (.Constant (.int 1) k p1) p2)) p3) (.ref a) (.ref s4.heap.objs.size)) (EP X pins σ Q) X.xe { s4 with heap := s4.heap.push { cls := .type "slice", data := .fields #[.none, .none, .int (-1) t] } }
  refine tail_any (ops := [.ref a, .ref s4.heap.objs.size]) ht.typeIs (PyProof.Rows.slot_tuple_getitem.lookup) ?_ (by with_unfolding_all rfl)
  refine HT.getItem_tuple_turn54 ht (Heap.IsSliceOf.new _ .none .none (.int (-1) t)) ?_ (by rw [List.size_toArray]; omega)
  refine ⟨.ref _, _, I5.laid (t' := s4.toks) (o := .tup xs.reverse) (fun b ob q => Heap.get?_push_of_some _ q) (Nat.le_refl _) ?_, rfl, q _ (I5.hok.fresh (Nat.le_refl _))⟩
  exact ⟨by rw [List.length_reverse]; exact hz, _, r.reverse, IsTup.new _ _⟩
def revTD : Da → Option Da
  | .wd w => some (.wd w.reverse)
  | _ => none
theorem g_revT {k2 : Nat} {p1 p2 p3 : Pos} (ha : GE X e f) : GE X (.Subscript e (.Slice none none (some (.UnaryOp .USub (.Constant (.int 1) k2 p1) p2)) p3) pos) (o1 revTD f) := ⟨fun Γ d e' => by
  obtain ⟨p, e1, e3⟩ := o1_ok e'
  have h1 := ha.ok Γ _ e1
  unfold revTD at e3
  split at e3
  · cases e3
    exact fun H0 Hs H σ S Q q => wE_of (pe_revT (peW X e)) (h1 H0 Hs H σ S _ fun v Hs2 H2 t ⟨l, ev, hl⟩ => ⟨l, _, ev, sqT_ex t.sub hl, fun r hr => q _ _ _ (t.trans (stp_new t.sub hr)) ⟨r, rfl, by rw [upd_same, List.map_reverse]⟩⟩)
  · cases e3⟩
theorem g_m1 {j : Nat} {p p2 : Pos} : GE X (.UnaryOp .USub (.Constant (.int 1) j p) p2) (fun _ => some (.int (-1))) := ⟨fun Γ d e' => by cases e'; exact ev_neg ev_int⟩
/-! ### fields -/
variable {K : PySem.W.Frag} {mg : Str → Option Value}
def fLenD : Da → Option Da
  | .sb n _ _ => some (.int n)
  | .wb _ ws _ _ => some (.int ws.length)
  | _ => none
def fModD : Da → Option Da
  | .sb _ m _ => some (.int m)
  | .wb _ _ m _ => some (.int m)
  | _ => none
def fRestD : Da → Option Da
  | .sb _ _ r => some (.int r)
  | .wb _ _ _ r => some (.int r)
  | _ => none
def fLetD : Da → Option Da
  | .wb q _ _ _ => some (.int q)
  | _ => none
def fWeiD : Da → Option Da
  | .wb _ ws _ _ => some (.wd ws)
  | _ => none
theorem g_fLen {p : Pos} (T : Tx X.K mg) (ha : GE X a f) (hb : attributeBase a "length" X.env (eval a X.env) = eval a X.env := by rfl) : GE X (.Attribute a "length" p) (o1 fLenD f) := ⟨fun Γ d e' => by
  obtain ⟨p, e1, e3⟩ := o1_ok e'
  have h1 := ha.ok Γ _ e1
  unfold fLenD at e3
  split at e3
  · cases e3; exact ev_sbF T.c_SumBook T.n_SumBook_length sb_len h1 hb
  · cases e3; exact ev_wbF T.c_WeightBook T.n_WeightBook_length (fun t => wb_len) h1 hb
  · cases e3⟩
theorem g_fMod {p : Pos} (T : Tx X.K mg) (ha : GE X a f) (hb : attributeBase a "modulus" X.env (eval a X.env) = eval a X.env := by rfl) : GE X (.Attribute a "modulus" p) (o1 fModD f) := ⟨fun Γ d e' => by
  obtain ⟨p, e1, e3⟩ := o1_ok e'
  have h1 := ha.ok Γ _ e1
  unfold fModD at e3
  split at e3
  · cases e3; exact ev_sbF T.c_SumBook T.n_SumBook_modulus sb_mod h1 hb
  · cases e3; exact ev_wbF T.c_WeightBook T.n_WeightBook_modulus (fun t => wb_mod) h1 hb
  · cases e3⟩
theorem g_fRest {p : Pos} (T : Tx X.K mg) (ha : GE X a f) (hb : attributeBase a "rest" X.env (eval a X.env) = eval a X.env := by rfl) : GE X (.Attribute a "rest" p) (o1 fRestD f) := ⟨fun Γ d e' => by
  obtain ⟨p, e1, e3⟩ := o1_ok e'
  have h1 := ha.ok Γ _ e1
  unfold fRestD at e3
  split at e3
  · cases e3; exact ev_sbF T.c_SumBook T.n_SumBook_rest sb_rest h1 hb
  · cases e3; exact ev_wbF T.c_WeightBook T.n_WeightBook_rest (fun t => wb_rest) h1 hb
  · cases e3⟩
theorem g_fLet {p : Pos} (T : Tx X.K mg) (ha : GE X a f) (hb : attributeBase a "letters" X.env (eval a X.env) = eval a X.env := by rfl) : GE X (.Attribute a "letters" p) (o1 fLetD f) := ⟨fun Γ d e' => by
  obtain ⟨p, e1, e3⟩ := o1_ok e'
  have h1 := ha.ok Γ _ e1
  unfold fLetD at e3
  split at e3
  · cases e3; exact ev_wbF T.c_WeightBook T.n_WeightBook_letters (fun t => wb_let) h1 hb
  · cases e3⟩
theorem g_fWei {p : Pos} (T : Tx X.K mg) (ha : GE X a f) (hb : attributeBase a "weights" X.env (eval a X.env) = eval a X.env := by rfl) : GE X (.Attribute a "weights" p) (o1 fWeiD f) := ⟨fun Γ d e' => by
  obtain ⟨p, e1, e3⟩ := o1_ok e'
  have h1 := ha.ok Γ _ e1
  unfold fWeiD at e3
  split at e3
  · cases e3; exact ev_wbW T.c_WeightBook T.n_WeightBook_weights h1 hb
  · cases e3⟩
end
end K54

set_option Elab.async false
set_option linter.all false
set_option maxRecDepth 100000
set_option maxHeartbeats 4000000
/-! J9: comprehensions given a name, of two clauses; lists joined. -/
namespace K54
open PySem PySem.Spec PyProof.Rows L2
section
variable {X : Cx} {a b c e o : Expr} {es : List Expr} {Γ : List Ent} {pos spos py : Pos} {d d1 d2 : Da} {ds dd : List Da} {i j : Int} {P : Pst} {k n : Nat} {x y : Str} {f g : Mx} {m : Ms} {t : Mt}
abbrev BB (X : Cx) (scope : Scope) (p : Cx → Prop) : Prop := ∀ (s : Shared) (H : Hp) (C : Addr) (cl : List (Str × Addr)) (fp : List Addr), p (bX X scope s H C cl fp)
/-- the transformer of a comprehension holds -/
theorem lcM_t0 {elt : Expr} {scope : Scope} {vs : List Nat} {wi : TI} {gg : TG} {s : Msrc} {d0 : Da} (S0 : GSrc X wi gg vs s) (he : BB X scope fun X' => GE X' elt f) (hA : ∀ K Hs, LstR K Hs [] d0) (h0 : dlen d0 = 0) (e' : lcM d0 s vs yesM f Γ = some d)
    {H0 Hs H : Hp} {σ : L2.St} (S : St2 X.K H0 Hs H σ Γ) {Q : VK} (q : ∀ p us Hs2 H2, Stp Hs H Hs2 H2 → H p = none → Hs2 p = none → H2 p = some (.lst us) → LstR X.K Hs2 us d → Q (.ref p) H2) :
    tLc wi gg tYes (wEb X scope elt) vs σ H Q := by
  unfold lcM at e'
  split at e'
  · split at e'
    · rename_i k y hk hz
      have ex : ∀ i, i ≤ k → lcTo d0 y yesM f (wipeΓ Γ vs) i = some ((lcTo d0 y yesM f (wipeΓ Γ vs) i).getD .non) := fun i hi => by
        obtain ⟨a, ha⟩ := lcTo_le e' hi
        rw [ha]; rfl
      have hd : d = (lcTo d0 y yesM f (wipeΓ Γ vs) k).getD .non := by rw [e']; rfl
      subst hd
      refine tLc_ok (S0.ok Γ k y hk) (fun i => (lcTo d0 y yesM f (wipeΓ Γ vs) i).getD .non) (fun Hs => hA _ Hs) hz (fun i hi => ?_) (fun i hi => lcTo_len h0 (ex i hi)) S q
      have h1 := ex (i + 1) hi
      have h2 := ex i (by omega)
      generalize (lcTo d0 y yesM f (wipeΓ Γ vs) i).getD .non = A0 at h2 ⊢
      generalize (lcTo d0 y yesM f (wipeΓ Γ vs) (i + 1)).getD .non = A1 at h1 ⊢
      unfold lcTo at h1
      rw [h2] at h1
      simp only [yesM] at h1
      split at h1
      · rename_i d' hd'
        exact ⟨true, fun H0 Hs H σ S Q q => q Hs H (Stp.refl S.sub), fun _ => ⟨d', fun H0 Hs H σ S Q q s Hb C cl fp => (he s Hb C cl fp).ok _ _ hd' H0 Hs H σ S Q q, h1⟩, fun z => by cases z⟩
      · cases h1
    · cases e'
  · cases e'
theorem lcM_t1 {elt cond : Expr} {scope : Scope} {vs : List Nat} {wi : TI} {gg : TG} {s : Msrc} {d0 : Da} (S0 : GSrc X wi gg vs s) (ht : BB X scope fun X' => GT X' cond t) (he : BB X scope fun X' => GE X' elt f) (hA : ∀ K Hs, LstR K Hs [] d0) (h0 : dlen d0 = 0) (e' : lcM d0 s vs t f Γ = some d)
    {H0 Hs H : Hp} {σ : L2.St} (S : St2 X.K H0 Hs H σ Γ) {Q : VK} (q : ∀ p us Hs2 H2, Stp Hs H Hs2 H2 → H p = none → Hs2 p = none → H2 p = some (.lst us) → LstR X.K Hs2 us d → Q (.ref p) H2) :
    tLc wi gg (wTb X scope cond) (wEb X scope elt) vs σ H Q := by
  unfold lcM at e'
  split at e'
  · split at e'
    · rename_i k y hk hz
      have ex : ∀ i, i ≤ k → lcTo d0 y t f (wipeΓ Γ vs) i = some ((lcTo d0 y t f (wipeΓ Γ vs) i).getD .non) := fun i hi => by
        obtain ⟨a, ha⟩ := lcTo_le e' hi
        rw [ha]; rfl
      have hd : d = (lcTo d0 y t f (wipeΓ Γ vs) k).getD .non := by rw [e']; rfl
      subst hd
      refine tLc_ok (S0.ok Γ k y hk) (fun i => (lcTo d0 y t f (wipeΓ Γ vs) i).getD .non) (fun Hs => hA _ Hs) hz (fun i hi => ?_) (fun i hi => lcTo_len h0 (ex i hi)) S q
      have h1 := ex (i + 1) hi
      have h2 := ex i (by omega)
      generalize (lcTo d0 y t f (wipeΓ Γ vs) i).getD .non = A0 at h2 ⊢
      generalize (lcTo d0 y t f (wipeΓ Γ vs) (i + 1)).getD .non = A1 at h1 ⊢
      unfold lcTo at h1
      rw [h2] at h1
      simp only [] at h1
      split at h1
      · rename_i ht'
        split at h1
        · rename_i d' hd'
          exact ⟨true, fun H0 Hs H σ S Q q s Hb C cl fp => (ht s Hb C cl fp).ok _ _ ht' H0 Hs H σ S Q q, fun _ => ⟨d', fun H0 Hs H σ S Q q s Hb C cl fp => (he s Hb C cl fp).ok _ _ hd' H0 Hs H σ S Q q, h1⟩, fun z => by cases z⟩
        · cases h1
      · rename_i ht'
        cases h1
        exact ⟨false, fun H0 Hs H σ S Q q s Hb C cl fp => (ht s Hb C cl fp).ok _ _ ht' H0 Hs H σ S Q q, (fun z => by cases z), fun _ => rfl⟩
      · cases h1
    · cases e'
  · cases e'
/-- a new list stands for good -/
theorem froz {Hs H Hs2 H2 : Hp} {p : Addr} {us : List V} (t : Stp Hs H Hs2 H2) (hp : H p = none) (hs : Hs2 p = none) (h2 : H2 p = some (.lst us)) : Stp Hs H (upd Hs2 p (.lst us)) H2 := by
  refine ⟨t.s.trans (Same.upd_new hs), t.h, fun b x hb => ?_, fun b o hb hz hn => ?_⟩
  · by_cases z : b = p
    · subst z; rw [upd_same] at hb; cases hb; exact h2
    · rw [upd_ne z] at hb; exact t.sub b x hb
  · rw [upd_ne (ne_of_none hb hp)]
    exact t.own b o hb hz hn
/-- name = [elt for tg in iter], on one line -/
theorem gs_setLc0 (i : Nat) {tg iter elt : Expr} {scope : Scope} {own : List (Str × Nat)} {wi : TI} {gg : TG} {s : Msrc} (d0 : Da) (hc : X.calm = true) (hN : X.N.Nodup) (hy : X.N[i]? = some y) (hyl : X.env.scope.names.lookup y = some .local)
    (hsw : swapsWith (.ListComp elt [⟨tg, iter, [], 0⟩] scope pos) (some (.Name y py)) spos.line X.env = pure true) (hi : PI X tg iter wi) (ok : BlkOk X.N X.env.scope scope own) (hg : BB X scope fun X' => PG X' tg gg) (S0 : GSrc X wi gg (own.map (·.2)) s) (he : BB X scope fun X' => GE X' elt f)
    (hA : ∀ K Hs, LstR K Hs [] d0 := by intro _ _; first | exact rfl | exact Paired.nil) (h0 : dlen d0 = 0 := by rfl) (hs : ∀ x, foldedSetIterable iter X.env x = pure x := by intro _; rfl) :
    GS X (.Assign [.Name y py] (.ListComp elt [⟨tg, iter, [], 0⟩] scope pos) spos) (setM i (lcM d0 s (own.map (·.2)) yesM f)) := ⟨fun Γ r e' P q => by
  unfold setM at e'
  split at e'
  · rename_i d hd
    cases e'
    exact fun Hs0 H0 Hs H σ t S => wS_of (ps_setLc hc hN hy hyl hsw hi ok hg (fun _ _ _ _ _ => pts_nil) (fun s H C cl fp => peWb s H C cl fp) hs) (lcM_t0 S0 he hA h0 hd S fun p us Hs2 H2 t2 hp hs2 hh r =>
      ⟨_, _, t.trans (froz t2 hp hs2 hh), (S.step (froz t2 hp hs2 hh)).set i (DR.of_lst (.inl (.inl upd_same)) (r.ex (Same.upd_new hs2))), q⟩)
  · cases e'⟩
theorem gs_setLc1 (i : Nat) {tg iter elt cond : Expr} {scope : Scope} {own : List (Str × Nat)} {wi : TI} {gg : TG} {s : Msrc} (d0 : Da) (hc : X.calm = true) (hN : X.N.Nodup) (hy : X.N[i]? = some y) (hyl : X.env.scope.names.lookup y = some .local)
    (hsw : swapsWith (.ListComp elt [⟨tg, iter, [cond], 0⟩] scope pos) (some (.Name y py)) spos.line X.env = pure true) (hi : PI X tg iter wi) (ok : BlkOk X.N X.env.scope scope own) (hg : BB X scope fun X' => PG X' tg gg) (S0 : GSrc X wi gg (own.map (·.2)) s) (ht : BB X scope fun X' => GT X' cond t) (he : BB X scope fun X' => GE X' elt f)
    (hA : ∀ K Hs, LstR K Hs [] d0 := by intro _ _; first | exact rfl | exact Paired.nil) (h0 : dlen d0 = 0 := by rfl) (hs : ∀ x, foldedSetIterable iter X.env x = pure x := by intro _; rfl) :
    GS X (.Assign [.Name y py] (.ListComp elt [⟨tg, iter, [cond], 0⟩] scope pos) spos) (setM i (lcM d0 s (own.map (·.2)) t f)) := ⟨fun Γ r e' P q => by
  unfold setM at e'
  split at e'
  · rename_i d hd
    cases e'
    exact fun Hs0 H0 Hs H σ t S => wS_of (ps_setLc hc hN hy hyl hsw hi ok hg (fun s H C cl fp => pts_one (ptWb s H C cl fp)) (fun s H C cl fp => peWb s H C cl fp) hs) (lcM_t1 S0 ht he hA h0 hd S fun p us Hs2 H2 t2 hp hs2 hh r =>
      ⟨_, _, t.trans (froz t2 hp hs2 hh), (S.step (froz t2 hp hs2 hh)).set i (DR.of_lst (.inl (.inl upd_same)) (r.ex (Same.upd_new hs2))), q⟩)
  · cases e'⟩
/-- own list + new list -/
def catOM (k : Nat) (g : Mx) : Mx := fun Γ => match Γ[k]?, g Γ with
  | some (.own (.lw w)), some (.lw u) => if w.length + u.length ≤ 1000 then some (.lw (w ++ u)) else none
  | _, _ => none
theorem gn_catOwn (k : Nat) {px : Pos} (hb : GN X b g) (hN : X.N[k]? = some x := by rfl)
    (hv : Vis X.env.scope x := by first | exact Or.inl rfl | exact Or.inr (Or.inl rfl) | exact Or.inr (Or.inr rfl)) (hd : (x == ("__debug__" : Str)) = false := by decide) (hcd : (x == ("__classdict__" : Str)) = false := by decide) :
    GN X (.BinOp (.Name x px) .Add b pos) (catOM k g) := ⟨fun Γ d e' => by
  unfold catOM at e'
  split at e'
  · split at e'
    · rename_i w u h1 h2 hz
      cases e'
      intro H0 Hs H σ S Q q
      obtain ⟨p, vs, e1, n0, ns, hh, r⟩ := S.ownAt h1
      refine wE_of (pe_op op_cat (pe_var hN hv hd hcd) (peW X b)) ⟨_, e1, hb.ok Γ _ h2 H0 Hs H σ S _ fun p' us Hs2 H2 t2 hp' hs' hh' r2 => ?_⟩
      refine ⟨p, p', vs, us, rfl, rfl, t2.h _ _ hh, hh', ?_, fun l hl => q l _ Hs2 _ (t2.trans (stp_own t2.sub hl)) (Same.free t2.h hl) (sub_none t2.sub hl) upd_same ?_⟩
      · rw [r.len, r2.len]
        exact Nat.le_of_lt (small1000 hz)
      · exact papp (show Paired (WdR X.K Hs2) vs w from LstR.ex (d := .lw w) t2.s r) r2
    · cases e'
  · cases e'⟩
/-! ### two clauses: [elt for x in xs for y in range(e)] -/
def l2In (y : List Ent → Nat → List Ent) (f : Mx) (Γ : List Ent) (a0 : Da) : Nat → Option Da
  | 0 => some a0
  | j + 1 => match l2In y f Γ a0 j with
    | some a => (match f (y Γ j) with
      | some d => snoc a d
      | none => none)
    | none => none
def setI (k : Nat) (Γ : List Ent) (q : Nat) : List Ent := Γ.set k (.val (.int (q : Int)))
def l2To (d0 : Da) (k : Nat) (y : Nat → List Ent → List Ent) (r f : Mx) (Γ : List Ent) : Nat → Option Da
  | 0 => some d0
  | i + 1 => match l2To d0 k y r f Γ i with
    | some a => (match r (y i Γ) with
      | some (.int c) => if 0 ≤ c ∧ c ≤ 1000 then l2In (setI k) f (y i Γ) a c.toNat else none
      | _ => none)
    | none => none
def l2M (d0 : Da) (j k : Nat) (s r f : Mx) : Mx := fun Γ => match s Γ with
  | some d => if isLst d ∧ dlen d ≤ 1000 then l2To d0 k (fun i Γ' => Γ'.set j (.val (itd d i))) r f (wipeΓ Γ [j, k]) (dlen d) else none
  | none => none
theorem l2In_le {y : List Ent → Nat → List Ent} {a0 : Da} : ∀ {n i : Nat} {r : Da}, l2In y f Γ a0 n = some r → i ≤ n → ∃ a, l2In y f Γ a0 i = some a
  | 0, i, r, h, hi => ⟨r, by rw [Nat.le_zero.mp hi]; exact h⟩
  | n + 1, i, r, h, hi => by
    by_cases e : i = n + 1
    · subst e; exact ⟨r, h⟩
    · unfold l2In at h
      split at h
      · exact l2In_le (by assumption) (by omega)
      · cases h
theorem l2In_len {y : List Ent → Nat → List Ent} {a0 : Da} : ∀ {n : Nat} {r : Da}, l2In y f Γ a0 n = some r → dlen r = dlen a0 + n
  | 0, r, h => by cases h; rfl
  | n + 1, r, h => by
    unfold l2In at h
    split at h
    · rename_i a ha
      have ih := l2In_len ha
      split at h
      · rw [snoc_len h]; omega
      · cases h
    · cases h
theorem l2To_le {d0 : Da} {k : Nat} {y : Nat → List Ent → List Ent} {r : Mx} : ∀ {n i : Nat} {z : Da}, l2To d0 k y r f Γ n = some z → i ≤ n → ∃ a, l2To d0 k y r f Γ i = some a
  | 0, i, r, h, hi => ⟨r, by rw [Nat.le_zero.mp hi]; exact h⟩
  | n + 1, i, r, h, hi => by
    by_cases e : i = n + 1
    · subst e; exact ⟨r, h⟩
    · unfold l2To at h
      split at h
      · exact l2To_le (by assumption) (by omega)
      · cases h
theorem l2To_len {d0 : Da} {k : Nat} {y : Nat → List Ent → List Ent} {r : Mx} (h0 : dlen d0 = 0) : ∀ {n : Nat} {z : Da}, l2To d0 k y r f Γ n = some z → dlen z ≤ 1000 * n
  | 0, r, h => by cases h; omega
  | n + 1, r, h => by
    unfold l2To at h
    split at h
    · rename_i a ha
      have ih := l2To_len h0 ha
      split at h
      · split at h
        · rw [l2In_len h]; omega
        · cases h
      · cases h
    · cases h
/-- the word of a comprehension, without the slots -/
def Lq (K : PySem.W.Frag) (Hs H Hs2 : Hp) (D : Addr) (d : Da) : Hp → Prop := fun H' => ∃ Hs' vs, Stp Hs H Hs' H' ∧ Same Hs2 Hs' ∧ Hs' D = none ∧ H D = none ∧ H' D = some (.lst vs) ∧ LstR K Hs' vs d
def wAb (X : Cx) (scope : Scope) (es : List Expr) : TA := fun σ H Q => ∀ s Hb C cl fp, wA (bX X scope s Hb C cl fp) es σ H Q
theorem paWb {scope : Scope} (s : Shared) (H : Hp) (C : Addr) (cl : List (Str × Addr)) (fp : List Addr) : PA (bX X scope s H C cl fp) es (wAb X scope es) := ⟨fun pos pins s' σ H' Q I h => h s H C cl fp pos pins s' I⟩
theorem lq_word {Hs H Hs2 : Hp} {D : Addr} {d : Da} {K : PySem.W.Frag} {H0 H' : Hp} {σ : L2.St} (S : St2 K H0 Hs H σ Γ) (h : Lq K Hs H Hs2 D d H') : ∃ Hs' vs, St2 K H0 Hs' H' σ Γ ∧ Stp Hs H Hs' H' ∧ Same Hs2 Hs' ∧ Hs' D = none ∧ H D = none ∧ H' D = some (.lst vs) ∧ LstR K Hs' vs d := by
  obtain ⟨Hs', vs, t, s, n1, n2, hh, r⟩ := h
  exact ⟨Hs', vs, S.step t, t, s, n1, n2, hh, r⟩
theorem lc2_t {elt a : Expr} {e1 : Expr} {scope : Scope} {j k : Nat} {d0 : Da} {s r : Mx} (S0 : GE X e1 s) (hr : BB X scope fun X' => GA X' [a] (consA r (fun _ => some []))) (he : BB X scope fun X' => GE X' elt f) (hA : ∀ K Hs, LstR K Hs [] d0) (h0 : dlen d0 = 0) (e' : l2M d0 j k s r f Γ = some d)
    {H0 Hs H : Hp} {σ : L2.St} (S : St2 X.K H0 Hs H σ Γ) {Q : VK} (q : ∀ p us Hs2 H2, Stp Hs H Hs2 H2 → H p = none → Hs2 p = none → H2 p = some (.lst us) → LstR X.K Hs2 us d → Q (.ref p) H2) :
    tLc2 (iList X.K (wE X e1)) (gName j) tYes (iRng1 (wAb X scope [a])) (gName k) tYes (wEb X scope elt) [j, k] [k] σ H Q := by
  unfold l2M at e'
  split at e'
  · rename_i dl hdl
    split at e'
    · rename_i hz
      obtain ⟨hl, hz⟩ := hz
      refine S0.ok Γ dl hdl H0 Hs H σ S _ fun v Hs2 H2 t2 rv => ?_
      obtain ⟨aL, us, ev, ql, hrl⟩ := rv.lst hl
      refine ⟨aL, ev, ⟨us, sqL_ex t2.sub ql⟩, fun D hD => ?_⟩
      have hDs : H D = none := Same.free t2.h hD
      have lenv : us.length = dlen dl := hrl.len
      have lstK : ∀ Hs' H', Same Hs2 Hs' → Same Hs' H' → SqL X.K H' aL us := fun Hs' H' s' u' => sqL_ex u' (sqL_ex s' ql)
      generalize hy : (fun (i : Nat) (Γ' : List Ent) => Γ'.set j (Ent.val (itd dl i))) = y at e'
      have ex : ∀ i, i ≤ dlen dl → l2To d0 k y r f (wipeΓ Γ [j, k]) i = some ((l2To d0 k y r f (wipeΓ Γ [j, k]) i).getD .non) := fun i hi => by
        obtain ⟨a, ha⟩ := l2To_le e' hi
        rw [ha]; rfl
      have hd : d = (l2To d0 k y r f (wipeΓ Γ [j, k]) (dlen dl)).getD .non := by rw [e']; rfl
      subst hd
      generalize hAf : (fun i => (l2To d0 k y r f (wipeΓ Γ [j, k]) i).getD .non) = A at *
      have exA : ∀ i, i ≤ dlen dl → l2To d0 k y r f (wipeΓ Γ [j, k]) i = some (A i) := fun i hi => by rw [← hAf]; exact ex i hi
      have eA0 : A 0 = d0 := by rw [← hAf]; rfl
      have eAn : (l2To d0 k y r f (wipeΓ Γ [j, k]) (dlen dl)).getD .non = A (dlen dl) := by rw [← hAf]
      rw [eAn] at q
      refine ⟨fun i m H' => m + i = dlen dl ∧ Lq X.K Hs H Hs2 D (A i) H', ⟨dlen dl, rfl, Hs2, [], t2.trans (stp_own t2.sub hD), Same.refl _, sub_none t2.sub hD, hDs, upd_same, by rw [eA0]; exact hA _ _⟩, ?_⟩
      rintro i m H' ⟨hm, L⟩
      obtain ⟨Hs', vs', t', s', n1, n2, hh, rr⟩ := L
      by_cases hlt : i < dlen dl
      · obtain ⟨yv, hyv, ry⟩ := hrl.get (itd_of hl hlt)
        refine .inr ⟨⟨us, yv, lstK Hs' H' s' t'.sub, hyv⟩, Lq X.K Hs H Hs2 D (A (i + 1)), fun H3 z => ⟨m - 1, by omega, by omega, z⟩, fun v H'' hy' => ?_⟩
        obtain ⟨eH, ev2⟩ := hy'
        subst eH
        have hv := ev2 us (lstK Hs' _ s' t'.sub)
        rw [hyv] at hv
        cases hv
        -- what the outer turn gives
        have step := exA (i + 1) hlt
        unfold l2To at step
        rw [exA i (by omega)] at step
        simp only [] at step
        split at step
        · rename_i c hc
          split at step
          · rename_i hcb
            have Sw : ∀ Hs3 H3, Stp Hs H Hs3 H3 → Same Hs2 Hs3 → St2 X.K H0 Hs3 H3 ((wipe σ [j, k]).set j (some yv)) (y i (wipeΓ Γ [j, k])) := fun Hs3 H3 t3 s3 => by
              rw [← hy]
              exact (st2_wipes (S.step t3) [j, k]).set j (ry.ex s3)
            refine ⟨by rw [wipe_set (by simp), wipe_wipe], ?_⟩
            have hcl : (c.toNat : Int) ≤ 1000 := by omega
            have exB : ∀ q, q ≤ c.toNat → l2In (setI k) f (y i (wipeΓ Γ [j, k])) (A i) q = some ((l2In (setI k) f (y i (wipeΓ Γ [j, k])) (A i) q).getD .non) := fun q hq => by
              obtain ⟨z, hz⟩ := l2In_le step hq
              rw [hz]; rfl
            have lenA : dlen (A i) ≤ 1000 * i := l2To_len h0 (exA i (by omega))
            simp only [tYes, if_true]
            intro sB HB C cl fp
            refine (hr sB HB C cl fp).ok _ [.int c] (by unfold consA; rw [hc]) H0 Hs' _ _ (Sw Hs' _ t' s') _ fun vs2 Hs3 H3 t3 rv3 => ?_
            obtain ⟨w3, ew3, rw3⟩ := p1 rv3
            have ew : w3 = .int c := rw3
            subst ew3 ew
            refine ⟨c, rfl, by omega, by omega, fun jj kk H4 => kk + jj = c.toNat ∧ Lq X.K Hs H Hs2 D ((l2In (setI k) f (y i (wipeΓ Γ [j, k])) (A i) jj).getD .non) H4, ⟨c.toNat, rfl, Hs3, vs', t'.trans t3, s'.trans t3.s, t3.own D _ hh rfl n1, n2, t3.h _ _ hh, rr.ex t3.s⟩, ?_⟩
            rintro jj kk H4 ⟨hm2, Hs4, vs4, t4, s4, m1, m2, hh4, r4⟩
            by_cases hlt2 : jj < c.toNat
            · refine .inr ⟨hlt2, Lq X.K Hs H Hs2 D ((l2In (setI k) f (y i (wipeΓ Γ [j, k])) (A i) (jj + 1)).getD .non), fun H5 z => ⟨kk - 1, by omega, by omega, z⟩, fun xv H5 hy2 => ?_⟩
              obtain ⟨eH2, ex2⟩ := hy2
              subst eH2 ex2
              have b1 := exB (jj + 1) hlt2
              have b0 := exB jj (by omega)
              have lenB := l2In_len b0
              generalize (l2In (setI k) f (y i (wipeΓ Γ [j, k])) (A i) jj).getD .non = B0 at r4 b0 lenB
              generalize (l2In (setI k) f (y i (wipeΓ Γ [j, k])) (A i) (jj + 1)).getD .non = B1 at b1 ⊢
              unfold l2In at b1
              rw [b0] at b1
              simp only [] at b1
              split at b1
              · rename_i d' hd'
                refine ⟨by rw [wipe_set (by simp), wipe_wipe], ?_⟩
                intro sB HB C cl fp
                have S4 : St2 X.K H0 Hs4 H5 ((wipe (((wipe σ [j, k]).set j (some yv))) [k]).set k (some (V.int (0 + (jj : Int))))) (setI k (y i (wipeΓ Γ [j, k])) jj) := by
                  have e1 : (wipe (((wipe σ [j, k]).set j (some yv))) [k]).set k (some (V.int (0 + (jj : Int)))) = (((wipe σ [j, k]).set j (some yv))).set k (some (V.int (jj : Int))) := by
                    show ((((wipe σ [j, k]).set j (some yv))).set k none).set k _ = _
                    rw [List.set_set, Int.zero_add]
                  rw [e1]
                  exact (Sw Hs4 _ t4 s4).set k (d := .int (jj : Int)) rfl
                refine (he sB HB C cl fp).ok _ d' hd' H0 Hs4 _ _ S4 _ fun u Hs5 H6 t5 r5 => ?_
                have nD5 := t5.own D _ hh4 rfl m1
                have t0 := t4.trans t5
                refine ⟨vs4, t5.h _ _ hh4, ?_, Hs5, vs4 ++ [u], ⟨t0.s, fun b o z => by rw [upd_ne (show b ≠ D from fun q => by rw [q, m2] at z; cases z)]; exact t0.h b o z, fun b o z => by rw [upd_ne (show b ≠ D from fun q => by rw [q, nD5] at z; cases z)]; exact t0.sub b o z, t0.own⟩, s4.trans t5.s, nD5, m2, upd_same, (r4.ex t5.s).snoc r5 b1⟩
                rw [r4.len, lenB]
                exact Nat.lt_of_lt_of_le (show dlen (A i) + jj < 1000000 by omega) (by decide)
              · cases b1
            · have e : jj = c.toNat := by omega
              subst e
              refine .inl ⟨Nat.le_refl _, Hs4, vs4, t4, s4, m1, m2, hh4, ?_⟩
              rw [step] at r4
              exact r4
          · cases step
        · cases step
      · have e : i = dlen dl := by omega
        subst e
        exact .inl ⟨⟨us, lstK Hs' _ s' t'.sub, by rw [lenv]; exact Nat.le_refl _⟩, q D vs' Hs' H' t' n2 n1 hh rr⟩
    · cases e'
  · cases e'
theorem gs_setLc2 (i : Nat) {tg e1 elt a : Expr} {n1 n2 : Str} {j k : Nat} {p0 pc : Pos} {tg1 : Expr} {scope : Scope} {s r : Mx} (d0 : Da) (hc : X.calm = true) (hN : X.N.Nodup) (hy : X.N[i]? = some y) (hyl : X.env.scope.names.lookup y = some .local)
    (hsw : swapsWith (.ListComp elt [⟨tg, e1, [], 0⟩, ⟨tg1, .Call (.Name "range" p0) [a] [] pc, [], 0⟩] scope pos) (some (.Name y py)) spos.line X.env = pure true) (ok : BlkOk X.N X.env.scope scope [(n1, j), (n2, k)]) (hg : BB X scope fun X' => PG X' tg (gName j)) (hg1 : BB X scope fun X' => PG X' tg1 (gName k))
    (hi1 : BB X scope fun X' => PI X' tg1 (.Call (.Name "range" p0) [a] [] pc) (iRng1 (wAb X scope [a]))) (S0 : GE X e1 s) (hr : BB X scope fun X' => GA X' [a] (consA r (fun _ => some []))) (he : BB X scope fun X' => GE X' elt f)
    (hA : ∀ K Hs, LstR K Hs [] d0 := by intro _ _; first | exact rfl | exact Paired.nil) (h0 : dlen d0 = 0 := by rfl) (hs : ∀ x, foldedSetIterable e1 X.env x = pure x := by intro _; rfl) (hs1 : ∀ env x, foldedSetIterable (.Call (.Name "range" p0) [a] [] pc) env x = pure x := by intro _ _; rfl) :
    GS X (.Assign [.Name y py] (.ListComp elt [⟨tg, e1, [], 0⟩, ⟨tg1, .Call (.Name "range" p0) [a] [] pc, [], 0⟩] scope pos) spos) (setM i (l2M d0 j k s r f)) := ⟨fun Γ r' e' P q => by
  unfold setM at e'
  split at e'
  · rename_i d hd
    cases e'
    exact fun Hs0 H0 Hs H σ t S => wS_of (ps_setLc2 (vs1 := [k]) hc hN hy hyl hsw (pi_list (peW X e1)) ok (by intro i hi; simp at hi; simp [hi]) hg (fun _ _ _ _ _ => pts_nil) hi1 hg1 (fun _ _ _ _ _ => pts_nil) (fun s H C cl fp => peWb s H C cl fp) hs hs1) (lc2_t S0 hr he hA h0 hd S fun p us Hs2 H2 t2 hp hs2 hh r =>
      ⟨_, _, t.trans (froz t2 hp hs2 hh), (S.step (froz t2 hp hs2 hh)).set i (DR.of_lst (.inl (.inl upd_same)) (r.ex (Same.upd_new hs2))), q⟩)
  · cases e'⟩
end
end K54

set_option Elab.async false
set_option linter.all false
set_option maxRecDepth 100000
set_option maxHeartbeats 4000000
namespace K54
open PySem PySem.Spec PyProof.Rows L2
section
variable {P : Program} {w : World} {K : PySem.W.Frag} {mg : Str → Option Value} {base : Heap}
def F_is_whole : List Da → Option Da
  | [.int x, .int lo, .int hi] => some (.bl (decide (lo ≤ x) && decide (x ≤ hi)))
  | _ => none
theorem ok_is_whole (T : Tx K mg) : CanF P w K mg base 1 "is_whole" [] F_is_whole := by
  obtain ⟨fd, F⟩ := T.f_is_whole
  obtain ⟨its, hv, hb⟩ := F.binds1 (ps := ["thing", "low", "high"]) 3 2 (List.cons_ne_nil _ _) rfl fun T0 kV doc pm an cdv ct us its hl hi => by
    match us, hl, its, hi with
    | [_, _, _], _, [_, _], _ => exact ⟨_, rfl, rfl⟩
  have inv : ∀ ds r, F_is_whole ds = some r → ∃ x lo hi : Int, ds = [.int x, .int lo, .int hi] ∧ r = .bl (decide (lo ≤ x) && decide (x ≤ hi)) := fun ds r h => by
    unfold F_is_whole at h
    split at h
    · cases h; exact ⟨_, _, _, rfl, rfl⟩
    · cases h
  refine ⟨_, fd, _, _, _, T.g_is_whole, F.kp, hv, hb, fn_ok F sc_is_whole _ (fun ds r h => by obtain ⟨x, lo, hi, e, _⟩ := inv ds r h; rw [e]; rfl) ?_, fun H => .nil⟩
  intro cd A outer s H E hr ds r h
  obtain ⟨x, lo, hi, rfl, rfl⟩ := inv ds r h
  refine bd_cons (sd_if (et_or2 (et_not (et_val (ev_isi T.b_isinstance T.b_int boot_int' (ev_var 0 rfl) rfl (r := true) (by decide +kernel)))) (fun _ => et_val (ev_isi T.b_isinstance T.b_bool boot_bool' (ev_var 0 rfl) rfl (r := false) (by decide +kernel))))
    (fun h => by cases h) fun _ => bd_nil (Weak.refl _) ?_)
  refine bd_cons (sd_if (et_and2 (et_notN (ev_var 1 rfl)) fun _ => et_lt (ev_var 0 rfl) (ev_var 1 rfl)) (fun h => bd_one (sd_ret ev_bl ?_)) fun h => bd_nil (Weak.refl _) ?_)
  · have h' : x < lo := by simpa [isNon] using h
    show Da.bl false = Da.bl _
    rw [decide_eq_false (show ¬ lo ≤ x by omega)]
    rfl
  refine bd_one (sd_ret (ev_or2 (ev_isN (ev_var 2 rfl)) fun _ => ev_le (ev_var 0 rfl) (ev_var 2 rfl)) ?_)
  have h' : ¬ x < lo := by simpa [isNon] using h
  show Da.bl (false || decide (x ≤ hi)) = Da.bl _
  rw [decide_eq_true (show lo ≤ x by omega)]
  rfl
end
end K54

set_option Elab.async false
set_option linter.all false
set_option maxRecDepth 100000
set_option maxHeartbeats 4000000
/-! J10: methods, the property, instances made. -/
namespace K54
open PySem PySem.Spec PyProof.Rows L2
section
variable {X : Cx} {a b c e o : Expr} {es : List Expr} {st : Stmt} {rest : List Stmt} {Γ Γ' : List Ent} {pos : Pos} {d d1 d2 : Da} {ds dd : List Da} {i j : Int} {P : Pst} {k n : Nat} {x y : Str} {f g : Mx} {fa : Ma} {m : Ms}
/-- a reckoned statement, and the rest by hand -/
theorem wB_sd {D : Ends} {Hs0 H0 Hs H : Hp} {σ : L2.St} (h : GS X st m) (e : m Γ = some (.nx Γ')) (t : Stp Hs0 H0 Hs H) (S : St2 X.K H0 Hs H σ Γ) (k : ∀ σ' Hs' H', Stp Hs0 H0 Hs' H' → St2 X.K H0 Hs' H' σ' Γ' → wB X rest D σ' H') : wB X (st :: rest) D σ H := by
  have h1 := h.ok Γ _ e { nx := fun Γ'' => Γ'' = Γ', rt := fun _ => False } rfl Hs0 H0 Hs H σ t S
  refine wB_cons (wS_le (D := ends X.K Hs0 H0 { nx := fun Γ'' => Γ'' = Γ', rt := fun _ => False }) (D' := { D with nx := wB X rest D }) ⟨fun σ' H' ⟨Hs', Γ'', t', S', e'⟩ => ?_, fun v H' ⟨_, _, _, _, z⟩ => z.elim, fun _ _ ⟨_, _, _, _, z⟩ => z.elim, fun _ _ ⟨_, _, _, _, z⟩ => z.elim⟩ h1)
  have e2 : Γ'' = Γ' := e'
  subst e2
  exact k σ' Hs' H' t' S'
/-! ### the method has -/
def oHas (F : List Da → Option Da) (f : Mx) (fa : Ma) : Mx := fun Γ => match f Γ, fa Γ with
  | some (.wb q ws m r), some ds => F (.wb q ws m r :: ds)
  | _, _ => none
theorem wb_nohas {q n m r : Int} {t : Addr} : (wbF q t n m r).lookup ("has" : Str) = none := by
  unfold wbF
  rw [lk2 (by decide +kernel), lk2 (by decide +kernel), lk2 (by decide +kernel), lk2 (by decide +kernel), lk2 (by decide +kernel)]
  rfl
structure CanM (P : Program) (w : World) (K : PySem.W.Frag) (mg : Str → Option Value) (base : Heap) (k : Nat) (f : Addr) (ps : List Str) (F : List Da → Option Da) : Prop where
  ex : ∃ fd, FnOk P w K mg base CX0 k f fd ps (spR K (fun ds r => F ds = some r)) ∧ Binds K fd ps []
theorem CanM.mono {P : Program} {w : World} {K : PySem.W.Frag} {mg : Str → Option Value} {base : Heap} {k k' : Nat} {f : Addr} {ps : List Str} {F : List Da → Option Da} (C : CanM P w K mg base k f ps F) (h : k ≤ k') : CanM P w K mg base k' f ps F :=
  let ⟨fd, h1, h2⟩ := C.ex; ⟨fd, h1.mono h, h2⟩
theorem CanM.less {P : Program} {w : World} {K : PySem.W.Frag} {mg : Str → Option Value} {base : Heap} {k : Nat} {f : Addr} {ps : List Str} {F G : List Da → Option Da} (C : CanM P w K mg base k f ps F) (h : ∀ ds r, G ds = some r → F ds = some r) : CanM P w K mg base k f ps G := by
  obtain ⟨fd, h1, h2⟩ := C.ex
  refine ⟨fd, h1.imp fun vs H Q E z => ?_, h2⟩
  obtain ⟨Hs, ds, r, z1, z2, z3, z4⟩ := z
  exact ⟨Hs, ds, r, z1, z2, h ds r z3, z4⟩
theorem canM {P : Program} {w : World} {K : PySem.W.Frag} {mg : Str → Option Value} {base : Heap} {nm qual : Str} {params : Arguments} {body : List Stmt} {scope : Scope} {f : Addr} {fd : FuncData} {N ps : List Str} {k : Nat} {m : Ms} (F : FunD K nm qual params body scope [] [] f fd) (b : Binds K fd ps []) (S : FnScope N ps scope)
    (hb : ∀ (cd : Value) (A : Around) (outer : List Env) (s : Shared) (H : Hp) (E : XK), Room k (fX P w K mg base N qual scope f cd A outer s H E).A → GB (fX P w K mg base N qual scope f cd A outer s H E) body m) : CanM P w K mg base (k + 1) f ps (resM N ps.length m) :=
  ⟨fd, fn_ok F S _ (fun ds r h => resM_len h) (fun cd A outer s H E hr ds r h => resM_bd (hb cd A outer s H E hr) h), b⟩
theorem g_has {F : List Da → Option Da} {pa : Pos} (C : CanM X.prog X.w X.K X.mg X.base k (He.ma X.K (He.ga X.K "WeightBook") "has") ["self", "word"] F) (hr : Room k X.A) (c : Cls X.K (He.ga X.K "WeightBook")) (hm : Meth X.K (He.ga X.K "WeightBook") "has" (He.ma X.K (He.ga X.K "WeightBook") "has")) (ha : GE X a f) (hb : GA X [e] fa)
    (hst : starEach [e] X.env = (false, eval e X.env) :: starEach [] X.env := by rfl) (hpl : (backTo pos (starEach [] X.env)).any (·.1) = false := by rfl) {pl : Sem Bool}
    (ht : eval (.Call (.Attribute a "has" pa) [e] [] pos) X.env = (do
      let ov ← eval a X.env
      standAt pa.atName
      let (f, first) ← holding [ov] (getMethod ov "has" pl)
      callWith pos f first (backTo pos (starEach [e] X.env)) (backToKw pos (keywordEach [] X.env))) := by rfl) :
    GE X (.Call (.Attribute a "has" pa) [e] [] pos) (oHas F f fa) := ⟨fun Γ d e' => by
  unfold oHas at e'
  split at e'
  · rename_i q ws m r ds h1 h2
    obtain ⟨fd, F1, b1⟩ := C.ex
    intro H0 Hs H σ S Q qq
    refine wE_of (pe_meth (peW X a) c hm F1 hr b1 .nil pass0 (paW X [e]) hst hpl ht) (ha.ok Γ _ h1 H0 Hs H σ S _ fun v Hs1 H1 t1 r1 => ?_)
    obtain ⟨p, dx, tw, ev, e2, e3⟩ := id r1
    refine ⟨p, dx, _, ev, t1.sub _ _ e2, wb_nohas, hb.ok Γ _ h2 H0 Hs1 H1 σ (S.step t1) _ fun vs Hs2 H2 t2 r2 => ?_⟩
    rw [List.append_nil]
    exact ⟨Hs2, .wb q ws m r :: ds, d, t2.sub, .cons (r1.ex t2.s) r2, e', fun v' Hs3 H3 t3 r3 => qq v' Hs3 H3 ((t1.trans t2).trans t3) r3⟩
  · cases e'⟩
/-! ### the property is_full -/
theorem prop_of {K : PySem.W.Frag} (h : propB K = true) : PropOf K (He.ga K "SumBook") "is_full" (pA K) (gA K) ∧ PySem.W.keepIn K (.ref (gA K)) = true ∧ ∃ oc od fd osl, K.lookup (gA K) = some ⟨oc, od, .func fd, osl⟩ ∧ PySem.W.codeIn K fd.code "SumBook.is_full" = true ∧ fd.defaults = .none := by
  unfold propB at h
  simp only [Bool.and_eq_true, decide_eq_true_eq] at h
  obtain ⟨h1, h2, h3, h4, h5, h6⟩ := h
  refine ⟨⟨He.eqO_ok h1, He.eqO_ok h2, h3, ?_⟩, h5, ?_⟩
  · unfold isPropRec at h4
    split at h4
    · rename_i g rest hrec
      refine ⟨rest, ?_⟩
      rw [hrec]
      unfold gA
      rw [hrec]
    · cases h4
  · split at h6
    · rename_i oc od fd osl hl
      rw [Bool.and_eq_true] at h6
      refine ⟨oc, od, fd, osl, hl, h6.1, ?_⟩
      have := h6.2
      split at this
      · assumption
      · cases this
    · cases h6
theorem prop_fun {K : PySem.W.Frag} (hB : propB K = true) (hW : propW K = propV) : ∃ fd, FunD K "is_full" "SumBook.is_full" (defArgs s_is_full) (defBody s_is_full) (defScope s_is_full) [] [] (gA K) fd := by
  obtain ⟨_, hk, oc, od, fd, osl, hl, hcd, hdf⟩ := prop_of hB
  obtain ⟨n1, n2, n3, n4, n5, n6, n7, n8, n9, n10, n11, n12, n13, n14, n15⟩ := fd
  have e : (some (n1, n2, n3, n4, n5, n6, n7, n15) : He.FnW) = propV := by
    unfold propW at hW
    rw [hl] at hW
    exact hW
  have e2 : (some (n1, n2, n3, n4, n5, n6, n7, n15) : He.FnW) = (some (("is_full" : Str), ("SumBook.is_full" : Str), defArgs s_is_full, FuncBody.stmts (defBody s_is_full), defScope s_is_full, mainGlobals, [], builtinsNs) : He.FnW) := e
  simp only [Option.some.injEq, Prod.mk.injEq] at e2
  obtain ⟨h1, h2, h3, h4, h5, h6, h7, h8⟩ := e2
  subst h1 h2 h3 h4 h5 h6 h7 h8
  have hdf' : n8 = .none := hdf
  subst hdf'
  exact ⟨_, ⟨oc, od, .none, n9, n10, n11, n12, n13, n14, osl, rfl, hl, hcd, .inl ⟨rfl, rfl⟩, .inl rfl⟩, hk⟩
def fullD54 : Da → Option Da
  | .sb n m _ => some (.bl (decide (m = n + 1)))
  | _ => none
def fullF : List Da → Option Da
  | [d] => fullD54 d
  | _ => none
theorem sc_is_full : FnScope ["self"] ["self"] (defScope s_is_full) := ⟨rfl, rfl, rfl, by decide +kernel, rfl, by decide +kernel, by decide +kernel⟩
theorem ok_is_full {P : Program} {w : World} {K : PySem.W.Frag} {mg : Str → Option Value} {base : Heap} (T : Tx K mg) : CanM P w K mg base 1 (gA K) ["self"] fullF := by
  obtain ⟨fd, F⟩ := prop_fun T.P T.W
  refine ⟨fd, fn_ok F sc_is_full _ (fun ds r h => ?_) (fun cd A outer s H E hr ds r h => ?_), F.bindsN fun _ _ _ _ _ _ us hl => match us, hl with | [_], _ => rfl⟩
  · unfold fullF at h
    split at h
    · rfl
    · cases h
  · unfold fullF at h
    split at h
    · unfold fullD54 at h
      split at h
      · cases h
        refine bd_one (sd_ret (ev_eqI (ev_sbF T.c_SumBook T.n_SumBook_modulus sb_mod (ev_var 0 rfl)) (ev_add (ev_sbF T.c_SumBook T.n_SumBook_length sb_len (ev_var 0 rfl)) ev_int)) rfl)
      · cases h
    · cases h
theorem g_full {p : Pos} {mg : Str → Option Value} (T : Tx X.K mg) (C : CanM X.prog X.w X.K X.mg X.base k (gA X.K) ["self"] fullF) (hr : Room (k + 1) X.A) (ha : GE X a f) (hab : attributeBase a "is_full" X.env (eval a X.env) = eval a X.env := by rfl) : GE X (.Attribute a "is_full" p) (o1 fullD54 f) := ⟨fun Γ d e' => by
  obtain ⟨q, e1, e3⟩ := o1_ok e'
  have h1 := ha.ok Γ _ e1
  have e3' := e3
  unfold fullD54 at e3
  split at e3
  · cases e3
    obtain ⟨fd, F1, b1⟩ := C.ex
    intro H0 Hs H σ S Q qq
    refine wE_of (pe_prop (peW X a) T.c_SumBook (prop_of T.P).1 F1 hr b1 .nil pass0 hab) (h1 H0 Hs H σ S _ fun v Hs1 H1 t1 r1 => ?_)
    obtain ⟨p, dx, ev, e2⟩ := id r1
    subst ev
    exact ⟨p, dx, _, rfl, t1.sub _ _ e2, Hs1, [.sb _ _ _], _, t1.sub, .cons r1 .nil, e3', fun v' Hs3 H3 t3 r3 => qq v' Hs3 H3 (t1.trans t3) r3⟩
  · cases e3⟩
/-! ### instances made -/
/-- what __init__ leaves: the instance with the fields fs, which rf tells of the heap -/
def spI (K : PySem.W.Frag) (C : Addr) (R : List Da → Prop) (fin : List Da → Hp → List (Str × V) → Prop) : Sp := fun vs H Q _ => ∃ x dx Hs us ds, vs = .ref x :: us ∧ Same Hs H ∧ Hs x = none ∧ H x = some (.ins C dx []) ∧ Paired (DR K Hs) us ds ∧ R ds ∧
  ∀ Hs' H' fs, Same Hs Hs' → Same Hs' H' → (∀ b o, b ≠ x → H b = some o → H' b = some o) → (∀ b o, H b = some o → isTupO o = false → Hs b = none → Hs' b = none) → H' x = some (.ins C dx fs) → fin ds Hs' fs → Q .non H'
theorem ev_make {C fA : Addr} {fd : FuncData} {ps : List Str} {R : List Da → Prop} {fin : List Da → Hp → List (Str × V) → Prop} {p : Pos} (M : Mk X.K C fA) (F : FnOk X.prog X.w X.K X.mg X.base CX0 k fA fd ps (spI X.K C R fin)) (hr : Room (k + 1) X.A) (hm : X.mg x = some (.ref C)) (hb : Binds X.K fd ps [])
    (ha : EA X (e :: es) Γ ds) (hR : R ds) (hfin : ∀ a dx Hs fs, fin ds Hs fs → DR X.K (upd Hs a (.ins C dx fs)) (.ref a) d ∨ Hs a ≠ none) (hg : Gl X x := by rfl) (hdb : (x == ("__debug__" : Str)) = false := by decide) (he : starEach (e :: es) X.env = (false, eval e X.env) :: starEach es X.env := by rfl) (hpl : (backTo pos (starEach es X.env)).any (·.1) = false := by rfl) :
    EV X (.Call (.Name x p) (e :: es) [] pos) Γ d := fun H0 Hs H σ S Q q => by
  refine wE_of (pe_make M F hr hg hm hb .nil pass0 (paW X (e :: es)) hdb he hpl) (ha H0 Hs H σ S _ fun vs Hs1 H1 t1 r1 => ?_)
  intro a dx ha hdx hne
  have n1 : Hs1 a = none := sub_none t1.sub ha
  have sub1 : Same Hs1 (upd (upd H1 dx (.own a)) a (.ins C dx [])) := fun b o z => by
    have hH := t1.sub b o z
    rw [upd_ne (ne_of_none hH ha), upd_ne (ne_of_none hH hdx)]
    exact hH
  rw [List.append_nil]
  refine ⟨a, dx, Hs1, vs, ds, rfl, sub1, n1, upd_same, r1, hR, fun Hs' H' fs s' u' k1 k2 hx hf => ?_⟩
  have na : Hs' a = none := k2 a _ upd_same rfl n1
  refine ⟨rfl, q (.ref a) (upd Hs' a (.ins C dx fs)) H' ⟨(t1.s.trans s').trans (Same.upd_new na), fun b o z => ?_, fun b o z => ?_, fun b o z1 z2 z3 => ?_⟩ ?_⟩
  · have h1 := t1.h b o z
    have ba := ne_of_none h1 ha
    exact k1 b o ba (by rw [upd_ne ba, upd_ne (ne_of_none h1 hdx)]; exact h1)
  · by_cases hba : b = a
    · subst hba; rw [upd_same] at z; cases z; exact hx
    · rw [upd_ne hba] at z; exact u' b o z
  · have h1 := t1.h b o z1
    have ba := ne_of_none h1 ha
    rw [upd_ne ba]
    exact k2 b o (by rw [upd_ne ba, upd_ne (ne_of_none h1 hdx)]; exact h1) z2 (t1.own b o z1 z2 z3)
  · exact (hfin a dx Hs' fs hf).resolve_right fun z => z na
/-- self.f = e, the rest by hand -/
theorem wB_fld {D : Ends} {H0 Hs H : Hp} {σ : L2.St} {fld : Str} {xs : Str} {px pa : Pos} {C sx dx : Addr} {fs : List (Str × V)} (he : EV X e Γ d) (S : St2 X.K H0 Hs H σ Γ) (hx : H sx = some (.ins C dx fs)) (nx : Hs sx = none) (hown : (Γ.all fun e => !e.isOwn) = true) (h0 : σ[0]? = some (some (.ref sx)))
    (c : Cls X.K C) (nf : NoAttr X.K C fld) (hl : fs.length < 1000) (k : ∀ v Hs' H', Same Hs Hs' → (∀ b o, b ≠ sx → H b = some o → H' b = some o) → Same Hs' H' → (∀ b o, H b = some o → isTupO o = false → Hs b = none → Hs' b = none) → H' sx = some (.ins C dx (putF fld v fs)) → DR X.K Hs' v d → St2 X.K H0 Hs' H' σ Γ → wB X rest D σ H')
    (hN : X.N[0]? = some xs := by rfl) (hv : Vis X.env.scope xs := by first | exact Or.inl rfl | exact Or.inr (Or.inl rfl) | exact Or.inr (Or.inr rfl)) (hd : (xs == ("__debug__" : Str)) = false := by decide) (hcd : (xs == ("__classdict__" : Str)) = false := by decide)
    (hs : swapsWith e (some (.Attribute (.Name xs px) fld pa)) pos.line X.env = pure false := by rfl) : wB X (.Assign [.Attribute (.Name xs px) fld pa] e pos :: rest) D σ H := by
  refine wB_cons (wS_of (ps_fld (pe_var hN hv hd hcd) (peW X e) hs) (he H0 Hs H σ S _ fun v Hs1 H1 t1 r1 => ⟨_, h0, sx, C, dx, fs, rfl, t1.h _ _ hx, c, nf, hl, ?_⟩))
  have n1 : Hs1 sx = none := t1.own sx _ hx rfl nx
  have S1 := S.step t1
  have sub1 : Same Hs1 (upd H1 sx (.ins C dx (putF fld v fs))) := fun b o z => by
    rw [upd_ne (show b ≠ sx from fun q => by rw [q, n1] at z; cases z)]
    exact t1.sub b o z
  refine k v Hs1 _ t1.s (fun b o hb z => by rw [upd_ne hb]; exact t1.h b o z) sub1 t1.own upd_same r1 ⟨sub1, S1.len, fun m' e' o h1 h2 => ?_, S1.dis⟩
  have z := S1.ent m' e' o h1 h2
  have hm := List.all_eq_true.mp hown e' (List.mem_of_getElem? h1)
  cases e' with
  | no => trivial
  | val d => exact z
  | own d => cases hm
  | dT d => cases hm
  | dK d => cases hm
end
end K54

set_option Elab.async false
set_option linter.all false
set_option maxRecDepth 100000
set_option maxHeartbeats 40000000
/-! Printed by gen_w.py. -/
namespace K54
open PySem PySem.Spec PyProof.Rows L2
section
variable {P : Program} {w : World} {K : PySem.W.Frag} {mg : Str → Option Value} {base : Heap}
def m_check_letters : Ms := (seqM (ifM (notM (t1 asB (oA (fun ds => F_is_whole (ds ++ [])) (consA (oVar 0) (consA (fun _ => some (.int 2)) (consA (fun _ => some (.int 4)) (fun _ => some []))))))) badM skipM)
    (seqM (retM (oVar 0))
    skipM))
def F_check_letters : List Da → Option Da := resM n_check_letters 1 m_check_letters
theorem ok_check_letters (T : Tx K mg) : CanF P w K mg base 2 "check_letters" [] F_check_letters := by
  obtain ⟨fd, F⟩ := T.f_check_letters
  refine canF (m := m_check_letters) T.g_check_letters F (b_check_letters F) sc_check_letters fun cd A outer s H E hr => ?_
  exact (gb_cons (gs_if (gt_not (gt_val (g_call (Can.mono (ok_is_whole T) (by decide)) hr (ga_cons (g_var 0) (ga_cons g_int (ga_cons g_int ga_nil)))))) gb_bad gb_nil)
    (gb_cons (gs_ret (g_var 0))
    gb_nil))
def m_check_number : Ms := (seqM (ifM (notM (t1 asB (oA (fun ds => F_is_whole (ds ++ [])) (consA (oVar 0) (consA (oVar 1) (consA (oVar 2) (fun _ => some []))))))) badM skipM)
    (seqM (retM (oVar 0))
    skipM))
def F_check_number : List Da → Option Da := resM n_check_number 3 m_check_number
theorem ok_check_number (T : Tx K mg) : CanF P w K mg base 2 "check_number" [] F_check_number := by
  obtain ⟨fd, F⟩ := T.f_check_number
  refine canF (m := m_check_number) T.g_check_number F (b_check_number F) sc_check_number fun cd A outer s H E hr => ?_
  exact (gb_cons (gs_if (gt_not (gt_val (g_call (Can.mono (ok_is_whole T) (by decide)) hr (ga_cons (g_var 0) (ga_cons (g_var 1) (ga_cons (g_var 2) ga_nil)))))) gb_bad gb_nil)
    (gb_cons (gs_ret (g_var 0))
    gb_nil))
def m_power_of : Ms := (seqM (setM 2 (fun _ => some (.int 1)))
    (seqM (forM (srcR1 3 (oVar 1))
    (seqM (setM 2 (o2 mulD (oVar 2) (oVar 0)))
      skipM))
    (seqM (retM (oVar 2))
    skipM)))
def F_power_of : List Da → Option Da := resM n_power_of 2 m_power_of
theorem ok_power_of (T : Tx K mg) : CanF P w K mg base 1 "power_of" [] F_power_of := by
  obtain ⟨fd, F⟩ := T.f_power_of
  refine canF (m := m_power_of) T.g_power_of F (b_power_of F) sc_power_of fun cd A outer s H E hr => ?_
  exact (gb_cons (gs_set 2 g_int sc_power_of.nd)
    (gb_cons (gs_for never rfl (pi_range1 rfl T.b_range (paW _ _) rfl) (pg_name sc_power_of.nd rfl (by first | exact .inl rfl | exact .inr rfl) (by first | exact .inl rfl | exact .inr rfl)) (gsrc_r1 3 (ga_cons (g_var 1) ga_nil))
    (gb_cons (gs_set 2 (g_mul (g_var 2) (g_var 0)) sc_power_of.nd)
      gb_nil))
    (gb_cons (gs_ret (g_var 2))
    gb_nil)))
def m_choose_of : Ms := (seqM (ifM (orM (t2 ltD (oVar 1) (fun _ => some (.int 0))) (t2 gtD (oVar 1) (oVar 0))) (seqM (retM (fun _ => some (.int 0)))
      skipM) skipM)
    (seqM (setM 2 (fun _ => some (.int 1)))
    (seqM (forM (srcR1 3 (o2 minD (oVar 1) (o2 subD (oVar 0) (oVar 1))))
    (seqM (setM 2 (o2 divD (o2 mulD (oVar 2) (o2 subD (oVar 0) (oVar 3))) (o2 addD (oVar 3) (fun _ => some (.int 1)))))
      skipM))
    (seqM (retM (oVar 2))
    skipM))))
def F_choose_of : List Da → Option Da := resM n_choose_of 2 m_choose_of
theorem ok_choose_of (T : Tx K mg) : CanF P w K mg base 1 "choose_of" [] F_choose_of := by
  obtain ⟨fd, F⟩ := T.f_choose_of
  refine canF (m := m_choose_of) T.g_choose_of F (b_choose_of F) sc_choose_of fun cd A outer s H E hr => ?_
  exact (gb_cons (gs_if (gt_or2 (gt_lt (g_var 1) g_int) (gt_gt (g_var 1) (g_var 0))) (gb_cons (gs_ret g_int)
      gb_nil) gb_nil)
    (gb_cons (gs_set 2 g_int sc_choose_of.nd)
    (gb_cons (gs_for never rfl (pi_range1 rfl T.b_range (paW _ _) rfl) (pg_name sc_choose_of.nd rfl (by first | exact .inl rfl | exact .inr rfl) (by first | exact .inl rfl | exact .inr rfl)) (gsrc_r1 3 (ga_cons (g_min rfl T.b_min (g_var 1) (g_sub (g_var 0) (g_var 1))) ga_nil))
    (gb_cons (gs_set 2 (g_div (g_mul (g_var 2) (g_sub (g_var 0) (g_var 3))) (g_add (g_var 3) g_int)) sc_choose_of.nd)
      gb_nil))
    (gb_cons (gs_ret (g_var 2))
    gb_nil))))
end
end K54

set_option Elab.async false
set_option linter.all false
set_option maxRecDepth 100000
set_option maxHeartbeats 40000000
/-! Printed by gen_w.py. -/
namespace K54
open PySem PySem.Spec PyProof.Rows L2
section
variable {P : Program} {w : World} {K : PySem.W.Frag} {mg : Str → Option Value} {base : Heap}
def m_check_word : Ms := (seqM (ifM (orM (notM (t1 asB (o1 isSeqW (oVar 1)))) (t2 gtD (o1 lenD (oVar 1)) (oVar 2))) badM skipM)
    (seqM (forM (srcE 3 4 (oVar 1))
    (seqM (ifM (notM (t1 asB (oA (fun ds => F_is_whole (ds ++ [])) (consA (oVar 4) (consA (fun _ => some (.int 0)) (consA (o2 subD (oVar 0) (fun _ => some (.int 1))) (fun _ => some []))))))) badM skipM)
      skipM))
    (seqM (retM (o1 tupleD (oVar 1)))
    skipM)))
def F_check_word : List Da → Option Da := resM n_check_word 3 m_check_word
theorem gb_check_word (T : Tx K mg) (cd : Value) (A : Around) (outer : List Env) (s : Shared) (H : Hp) (E : XK) (hr : Room 1 (fX P w K mg base n_check_word "check_word" (defScope s_check_word) (He.fAd K ("check_word", none)) cd A outer s H E).A) : GB (fX P w K mg base n_check_word "check_word" (defScope s_check_word) (He.fAd K ("check_word", none)) cd A outer s H E) (defBody s_check_word) m_check_word :=
  (gb_cons (gs_if (gt_or2 (gt_not (gt_val (g_isLT T.b_isinstance T.b_list T.b_tuple (g_var 1)))) (gt_gt (g_len T.b_len (g_var 1)) (g_var 2))) gb_bad gb_nil)
    (gb_cons (gs_for never rfl (pi_enA rfl T.b_enumerate (paW _ _) rfl) (pg_pair rfl sc_check_word.nd rfl rfl (by first | exact .inl rfl | exact .inr rfl) (by first | exact .inl rfl | exact .inr rfl) (by first | exact .inl rfl | exact .inr rfl) (by first | exact .inl rfl | exact .inr rfl)) (gsrc_en 3 4 (ga_cons (g_var 1) ga_nil))
    (gb_cons (gs_if (gt_not (gt_val (g_call (Can.mono (ok_is_whole T) (by decide)) hr (ga_cons (g_var 4) (ga_cons g_int (ga_cons (g_sub (g_var 0) g_int) ga_nil)))))) gb_bad gb_nil)
      gb_nil))
    (gb_cons (gs_ret (g_tuple T.b_tuple (g_var 1)))
    gb_nil)))
theorem ok_check_word (T : Tx K mg) : CanF P w K mg base 2 "check_word" [] F_check_word := by
  obtain ⟨fd, F⟩ := T.f_check_word
  obtain ⟨its, hv, hb⟩ := F.binds1 (ps := ["letters", "word", "most"]) 3 1 (List.cons_ne_nil _ _) rfl fun T0 kV doc pm an cdv ct us its hl hi => by
    match us, hl, its, hi with
    | [_, _, _], _, [_], _ => exact ⟨_, rfl, rfl⟩
  exact ⟨_, fd, _, _, _, T.g_check_word, F.kp, hv, hb, fn_ok F sc_check_word _ (fun ds r h => resM_len h) (fun cd A outer s H E hr ds r h => resM_bd (gb_check_word T cd A outer s H E hr) h), fun H => .nil⟩
theorem ok_check_word2 (T : Tx K mg) : CanF P w K mg base 2 "check_word" [.int 24] F_check_word := by
  obtain ⟨fd, F⟩ := T.f_check_word
  obtain ⟨its, hv, hb⟩ := F.binds1 (ps := ["letters", "word", "most"]) 2 0 (List.cons_ne_nil _ _) rfl fun T0 kV doc pm an cdv ct us its hl hi => by
    match us, hl, its, hi with
    | [_, _], _, [_], _ => exact ⟨_, rfl, rfl⟩
  exact ⟨_, fd, _, _, _, T.g_check_word, F.kp, hv, hb, fn_ok F sc_check_word _ (fun ds r h => resM_len h) (fun cd A outer s H E hr ds r h => resM_bd (gb_check_word T cd A outer s H E hr) h), fun H => .cons rfl .nil⟩
def m_count_above : Ms := (seqM (setM 3 (fun _ => some (.int 0)))
    (seqM (forM (srcR1 4 (o2 addD (oVar 2) (fun _ => some (.int 1))))
    (seqM (setM 3 (o2 addD (oVar 3) (o2 mulD (oA (fun ds => F_choose_of (ds ++ [])) (consA (o2 addD (oVar 1) (oVar 2)) (consA (oVar 4) (fun _ => some [])))) (oA (fun ds => F_power_of (ds ++ [])) (consA (o2 subD (oVar 0) (fun _ => some (.int 1))) (consA (oVar 4) (fun _ => some [])))))))
      skipM))
    (seqM (retM (oVar 3))
    skipM)))
def F_count_above : List Da → Option Da := resM n_count_above 3 m_count_above
theorem ok_count_above (T : Tx K mg) : CanF P w K mg base 2 "count_above" [] F_count_above := by
  obtain ⟨fd, F⟩ := T.f_count_above
  refine canF (m := m_count_above) T.g_count_above F (b_count_above F) sc_count_above fun cd A outer s H E hr => ?_
  exact (gb_cons (gs_set 3 g_int sc_count_above.nd)
    (gb_cons (gs_for never rfl (pi_range1 rfl T.b_range (paW _ _) rfl) (pg_name sc_count_above.nd rfl (by first | exact .inl rfl | exact .inr rfl) (by first | exact .inl rfl | exact .inr rfl)) (gsrc_r1 4 (ga_cons (g_add (g_var 2) g_int) ga_nil))
    (gb_cons (gs_set 3 (g_add (g_var 3) (g_mul (g_call (Can.mono (ok_choose_of T) (by decide)) hr (ga_cons (g_add (g_var 1) (g_var 2)) (ga_cons (g_var 4) ga_nil))) (g_call (Can.mono (ok_power_of T) (by decide)) hr (ga_cons (g_sub (g_var 0) g_int) (ga_cons (g_var 4) ga_nil))))) sc_count_above.nd)
      gb_nil))
    (gb_cons (gs_ret (g_var 3))
    gb_nil)))
def m_longer_words : Ms := (seqM (emptyT 2)
    (seqM (forM (srcA 3 (oVar 1))
    (seqM (forM (srcR1 4 (o2 addD (o1 lenD (oVar 3)) (fun _ => some (.int 1))))
      (seqM (forM (srcR1 5 (oVar 0))
        (seqM (putT 2 (o2 addD (o2 addD (o2 toD (oVar 3) (oVar 4)) (oA tupD (consA (oVar 5) (fun _ => some [])))) (o2 fromD (oVar 3) (oVar 4))))
          skipM))
        skipM))
      skipM))
    (seqM (retM (o1 sortD (keysM 2)))
    skipM)))
def F_longer_words : List Da → Option Da := resM n_longer_words 2 m_longer_words
theorem ok_longer_words (T : Tx K mg) : CanF P w K mg base 1 "longer_words" [] F_longer_words := by
  obtain ⟨fd, F⟩ := T.f_longer_words
  refine canF (m := m_longer_words) T.g_longer_words F (b_longer_words F) sc_longer_words fun cd A outer s H E hr => ?_
  exact (gb_cons (gs_setT 2 sc_longer_words.nd)
    (gb_cons (gs_for never rfl (pi_any (peW _ _)) (pg_name sc_longer_words.nd rfl (by first | exact .inl rfl | exact .inr rfl) (by first | exact .inl rfl | exact .inr rfl)) (gsrc_any 3 (g_var 1))
    (gb_cons (gs_for never rfl (pi_range1 rfl T.b_range (paW _ _) rfl) (pg_name sc_longer_words.nd rfl (by first | exact .inl rfl | exact .inr rfl) (by first | exact .inl rfl | exact .inr rfl)) (gsrc_r1 4 (ga_cons (g_add (g_len T.b_len (g_var 3)) g_int) ga_nil))
      (gb_cons (gs_for never rfl (pi_range1 rfl T.b_range (paW _ _) rfl) (pg_name sc_longer_words.nd rfl (by first | exact .inl rfl | exact .inr rfl) (by first | exact .inl rfl | exact .inr rfl)) (gsrc_r1 5 (ga_cons (g_var 0) ga_nil))
        (gb_cons (gs_putT 2 hr (g_add (g_add (g_to (g_var 3) (g_var 4)) (g_tup (ga_cons (g_var 5) ga_nil))) (g_from (g_var 3) (g_var 4))))
          gb_nil))
        gb_nil))
      gb_nil))
    (gb_cons (gs_ret (g_new (gn_sorted T.b_sorted (g_new (gn_keys 2 rfl T.b_list)))))
    gb_nil)))
def m_above_words : Ms := (seqM (exM (oA (fun ds => F_check_letters (ds ++ [])) (consA (oVar 0) (fun _ => some []))))
    (seqM (setM 1 (oA (fun ds => F_check_word (ds ++ [.int 24])) (consA (oVar 0) (consA (oVar 1) (fun _ => some [])))))
    (seqM (exM (oA (fun ds => F_check_number (ds ++ [])) (consA (oVar 2) (consA (fun _ => some (.int 0)) (consA (fun _ => some (.int 24)) (fun _ => some []))))))
    (seqM (setM 3 (oA (fun ds => F_count_above (ds ++ [])) (consA (oVar 0) (consA (o1 lenD (oVar 1)) (consA (oVar 2) (fun _ => some []))))))
    (seqM (ifM (t2 gtD (oVar 3) (fun _ => some (.int 2000))) badM skipM)
    (seqM (setM 4 (oA lstD (consA (oVar 1) (fun _ => some []))))
    (seqM (forM (srcR1 5 (oVar 2))
    (seqM (setM 4 (oA (fun ds => F_longer_words (ds ++ [])) (consA (oVar 0) (consA (oVar 4) (fun _ => some [])))))
      skipM))
    (seqM (retM (o1 tupleD (oVar 4)))
    skipM))))))))
def F_above_words : List Da → Option Da := resM n_above_words 3 m_above_words
theorem ok_above_words (T : Tx K mg) : CanF P w K mg base 3 "above_words" [] F_above_words := by
  obtain ⟨fd, F⟩ := T.f_above_words
  refine canF (m := m_above_words) T.g_above_words F (b_above_words F) sc_above_words fun cd A outer s H E hr => ?_
  exact (gb_cons (gs_expr (g_call (Can.mono (ok_check_letters T) (by decide)) hr (ga_cons (g_var 0) ga_nil)))
    (gb_cons (gs_set 1 (g_call (Can.mono (ok_check_word2 T) (by decide)) hr (ga_cons (g_var 0) (ga_cons (g_var 1) ga_nil))) sc_above_words.nd)
    (gb_cons (gs_expr (g_call (Can.mono (ok_check_number T) (by decide)) hr (ga_cons (g_var 2) (ga_cons g_int (ga_cons g_int ga_nil)))))
    (gb_cons (gs_set 3 (g_call (Can.mono (ok_count_above T) (by decide)) hr (ga_cons (g_var 0) (ga_cons (g_len T.b_len (g_var 1)) (ga_cons (g_var 2) ga_nil)))) sc_above_words.nd)
    (gb_cons (gs_if (gt_gt (g_var 3) (g_glob T.i_MOST_WORDS_above)) gb_bad gb_nil)
    (gb_cons (gs_set 4 (g_new (gn_lst (ga_cons (g_var 1) ga_nil))) sc_above_words.nd)
    (gb_cons (gs_for never rfl (pi_range1 rfl T.b_range (paW _ _) rfl) (pg_name sc_above_words.nd rfl (by first | exact .inl rfl | exact .inr rfl) (by first | exact .inl rfl | exact .inr rfl)) (gsrc_r1 5 (ga_cons (g_var 2) ga_nil))
    (gb_cons (gs_set 4 (g_call (Can.mono (ok_longer_words T) (by decide)) hr (ga_cons (g_var 0) (ga_cons (g_var 4) ga_nil))) sc_above_words.nd)
      gb_nil))
    (gb_cons (gs_ret (g_tuple T.b_tuple (g_var 4)))
    gb_nil))))))))
def m_count_table : Ms := (seqM (ownM 1 (oA lstD (consA (oA lstD (consA (fun _ => some (.int 1)) (fun _ => some []))) (fun _ => some []))))
    (seqM (emptyK 2)
    (seqM (forM (srcE 3 4 (oVar 0))
    (seqM (setM 5 (ixM 1 (oVar 3)))
      (seqM (ownM 6 (o1 (repD 1) (o2 addD (oVar 3) (fun _ => some (.int 2)))))
      (seqM (forM (srcR2 7 (fun _ => some (.int 1)) (o2 addD (oVar 3) (fun _ => some (.int 2))))
      (seqM (setM 8 (o2 ixD (oVar 5) (o2 subD (oVar 7) (fun _ => some (.int 1)))))
        (seqM (ifM (t2 leD (oVar 7) (oVar 3)) (seqM (setM 8 (o2 addD (oVar 8) (o2 ixD (oVar 5) (oVar 7))))
          skipM) skipM)
        (seqM (ifM (andM (inM 2 (oVar 4)) (t2 leD (o2 subD (oVar 7) (fun _ => some (.int 1))) (getM 2 (oVar 4)))) (seqM (setM 8 (o2 subD (oVar 8) (o2 ixD (ixM 1 (getM 2 (oVar 4))) (o2 subD (oVar 7) (fun _ => some (.int 1))))))
          skipM) skipM)
        (seqM (putM 6 (oVar 7) (oVar 8))
        skipM)))))
      (seqM (appOwnM 1 6)
      (seqM (putKM 2 (oVar 3) (oVar 4))
      skipM))))))
    (freezeM 1 (seqM (retM (oVar 1))
    skipM)))))
def F_count_table : List Da → Option Da := resM n_count_table 1 m_count_table
theorem ok_count_table (T : Tx K mg) : CanF P w K mg base 1 "count_table" [] F_count_table := by
  obtain ⟨fd, F⟩ := T.f_count_table
  refine canF (m := m_count_table) T.g_count_table F (b_count_table F) sc_count_table fun cd A outer s H E hr => ?_
  exact (gb_cons (gs_own 1 (gn_lst (ga_cons (g_new (gn_lst (ga_cons g_int ga_nil))) ga_nil)) sc_count_table.nd)
    (gb_cons (gs_setK 2 sc_count_table.nd)
    (gb_cons (gs_for never rfl (pi_enA rfl T.b_enumerate (paW _ _) rfl) (pg_pair rfl sc_count_table.nd rfl rfl (by first | exact .inl rfl | exact .inr rfl) (by first | exact .inl rfl | exact .inr rfl) (by first | exact .inl rfl | exact .inr rfl) (by first | exact .inl rfl | exact .inr rfl)) (gsrc_en 3 4 (ga_cons (g_var 0) ga_nil))
    (gb_cons (gs_set 5 (g_ixOwn 1 (g_var 3)) sc_count_table.nd)
      (gb_cons (gs_own 6 (gn_rep (g_add (g_var 3) g_int)) sc_count_table.nd)
      (gb_cons (gs_for never rfl (pi_range2 rfl T.b_range (paW _ _) rfl rfl) (pg_name sc_count_table.nd rfl (by first | exact .inl rfl | exact .inr rfl) (by first | exact .inl rfl | exact .inr rfl)) (gsrc_r2 7 (ga_cons g_int (ga_cons (g_add (g_var 3) g_int) ga_nil)))
      (gb_cons (gs_set 8 (g_ix (g_var 5) (g_sub (g_var 7) g_int)) sc_count_table.nd)
        (gb_cons (gs_if (gt_le (g_var 7) (g_var 3)) (gb_cons (gs_set 8 (g_add (g_var 8) (g_ix (g_var 5) (g_var 7))) sc_count_table.nd)
          gb_nil) gb_nil)
        (gb_cons (gs_if (gt_and2 (gt_in 2 hr (g_var 4)) (gt_le (g_sub (g_var 7) g_int) (g_dget 2 hr (g_var 4)))) (gb_cons (gs_set 8 (g_sub (g_var 8) (g_ix (g_ixOwn 1 (g_dget 2 hr (g_var 4))) (g_sub (g_var 7) g_int))) sc_count_table.nd)
          gb_nil) gb_nil)
        (gb_cons (gs_put 6 (g_var 8) (g_var 7))
        gb_nil)))))
      (gb_cons (gs_appOwn 1 6 (by decide))
      (gb_cons (gs_putK 2 hr (g_var 4) (g_var 3))
      gb_nil))))))
    (gb_freeze 1 (gb_cons (gs_ret (g_var 1))
    gb_nil)))))
def m_below_count : Ms := (seqM (setM 0 (oA (fun ds => F_check_word (ds ++ [])) (consA (fun _ => some (.int 4)) (consA (oVar 0) (consA (fun _ => some (.int 60)) (fun _ => some []))))))
    (seqM (exM (oA (fun ds => F_check_number (ds ++ [])) (consA (oVar 1) (consA (fun _ => some (.int 0)) (consA (fun _ => some (.int 60)) (fun _ => some []))))))
    (seqM (ifM (t2 gtD (oVar 1) (o1 lenD (oVar 0))) (seqM (retM (fun _ => some (.int 0)))
      skipM) skipM)
    (seqM (retM (o2 ixD (o2 ixD (oA (fun ds => F_count_table (ds ++ [])) (consA (oVar 0) (fun _ => some []))) (o1 lenD (oVar 0))) (o2 subD (o1 lenD (oVar 0)) (oVar 1))))
    skipM))))
def F_below_count : List Da → Option Da := resM n_below_count 2 m_below_count
theorem ok_below_count (T : Tx K mg) : CanF P w K mg base 3 "below_count" [] F_below_count := by
  obtain ⟨fd, F⟩ := T.f_below_count
  refine canF (m := m_below_count) T.g_below_count F (b_below_count F) sc_below_count fun cd A outer s H E hr => ?_
  exact (gb_cons (gs_set 0 (g_call (Can.mono (ok_check_word T) (by decide)) hr (ga_cons g_int (ga_cons (g_var 0) (ga_cons g_int ga_nil)))) sc_below_count.nd)
    (gb_cons (gs_expr (g_call (Can.mono (ok_check_number T) (by decide)) hr (ga_cons (g_var 1) (ga_cons g_int (ga_cons g_int ga_nil)))))
    (gb_cons (gs_if (gt_gt (g_var 1) (g_len T.b_len (g_var 0))) (gb_cons (gs_ret g_int)
      gb_nil) gb_nil)
    (gb_cons (gs_ret (g_ix (g_ix (g_call (Can.mono (ok_count_table T) (by decide)) hr (ga_cons (g_var 0) ga_nil)) (g_len T.b_len (g_var 0))) (g_sub (g_len T.b_len (g_var 0)) (g_var 1))))
    gb_nil))))
def m_next_place : Ms := (seqM (forM (srcR2 3 (oVar 2) (o1 lenD (oVar 0)))
    (seqM (ifM (t2 eqD (o2 ixD (oVar 0) (oVar 3)) (oVar 1)) (seqM (retM (oVar 3))
        skipM) skipM)
      skipM))
    (seqM (retM (o1 lenD (oVar 0)))
    skipM))
def F_next_place : List Da → Option Da := resM n_next_place 3 m_next_place
theorem ok_next_place (T : Tx K mg) : CanF P w K mg base 1 "next_place" [] F_next_place := by
  obtain ⟨fd, F⟩ := T.f_next_place
  refine canF (m := m_next_place) T.g_next_place F (b_next_place F) sc_next_place fun cd A outer s H E hr => ?_
  exact (gb_cons (gs_for never rfl (pi_range2 rfl T.b_range (paW _ _) rfl rfl) (pg_name sc_next_place.nd rfl (by first | exact .inl rfl | exact .inr rfl) (by first | exact .inl rfl | exact .inr rfl)) (gsrc_r2 3 (ga_cons (g_var 2) (ga_cons (g_len T.b_len (g_var 0)) ga_nil)))
    (gb_cons (gs_if (gt_eq (g_ix (g_var 0) (g_var 3)) (g_var 1)) (gb_cons (gs_ret (g_var 3))
        gb_nil) gb_nil)
      gb_nil))
    (gb_cons (gs_ret (g_len T.b_len (g_var 0)))
    gb_nil))
def m_below_words : Ms := (seqM (setM 0 (oA (fun ds => F_check_word (ds ++ [.int 24])) (consA (fun _ => some (.int 4)) (consA (oVar 0) (fun _ => some [])))))
    (seqM (exM (oA (fun ds => F_check_number (ds ++ [])) (consA (oVar 1) (consA (fun _ => some (.int 0)) (consA (fun _ => some (.int 24)) (fun _ => some []))))))
    (seqM (ifM (t2 gtD (oVar 1) (o1 lenD (oVar 0))) (seqM (retM (oA tupD (fun _ => some [])))
      skipM) skipM)
    (seqM (setM 2 (oA (fun ds => F_below_count (ds ++ [])) (consA (oVar 0) (consA (oVar 1) (fun _ => some [])))))
    (seqM (ifM (t2 gtD (oVar 2) (fun _ => some (.int 2000))) badM skipM)
    (seqM (setM 3 (oA lstD (consA (oA tupD (consA (oA tupD (fun _ => some [])) (consA (fun _ => some (.int 0)) (fun _ => some [])))) (fun _ => some []))))
    (seqM (forM (srcR1 4 (o2 subD (o1 lenD (oVar 0)) (oVar 1)))
    (seqM (ownM 5 (fun _ => some (.lp [])))
      (seqM (forM (srcLp 6 7 (o1 listOf (oVar 3)))
      (seqM (forM (srcR1 8 (fun _ => some (.int 4)))
        (seqM (setM 9 (oA (fun ds => F_next_place (ds ++ [])) (consA (oVar 0) (consA (oVar 8) (consA (oVar 7) (fun _ => some []))))))
          (seqM (ifM (andM (t2 leD (oVar 9) (o2 addD (oVar 1) (oVar 4))) (t2 ltD (oVar 9) (o1 lenD (oVar 0)))) (seqM (appM 5 (oA tupD (consA (o2 addD (oVar 6) (oA tupD (consA (oVar 8) (fun _ => some [])))) (consA (o2 addD (oVar 9) (fun _ => some (.int 1))) (fun _ => some [])))))
            skipM) skipM)
          skipM)))
        skipM))
      (freezeM 5 (seqM (setM 3 (oVar 5))
      skipM)))))
    (seqM (retM (o1 tupleD (lcM (.lw []) (srcA 10 (oVar 3)) [10] yesM (o1 headD (oVar 10)))))
    skipM))))))))
def F_below_words : List Da → Option Da := resM n_below_words 2 m_below_words
theorem ok_below_words (T : Tx K mg) : CanF P w K mg base 4 "below_words" [] F_below_words := by
  obtain ⟨fd, F⟩ := T.f_below_words
  refine canF (m := m_below_words) T.g_below_words F (b_below_words F) sc_below_words fun cd A outer s H E hr => ?_
  exact (gb_cons (gs_set 0 (g_call (Can.mono (ok_check_word2 T) (by decide)) hr (ga_cons g_int (ga_cons (g_var 0) ga_nil))) sc_below_words.nd)
    (gb_cons (gs_expr (g_call (Can.mono (ok_check_number T) (by decide)) hr (ga_cons (g_var 1) (ga_cons g_int (ga_cons g_int ga_nil)))))
    (gb_cons (gs_if (gt_gt (g_var 1) (g_len T.b_len (g_var 0))) (gb_cons (gs_ret (g_tup ga_nil))
      gb_nil) gb_nil)
    (gb_cons (gs_set 2 (g_call (Can.mono (ok_below_count T) (by decide)) hr (ga_cons (g_var 0) (ga_cons (g_var 1) ga_nil))) sc_below_words.nd)
    (gb_cons (gs_if (gt_gt (g_var 2) (g_glob T.i_MOST_WORDS_below)) gb_bad gb_nil)
    (gb_cons (gs_set 3 (g_new (gn_lst (ga_cons (g_tup (ga_cons (g_tup ga_nil) (ga_cons g_int ga_nil))) ga_nil))) sc_below_words.nd)
    (gb_cons (gs_for never rfl (pi_range1 rfl T.b_range (paW _ _) rfl) (pg_name sc_below_words.nd rfl (by first | exact .inl rfl | exact .inr rfl) (by first | exact .inl rfl | exact .inr rfl)) (gsrc_r1 4 (ga_cons (g_sub (g_len T.b_len (g_var 0)) (g_var 1)) ga_nil))
    (gb_cons (gs_own 5 (gn_nil (.lp [])) sc_below_words.nd)
      (gb_cons (gs_for never rfl (pi_list (peW _ _)) (pg_pair rfl sc_below_words.nd rfl rfl (by first | exact .inl rfl | exact .inr rfl) (by first | exact .inl rfl | exact .inr rfl) (by first | exact .inl rfl | exact .inr rfl) (by first | exact .inl rfl | exact .inr rfl)) (gsrc_lp 6 7 (g_new (gn_list T.b_list (g_var 3))))
      (gb_cons (gs_for never rfl (pi_range1 rfl T.b_range (paW _ _) rfl) (pg_name sc_below_words.nd rfl (by first | exact .inl rfl | exact .inr rfl) (by first | exact .inl rfl | exact .inr rfl)) (gsrc_r1 8 (ga_cons g_int ga_nil))
        (gb_cons (gs_set 9 (g_call (Can.mono (ok_next_place T) (by decide)) hr (ga_cons (g_var 0) (ga_cons (g_var 8) (ga_cons (g_var 7) ga_nil)))) sc_below_words.nd)
          (gb_cons (gs_if (gt_and2 (gt_le (g_var 9) (g_add (g_var 1) (g_var 4))) (gt_lt (g_var 9) (g_len T.b_len (g_var 0)))) (gb_cons (gs_app 5 (g_tup (ga_cons (g_add (g_var 6) (g_tup (ga_cons (g_var 8) ga_nil))) (ga_cons (g_add (g_var 9) g_int) ga_nil))))
            gb_nil) gb_nil)
          gb_nil)))
        gb_nil))
      (gb_freeze 5 (gb_cons (gs_set 3 (g_var 5) sc_below_words.nd)
      gb_nil)))))
    (gb_cons (gs_ret (g_tuple T.b_tuple (g_new (gn_lc0 (own := [("row", 10)]) (.lw []) rfl sc_below_words.nd (pi_any (peW _ _)) (blk_ok (N := n_below_words) (sc := defScope s_below_words) rfl (by decide +kernel) (by decide +kernel) (by decide +kernel) (by decide +kernel)) (fun _ _ _ _ _ => pg_name sc_below_words.nd rfl (by first | exact .inl rfl | exact .inr rfl) (by first | exact .inl rfl | exact .inr rfl)) (gsrc_any 10 (g_var 3)) (fun _ _ _ _ _ => (g_head (g_var 10)))))))
    gb_nil))))))))
end
end K54

set_option Elab.async false
set_option linter.all false
set_option maxRecDepth 100000
set_option maxHeartbeats 40000000
/-! Printed by gen_w.py. -/
namespace K54
open PySem PySem.Spec PyProof.Rows L2
section
variable {P : Program} {w : World} {K : PySem.W.Frag} {mg : Str → Option Value} {base : Heap}
def m_rest_lengths : Ms := (seqM (ownM 2 (oA lstD (consA (o1 (repD 0) (o2 addD (o1 lenD (oVar 1)) (fun _ => some (.int 1)))) (fun _ => some []))))
    (seqM (forM (srcA 3 (o1 revTD (oVar 0)))
    (seqM (setM 4 (lastM 2))
      (seqM (ownM 5 (o1 (repD 0) (o2 addD (o1 lenD (oVar 1)) (fun _ => some (.int 1)))))
      (seqM (forM (srcR3 6 (o2 subD (o1 lenD (oVar 1)) (fun _ => some (.int 1))) (o1 negD (fun _ => some (.int 1))))
      (seqM (putM 5 (oVar 6) (o2 maxD (o2 ixD (oVar 4) (oVar 6)) (ixM 5 (o2 addD (oVar 6) (fun _ => some (.int 1))))))
        (seqM (ifM (t2 eqD (o2 ixD (oVar 1) (oVar 6)) (oVar 3)) (seqM (putM 5 (oVar 6) (o2 addD (o2 ixD (oVar 4) (o2 addD (oVar 6) (fun _ => some (.int 1)))) (fun _ => some (.int 1))))
          skipM) skipM)
        skipM)))
      (seqM (appOwnM 2 5)
      skipM)))))
    (freezeM 2 (seqM (retM (o1 revL (oVar 2)))
    skipM))))
def F_rest_lengths : List Da → Option Da := resM n_rest_lengths 2 m_rest_lengths
theorem ok_rest_lengths (T : Tx K mg) : CanF P w K mg base 1 "rest_lengths" [] F_rest_lengths := by
  obtain ⟨fd, F⟩ := T.f_rest_lengths
  refine canF (m := m_rest_lengths) T.g_rest_lengths F (b_rest_lengths F) sc_rest_lengths fun cd A outer s H E hr => ?_
  exact (gb_cons (gs_own 2 (gn_lst (ga_cons (g_new (gn_rep (g_add (g_len T.b_len (g_var 1)) g_int))) ga_nil)) sc_rest_lengths.nd)
    (gb_cons (gs_for never rfl (pi_any (peW _ _)) (pg_name sc_rest_lengths.nd rfl (by first | exact .inl rfl | exact .inr rfl) (by first | exact .inl rfl | exact .inr rfl)) (gsrc_any 3 (g_revT (g_var 0)))
    (gb_cons (gs_set 4 (g_lastOwn 2) sc_rest_lengths.nd)
      (gb_cons (gs_own 5 (gn_rep (g_add (g_len T.b_len (g_var 1)) g_int)) sc_rest_lengths.nd)
      (gb_cons (gs_for never rfl (pi_range3 rfl T.b_range (paW _ _)) (pg_name sc_rest_lengths.nd rfl (by first | exact .inl rfl | exact .inr rfl) (by first | exact .inl rfl | exact .inr rfl)) (gsrc_r3 6 (ga_cons (g_sub (g_len T.b_len (g_var 1)) g_int) (ga_cons (g_neg g_int) (ga_cons g_m1 ga_nil))))
      (gb_cons (gs_put 5 (g_max rfl T.b_max (g_ix (g_var 4) (g_var 6)) (g_ixOwn 5 (g_add (g_var 6) g_int))) (g_var 6))
        (gb_cons (gs_if (gt_eq (g_ix (g_var 1) (g_var 6)) (g_var 3)) (gb_cons (gs_put 5 (g_add (g_ix (g_var 4) (g_add (g_var 6) g_int)) g_int) (g_var 6))
          gb_nil) gb_nil)
        gb_nil)))
      (gb_cons (gs_appOwn 2 5 (by decide))
      gb_nil)))))
    (gb_freeze 2 (gb_cons (gs_ret (g_new (gn_rev (g_var 2))))
    gb_nil))))
def m_common_length : Ms := (seqM (setM 0 (oA (fun ds => F_check_word (ds ++ [])) (consA (fun _ => some (.int 4)) (consA (oVar 0) (consA (fun _ => some (.int 48)) (fun _ => some []))))))
    (seqM (setM 1 (oA (fun ds => F_check_word (ds ++ [])) (consA (fun _ => some (.int 4)) (consA (oVar 1) (consA (fun _ => some (.int 48)) (fun _ => some []))))))
    (seqM (retM (o2 ixD (o2 ixD (oA (fun ds => F_rest_lengths (ds ++ [])) (consA (oVar 0) (consA (oVar 1) (fun _ => some [])))) (fun _ => some (.int 0))) (fun _ => some (.int 0))))
    skipM)))
def F_common_length : List Da → Option Da := resM n_common_length 2 m_common_length
theorem ok_common_length (T : Tx K mg) : CanF P w K mg base 3 "common_length" [] F_common_length := by
  obtain ⟨fd, F⟩ := T.f_common_length
  refine canF (m := m_common_length) T.g_common_length F (b_common_length F) sc_common_length fun cd A outer s H E hr => ?_
  exact (gb_cons (gs_set 0 (g_call (Can.mono (ok_check_word T) (by decide)) hr (ga_cons g_int (ga_cons (g_var 0) (ga_cons g_int ga_nil)))) sc_common_length.nd)
    (gb_cons (gs_set 1 (g_call (Can.mono (ok_check_word T) (by decide)) hr (ga_cons g_int (ga_cons (g_var 1) (ga_cons g_int ga_nil)))) sc_common_length.nd)
    (gb_cons (gs_ret (g_ix (g_ix (g_call (Can.mono (ok_rest_lengths T) (by decide)) hr (ga_cons (g_var 0) (ga_cons (g_var 1) ga_nil))) g_int) g_int))
    gb_nil)))
def m_come_to : Ms := (seqM (exM (oA (fun ds => F_check_letters (ds ++ [])) (consA (oVar 0) (fun _ => some []))))
    (seqM (setM 1 (oA (fun ds => F_check_word (ds ++ [.int 24])) (consA (oVar 0) (consA (oVar 1) (fun _ => some [])))))
    (seqM (exM (oA (fun ds => F_check_number (ds ++ [])) (consA (oVar 2) (consA (fun _ => some (.int 0)) (consA (fun _ => some (.int 24)) (fun _ => some []))))))
    (seqM (exM (oA (fun ds => F_check_number (ds ++ [])) (consA (oVar 3) (consA (fun _ => some (.int 0)) (consA (fun _ => some (.int 24)) (fun _ => some []))))))
    (seqM (ifM (t2 gtD (oVar 2) (o1 lenD (oVar 1))) (seqM (retM (oA tupD (fun _ => some [])))
      skipM) skipM)
    (seqM (setM 4 (o2 mulD (oA (fun ds => F_below_count (ds ++ [])) (consA (oVar 1) (consA (oVar 2) (fun _ => some [])))) (oA (fun ds => F_count_above (ds ++ [])) (consA (oVar 0) (consA (o2 subD (o1 lenD (oVar 1)) (oVar 2)) (consA (oVar 3) (fun _ => some [])))))))
    (seqM (ifM (t2 gtD (oVar 4) (fun _ => some (.int 2000))) badM skipM)
    (seqM (emptyT 5)
    (seqM (forM (srcA 6 (oA (fun ds => F_below_words (ds ++ [])) (consA (oVar 1) (consA (oVar 2) (fun _ => some [])))))
    (seqM (forM (srcA 7 (oA (fun ds => F_above_words (ds ++ [])) (consA (oVar 0) (consA (oVar 6) (consA (oVar 3) (fun _ => some []))))))
      (seqM (putT 5 (oVar 7))
        skipM))
      skipM))
    (seqM (retM (o1 tupleD (o1 sortD (keysM 5))))
    skipM))))))))))
def F_come_to : List Da → Option Da := resM n_come_to 4 m_come_to
theorem ok_come_to (T : Tx K mg) : CanF P w K mg base 5 "come_to" [] F_come_to := by
  obtain ⟨fd, F⟩ := T.f_come_to
  refine canF (m := m_come_to) T.g_come_to F (b_come_to F) sc_come_to fun cd A outer s H E hr => ?_
  exact (gb_cons (gs_expr (g_call (Can.mono (ok_check_letters T) (by decide)) hr (ga_cons (g_var 0) ga_nil)))
    (gb_cons (gs_set 1 (g_call (Can.mono (ok_check_word2 T) (by decide)) hr (ga_cons (g_var 0) (ga_cons (g_var 1) ga_nil))) sc_come_to.nd)
    (gb_cons (gs_expr (g_call (Can.mono (ok_check_number T) (by decide)) hr (ga_cons (g_var 2) (ga_cons g_int (ga_cons g_int ga_nil)))))
    (gb_cons (gs_expr (g_call (Can.mono (ok_check_number T) (by decide)) hr (ga_cons (g_var 3) (ga_cons g_int (ga_cons g_int ga_nil)))))
    (gb_cons (gs_if (gt_gt (g_var 2) (g_len T.b_len (g_var 1))) (gb_cons (gs_ret (g_tup ga_nil))
      gb_nil) gb_nil)
    (gb_cons (gs_set 4 (g_mul (g_call (Can.mono (ok_below_count T) (by decide)) hr (ga_cons (g_var 1) (ga_cons (g_var 2) ga_nil))) (g_call (Can.mono (ok_count_above T) (by decide)) hr (ga_cons (g_var 0) (ga_cons (g_sub (g_len T.b_len (g_var 1)) (g_var 2)) (ga_cons (g_var 3) ga_nil))))) sc_come_to.nd)
    (gb_cons (gs_if (gt_gt (g_var 4) (g_glob T.i_MOST_WORDS_below)) gb_bad gb_nil)
    (gb_cons (gs_setT 5 sc_come_to.nd)
    (gb_cons (gs_for never rfl (pi_any (peW _ _)) (pg_name sc_come_to.nd rfl (by first | exact .inl rfl | exact .inr rfl) (by first | exact .inl rfl | exact .inr rfl)) (gsrc_any 6 (g_call (Can.mono (ok_below_words T) (by decide)) hr (ga_cons (g_var 1) (ga_cons (g_var 2) ga_nil))))
    (gb_cons (gs_for never rfl (pi_any (peW _ _)) (pg_name sc_come_to.nd rfl (by first | exact .inl rfl | exact .inr rfl) (by first | exact .inl rfl | exact .inr rfl)) (gsrc_any 7 (g_call (Can.mono (ok_above_words T) (by decide)) hr (ga_cons (g_var 0) (ga_cons (g_var 6) (ga_cons (g_var 3) ga_nil)))))
      (gb_cons (gs_putT 5 hr (g_var 7))
        gb_nil))
      gb_nil))
    (gb_cons (gs_ret (g_tuple T.b_tuple (g_new (gn_sorted T.b_sorted (g_new (gn_keys 5 rfl T.b_list))))))
    gb_nil))))))))))
def m_check_weights : Ms := (seqM (ifM (orM (notM (t1 asB (o1 isSeqW (oVar 0)))) (t2 gtD (o1 lenD (oVar 0)) (fun _ => some (.int 24)))) badM skipM)
    (seqM (forM (srcE 1 2 (oVar 0))
    (seqM (ifM (notM (t1 asB (oA (fun ds => F_is_whole (ds ++ [])) (consA (oVar 2) (consA (fun _ => some (.int 1)) (consA (fun _ => some (.int 1000000000000000)) (fun _ => some []))))))) badM skipM)
      skipM))
    (seqM (retM (o1 tupleD (oVar 0)))
    skipM)))
def F_check_weights : List Da → Option Da := resM n_check_weights 1 m_check_weights
theorem ok_check_weights (T : Tx K mg) : CanF P w K mg base 2 "check_weights" [] F_check_weights := by
  obtain ⟨fd, F⟩ := T.f_check_weights
  refine canF (m := m_check_weights) T.g_check_weights F (b_check_weights F) sc_check_weights fun cd A outer s H E hr => ?_
  exact (gb_cons (gs_if (gt_or2 (gt_not (gt_val (g_isLT T.b_isinstance T.b_list T.b_tuple (g_var 0)))) (gt_gt (g_len T.b_len (g_var 0)) (g_glob T.i_MOST_WEIGHTS))) gb_bad gb_nil)
    (gb_cons (gs_for never rfl (pi_enA rfl T.b_enumerate (paW _ _) rfl) (pg_pair rfl sc_check_weights.nd rfl rfl (by first | exact .inl rfl | exact .inr rfl) (by first | exact .inl rfl | exact .inr rfl) (by first | exact .inl rfl | exact .inr rfl) (by first | exact .inl rfl | exact .inr rfl)) (gsrc_en 1 2 (ga_cons (g_var 0) ga_nil))
    (gb_cons (gs_if (gt_not (gt_val (g_call (Can.mono (ok_is_whole T) (by decide)) hr (ga_cons (g_var 2) (ga_cons g_int (ga_cons (g_glob T.i_MOST_WEIGHT) ga_nil)))))) gb_bad gb_nil)
      gb_nil))
    (gb_cons (gs_ret (g_tuple T.b_tuple (g_var 0)))
    gb_nil)))
def m_check_modulus_weights : Ms := (seqM (ifM (notM (t1 asB (oA (fun ds => F_is_whole (ds ++ [])) (consA (oVar 0) (consA (fun _ => some (.int 1)) (consA (fun _ => some (.int 10000000000000000)) (fun _ => some []))))))) badM skipM)
    (seqM (retM (oVar 0))
    skipM))
def F_check_modulus_weights : List Da → Option Da := resM n_check_modulus_weights 1 m_check_modulus_weights
theorem ok_check_modulus_weights (T : Tx K mg) : CanF P w K mg base 2 "check_modulus_weights" [] F_check_modulus_weights := by
  obtain ⟨fd, F⟩ := T.f_check_modulus_weights
  refine canF (m := m_check_modulus_weights) T.g_check_modulus_weights F (b_check_modulus_weights F) sc_check_modulus_weights fun cd A outer s H E hr => ?_
  exact (gb_cons (gs_if (gt_not (gt_val (g_call (Can.mono (ok_is_whole T) (by decide)) hr (ga_cons (g_var 0) (ga_cons g_int (ga_cons (g_glob T.i_MOST_MODULUS_weights) ga_nil)))))) gb_bad gb_nil)
    (gb_cons (gs_ret (g_var 0))
    gb_nil))
def m_last_sum : Ms := (seqM (retM (o1 sumD (o2 fromL (oVar 0) (o2 maxD (fun _ => some (.int 0)) (o2 subD (o1 lenD (oVar 0)) (oVar 1))))))
    skipM)
def F_last_sum : List Da → Option Da := resM n_last_sum 2 m_last_sum
theorem ok_last_sum (T : Tx K mg) : CanF P w K mg base 1 "last_sum" [] F_last_sum := by
  obtain ⟨fd, F⟩ := T.f_last_sum
  refine canF (m := m_last_sum) T.g_last_sum F (b_last_sum F) sc_last_sum fun cd A outer s H E hr => ?_
  exact (gb_cons (gs_ret (g_sum rfl T.b_sum (g_new (gn_from (g_var 0) (g_max rfl T.b_max g_int (g_sub (g_len T.b_len (g_var 0)) (g_var 1)))))))
    gb_nil)
def m_weights_for : Ms := (seqM (exM (oA (fun ds => F_check_letters (ds ++ [])) (consA (oVar 0) (fun _ => some []))))
    (seqM (exM (oA (fun ds => F_check_number (ds ++ [])) (consA (oVar 1) (consA (fun _ => some (.int 0)) (consA (fun _ => some (.int 24)) (fun _ => some []))))))
    (seqM (exM (oA (fun ds => F_check_number (ds ++ [])) (consA (oVar 2) (consA (fun _ => some (.int 0)) (consA (fun _ => some (.int 24)) (fun _ => some []))))))
    (seqM (ownM 3 (fun _ => some (.li [])))
    (seqM (forM (srcR1 4 (o2 addD (oVar 2) (fun _ => some (.int 1))))
    (seqM (appM 3 (o2 addD (fun _ => some (.int 1)) (o2 mulD (o2 subD (oVar 0) (fun _ => some (.int 1))) (lendM 3 (oA (fun ds => F_last_sum (ds ++ [])) (consA (oVar 3) (consA (oVar 1) (fun _ => some []))))))))
      skipM))
    (freezeM 3 (seqM (retM (o1 tupleD (oVar 3)))
    skipM)))))))
def F_weights_for : List Da → Option Da := resM n_weights_for 3 m_weights_for
theorem ok_weights_for (T : Tx K mg) : CanF P w K mg base 3 "weights_for" [] F_weights_for := by
  obtain ⟨fd, F⟩ := T.f_weights_for
  refine canF (m := m_weights_for) T.g_weights_for F (b_weights_for F) sc_weights_for fun cd A outer s H E hr => ?_
  exact (gb_cons (gs_expr (g_call (Can.mono (ok_check_letters T) (by decide)) hr (ga_cons (g_var 0) ga_nil)))
    (gb_cons (gs_expr (g_call (Can.mono (ok_check_number T) (by decide)) hr (ga_cons (g_var 1) (ga_cons g_int (ga_cons g_int ga_nil)))))
    (gb_cons (gs_expr (g_call (Can.mono (ok_check_number T) (by decide)) hr (ga_cons (g_var 2) (ga_cons g_int (ga_cons g_int ga_nil)))))
    (gb_cons (gs_own 3 (gn_nil (.li [])) sc_weights_for.nd)
    (gb_cons (gs_for never rfl (pi_range1 rfl T.b_range (paW _ _) rfl) (pg_name sc_weights_for.nd rfl (by first | exact .inl rfl | exact .inr rfl) (by first | exact .inl rfl | exact .inr rfl)) (gsrc_r1 4 (ga_cons (g_add (g_var 2) g_int) ga_nil))
    (gb_cons (gs_app 3 (g_add g_int (g_mul (g_sub (g_var 0) g_int) (g_lend 3 (g_call (Can.mono (ok_last_sum T) (by decide)) hr (ga_cons (g_var 3) (ga_cons (g_var 1) ga_nil)))))))
      gb_nil))
    (gb_freeze 3 (gb_cons (gs_ret (g_tuple T.b_tuple (g_var 3)))
    gb_nil)))))))
def m_sum_by : Ms := (seqM (retM (o1 sumD (lcM (.li []) (srcZip 2 3 (oVar 0) (oVar 1)) [2, 3] yesM (o2 mulD (oVar 2) (oVar 3)))))
    skipM)
def F_sum_by : List Da → Option Da := resM n_sum_by 2 m_sum_by
theorem ok_sum_by (T : Tx K mg) : CanF P w K mg base 1 "sum_by" [] F_sum_by := by
  obtain ⟨fd, F⟩ := T.f_sum_by
  refine canF (m := m_sum_by) T.g_sum_by F (b_sum_by F) sc_sum_by fun cd A outer s H E hr => ?_
  exact (gb_cons (gs_ret (g_sum rfl T.b_sum (g_new (gn_lc0 (own := [("weight", 2), ("letter", 3)]) (.li []) rfl sc_sum_by.nd (RZ.pi_zipA rfl T.b_zip (paW _ _) rfl rfl) (blk_ok (N := n_sum_by) (sc := defScope s_sum_by) rfl (by decide +kernel) (by decide +kernel) (by decide +kernel) (by decide +kernel)) (fun _ _ _ _ _ => pg_pair rfl sc_sum_by.nd rfl rfl (by first | exact .inl rfl | exact .inr rfl) (by first | exact .inl rfl | exact .inr rfl) (by first | exact .inl rfl | exact .inr rfl) (by first | exact .inl rfl | exact .inr rfl)) (gsrc_zip 2 3 (ga_cons (g_var 0) (ga_cons (g_var 1) ga_nil))) (fun _ _ _ _ _ => (g_mul (g_var 2) (g_var 3)))))))
    gb_nil)
def m_word_at : Ms := (seqM (ownM 3 (fun _ => some (.li [])))
    (seqM (forM (srcR1 4 (oVar 1))
    (seqM (pairM 2 5 (o2 divmodD (oVar 2) (oVar 0)))
      (seqM (appM 3 (oVar 5))
      skipM)))
    (freezeM 3 (seqM (retM (o1 tupleD (o1 revL (oVar 3))))
    skipM))))
def F_word_at : List Da → Option Da := resM n_word_at 3 m_word_at
theorem ok_word_at (T : Tx K mg) : CanF P w K mg base 1 "word_at" [] F_word_at := by
  obtain ⟨fd, F⟩ := T.f_word_at
  refine canF (m := m_word_at) T.g_word_at F (b_word_at F) sc_word_at fun cd A outer s H E hr => ?_
  exact (gb_cons (gs_own 3 (gn_nil (.li [])) sc_word_at.nd)
    (gb_cons (gs_for never rfl (pi_range1 rfl T.b_range (paW _ _) rfl) (pg_name sc_word_at.nd rfl (by first | exact .inl rfl | exact .inr rfl) (by first | exact .inl rfl | exact .inr rfl)) (gsrc_r1 4 (ga_cons (g_var 1) ga_nil))
    (gb_cons (gs_pair 2 5 (g_divmod T.b_divmod (g_var 2) (g_var 0)) (pg_pair rfl sc_word_at.nd rfl rfl (by first | exact .inl rfl | exact .inr rfl) (by first | exact .inl rfl | exact .inr rfl) (by first | exact .inl rfl | exact .inr rfl) (by first | exact .inl rfl | exact .inr rfl)))
      (gb_cons (gs_app 3 (g_var 5))
      gb_nil)))
    (gb_freeze 3 (gb_cons (gs_ret (g_tuple T.b_tuple (g_new (gn_rev (g_var 3)))))
    gb_nil))))
def m_sum_places : Ms := (seqM (setM 1 (fun _ => some (.int 0)))
    (seqM (forM (srcE 2 3 (oVar 0))
    (seqM (setM 1 (o2 addD (oVar 1) (o2 mulD (o2 addD (oVar 2) (fun _ => some (.int 1))) (oVar 3))))
      skipM))
    (seqM (retM (oVar 1))
    skipM)))
def F_sum_places : List Da → Option Da := resM n_sum_places 1 m_sum_places
theorem ok_sum_places (T : Tx K mg) : CanF P w K mg base 1 "sum_places" [] F_sum_places := by
  obtain ⟨fd, F⟩ := T.f_sum_places
  refine canF (m := m_sum_places) T.g_sum_places F (b_sum_places F) sc_sum_places fun cd A outer s H E hr => ?_
  exact (gb_cons (gs_set 1 g_int sc_sum_places.nd)
    (gb_cons (gs_for never rfl (pi_enA rfl T.b_enumerate (paW _ _) rfl) (pg_pair rfl sc_sum_places.nd rfl rfl (by first | exact .inl rfl | exact .inr rfl) (by first | exact .inl rfl | exact .inr rfl) (by first | exact .inl rfl | exact .inr rfl) (by first | exact .inl rfl | exact .inr rfl)) (gsrc_en 2 3 (ga_cons (g_var 0) ga_nil))
    (gb_cons (gs_set 1 (g_add (g_var 1) (g_mul (g_add (g_var 2) g_int) (g_var 3))) sc_sum_places.nd)
      gb_nil))
    (gb_cons (gs_ret (g_var 1))
    gb_nil)))
def m_lifting_step : Ms := (seqM (setM 2 (o1 sumD (oVar 0)))
    (seqM (ifM (t2 leD (oVar 1) (oVar 2)) (seqM (setM 3 (o1 lenD (oVar 0)))
      (seqM (setM 4 (oVar 1))
      (seqM (whileM (t2 gtD (oVar 4) (fun _ => some (.int 0))) (seqM (setM 3 (o2 subD (oVar 3) (fun _ => some (.int 1))))
        (seqM (setM 4 (o2 subD (oVar 4) (o2 ixD (oVar 0) (oVar 3))))
        skipM)) 64)
      (seqM (retM (oA tupD (consA (oVar 3) (consA (fun _ => some (.int 0)) (fun _ => some [])))))
      skipM)))) skipM)
    (seqM (setM 3 (fun _ => some (.int 0)))
    (seqM (setM 4 (o2 subD (o2 subD (oVar 1) (oVar 2)) (fun _ => some (.int 1))))
    (seqM (whileM (t2 gtD (oVar 4) (fun _ => some (.int 0))) (seqM (setM 4 (o2 addD (o2 subD (oVar 4) (fun _ => some (.int 1))) (o2 ixD (oVar 0) (oVar 3))))
      (seqM (setM 3 (o2 addD (oVar 3) (fun _ => some (.int 1))))
      skipM)) 64)
    (seqM (retM (oA tupD (consA (oVar 3) (consA (fun _ => some (.int 1)) (fun _ => some [])))))
    skipM))))))
def F_lifting_step : List Da → Option Da := resM n_lifting_step 2 m_lifting_step
theorem ok_lifting_step (T : Tx K mg) : CanF P w K mg base 1 "lifting_step" [] F_lifting_step := by
  obtain ⟨fd, F⟩ := T.f_lifting_step
  refine canF (m := m_lifting_step) T.g_lifting_step F (b_lifting_step F) sc_lifting_step fun cd A outer s H E hr => ?_
  exact (gb_cons (gs_set 2 (g_sum rfl T.b_sum (g_var 0)) sc_lifting_step.nd)
    (gb_cons (gs_if (gt_le (g_var 1) (g_var 2)) (gb_cons (gs_set 3 (g_len T.b_len (g_var 0)) sc_lifting_step.nd)
      (gb_cons (gs_set 4 (g_var 1) sc_lifting_step.nd)
      (gb_cons (gs_while 64 never (gt_gt (g_var 4) g_int) (gb_cons (gs_set 3 (g_sub (g_var 3) g_int) sc_lifting_step.nd)
        (gb_cons (gs_set 4 (g_sub (g_var 4) (g_ix (g_var 0) (g_var 3))) sc_lifting_step.nd)
        gb_nil)))
      (gb_cons (gs_ret (g_tup (ga_cons (g_var 3) (ga_cons g_int ga_nil))))
      gb_nil)))) gb_nil)
    (gb_cons (gs_set 3 g_int sc_lifting_step.nd)
    (gb_cons (gs_set 4 (g_sub (g_sub (g_var 1) (g_var 2)) g_int) sc_lifting_step.nd)
    (gb_cons (gs_while 64 never (gt_gt (g_var 4) g_int) (gb_cons (gs_set 4 (g_add (g_sub (g_var 4) g_int) (g_ix (g_var 0) (g_var 3))) sc_lifting_step.nd)
      (gb_cons (gs_set 3 (g_add (g_var 3) g_int) sc_lifting_step.nd)
      gb_nil)))
    (gb_cons (gs_ret (g_tup (ga_cons (g_var 3) (ga_cons g_int ga_nil))))
    gb_nil))))))
def m_lift_word : Ms := (seqM (pairM 2 3 (oA (fun ds => F_lifting_step (ds ++ [])) (consA (oVar 0) (consA (oVar 1) (fun _ => some [])))))
    (seqM (retM (o2 addD (o2 addD (o2 toD (oVar 0) (oVar 2)) (oA tupD (consA (oVar 3) (fun _ => some [])))) (o2 fromD (oVar 0) (oVar 2))))
    skipM))
def F_lift_word : List Da → Option Da := resM n_lift_word 2 m_lift_word
theorem ok_lift_word (T : Tx K mg) : CanF P w K mg base 2 "lift_word" [] F_lift_word := by
  obtain ⟨fd, F⟩ := T.f_lift_word
  refine canF (m := m_lift_word) T.g_lift_word F (b_lift_word F) sc_lift_word fun cd A outer s H E hr => ?_
  exact (gb_cons (gs_pair 2 3 (g_call (Can.mono (ok_lifting_step T) (by decide)) hr (ga_cons (g_var 0) (ga_cons (g_var 1) ga_nil))) (pg_pair rfl sc_lift_word.nd rfl rfl (by first | exact .inl rfl | exact .inr rfl) (by first | exact .inl rfl | exact .inr rfl) (by first | exact .inl rfl | exact .inr rfl) (by first | exact .inl rfl | exact .inr rfl)))
    (gb_cons (gs_ret (g_add (g_add (g_to (g_var 0) (g_var 2)) (g_tup (ga_cons (g_var 3) ga_nil))) (g_from (g_var 0) (g_var 2))))
    gb_nil))
def m_lowering_place : Ms := (seqM (setM 2 (o1 sumD (oVar 0)))
    (seqM (ifM (t2 ltD (oVar 1) (oVar 2)) (seqM (setM 3 (fun _ => some (.int 0)))
      (seqM (forM (srcR3 4 (o2 subD (o1 lenD (oVar 0)) (fun _ => some (.int 1))) (o1 negD (fun _ => some (.int 1))))
      (seqM (ifM (andM (t2 eqD (o2 ixD (oVar 0) (oVar 4)) (fun _ => some (.int 0))) (t2 eqD (oVar 3) (oVar 1))) (seqM (retM (oVar 4))
          skipM) skipM)
        (seqM (setM 3 (o2 addD (oVar 3) (o2 ixD (oVar 0) (oVar 4))))
        skipM)))
      (seqM (retM (fun _ => some .non))
      skipM))) skipM)
    (seqM (setM 5 (fun _ => some (.int 0)))
    (seqM (forM (srcE 4 6 (oVar 0))
    (seqM (ifM (andM (t2 eqD (oVar 5) (o2 subD (oVar 1) (oVar 2))) (orM (t2 eqD (oVar 6) (fun _ => some (.int 1))) (t2 eqD (oVar 4) (fun _ => some (.int 0))))) (seqM (retM (oVar 4))
        skipM) skipM)
      (seqM (setM 5 (o2 subD (o2 addD (oVar 5) (fun _ => some (.int 1))) (oVar 6)))
      skipM)))
    (seqM (retM (fun _ => some .non))
    skipM)))))
def F_lowering_place : List Da → Option Da := resM n_lowering_place 2 m_lowering_place
theorem ok_lowering_place (T : Tx K mg) : CanF P w K mg base 1 "lowering_place" [] F_lowering_place := by
  obtain ⟨fd, F⟩ := T.f_lowering_place
  refine canF (m := m_lowering_place) T.g_lowering_place F (b_lowering_place F) sc_lowering_place fun cd A outer s H E hr => ?_
  exact (gb_cons (gs_set 2 (g_sum rfl T.b_sum (g_var 0)) sc_lowering_place.nd)
    (gb_cons (gs_if (gt_lt (g_var 1) (g_var 2)) (gb_cons (gs_set 3 g_int sc_lowering_place.nd)
      (gb_cons (gs_for never rfl (pi_range3 rfl T.b_range (paW _ _)) (pg_name sc_lowering_place.nd rfl (by first | exact .inl rfl | exact .inr rfl) (by first | exact .inl rfl | exact .inr rfl)) (gsrc_r3 4 (ga_cons (g_sub (g_len T.b_len (g_var 0)) g_int) (ga_cons (g_neg g_int) (ga_cons g_m1 ga_nil))))
      (gb_cons (gs_if (gt_and2 (gt_eq (g_ix (g_var 0) (g_var 4)) g_int) (gt_eq (g_var 3) (g_var 1))) (gb_cons (gs_ret (g_var 4))
          gb_nil) gb_nil)
        (gb_cons (gs_set 3 (g_add (g_var 3) (g_ix (g_var 0) (g_var 4))) sc_lowering_place.nd)
        gb_nil)))
      (gb_cons (gs_ret g_non)
      gb_nil))) gb_nil)
    (gb_cons (gs_set 5 g_int sc_lowering_place.nd)
    (gb_cons (gs_for never rfl (pi_enA rfl T.b_enumerate (paW _ _) rfl) (pg_pair rfl sc_lowering_place.nd rfl rfl (by first | exact .inl rfl | exact .inr rfl) (by first | exact .inl rfl | exact .inr rfl) (by first | exact .inl rfl | exact .inr rfl) (by first | exact .inl rfl | exact .inr rfl)) (gsrc_en 4 6 (ga_cons (g_var 0) ga_nil))
    (gb_cons (gs_if (gt_and2 (gt_eq (g_var 5) (g_sub (g_var 1) (g_var 2))) (gt_or2 (gt_eq (g_var 6) g_int) (gt_eq (g_var 4) g_int))) (gb_cons (gs_ret (g_var 4))
        gb_nil) gb_nil)
      (gb_cons (gs_set 5 (g_sub (g_add (g_var 5) g_int) (g_var 6)) sc_lowering_place.nd)
      gb_nil)))
    (gb_cons (gs_ret g_non)
    gb_nil)))))
def m_check_modulus_sums : Ms := (seqM (ifM (notM (t1 asB (oA (fun ds => F_is_whole (ds ++ [])) (consA (oVar 0) (consA (oVar 1) (consA (fun _ => some (.int 1000000)) (fun _ => some []))))))) badM skipM)
    skipM)
def F_check_modulus_sums : List Da → Option Da := resM n_check_modulus_sums 2 m_check_modulus_sums
theorem ok_check_modulus_sums (T : Tx K mg) : CanF P w K mg base 2 "check_modulus_sums" [] F_check_modulus_sums := by
  obtain ⟨fd, F⟩ := T.f_check_modulus_sums
  refine canF (m := m_check_modulus_sums) T.g_check_modulus_sums F (b_check_modulus_sums F) sc_check_modulus_sums fun cd A outer s H E hr => ?_
  exact (gb_cons (gs_if (gt_not (gt_val (g_call (Can.mono (ok_is_whole T) (by decide)) hr (ga_cons (g_var 0) (ga_cons (g_var 1) (ga_cons (g_glob T.i_MOST_MODULUS_sums) ga_nil)))))) gb_bad gb_nil)
    gb_nil)
def m_check_rest : Ms := (seqM (ifM (notM (t1 asB (oA (fun ds => F_is_whole (ds ++ [])) (consA (oVar 0) (consA (fun _ => some (.int 0)) (consA (o2 subD (oVar 1) (fun _ => some (.int 1))) (fun _ => some []))))))) badM skipM)
    skipM)
def F_check_rest : List Da → Option Da := resM n_check_rest 2 m_check_rest
theorem ok_check_rest (T : Tx K mg) : CanF P w K mg base 2 "check_rest" [] F_check_rest := by
  obtain ⟨fd, F⟩ := T.f_check_rest
  refine canF (m := m_check_rest) T.g_check_rest F (b_check_rest F) sc_check_rest fun cd A outer s H E hr => ?_
  exact (gb_cons (gs_if (gt_not (gt_val (g_call (Can.mono (ok_is_whole T) (by decide)) hr (ga_cons (g_var 0) (ga_cons g_int (ga_cons (g_sub (g_var 1) g_int) ga_nil)))))) gb_bad gb_nil)
    gb_nil)
def m_every_word : Ms := (seqM (setM 2 (oA lstD (consA (oA tupD (fun _ => some [])) (fun _ => some []))))
    (seqM (forM (srcR1 3 (oVar 1))
    (seqM (setM 2 (l2M (.lw []) 4 5 (oVar 2) (oVar 0) (o2 addD (oVar 4) (oA tupD (consA (oVar 5) (fun _ => some []))))))
      skipM))
    (seqM (retM (oVar 2))
    skipM)))
def F_every_word : List Da → Option Da := resM n_every_word 2 m_every_word
theorem ok_every_word (T : Tx K mg) : CanF P w K mg base 1 "every_word" [] F_every_word := by
  obtain ⟨fd, F⟩ := T.f_every_word
  refine canF (m := m_every_word) T.g_every_word F (b_every_word F) sc_every_word fun cd A outer s H E hr => ?_
  exact (gb_cons (gs_set 2 (g_new (gn_lst (ga_cons (g_tup ga_nil) ga_nil))) sc_every_word.nd)
    (gb_cons (gs_for never rfl (pi_range1 rfl T.b_range (paW _ _) rfl) (pg_name sc_every_word.nd rfl (by first | exact .inl rfl | exact .inr rfl) (by first | exact .inl rfl | exact .inr rfl)) (gsrc_r1 3 (ga_cons (g_var 1) ga_nil))
    (gb_cons (gs_setLc2 2 (.lw []) rfl sc_every_word.nd rfl rfl (sw_true rfl rfl rfl (by decide +kernel)) (blk_ok (N := n_every_word) (sc := defScope s_every_word) (own := [("word", 4), ("letter", 5)]) rfl (by decide +kernel) (by decide +kernel) (by decide +kernel) (by decide +kernel)) (fun _ _ _ _ _ => pg_name sc_every_word.nd rfl (by first | exact .inl rfl | exact .inr rfl) (by first | exact .inl rfl | exact .inr rfl)) (fun _ _ _ _ _ => pg_name sc_every_word.nd rfl (by first | exact .inl rfl | exact .inr rfl) (by first | exact .inl rfl | exact .inr rfl)) (fun s H C cl fp => pi_range1 rfl T.b_range (paWb s H C cl fp) rfl) (g_var 2) (fun _ _ _ _ _ => ga_cons (g_var 0) ga_nil) (fun _ _ _ _ _ => (g_add (g_var 4) (g_tup (ga_cons (g_var 5) ga_nil)))))
      gb_nil))
    (gb_cons (gs_ret (g_var 2))
    gb_nil)))
def m_first_couple : Ms := (seqM (forM (srcE 3 4 (oVar 0))
    (seqM (forM (srcR2 5 (o2 addD (oVar 3) (fun _ => some (.int 1))) (o1 lenD (oVar 0)))
      (seqM (ifM (andM (t2 eqD (o2 ixD (oVar 1) (oVar 3)) (o2 ixD (oVar 1) (oVar 5))) (t2 geD (oA (fun ds => F_common_length (ds ++ [])) (consA (oVar 4) (consA (o2 ixD (oVar 0) (oVar 5)) (fun _ => some [])))) (oVar 2))) (seqM (retM (oA tupD (consA (oVar 4) (consA (o2 ixD (oVar 0) (oVar 5)) (fun _ => some [])))))
          skipM) skipM)
        skipM))
      skipM))
    (seqM (retM (fun _ => some .non))
    skipM))
def F_first_couple : List Da → Option Da := resM n_first_couple 3 m_first_couple
theorem ok_first_couple (T : Tx K mg) : CanF P w K mg base 4 "first_couple" [] F_first_couple := by
  obtain ⟨fd, F⟩ := T.f_first_couple
  refine canF (m := m_first_couple) T.g_first_couple F (b_first_couple F) sc_first_couple fun cd A outer s H E hr => ?_
  exact (gb_cons (gs_for never rfl (pi_enA rfl T.b_enumerate (paW _ _) rfl) (pg_pair rfl sc_first_couple.nd rfl rfl (by first | exact .inl rfl | exact .inr rfl) (by first | exact .inl rfl | exact .inr rfl) (by first | exact .inl rfl | exact .inr rfl) (by first | exact .inl rfl | exact .inr rfl)) (gsrc_en 3 4 (ga_cons (g_var 0) ga_nil))
    (gb_cons (gs_for never rfl (pi_range2 rfl T.b_range (paW _ _) rfl rfl) (pg_name sc_first_couple.nd rfl (by first | exact .inl rfl | exact .inr rfl) (by first | exact .inl rfl | exact .inr rfl)) (gsrc_r2 5 (ga_cons (g_add (g_var 3) g_int) (ga_cons (g_len T.b_len (g_var 0)) ga_nil)))
      (gb_cons (gs_if (gt_and2 (gt_eq (g_ix (g_var 1) (g_var 3)) (g_ix (g_var 1) (g_var 5))) (gt_ge (g_call (Can.mono (ok_common_length T) (by decide)) hr (ga_cons (g_var 4) (ga_cons (g_ix (g_var 0) (g_var 5)) ga_nil))) (g_var 2))) (gb_cons (gs_ret (g_tup (ga_cons (g_var 4) (ga_cons (g_ix (g_var 0) (g_var 5)) ga_nil))))
          gb_nil) gb_nil)
        gb_nil))
      gb_nil))
    (gb_cons (gs_ret g_non)
    gb_nil))
def m_close_couple : Ms := (seqM (exM (oA (fun ds => F_check_letters (ds ++ [])) (consA (oVar 0) (fun _ => some []))))
    (seqM (setM 1 (oA (fun ds => F_check_weights (ds ++ [])) (consA (oVar 1) (fun _ => some []))))
    (seqM (exM (oA (fun ds => F_check_modulus_weights (ds ++ [])) (consA (oVar 2) (fun _ => some []))))
    (seqM (exM (oA (fun ds => F_check_number (ds ++ [])) (consA (oVar 3) (consA (fun _ => some (.int 0)) (consA (o1 lenD (oVar 1)) (fun _ => some []))))))
    (seqM (setM 4 (oA (fun ds => F_power_of (ds ++ [])) (consA (oVar 0) (consA (o1 lenD (oVar 1)) (fun _ => some [])))))
    (seqM (ifM (t2 gtD (oVar 4) (fun _ => some (.int 64))) badM skipM)
    (seqM (ifM (t2 eqD (oVar 3) (fun _ => some (.int 0))) (seqM (retM (fun _ => some .non))
      skipM) skipM)
    (seqM (setM 5 (lcM (.lw []) (srcR1 7 (oVar 4)) [7] yesM (oA (fun ds => F_word_at (ds ++ [])) (consA (oVar 0) (consA (o1 lenD (oVar 1)) (consA (oVar 7) (fun _ => some [])))))))
    (seqM (setM 6 (lcM (.li []) (srcA 8 (oVar 5)) [8] yesM (o2 modD (oA (fun ds => F_sum_by (ds ++ [])) (consA (oVar 1) (consA (oVar 8) (fun _ => some [])))) (oVar 2))))
    (seqM (retM (oA (fun ds => F_first_couple (ds ++ [])) (consA (oVar 5) (consA (oVar 6) (consA (o2 subD (o1 lenD (oVar 1)) (oVar 3)) (fun _ => some []))))))
    skipM))))))))))
def F_close_couple : List Da → Option Da := resM n_close_couple 4 m_close_couple
theorem ok_close_couple (T : Tx K mg) : CanF P w K mg base 5 "close_couple" [] F_close_couple := by
  obtain ⟨fd, F⟩ := T.f_close_couple
  refine canF (m := m_close_couple) T.g_close_couple F (b_close_couple F) sc_close_couple fun cd A outer s H E hr => ?_
  exact (gb_cons (gs_expr (g_call (Can.mono (ok_check_letters T) (by decide)) hr (ga_cons (g_var 0) ga_nil)))
    (gb_cons (gs_set 1 (g_call (Can.mono (ok_check_weights T) (by decide)) hr (ga_cons (g_var 1) ga_nil)) sc_close_couple.nd)
    (gb_cons (gs_expr (g_call (Can.mono (ok_check_modulus_weights T) (by decide)) hr (ga_cons (g_var 2) ga_nil)))
    (gb_cons (gs_expr (g_call (Can.mono (ok_check_number T) (by decide)) hr (ga_cons (g_var 3) (ga_cons g_int (ga_cons (g_len T.b_len (g_var 1)) ga_nil)))))
    (gb_cons (gs_set 4 (g_call (Can.mono (ok_power_of T) (by decide)) hr (ga_cons (g_var 0) (ga_cons (g_len T.b_len (g_var 1)) ga_nil))) sc_close_couple.nd)
    (gb_cons (gs_if (gt_gt (g_var 4) (g_glob T.i_MOST_COUPLED)) gb_bad gb_nil)
    (gb_cons (gs_if (gt_eq (g_var 3) g_int) (gb_cons (gs_ret g_non)
      gb_nil) gb_nil)
    (gb_cons (gs_setLc0 (own := [("number", 7)]) 5 (.lw []) rfl sc_close_couple.nd rfl rfl (sw_true rfl rfl rfl (by decide +kernel)) (pi_range1 rfl T.b_range (paW _ _) rfl) (blk_ok (N := n_close_couple) (sc := defScope s_close_couple) rfl (by decide +kernel) (by decide +kernel) (by decide +kernel) (by decide +kernel)) (fun _ _ _ _ _ => pg_name sc_close_couple.nd rfl (by first | exact .inl rfl | exact .inr rfl) (by first | exact .inl rfl | exact .inr rfl)) (gsrc_r1 7 (ga_cons (g_var 4) ga_nil)) (fun _ _ _ _ _ => (g_call (Can.mono (ok_word_at T) (by decide)) hr (ga_cons (g_var 0) (ga_cons (g_len T.b_len (g_var 1)) (ga_cons (g_var 7) ga_nil))))))
    (gb_cons (gs_setLc0 (own := [("word", 8)]) 6 (.li []) rfl sc_close_couple.nd rfl rfl (sw_true rfl rfl rfl (by decide +kernel)) (pi_any (peW _ _)) (blk_ok (N := n_close_couple) (sc := defScope s_close_couple) rfl (by decide +kernel) (by decide +kernel) (by decide +kernel) (by decide +kernel)) (fun _ _ _ _ _ => pg_name sc_close_couple.nd rfl (by first | exact .inl rfl | exact .inr rfl) (by first | exact .inl rfl | exact .inr rfl)) (gsrc_any 8 (g_var 5)) (fun _ _ _ _ _ => (g_mod (g_call (Can.mono (ok_sum_by T) (by decide)) hr (ga_cons (g_var 1) (ga_cons (g_var 8) ga_nil))) (g_var 2))))
    (gb_cons (gs_ret (g_call (Can.mono (ok_first_couple T) (by decide)) hr (ga_cons (g_var 5) (ga_cons (g_var 6) (ga_cons (g_sub (g_len T.b_len (g_var 1)) (g_var 3)) ga_nil)))))
    gb_nil))))))))))
end
end K54

set_option Elab.async false
set_option linter.all false
set_option maxRecDepth 100000
set_option maxHeartbeats 40000000
/-! Printed by gen_w.py. -/
namespace K54
open PySem PySem.Spec PyProof.Rows L2
section
variable {P : Program} {w : World} {K : PySem.W.Frag} {mg : Str → Option Value} {base : Heap}
def m_check_read : Ms := (seqM (setM 0 (oA (fun ds => F_check_word (ds ++ [])) (consA (fun _ => some (.int 2)) (consA (oVar 0) (consA (o2 addD (fun _ => some (.int 200)) (fun _ => some (.int 1))) (fun _ => some []))))))
    (seqM (ifM (t2 neD (o1 lenD (oVar 0)) (oVar 1)) badM skipM)
    (seqM (retM (oVar 0))
    skipM)))
def F_check_read : List Da → Option Da := resM n_check_read 2 m_check_read
theorem ok_check_read (T : Tx K mg) : CanF P w K mg base 3 "check_read" [] F_check_read := by
  obtain ⟨fd, F⟩ := T.f_check_read
  refine canF (m := m_check_read) T.g_check_read F (b_check_read F) sc_check_read fun cd A outer s H E hr => ?_
  exact (gb_cons (gs_set 0 (g_call (Can.mono (ok_check_word T) (by decide)) hr (ga_cons g_int (ga_cons (g_var 0) (ga_cons (g_add (g_glob T.i_MOST_LENGTH) g_int) ga_nil)))) sc_check_read.nd)
    (gb_cons (gs_if (gt_ne (g_len T.b_len (g_var 0)) (g_var 1)) gb_bad gb_nil)
    (gb_cons (gs_ret (g_var 0))
    gb_nil)))
def m_loss_amount : Ms := (seqM (setM 2 (o2 modD (o2 subD (o1 fRestD (oVar 0)) (oA (fun ds => F_sum_places (ds ++ [])) (consA (oVar 1) (fun _ => some [])))) (o1 fModD (oVar 0))))
    (seqM (ifM (t2 gtD (oVar 2) (o1 fLenD (oVar 0))) (seqM (retM (fun _ => some .non))
      skipM) skipM)
    (seqM (retM (oVar 2))
    skipM)))
def F_loss_amount : List Da → Option Da := resM n_loss_amount 2 m_loss_amount
theorem ok_loss_amount (T : Tx K mg) : CanF P w K mg base 2 "loss_amount" [] F_loss_amount := by
  obtain ⟨fd, F⟩ := T.f_loss_amount
  refine canF (m := m_loss_amount) T.g_loss_amount F (b_loss_amount F) sc_loss_amount fun cd A outer s H E hr => ?_
  exact (gb_cons (gs_set 2 (g_mod (g_sub (g_fRest T (g_var 0)) (g_call (Can.mono (ok_sum_places T) (by decide)) hr (ga_cons (g_var 1) ga_nil))) (g_fMod T (g_var 0))) sc_loss_amount.nd)
    (gb_cons (gs_if (gt_gt (g_var 2) (g_fLen T (g_var 0))) (gb_cons (gs_ret g_non)
      gb_nil) gb_nil)
    (gb_cons (gs_ret (g_var 2))
    gb_nil)))
def m_put_place : Ms := (seqM (setM 2 (o2 modD (o2 subD (oA (fun ds => F_sum_places (ds ++ [])) (consA (oVar 1) (fun _ => some []))) (o1 fRestD (oVar 0))) (o1 fModD (oVar 0))))
    (seqM (setM 3 (oA (fun ds => F_lowering_place (ds ++ [])) (consA (oVar 1) (consA (oVar 2) (fun _ => some [])))))
    (seqM (ifM (andM (t1 (fun d => some (isNon d)) (oVar 3)) (andM (t2 eqD (oVar 2) (fun _ => some (.int 0))) (t1 asB (o1 fullD54 (oVar 0))))) (seqM (retM (oA (fun ds => F_lowering_place (ds ++ [])) (consA (oVar 1) (consA (o1 lenD (oVar 1)) (fun _ => some [])))))
      skipM) skipM)
    (seqM (retM (oVar 3))
    skipM))))
def F_put_place : List Da → Option Da := resM n_put_place 2 m_put_place
theorem ok_put_place (T : Tx K mg) : CanF P w K mg base 3 "put_place" [] F_put_place := by
  obtain ⟨fd, F⟩ := T.f_put_place
  refine canF (m := m_put_place) T.g_put_place F (b_put_place F) sc_put_place fun cd A outer s H E hr => ?_
  exact (gb_cons (gs_set 2 (g_mod (g_sub (g_call (Can.mono (ok_sum_places T) (by decide)) hr (ga_cons (g_var 1) ga_nil)) (g_fRest T (g_var 0))) (g_fMod T (g_var 0))) sc_put_place.nd)
    (gb_cons (gs_set 3 (g_call (Can.mono (ok_lowering_place T) (by decide)) hr (ga_cons (g_var 1) (ga_cons (g_var 2) ga_nil))) sc_put_place.nd)
    (gb_cons (gs_if (gt_and3 (gt_isN (g_var 3)) (gt_eq (g_var 2) g_int) (gt_val (g_full T (ok_is_full T) (Room.mono hr (by decide)) (g_var 0)))) (gb_cons (gs_ret (g_call (Can.mono (ok_lowering_place T) (by decide)) hr (ga_cons (g_var 1) (ga_cons (g_len T.b_len (g_var 1)) ga_nil))))
      gb_nil) gb_nil)
    (gb_cons (gs_ret (g_var 3))
    gb_nil))))
def m_member_above : Ms := (seqM (setM 2 (oA (fun ds => F_loss_amount (ds ++ [])) (consA (oVar 0) (consA (oVar 1) (fun _ => some [])))))
    (seqM (ifM (t1 (fun d => some (isNon d)) (oVar 2)) (seqM (retM (fun _ => some .non))
      skipM) skipM)
    (seqM (retM (oA (fun ds => F_lift_word (ds ++ [])) (consA (oVar 1) (consA (oVar 2) (fun _ => some [])))))
    skipM)))
def F_member_above : List Da → Option Da := resM n_member_above 2 m_member_above
theorem ok_member_above (T : Tx K mg) : CanF P w K mg base 3 "member_above" [] F_member_above := by
  obtain ⟨fd, F⟩ := T.f_member_above
  refine canF (m := m_member_above) T.g_member_above F (b_member_above F) sc_member_above fun cd A outer s H E hr => ?_
  exact (gb_cons (gs_set 2 (g_call (Can.mono (ok_loss_amount T) (by decide)) hr (ga_cons (g_var 0) (ga_cons (g_var 1) ga_nil))) sc_member_above.nd)
    (gb_cons (gs_if (gt_isN (g_var 2)) (gb_cons (gs_ret g_non)
      gb_nil) gb_nil)
    (gb_cons (gs_ret (g_call (Can.mono (ok_lift_word T) (by decide)) hr (ga_cons (g_var 1) (ga_cons (g_var 2) ga_nil))))
    gb_nil)))
def m_member_below : Ms := (seqM (setM 2 (oA (fun ds => F_put_place (ds ++ [])) (consA (oVar 0) (consA (oVar 1) (fun _ => some [])))))
    (seqM (ifM (t1 (fun d => some (isNon d)) (oVar 2)) (seqM (retM (fun _ => some .non))
      skipM) skipM)
    (seqM (retM (o2 addD (o2 toD (oVar 1) (oVar 2)) (o2 fromD (oVar 1) (o2 addD (oVar 2) (fun _ => some (.int 1))))))
    skipM)))
def F_member_below : List Da → Option Da := resM n_member_below 2 m_member_below
theorem ok_member_below (T : Tx K mg) : CanF P w K mg base 4 "member_below" [] F_member_below := by
  obtain ⟨fd, F⟩ := T.f_member_below
  refine canF (m := m_member_below) T.g_member_below F (b_member_below F) sc_member_below fun cd A outer s H E hr => ?_
  exact (gb_cons (gs_set 2 (g_call (Can.mono (ok_put_place T) (by decide)) hr (ga_cons (g_var 0) (ga_cons (g_var 1) ga_nil))) sc_member_below.nd)
    (gb_cons (gs_if (gt_isN (g_var 2)) (gb_cons (gs_ret g_non)
      gb_nil) gb_nil)
    (gb_cons (gs_ret (g_add (g_to (g_var 1) (g_var 2)) (g_from (g_var 1) (g_add (g_var 2) g_int))))
    gb_nil)))
def m_read_lost : Ms := (seqM (retM (oA (fun ds => F_member_above (ds ++ [])) (consA (oVar 0) (consA (oA (fun ds => F_check_read (ds ++ [])) (consA (oVar 1) (consA (o2 subD (o1 fLenD (oVar 0)) (fun _ => some (.int 1))) (fun _ => some [])))) (fun _ => some [])))))
    skipM)
def F_read_lost : List Da → Option Da := resM n_read_lost 2 m_read_lost
theorem ok_read_lost (T : Tx K mg) : CanF P w K mg base 4 "read_lost" [] F_read_lost := by
  obtain ⟨fd, F⟩ := T.f_read_lost
  refine canF (m := m_read_lost) T.g_read_lost F (b_read_lost F) sc_read_lost fun cd A outer s H E hr => ?_
  exact (gb_cons (gs_ret (g_call (Can.mono (ok_member_above T) (by decide)) hr (ga_cons (g_var 0) (ga_cons (g_call (Can.mono (ok_check_read T) (by decide)) hr (ga_cons (g_var 1) (ga_cons (g_sub (g_fLen T (g_var 0)) g_int) ga_nil))) ga_nil))))
    gb_nil)
def m_read_put : Ms := (seqM (retM (oA (fun ds => F_member_below (ds ++ [])) (consA (oVar 0) (consA (oA (fun ds => F_check_read (ds ++ [])) (consA (oVar 1) (consA (o2 addD (o1 fLenD (oVar 0)) (fun _ => some (.int 1))) (fun _ => some [])))) (fun _ => some [])))))
    skipM)
def F_read_put : List Da → Option Da := resM n_read_put 2 m_read_put
theorem ok_read_put (T : Tx K mg) : CanF P w K mg base 5 "read_put" [] F_read_put := by
  obtain ⟨fd, F⟩ := T.f_read_put
  refine canF (m := m_read_put) T.g_read_put F (b_read_put F) sc_read_put fun cd A outer s H E hr => ?_
  exact (gb_cons (gs_ret (g_call (Can.mono (ok_member_below T) (by decide)) hr (ga_cons (g_var 0) (ga_cons (g_call (Can.mono (ok_check_read T) (by decide)) hr (ga_cons (g_var 1) (ga_cons (g_add (g_fLen T (g_var 0)) g_int) ga_nil))) ga_nil))))
    gb_nil)
def m_near_members : Ms := (seqM (setM 1 (oA (fun ds => F_check_word (ds ++ [])) (consA (fun _ => some (.int 2)) (consA (oVar 1) (consA (fun _ => some (.int 200)) (fun _ => some []))))))
    (seqM (ifM (t2 neD (o1 lenD (oVar 1)) (o1 fLenD (oVar 0))) badM skipM)
    (seqM (emptyT 2)
    (seqM (forM (srcR1 3 (o1 lenD (oVar 1)))
    (seqM (setM 4 (oA (fun ds => F_member_above (ds ++ [])) (consA (oVar 0) (consA (o2 addD (o2 toD (oVar 1) (oVar 3)) (o2 fromD (oVar 1) (o2 addD (oVar 3) (fun _ => some (.int 1))))) (fun _ => some [])))))
      (seqM (ifM (t1 (fun d => some (!isNon d)) (oVar 4)) (seqM (putT 2 (oVar 4))
        skipM) skipM)
      skipM)))
    (seqM (retM (o1 tupleD (o1 sortD (keysM 2))))
    skipM)))))
def F_near_members : List Da → Option Da := resM n_near_members 2 m_near_members
theorem ok_near_members (T : Tx K mg) : CanF P w K mg base 4 "near_members" [] F_near_members := by
  obtain ⟨fd, F⟩ := T.f_near_members
  refine canF (m := m_near_members) T.g_near_members F (b_near_members F) sc_near_members fun cd A outer s H E hr => ?_
  exact (gb_cons (gs_set 1 (g_call (Can.mono (ok_check_word T) (by decide)) hr (ga_cons g_int (ga_cons (g_var 1) (ga_cons (g_glob T.i_MOST_LENGTH) ga_nil)))) sc_near_members.nd)
    (gb_cons (gs_if (gt_ne (g_len T.b_len (g_var 1)) (g_fLen T (g_var 0))) gb_bad gb_nil)
    (gb_cons (gs_setT 2 sc_near_members.nd)
    (gb_cons (gs_for never rfl (pi_range1 rfl T.b_range (paW _ _) rfl) (pg_name sc_near_members.nd rfl (by first | exact .inl rfl | exact .inr rfl) (by first | exact .inl rfl | exact .inr rfl)) (gsrc_r1 3 (ga_cons (g_len T.b_len (g_var 1)) ga_nil))
    (gb_cons (gs_set 4 (g_call (Can.mono (ok_member_above T) (by decide)) hr (ga_cons (g_var 0) (ga_cons (g_add (g_to (g_var 1) (g_var 3)) (g_from (g_var 1) (g_add (g_var 3) g_int))) ga_nil))) sc_near_members.nd)
      (gb_cons (gs_if (gt_notN (g_var 4)) (gb_cons (gs_putT 2 hr (g_var 4))
        gb_nil) gb_nil)
      gb_nil)))
    (gb_cons (gs_ret (g_tuple T.b_tuple (g_new (gn_sorted T.b_sorted (g_new (gn_keys 2 rfl T.b_list))))))
    gb_nil)))))
def m_WeightBook_has : Ms := (seqM (setM 1 (oA (fun ds => F_check_word (ds ++ [.int 24])) (consA (o1 fLetD (oVar 0)) (consA (oVar 1) (fun _ => some [])))))
    (seqM (ifM (t2 neD (o1 lenD (oVar 1)) (o1 fLenD (oVar 0))) (seqM (retM (fun _ => some (.bl false)))
      skipM) skipM)
    (seqM (retM (o2 (blOf eqD) (o2 modD (oA (fun ds => F_sum_by (ds ++ [])) (consA (o1 fWeiD (oVar 0)) (consA (oVar 1) (fun _ => some [])))) (o1 fModD (oVar 0))) (o1 fRestD (oVar 0))))
    skipM)))
def F_WeightBook_has : List Da → Option Da := resM n_WeightBook_has 2 m_WeightBook_has
theorem ok_WeightBook_has (T : Tx K mg) : CanM P w K mg base 3 (He.ma K (He.ga K "WeightBook") "has") ["self", "word"] F_WeightBook_has := by
  obtain ⟨fd, F⟩ := T.f_WeightBook_has
  refine canM (m := m_WeightBook_has) F (b_WeightBook_has F) sc_WeightBook_has fun cd A outer s H E hr => ?_
  exact (gb_cons (gs_set 1 (g_call (Can.mono (ok_check_word2 T) (by decide)) hr (ga_cons (g_fLet T (g_var 0)) (ga_cons (g_var 1) ga_nil))) sc_WeightBook_has.nd)
    (gb_cons (gs_if (gt_ne (g_len T.b_len (g_var 1)) (g_fLen T (g_var 0))) (gb_cons (gs_ret g_bl)
      gb_nil) gb_nil)
    (gb_cons (gs_ret (g_eq (g_mod (g_call (Can.mono (ok_sum_by T) (by decide)) hr (ga_cons (g_fWei T (g_var 0)) (ga_cons (g_var 1) ga_nil))) (g_fMod T (g_var 0))) (g_fRest T (g_var 0))))
    gb_nil)))
def m_members_behind : Ms := (seqM (setM 1 (oA (fun ds => F_check_word (ds ++ [.int 24])) (consA (o1 fLetD (oVar 0)) (consA (oVar 1) (fun _ => some [])))))
    (seqM (exM (oA (fun ds => F_check_number (ds ++ [])) (consA (oVar 2) (consA (fun _ => some (.int 0)) (consA (o1 fLenD (oVar 0)) (fun _ => some []))))))
    (seqM (exM (oA (fun ds => F_check_number (ds ++ [])) (consA (oVar 3) (consA (fun _ => some (.int 0)) (consA (fun _ => some (.int 24)) (fun _ => some []))))))
    (seqM (ifM (t2 neD (o1 lenD (oVar 1)) (o2 addD (o2 subD (o1 fLenD (oVar 0)) (oVar 2)) (oVar 3))) badM skipM)
    (seqM (setM 4 (oA (fun ds => F_come_to (ds ++ [])) (consA (o1 fLetD (oVar 0)) (consA (oVar 1) (consA (oVar 3) (consA (oVar 2) (fun _ => some [])))))))
    (seqM (retM (o1 tupleD (lcM (.lw []) (srcA 5 (oVar 4)) [5] (t1 asB (oHas F_WeightBook_has (oVar 0) (consA (oVar 5) (fun _ => some [])))) (oVar 5))))
    skipM))))))
def F_members_behind : List Da → Option Da := resM n_members_behind 4 m_members_behind
theorem ok_members_behind (T : Tx K mg) : CanF P w K mg base 6 "members_behind" [] F_members_behind := by
  obtain ⟨fd, F⟩ := T.f_members_behind
  refine canF (m := m_members_behind) T.g_members_behind F (b_members_behind F) sc_members_behind fun cd A outer s H E hr => ?_
  exact (gb_cons (gs_set 1 (g_call (Can.mono (ok_check_word2 T) (by decide)) hr (ga_cons (g_fLet T (g_var 0)) (ga_cons (g_var 1) ga_nil))) sc_members_behind.nd)
    (gb_cons (gs_expr (g_call (Can.mono (ok_check_number T) (by decide)) hr (ga_cons (g_var 2) (ga_cons g_int (ga_cons (g_fLen T (g_var 0)) ga_nil)))))
    (gb_cons (gs_expr (g_call (Can.mono (ok_check_number T) (by decide)) hr (ga_cons (g_var 3) (ga_cons g_int (ga_cons g_int ga_nil)))))
    (gb_cons (gs_if (gt_ne (g_len T.b_len (g_var 1)) (g_add (g_sub (g_fLen T (g_var 0)) (g_var 2)) (g_var 3))) gb_bad gb_nil)
    (gb_cons (gs_set 4 (g_call (Can.mono (ok_come_to T) (by decide)) hr (ga_cons (g_fLet T (g_var 0)) (ga_cons (g_var 1) (ga_cons (g_var 3) (ga_cons (g_var 2) ga_nil))))) sc_members_behind.nd)
    (gb_cons (gs_ret (g_tuple T.b_tuple (g_new (gn_lc1 (own := [("one", 5)]) (.lw []) rfl sc_members_behind.nd (pi_any (peW _ _)) (blk_ok (N := n_members_behind) (sc := defScope s_members_behind) rfl (by decide +kernel) (by decide +kernel) (by decide +kernel) (by decide +kernel)) (fun _ _ _ _ _ => pg_name sc_members_behind.nd rfl (by first | exact .inl rfl | exact .inr rfl) (by first | exact .inl rfl | exact .inr rfl)) (gsrc_any 5 (g_var 4)) (fun _ _ _ _ _ => (gt_val (g_has (CanM.mono (ok_WeightBook_has T) (by decide)) hr T.c_WeightBook T.m_WeightBook_has (g_var 0) (ga_cons (g_var 5) ga_nil)))) (fun _ _ _ _ _ => (g_var 5))))))
    gb_nil))))))
def m_law_mixed : Ms := (seqM (setM 2 (o2 modD (o1 intD (o2 addD (o2 addD (o2 mulD (oVar 0) (fun _ => some (.int 39373))) (o2 mulD (oVar 1) (fun _ => some (.int 6151)))) (fun _ => some (.int 50021)))) (fun _ => some (.int 2147483399))))
    (seqM (setM 3 (o2 modD (o1 intD (o2 addD (o2 addD (o2 mulD (oVar 2) (oVar 2)) (o2 mulD (oVar 1) (fun _ => some (.int 81071)))) (o2 divD (oVar 2) (fun _ => some (.int 137))))) (fun _ => some (.int 2147483629))))
    (seqM (retM (o2 divD (o1 intD (o2 modD (o1 intD (o2 addD (o2 mulD (oVar 3) (fun _ => some (.int 62089))) (o2 divD (oVar 2) (fun _ => some (.int 11))))) (fun _ => some (.int 2147483587)))) (fun _ => some (.int 64))))
    skipM)))
def F_law_mixed : List Da → Option Da := resM n_law_mixed 2 m_law_mixed
theorem ok_law_mixed (T : Tx K mg) : CanF P w K mg base 1 "_law_mixed" [] F_law_mixed := by
  obtain ⟨fd, F⟩ := T.f_law_mixed
  refine canF (m := m_law_mixed) T.g__law_mixed F (b_law_mixed F) sc_law_mixed fun cd A outer s H E hr => ?_
  exact (gb_cons (gs_set 2 (g_mod (g_intOf T.b_int (g_add (g_add (g_mul (g_var 0) g_int) (g_mul (g_var 1) g_int)) g_int)) g_int) sc_law_mixed.nd)
    (gb_cons (gs_set 3 (g_mod (g_intOf T.b_int (g_add (g_add (g_mul (g_var 2) (g_var 2)) (g_mul (g_var 1) g_int)) (g_div (g_var 2) g_int))) g_int) sc_law_mixed.nd)
    (gb_cons (gs_ret (g_div (g_intOf T.b_int (g_mod (g_intOf T.b_int (g_add (g_mul (g_var 3) g_int) (g_div (g_var 2) g_int))) g_int)) g_int))
    gb_nil)))
def m_law_all_words : Ms := (seqM (setM 2 (oA lstD (consA (oA tupD (fun _ => some [])) (fun _ => some []))))
    (seqM (forM (srcR1 3 (oVar 1))
    (seqM (ownM 4 (fun _ => some (.lw [])))
      (seqM (forM (srcA 5 (oVar 2))
      (seqM (ownM 4 (catOM 4 (lcM (.lw []) (srcR1 6 (oVar 0)) [6] yesM (o2 addD (oVar 5) (oA tupD (consA (oVar 6) (fun _ => some [])))))))
        skipM))
      (freezeM 4 (seqM (setM 2 (oVar 4))
      skipM)))))
    (seqM (retM (oVar 2))
    skipM)))
def F_law_all_words : List Da → Option Da := resM n_law_all_words 2 m_law_all_words
theorem ok_law_all_words (T : Tx K mg) : CanF P w K mg base 1 "_law_all_words" [] F_law_all_words := by
  obtain ⟨fd, F⟩ := T.f_law_all_words
  refine canF (m := m_law_all_words) T.g__law_all_words F (b_law_all_words F) sc_law_all_words fun cd A outer s H E hr => ?_
  exact (gb_cons (gs_set 2 (g_new (gn_lst (ga_cons (g_tup ga_nil) ga_nil))) sc_law_all_words.nd)
    (gb_cons (gs_for never rfl (pi_range1 rfl T.b_range (paW _ _) rfl) (pg_name sc_law_all_words.nd rfl (by first | exact .inl rfl | exact .inr rfl) (by first | exact .inl rfl | exact .inr rfl)) (gsrc_r1 3 (ga_cons (g_var 1) ga_nil))
    (gb_cons (gs_own 4 (gn_nil (.lw [])) sc_law_all_words.nd)
      (gb_cons (gs_for never rfl (pi_any (peW _ _)) (pg_name sc_law_all_words.nd rfl (by first | exact .inl rfl | exact .inr rfl) (by first | exact .inl rfl | exact .inr rfl)) (gsrc_any 5 (g_var 2))
      (gb_cons (gs_own 4 (gn_catOwn 4 (gn_lc0 (own := [("_law_letter", 6)]) (.lw []) rfl sc_law_all_words.nd (pi_range1 rfl T.b_range (paW _ _) rfl) (blk_ok (N := n_law_all_words) (sc := defScope s_law_all_words) rfl (by decide +kernel) (by decide +kernel) (by decide +kernel) (by decide +kernel)) (fun _ _ _ _ _ => pg_name sc_law_all_words.nd rfl (by first | exact .inl rfl | exact .inr rfl) (by first | exact .inl rfl | exact .inr rfl)) (gsrc_r1 6 (ga_cons (g_var 0) ga_nil)) (fun _ _ _ _ _ => (g_add (g_var 5) (g_tup (ga_cons (g_var 6) ga_nil)))))) sc_law_all_words.nd)
        gb_nil))
      (gb_freeze 4 (gb_cons (gs_set 2 (g_var 4) sc_law_all_words.nd)
      gb_nil)))))
    (gb_cons (gs_ret (g_var 2))
    gb_nil)))
def m_law_common : Ms := (seqM (ownM 2 (o1 (repD 0) (o2 addD (o1 lenD (oVar 1)) (fun _ => some (.int 1)))))
    (seqM (forM (srcA 3 (oVar 0))
    (seqM (setM 4 (fun _ => some (.int 0)))
      (seqM (forM (srcR1 5 (o1 lenD (oVar 1)))
      (seqM (setM 6 (ixM 2 (o2 addD (oVar 5) (fun _ => some (.int 1)))))
        (seqM (ifM (t2 eqD (o2 ixD (oVar 1) (oVar 5)) (oVar 3)) (seqM (putM 2 (o2 addD (oVar 5) (fun _ => some (.int 1))) (o2 addD (oVar 4) (fun _ => some (.int 1))))
          skipM) (seqM (putM 2 (o2 addD (oVar 5) (fun _ => some (.int 1))) (o2 maxD (ixM 2 (o2 addD (oVar 5) (fun _ => some (.int 1)))) (ixM 2 (oVar 5))))
          skipM))
        (seqM (setM 4 (oVar 6))
        skipM))))
      skipM)))
    (seqM (retM (ixM 2 (o1 lenD (oVar 1))))
    skipM)))
def F_law_common : List Da → Option Da := resM n_law_common 2 m_law_common
theorem ok_law_common (T : Tx K mg) : CanF P w K mg base 1 "_law_common" [] F_law_common := by
  obtain ⟨fd, F⟩ := T.f_law_common
  refine canF (m := m_law_common) T.g__law_common F (b_law_common F) sc_law_common fun cd A outer s H E hr => ?_
  exact (gb_cons (gs_own 2 (gn_rep (g_add (g_len T.b_len (g_var 1)) g_int)) sc_law_common.nd)
    (gb_cons (gs_for never rfl (pi_any (peW _ _)) (pg_name sc_law_common.nd rfl (by first | exact .inl rfl | exact .inr rfl) (by first | exact .inl rfl | exact .inr rfl)) (gsrc_any 3 (g_var 0))
    (gb_cons (gs_set 4 g_int sc_law_common.nd)
      (gb_cons (gs_for never rfl (pi_range1 rfl T.b_range (paW _ _) rfl) (pg_name sc_law_common.nd rfl (by first | exact .inl rfl | exact .inr rfl) (by first | exact .inl rfl | exact .inr rfl)) (gsrc_r1 5 (ga_cons (g_len T.b_len (g_var 1)) ga_nil))
      (gb_cons (gs_set 6 (g_ixOwn 2 (g_add (g_var 5) g_int)) sc_law_common.nd)
        (gb_cons (gs_if (gt_eq (g_ix (g_var 1) (g_var 5)) (g_var 3)) (gb_cons (gs_put 2 (g_add (g_var 4) g_int) (g_add (g_var 5) g_int))
          gb_nil) (gb_cons (gs_put 2 (g_max rfl T.b_max (g_ixOwn 2 (g_add (g_var 5) g_int)) (g_ixOwn 2 (g_var 5))) (g_add (g_var 5) g_int))
          gb_nil))
        (gb_cons (gs_set 4 (g_var 6) sc_law_common.nd)
        gb_nil))))
      gb_nil)))
    (gb_cons (gs_ret (g_ixOwn 2 (g_len T.b_len (g_var 1))))
    gb_nil)))
def m_law_sum : Ms := (seqM (retM (o1 sumD (lcM (.li []) (srcR1 1 (o1 lenD (oVar 0))) [1] yesM (o2 mulD (o2 addD (oVar 1) (fun _ => some (.int 1))) (o2 ixD (oVar 0) (oVar 1))))))
    skipM)
def F_law_sum : List Da → Option Da := resM n_law_sum 1 m_law_sum
theorem ok_law_sum (T : Tx K mg) : CanF P w K mg base 1 "_law_sum" [] F_law_sum := by
  obtain ⟨fd, F⟩ := T.f_law_sum
  refine canF (m := m_law_sum) T.g__law_sum F (b_law_sum F) sc_law_sum fun cd A outer s H E hr => ?_
  exact (gb_cons (gs_ret (g_sum rfl T.b_sum (g_new (gn_lc0 (own := [("_law_k", 1)]) (.li []) rfl sc_law_sum.nd (pi_range1 rfl T.b_range (paW _ _) rfl) (blk_ok (N := n_law_sum) (sc := defScope s_law_sum) rfl (by decide +kernel) (by decide +kernel) (by decide +kernel) (by decide +kernel)) (fun _ _ _ _ _ => pg_name sc_law_sum.nd rfl (by first | exact .inl rfl | exact .inr rfl) (by first | exact .inl rfl | exact .inr rfl)) (gsrc_r1 1 (ga_cons (g_len T.b_len (g_var 0)) ga_nil)) (fun _ _ _ _ _ => (g_mul (g_add (g_var 1) g_int) (g_ix (g_var 0) (g_var 1))))))))
    gb_nil)
def m_law_sum_words : Ms := (seqM (retM (lcM (.lw []) (srcA 3 (oA (fun ds => F_law_all_words (ds ++ [])) (consA (fun _ => some (.int 2)) (consA (oVar 0) (fun _ => some []))))) [3] (t2 eqD (o2 modD (o1 intD (o2 subD (oA (fun ds => F_law_sum (ds ++ [])) (consA (oVar 3) (fun _ => some []))) (oVar 2))) (oVar 1)) (fun _ => some (.int 0))) (oVar 3)))
    skipM)
def F_law_sum_words : List Da → Option Da := resM n_law_sum_words 3 m_law_sum_words
theorem ok_law_sum_words (T : Tx K mg) : CanF P w K mg base 2 "_law_sum_words" [] F_law_sum_words := by
  obtain ⟨fd, F⟩ := T.f_law_sum_words
  refine canF (m := m_law_sum_words) T.g__law_sum_words F (b_law_sum_words F) sc_law_sum_words fun cd A outer s H E hr => ?_
  exact (gb_cons (gs_ret (g_new (gn_lc1 (own := [("_law_word", 3)]) (.lw []) rfl sc_law_sum_words.nd (pi_any (peW _ _)) (blk_ok (N := n_law_sum_words) (sc := defScope s_law_sum_words) rfl (by decide +kernel) (by decide +kernel) (by decide +kernel) (by decide +kernel)) (fun _ _ _ _ _ => pg_name sc_law_sum_words.nd rfl (by first | exact .inl rfl | exact .inr rfl) (by first | exact .inl rfl | exact .inr rfl)) (gsrc_any 3 (g_call (Can.mono (ok_law_all_words T) (by decide)) hr (ga_cons g_int (ga_cons (g_var 0) ga_nil)))) (fun _ _ _ _ _ => (gt_eq (g_mod (g_intOf T.b_int (g_sub (g_call (Can.mono (ok_law_sum T) (by decide)) hr (ga_cons (g_var 3) ga_nil)) (g_var 2))) (g_var 1)) g_int)) (fun _ _ _ _ _ => (g_var 3)))))
    gb_nil)
def m_law_behind : Ms := (seqM (retM (lcM (.lw []) (srcA 3 (oVar 0)) [3] (t2 geD (oA (fun ds => F_law_common (ds ++ [])) (consA (oVar 3) (consA (oVar 1) (fun _ => some [])))) (o2 subD (o1 lenD (oVar 3)) (oVar 2))) (oVar 3)))
    skipM)
def F_law_behind : List Da → Option Da := resM n_law_behind 3 m_law_behind
theorem ok_law_behind (T : Tx K mg) : CanF P w K mg base 2 "_law_behind" [] F_law_behind := by
  obtain ⟨fd, F⟩ := T.f_law_behind
  refine canF (m := m_law_behind) T.g__law_behind F (b_law_behind F) sc_law_behind fun cd A outer s H E hr => ?_
  exact (gb_cons (gs_ret (g_new (gn_lc1 (own := [("_law_one", 3)]) (.lw []) rfl sc_law_behind.nd (pi_any (peW _ _)) (blk_ok (N := n_law_behind) (sc := defScope s_law_behind) rfl (by decide +kernel) (by decide +kernel) (by decide +kernel) (by decide +kernel)) (fun _ _ _ _ _ => pg_name sc_law_behind.nd rfl (by first | exact .inl rfl | exact .inr rfl) (by first | exact .inl rfl | exact .inr rfl)) (gsrc_any 3 (g_var 0)) (fun _ _ _ _ _ => (gt_ge (g_call (Can.mono (ok_law_common T) (by decide)) hr (ga_cons (g_var 3) (ga_cons (g_var 1) ga_nil))) (g_sub (g_len T.b_len (g_var 3)) (g_var 2)))) (fun _ _ _ _ _ => (g_var 3)))))
    gb_nil)
end
end K54

set_option Elab.async false
set_option linter.all false
set_option maxRecDepth 100000
set_option maxHeartbeats 4000000
/-! J11: the books and the pair are made. -/
namespace K54
open PySem PySem.Spec PyProof.Rows L2
/-! ### small reckonings -/
theorem whole_ok {x lo hi : Int} (h1 : lo ≤ x) (h2 : x ≤ hi) : F_is_whole [.int x, .int lo, .int hi] = some (.bl true) := by
  show some (Da.bl (decide (lo ≤ x) && decide (x ≤ hi))) = _
  rw [decide_eq_true h1, decide_eq_true h2]
  rfl
theorem number_ok {x lo hi : Int} (h1 : lo ≤ x) (h2 : x ≤ hi) : F_check_number [.int x, .int lo, .int hi] = some (.int x) := by
  have e : (notM (t1 asB (oA (fun ds => F_is_whole (ds ++ [])) (consA (oVar 0) (consA (oVar 1) (consA (oVar 2) (fun _ => some []))))))) (Γ0 n_check_number [.int x, .int lo, .int hi]) = some false := by
    show notM (fun _ => t1 asB (fun _ => F_is_whole [.int x, .int lo, .int hi]) []) [] = some false
    rw [whole_ok h1 h2]
    rfl
  show resM n_check_number 3 m_check_number [.int x, .int lo, .int hi] = _
  unfold resM m_check_number seqM ifM
  rw [e]
  rfl
theorem letters_ok {x : Int} (h1 : 2 ≤ x) (h2 : x ≤ 4) : F_check_letters [.int x] = some (.int x) := by
  have e : (notM (t1 asB (oA (fun ds => F_is_whole (ds ++ [])) (consA (oVar 0) (consA (fun _ => some (.int 2)) (consA (fun _ => some (.int 4)) (fun _ => some []))))))) (Γ0 n_check_letters [.int x]) = some false := by
    show notM (fun _ => t1 asB (fun _ => F_is_whole [.int x, .int 2, .int 4]) []) [] = some false
    rw [whole_ok h1 h2]
    rfl
  show resM n_check_letters 1 m_check_letters [.int x] = _
  unfold resM m_check_letters seqM ifM
  rw [e]
  rfl
theorem modulus_ok {m low : Int} (h1 : low ≤ m) (h2 : m ≤ 1000000) : F_check_modulus_sums [.int m, .int low] = some .non := by
  have e : (notM (t1 asB (oA (fun ds => F_is_whole (ds ++ [])) (consA (oVar 0) (consA (oVar 1) (consA (fun _ => some (.int 1000000)) (fun _ => some []))))))) (Γ0 n_check_modulus_sums [.int m, .int low]) = some false := by
    show notM (fun _ => t1 asB (fun _ => F_is_whole [.int m, .int low, .int 1000000]) []) [] = some false
    rw [whole_ok h1 h2]
    rfl
  show resM n_check_modulus_sums 2 m_check_modulus_sums [.int m, .int low] = _
  unfold resM m_check_modulus_sums seqM ifM
  rw [e]
  rfl
theorem rest_ok {r m : Int} (h1 : 0 ≤ r) (h2 : r < m) : F_check_rest [.int r, .int m] = some .non := by
  have e : (notM (t1 asB (oA (fun ds => F_is_whole (ds ++ [])) (consA (oVar 0) (consA (fun _ => some (.int 0)) (consA (o2 subD (oVar 1) (fun _ => some (.int 1))) (fun _ => some []))))))) (Γ0 n_check_rest [.int r, .int m]) = some false := by
    show notM (fun _ => t1 asB (fun _ => F_is_whole [.int r, .int 0, .int (m - 1)]) []) [] = some false
    rw [whole_ok h1 (by omega)]
    rfl
  show resM n_check_rest 2 m_check_rest [.int r, .int m] = _
  unfold resM m_check_rest seqM ifM
  rw [e]
  rfl
theorem modulusW_ok {m : Int} (h1 : 1 ≤ m) (h2 : m ≤ 10000000000000000) : F_check_modulus_weights [.int m] = some (.int m) := by
  have e : (notM (t1 asB (oA (fun ds => F_is_whole (ds ++ [])) (consA (oVar 0) (consA (fun _ => some (.int 1)) (consA (fun _ => some (.int 10000000000000000)) (fun _ => some []))))))) (Γ0 n_check_modulus_weights [.int m]) = some false := by
    show notM (fun _ => t1 asB (fun _ => F_is_whole [.int m, .int 1, .int 10000000000000000]) []) [] = some false
    rw [whole_ok h1 h2]
    rfl
  show resM n_check_modulus_weights 1 m_check_modulus_weights [.int m] = _
  unfold resM m_check_modulus_weights seqM ifM
  rw [e]
  rfl
theorem pl {f : Str} {v : V} {fs : List (Str × V)} {n : Nat} (h : fs.length ≤ n) : (putF f v fs).length ≤ n + 1 := Nat.le_trans (length_putF f v fs) (Nat.succ_le_succ h)
theorem sb_put {n m r : Int} : putF "rest" (V.int r) (putF "modulus" (V.int m) (putF "length" (V.int n) [])) = sbF n m r := by
  have a : ("length" : Str) ≠ ("modulus" : Str) := by decide +kernel
  have b : ("length" : Str) ≠ ("rest" : Str) := by decide +kernel
  have c : ("modulus" : Str) ≠ ("rest" : Str) := by decide +kernel
  simp only [putF, a, b, c, if_false]
  rfl
theorem wb_put {q n m r : Int} {t : Addr} : putF "rest" (V.int r) (putF "modulus" (V.int m) (putF "length" (V.int n) (putF "weights" (V.ref t) (putF "letters" (V.int q) [])))) = wbF q t n m r := by
  have a : ("length" : Str) ≠ ("modulus" : Str) := by decide +kernel
  have b : ("length" : Str) ≠ ("rest" : Str) := by decide +kernel
  have c : ("modulus" : Str) ≠ ("rest" : Str) := by decide +kernel
  have d : ("letters" : Str) ≠ ("weights" : Str) := by decide +kernel
  have e : ("letters" : Str) ≠ ("length" : Str) := by decide +kernel
  have f : ("letters" : Str) ≠ ("modulus" : Str) := by decide +kernel
  have g : ("letters" : Str) ≠ ("rest" : Str) := by decide +kernel
  have h : ("weights" : Str) ≠ ("length" : Str) := by decide +kernel
  have i : ("weights" : Str) ≠ ("modulus" : Str) := by decide +kernel
  have j : ("weights" : Str) ≠ ("rest" : Str) := by decide +kernel
  simp only [putF, a, b, c, d, e, f, g, h, i, j, if_false]
  rfl
theorem self_at {K : PySem.W.Frag} {H0 Hs H : Hp} {σ : L2.St} {Γ : List Ent} {x : Addr} (S : St2 K H0 Hs H σ Γ) (h : Γ[0]? = some (.val (.rf x))) : σ[0]? = some (some (.ref x)) := by
  obtain ⟨v, e, r⟩ := S.val h
  rw [e, show v = .ref x from r]
section
variable {P : Program} {w : World} {K : PySem.W.Frag} {mg : Str → Option Value} {base : Heap}
def R_sb (ds : List Da) : Prop := ∃ n m r : Int, ds = [.int n, .int m, .int r] ∧ 0 ≤ n ∧ n ≤ 200 ∧ n + 1 ≤ m ∧ m ≤ 1000000 ∧ 0 ≤ r ∧ r < m
def fin_sb (ds : List Da) (_ : Hp) (fs : List (Str × V)) : Prop := ∃ n m r : Int, ds = [.int n, .int m, .int r] ∧ fs = sbF n m r
theorem ok_SumBook_init (T : Tx K mg) : ∃ fd, FnOk P w K mg base CX0 3 (He.ma K (He.ga K "SumBook") "__init__") fd ["self", "length", "modulus", "rest"] (spI K (He.ga K "SumBook") R_sb fin_sb) ∧ Binds K fd ["self", "length", "modulus", "rest"] [] := by
  obtain ⟨fd, F⟩ := T.f_SumBook_init
  refine ⟨fd, F.ok sc_SumBook_init (fun vs H Q E ⟨x, dx, Hs, us, ds, e, _, _, _, pr, ⟨n, m, r, e2, _⟩, _⟩ => by rw [e, List.length_cons, pr.length, e2]; rfl) fun cd A outer s H vs Q E hr ⟨x, dx, Hs, us, ds, e, sub, n1, hx, pr, ⟨n, m, r, e2, h1, h2, h3, h4, h5, h6⟩, k⟩ => ?_, b_SumBook_init F⟩
  subst e e2
  refine ⟨wB (fX P w K mg base n_SumBook_init "SumBook.__init__" (defScope s_SumBook_init) (He.fAd K ("SumBook", some "__init__")) cd A outer s H E) (defBody s_SumBook_init), PSs.nox (pssW _ _), ?_⟩
  have S0 : St2 K H Hs H (L2.start n_SumBook_init (.ref x :: us)) (Γ0 n_SumBook_init [.rf x, .int n, .int m, .int r]) := st2_start sub (.cons rfl pr)
  refine wB_sd (Γ' := Γ0 n_SumBook_init [.rf x, .int n, .int m, .int r]) (gs_expr (g_call (Can.mono (ok_check_number T) (by decide)) hr (ga_cons (g_var 1) (ga_cons g_int (ga_cons (g_glob T.i_MOST_LENGTH) ga_nil))))) ?_ (Stp.refl sub) S0 fun σ1 Hs1 H1 t1 S1 => ?_
  · show exM (fun _ => F_check_number [.int n, .int 0, .int 200]) _ = _
    rw [number_ok h1 h2]
    rfl
  refine wB_sd (Γ' := Γ0 n_SumBook_init [.rf x, .int n, .int m, .int r]) (gs_expr (g_call (Can.mono (ok_check_modulus_sums T) (by decide)) hr (ga_cons (g_var 2) (ga_cons (g_add (g_var 1) g_int) ga_nil)))) ?_ t1 S1 fun σ2 Hs2 H2 t2 S2 => ?_
  · show exM (fun _ => F_check_modulus_sums [.int m, .int (n + 1)]) _ = _
    rw [modulus_ok h3 h4]
    rfl
  refine wB_sd (Γ' := Γ0 n_SumBook_init [.rf x, .int n, .int m, .int r]) (gs_expr (g_call (Can.mono (ok_check_rest T) (by decide)) hr (ga_cons (g_var 3) (ga_cons (g_var 2) ga_nil)))) ?_ t2 S2 fun σ3 Hs3 H3 t3 S3 => ?_
  · show exM (fun _ => F_check_rest [.int r, .int m]) _ = _
    rw [rest_ok h5 h6]
    rfl
  have nx3 : Hs3 x = none := t3.own x _ hx rfl n1
  refine wB_fld (ev_var 1 rfl) S3 (t3.h _ _ hx) nx3 rfl (self_at S3 rfl) T.c_SumBook T.n_SumBook_length (Nat.lt_of_le_of_lt (Nat.le_refl 0) (by decide)) fun v4 Hs4 H4 a4 b4 c4 d4 e4 r4 S4 => ?_
  have nx4 : Hs4 x = none := d4 x _ (t3.h _ _ hx) rfl nx3
  refine wB_fld (ev_var 2 rfl) S4 e4 nx4 rfl (self_at S4 rfl) T.c_SumBook T.n_SumBook_modulus (Nat.lt_of_le_of_lt (pl (Nat.le_refl 0)) (by decide)) fun v5 Hs5 H5 a5 b5 c5 d5 e5 r5 S5 => ?_
  have nx5 : Hs5 x = none := d5 x _ e4 rfl nx4
  refine wB_fld (ev_var 3 rfl) S5 e5 nx5 rfl (self_at S5 rfl) T.c_SumBook T.n_SumBook_rest (Nat.lt_of_le_of_lt (pl (pl (Nat.le_refl 0))) (by decide)) fun v6 Hs6 H6 a6 b6 c6 d6 e6 r6 S6 => ?_
  refine wB_of pss_nil (k Hs6 H6 _ (t3.s.trans (a4.trans (a5.trans a6))) c6 (fun b o hb z => b6 b o hb (b5 b o hb (b4 b o hb (t3.h b o z)))) (fun b o z1 z2 z3 => ?_) e6 ⟨n, m, r, rfl, ?_⟩)
  · by_cases hb : b = x
    · subst hb
      exact d6 b _ e5 rfl nx5
    · have y3 := t3.h b o z1
      have y4 := b4 b o hb y3
      exact d6 b o (b5 b o hb y4) z2 (d5 b o y4 z2 (d4 b o y3 z2 (t3.own b o z1 z2 z3)))
  · have q4 : v4 = .int n := r4
    have q5 : v5 = .int m := r5
    have q6 : v6 = .int r := r6
    subst q4 q5 q6
    exact sb_put
def R_wb (ds : List Da) : Prop := ∃ (q : Int) (ws : List Int) (m r : Int), ds = [.int q, .wd ws, .int m, .int r] ∧ 2 ≤ q ∧ q ≤ 4 ∧ F_check_weights [.wd ws] = some (.wd ws) ∧ 1 ≤ m ∧ m ≤ 10000000000000000 ∧ 0 ≤ r ∧ r < m
def fin_wb (ds : List Da) (Hs : Hp) (fs : List (Str × V)) : Prop := ∃ (q : Int) (ws : List Int) (m r : Int) (t : Addr), ds = [.int q, .wd ws, .int m, .int r] ∧ fs = wbF q t ws.length m r ∧ Hs t = some (.tup (ws.map V.int))
theorem ok_WeightBook_init (T : Tx K mg) : ∃ fd, FnOk P w K mg base CX0 3 (He.ma K (He.ga K "WeightBook") "__init__") fd ["self", "letters", "weights", "modulus", "rest"] (spI K (He.ga K "WeightBook") R_wb fin_wb) ∧ Binds K fd ["self", "letters", "weights", "modulus", "rest"] [] := by
  obtain ⟨fd, F⟩ := T.f_WeightBook_init
  refine ⟨fd, F.ok sc_WeightBook_init (fun vs H Q E ⟨x, dx, Hs, us, ds, e, _, _, _, pr, ⟨q, ws, m, r, e2, _⟩, _⟩ => by rw [e, List.length_cons, pr.length, e2]; rfl) fun cd A outer s H vs Q E hr ⟨x, dx, Hs, us, ds, e, sub, n1, hx, pr, ⟨q, ws, m, r, e2, h1, h2, h3, h4, h5, h6, h7⟩, k⟩ => ?_, b_WeightBook_init F⟩
  subst e e2
  refine ⟨wB (fX P w K mg base n_WeightBook_init "WeightBook.__init__" (defScope s_WeightBook_init) (He.fAd K ("WeightBook", some "__init__")) cd A outer s H E) (defBody s_WeightBook_init), PSs.nox (pssW _ _), ?_⟩
  have S0 : St2 K H Hs H (L2.start n_WeightBook_init (.ref x :: us)) (Γ0 n_WeightBook_init [.rf x, .int q, .wd ws, .int m, .int r]) := st2_start sub (.cons rfl pr)
  refine wB_sd (Γ' := Γ0 n_WeightBook_init [.rf x, .int q, .wd ws, .int m, .int r]) (gs_expr (g_call (Can.mono (ok_check_letters T) (by decide)) hr (ga_cons (g_var 1) ga_nil))) ?_ (Stp.refl sub) S0 fun σ1 Hs1 H1 t1 S1 => ?_
  · show exM (fun _ => F_check_letters [.int q]) _ = _
    rw [letters_ok h1 h2]
    rfl
  refine wB_sd (Γ' := Γ0 n_WeightBook_init [.rf x, .int q, .wd ws, .int m, .int r]) (gs_set 2 (g_call (Can.mono (ok_check_weights T) (by decide)) hr (ga_cons (g_var 2) ga_nil)) sc_WeightBook_init.nd) ?_ t1 S1 fun σ2 Hs2 H2 t2 S2 => ?_
  · show setM 2 (fun _ => F_check_weights [.wd ws]) _ = _
    rw [h3]
    rfl
  refine wB_sd (Γ' := Γ0 n_WeightBook_init [.rf x, .int q, .wd ws, .int m, .int r]) (gs_expr (g_call (Can.mono (ok_check_modulus_weights T) (by decide)) hr (ga_cons (g_var 3) ga_nil))) ?_ t2 S2 fun σ3 Hs3 H3 t3 S3 => ?_
  · show exM (fun _ => F_check_modulus_weights [.int m]) _ = _
    rw [modulusW_ok h4 h5]
    rfl
  refine wB_sd (Γ' := Γ0 n_WeightBook_init [.rf x, .int q, .wd ws, .int m, .int r]) (gs_if (gt_not (gt_val (g_call (Can.mono (ok_is_whole T) (by decide)) hr (ga_cons (g_var 4) (ga_cons g_int (ga_cons (g_sub (g_var 3) g_int) ga_nil)))))) gb_bad gb_nil) ?_ t3 S3 fun σ4 Hs4 H4 t4 S4 => ?_
  · show ifM (fun _ => notM (fun _ => K54.t1 asB (fun _ => F_is_whole [.int r, .int 0, .int (m - 1)]) []) []) badM skipM _ = _
    rw [whole_ok h6 (by omega)]
    rfl
  have nx4 : Hs4 x = none := t4.own x _ hx rfl n1
  refine wB_fld (ev_var 1 rfl) S4 (t4.h _ _ hx) nx4 rfl (self_at S4 rfl) T.c_WeightBook T.n_WeightBook_letters (Nat.lt_of_le_of_lt (Nat.le_refl 0) (by decide)) fun v5 Hs5 H5 a5 b5 c5 d5 e5 r5 S5 => ?_
  have nx5 : Hs5 x = none := d5 x _ (t4.h _ _ hx) rfl nx4
  refine wB_fld (ev_var 2 rfl) S5 e5 nx5 rfl (self_at S5 rfl) T.c_WeightBook T.n_WeightBook_weights (Nat.lt_of_le_of_lt (pl (Nat.le_refl 0)) (by decide)) fun v6 Hs6 H6 a6 b6 c6 d6 e6 r6 S6 => ?_
  have nx6 : Hs6 x = none := d6 x _ e5 rfl nx5
  refine wB_fld (ev_len T.b_len rfl (ev_var 2 rfl)) S6 e6 nx6 rfl (self_at S6 rfl) T.c_WeightBook T.n_WeightBook_length (Nat.lt_of_le_of_lt (pl (pl (Nat.le_refl 0))) (by decide)) fun v7 Hs7 H7 a7 b7 c7 d7 e7 r7 S7 => ?_
  have nx7 : Hs7 x = none := d7 x _ e6 rfl nx6
  refine wB_fld (ev_var 3 rfl) S7 e7 nx7 rfl (self_at S7 rfl) T.c_WeightBook T.n_WeightBook_modulus (Nat.lt_of_le_of_lt (pl (pl (pl (Nat.le_refl 0)))) (by decide)) fun v8 Hs8 H8 a8 b8 c8 d8 e8 r8 S8 => ?_
  have nx8 : Hs8 x = none := d8 x _ e7 rfl nx7
  refine wB_fld (ev_var 4 rfl) S8 e8 nx8 rfl (self_at S8 rfl) T.c_WeightBook T.n_WeightBook_rest (Nat.lt_of_le_of_lt (pl (pl (pl (pl (Nat.le_refl 0))))) (by decide)) fun v9 Hs9 H9 a9 b9 c9 d9 e9 r9 S9 => ?_
  obtain ⟨tw, ev6, hv6⟩ := (show WdR K Hs6 v6 ws from r6)
  refine wB_of pss_nil (k Hs9 H9 _ (t4.s.trans (a5.trans (a6.trans (a7.trans (a8.trans a9))))) c9 (fun b o hb z => b9 b o hb (b8 b o hb (b7 b o hb (b6 b o hb (b5 b o hb (t4.h b o z)))))) (fun b o z1 z2 z3 => ?_) e9 ⟨q, ws, m, r, tw, rfl, ?_, (a7.trans (a8.trans a9)) _ _ hv6⟩)
  · by_cases hb : b = x
    · subst hb
      exact d9 b _ e8 rfl nx8
    · have y4 := t4.h b o z1
      have y5 := b5 b o hb y4
      have y6 := b6 b o hb y5
      have y7 := b7 b o hb y6
      exact d9 b o (b8 b o hb y7) z2 (d8 b o y7 z2 (d7 b o y6 z2 (d6 b o y5 z2 (d5 b o y4 z2 (t4.own b o z1 z2 z3)))))
  · have q5 : v5 = .int q := r5
    have q7 : v7 = .int ws.length := r7
    have q8 : v8 = .int m := r8
    have q9 : v9 = .int r := r9
    subst q5 q7 q8 q9 ev6
    exact wb_put
def R_np (ds : List Da) : Prop := ds.length = 4
theorem ok_NearPair_init (T : Tx K mg) : ∃ fd, FnOk P w K mg base CX0 1 (He.ma K (He.ga K "NearPair") "__init__") fd ["self", "one", "other", "below", "above"] (spI K (He.ga K "NearPair") R_np (fun _ _ _ => True)) ∧ Binds K fd ["self", "one", "other", "below", "above"] [] := by
  obtain ⟨fd, F⟩ := T.f_NearPair_init
  refine ⟨fd, F.ok sc_NearPair_init (fun vs H Q E ⟨x, dx, Hs, us, ds, e, _, _, _, pr, e2, _⟩ => by rw [e, List.length_cons, pr.length, show ds.length = 4 from e2]; rfl) fun cd A outer s H vs Q E hr ⟨x, dx, Hs, us, ds, e, sub, n1, hx, pr, e2, k⟩ => ?_, b_NearPair_init F⟩
  obtain ⟨p1, p2, p3, p4, rfl⟩ : ∃ p1 p2 p3 p4, ds = [p1, p2, p3, p4] := by
    match ds, e2 with
    | [a, b, c, d], _ => exact ⟨a, b, c, d, rfl⟩
  subst e
  refine ⟨wB (fX P w K mg base n_NearPair_init "NearPair.__init__" (defScope s_NearPair_init) (He.fAd K ("NearPair", some "__init__")) cd A outer s H E) (defBody s_NearPair_init), PSs.nox (pssW _ _), ?_⟩
  have S0 : St2 K H Hs H (L2.start n_NearPair_init (.ref x :: us)) (Γ0 n_NearPair_init [.rf x, p1, p2, p3, p4]) := st2_start sub (.cons rfl pr)
  refine wB_fld (ev_var 1 rfl) S0 hx n1 rfl (self_at S0 rfl) T.c_NearPair T.n_NearPair_one (Nat.lt_of_le_of_lt (Nat.le_refl 0) (by decide)) fun v5 Hs5 H5 a5 b5 c5 d5 e5 r5 S5 => ?_
  have nx5 : Hs5 x = none := d5 x _ hx rfl n1
  refine wB_fld (ev_var 2 rfl) S5 e5 nx5 rfl (self_at S5 rfl) T.c_NearPair T.n_NearPair_other (Nat.lt_of_le_of_lt (pl (Nat.le_refl 0)) (by decide)) fun v6 Hs6 H6 a6 b6 c6 d6 e6 r6 S6 => ?_
  have nx6 : Hs6 x = none := d6 x _ e5 rfl nx5
  refine wB_fld (ev_var 3 rfl) S6 e6 nx6 rfl (self_at S6 rfl) T.c_NearPair T.n_NearPair_below (Nat.lt_of_le_of_lt (pl (pl (Nat.le_refl 0))) (by decide)) fun v7 Hs7 H7 a7 b7 c7 d7 e7 r7 S7 => ?_
  have nx7 : Hs7 x = none := d7 x _ e6 rfl nx6
  refine wB_fld (ev_var 4 rfl) S7 e7 nx7 rfl (self_at S7 rfl) T.c_NearPair T.n_NearPair_above (Nat.lt_of_le_of_lt (pl (pl (pl (Nat.le_refl 0)))) (by decide)) fun v8 Hs8 H8 a8 b8 c8 d8 e8 r8 S8 => ?_
  refine wB_of pss_nil (k Hs8 H8 _ (a5.trans (a6.trans (a7.trans a8))) c8 (fun b o hb z => b8 b o hb (b7 b o hb (b6 b o hb (b5 b o hb z)))) (fun b o z1 z2 z3 => ?_) e8 trivial)
  by_cases hb : b = x
  · subst hb
    exact d8 b _ e7 rfl nx7
  · have y5 := b5 b o hb z1
    have y6 := b6 b o hb y5
    have y7 := b7 b o hb y6
    exact d8 b o y7 z2 (d7 b o y6 z2 (d6 b o y5 z2 (d5 b o z1 z2 z3)))
end
end K54

set_option Elab.async false
set_option linter.all false
set_option maxRecDepth 100000
set_option maxHeartbeats 4000000
/-! J13: for and if in a generator's body. -/
namespace PySem
open Sem (wp)
section
variable {M : Model} {A : Around} {R : GenEnd} {Y : Protocol} {n : Nat} {s₀ : Shared} {c : Code} {fs : List Frame} {s : Shared} {env : Env} {K : Flow → Sem Fin} {H : Value → Sem Fin} {gd : Bool → Bool} {lv : List Value → List Value}
theorem seg_For54 {target iter : Expr} {body orelse : List Stmt} {pos : Pos}
    (h : wpAny M (A.over c fs) (eval iter env) (fun x s₁ => wpAny M (A.over c fs) (pyIter x) (fun it s₂ => ∀ p, Seg M A R Y n s₀ (.forLoop target it body orelse env) (M.den (.forLoop target it body orelse env))
      (.ret (fun r => ((match r with | .ok f => (.pure f : Sem Flow) | .error e => .raise e).onRaise fun (x : Value) => do
        if (← field x 1) == Value.none then unsupported "frame.own-activation:exception-without-traceback"
        setFlight x env.frame).wrap K H gd lv) none (gd false) (lv []) c p [] :: fs) s₂) (fun x s' => Seg M A R Y n s₀ c (H x) fs s') s₁) (fun x s' => Seg M A R Y n s₀ c (H x) fs s') s)
    (hs : ∀ x, foldedSetIterable iter env x = pure x) : Seg M A R Y n s₀ c ((exec (.For target iter body orelse pos) env).wrap K H gd lv) fs s := by
  rw [exec_For]
  refine seg_bind_wrap (wpAny_standAt ?_)
  refine seg_bind_wrap (wpAny_mono h (fun x s₁ h₁ => ?_) fun _ _ z => z)
  refine seg_bind_wrap (wpAny_of_eq (hs x) ?_)
  refine seg_bind_wrap (wpAny_standAt ?_)
  refine seg_bind_wrap (wpAny_holding (wpAny_mono h₁ (fun it s₂ h₂ => ?_) fun _ _ z => z))
  exact seg_call h₂
theorem seg_If54 {test : Expr} {body orelse : List Stmt} {pos : Pos}
    (h : wpAny M (A.over c fs) (isTrue test env (eval test env)) (fun b s' => if b = true then Seg M A R Y n s₀ c ((execs body env).wrap K H gd lv) fs s' else Seg M A R Y n s₀ c ((execs orelse env).wrap K H gd lv) fs s') (fun x s' => Seg M A R Y n s₀ c (H x) fs s') s) :
    Seg M A R Y n s₀ c ((exec (.If test body orelse pos) env).wrap K H gd lv) fs s := by
  rw [exec_If]
  refine seg_bind_wrap (wpAny_standAt ?_)
  refine seg_bind_wrap (wpAny_mono h (fun b s' hb => ?_) fun _ _ z => z)
  cases b with
  | true => rw [if_pos rfl] at hb ⊢; exact hb
  | false => rw [if_neg Bool.false_ne_true] at hb ⊢; exact hb
end
section
variable {prog : Program} {w : World} {A : Around} {R : GenEnd} {Y : Protocol} {n : Nat} {s₀ : Shared} {fs : List Frame} {s : Shared} {env : Env}
abbrev turnX54 (prog : Program) (w : World) (A : Around) (R : GenEnd) (Y : Protocol) (n : Nat) (s₀ : Shared) (c : Code) (fs : List Frame) (env : Env) : Value → Shared → Prop := fun x s' =>
  Seg (model prog w) A R Y n s₀ c ((do noteFrame x env; theTreesLotGoes x : Sem Unit).wrap (fun _ => (.raise x : Sem Fin)) .raise id id) fs s'
theorem seg_forLoop54 {target : Expr} {it : Value} {body orelse : List Stmt}
    (h : wpAny (model prog w) (A.over (.forLoop target it body orelse env) fs) (pyNext it) (fun r s₁ => match r with
      | none => Seg (model prog w) A R Y n s₀ (.forLoop target it body orelse env) (.pure (.again (.block orelse env))) fs s₁
      | some v => wpAny (model prog w) (A.over (.forLoop target it body orelse env) fs) (letOwnedTupleGo target it v) (fun _ s₂ =>
          wpAny (model prog w) (A.over (.forLoop target it body orelse env) fs) (assign target env v) (fun _ s₃ =>
            Seg (model prog w) A R Y n s₀ (.forLoop target it body orelse env) ((execs body env).wrap (fun f => match f with
              | .next | .cont => .pure (.again (.forLoop target it body orelse env))
              | .brk => .pure (.done .next)
              | .ret v => .pure (.done (.ret v))) (fun e => (do noteFrame e env; theTreesLotGoes e : Sem Unit).wrap (fun _ => .raise e) .raise id id) id id) fs s₃)
            (turnX54 prog w A R Y n s₀ (.forLoop target it body orelse env) fs env) s₂) (turnX54 prog w A R Y n s₀ (.forLoop target it body orelse env) fs env) s₁)
      (turnX54 prog w A R Y n s₀ (.forLoop target it body orelse env) fs env) s) :
    Seg (model prog w) A R Y n s₀ (.forLoop target it body orelse env) ((model prog w).den (.forLoop target it body orelse env)) fs s := by
  show Seg _ A R Y n s₀ _ ((forTurn target it body orelse env).onRaise (fun x => do noteFrame x env; theTreesLotGoes x)) fs s
  have ex : ∀ x s', turnX54 prog w A R Y n s₀ (.forLoop target it body orelse env) fs env x s' → Seg (model prog w) A R Y n s₀ (.forLoop target it body orelse env) (((do noteFrame x env; theTreesLotGoes x : Sem Unit)).bind fun _ => (.raise x : Sem Fin)) fs s' := fun x s' hx => by
    rw [Sem.bind_eq_wrap]; exact hx
  unfold forTurn
  rw [Sem.onRaise_eq_wrap]
  refine seg_bind_wrap (wpAny_standAt ?_)
  refine seg_bind_wrap (wpAny_onRaise (wpAny_mono h (fun r s₁ h₁ => ?_) fun x s' hx => wpAny_standAt (ex x s' hx)))
  cases r with
  | none => exact h₁
  | some v =>
    refine seg_bind_wrap (wpAny_mono h₁ (fun _ s₂ h₂ => ?_) fun x s' hx => ex x s' hx)
    refine seg_bind_wrap (wpAny_mono h₂ (fun _ s₃ h₃ => ?_) fun x s' hx => ex x s' hx)
    rw [Sem.bind_eq_wrap', Sem.wrap_wrap]
    rw [Sem.wrap_congr (execs body env) _ _ (K' := fun f => match f with
            | .next | .cont => .pure (.again (.forLoop target it body orelse env))
            | .brk => .pure (.done .next)
            | .ret v => .pure (.done (.ret v))) (H' := (fun e => (do noteFrame e env; theTreesLotGoes e : Sem Unit).wrap (fun _ => .raise e) .raise id id))
        (fun f => by cases f <;> rfl)
        (fun e => by first | exact Sem.bind_eq_wrap _ _ | (show (do noteFrame e env; theTreesLotGoes e : Sem Unit).bind (fun _ => .raise e) = _; rw [Sem.bind_eq_wrap]))]
    exact h₃
theorem seg_block54 {env' : Env} (h : Seg (model prog w) A R Y n s₀ (.block [] env') (.pure (.done .next)) fs s) : Seg (model prog w) A R Y n s₀ (.block [] env') ((model prog w).den (.block [] env')) fs s := h
end
end PySem
namespace K54
open PySem PySem.Spec PyProof.Rows L2 GenW
def tGFor (wi : TI) (g : TG) (tb : TGn) : TGn := fun D ys σ H => wi σ H fun J H1 => ∃ W : Nat → Nat → List V → L2.St → Hp → Prop, (∃ m, W 0 m ys σ H1) ∧ ∀ i m ys σ H, W i m ys σ H →
  (J.stop i H ∧ D.nx ys σ H) ∨ (J.go i H ∧ ∃ N : List V → L2.St → Hp → Prop, (∀ ys' σ' H', N ys' σ' H' → ∃ m', m' < m ∧ W (i + 1) m' ys' σ' H') ∧ ∀ x H', J.yld i H x H' → g x σ H' fun σ2 H2 => tb { D with nx := N, ct := N, bk := D.nx } ys σ2 H2)
def tGIf (c : TT) (ta tb : TGn) : TGn := fun D ys σ H => c σ H fun b H1 => if b = true then ta D ys σ H1 else tb D ys σ H1
section
variable {X : Cx}
theorem gn_if {test : Expr} {a b : List Stmt} {pos : Pos} {tc : TT} {ta tb : TGn} (hc : PT X test tc) (ha : GSs X a ta) (hb : GSs X b tb) : L2.GS X (.If test a b pos) (tGIf tc ta tb) := by
  refine ⟨fun A S ip R n ys s₀ c fs K J gd lv s σ H D g hn k hI ht => ?_⟩
  obtain ⟨acc, cc, r, I⟩ := hI
  refine seg_If54 ?_
  rw [g.over]
  refine wpAny_mono (hc.run _ s σ H _ I ht) (fun b s' hb' => ?_) fun x s' hx => k.exc n s₀ x s' hx
  obtain ⟨H2, I2, q2⟩ := hb'
  cases b with
  | true => rw [if_pos rfl] at q2 ⊢; exact ha.run A S ip R n ys s₀ c fs K J gd lv s' σ H2 D g hn k ⟨acc, cc, r, I2⟩ q2
  | false => rw [if_neg Bool.false_ne_true] at q2 ⊢; exact hb.run A S ip R n ys s₀ c fs K J gd lv s' σ H2 D g hn k ⟨acc, cc, r, I2⟩ q2
theorem gn_for {tg iter : Expr} {body : List Stmt} {pos : Pos} {wi : TI} {gg : TG} {tb : TGn} (hp : PassesOwn (model X.prog X.w) X.A X.env X.xe) (hc : X.calm = true) (hi : PI X tg iter wi) (hg : PG X tg gg) (hb : GSs X body tb)
    (hs : ∀ x, foldedSetIterable iter X.env x = pure x := by intro _; rfl) : L2.GS X (.For tg iter body [] pos) (tGFor wi gg tb) := by
  refine ⟨fun A S ip R n ys s₀ c fs K J gd lv s σ H D g hn k hI ht => ?_⟩
  obtain ⟨acc, cc, r, I⟩ := hI
  refine seg_For54 ?_ hs
  rw [g.over]
  refine wpAny_mono (hi.run _ s σ H _ I ht) (fun v s1 h1 => wpAny_mono h1 (fun itv s2 h2 => ?_) fun x s' hx => k.exc n s₀ x s' hx) fun x s' hx => k.exc n s₀ x s' hx
  obtain ⟨it, fp, tn, J', H2, e, I2, T, st2, f2, W, ⟨m0, w0⟩, turn⟩ := h2
  subst e
  intro p
  have gl := fun (kk : Result → Sem PySem.Fin) => gc_loop (k := kk) (c' := .forLoop tg (.ref it) body [] X.env) (l := lv []) (kp := []) (p := p) g rfl rfl
  have nS : ∀ b ∈ fp, S ≠ b := fun b hb => (f2 b hb).2.2.2.2.2 (S, lstObj acc cc) (List.mem_append_right _ List.mem_cons_self)
  have stat : ∀ {acc' : Array Value} {c' : Nat} {H' : Hp}, (∀ b ∈ fp, H' b = none) → ∀ b ∈ fp, FpOk X ((S, lstObj acc' c') :: ip) H' b := fun {acc' c' H'} hn b hb => by
    obtain ⟨_, q1, q2, q3, q4, q5⟩ := f2 b hb
    refine ⟨hn b hb, q1, q2, q3, q4, fun p hp => ?_⟩
    rcases List.mem_append.mp hp with z | z
    · exact q5 p (List.mem_append_left _ z)
    · rcases List.mem_cons.mp z with z | z
      · rw [z]; exact nS b hb
      · exact q5 p (List.mem_append_right _ (List.mem_cons_of_mem _ z))
  have loop : ∀ (m n i : Nat) (ys : List V) (s₀ s : Shared) (σ : L2.St) (H : Hp), n + ys.length = sizeLine → W i m ys σ H → tn i s.heap → (∀ b ∈ fp, H b = none) → GI X S ip ys σ H s →
      Seg (model X.prog X.w) A R (GY X S) n s₀ (.forLoop tg (.ref it) body [] X.env) ((model X.prog X.w).den (.forLoop tg (.ref it) body [] X.env))
        (.ret (fun r => ((match r with | .ok f => (.pure f : Sem Flow) | .error e => .raise e).onRaise (cameBack X.env)).wrap K J gd lv) none (gd false) (lv []) c p [] :: fs) s := by
    intro m
    induction m using Nat.strongRecOn with
    | ind m ih =>
      intro n i ys s₀ s σ H hn w st hfr hI
      have ee : ∀ (n : Nat) (s₀ : Shared) (x : Value) (s' : Shared), X.xe x s' → Seg (model X.prog X.w) A R (GY X S) n s₀ (.forLoop tg (.ref it) body [] X.env)
          ((do noteFrame x X.env; theTreesLotGoes x : Sem Unit).wrap (fun _ => .raise x) .raise id id)
          (.ret (fun r => ((match r with | .ok f => (.pure f : Sem Flow) | .error e => .raise e).onRaise (cameBack X.env)).wrap K J gd lv) none (gd false) (lv []) c p [] :: fs) s' := fun n s₀ x s' hx => by
        refine seg_wrap ?_
        rw [(gl _).over]
        refine wpAny_bind (wpAny_mono (hp x s' hx) (fun _ s'' hcb => wpAny_theTreesLotGoes ?_) fun y s'' hcb => ?_)
        · exact seg_leaf (.error x) (seg_cameBack g k hcb)
        · exact seg_leaf (.error y) (seg_cameBack g k hcb)
      refine seg_forLoop54 ?_
      rw [(gl _).over]
      obtain ⟨acc, cc, r, I⟩ := hI
      rcases turn i m ys σ H w with ⟨stop, qn⟩ | ⟨go, N, hN, step⟩
      · refine wpAny_mono (T.done X rfl rfl rfl hc i _ s σ H X.xe I (stat hfr) st stop) (fun r' s4 ⟨hr, I4⟩ => ?_) fun x s' hx => ee n s₀ x s' hx
        subst hr
        exact seg_again rfl (seg_block54 (seg_leaf (.ok .next) (k.ok n ys s₀ s4 .next hn ⟨σ, H, ⟨acc, cc, r, I4⟩, qn⟩)))
      · refine wpAny_mono (T.item X rfl rfl rfl hc i _ s σ H X.xe I (stat hfr) st go) (fun r' s4 ⟨u, hr, h4⟩ => ?_) fun x s' hx => ee n s₀ x s' hx
        subst hr
        refine wpAny_mono h4 (fun _ s5 ⟨x, H5, I5, r5, y5, st5, fr5⟩ => ?_) fun x s' hx => ee n s₀ x s' hx
        have I5' := I5.pinned (stat fr5) (T.obj _ _ st5)
        refine wpAny_mono (hg.run _ s5 σ H5 x u _ I5' r5 (step x H5 y5)) (fun _ s6 ⟨σ6, H6, I6, q6⟩ => ?_) fun x s' hx => ee n s₀ x s' hx
        have g2 : GC X S (ip ++ pinsAt fp s5.heap) A (.forLoop tg (.ref it) body [] X.env) (.ret (fun r => ((match r with | .ok f => (.pure f : Sem Flow) | .error e => .raise e).onRaise (cameBack X.env)).wrap K J gd lv) none (gd false) (lv []) c p [] :: fs) id :=
          { (gl _) with ip := fun p hp => (List.mem_append.mp hp).elim (g.ip p) fun z => (nS p.1 (of_pinsAt z).1).symm }
        have unp : ∀ {ys' : List V} {σ7 : L2.St} {H7 : Hp} {s7 : Shared}, GI X S (ip ++ pinsAt fp s5.heap) ys' σ7 H7 s7 → GI X S ip ys' σ7 H7 s7 ∧ tn (i + 1) s7.heap ∧ ∀ b ∈ fp, H7 b = none := fun {ys' σ7 H7 s7} ⟨acc', c', r', I7⟩ => by
          have I7' : Inv X (((S, lstObj acc' c') :: ip) ++ pinsAt fp s5.heap) σ7 H7 s7 := I7
          refine ⟨⟨acc', c', r', I7'.unpinned⟩, T.keep _ _ _ st5 fun b hb o e => (I7'.pin (b, o) (List.mem_append_right _ (List.mem_append_right _ (mem_pinsAt hb e)))).1, fun b hb => ?_⟩
          obtain ⟨o, e, d⟩ := T.obj _ _ st5 b hb
          exact (I7'.pin (b, o) (List.mem_append_right _ (List.mem_append_right _ (mem_pinsAt hb e)))).2.1
        refine hb.run A S (ip ++ pinsAt fp s5.heap) R n ys s₀ _ _ _ _ id id s6 σ6 H6 { D with nx := N, ct := N, bk := D.nx } g2 hn ⟨fun n' ys' s₀' s7 f hn' hs => ?_, fun n' s₀' x s7 hx => ee n' s₀' x s7 hx⟩ ⟨acc, cc, r, I6⟩ q6
        cases f with
        | next =>
          obtain ⟨σ7, H7, I7, n7⟩ := hs
          obtain ⟨m', hm, w7⟩ := hN ys' σ7 H7 n7
          obtain ⟨I8, t8, f8⟩ := unp I7
          exact seg_again rfl (ih m' hm n' (i + 1) ys' s₀' s7 σ7 H7 hn' w7 t8 f8 I8)
        | cont =>
          obtain ⟨σ7, H7, I7, n7⟩ := hs
          obtain ⟨m', hm, w7⟩ := hN ys' σ7 H7 n7
          obtain ⟨I8, t8, f8⟩ := unp I7
          exact seg_again rfl (ih m' hm n' (i + 1) ys' s₀' s7 σ7 H7 hn' w7 t8 f8 I8)
        | brk =>
          obtain ⟨σ7, H7, I7, q7⟩ := hs
          exact seg_leaf (.ok .next) (k.ok n' ys' s₀' s7 .next hn' ⟨σ7, H7, (unp I7).1, q7⟩)
        | ret v =>
          obtain ⟨x7, σ7, H7, I7, r7, q7⟩ := hs
          exact seg_leaf (.ok (.ret v)) (k.ok n' ys' s₀' s7 (.ret v) hn' ⟨x7, σ7, H7, (unp I7).1, r7, q7⟩)
  exact loop m0 n 0 ys s₀ s2 σ H2 hn w0 st2 (fun b hb => (f2 b hb).1) ⟨acc, cc, r, I2⟩
end
end K54

set_option Elab.async false
set_option linter.all false
set_option maxRecDepth 100000
set_option maxHeartbeats 4000000
/-! J14: generators by data, list(generator). -/
namespace K54
open PySem PySem.Spec PyProof.Rows L2 GenW
section
variable {X : Cx} {a b c e o : Expr} {es : List Expr} {st : Stmt} {sts rest body : List Stmt} {Γ Γ' : List Ent} {pos : Pos} {d : Da} {ds : List Da} {k n : Nat} {f : Mx} {fa : Ma} {m : Ms} {t : Mt} {acc : List (List Int)}
/-- the canonical reading of a generator's block -/
def wGB (X : Cx) (body : List Stmt) : TGn := fun D ys σ H => ∀ (A : Around) (S : Addr) (ip : List (Addr × Obj)) (R : GenEnd) (n : Nat) (s₀ : Shared) (c : Code) (fs : List Frame) (K : Flow → Sem PySem.Fin) (J : Value → Sem PySem.Fin) (gd : Bool → Bool) (lv : List Value → List Value) (s : Shared),
  GC X S ip A c fs gd → n + ys.length = sizeLine → GK X S ip A R c fs K J D → GI X S ip ys σ H s → Seg (model X.prog X.w) A R (GY X S) n s₀ c ((execs body X.env).wrap K J gd lv) fs s
theorem gssW : GSs X body (wGB X body) := ⟨fun A S ip R n ys s₀ c fs K J gd lv s σ H D g hn k hI h => h A S ip R n s₀ c fs K J gd lv s g hn k hI⟩
theorem wGB_of {tt : TGn} {D : GEnds} {ys : List V} {σ : L2.St} {H : Hp} (h : GSs X body tt) (q : tt D ys σ H) : wGB X body D ys σ H := fun A S ip R n s₀ c fs K J gd lv s g hn k hI => h.run A S ip R n ys s₀ c fs K J gd lv s σ H D g hn k hI q
def GD (X : Cx) (sts : List Stmt) (Γ : List Ent) (acc : List (List Int)) (Pn : List Ent → List (List Int) → Prop) : Prop := ∀ (Hs0 H0 Hs H : Hp) (σ : L2.St) (vs : List V) (D : GEnds), Stp Hs0 H0 Hs H → St2 X.K H0 Hs H σ Γ → Paired (WdR X.K Hs) vs acc →
  (∀ σ' Hs' H' vs' Γ' acc', Stp Hs0 H0 Hs' H' → Same Hs Hs' → St2 X.K H0 Hs' H' σ' Γ' → Paired (WdR X.K Hs') vs' acc' → Pn Γ' acc' → D.nx vs' σ' H') → wGB X sts D vs σ H
theorem wd_ex {K : PySem.W.Frag} {Hs Hs' : Hp} (s : Same Hs Hs') {vs : List V} (p : Paired (WdR K Hs) vs acc) : Paired (WdR K Hs') vs acc := Paired.mapP p fun _ _ z => z.ex s
theorem gd_nil {Pn : List Ent → List (List Int) → Prop} (h : Pn Γ acc) : GD X [] Γ acc Pn := fun Hs0 H0 Hs H σ vs D tt S p k => wGB_of gss_nil (k σ Hs H vs Γ acc tt (Same.refl _) S p h)
theorem gd_pre {Pn : List Ent → List (List Int) → Prop} (h : K54.GS X st m) (e : m Γ = some (.nx Γ')) (hr : GD X rest Γ' acc Pn) : GD X (st :: rest) Γ acc Pn := fun Hs0 H0 Hs H σ vs D tt S p k => by
  refine wGB_of (gss_cons (gs_ps (psW X st)) gssW) ?_
  have h1 := h.ok Γ _ e { nx := fun Γ'' => Γ'' = Γ', rt := fun _ => False } rfl Hs H0 Hs H σ ⟨Same.refl _, tt.h, tt.sub, fun _ _ _ _ z => z⟩ S
  refine wS_le (D := ends X.K Hs H0 { nx := fun Γ'' => Γ'' = Γ', rt := fun _ => False }) ⟨fun σ' H' ⟨Hs', Γ'', t', S', e'⟩ => ?_, fun v H' ⟨_, _, _, _, z⟩ => z.elim, fun _ _ ⟨_, _, _, _, z⟩ => z.elim, fun _ _ ⟨_, _, _, _, z⟩ => z.elim⟩ h1
  have e2 : Γ'' = Γ' := e'
  subst e2
  exact hr Hs0 H0 Hs' H' σ' vs D ⟨tt.s.trans t'.s, t'.h, t'.sub, fun b o z1 z2 z3 => t'.own b o z1 z2 (tt.own b o z1 z2 z3)⟩ S' (wd_ex t'.s p) fun σ'' Hs'' H'' vs'' Γ'' acc'' t'' s'' S'' p'' q'' => k σ'' Hs'' H'' vs'' Γ'' acc'' t'' (t'.s.trans s'') S'' p'' q''
theorem gd_ifY {Pn : List Ent → List (List Int) → Prop} {yp p2 p3 : Pos} {kk : Bool} {w : List Int} (ht : GT X c t) (he : GE X e f) (h1 : t Γ = some kk) (h2 : kk = true → f Γ = some (.wd w) ∧ acc.length < 1000000) (hr : GD X rest Γ (if kk = true then acc ++ [w] else acc) Pn)
    (hco : X.env.scope.isCoroutine = false := by rfl) (hi : interactive X.env = false := by rfl) : GD X (.If c [.Expr (.Yield (some e) yp) p2] [] p3 :: rest) Γ acc Pn := fun Hs0 H0 Hs H σ vs D tt S p k => by
  refine wGB_of (gss_cons (gn_if (ptW X c) (gss_cons (gs_yield (peW X e) hco hi) gss_nil) gss_nil) gssW) ?_
  refine ht.ok Γ _ h1 H0 Hs H σ S _ fun Hs1 H1 t1 => ?_
  have tt1 := tt.trans t1
  cases kk with
  | false =>
    rw [if_neg Bool.false_ne_true]
    exact hr Hs0 H0 Hs1 H1 σ vs D tt1 (S.step t1) (wd_ex t1.s p) fun σ'' Hs'' H'' vs'' Γ'' acc'' t'' s'' S'' p'' q'' => k σ'' Hs'' H'' vs'' Γ'' acc'' t'' (t1.s.trans s'') S'' p'' q''
  | true =>
    rw [if_pos rfl]
    obtain ⟨hf, hl⟩ := h2 rfl
    refine ⟨by rw [p.length]; exact Nat.lt_of_lt_of_le hl (by decide), he.ok Γ _ hf H0 Hs1 H1 σ (S.step t1) _ fun v Hs2 H2 t2 r2 => ?_⟩
    have tt2 := tt1.trans t2
    exact hr Hs0 H0 Hs2 H2 σ (vs ++ [v]) D tt2 ((S.step t1).step t2) (papp (wd_ex (t1.s.trans t2.s) p) (.cons r2 .nil)) fun σ'' Hs'' H'' vs'' Γ'' acc'' t'' s'' S'' p'' q'' => k σ'' Hs'' H'' vs'' Γ'' acc'' t'' ((t1.s.trans t2.s).trans s'') S'' p'' q''
theorem gd_for {Pn : List Ent → List (List Int) → Prop} {tg iter : Expr} {wi : TI} {gg : TG} {vs0 : List Nat} {s : Msrc} {y : Nat → List Ent → List Ent} (hp : PassesOwn (model X.prog X.w) X.A X.env X.xe) (hc : X.calm = true) (hi : PI X tg iter wi) (hg : PG X tg gg) (S0 : GSrc X wi gg vs0 s) (hs : s Γ = some (n, y))
    (I : Nat → List Ent → List (List Int) → Prop) (h0 : I 0 Γ acc) (hb : ∀ i Γ' acc', i < n → I i Γ' acc' → GD X body (y i Γ') acc' (I (i + 1))) (hd : ∀ Γ' acc', I n Γ' acc' → GD X rest Γ' acc' Pn) (hfs : ∀ x, foldedSetIterable iter X.env x = pure x := by intro _; rfl) :
    GD X (.For tg iter body [] pos :: rest) Γ acc Pn := fun Hs0 H0 Hs H σ vs D tt S p k => by
  refine wGB_of (gss_cons (gn_for hp hc hi hg (gssW (body := body)) hfs) gssW) ?_
  refine S0.ok Γ n y hs H0 Hs H σ S _ fun J Hs2 H2 t2 T => ?_
  refine ⟨fun i m vs' σ' H' => m + i = n ∧ ∃ Hs' Γ' acc', Stp Hs0 H0 Hs' H' ∧ Same Hs2 Hs' ∧ Same Hs Hs' ∧ St2 X.K H0 Hs' H' σ' Γ' ∧ Paired (WdR X.K Hs') vs' acc' ∧ I i Γ' acc', ⟨n, rfl, Hs2, Γ, acc, tt.trans t2, Same.refl _, t2.s, S.step t2, wd_ex t2.s p, h0⟩, ?_⟩
  rintro i m vs' σ' H' ⟨hm, Hs', Γ', acc', t', s', s0', S', p', hI⟩
  by_cases hlt : i < n
  · refine .inr ⟨T.go i Hs' H' hlt s' t'.sub, fun vs'' σ'' H'' => ∃ Hs'' Γ'' acc'', Stp Hs0 H0 Hs'' H'' ∧ Same Hs2 Hs'' ∧ Same Hs Hs'' ∧ St2 X.K H0 Hs'' H'' σ'' Γ'' ∧ Paired (WdR X.K Hs'') vs'' acc'' ∧ I (i + 1) Γ'' acc'', fun vs'' σ'' H'' z => ⟨m - 1, by omega, by omega, z⟩, fun v H'' hy => ?_⟩
    refine T.yld i v H0 Hs' H' H'' σ' Γ' _ hlt s' S' hy fun σ3 Hs3 H3 t3 S3 _ => ?_
    exact hb i Γ' acc' hlt hI Hs0 H0 Hs3 H3 σ3 vs' _ (t'.trans t3) S3 (wd_ex t3.s p') fun σ4 Hs4 H4 vs4 Γ4 acc4 t4 s4 S4 p4 q4 => ⟨Hs4, Γ4, acc4, t4, (s'.trans t3.s).trans s4, (s0'.trans t3.s).trans s4, S4, p4, q4⟩
  · have e : i = n := by omega
    subst e
    exact .inl ⟨T.stop Hs' H' s' t'.sub, hd Γ' acc' hI Hs0 H0 Hs' H' σ' vs' D t' S' p' fun σ'' Hs'' H'' vs'' Γ'' acc'' t'' s'' S'' p'' q'' => k σ'' Hs'' H'' vs'' Γ'' acc'' t'' (s0'.trans s'') S'' p'' q''⟩
/-! ### a generator def -/
def spG (K : PySem.W.Frag) (F : List Da → Option (List (List Int))) : SpG := fun vs H Q _ => ∃ Hs ds r, Same Hs H ∧ Paired (DR K Hs) vs ds ∧ F ds = some r ∧ ∀ us Hs2 H2, Stp Hs H Hs2 H2 → Paired (WdR K Hs2) us r → Q us H2
structure CanG (P : Program) (w : World) (K : PySem.W.Frag) (mg : Str → Option Value) (base : Heap) (k : Nat) (x : Str) (F : List Da → Option (List (List Int))) : Prop where
  ex : ∃ (f : Addr) (fd : FuncData) (ps : List Str), mg x = some (.ref f) ∧ PySem.W.keepIn K (.ref f) = true ∧ Binds K fd ps [] ∧ GFn P w K mg base k f fd ps (spG K F)
theorem canG {P : Program} {w : World} {K : PySem.W.Frag} {mg : Str → Option Value} {base : Heap} {x nm qual : Str} {params : Arguments} {body : List Stmt} {scope : Scope} {f : Addr} {fd : FuncData} {N ps : List Str} {k : Nat} {F : List Da → Option (List (List Int))} (g : mg x = some (.ref f)) (Fn : FunD K nm qual params body scope [] [] f fd) (b : Binds K fd ps []) (S : GScope N ps scope)
    (len : ∀ ds r, F ds = some r → ds.length = ps.length)
    (hb : ∀ (cd : Value) (A : Around) (outer : List Env) (s : Shared) (H : Hp) (E : XK) (pn : List (Addr × Obj)), Room k (gcxOf P w K mg base N qual scope f cd A outer s H E pn).A → ∀ ds r, F ds = some r → GD (gcxOf P w K mg base N qual scope f cd A outer s H E pn) body (Γ0 N ds) [] (fun _ acc => acc = r)) : CanG P w K mg base (k + 1) x F := by
  obtain ⟨oc, od, dV, kV, doc, pm, an, cdv, ct, osl, efd, lk, hcd, _, _⟩ := Fn.ex
  subst efd
  refine ⟨f, _, ps, g, Fn.kp, b, gfn_of lk hcd S (fun vs H Q E ⟨Hs, ds, r, _, hp, hF, _⟩ => hp.length.trans (len ds r hF)) fun A outer s H vs Q E pn hr ⟨Hs, ds, r, hs, hp, hF, hq⟩ => ⟨_, gssW, ?_⟩⟩
  exact hb cdv A outer s H E pn hr ds r hF Hs H Hs H _ [] _ (Stp.refl hs) (st2_start hs hp) .nil fun σ' Hs' H' vs' Γ' acc' t' _ S' p' e' => hq vs' Hs' H' t' (by rw [← show acc' = r from e']; exact p')
theorem CanG.less {P : Program} {w : World} {K : PySem.W.Frag} {mg : Str → Option Value} {base : Heap} {k : Nat} {x : Str} {F G : List Da → Option (List (List Int))} (C : CanG P w K mg base k x F) (h : ∀ ds r, G ds = some r → F ds = some r) : CanG P w K mg base k x G := by
  obtain ⟨f, fd, ps, h1, h2, h3, h4⟩ := C.ex
  have q : ∀ vs H Q E, spG K G vs H Q E → spG K F vs H Q E := fun vs H Q E ⟨Hs, ds, r, z1, z2, z3, z4⟩ => ⟨Hs, ds, r, z1, z2, h ds r z3, z4⟩
  exact ⟨f, fd, ps, h1, h2, h3, fun vs H Q E z => h4.len vs H Q E (q _ _ _ _ z), fun A outer s H args us vs Q E hr he hb hv hs => h4.run A outer s H args us vs Q E hr he hb hv (q _ _ _ _ hs)⟩
abbrev noX : XK := fun _ _ _ => False
theorem passG {X : Cx} : Passes (CX X.prog X.w) X noX := fun pins σ H s e s' I c => by
  obtain ⟨a, B, H', cls, d, _, fl, _, _, _, _, _, hW⟩ := c
  exact hW.elim
def genD (F : List Da → Option (List (List Int))) (ds : List Da) : Option Da := match F ds with
  | some r => some (.lw r)
  | none => none
/-- list(g(e, ..)) -/
theorem gn_listG {F : List Da → Option (List (List Int))} {x : Str} {p p0 pos' : Pos} (C : CanG X.prog X.w X.K X.mg X.base k x F) (hr : Room (k + 3) X.A) (hml : X.mg "list" = none) (ha : GA X (e :: es) fa) (hg : Gl X x := by rfl) (hgl : Gl X "list" := by rfl) (hdb : (x == ("__debug__" : Str)) = false := by decide)
    (he : starEach (e :: es) X.env = (false, eval e X.env) :: starEach es X.env := by rfl) (hpl : (backTo pos' (starEach es X.env)).any (·.1) = false := by rfl)
    (he2 : starEach [.Call (.Name x p) (e :: es) [] pos'] X.env = (false, eval (.Call (.Name x p) (e :: es) [] pos') X.env) :: starEach [] X.env := by rfl) :
    GN X (.Call (.Name "list" p0) [.Call (.Name x p) (e :: es) [] pos'] [] pos) (oA (genD F) fa) := ⟨fun Γ d e' => by
  obtain ⟨ds, e1, e3⟩ := oA_ok e'
  unfold genD at e3
  split at e3
  · rename_i r hF
    cases e3
    obtain ⟨f, fd, ps, h1, h2, h3, h4⟩ := C.ex
    intro H0 Hs H σ S Q q
    refine wE_of (pe_listG (E := noX) (pgen_call h4 (hr.mono (by omega)) hg h1 h2 h3 .nil (paW X (e :: es)) hdb he hpl) passG (fun _ _ _ z => z.elim) hr hgl hml boot_list' (by decide) (by decide) he2) (ha.ok Γ ds e1 H0 Hs H σ S _ fun vs Hs1 H1 t1 r1 => ?_)
    rw [List.append_nil]
    refine ⟨Hs1, ds, r, t1.sub, r1, hF, fun us Hs2 H2 t2 r2 => fun l hl => ?_⟩
    have t := t1.trans t2
    exact q l us Hs2 _ (t.trans (stp_own t.sub hl)) (Same.free t.h hl) (sub_none t.sub hl) upd_same r2
  · cases e3⟩
end
end K54
namespace K54
open PySem PySem.Spec PyProof.Rows L2 GenW
def genL (y : Nat → List Ent → List Ent) (pre : Ms) (t : Mt) (f : Mx) : Nat → Nat → List Ent → List (List Int) → Option (List (List Int))
  | 0, _, _, acc => some acc
  | k + 1, i, Γ, acc => match pre (y i Γ) with
    | some (.nx Γ1) => (match t Γ1 with
      | some true => (match f Γ1 with
        | some (.wd w) => if acc.length < 1000000 then genL y pre t f k (i + 1) Γ1 (acc ++ [w]) else none
        | _ => none)
      | some false => genL y pre t f k (i + 1) Γ1 acc
      | none => none)
    | _ => none
def genM (N : List Str) (n : Nat) (p0 : Ms) (s : Msrc) (pre : Ms) (t : Mt) (f : Mx) : List Da → Option (List (List Int)) := fun ds => if ds.length = n then (match p0 (Γ0 N ds) with
  | some (.nx Γ) => (match s Γ with
    | some (k, y) => genL y pre t f k 0 Γ []
    | none => none)
  | _ => none) else none
section
variable {X : Cx} {a b c e o : Expr} {es : List Expr} {st0 st1 st2 : Stmt} {sts rest body : List Stmt} {Γ Γ' : List Ent} {pos : Pos} {d : Da} {ds : List Da} {k n : Nat} {f : Mx} {fa : Ma} {p0 p1 pre : Ms} {t : Mt} {acc r : List (List Int)} {N : List Str}
theorem genM_len {s : Msrc} (h : genM N n p0 s pre t f ds = some r) : ds.length = n := by
  unfold genM at h
  split at h
  · assumption
  · cases h
theorem genL_for {tg iter : Expr} {wi : TI} {gg : TG} {vs0 : List Nat} {s : Msrc} {y : Nat → List Ent → List Ent} (hp : PassesOwn (model X.prog X.w) X.A X.env X.xe) (hc : X.calm = true) (hi : PI X tg iter wi) (hg : PG X tg gg) (S0 : GSrc X wi gg vs0 s) (hs : s Γ = some (n, y)) (h : genL y pre t f n 0 Γ [] = some r)
    (hb : ∀ Γ acc Γ1 kk acc1 (Pn : List Ent → List (List Int) → Prop), pre Γ = some (.nx Γ1) → t Γ1 = some kk → (kk = true → ∃ w, f Γ1 = some (.wd w) ∧ acc.length < 1000000 ∧ acc1 = acc ++ [w]) → (kk = false → acc1 = acc) → Pn Γ1 acc1 → GD X body Γ acc Pn) (hfs : ∀ x, foldedSetIterable iter X.env x = pure x := by intro _; rfl) :
    GD X [.For tg iter body [] pos] Γ [] (fun _ acc => acc = r) :=
  gd_for hp hc hi hg S0 hs (fun i Γ' acc' => genL y pre t f (n - i) i Γ' acc' = some r) h (fun i Γ' acc' hi hI => by
    obtain ⟨j, hj⟩ : ∃ j, n - i = j + 1 := ⟨n - i - 1, by omega⟩
    have hj' : n - (i + 1) = j := by omega
    rw [hj] at hI
    rw [hj']
    unfold genL at hI
    split at hI
    · rename_i Γ1 h1
      split at hI
      · rename_i h2
        split at hI
        · rename_i w h3
          split at hI
          · exact hb _ _ Γ1 true _ _ h1 h2 (fun _ => ⟨w, h3, by assumption, rfl⟩) (fun z => by cases z) hI
          · cases hI
        · cases hI
      · rename_i h2
        exact hb _ _ Γ1 false _ _ h1 h2 (fun z => by cases z) (fun _ => rfl) hI
      · cases hI
    · cases hI) (fun Γ' acc' hI => by
    rw [Nat.sub_self] at hI
    cases hI
    exact gd_nil rfl) hfs
theorem gd_tail {Pn : List Ent → List (List Int) → Prop} {yp p2 p3 : Pos} {kk : Bool} {acc1 : List (List Int)} (ht : GT X c t) (he : GE X e f) (h1 : t Γ = some kk) (h2 : kk = true → ∃ w, f Γ = some (.wd w) ∧ acc.length < 1000000 ∧ acc1 = acc ++ [w]) (h3 : kk = false → acc1 = acc) (hn : Pn Γ acc1)
    (hco : X.env.scope.isCoroutine = false := by rfl) (hi : interactive X.env = false := by rfl) : GD X [.If c [.Expr (.Yield (some e) yp) p2] [] p3] Γ acc Pn := by
  cases kk with
  | true =>
    obtain ⟨w, e1, e2, e3⟩ := h2 rfl
    refine gd_ifY (w := w) ht he h1 (fun _ => ⟨e1, e2⟩) (gd_nil ?_) hco hi
    rw [if_pos rfl, ← e3]
    exact hn
  | false =>
    refine gd_ifY (w := []) ht he h1 (fun z => by cases z) (gd_nil ?_) hco hi
    rw [if_neg Bool.false_ne_true, ← h3 rfl]
    exact hn
theorem genM_ok1 {tg iter : Expr} {wi : TI} {gg : TG} {vs0 : List Nat} {s : Msrc} {yp p2 p3 : Pos} (h : genM N n p0 s skipM t f ds = some r) (h0 : K54.GS X st0 p0) (hp : PassesOwn (model X.prog X.w) X.A X.env X.xe) (hc : X.calm = true) (hi : PI X tg iter wi) (hg : PG X tg gg) (S0 : GSrc X wi gg vs0 s) (ht : GT X c t) (he : GE X e f)
    (hfs : ∀ x, foldedSetIterable iter X.env x = pure x := by intro _; rfl) (hco : X.env.scope.isCoroutine = false := by rfl) (hin : interactive X.env = false := by rfl) : GD X [st0, .For tg iter [.If c [.Expr (.Yield (some e) yp) p2] [] p3] [] pos] (Γ0 N ds) [] (fun _ acc => acc = r) := by
  unfold genM at h
  split at h
  · split at h
    · rename_i Γ1 h1
      split at h
      · rename_i k y h2
        refine gd_pre h0 h1 (genL_for hp hc hi hg S0 h2 h (fun Γ acc Γ1 kk acc1 Pn q1 q2 q3 q4 q5 => ?_) hfs)
        cases q1
        exact gd_tail ht he q2 q3 q4 q5 hco hin
      · cases h
    · cases h
  · cases h
theorem genM_ok2 {tg iter : Expr} {wi : TI} {gg : TG} {vs0 : List Nat} {s : Msrc} {yp p2 p3 : Pos} (h : genM N n (seqM p0 p1) s pre t f ds = some r) (h0 : K54.GS X st0 p0) (h1 : K54.GS X st1 p1) (hp : PassesOwn (model X.prog X.w) X.A X.env X.xe) (hc : X.calm = true) (hi : PI X tg iter wi) (hg : PG X tg gg) (S0 : GSrc X wi gg vs0 s) (h2 : K54.GS X st2 pre) (ht : GT X c t) (he : GE X e f)
    (hfs : ∀ x, foldedSetIterable iter X.env x = pure x := by intro _; rfl) (hco : X.env.scope.isCoroutine = false := by rfl) (hin : interactive X.env = false := by rfl) : GD X [st0, st1, .For tg iter [st2, .If c [.Expr (.Yield (some e) yp) p2] [] p3] [] pos] (Γ0 N ds) [] (fun _ acc => acc = r) := by
  unfold genM at h
  split at h
  · split at h
    · rename_i Γ1 e1
      unfold seqM at e1
      split at e1
      · rename_i Γ2 e2
        split at h
        · rename_i k y e3
          refine gd_pre h0 e2 (gd_pre h1 e1 (genL_for hp hc hi hg S0 e3 h (fun Γ acc Γ1 kk acc1 Pn q1 q2 q3 q4 q5 => ?_) hfs))
          exact gd_pre h2 q1 (gd_tail ht he q2 q3 q4 q5 hco hin)
        · cases h
      · rename_i hn
        exact absurd e1 (hn _)
    · cases h
  · cases h
end
end K54

set_option Elab.async false
set_option linter.all false
set_option maxRecDepth 100000
set_option maxHeartbeats 4000000
/-! J15: the books by data. -/
namespace K54
open PySem PySem.Spec PyProof.Rows L2
def isWd (o : Option Da) (w : List Int) : Bool := match o with
  | some (.wd u) => u == w
  | _ => false
theorem isWd_eq {o : Option Da} {w : List Int} (h : isWd o w = true) : o = some (.wd w) := by
  unfold isWd at h
  split at h
  · rw [eq_of_beq h]
  · cases h
section
variable {X : Cx} {a b c e o : Expr} {es : List Expr} {Γ : List Ent} {pos : Pos} {d : Da} {ds : List Da} {k n : Nat} {f : Mx} {fa : Ma}
def sbD : List Da → Option Da
  | [.int n, .int m, .int r] => if 0 ≤ n ∧ n ≤ 200 ∧ n + 1 ≤ m ∧ m ≤ 1000000 ∧ 0 ≤ r ∧ r < m then some (.sb n m r) else none
  | _ => none
theorem g_mkSB {p : Pos} (T : Tx X.K X.mg) (hr : Room 4 X.A) (ha : GA X (e :: es) fa) (hg : Gl X "SumBook" := by rfl) (he : starEach (e :: es) X.env = (false, eval e X.env) :: starEach es X.env := by rfl) (hpl : (backTo pos (starEach es X.env)).any (·.1) = false := by rfl) :
    GE X (.Call (.Name "SumBook" p) (e :: es) [] pos) (oA sbD fa) := ⟨fun Γ d e' => by
  obtain ⟨ds, e1, e3⟩ := oA_ok e'
  unfold sbD at e3
  split at e3
  · rename_i n m r
    split at e3
    · rename_i hz
      cases e3
      obtain ⟨fd, F, hb⟩ := ok_SumBook_init (P := X.prog) (w := X.w) (base := X.base) T
      refine ev_make (R := R_sb) (fin := fin_sb) T.k_SumBook F hr T.g_SumBook hb (ha.ok Γ _ e1) ⟨n, m, r, rfl, hz⟩ (fun a dx Hs fs hf => ?_) hg (by decide) he hpl
      obtain ⟨n', m', r', e4, e5⟩ := hf
      cases e4
      subst e5
      exact .inl ⟨a, dx, rfl, upd_same⟩
    · cases e3
  · cases e3⟩
def wbD : List Da → Option Da
  | [.int q, .wd ws, .int m, .int r] => if (2 ≤ q ∧ q ≤ 4 ∧ 1 ≤ m ∧ m ≤ 10000000000000000 ∧ 0 ≤ r ∧ r < m) ∧ isWd (F_check_weights [.wd ws]) ws = true then some (.wb q ws m r) else none
  | _ => none
theorem g_mkWB {p : Pos} (T : Tx X.K X.mg) (hr : Room 4 X.A) (ha : GA X (e :: es) fa) (hg : Gl X "WeightBook" := by rfl) (he : starEach (e :: es) X.env = (false, eval e X.env) :: starEach es X.env := by rfl) (hpl : (backTo pos (starEach es X.env)).any (·.1) = false := by rfl) :
    GE X (.Call (.Name "WeightBook" p) (e :: es) [] pos) (oA wbD fa) := ⟨fun Γ d e' => by
  obtain ⟨ds, e1, e3⟩ := oA_ok e'
  unfold wbD at e3
  split at e3
  · rename_i q ws m r
    split at e3
    · rename_i hz
      cases e3
      obtain ⟨⟨z1, z2, z3, z4, z5, z6⟩, z7⟩ := hz
      obtain ⟨fd, F, hb⟩ := ok_WeightBook_init (P := X.prog) (w := X.w) (base := X.base) T
      refine ev_make (R := R_wb) (fin := fin_wb) T.k_WeightBook F hr T.g_WeightBook hb (ha.ok Γ _ e1) ⟨q, ws, m, r, rfl, z1, z2, isWd_eq z7, z3, z4, z5, z6⟩ (fun a dx Hs fs hf => ?_) hg (by decide) he hpl
      obtain ⟨q', ws', m', r', t, e4, e5, e6⟩ := hf
      cases e4
      subst e5
      by_cases ht : t = a
      · subst ht
        exact .inr (by rw [e6]; intro z; cases z)
      · exact .inl ⟨a, dx, t, rfl, upd_same, by rw [upd_ne ht]; exact e6⟩
    · cases e3
  · cases e3⟩
def npD : List Da → Option Da := fun ds => if ds.length = 4 then some .ob else none
theorem g_mkNP {p : Pos} (T : Tx X.K X.mg) (hr : Room 2 X.A) (ha : GA X (e :: es) fa) (hg : Gl X "NearPair" := by rfl) (he : starEach (e :: es) X.env = (false, eval e X.env) :: starEach es X.env := by rfl) (hpl : (backTo pos (starEach es X.env)).any (·.1) = false := by rfl) :
    GE X (.Call (.Name "NearPair" p) (e :: es) [] pos) (oA npD fa) := ⟨fun Γ d e' => by
  obtain ⟨ds, e1, e3⟩ := oA_ok e'
  unfold npD at e3
  split at e3
  · cases e3
    obtain ⟨fd, F, hb⟩ := ok_NearPair_init (P := X.prog) (w := X.w) (base := X.base) T
    exact ev_make (R := R_np) (fin := fun _ _ _ => True) T.k_NearPair F hr T.g_NearPair hb (ha.ok Γ _ e1) (by assumption) (fun a dx Hs fs hf => .inl ⟨a, rfl⟩) hg (by decide) he hpl
  · cases e3⟩
end
end K54

set_option Elab.async false
set_option linter.all false
set_option maxRecDepth 100000
set_option maxHeartbeats 40000000
/-! Printed by gen_w.py. -/
namespace K54
open PySem PySem.Spec PyProof.Rows L2
section
variable {P : Program} {w : World} {K : PySem.W.Frag} {mg : Str → Option Value} {base : Heap}
def m_read_several : Ms := (seqM (setM 4 (oA (fun ds => F_members_behind (ds ++ [])) (consA (oVar 0) (consA (oVar 1) (consA (oVar 2) (consA (oVar 3) (fun _ => some [])))))))
    (seqM (ifM (t2 eqD (o1 lenD (oVar 4)) (fun _ => some (.int 0))) (seqM (retM (fun _ => some .non))
      skipM) skipM)
    (seqM (ifM (t2 gtD (o1 lenD (oVar 4)) (fun _ => some (.int 1))) (seqM badM
      skipM) skipM)
    (seqM (retM (o2 ixD (oVar 4) (fun _ => some (.int 0))))
    skipM))))
def F_read_several : List Da → Option Da := resM n_read_several 4 m_read_several
theorem ok_read_several (T : Tx K mg) : CanF P w K mg base 7 "read_several" [] F_read_several := by
  obtain ⟨fd, F⟩ := T.f_read_several
  refine canF (m := m_read_several) T.g_read_several F (b_read_several F) sc_read_several fun cd A outer s H E hr => ?_
  exact (gb_cons (gs_set 4 (g_call (Can.mono (ok_members_behind T) (by decide)) hr (ga_cons (g_var 0) (ga_cons (g_var 1) (ga_cons (g_var 2) (ga_cons (g_var 3) ga_nil))))) sc_read_several.nd)
    (gb_cons (gs_if (gt_eq (g_len T.b_len (g_var 4)) g_int) (gb_cons (gs_ret g_non)
      gb_nil) gb_nil)
    (gb_cons (gs_if (gt_gt (g_len T.b_len (g_var 4)) g_int) (gb_cons gs_bad
      gb_nil) gb_nil)
    (gb_cons (gs_ret (g_ix (g_var 4) g_int))
    gb_nil))))
def m_modulus_clash : Ms := (seqM (exM (oA (fun ds => F_check_number (ds ++ [])) (consA (oVar 0) (consA (fun _ => some (.int 0)) (consA (fun _ => some (.int 200)) (fun _ => some []))))))
    (seqM (exM (oA (fun ds => F_check_modulus_sums (ds ++ [])) (consA (oVar 1) (consA (fun _ => some (.int 1)) (fun _ => some [])))))
    (seqM (exM (oA (fun ds => F_check_rest (ds ++ [])) (consA (oVar 2) (consA (oVar 1) (fun _ => some [])))))
    (seqM (ifM (t2 gtD (oVar 1) (oVar 0)) (seqM (retM (fun _ => some .non))
      skipM) skipM)
    (seqM (setM 3 (o1 tupleD (lcM (.li []) (srcR2 5 (fun _ => some (.int 1)) (oVar 0)) [5] yesM (ifE (t2 eqD (oVar 5) (oVar 2)) (fun _ => some (.int 1)) (fun _ => some (.int 0))))))
    (seqM (setM 4 (oA (fun ds => F_lift_word (ds ++ [])) (consA (oVar 3) (consA (oVar 1) (fun _ => some [])))))
    (seqM (retM (oA npD (consA (o2 addD (oVar 3) (oA tupD (consA (fun _ => some (.int 0)) (fun _ => some [])))) (consA (oVar 4) (consA (oVar 3) (consA (o2 addD (oVar 4) (oA tupD (consA (fun _ => some (.int 0)) (fun _ => some [])))) (fun _ => some [])))))))
    skipM)))))))
def F_modulus_clash : List Da → Option Da := resM n_modulus_clash 3 m_modulus_clash
theorem ok_modulus_clash (T : Tx K mg) : CanF P w K mg base 3 "modulus_clash" [] F_modulus_clash := by
  obtain ⟨fd, F⟩ := T.f_modulus_clash
  refine canF (m := m_modulus_clash) T.g_modulus_clash F (b_modulus_clash F) sc_modulus_clash fun cd A outer s H E hr => ?_
  exact (gb_cons (gs_expr (g_call (Can.mono (ok_check_number T) (by decide)) hr (ga_cons (g_var 0) (ga_cons g_int (ga_cons (g_glob T.i_MOST_LENGTH) ga_nil)))))
    (gb_cons (gs_expr (g_call (Can.mono (ok_check_modulus_sums T) (by decide)) hr (ga_cons (g_var 1) (ga_cons g_int ga_nil))))
    (gb_cons (gs_expr (g_call (Can.mono (ok_check_rest T) (by decide)) hr (ga_cons (g_var 2) (ga_cons (g_var 1) ga_nil))))
    (gb_cons (gs_if (gt_gt (g_var 1) (g_var 0)) (gb_cons (gs_ret g_non)
      gb_nil) gb_nil)
    (gb_cons (gs_set 3 (g_tuple T.b_tuple (g_new (gn_lc0 (own := [("place", 5)]) (.li []) rfl sc_modulus_clash.nd (pi_range2 rfl T.b_range (paW _ _) rfl rfl) (blk_ok (N := n_modulus_clash) (sc := defScope s_modulus_clash) rfl (by decide +kernel) (by decide +kernel) (by decide +kernel) (by decide +kernel)) (fun _ _ _ _ _ => pg_name sc_modulus_clash.nd rfl (by first | exact .inl rfl | exact .inr rfl) (by first | exact .inl rfl | exact .inr rfl)) (gsrc_r2 5 (ga_cons g_int (ga_cons (g_var 0) ga_nil))) (fun _ _ _ _ _ => (g_ifExp (gt_eq (g_var 5) (g_var 2)) g_int g_int))))) sc_modulus_clash.nd)
    (gb_cons (gs_set 4 (g_call (Can.mono (ok_lift_word T) (by decide)) hr (ga_cons (g_var 3) (ga_cons (g_var 1) ga_nil))) sc_modulus_clash.nd)
    (gb_cons (gs_ret (g_mkNP T (Room.mono hr (by decide)) (ga_cons (g_add (g_var 3) (g_tup (ga_cons g_int ga_nil))) (ga_cons (g_var 4) (ga_cons (g_var 3) (ga_cons (g_add (g_var 4) (g_tup (ga_cons g_int ga_nil))) ga_nil))))))
    gb_nil)))))))
def F_sum_members : List Da → Option (List (List Int)) := genM n_sum_members 1 (ifM (t2 gtD (o1 fLenD (oVar 0)) (fun _ => some (.int 14))) badM skipM) (srcA 1 (oA (fun ds => F_every_word (ds ++ [])) (consA (fun _ => some (.int 2)) (consA (o1 fLenD (oVar 0)) (fun _ => some []))))) skipM (t2 eqD (o2 modD (oA (fun ds => F_sum_places (ds ++ [])) (consA (oVar 1) (fun _ => some []))) (o1 fModD (oVar 0))) (o1 fRestD (oVar 0))) (oVar 1)
theorem ok_sum_members (T : Tx K mg) : CanG P w K mg base 2 "sum_members" F_sum_members := by
  obtain ⟨fd, F⟩ := T.f_sum_members
  refine canG T.g_sum_members F (b_sum_members F) sc_sum_members (fun ds r h => genM_len h) fun cd A outer s H E pn hr ds r h => ?_
  exact genM_ok1 h (gs_if (gt_gt (g_fLen T (g_var 0)) (g_glob T.i_MOST_WALKED)) gb_bad gb_nil) owns_gcx rfl (pi_any (peW _ _)) (pg_name sc_sum_members.nd rfl (by first | exact .inl rfl | exact .inr rfl) (by first | exact .inl rfl | exact .inr rfl)) (gsrc_any 1 (g_call (Can.mono (ok_every_word T) (by decide)) hr (ga_cons g_int (ga_cons (g_fLen T (g_var 0)) ga_nil)))) (gt_eq (g_mod (g_call (Can.mono (ok_sum_places T) (by decide)) hr (ga_cons (g_var 1) ga_nil)) (g_fMod T (g_var 0))) (g_fRest T (g_var 0))) (g_var 1)
def F_weight_members : List Da → Option (List (List Int)) := genM n_weight_members 1 (seqM (setM 1 (oA (fun ds => F_power_of (ds ++ [])) (consA (o1 fLetD (oVar 0)) (consA (o1 fLenD (oVar 0)) (fun _ => some []))))) (ifM (t2 gtD (oVar 1) (fun _ => some (.int 2048))) badM skipM)) (srcR1 2 (oVar 1)) (setM 3 (oA (fun ds => F_word_at (ds ++ [])) (consA (o1 fLetD (oVar 0)) (consA (o1 fLenD (oVar 0)) (consA (oVar 2) (fun _ => some [])))))) (t2 eqD (o2 modD (oA (fun ds => F_sum_by (ds ++ [])) (consA (o1 fWeiD (oVar 0)) (consA (oVar 3) (fun _ => some [])))) (o1 fModD (oVar 0))) (o1 fRestD (oVar 0))) (oVar 3)
theorem ok_weight_members (T : Tx K mg) : CanG P w K mg base 2 "weight_members" F_weight_members := by
  obtain ⟨fd, F⟩ := T.f_weight_members
  refine canG T.g_weight_members F (b_weight_members F) sc_weight_members (fun ds r h => genM_len h) fun cd A outer s H E pn hr ds r h => ?_
  exact genM_ok2 h (gs_set 1 (g_call (Can.mono (ok_power_of T) (by decide)) hr (ga_cons (g_fLet T (g_var 0)) (ga_cons (g_fLen T (g_var 0)) ga_nil))) sc_weight_members.nd) (gs_if (gt_gt (g_var 1) (g_glob T.i_MOST_MEMBERS)) gb_bad gb_nil) owns_gcx rfl (pi_range1 rfl T.b_range (paW _ _) rfl) (pg_name sc_weight_members.nd rfl (by first | exact .inl rfl | exact .inr rfl) (by first | exact .inl rfl | exact .inr rfl)) (gsrc_r1 2 (ga_cons (g_var 1) ga_nil)) (gs_set 3 (g_call (Can.mono (ok_word_at T) (by decide)) hr (ga_cons (g_fLet T (g_var 0)) (ga_cons (g_fLen T (g_var 0)) (ga_cons (g_var 2) ga_nil)))) sc_weight_members.nd) (gt_eq (g_mod (g_call (Can.mono (ok_sum_by T) (by decide)) hr (ga_cons (g_fWei T (g_var 0)) (ga_cons (g_var 3) ga_nil))) (g_fMod T (g_var 0))) (g_fRest T (g_var 0))) (g_var 3)
end
end K54

set_option Elab.async false
set_option linter.all false
set_option maxRecDepth 100000
set_option maxHeartbeats 4000000
/-! J16: repr; a def that is called with no guard about. -/
namespace K54
open PySem PySem.Spec PyProof.Rows L2
section
variable {X : Cx} {a b c e o : Expr} {es : List Expr} {Γ : List Ent} {pos : Pos} {d : Da} {ds : List Da} {k n : Nat} {f : Mx} {fa : Ma}
/-! ### the value told -/
def pyW (w : List Int) : PyData := .tuple (w.map .int)
def pyD : Da → Option PyData
  | .non => some .none
  | .wd w => some (pyW w)
  | .tw ws => some (.tuple (ws.map pyW))
  | .lw ws => some (.list (ws.map pyW))
  | .li w => some (.list (w.map .int))
  | _ => none
theorem dp_ints {K : PySem.W.Frag} {H : Hp} : ∀ w : List Int, DpAll K H (w.map V.int) (w.map PyData.int)
  | [] => .nil
  | i :: r => .cons (.int i) (dp_ints r)
theorem dp_wd {K : PySem.W.Frag} {Hs H : Hp} (s : Same Hs H) {v : V} {w : List Int} (r : WdR K Hs v w) : Dp K H v (pyW w) := by
  obtain ⟨p, e, q⟩ := r
  subst e
  exact .tup (sqT_ex s q) (dp_ints w)
theorem dp_wds {K : PySem.W.Frag} {Hs H : Hp} (s : Same Hs H) : ∀ {vs : List V} {ws : List (List Int)}, Paired (WdR K Hs) vs ws → DpAll K H vs (ws.map pyW)
  | _, [], .nil => .nil
  | _, _ :: _, .cons r t => .cons (dp_wd s r) (dp_wds s t)
theorem dp_of {K : PySem.W.Frag} {Hs H : Hp} (s : Same Hs H) {v : V} {d : Da} {p : PyData} (r : DR K Hs v d) (h : pyD d = some p) : Dp K H v p := by
  cases d with
  | non => cases h; rw [show v = _ from r]; exact .non
  | wd w => cases h; exact dp_wd s r
  | tw ws => cases h; obtain ⟨a, vs, e, q, pr⟩ := r; subst e; exact .tup (sqT_ex s q) (dp_wds s pr)
  | lw ws => cases h; obtain ⟨a, vs, e, q, pr⟩ := r; subst e; exact .lst (sqL_ex s q) (dp_wds s pr)
  | li w => cases h; obtain ⟨a, vs, e, q, pr⟩ := r; subst e; rw [show vs = _ from pr] at q; exact .lst (sqL_ex s q) (dp_ints w)
  | _ => cases h
/-! ### equality of words and lists of ints -/
def eqW : Da → Da → Option Bool
  | .wd w, .wd u => if SeqAt.shaped (pyW w) = true ∧ SeqAt.shaped (pyW u) = true then some (PyData.eqv (pyW w) (pyW u)) else none
  | .li w, .li u => if SeqAt.shaped (.list (w.map .int)) = true ∧ SeqAt.shaped (.list (u.map .int)) = true then some (PyData.eqv (.list (w.map .int)) (.list (u.map .int))) else none
  | _, _ => none
theorem gt_eqW {g : Mx} (hr : Room n X.A) (ha : GE X a f) (hb : GE X b g) : GT X (.Compare a [.Eq] [b] pos) (t2 eqW f g) := ⟨fun Γ d e => by
  obtain ⟨p, q, e1, e2, e3⟩ := t2_ok e
  have h1 := ha.ok Γ p e1
  have h2 := hb.ok Γ q e2
  have go : ∀ (x y : PyData), pyD p = some x → pyD q = some y → SeqAt.shaped x = true → SeqAt.shaped y = true → d = PyData.eqv x y → ET X (.Compare a [.Eq] [b] pos) Γ d := fun x y k1 k2 s1 s2 ed => by
    subst ed
    exact fun H0 Hs H σ S Q q => wT_of (pt_cmpR (op_eqD (room_hu64 hr)) (peW X a) (peW X b) (nomark _)) (two h1 h2 S fun u v Hs2 H2 t r1 r2 => ⟨x, y, dp_of t.sub r1 k1, dp_of t.sub r2 k2, s1, s2, _, rfl, q Hs2 H2 t⟩)
  unfold eqW at e3
  split at e3
  · split at e3
    · rename_i hz
      cases e3
      exact go _ _ rfl rfl hz.1 hz.2 rfl
    · cases e3
  · split at e3
    · rename_i hz
      cases e3
      exact go _ _ rfl rfl hz.1 hz.2 rfl
    · cases e3
  · cases e3⟩
theorem gt_neW {g : Mx} (hr : Room n X.A) (ha : GE X a f) (hb : GE X b g) : GT X (.Compare a [.NotEq] [b] pos) (notM (t2 eqW f g)) := ⟨fun Γ d e => by
  unfold notM at e
  split at e
  · rename_i k hk
    cases e
    obtain ⟨p, q, e1, e2, e3⟩ := t2_ok hk
    have h1 := ha.ok Γ p e1
    have h2 := hb.ok Γ q e2
    have go : ∀ (x y : PyData), pyD p = some x → pyD q = some y → SeqAt.shaped x = true → SeqAt.shaped y = true → k = PyData.eqv x y → ET X (.Compare a [.NotEq] [b] pos) Γ (!k) := fun x y k1 k2 s1 s2 ed => by
      subst ed
      exact fun H0 Hs H σ S Q q => wT_of (pt_cmpR (op_neD (room_hu64 hr)) (peW X a) (peW X b) (nomark _)) (two h1 h2 S fun u v Hs2 H2 t r1 r2 => ⟨x, y, dp_of t.sub r1 k1, dp_of t.sub r2 k2, s1, s2, _, rfl, q Hs2 H2 t⟩)
    unfold eqW at e3
    split at e3
    · split at e3
      · rename_i hz
        cases e3
        exact go _ _ rfl rfl hz.1 hz.2 rfl
      · cases e3
    · split at e3
      · rename_i hz
        cases e3
        exact go _ _ rfl rfl hz.1 hz.2 rfl
      · cases e3
    · cases e3
  · cases e⟩
/-! ### repr -/
def okw (w : List Int) : Bool := decide (w.length ≤ 10) && w.all fun i => decide (i = 0 ∨ i = 1)
theorem okw_mem {w : List Int} (h : okw w = true) : w.length ≤ 10 ∧ ∀ i ∈ w, i = 0 ∨ i = 1 := by
  unfold okw at h
  rw [Bool.and_eq_true, decide_eq_true_eq, List.all_eq_true] at h
  exact ⟨h.1, fun i hi => of_decide_eq_true (h.2 i hi)⟩
theorem piled_le {ts : List Str} {n : Nat} : (∀ t ∈ ts, t.length ≤ n) → piled ts ≤ ts.length * (n + 2) := by
  induction ts with
  | nil => intro _; rw [piled_nil]; exact Nat.zero_le _
  | cons t r ih =>
    intro h
    rw [piled_cons, List.length_cons, Nat.succ_mul]
    have h1 := h t List.mem_cons_self
    have h2 := ih fun x hx => h x (List.mem_cons_of_mem _ hx)
    omega
theorem tuple_le (ts : List Str) : (tupleText ts).length ≤ piled ts + 3 := by
  unfold tupleText
  rw [strLen_append, strLen_append]
  have e1 : ((("(" : String) : Str)).length = 1 := rfl
  have e3 : (((if ts.length == 1 then ",)" else ")" : String) : Str)).length ≤ 2 := by split <;> decide
  rw [e1]
  by_cases h : ts = []
  · subst h
    have e4 : (Str.join ", " ([] : List Str)).length = 0 := rfl
    omega
  · have := join_length_add ts h
    omega
theorem list_le (ts : List Str) : (listText ts).length ≤ piled ts + 3 := by
  cases ts with
  | nil => decide
  | cons t r =>
    have h := textFrom_length_pos r 1 (("[" : Str) ++ (if (0 : Nat) > 0 then ", " else "" : String) ++ t) (Nat.succ_pos 0)
    have e : (listText (t :: r)).length = (textFrom 1 (("[" : Str) ++ (if (0 : Nat) > 0 then ", " else "" : String) ++ t) r).length + 1 := by
      show (textFrom 1 (("[" : Str) ++ (if (0 : Nat) > 0 then ", " else "" : String) ++ t) r ++ "]").length = _
      rw [strLen_append]
      rfl
    rw [e, h, strLen_append, strLen_append, piled_cons]
    have e1 : ((("[" : String) : Str)).length = 1 := rfl
    have e2 : (((if (0 : Nat) > 0 then ", " else "" : String) : Str)).length = 0 := rfl
    omega
theorem shownAll_map {α : Type} (g : α → PyData) : ∀ l : List α, PyData.shownAll (l.map g) = l.map fun x => (g x).shown
  | [] => by simp only [List.map_nil, PyData.shownAll]
  | x :: r => by simp only [List.map_cons, PyData.shownAll, shownAll_map g r]
theorem showableAll_map {α : Type} (g : α → PyData) : ∀ l : List α, (∀ x ∈ l, (g x).showable = true) → PyData.showableAll (l.map g) = true
  | [], _ => by simp only [List.map_nil, PyData.showableAll]
  | x :: r, h => by
    simp only [List.map_cons, PyData.showableAll, Bool.and_eq_true]
    exact ⟨h x List.mem_cons_self, showableAll_map g r fun y hy => h y (List.mem_cons_of_mem _ hy)⟩
theorem noDictAll_map {α : Type} (g : α → PyData) : ∀ l : List α, (∀ x ∈ l, (g x).hasDict = false) → PyData.hasDictAll (l.map g) = false
  | [], _ => by simp only [List.map_nil, PyData.hasDictAll]
  | x :: r, h => by
    simp only [List.map_cons, PyData.hasDictAll, Bool.or_eq_false_iff]
    exact ⟨h x List.mem_cons_self, noDictAll_map g r fun y hy => h y (List.mem_cons_of_mem _ hy)⟩
theorem depthAll_map {α : Type} (g : α → PyData) (n : Nat) : ∀ l : List α, (∀ x ∈ l, (g x).depth ≤ n) → PyData.depthAll (l.map g) ≤ n
  | [], _ => by simp only [List.map_nil, PyData.depthAll]; omega
  | x :: r, h => by
    have h1 := h x List.mem_cons_self
    have h2 := depthAll_map g n r fun y hy => h y (List.mem_cons_of_mem _ hy)
    simp only [List.map_cons, PyData.depthAll]
    omega
theorem shown_int {i : Int} (h : i = 0 ∨ i = 1) : (PyData.int i).shown.length ≤ 1 ∧ (PyData.int i).showable = true := by
  rcases h with z | z <;> subst z <;> exact ⟨by decide +kernel, by decide +kernel⟩
theorem shown_tup (xs : List PyData) : (PyData.tuple xs).shown = tupleText (PyData.shownAll xs) := by simp only [PyData.shown]
theorem shown_lst (xs : List PyData) : (PyData.list xs).shown = listText (PyData.shownAll xs) := by simp only [PyData.shown]
structure Plain54 (p : PyData) (n dp : Nat) : Prop where
  len : p.shown.length ≤ n
  sh : p.showable = true
  nd : p.hasDict = false
  dp : p.depth ≤ dp
theorem plain_w {w : List Int} (h : okw w = true) : Plain54 (pyW w) 33 2 := by
  obtain ⟨h1, h2⟩ := okw_mem h
  unfold pyW
  refine ⟨?_, ?_, ?_, ?_⟩
  · rw [shown_tup, shownAll_map]
    refine Nat.le_trans (tuple_le _) ?_
    have := piled_le (ts := w.map fun x => (PyData.int x).shown) (n := 1) fun t ht => by
      obtain ⟨x, hx, e⟩ := List.mem_map.mp ht
      rw [← e]
      exact (shown_int (h2 x hx)).1
    rw [List.length_map] at this
    omega
  · simp only [PyData.showable]
    exact showableAll_map _ w fun x hx => (shown_int (h2 x hx)).2
  · simp only [PyData.hasDict]
    exact noDictAll_map _ w fun x _ => by simp only [PyData.hasDict]
  · simp only [PyData.depth]
    have := depthAll_map PyData.int 1 w fun x _ => by simp only [PyData.depth]; omega
    omega
def okR : Da → Bool
  | .non => true
  | .wd w => okw w
  | .tw ws => decide (ws.length ≤ 100) && ws.all okw
  | .lw ws => decide (ws.length ≤ 100) && ws.all okw
  | _ => false
theorem plain_ws {ws : List (List Int)} (h : (decide (ws.length ≤ 100) && ws.all okw) = true) : Plain54 (.tuple (ws.map pyW)) 5000 4 ∧ Plain54 (.list (ws.map pyW)) 5000 4 := by
  rw [Bool.and_eq_true, decide_eq_true_eq, List.all_eq_true] at h
  obtain ⟨h1, h2⟩ := h
  have P : ∀ w ∈ ws, Plain54 (pyW w) 33 2 := fun w hw => plain_w (h2 w hw)
  have hp := piled_le (ts := ws.map fun x => (pyW x).shown) (n := 33) fun t ht => by
      obtain ⟨x, hx, e⟩ := List.mem_map.mp ht
      rw [← e]
      exact (P x hx).len
  rw [List.length_map] at hp
  have sh := showableAll_map pyW ws fun x hx => (P x hx).sh
  have nd := noDictAll_map pyW ws fun x hx => (P x hx).nd
  have dp := depthAll_map pyW 2 ws fun x hx => (P x hx).dp
  refine ⟨⟨?_, ?_, ?_, ?_⟩, ⟨?_, ?_, ?_, ?_⟩⟩
  · rw [shown_tup, shownAll_map]
    exact Nat.le_trans (tuple_le _) (by omega)
  · simp only [PyData.showable]; exact sh
  · simp only [PyData.hasDict]; exact nd
  · simp only [PyData.depth]; omega
  · rw [shown_lst, shownAll_map]
    exact Nat.le_trans (list_le _) (by omega)
  · simp only [PyData.showable]; exact sh
  · simp only [PyData.hasDict]; exact nd
  · simp only [PyData.depth]; omega
def reprD (d : Da) : Option Da := if okR d = true then (match pyD d with
  | some p => some (.str p.shown)
  | none => none) else none
theorem call_repr54 (hg : X.A.guards = some []) (hu : X.A.units + 10 < cLine) : CallR X (.builtin "repr") (fun xs H Q => ∃ v p, xs = [v] ∧ Dp X.K H v p ∧ Plain54 p 5000 4 ∧ (v = .non ∨ ∃ a, v = .ref a) ∧ Q (.str p.shown) H) := by
  intro pins s σ H xs us Q I r h
  obtain ⟨v, p, exs, hd, pl, hv, q⟩ := h
  subst exs
  obtain ⟨u, eu, rx⟩ := r.one
  subst eu
  obtain ⟨as, rd⟩ := Dp.reads I p v u hd rx
  rcases hv with z | ⟨a, z⟩
  · subst z
    cases hd
    cases rx
    exact PySem.P.repr_of_none ⟨.str _, H, I.tok _, ⟨_, rfl⟩, q⟩
  · subst z
    obtain rfl : u = Value.ref a := rx
    exact repr_of_reads' rd pl.sh (PyData.noDict_hsm pl.nd) hg (by have := pl.dp; omega) (fun _ _ e => e) (fun h' u tk k => ⟨.str _, H, I.kept k, ⟨_, rfl⟩, q⟩) (Nat.le_trans pl.len (by decide))
theorem g_repr {p0 : Pos} (hgd : X.A.guards = some []) (hr : Room n X.A) (hm : X.mg "repr" = none) (ha : GE X e f) (hg : Gl X "repr" := by rfl) (he : starEach [e] X.env = (false, eval e X.env) :: starEach [] X.env := by rfl) :
    GE X (.Call (.Name "repr" p0) [e] [] pos) (o1 reprD f) := ⟨fun Γ d e' => by
  obtain ⟨q, e1, e3⟩ := o1_ok e'
  unfold reprD at e3
  split at e3
  · rename_i hok
    split at e3
    · rename_i p hp
      cases e3
      refine ev_cb (id := "repr") (call_repr54 hgd (by have := hr.un; omega)) hm boot_repr' (ea_cons (ha.ok Γ _ e1) ea_nil he) (fun vs Hs H Q sub r k => ?_) hg (he := he)
      obtain ⟨v, rfl, r'⟩ := p1 r
      have hd := dp_of sub r' hp
      refine ⟨v, p, rfl, hd, ?_, ?_, k _ Hs H (Stp.refl sub) rfl⟩
      · cases q with
        | non => cases hp; exact ⟨by decide +kernel, by decide +kernel, by decide +kernel, by decide +kernel⟩
        | wd w => cases hp; have := plain_w hok; exact ⟨Nat.le_trans this.len (by decide), this.sh, this.nd, Nat.le_trans this.dp (by decide)⟩
        | tw ws => cases hp; exact (plain_ws hok).1
        | lw ws => cases hp; exact (plain_ws hok).2
        | _ => cases hok
      · cases q with
        | non => exact .inl r'
        | wd w => obtain ⟨a, e, _⟩ := r'; exact .inr ⟨a, e⟩
        | tw w => obtain ⟨a, _, e, _⟩ := r'; exact .inr ⟨a, e⟩
        | lw w => obtain ⟨a, _, e, _⟩ := r'; exact .inr ⟨a, e⟩
        | _ => cases hok
    · cases e3
  · cases e3⟩
end
end K54

set_option Elab.async false
set_option linter.all false
set_option maxRecDepth 100000
set_option maxHeartbeats 4000000
/-! J17: the hand: _law_mixed, _law_take, _law_hand. -/
namespace K54
open PySem PySem.Spec PyProof.Rows L2
section
variable {X : Cx} {a b c e o : Expr} {es : List Expr} {st : Stmt} {A rest : List Stmt} {Γ Γ' : List Ent} {pos : Pos} {d : Da} {ds : List Da} {k : Bool}
theorem wB_SD {D : Ends} {Hs0 H0 Hs H : Hp} {σ : L2.St} (h : ∀ P : Pst, P.nx Γ' → SD X st Γ P) (t : Stp Hs0 H0 Hs H) (S : St2 X.K H0 Hs H σ Γ) (k : ∀ σ' Hs' H', Stp Hs0 H0 Hs' H' → St2 X.K H0 Hs' H' σ' Γ' → wB X rest D σ' H') : wB X (st :: rest) D σ H := by
  have h1 := h { nx := fun Γ'' => Γ'' = Γ', rt := fun _ => False } rfl Hs0 H0 Hs H σ t S
  refine wB_cons (wS_le (D := ends X.K Hs0 H0 { nx := fun Γ'' => Γ'' = Γ', rt := fun _ => False }) (D' := { D with nx := wB X rest D }) ⟨fun σ' H' ⟨Hs', Γ'', t', S', e'⟩ => ?_, fun v H' ⟨_, _, _, _, z⟩ => z.elim, fun _ _ ⟨_, _, _, _, z⟩ => z.elim, fun _ _ ⟨_, _, _, _, z⟩ => z.elim⟩ h1)
  have e2 : Γ'' = Γ' := e'
  subst e2
  exact k σ' Hs' H' t' S'
theorem wB_if {D : Ends} {Hs0 H0 Hs H : Hp} {σ : L2.St} (hc : ET X c Γ k) (t : Stp Hs0 H0 Hs H) (S : St2 X.K H0 Hs H σ Γ) (h1 : k = true → ∀ Hs' H', Stp Hs0 H0 Hs' H' → St2 X.K H0 Hs' H' σ Γ → wB X A { D with nx := wB X rest D } σ H')
    (h2 : k = false → ∀ Hs' H', Stp Hs0 H0 Hs' H' → St2 X.K H0 Hs' H' σ Γ → wB X rest D σ H') : wB X (.If c A [] pos :: rest) D σ H :=
  wB_cons (wS_of (ps_if (ptW X c) (pssW X A) (pssW X [])) (hc H0 Hs H σ S _ fun Hs2 H2 t2 => by
    cases k with
    | true => exact h1 rfl Hs2 H2 (t.trans t2) (S.step t2)
    | false => exact wB_of pss_nil (h2 rfl Hs2 H2 (t.trans t2) (S.step t2))))
theorem wB_ret {D : Ends} {Hs0 H0 Hs H : Hp} {σ : L2.St} (he : EV X e Γ d) (t : Stp Hs0 H0 Hs H) (S : St2 X.K H0 Hs H σ Γ) (h : ∀ v Hs' H', Stp Hs0 H0 Hs' H' → St2 X.K H0 Hs' H' σ Γ → DR X.K Hs' v d → D.rt v H') : wB X (.Return (some e) pos :: rest) D σ H :=
  wB_cons (wS_of (ps_ret (peW X e)) (he H0 Hs H σ S _ fun v Hs2 H2 t2 r => h v Hs2 H2 (t.trans t2) (S.step t2) r))
theorem wB_setE {D : Ends} {Hs0 H0 Hs H : Hp} {σ : L2.St} {x : Str} {p' : Pos} (i : Nat) (he : EV X e Γ d) (t : Stp Hs0 H0 Hs H) (S : St2 X.K H0 Hs H σ Γ) (k : ∀ v Hs' H', Stp Hs0 H0 Hs' H' → St2 X.K H0 Hs' H' (σ.set i (some v)) (Γ.set i (.val d)) → wB X rest D (σ.set i (some v)) H') (hN : X.N.Nodup) (hi : X.N[i]? = some x := by rfl) (hx : Loc X.env.scope x := by first | exact Or.inl rfl | exact Or.inr rfl)
    (hs : swapsWith e (some (.Name x p')) pos.line X.env = pure false := by rfl) (hf : X.fn x = true ∨ X.env.scope.names.lookup x = some .local := by first | exact .inl rfl | exact .inr rfl) : wB X (.Assign [.Name x p'] e pos :: rest) D σ H :=
  wB_cons (wS_of (ps_set hN hi hx (peW X e) hs hf) (he H0 Hs H σ S _ fun v Hs2 H2 t2 r => k v Hs2 H2 (t.trans t2) ((S.step t2).set i r)))
theorem wB_item {D : Ends} {Hs0 H0 Hs H : Hp} {σ : L2.St} {x : Str} {px ps : Pos} {dl d' d'' : Da} {i : Int} (k : Nat) (h : Γ[k]? = some (.own dl)) (he : EV X e Γ d') (hi : EV X b Γ (.int i)) (h0 : 0 ≤ i) (h1 : i < dlen dl) (hs : setAt dl i.toNat d' = some d'') (t : Stp Hs0 H0 Hs H) (S : St2 X.K H0 Hs H σ Γ)
    (kk : ∀ Hs' H', Stp Hs0 H0 Hs' H' → St2 X.K H0 Hs' H' σ (Γ.set k (.own d'')) → wB X rest D σ H') (hN : X.N[k]? = some x := by rfl)
    (hv : Vis X.env.scope x := by first | exact Or.inl rfl | exact Or.inr (Or.inl rfl) | exact Or.inr (Or.inr rfl)) (hd : (x == ("__debug__" : Str)) = false := by decide) (hcd : (x == ("__classdict__" : Str)) = false := by decide)
    (ha : ∀ v, assign (.Subscript (.Name x px) b ps) X.env v = (do
      let ov ← holding [v] (eval (.Name x px) X.env)
      let iv ← holding [v, ov] (eval b X.env)
      standAt ps
      holding [v, ov, iv] (setItem ov iv v)
      release [v, ov, iv] []) := by intro _; rfl)
    (hs1 : swapsWithSole [.Subscript (.Name x px) b ps] e pos.line X.env = pure false := by rfl) (hw : swappedStores [.Subscript (.Name x px) b ps] e X.env = pure none := by rfl)
    (hh1 : (assignEach [.Subscript (.Name x px) b ps] X.env).map (·.2) = [assign (.Subscript (.Name x px) b ps) X.env] := by rfl) : wB X (.Assign [.Subscript (.Name x px) b ps] e pos :: rest) D σ H := by
  obtain ⟨p, vs, e1, n0, ns, hh, r⟩ := S.ownAt h
  refine wB_cons (wS_of (ps_asg (peW X e) (pg_sub (pe_var hN hv hd hcd) (peW X b) set_list ha) hs1 hw hh1) (he H0 Hs H σ S _ fun v Hs1 H1 t1 r1 => ⟨_, e1, hi H0 Hs1 H1 σ (S.step t1) _ fun y Hs2 H2 t2 r2 => ?_⟩))
  have t12 := t1.trans t2
  have hh2 := t12.h _ _ hh
  have ns2 := t12.own p _ hh rfl ns
  refine ⟨p, vs, i, i.toNat, rfl, r2, hh2, ?_, kk Hs2 _ ?_ (St2.write (e' := .own d'') (S.step t12) h rfl e1 ns2 rfl ⟨p, _, rfl, n0, ns2, upd_same, LstR.set (r.ex t12.s) (r1.ex t2.s) hs⟩)⟩
  · unfold ixN
    rw [if_pos h0, if_pos (by rw [r.len]; exact h1)]
  · have t3 := t.trans t12
    exact ⟨t3.s, fun b o z => by rw [upd_ne (show b ≠ p from fun q => by rw [q, n0] at z; cases z)]; exact t3.h b o z, fun b o z => by rw [upd_ne (show b ≠ p from fun q => by rw [q, ns2] at z; cases z)]; exact t3.sub b o z, t3.own⟩
end
/-- the heap without p -/
def mn (H : Hp) (p : Addr) : Hp := fun b => if b = p then none else H b
theorem mn_self {H : Hp} {p : Addr} : mn H p p = none := if_pos rfl
theorem mn_ne {H : Hp} {p b : Addr} (h : b ≠ p) : mn H p b = H b := if_neg h
/-- the hand stands at p -/
structure HandAt (K : PySem.W.Frag) (Hs H : Hp) (p : Addr) (cells : List Int) (x y z : Int) : Prop where
  sub : Same Hs H
  no : Hs p = none
  at_ : ∃ vs, H p = some (.lst vs) ∧ LstR K Hs vs (.hl cells x y z)
  cs : ∀ i ∈ cells, 0 ≤ i
  y0 : 0 ≤ y
def spTake (K : PySem.W.Frag) : Sp := fun vs H Q _ => ∃ p many Hs cells x y z, vs = [.ref p, .int many] ∧ HandAt K Hs H p cells x y z ∧ 0 ≤ x ∧ 1 ≤ many ∧ many < 1000000 ∧
  ∀ i Hs' H' x' y' z', 0 ≤ i → i < many → Stp Hs (mn H p) Hs' H' → HandAt K Hs' H' p cells x' y' z' → 0 ≤ x' → Q (.int i) H'
/-- a start with an own list in the first slot -/
theorem st2_own {K : PySem.W.Frag} {Hs H : Hp} {N : List Str} {p : Addr} {us : List V} {ds : List Da} {d : Da} {ws : List V} (h : Same Hs H) (hp : Hs p = none) (e : H p = some (.lst ws)) (hl : LstR K Hs ws d) (r : Paired (DR K Hs) us ds) :
    Stp Hs (mn H p) Hs H ∧ St2 K (mn H p) Hs H (L2.start N (.ref p :: us)) (.own d :: (ds.map Ent.val ++ List.replicate (N.length - (ds.length + 1)) .no)) := by
  refine ⟨⟨Same.refl _, fun b o q => ?_, h, fun _ _ _ _ z => z⟩, ?_⟩
  · unfold mn at q
    split at q
    · cases q
    · exact q
  · have hlen := r.length
    refine ⟨h, by unfold L2.start; simp [hlen], fun i e' o h1 h2 => ?_, fun i j e1 f a b hne h1 h2 o1 o2 _ _ => ?_⟩
    · cases i with
      | zero =>
        have e1 : some (Ent.own d) = some e' := h1
        cases e1
        have e2 : some (some (V.ref p)) = some o := h2
        cases e2
        exact ⟨p, ws, rfl, mn_self, hp, e, hl⟩
      | succ i =>
        have h1' : (ds.map Ent.val ++ List.replicate (N.length - (ds.length + 1)) Ent.no)[i]? = some e' := h1
        have h2' : (us.map some ++ List.replicate (N.length - (us.length + 1)) none)[i]? = some o := h2
        by_cases hi : i < ds.length
        · rw [List.getElem?_append_left (by simpa using hi), List.getElem?_map] at h1'
          rw [List.getElem?_append_left (by simpa [hlen] using hi), List.getElem?_map] at h2'
          obtain ⟨d', hd, ed⟩ := Option.map_eq_some_iff.mp h1'
          obtain ⟨v, hv, ev⟩ := Option.map_eq_some_iff.mp h2'
          subst ed ev
          obtain ⟨v', hv', q⟩ := pget1 r hd
          rw [hv] at hv'
          cases hv'
          exact ⟨v, rfl, q⟩
        · rw [List.getElem?_append_right (by simpa using Nat.le_of_not_lt hi)] at h1'
          have := List.mem_of_getElem? h1'
          rw [List.mem_replicate] at this
          rw [this.2]
          trivial
    · have only : ∀ (m : Nat) (g : Ent), (Ent.own d :: (ds.map Ent.val ++ List.replicate (N.length - (ds.length + 1)) .no))[m]? = some g → g.isOwn = true → m = 0 := fun m g hm hg => by
        cases m with
        | zero => rfl
        | succ m =>
          have hm' : (ds.map Ent.val ++ List.replicate (N.length - (ds.length + 1)) Ent.no)[m]? = some g := hm
          have := List.mem_of_getElem? hm'
          rcases List.mem_append.mp this with z | z
          · obtain ⟨d, _, rfl⟩ := List.mem_map.mp z
            cases hg
          · rw [List.mem_replicate] at z
            rw [z.2] at hg
            cases hg
      exact absurd ((only i _ h1 o1).trans (only j _ h2 o2).symm) hne
theorem seq_nx {m n : Ms} {Γ Γ' : List Ent} (h : m Γ = some (.nx Γ')) : seqM m n Γ = n Γ' := by
  unfold seqM
  rw [h]
theorem res_rt {N : List Str} {n : Nat} {m : Ms} {ds : List Da} {d : Da} (hl : ds.length = n) (h : m (Γ0 N ds) = some (.rt d)) : resM N n m ds = some d := by
  unfold resM
  rw [if_pos hl, h]
theorem mixed_ok (x y : Int) : ∃ z, F_law_mixed [.int x, .int y] = some (.int z) ∧ 0 ≤ z := by
  have h1 : 0 ≤ (x * 39373 + y * 6151 + 50021) % 2147483399 := Int.emod_nonneg _ (by decide)
  have h2 : (x * 39373 + y * 6151 + 50021) % 2147483399 < 2147483399 := Int.emod_lt_of_pos _ (by decide)
  have s1 : (setM 2 (o2 modD (o1 intD (o2 addD (o2 addD (o2 mulD (oVar 0) (fun _ => some (.int 39373))) (o2 mulD (oVar 1) (fun _ => some (.int 6151)))) (fun _ => some (.int 50021)))) (fun _ => some (.int 2147483399)))) (Γ0 n_law_mixed [.int x, .int y]) =
      some (.nx [.val (.int x), .val (.int y), .val (.int ((x * 39373 + y * 6151 + 50021) % 2147483399)), .no]) := rfl
  generalize (x * 39373 + y * 6151 + 50021) % 2147483399 = q at h1 h2 s1
  have e : mulD (.int q) (.int q) = some (.int (q * q)) := if_pos ⟨by omega, by omega⟩
  have s2 : (setM 3 (o2 modD (o1 intD (o2 addD (o2 addD (o2 mulD (oVar 2) (oVar 2)) (o2 mulD (oVar 1) (fun _ => some (.int 81071)))) (o2 divD (oVar 2) (fun _ => some (.int 137))))) (fun _ => some (.int 2147483629)))) [.val (.int x), .val (.int y), .val (.int q), .no] =
      some (.nx [.val (.int x), .val (.int y), .val (.int q), .val (.int ((q * q + y * 81071 + q / 137) % 2147483629))]) := by
    have l : ∀ m : Option Da, m = some (.int (q * q)) → (setM 3 (o2 modD (o1 intD (o2 addD (o2 addD (fun _ => m) (o2 mulD (oVar 1) (fun _ => some (.int 81071)))) (o2 divD (oVar 2) (fun _ => some (.int 137))))) (fun _ => some (.int 2147483629)))) [.val (.int x), .val (.int y), .val (.int q), .no] =
      some (.nx [.val (.int x), .val (.int y), .val (.int q), .val (.int ((q * q + y * 81071 + q / 137) % 2147483629))]) := fun m hm => by subst hm; rfl
    exact l (mulD (.int q) (.int q)) e
  refine ⟨((((q * q + y * 81071 + q / 137) % 2147483629) * 62089 + q / 11) % 2147483587) / 64, ?_, ?_⟩
  · exact res_rt rfl ((seq_nx s1).trans ((seq_nx s2).trans rfl))
  · have := Int.emod_nonneg (((q * q + y * 81071 + q / 137) % 2147483629) * 62089 + q / 11) (show (2147483587 : Int) ≠ 0 by decide)
    omega
section
variable {P : Program} {w : World} {K : PySem.W.Frag} {mg : Str → Option Value} {base : Heap}
theorem own_at {H0 Hs H : Hp} {σ : L2.St} {Γ : List Ent} {p : Addr} {i : Nat} {d : Da} (S : St2 K H0 Hs H σ Γ) (h : Γ[i]? = some (.own d)) (hp : σ[i]? = some (some (.ref p))) : Hs p = none ∧ ∃ vs, H p = some (.lst vs) ∧ LstR K Hs vs d := by
  obtain ⟨a, vs, e, h0, hs, hh, r⟩ := S.ownAt h
  rw [e] at hp
  cases hp
  exact ⟨hs, vs, hh, r⟩
theorem ok_law_take (T : Tx K mg) : ∃ fd, FnOk P w K mg base CX0 3 (He.fAd K ("_law_take", none)) fd ["_law_hand_here", "_law_many"] (spTake K) ∧ Binds K fd ["_law_hand_here", "_law_many"] [] := by
  obtain ⟨fd, F⟩ := T.f_law_take
  refine ⟨fd, F.ok sc_law_take (fun vs H Q E ⟨p, many, _, _, _, _, _, e, _⟩ => by rw [e]; rfl) fun cd A outer s H vs Q E hr ⟨p, many, Hs, cells, x, y, z, e, hat, hx, hm1, hm2, k⟩ => ?_, b_law_take F⟩
  subst e
  refine ⟨wB (fX P w K mg base n_law_take "_law_take" (defScope s_law_take) (He.fAd K ("_law_take", none)) cd A outer s H E) (defBody s_law_take), PSs.nox (pssW _ _), ?_⟩
  obtain ⟨vs0, hp, hl⟩ := hat.at_
  obtain ⟨t0, S0⟩ := st2_own (N := n_law_take) hat.sub hat.no hp hl (.cons (show DR K Hs (.int many) (.int many) from rfl) .nil)
  -- a return of an int below many
  have fin : ∀ {σ' : L2.St} {Hs' H' : Hp} {Γ' : List Ent} {x' y' z' i : Int} {v : V}, Stp Hs (mn H p) Hs' H' → St2 K (mn H p) Hs' H' σ' Γ' → Γ'[0]? = some (.own (.hl cells x' y' z')) → σ'[0]? = some (some (.ref p)) → 0 ≤ x' → 0 ≤ y' → 0 ≤ i → i < many → DR K Hs' v (.int i) → Q v H' :=
    fun {σ' Hs' H' Γ' x' y' z' i v} t S h0 hp' hx' hy' hi1 hi2 r => by
      obtain ⟨n1, ws, e1, e2⟩ := own_at S h0 hp'
      rw [show v = .int i from r]
      exact k i Hs' H' x' y' z' hi1 hi2 t ⟨t.sub, n1, ⟨ws, e1, e2⟩, hat.cs, hy'⟩ hx'
  have hs0 : (L2.start n_law_take [.ref p, .int many])[0]? = some (some (.ref p)) := rfl
  -- behind the first statement
  have mid : ∀ {σ : L2.St} {Hs1 H1 : Hp} {Γ : List Ent} (x1 y1 : Int) (e2 : Ent), Γ = [.own (.hl cells x1 y1 z), .val (.int many), e2, .no] → Stp Hs (mn H p) Hs1 H1 → St2 K (mn H p) Hs1 H1 σ Γ → σ[0]? = some (some (.ref p)) → 0 ≤ x1 → 0 ≤ y1 →
      wB (fX P w K mg base n_law_take "_law_take" (defScope s_law_take) (He.fAd K ("_law_take", none)) cd A outer s H E) ((defBody s_law_take).drop 1) { nx := fun _ H' => Q .non H', rt := Q } σ H1 := by
    intro σ Hs1 H1 Γ x1 y1 e2 eΓ t1 S1 hs1 hx1 hy1
    subst eΓ
    refine wB_if (k := decide (0 < y1)) (et_gt (ev_ixOwn 0 rfl ev_int (by decide) rfl) ev_int) t1 S1 (fun hk Hs2 H2 t2 S2 => ?_) fun hk Hs2 H2 t2 S2 => ?_
    · refine wB_setE 3 (ev_ixOwn 0 rfl ev_int (by decide) rfl) t2 S2 (fun v Hs3 H3 t3 S3 => ?_) sc_law_take.nd
      have hs3 : (σ.set 3 (some v))[0]? = some (some (.ref p)) := by rw [List.getElem?_set_ne (by decide)]; exact hs1
      refine wB_item 0 (d'' := .hl cells x1 (y1 / many) z) rfl (ev_div (ev_intOf T.b_int (ev_var 3 rfl)) (ev_var 1 rfl) ⟨by omega, by omega⟩) ev_int (by decide) (by show (_ : Int) < 4; decide) rfl t3 S3 fun Hs4 H4 t4 S4 => ?_
      refine wB_ret (ev_mod (ev_intOf T.b_int (ev_var 3 rfl)) (ev_var 1 rfl) (by omega)) t4 S4 fun v Hs5 H5 t5 S5 r5 => fin t5 S5 rfl hs3 hx1 ?_ (Int.emod_nonneg _ (by omega)) (Int.emod_lt_of_pos _ (by omega)) r5
      exact Int.ediv_nonneg hy1 (by omega)
    · refine wB_item 0 (d'' := .hl cells x1 y1 ((z + 1) % 2147483549)) rfl (ev_mod (ev_intOf T.b_int (ev_add (ev_ixOwn 0 rfl ev_int (by decide) rfl) ev_int)) ev_int (by decide)) ev_int (by decide) (by show (_ : Int) < 4; decide) rfl t2 S2 fun Hs4 H4 t4 S4 => ?_
      obtain ⟨q, hq, hq0⟩ := mixed_ok ((z + 1) % 2147483549) x1
      refine wB_ret (ev_mod (ev_intOf T.b_int (ev_call (R := fun ds r => F_law_mixed ds = some r) (Can.mono (ok_law_mixed T) (by decide)) hr (ea_cons (ev_ixOwn 0 rfl ev_int (by decide) rfl) (ea_cons (ev_ixOwn 0 rfl ev_int (by decide) rfl) ea_nil)) hq)) (ev_var 1 rfl) (by omega)) t4 S4 fun v Hs5 H5 t5 S5 r5 => fin t5 S5 rfl hs1 hx1 hy1 (Int.emod_nonneg _ (by omega)) (Int.emod_lt_of_pos _ (by omega)) r5
  refine wB_if (k := decide (y = 0) && decide (x < cells.length)) (et_and2 (k := decide (y = 0)) (k' := decide (x < (cells.length : Int))) ?_ fun _ => ?_) t0 S0 (fun hk Hs2 H2 t2 S2 => ?_) fun hk Hs2 H2 t2 S2 => mid x y .no rfl t2 S2 hs0 hx hat.y0
  · exact et_eqI (ev_ixOwn 0 rfl ev_int (by decide) rfl) ev_int
  · exact et_lt (ev_ixOwn 0 rfl ev_int (by decide) rfl) (ev_len (d := .li cells) T.b_len rfl (ev_ixOwn 0 rfl ev_int (by decide) rfl))
  rw [Bool.and_eq_true, decide_eq_true_eq, decide_eq_true_eq] at hk
  obtain ⟨hk1, hk2⟩ := hk
  have hcx : cells[x.toNat]? = some (cells.getD x.toNat 0) := by
    rw [List.getD_eq_getElem?_getD, List.getElem?_eq_getElem (by omega)]
    rfl
  have hc0 : 0 ≤ cells.getD x.toNat 0 := hat.cs _ (List.mem_of_getElem? hcx)
  generalize cells.getD x.toNat 0 = cell at hcx hc0
  refine wB_setE 2 (ev_ixL (d := .li cells) (d' := .int cell) rfl (ev_ixOwn 0 rfl ev_int (by decide) rfl) (ev_ixOwn 0 rfl ev_int (by decide) rfl) hx (show (cells[x.toNat]?).map Da.int = some (.int cell) by rw [hcx]; rfl)) t2 S2 (fun v Hs3 H3 t3 S3 => ?_) sc_law_take.nd
  have hs3 : ((L2.start n_law_take [.ref p, .int many]).set 2 (some v))[0]? = some (some (.ref p)) := rfl
  refine wB_item 0 (d'' := .hl cells (x + 1) y z) rfl (ev_add (ev_ixOwn 0 rfl ev_int (by decide) rfl) ev_int) ev_int (by decide) (by show (_ : Int) < 4; decide) rfl t3 S3 fun Hs4 H4 t4 S4 => ?_
  refine wB_if (k := decide (cell < 10 ^ 18)) (et_lt (ev_var 2 rfl) (ev_pow ev_int ev_int ⟨by decide, by decide, by decide⟩)) t4 S4 (fun hk Hs5 H5 t5 S5 => ?_) fun hk Hs5 H5 t5 S5 => ?_
  · obtain ⟨q, hq, hq0⟩ := mixed_ok (cell % 2147483399) (x + 1)
    exact wB_ret (ev_mod (ev_intOf T.b_int (ev_call (R := fun ds r => F_law_mixed ds = some r) (Can.mono (ok_law_mixed T) (by decide)) hr (ea_cons (ev_mod (ev_intOf T.b_int (ev_var 2 rfl)) ev_int (by decide)) (ea_cons (ev_ixOwn 0 rfl ev_int (by decide) rfl) ea_nil)) hq)) (ev_var 1 rfl) (by omega)) t5 S5 fun v Hs6 H6 t6 S6 r6 => fin t6 S6 rfl hs3 (by omega) hat.y0 (Int.emod_nonneg _ (by omega)) (Int.emod_lt_of_pos _ (by omega)) r6
  · refine wB_item 0 (d'' := .hl cells (x + 1) cell z) rfl (ev_var 2 rfl) ev_int (by decide) (by show (_ : Int) < 4; decide) rfl t5 S5 fun Hs6 H6 t6 S6 => ?_
    exact wB_of pss_nil (mid (x + 1) cell _ rfl t6 S6 hs3 (by omega) hc0)
end
end K54

set_option Elab.async false
set_option linter.all false
set_option maxRecDepth 100000
set_option maxHeartbeats 4000000
/-! J18: the hand is made. -/
namespace K54
open PySem PySem.Spec PyProof.Rows L2
section
variable {X : Cx} {a b c e o : Expr} {es : List Expr} {st : Stmt} {A rest : List Stmt} {Γ Γ' : List Ent} {pos : Pos} {d : Da} {ds : List Da} {k : Bool}
theorem wB_SDw {D : Ends} {Hs0 H0 Hs H : Hp} {σ : L2.St} (Γ' : List Ent) (h : ∀ P : Pst, (∀ Γ'', Weak Γ'' Γ' → P.nx Γ'') → SD X st Γ P) (t : Stp Hs0 H0 Hs H) (S : St2 X.K H0 Hs H σ Γ) (k : ∀ σ' Hs' H', Stp Hs0 H0 Hs' H' → St2 X.K H0 Hs' H' σ' Γ' → wB X rest D σ' H') : wB X (st :: rest) D σ H := by
  have h1 := h { nx := fun Γ'' => Weak Γ'' Γ', rt := fun _ => False } (fun _ z => z) Hs0 H0 Hs H σ t S
  exact wB_cons (wS_le (D := ends X.K Hs0 H0 { nx := fun Γ'' => Weak Γ'' Γ', rt := fun _ => False }) (D' := { D with nx := wB X rest D }) ⟨fun σ' H' ⟨Hs', Γ'', t', S', e'⟩ => k σ' Hs' H' t' (S'.weak e'), fun v H' ⟨_, _, _, _, z⟩ => z.elim, fun _ _ ⟨_, _, _, _, z⟩ => z.elim, fun _ _ ⟨_, _, _, _, z⟩ => z.elim⟩ h1)
theorem st2_freeze {K : PySem.W.Frag} {Hs0 H0 Hs H : Hp} {σ : L2.St} (k : Nat) (h : Γ[k]? = some (.own d)) (t : Stp Hs0 H0 Hs H) (S : St2 K H0 Hs H σ Γ) : ∃ Hs', Stp Hs0 H0 Hs' H ∧ St2 K H0 Hs' H σ (Γ.set k (.val d)) := by
  obtain ⟨p, vs, e1, n0, ns, hh, r⟩ := S.ownAt h
  have Hm : Same Hs (upd Hs p (.lst vs)) := Same.upd_new ns
  have lk : k < Γ.length := (List.getElem?_eq_some_iff.mp h).1
  have sub' : Same (upd Hs p (.lst vs)) H := fun b o z => by
    by_cases hb : b = p
    · subst hb; rw [upd_same] at z; cases z; exact hh
    · rw [upd_ne hb] at z; exact S.sub b o z
  refine ⟨upd Hs p (.lst vs), ⟨t.s.trans Hm, t.h, sub', fun b o h1 h3 h2 => ?_⟩, ⟨sub', by simpa using S.len, fun m f o q1 q2 => ?_, fun m n f g b c hne q1 q2 o1 o2 s1 s2 => ?_⟩⟩
  · rw [upd_ne (ne_of_none h1 n0)]
    exact t.own b o h1 h3 h2
  · by_cases hm : m = k
    · subst hm
      rw [List.getElem?_set_self lk] at q1
      rw [e1] at q2
      cases q1; cases q2
      exact ⟨_, rfl, DR.of_lst (.inl (.inl upd_same)) (r.ex Hm)⟩
    · rw [List.getElem?_set_ne (Ne.symm hm)] at q1
      have z := S.ent m f o q1 q2
      cases f with
      | no => trivial
      | val d => obtain ⟨v, a1, a2⟩ := z; exact ⟨v, a1, a2.ex Hm⟩
      | own d =>
        obtain ⟨b, us, a1, a2, a3, a4, a5⟩ := z
        subst a1
        exact ⟨b, us, rfl, a2, by rw [upd_ne (S.dis m k _ _ b p hm q1 h rfl rfl q2 e1)]; exact a3, a4, a5.ex Hm⟩
      | dT d =>
        obtain ⟨b, a1, a2, a3, a4⟩ := z
        subst a1
        exact ⟨b, rfl, a2, by rw [upd_ne (S.dis m k _ _ b p hm q1 h rfl rfl q2 e1)]; exact a3, a4⟩
      | dK d =>
        obtain ⟨b, a1, a2, a3, a4⟩ := z
        subst a1
        exact ⟨b, rfl, a2, by rw [upd_ne (S.dis m k _ _ b p hm q1 h rfl rfl q2 e1)]; exact a3, a4⟩
  · by_cases hm : m = k
    · subst hm; rw [List.getElem?_set_self lk] at q1; cases q1; cases o1
    · by_cases hk : n = k
      · subst hk; rw [List.getElem?_set_self lk] at q2; cases q2; cases o2
      · rw [List.getElem?_set_ne (Ne.symm hm)] at q1
        rw [List.getElem?_set_ne (Ne.symm hk)] at q2
        exact S.dis m n f g b c hne q1 q2 o1 o2 s1 s2
end
theorem wB_retLst {X : Cx} {es : List Expr} {rest : List Stmt} {Γ : List Ent} {ds : List Da} {pos p1 : Pos} {D : Ends} {Hs0 H0 Hs H : Hp} {σ : L2.St} (h : EA X es Γ ds) (t : Stp Hs0 H0 Hs H) (S : St2 X.K H0 Hs H σ Γ) (hz : ds.length ≤ 1000)
    (k : ∀ p vs Hs' H', Stp Hs0 H0 Hs' H' → H' p = none → Paired (DR X.K Hs') vs ds → D.rt (.ref p) (upd H' p (.lst vs))) : wB X (.Return (some (.List es p1)) pos :: rest) D σ H :=
  wB_cons (wS_of (ps_ret (pe_lst (paW X es))) (h H0 Hs H σ S _ fun vs Hs5 H5 t5 r5 => ⟨by rw [r5.length]; exact Nat.le_of_lt (small1000 hz), fun p hp => k p vs Hs5 H5 (t.trans t5) hp r5⟩))
theorem EA_of4 {X : Cx} {Γ : List Ent} {a b c e : Expr} {d1 d2 d3 d4 : Da} (ha : EV X a Γ d1) (hb : EV X b Γ d2) (hc : EV X c Γ d3) (he : EV X e Γ d4) (h1 : starEach [a, b, c, e] X.env = (false, eval a X.env) :: starEach [b, c, e] X.env := by rfl) (h2 : starEach [b, c, e] X.env = (false, eval b X.env) :: starEach [c, e] X.env := by rfl)
    (h3 : starEach [c, e] X.env = (false, eval c X.env) :: starEach [e] X.env := by rfl) (h4 : starEach [e] X.env = (false, eval e X.env) :: starEach [] X.env := by rfl) : EA X [a, b, c, e] Γ [d1, d2, d3, d4] := ea_cons ha (ea_cons hb (ea_cons hc (ea_cons he ea_nil h4) h3) h2) h1
def tot (ns : List Int) : Nat → Int
  | 0 => ns.length + 43
  | i + 1 => (tot ns i * 2003 + ns.getD i 0) % 2147483563
def absI (i : Int) : Int := if i < 0 then -i else i
def spHand (K : PySem.W.Frag) : Sp := fun vs H Q _ => ∃ Hs v ns, vs = [v] ∧ Same Hs H ∧ DR K Hs v (.li ns) ∧ ns.length ≤ 1000 ∧ ∀ p Hs' H' cells c, Stp Hs H Hs' H' → H p = none → HandAt K Hs' H' p cells 0 0 c → Q (.ref p) H'
section
variable {P : Program} {w : World} {K : PySem.W.Frag} {mg : Str → Option Value} {base : Heap}
theorem ok_law_hand (T : Tx K mg) : ∃ fd, FnOk P w K mg base CX0 2 (He.fAd K ("_law_hand", none)) fd ["_law_script"] (spHand K) ∧ Binds K fd ["_law_script"] [] := by
  obtain ⟨fd, F⟩ := T.f_law_hand
  refine ⟨fd, F.ok sc_law_hand (fun vs H Q E ⟨_, _, _, e, _⟩ => by rw [e]; rfl) fun cd A outer s H vs Q E hr ⟨Hs, v, ns, e, sub, rv, hlen, k⟩ => ?_, b_law_hand F⟩
  subst e
  refine ⟨wB (fX P w K mg base n_law_hand "_law_hand" (defScope s_law_hand) (He.fAd K ("_law_hand", none)) cd A outer s H E) (defBody s_law_hand), PSs.nox (pssW _ _), ?_⟩
  have S0 : St2 K H Hs H (L2.start n_law_hand [v]) (Γ0 n_law_hand [.li ns]) := st2_start sub (.cons rv .nil)
  refine wB_SD (Γ := Γ0 n_law_hand [.li ns]) (Γ' := [.val (.li ns), .val (.int (tot ns 0)), .no, .no]) (fun P h => sd_set 1 (ev_add (ev_len (d := .li ns) T.b_len rfl (ev_var 0 rfl)) ev_int) h sc_law_hand.nd) (Stp.refl sub) S0 fun σ1 Hs1 H1 t1 S1 => ?_
  refine wB_SD (Γ := [.val (.li ns), .val (.int (tot ns 0)), .no, .no]) (Γ' := [.val (.li ns), .val (.int (tot ns 0)), .own (.li []), .no]) (fun P h => sd_setOwn 2 (el_nil (d := .li []) fun Hs => LstR.nilI) h sc_law_hand.nd) t1 S1 fun σ2 Hs2 H2 t2 S2 => ?_
  refine wB_SDw (Γ := [.val (.li ns), .val (.int (tot ns 0)), .own (.li []), .no]) [.val (.li ns), .val (.int (tot ns ns.length)), .own (.li (ns.map absI)), .no] (fun P h => sd_forL (d := .li ns) 3 never rfl rfl (ev_var 0 rfl) (fun i Γ' => Weak Γ' [.val (.li ns), .val (.int (tot ns i)), .own (.li ((ns.take i).map absI)), .no]) ⟨rfl, rfl, rfl, trivial⟩ (fun i d' Γ' hd' hI => ?_) (fun Γ' hI => h Γ' (by rw [show dlen (.li ns) = ns.length from rfl, List.take_length] at hI; exact hI)) sc_law_hand.nd) t2 S2 fun σ3 Hs3 H3 t3 S3 => ?_
  · obtain ⟨x, hx, ex⟩ := Option.map_eq_some_iff.mp (show ns[i]?.map Da.int = some d' from hd')
    subst ex
    match Γ', hI with
    | [e0, e1, e2, e3], ⟨q0, q1, q2, _⟩ =>
      subst q0 q1 q2
      have hgd : ns.getD i 0 = x := by rw [List.getD_eq_getElem?_getD, hx]; rfl
      refine bd_cons (sd_set 1 (ev_mod (ev_intOf T.b_int (ev_add (ev_mul (ev_var 1 rfl) ev_int (.inr ⟨by decide, by decide⟩)) (ev_intOf T.b_int (ev_var 3 rfl)))) ev_int (by decide)) ?_ sc_law_hand.nd)
      refine bd_cons (sd_append (d := .li ((ns.take i).map absI)) (d' := .int (absI x)) (d'' := .li ((ns.take (i + 1)).map absI)) 2 rfl (ev_abs T.b_abs (ev_intOf T.b_int (ev_var 3 rfl))) ?_ ?_ ?_)
      · show some (Da.li ((ns.take i).map absI ++ [absI x])) = _
        rw [List.take_add_one, hx, List.map_append]
        rfl
      · show ((ns.take i).map absI).length < 1000000
        rw [List.length_map]
        have := List.length_take_le i ns
        have h2 : (ns.take i).length ≤ ns.length := List.length_take_le' i ns
        omega
      · refine bd_nil (Weak.refl _) ⟨rfl, ?_, rfl, trivial⟩
        show Ent.val (.int _) = Ent.val (.int ((tot ns i * 2003 + ns.getD i 0) % 2147483563))
        rw [hgd]
  obtain ⟨Hs4, t4, S4⟩ := st2_freeze 2 rfl t3 S3
  refine wB_retLst (ds := [.li (ns.map absI), .int 0, .int 0, .int (tot ns ns.length)]) (EA_of4 (ev_var 2 rfl) ev_int ev_int (ev_var 1 rfl)) t4 S4 (by show 4 ≤ 1000; decide) fun p vs Hs5 H5 t45 hp r5 => ?_
  have ph : H p = none := Same.free t45.h hp
  have ps : Hs5 p = none := sub_none t45.sub hp
  refine k p Hs5 (upd H5 p (.lst vs)) (ns.map absI) (tot ns ns.length) (t45.trans (stp_own t45.sub hp)) ph ⟨(stp_own t45.sub hp).sub, ps, ⟨vs, upd_same, ?_⟩, fun i hi => ?_, Int.le_refl 0⟩
  · cases r5 with
    | cons r1 r5 =>
      cases r5 with
      | cons r2 r5 =>
        cases r5 with
        | cons r3 r5 =>
          obtain ⟨v4, rfl, r4⟩ := p1 r5
          obtain ⟨q, us, e1, e2, e3⟩ := r1
          rw [show us = _ from e3] at e2
          exact ⟨q, by rw [e1, show _ = V.int 0 from r2, show _ = V.int 0 from r3, show v4 = _ from r4], e2⟩
  · obtain ⟨x, _, e⟩ := List.mem_map.mp hi
    rw [← e]
    unfold absI
    split <;> omega
end
end K54

set_option Elab.async false
set_option linter.all false
set_option maxRecDepth 100000
set_option maxHeartbeats 4000000
/-! J19: defs that are called with no guard about; the law's end. -/
namespace K54
open PySem PySem.Spec PyProof.Rows L2
abbrev noE : XK := fun _ _ _ => False
/-- a promise for calls with no guard about -/
structure FnG (P : Program) (w : World) (K : PySem.W.Frag) (mg : Str → Option Value) (base : Heap) (k : Nat) (f : Addr) (fd : FuncData) (ps : List Str) (sp : Sp) : Prop where
  len : ∀ vs H Q E, sp vs H Q E → vs.length = ps.length
  run : ∀ (A : Around) (outer : List Env) (s : Shared) (H : Hp) (args : Args) (us : List Value) (vs : List V) (Q : VK) (E : XK), Room k A → A.guards = some [] → Env0 P w K mg base A outer s H → BindsTo s fd args (ps.zip us) → Vals vs us → sp vs H Q E →
    codeAny (model P w) A (.call (.ref f) args) (CR CX0 outer P w H s Q E) s
section
variable {P : Program} {w : World} {K : PySem.W.Frag} {mg : Str → Option Value} {base : Heap}
theorem fnG_of {x qual : Str} {params : Arguments} {body : List Stmt} {scope : Scope} {f : Addr} {fd : FuncData} {N ps : List Str} {k : Nat} {sp : Sp} (F : FunD K x qual params body scope [] [] f fd) (S : FnScope N ps scope) (len : ∀ vs H Q E, sp vs H Q E → vs.length = ps.length)
    (hb : ∀ (cd : Value) (A : Around) (outer : List Env) (s : Shared) (H : Hp) (vs : List V) (Q : VK) (E : XK), Room k (fX P w K mg base N qual scope f cd A outer s H E).A → (fX P w K mg base N qual scope f cd A outer s H E).A.guards = some [] → sp vs H Q E →
      wB (fX P w K mg base N qual scope f cd A outer s H E) body { nx := fun _ H' => Q .non H', rt := Q } (L2.start N vs) H) : FnG P w K mg base (k + 1) f fd ps sp := by
  obtain ⟨oc, od, dV, kV, doc, pm, an, cdv, ct, osl, efd, lk, hcd, _, _⟩ := F.ex
  subst efd
  refine ⟨len, fun A outer s H args us vs Q E hr hgd e0 hbd rv hsp => ?_⟩
  have inH : K.In s.heap := e0.mod.kin.keeps fun b o e => (e0.bs b o e).1
  refine codeAny_call_function hr.depth (inH _ _ lk) rfl S.co S.gen rfl (PySem.W.codeRec_of inH hcd) (hbd _ _ _ _ ?_)
  refine wpAny_newFunctionEnv_cells S.kind (fun yv hy => ?_) fun env he s1 x => ?_
  · rcases S.par yv.1 (List.of_mem_zip (show (yv.1, yv.2) ∈ ps.zip us from hy)).1 with z | z
    · exact .inl z
    · exact .inr ⟨z, PySem.W.cellsFrom_some _ _ _ (.inl z)⟩
  · subst he
    refine ⟨(e0.mod.nolimit.keeps fun b o e => (e0.bs b o e).1).keeps x.toInCall.keep, codeAny_func ?_⟩
    have I := inv_start (CX := CX0) (E := E) S hr.hd e0 (len _ _ _ _ hsp) rv x
    have body := hb cdv A outer s H vs Q E (hr.deeper _) hgd hsp
    refine wpAny_mono ((PSs.nox (pssW (fX P w K mg base N qual scope f cdv A outer s H E) _)).run [] s1 (L2.start N vs) H _ I body) (fun fl s' hs => ?_) fun e s' hs => hs
    cases fl with
    | ret u => obtain ⟨v, σ', H', J, rv', q⟩ := hs; exact ⟨v, H', J.os, J.bare, J.base, J.hok, rv', q⟩
    | next => obtain ⟨σ', H', J, q⟩ := hs; exact ⟨.non, H', J.os, J.bare, J.base, J.hok, rfl, q⟩
    | brk => obtain ⟨_, _, _, q⟩ := hs; exact q.elim
    | cont => obtain ⟨_, _, _, q⟩ := hs; exact q.elim
end
section
variable {X : Cx} {x : Str} {e : Expr} {es : List Expr} {p pos : Pos} {f : Addr} {fd : FuncData} {ps : List Str} {sp : Sp} {k : Nat} {t : TA}
theorem pe_callG (F : FnG X.prog X.w X.K X.mg X.base k f fd ps sp) (hr : Room k X.A) (hgd : X.A.guards = some []) (hg : Gl X x) (hm : X.mg x = some (.ref f)) (hk : PySem.W.keepIn X.K (.ref f) = true) (hb : Binds X.K fd ps []) (ha : PA X (e :: es) t)
    (hdb : (x == ("__debug__" : Str)) = false := by decide) (he : starEach (e :: es) X.env = (false, eval e X.env) :: starEach es X.env := by rfl) (hpl : (backTo pos (starEach es X.env)).any (·.1) = false := by rfl) :
    PE X (.Call (.Name x p) (e :: es) [] pos) (fun σ H Q => t σ H fun vs H1 => sp vs H1 Q noE) where
  run := fun pins s σ H Q I h => wpAny_Call_Name_kw (ld_glob I hg hm (PySem.W.callWith_K (h₀ := X.base) I.ok.mod.kin hk (thn (ha.run pos pins s σ H _ I h) fun us s1 ⟨vs, H1, I1, r, q⟩ => ⟨I1.kIn, by
    have hl : (us ++ []).length = ps.length := by rw [List.append_nil, ← r.length]; exact F.len _ _ _ _ q
    have hbd := hb s1 us I1.kIn hl
    rw [List.append_nil] at hbd
    refine wpAny_call (codeAny_mono (F.run X.A X.stack s1 H1 ⟨us, []⟩ us vs Q noE hr hgd I1.env0 hbd r q) fun r' s' hq => ?_)
    cases r' with
    | error er => exact (show False from hq).elim
    | ok fl =>
      cases fl with
      | ret u => exact I1.after hq
      | next => exact (show False from hq).elim
      | brk => exact (show False from hq).elim
      | cont => exact (show False from hq).elim⟩) he hpl) hdb)
end
/-- where the law's def is called: nothing is tracked but the script -/
theorem start54 {P : Program} {w : World} {K : PySem.W.Frag} {mg mb : Str → Option Value} {a : Addr} {s₁ : Shared} {vs : List Value} {ns : List Int} (KX : K.In s₁.heap) (hns : s₁.heap.Ns mainGlobals mg) (hb : s₁.heap.Ns builtinsNs mb) (hbb : ∀ x : Str, x ≠ "__name__" → mb x = bootBuiltins x) (hlim : s₁.heap.NoLimit) (hg : s₁.gens = #[])
    (ha : s₁.heap.get? a = some { cls := .type "list", data := .seq vs.toArray }) (hi : IntsAre vs ns) (hl : ns.length ≤ sizeLine) :
    ∃ (H : Hp) (base : Heap), Only H ∧ SqL K H a (ns.map V.int) ∧ K.In base ∧ base.Ns mainGlobals mg ∧ Env0 P w K mg base callerA [] s₁ H := by
  have len := hi.length
  have core : ∀ H : Hp, Only H → SqL K H a (ns.map V.int) → HOk P w H s₁.heap → (∀ b u, H b = some u → b = a ∧ K.lookup a = none) → ∃ (H : Hp) (base : Heap), Only H ∧ SqL K H a (ns.map V.int) ∧ K.In base ∧ base.Ns mainGlobals mg ∧ Env0 P w K mg base callerA [] s₁ H := fun H hO hS hok hA => by
    have free : ∀ b o, s₁.heap.get? b = some o → (b ≠ a ∨ K.lookup a ≠ none) → H b = none := fun b o e hn => by
      cases q : H b with
      | none => rfl
      | some u =>
        obtain ⟨z1, z2⟩ := hA b u q
        exact hn.elim (fun z => absurd z1 z) fun z => absurd z2 z
    have ns' : ∀ b m, s₁.heap.Ns b m → (hidT s₁.heap H).Ns b m := fun b m ⟨o, es, ep, e, d, r⟩ => ⟨o, es, ep, hidT_get e (free b o e (.inl fun z => by
      subst z
      rw [ha] at e
      cases e
      cases (show Data.seq vs.toArray _ = Data.dict es ep from d))), d, r⟩
    have kin : K.In (hidT s₁.heap H) := fun b o e => hidT_get (KX b o e) (free b o (KX b o e) (by
      by_cases z : b = a
      · subst z
        exact .inr (by rw [e]; intro q; cases q)
      · exact .inl z))
    refine ⟨H, hidT s₁.heap H, hO, hS, kin, ns' _ _ hns, rfl, ⟨kin, ns' _ _ hns, ⟨mb, ns' _ _ hb, hbb⟩, let ⟨mc, h1, h2⟩ := hlim; ⟨mc, ns' _ _ h1, h2⟩⟩, fun b o e => of_hidT e, Nat.le_of_eq (hidT_size _ _), trivial, fun b hb => absurd (show b ∈ ([] : List Addr) from hb) List.not_mem_nil, hok, .of_eq hg⟩
  by_cases hk : ∃ o, K.lookup a = some o
  · obtain ⟨o, hk⟩ := hk
    have e := KX a o hk
    rw [ha] at e
    cases e
    exact core (fun _ => none) (fun _ => .inl rfl) (.inr ⟨_, vs.toArray, _, hk, rfl, rfl, rfl, by rw [List.size_toArray, len]; exact hl, by simpa using vals_ints hi⟩) (fun b u z => nomatch (show (none : Option HO) = some u from z)) fun b u z => nomatch (show (none : Option HO) = some u from z)
  · have hk' : K.lookup a = none := by
      cases q : K.lookup a with
      | none => rfl
      | some o => exact absurd ⟨o, q⟩ hk
    let o54 : HO := .frz { cls := .type "list", data := .seq vs.toArray } (.lst (ns.map V.int))
    have at_ : ∀ b u, (fun b => if b = a then some o54 else none : Hp) b = some u → b = a ∧ u = o54 := fun b u z => by
      by_cases hb : b = a
      · exact ⟨hb, (Option.some.inj ((if_pos hb).symm.trans z)).symm⟩
      · exact nomatch (if_neg hb).symm.trans z
    refine core (fun b => if b = a then some o54 else none) (fun b => ?_) (.inl (.inr ⟨_, if_pos rfl⟩)) (fun b u z => ?_) fun b u z => ⟨(at_ b u z).1, hk'⟩
    · by_cases hb : b = a
      · exact .inr ⟨_, _, if_pos hb⟩
      · exact .inl (if_neg hb)
    · obtain ⟨z1, z2⟩ := at_ b u z
      subst z1 z2
      exact ⟨ha, by rw [List.length_map]; exact hl, vs, _, vals_ints hi, ha⟩
/-- a law, by a promise for calls with no guard about -/
theorem walk_ofG {l : PySem.W.OpenLaw} {n k : Nat} {q : Program} {loose : List Str} {XP : (Str → Option Value) → Heap → Prop} {YP : World → Heap → Prop} {d : DefRec} {x : Str} (hn : l.most = some n) (hn2 : n ≤ sizeLine) (hdf : d.params.defaults = []) (hr : Room k callerA)
    (F : ∀ (w : World) (mg : Str → Option Value) (fa : Addr) (h : Heap), YP w h → h.Ns mainGlobals mg → mg d.name = some (.ref fa) →
      ∃ (K : PySem.W.Frag) (fd : FuncData) (sp : Sp), K.In h ∧ (∀ (s : Shared) (u : Value), BindsTo s fd ⟨[u], []⟩ [(x, u)]) ∧
        (∀ (H : Hp) (a : Addr) (ns : List Int), ns.length ≤ n → Only H → SqL K H a (ns.map V.int) → sp [.ref a] H (fun v _ => v = .bl true) fun _ _ _ => False) ∧
        ∀ base : Heap, K.In base → base.Ns mainGlobals mg → FnG l.prog w K mg base k fa fd [x] sp) : PySem.W.WalkO q loose XP YP l.row.toRowW d [] (fun f vs => PySem.call f vs) := by
  refine Att.attach_call hn hdf fun w s₀ s₁ mg mb fa o pm cd doc a vs ns G Y ho hd hcd hmg hobj hints hlen hg => ?_
  obtain ⟨K, fd, sp, KX, hb, hsp, hF⟩ := F w mg fa _ Y G.T.g hmg
  obtain ⟨H, base, hO, hS, kin, hns, e0⟩ := start54 (P := l.prog) (w := w) KX G.T.g G.T.b G.T.builtins G.T.nolimit hg hobj hints (Nat.le_trans hlen hn2)
  refine codeAny_mono ((hF base kin hns).run callerA [] s₁ H ⟨[.ref a], []⟩ [.ref a] [.ref a] _ _ hr rfl e0 (hb s₁ (.ref a)) (.cons rfl .nil) (hsp H a ns hlen hO hS)) fun r s' h => ?_
  cases r with
  | error e => exact (show False from h).elim
  | ok fl =>
    cases fl with
    | next => exact (show False from h).elim
    | brk => exact (show False from h).elim
    | cont => exact (show False from h).elim
    | ret u =>
      obtain ⟨v, H', os, bare, un, hok', r', q⟩ := h
      have q' : v = .bl true := q
      subst q'
      obtain rfl : u = Value.bool true := r'
      refine ⟨rfl, OldK.of_keep fun b o e => ?_, os, bare⟩
      rcases hO b with z | ⟨ob, xs, z⟩
      · exact un.keep b o e z (by intro y; exact absurd (show b ∈ ([] : List Addr) from y) List.not_mem_nil) List.not_mem_nil
      · have z2 := un.frzs b ob _ z
        have e1 := (e0.hok b _ z).1
        have e2 := (hok' b _ z2).1
        rw [e] at e1
        cases e1
        exact e2
end K54

set_option Elab.async false
set_option linter.all false
set_option maxRecDepth 100000
set_option maxHeartbeats 4000000
/-! J20: list(range(a, b)). -/
namespace K54
open PySem PySem.Spec PyProof.Rows L2
def rngL (lo hi : Int) : List Int := (List.range (hi - lo).toNat).map fun (i : Nat) => lo + (i : Int)
section
variable {X : Cx} {a b c e o : Expr} {es : List Expr} {Γ : List Ent} {pos : Pos} {d : Da} {ds : List Da} {k n : Nat} {f g : Mx} {fa : Ma}
theorem call_list_rng (hc : X.calm = true) : CallR X (.type "list") (fun xs H Q => ∃ p lo hi, xs = [V.ref p] ∧ H p = some (.rng lo hi) ∧ (-1000 ≤ lo ∧ lo ≤ 1000 ∧ -1000 ≤ hi ∧ hi ≤ 1000) ∧ ∀ l, H l = none → Q (.ref l) (upd H l (.lst ((rngL lo hi).map V.int)))) := by
  intro pins s σ H xs us Q I r h
  obtain ⟨p, lo, hi, exs, hp, hb, q⟩ := h
  subst exs
  obtain ⟨u, eu, rx⟩ := r.one
  subst eu
  cases rx
  obtain ⟨t, u, v, ho⟩ := (show ObjOk X.prog X.w H s.heap p (.rng lo hi) from I.hok p _ hp)
  have hsz : Builtin.Range.rangeSize lo hi 1 = (((hi - lo).toNat : Nat) : Int) := by rw [rangeSize_one]; split <;> omega
  refine call_list_range (I.ok.hd hc) ho (small_one (by omega) (by omega) (by omega) (by omega)) hsz (by omega) fun h' tk acc' c' kp e it => ?_
  have ev : Vals ((rngL lo hi).map V.int) acc'.toList := by
    have key : ∀ (m : Nat) (l : List Value), l.length = m → (∀ (j : Nat) (v : Value), l[j]? = some v → ∃ t, v = Value.int (lo + (j : Int) * 1) t) → Vals (((List.range m).map fun i : Nat => lo + (i : Int)).map V.int) l := by
      intro m
      induction m with
      | zero => intro l hl _; rw [List.length_eq_zero_iff.mp hl]; exact .nil
      | succ m ih =>
        intro l hl hv
        have hne : l ≠ [] := fun z => by rw [z] at hl; cases hl
        have e1 : l = l.dropLast ++ [l.getLast hne] := (List.dropLast_concat_getLast hne).symm
        have l1 : l.dropLast.length = m := by rw [List.length_dropLast]; omega
        rw [List.range_succ, List.map_append, List.map_append, e1]
        refine Vals.append (ih _ l1 fun j v hj => hv j v ?_) ?_
        · rw [e1, List.getElem?_append_left (List.getElem?_eq_some_iff.mp hj).1]
          exact hj
        · obtain ⟨t, ht⟩ := hv m (l.getLast hne) (List.getElem?_eq_some_iff.mpr ⟨by omega, by simp [List.getLast_eq_getElem, hl]⟩)
          rw [ht]
          exact .cons ⟨t, by rw [Int.mul_one]⟩ .nil
    exact key _ _ (by rw [Array.length_toList]; exact it.1) fun j v hj => it.2 j v (by rw [← Array.getElem?_toList]; exact hj)
  refine ⟨.ref s.heap.objs.size, _, I.laid (t' := tk) (o := .lst ((rngL lo hi).map V.int)) kp (Nat.le_refl _) ⟨?_, acc'.toList, c', ev, by rw [Array.toArray_toList]; exact e⟩, rfl, q _ (I.hok.fresh (Nat.le_refl _))⟩
  unfold rngL
  rw [List.length_map, List.length_map, List.length_range]
  exact Nat.le_of_lt (Nat.lt_of_le_of_lt (show (hi - lo).toNat ≤ 2000 by omega) (by decide))
def rngD : Da → Da → Option Da
  | .int lo, .int hi => if -1000 ≤ lo ∧ lo ≤ 1000 ∧ -1000 ≤ hi ∧ hi ≤ 1000 then some (.li (rngL lo hi)) else none
  | _, _ => none
theorem gt_or3 {t u v : Mt} (ha : GT X a t) (hb : GT X b u) (hc : GT X c v) : GT X (.BoolOp .Or [a, b, c] pos) (orM t (orM u v)) := ⟨fun Γ d e => by
  unfold orM at e
  split at e
  · cases e; exact et_or3 (k' := false) (k'' := false) (ha.ok Γ _ (by assumption)) (fun z => by cases z) fun z => by cases z
  · split at e
    · cases e; exact et_or3 (k'' := false) (ha.ok Γ _ (by assumption)) (fun _ => hb.ok Γ _ (by assumption)) fun _ z => by cases z
    · exact et_cast (et_or3 (ha.ok Γ _ (by assumption)) (fun _ => hb.ok Γ _ (by assumption)) fun _ _ => hc.ok Γ d e) (by simp)
    · cases e
  · cases e⟩
theorem boot_range' : bootBuiltins "range" = some (.type "range") := by decide +kernel
theorem gn_listR {p0 p1 pr : Pos} (hc : X.calm = true) (hml : X.mg "list" = none) (hmr : X.mg "range" = none) (ha : GE X a f) (hb : GE X b g) (hgl : Gl X "list" := by rfl) (hgr : Gl X "range" := by rfl)
    (h1 : starEach [a, b] X.env = (false, eval a X.env) :: starEach [b] X.env := by rfl) (h2 : starEach [b] X.env = (false, eval b X.env) :: starEach [] X.env := by rfl) (h3 : (backTo pr (starEach [b] X.env)).any (·.1) = false := by rfl)
    (h4 : starEach [.Call (.Name "range" p1) [a, b] [] pr] X.env = (false, eval (.Call (.Name "range" p1) [a, b] [] pr) X.env) :: starEach [] X.env := by rfl) (h5 : (backTo pos (starEach [] X.env)).any (·.1) = false := by rfl) :
    GN X (.Call (.Name "list" p0) [.Call (.Name "range" p1) [a, b] [] pr] [] pos) (o2 rngD f g) := ⟨fun Γ d e' => by
  obtain ⟨x, y, e1, e2, e3⟩ := o2_ok e'
  unfold rngD at e3
  split at e3
  · split at e3
    · rename_i lo hi hz
      cases e3
      intro H0 Hs H σ S Q q
      refine wE_of (pe_callTy (call_list_rng hc) hgl hml boot_list' (pa_cons (pe_callTy cr_range2 hgr hmr boot_range' (paW X [a, b]) (by decide) (by decide) h1 h3) pa_nil h4) (by decide) (by decide) h4 h5) ?_
      refine ea_cons (ha.ok Γ _ e1) (ea_cons (hb.ok Γ _ e2) ea_nil h2) h1 H0 Hs H σ S _ fun vs Hs1 H1 t1 r1 => ?_
      obtain ⟨v, u, rfl, r2, r3⟩ := p2 r1
      have ev : v = .int _ := r2
      have eu : u = .int _ := r3
      subst ev eu
      refine ⟨_, _, rfl, fun p hp => ⟨p, _, _, rfl, upd_same, hz, fun l hl => ?_⟩⟩
      have hl1 : H1 l = none := by
        by_cases z : l = p
        · subst z; rw [upd_same] at hl; cases hl
        · rw [upd_ne z] at hl; exact hl
      have t2 := t1.trans (stp_own (o := .rng lo hi) t1.sub hp)
      exact q l _ Hs1 _ (t2.trans (stp_own t2.sub hl)) (Same.free t1.h hl1) (sub_none t1.sub hl1) upd_same rfl
    · cases e3
  · cases e3⟩
end
end K54

set_option Elab.async false
set_option linter.all false
set_option maxRecDepth 100000
set_option maxHeartbeats 40000000
/-! Printed by gen_w.py. -/
namespace K54
open PySem PySem.Spec PyProof.Rows L2
section
variable {P : Program} {w : World} {K : PySem.W.Frag} {mg : Str → Option Value} {base : Heap}
def m_law_same_right : Ms := (seqM (setM 4 (oA sbD (consA (oVar 1) (consA (oVar 2) (consA (oVar 3) (fun _ => some []))))))
    (seqM (setM 5 (oA wbD (consA (fun _ => some (.int 2)) (consA (o2 toD (oA (fun ds => F_weights_for (ds ++ [])) (consA (fun _ => some (.int 2)) (consA (fun _ => some (.int 1)) (consA (oVar 1) (fun _ => some []))))) (oVar 1)) (consA (oVar 2) (consA (oVar 3) (fun _ => some [])))))))
    (seqM (setM 6 (oA (fun ds => F_law_sum_words (ds ++ [])) (consA (oVar 1) (consA (oVar 2) (consA (oVar 3) (fun _ => some []))))))
    (seqM (ifM (orM (t2 neD (o1 reprD (oA (genD F_sum_members) (consA (oVar 4) (fun _ => some [])))) (o1 reprD (oVar 6))) (t2 neD (o1 reprD (oA (genD F_weight_members) (consA (oVar 5) (fun _ => some [])))) (o1 reprD (oVar 6)))) (seqM (retM (fun _ => some (.bl false)))
      skipM) skipM)
    (seqM (forM (srcA 7 (oA (fun ds => F_law_all_words (ds ++ [])) (consA (fun _ => some (.int 2)) (consA (o2 subD (oVar 1) (fun _ => some (.int 1))) (fun _ => some [])))))
    (seqM (setM 8 (oA (fun ds => F_law_behind (ds ++ [])) (consA (oVar 6) (consA (oVar 7) (consA (fun _ => some (.int 1)) (fun _ => some []))))))
      (seqM (setM 9 (o1 reprD (ifE (t1 fullD (oVar 8)) (o2 ixD (oVar 8) (fun _ => some (.int 0))) (fun _ => some .non))))
      (seqM (ifM (orM (t2 neD (o1 reprD (oA (fun ds => F_read_lost (ds ++ [])) (consA (oVar 4) (consA (oVar 7) (fun _ => some []))))) (oVar 9)) (t2 neD (o1 reprD (oA (fun ds => F_read_several (ds ++ [])) (consA (oVar 5) (consA (oVar 7) (consA (fun _ => some (.int 1)) (consA (fun _ => some (.int 0)) (fun _ => some []))))))) (oVar 9))) (seqM (retM (fun _ => some (.bl false)))
        skipM) skipM)
      skipM))))
    (seqM (forM (srcA 7 (oA (fun ds => F_law_all_words (ds ++ [])) (consA (fun _ => some (.int 2)) (consA (o2 addD (oVar 1) (fun _ => some (.int 1))) (fun _ => some [])))))
    (seqM (setM 8 (oA (fun ds => F_law_behind (ds ++ [])) (consA (oVar 6) (consA (oVar 7) (consA (fun _ => some (.int 0)) (fun _ => some []))))))
      (seqM (setM 9 (o1 reprD (ifE (t1 fullD (oVar 8)) (o2 ixD (oVar 8) (fun _ => some (.int 0))) (fun _ => some .non))))
      (seqM (ifM (orM (t2 neD (o1 reprD (oA (fun ds => F_read_put (ds ++ [])) (consA (oVar 4) (consA (oVar 7) (fun _ => some []))))) (oVar 9)) (t2 neD (o1 reprD (oA (fun ds => F_read_several (ds ++ [])) (consA (oVar 5) (consA (oVar 7) (consA (fun _ => some (.int 0)) (consA (fun _ => some (.int 1)) (fun _ => some []))))))) (oVar 9))) (seqM (retM (fun _ => some (.bl false)))
        skipM) skipM)
      skipM))))
    (seqM (forM (srcA 7 (oA (fun ds => F_law_all_words (ds ++ [])) (consA (fun _ => some (.int 2)) (consA (oVar 1) (fun _ => some [])))))
    (seqM (setM 10 (oA (fun ds => F_members_behind (ds ++ [])) (consA (oVar 5) (consA (oVar 7) (consA (fun _ => some (.int 1)) (consA (fun _ => some (.int 1)) (fun _ => some [])))))))
      (seqM (ifM (orM (t2 neD (o1 reprD (oVar 10)) (o1 reprD (oA (fun ds => F_near_members (ds ++ [])) (consA (oVar 4) (consA (oVar 7) (fun _ => some [])))))) (t2 neD (o1 reprD (oVar 10)) (o1 reprD (o1 tupleD (oA (fun ds => F_law_behind (ds ++ [])) (consA (oVar 6) (consA (oVar 7) (consA (fun _ => some (.int 1)) (fun _ => some []))))))))) (seqM (retM (fun _ => some (.bl false)))
        skipM) skipM)
      skipM)))
    (seqM (retM (fun _ => some (.bl true)))
    skipM))))))))
theorem gb_law_same_right (T : Tx K mg) (cd : Value) (A : Around) (outer : List Env) (s : Shared) (H : Hp) (E : XK) (hr : Room 7 (fX P w K mg base n_law_same_right "_law_same_right" (defScope s_law_same_right) (He.fAd K ("_law_same_right", none)) cd A outer s H E).A) (hgd : (fX P w K mg base n_law_same_right "_law_same_right" (defScope s_law_same_right) (He.fAd K ("_law_same_right", none)) cd A outer s H E).A.guards = some []) : GB (fX P w K mg base n_law_same_right "_law_same_right" (defScope s_law_same_right) (He.fAd K ("_law_same_right", none)) cd A outer s H E) ((defBody s_law_same_right).drop 3) m_law_same_right :=
  (gb_cons (gs_set 4 (g_mkSB T (Room.mono hr (by decide)) (ga_cons (g_var 1) (ga_cons (g_var 2) (ga_cons (g_var 3) ga_nil)))) sc_law_same_right.nd)
    (gb_cons (gs_set 5 (g_mkWB T (Room.mono hr (by decide)) (ga_cons g_int (ga_cons (g_to (g_call (Can.mono (ok_weights_for T) (by decide)) hr (ga_cons g_int (ga_cons g_int (ga_cons (g_var 1) ga_nil)))) (g_var 1)) (ga_cons (g_var 2) (ga_cons (g_var 3) ga_nil))))) sc_law_same_right.nd)
    (gb_cons (gs_set 6 (g_call (Can.mono (ok_law_sum_words T) (by decide)) hr (ga_cons (g_var 1) (ga_cons (g_var 2) (ga_cons (g_var 3) ga_nil)))) sc_law_same_right.nd)
    (gb_cons (gs_if (gt_or2 (gt_ne (g_repr hgd hr T.b_repr (g_new (gn_listG (ok_sum_members T) (Room.mono hr (by decide)) T.b_list (ga_cons (g_var 4) ga_nil)))) (g_repr hgd hr T.b_repr (g_var 6))) (gt_ne (g_repr hgd hr T.b_repr (g_new (gn_listG (ok_weight_members T) (Room.mono hr (by decide)) T.b_list (ga_cons (g_var 5) ga_nil)))) (g_repr hgd hr T.b_repr (g_var 6)))) (gb_cons (gs_ret g_bl)
      gb_nil) gb_nil)
    (gb_cons (gs_for never rfl (pi_any (peW _ _)) (pg_name sc_law_same_right.nd rfl (by first | exact .inl rfl | exact .inr rfl) (by first | exact .inl rfl | exact .inr rfl)) (gsrc_any 7 (g_call (Can.mono (ok_law_all_words T) (by decide)) hr (ga_cons g_int (ga_cons (g_sub (g_var 1) g_int) ga_nil))))
    (gb_cons (gs_set 8 (g_call (Can.mono (ok_law_behind T) (by decide)) hr (ga_cons (g_var 6) (ga_cons (g_var 7) (ga_cons g_int ga_nil)))) sc_law_same_right.nd)
      (gb_cons (gs_set 9 (g_repr hgd hr T.b_repr (g_ifExp (gt_lst (g_var 8)) (g_ix (g_var 8) g_int) g_non)) sc_law_same_right.nd)
      (gb_cons (gs_if (gt_or2 (gt_ne (g_repr hgd hr T.b_repr (g_call (Can.mono (ok_read_lost T) (by decide)) hr (ga_cons (g_var 4) (ga_cons (g_var 7) ga_nil)))) (g_var 9)) (gt_ne (g_repr hgd hr T.b_repr (g_call (Can.mono (ok_read_several T) (by decide)) hr (ga_cons (g_var 5) (ga_cons (g_var 7) (ga_cons g_int (ga_cons g_int ga_nil)))))) (g_var 9))) (gb_cons (gs_ret g_bl)
        gb_nil) gb_nil)
      gb_nil))))
    (gb_cons (gs_for never rfl (pi_any (peW _ _)) (pg_name sc_law_same_right.nd rfl (by first | exact .inl rfl | exact .inr rfl) (by first | exact .inl rfl | exact .inr rfl)) (gsrc_any 7 (g_call (Can.mono (ok_law_all_words T) (by decide)) hr (ga_cons g_int (ga_cons (g_add (g_var 1) g_int) ga_nil))))
    (gb_cons (gs_set 8 (g_call (Can.mono (ok_law_behind T) (by decide)) hr (ga_cons (g_var 6) (ga_cons (g_var 7) (ga_cons g_int ga_nil)))) sc_law_same_right.nd)
      (gb_cons (gs_set 9 (g_repr hgd hr T.b_repr (g_ifExp (gt_lst (g_var 8)) (g_ix (g_var 8) g_int) g_non)) sc_law_same_right.nd)
      (gb_cons (gs_if (gt_or2 (gt_ne (g_repr hgd hr T.b_repr (g_call (Can.mono (ok_read_put T) (by decide)) hr (ga_cons (g_var 4) (ga_cons (g_var 7) ga_nil)))) (g_var 9)) (gt_ne (g_repr hgd hr T.b_repr (g_call (Can.mono (ok_read_several T) (by decide)) hr (ga_cons (g_var 5) (ga_cons (g_var 7) (ga_cons g_int (ga_cons g_int ga_nil)))))) (g_var 9))) (gb_cons (gs_ret g_bl)
        gb_nil) gb_nil)
      gb_nil))))
    (gb_cons (gs_for never rfl (pi_any (peW _ _)) (pg_name sc_law_same_right.nd rfl (by first | exact .inl rfl | exact .inr rfl) (by first | exact .inl rfl | exact .inr rfl)) (gsrc_any 7 (g_call (Can.mono (ok_law_all_words T) (by decide)) hr (ga_cons g_int (ga_cons (g_var 1) ga_nil))))
    (gb_cons (gs_set 10 (g_call (Can.mono (ok_members_behind T) (by decide)) hr (ga_cons (g_var 5) (ga_cons (g_var 7) (ga_cons g_int (ga_cons g_int ga_nil))))) sc_law_same_right.nd)
      (gb_cons (gs_if (gt_or2 (gt_ne (g_repr hgd hr T.b_repr (g_var 10)) (g_repr hgd hr T.b_repr (g_call (Can.mono (ok_near_members T) (by decide)) hr (ga_cons (g_var 4) (ga_cons (g_var 7) ga_nil))))) (gt_ne (g_repr hgd hr T.b_repr (g_var 10)) (g_repr hgd hr T.b_repr (g_tuple T.b_tuple (g_call (Can.mono (ok_law_behind T) (by decide)) hr (ga_cons (g_var 6) (ga_cons (g_var 7) (ga_cons g_int ga_nil)))))))) (gb_cons (gs_ret g_bl)
        gb_nil) gb_nil)
      gb_nil)))
    (gb_cons (gs_ret g_bl)
    gb_nil))))))))
def m_law_clash_right : Ms := (seqM (setM 3 (o2 toL (o1 listOf (oA (fun ds => F_weights_for (ds ++ [])) (consA (fun _ => some (.int 2)) (consA (fun _ => some (.int 1)) (consA (oVar 1) (fun _ => some [])))))) (oVar 1)))
    (seqM (setM 4 (oA (fun ds => F_close_couple (ds ++ [])) (consA (fun _ => some (.int 2)) (consA (oVar 3) (consA (oVar 2) (consA (fun _ => some (.int 1)) (fun _ => some [])))))))
    (seqM (ifM (orM (t2 neD (o1 (fun d => some (.bl (isNon d))) (oVar 4)) (o2 (blOf gtD) (oVar 2) (oVar 1))) (notM (t2 eqW (oVar 3) (o2 rngD (fun _ => some (.int 1)) (o2 addD (oVar 1) (fun _ => some (.int 1))))))) (seqM (retM (fun _ => some (.bl false)))
      skipM) skipM)
    (seqM (ifM (t1 (fun d => some (!isNon d)) (oVar 4)) (seqM (pairM 5 6 (oVar 4))
      (seqM (ifM (orM (t2 neD (o2 modD (o1 intD (o2 subD (oA (fun ds => F_law_sum (ds ++ [])) (consA (oVar 5) (fun _ => some []))) (oA (fun ds => F_law_sum (ds ++ [])) (consA (oVar 6) (fun _ => some []))))) (oVar 2)) (fun _ => some (.int 0))) (orM (t2 eqW (oVar 5) (oVar 6)) (t2 ltD (oA (fun ds => F_law_common (ds ++ [])) (consA (oVar 5) (consA (oVar 6) (fun _ => some [])))) (o2 subD (oVar 1) (fun _ => some (.int 1)))))) (seqM (retM (fun _ => some (.bl false)))
        skipM) skipM)
      skipM)) skipM)
    skipM))))
theorem gb_law_clash_right (T : Tx K mg) (cd : Value) (A : Around) (outer : List Env) (s : Shared) (H : Hp) (E : XK) (hr : Room 5 (fX P w K mg base n_law_clash_right "_law_clash_right" (defScope s_law_clash_right) (He.fAd K ("_law_clash_right", none)) cd A outer s H E).A) (hgd : (fX P w K mg base n_law_clash_right "_law_clash_right" (defScope s_law_clash_right) (He.fAd K ("_law_clash_right", none)) cd A outer s H E).A.guards = some []) : GB (fX P w K mg base n_law_clash_right "_law_clash_right" (defScope s_law_clash_right) (He.fAd K ("_law_clash_right", none)) cd A outer s H E) (((defBody s_law_clash_right).drop 2).take 4) m_law_clash_right :=
  (gb_cons (gs_set 3 (g_new (gn_to (g_new (gn_list T.b_list (g_call (Can.mono (ok_weights_for T) (by decide)) hr (ga_cons g_int (ga_cons g_int (ga_cons (g_var 1) ga_nil)))))) (g_var 1))) sc_law_clash_right.nd)
    (gb_cons (gs_set 4 (g_call (Can.mono (ok_close_couple T) (by decide)) hr (ga_cons g_int (ga_cons (g_var 3) (ga_cons (g_var 2) (ga_cons g_int ga_nil))))) sc_law_clash_right.nd)
    (gb_cons (gs_if (gt_or2 (gt_ne (g_isN (g_var 4)) (g_gt (g_var 2) (g_var 1))) (gt_neW hr (g_var 3) (g_new (gn_listR rfl T.b_list T.b_range g_int (g_add (g_var 1) g_int))))) (gb_cons (gs_ret g_bl)
      gb_nil) gb_nil)
    (gb_cons (gs_if (gt_notN (g_var 4)) (gb_cons (gs_pair 5 6 (g_var 4) (pg_pair rfl sc_law_clash_right.nd rfl rfl (by first | exact .inl rfl | exact .inr rfl) (by first | exact .inl rfl | exact .inr rfl) (by first | exact .inl rfl | exact .inr rfl) (by first | exact .inl rfl | exact .inr rfl)))
      (gb_cons (gs_if (gt_or3 (gt_ne (g_mod (g_intOf T.b_int (g_sub (g_call (Can.mono (ok_law_sum T) (by decide)) hr (ga_cons (g_var 5) ga_nil)) (g_call (Can.mono (ok_law_sum T) (by decide)) hr (ga_cons (g_var 6) ga_nil)))) (g_var 2)) g_int) (gt_eqW hr (g_var 5) (g_var 6)) (gt_lt (g_call (Can.mono (ok_law_common T) (by decide)) hr (ga_cons (g_var 5) (ga_cons (g_var 6) ga_nil))) (g_sub (g_var 1) g_int))) (gb_cons (gs_ret g_bl)
        gb_nil) gb_nil)
      gb_nil)) gb_nil)
    gb_nil))))
end
end K54

set_option Elab.async false
set_option linter.all false
set_option maxRecDepth 100000
set_option maxHeartbeats 4000000
/-! J21: taking from the hand within a def; _law_same_right. -/
namespace K54
open PySem PySem.Spec PyProof.Rows L2
/-- an entry is no own object -/
def notOwn (Γ : List Ent) : Bool := Γ.all fun e => !e.isOwn
theorem st2_rebase {K : PySem.W.Frag} {H0 H0' Hs H : Hp} {σ : L2.St} {Γ : List Ent} (h : notOwn Γ = true) (S : St2 K H0 Hs H σ Γ) : St2 K H0' Hs H σ Γ := by
  refine ⟨S.sub, S.len, fun i e o h1 h2 => ?_, S.dis⟩
  have hm := List.all_eq_true.mp h e (List.mem_of_getElem? h1)
  have z := S.ent i e o h1 h2
  cases e with
  | no => trivial
  | val d => exact z
  | own d => cases hm
  | dT d => cases hm
  | dK d => cases hm
/-- the state of a def that holds the hand p in its first slot -/
structure HSt (K : PySem.W.Frag) (p : Addr) (cells : List Int) (Hs0 H00 Hs H : Hp) (σ : L2.St) (Γ : List Ent) : Prop where
  t : Stp Hs0 (mn H00 p) Hs H
  S : St2 K (mn H00 p) Hs H σ (.no :: Γ)
  p0 : σ[0]? = some (some (.ref p))
  h : ∃ x y z, HandAt K Hs H p cells x y z ∧ 0 ≤ x
section
variable {X : Cx} {a b c e o : Expr} {es : List Expr} {rest : List Stmt} {Γ : List Ent} {pos : Pos} {d : Da} {ds : List Da} {p : Addr} {cells : List Int} {Hs0 H00 Hs H : Hp} {σ : L2.St}
theorem mn_p {v : V} (h : σ[0]? = some (some v)) : σ = (some v) :: σ.tail := by
  cases σ with
  | nil => cases h
  | cons y r => cases h; rfl
/-- ordinary evaluation within -/
theorem HSt.step {Hs2 H2 : Hp} (I : HSt X.K p cells Hs0 H00 Hs H σ Γ) (t2 : Stp Hs H Hs2 H2) : HSt X.K p cells Hs0 H00 Hs2 H2 σ Γ := by
  obtain ⟨x, y, z, hat, hx⟩ := I.h
  obtain ⟨vs, e1, e2⟩ := hat.at_
  exact ⟨I.t.trans t2, I.S.step t2, I.p0, x, y, z, ⟨t2.sub, t2.own p _ e1 rfl hat.no, ⟨vs, t2.h _ _ e1, e2.ex t2.s⟩, hat.cs, hat.y0⟩, hx⟩
theorem wE_take {p0 px pc : Pos} {many : Int} (T : Tx X.K X.mg) (hr : Room 3 X.A) (I : HSt X.K p cells Hs0 H00 Hs H σ Γ) (he : EV X e (.no :: Γ) (.int many)) (hm1 : 1 ≤ many) (hm2 : many < 1000000) (hno : notOwn Γ = true) {Q : VK}
    (k : ∀ i Hs' H', 0 ≤ i → i < many → Same Hs Hs' → (∀ b o, b ≠ p → H b = some o → H' b = some o) → (∀ b o, b ≠ p → H b = some o → isTupO o = false → Hs b = none → Hs' b = none) → HSt X.K p cells Hs0 H00 Hs' H' σ Γ → Q (.int i) H') (hN : X.N[0]? = some ("_law_hand_here" : Str) := by rfl)
    (hv : Vis X.env.scope "_law_hand_here" := by first | exact Or.inl rfl | exact Or.inr (Or.inl rfl) | exact Or.inr (Or.inr rfl)) (hg : Gl X "_law_take" := by rfl)
    (h1 : starEach [.Name "_law_hand_here" px, e] X.env = (false, eval (.Name "_law_hand_here" px) X.env) :: starEach [e] X.env := by rfl) (h2 : starEach [e] X.env = (false, eval e X.env) :: starEach [] X.env := by rfl) (h3 : (backTo pc (starEach [e] X.env)).any (·.1) = false := by rfl) :
    wE X (.Call (.Name "_law_take" p0) [.Name "_law_hand_here" px, e] [] pc) σ H Q := by
  obtain ⟨fd, F1, b1⟩ := ok_law_take (P := X.prog) (w := X.w) (base := X.base) T
  obtain ⟨_, FD⟩ := T.f_law_take
  refine wE_of (pe_call F1 hr hg T.g__law_take FD.kp b1 .nil pass0 (pa_cons (pe_var hN hv (by decide) (by decide)) (pa_cons (peW X e) pa_nil h2) h1) (by decide) h1 h3) ?_
  refine ⟨_, I.p0, he (mn H00 p) Hs H σ I.S _ fun v Hs1 H1 t1 r1 => ?_⟩
  have ev : v = .int many := r1
  subst ev
  have I1 := I.step t1
  obtain ⟨x, y, z, hat, hx⟩ := I1.h
  refine ⟨p, many, Hs1, cells, x, y, z, rfl, hat, hx, hm1, hm2, fun i Hs' H' x' y' z' hi1 hi2 t2 hat' hx' => ?_⟩
  have keep : ∀ b o, b ≠ p → H1 b = some o → H' b = some o := fun b o hb q => t2.h b o (by rw [mn_ne hb]; exact q)
  have own : ∀ b o, b ≠ p → H1 b = some o → isTupO o = false → Hs1 b = none → Hs' b = none := fun b o hb q z1 z2 => t2.own b o (by rw [mn_ne hb]; exact q) z1 z2
  refine k i Hs' H' hi1 hi2 (t1.s.trans t2.s) (fun b o hb q => keep b o hb (t1.h b o q)) (fun b o hb q z1 z2 => own b o hb (t1.h b o q) z1 (t1.own b o q z1 z2)) ⟨⟨I1.t.s.trans t2.s, fun b o q => ?_, t2.sub, fun b o q z1 z2 => ?_⟩, ⟨t2.sub, I1.S.len, fun j e' o' q1 q2 => ?_, I1.S.dis⟩, I1.p0, x', y', z', hat', hx'⟩
  · have hb : b ≠ p := fun z => by rw [z, mn_self] at q; cases q
    exact keep b o hb (I1.t.h b o q)
  · have hb : b ≠ p := fun z => by rw [z, mn_self] at q; cases q
    exact own b o hb (I1.t.h b o q) z1 (I1.t.own b o q z1 z2)
  · have zz := I1.S.ent j e' o' q1 q2
    cases j with
    | zero => cases q1; trivial
    | succ j =>
      have hm := List.all_eq_true.mp hno e' (List.mem_of_getElem? (show Γ[j]? = some e' from q1))
      cases e' with
      | no => trivial
      | val d => obtain ⟨v, a1, a2⟩ := zz; exact ⟨v, a1, a2.ex t2.s⟩
      | own d => cases hm
      | dT d => cases hm
      | dK d => cases hm
/-- a slot is given a value -/
theorem HSt.set {v : V} (I : HSt X.K p cells Hs0 H00 Hs H σ Γ) (i : Nat) (r : DR X.K Hs v d) : HSt X.K p cells Hs0 H00 Hs H (σ.set (i + 1) (some v)) (Γ.set i (.val d)) :=
  ⟨I.t, I.S.set (i + 1) r, by rw [List.getElem?_set_ne (by omega)]; exact I.p0, I.h⟩
theorem wA_cons {es : List Expr} {Q : List V → Hp → Prop} (h : wE X e σ H fun x H1 => wA X es σ H1 fun xs H2 => Q (x :: xs) H2) (hs : starEach (e :: es) X.env = (false, eval e X.env) :: starEach es X.env := by rfl) : wA X (e :: es) σ H Q := wA_of (pa_cons (peW X e) (paW X es) hs) h
theorem wA_nil {Q : List V → Hp → Prop} (h : Q [] H) : wA X [] σ H Q := wA_of pa_nil h
theorem wB_setQ {D : Ends} {x : Str} {p' : Pos} (i : Nat) (h : wE X e σ H fun v H1 => wB X rest D (σ.set i (some v)) H1) (hN : X.N.Nodup) (hi : X.N[i]? = some x := by rfl) (hx : Loc X.env.scope x := by first | exact Or.inl rfl | exact Or.inr rfl)
    (hs : swapsWith e (some (.Name x p')) pos.line X.env = pure false := by rfl) (hf : X.fn x = true ∨ X.env.scope.names.lookup x = some .local := by first | exact .inl rfl | exact .inr rfl) : wB X (.Assign [.Name x p'] e pos :: rest) D σ H := wB_cons (wS_of (ps_set hN hi hx (peW X e) hs hf) h)
theorem wE_add {Q : VK} (h : wE X a σ H fun x H1 => wE X b σ H1 fun y H2 => ∃ i j, x = .int i ∧ y = .int j ∧ Q (.int (i + j)) H2) : wE X (.BinOp a .Add b pos) σ H Q := wE_of (pe_op op_add (peW X a) (peW X b)) h
theorem wE_ixL {Q : VK} (h : wE X a σ H fun x H1 => wE X b σ H1 fun y H2 => ∃ p vs i v, x = .ref p ∧ y = .int i ∧ SqL X.K H2 p vs ∧ atI vs i = some v ∧ Q v H2) (hp : PlainIx b := by exact fun _ _ => rfl) : wE X (.Subscript a b pos) σ H Q := wE_of (pe_ix ix_list (peW X a) (peW X b) hp) h
theorem wE_lst {Q : VK} (h : wA X es σ H fun vs H1 => vs.length ≤ sizeLine ∧ ∀ p, H1 p = none → Q (.ref p) (upd H1 p (.lst vs))) : wE X (.List es pos) σ H Q := wE_of (pe_lst (paW X es)) h
/-- an ordinary value within -/
theorem wE_ev (he : EV X e (.no :: Γ) d) (I : HSt X.K p cells Hs0 H00 Hs H σ Γ) {Q : VK} (k : ∀ v Hs' H', Stp Hs H Hs' H' → HSt X.K p cells Hs0 H00 Hs' H' σ Γ → DR X.K Hs' v d → Q v H') : wE X e σ H Q :=
  he (mn H00 p) Hs H σ I.S _ fun v Hs1 H1 t1 r1 => k v Hs1 H1 t1 (I.step t1) r1
end
def Γs (n m r : Int) : List Ent := [.no, .val (.int n), .val (.int m), .val (.int r), .no, .no, .no, .no, .no, .no, .no]
theorem pick8 {i : Int} (h1 : 0 ≤ i) (h2 : i < 8) : ∃ n, ([3, 4, 2, 4, 5, 3, 1, 4] : List Int)[i.toNat]? = some n ∧ 1 ≤ n ∧ n ≤ 5 := by
  have : i = 0 ∨ i = 1 ∨ i = 2 ∨ i = 3 ∨ i = 4 ∨ i = 5 ∨ i = 6 ∨ i = 7 := by omega
  rcases this with z | z | z | z | z | z | z | z <;> subst z <;> exact ⟨_, rfl, by decide, by decide⟩
theorem pick6 {i j1 j2 n : Int} (hn : 1 ≤ n) (a1 : 0 ≤ j1) (a2 : j1 < 5) (a3 : 0 ≤ j2) (a4 : j2 < 3 * n) (h1 : 0 ≤ i) (h2 : i < 6) : ∃ q, ([0, 0, 0, 1, j1, j2] : List Int)[i.toNat]? = some q ∧ 0 ≤ q ∧ (q ≤ 4 ∨ q ≤ 3 * n - 1) := by
  have : i = 0 ∨ i = 1 ∨ i = 2 ∨ i = 3 ∨ i = 4 ∨ i = 5 := by omega
  rcases this with z | z | z | z | z | z <;> subst z
  · exact ⟨_, rfl, by decide, .inl (by decide)⟩
  · exact ⟨_, rfl, by decide, .inl (by decide)⟩
  · exact ⟨_, rfl, by decide, .inl (by decide)⟩
  · exact ⟨_, rfl, by decide, .inl (by decide)⟩
  · exact ⟨j1, rfl, a1, .inl (by omega)⟩
  · exact ⟨j2, rfl, a3, .inr (by omega)⟩
def PSame : Prop := ∀ n m r : Int, 1 ≤ n → n ≤ 5 → n + 1 ≤ m → (m ≤ n + 5 ∨ m ≤ 4 * n) → 0 ≤ r → r < m → m_law_same_right (Γs n m r) = some (.rt (.bl true))
def spSame (K : PySem.W.Frag) : Sp := fun vs H Q _ => ∃ p Hs cells x y z, vs = [.ref p] ∧ HandAt K Hs H p cells x y z ∧ 0 ≤ x ∧ ∀ Hs' H' x' y' z', HandAt K Hs' H' p cells x' y' z' → 0 ≤ x' → Q (.bl true) H'
section
variable {P : Program} {w : World} {K : PySem.W.Frag} {mg : Str → Option Value} {base : Heap}
theorem ok_law_same_right (PL : PSame) (T : Tx K mg) : ∃ fd, FnG P w K mg base 8 (He.fAd K ("_law_same_right", none)) fd ["_law_hand_here"] (spSame K) ∧ Binds K fd ["_law_hand_here"] [] := by
  obtain ⟨fd, F⟩ := T.f_law_same_right
  refine ⟨fd, fnG_of F sc_law_same_right (fun vs H Q E ⟨_, _, _, _, _, _, e, _⟩ => by rw [e]; rfl) fun cd A outer s H vs Q E hr hgd ⟨p, Hs, cells, x, y, z, e, hat, hx, k⟩ => ?_, b_law_same_right F⟩
  subst e
  have hr3 : Room 3 (fX P w K mg base n_law_same_right "_law_same_right" (defScope s_law_same_right) (He.fAd K ("_law_same_right", none)) cd A outer s H E).A := hr.mono (by decide)
  obtain ⟨vs0, hp, hl⟩ := hat.at_
  obtain ⟨t0, S0⟩ := st2_own (N := n_law_same_right) (us := []) (ds := []) hat.sub hat.no hp hl .nil
  have I0 : HSt K p cells Hs H Hs H (L2.start n_law_same_right [.ref p]) [.no, .no, .no, .no, .no, .no, .no, .no, .no, .no] := ⟨t0, S0.weak (Weak.refl _), rfl, x, y, z, hat, hx⟩
  -- _law_n
  refine wB_setQ 1 (wE_ixL ?_) sc_law_same_right.nd
  refine wE_ev (ev_of_el' (el_lstI (w := [3, 4, 2, 4, 5, 3, 1, 4]) (ea_cons ev_int (ea_cons ev_int (ea_cons ev_int (ea_cons ev_int (ea_cons ev_int (ea_cons ev_int (ea_cons ev_int (ea_cons ev_int ea_nil)))))))))) I0 fun v Hs1 H1 t1 I1 r1 => ?_
  refine wE_take T hr3 I1 ev_int (by decide) (by decide) rfl fun i Hs2 H2 hi1 hi2 s2 _ _ I2 => ?_
  obtain ⟨pl, vs, ev, ql, er⟩ := r1.ex s2
  obtain ⟨n, hn, hn1, hn2⟩ := pick8 hi1 hi2
  have er' : vs = _ := er
  subst ev er'
  refine ⟨pl, _, i, .int n, rfl, rfl, sqL_ex I2.t.sub ql, atI_of hi1 (by rw [List.getElem?_map, hn]; rfl), ?_⟩
  have I3 := I2.set (d := .int n) 0 rfl
  generalize (L2.start n_law_same_right [.ref p]).set (0 + 1) (some (.int n)) = σ3 at I3
  -- _law_modulus
  refine wB_setQ 2 (wE_add ?_) sc_law_same_right.nd
  refine wE_ev (ev_add (ev_var 1 rfl) ev_int) I3 fun v Hs4 H4 t4 I4 r4 => ?_
  have e4 : v = .int (n + 1) := r4
  subst e4
  refine wE_ixL (wE_lst ?_)
  refine wA_cons (wE_ev ev_int I4 fun a1 Hs5 H5 t5 I5 q1 => wA_cons (wE_ev ev_int I5 fun a2 Hs6 H6 t6 I6 q2 => wA_cons (wE_ev ev_int I6 fun a3 Hs7 H7 t7 I7 q3 => wA_cons (wE_ev ev_int I7 fun a4 Hs8 H8 t8 I8 q4 => ?_))))
  refine wA_cons (wE_take T hr3 I8 ev_int (by decide) (by decide) rfl fun j1 Hs9 H9 g1 g2 _ _ _ I9 => ?_)
  refine wA_cons (wE_take T hr3 I9 (ev_mul ev_int (ev_var 1 rfl) (.inr ⟨by omega, by omega⟩)) (by omega) (by omega) rfl fun j2 Hs10 H10 g3 g4 _ _ _ I10 => wA_nil ⟨by show 6 ≤ sizeLine; decide, fun pl hpl => ?_⟩)
  have I11 := I10.step (stp_own (o := .lst [a1, a2, a3, a4, .int j1, .int j2]) I10.t.sub hpl)
  have npl : pl ≠ p := fun z => by
    obtain ⟨x', y', z', hat', _⟩ := I10.h
    obtain ⟨ws, e1, _⟩ := hat'.at_
    rw [z, e1] at hpl
    cases hpl
  refine wE_take T hr3 I11 ev_int (by decide) (by decide) rfl fun i6 Hs12 H12 g5 g6 s12 k12 _ I12 => ?_
  obtain ⟨q, hq, hq0, hq1⟩ := pick6 (n := n) (by omega) g1 g2 g3 g4 g5 g6
  have ea : [a1, a2, a3, a4, V.int j1, V.int j2] = ([0, 0, 0, 1, j1, j2] : List Int).map V.int := by rw [show a1 = _ from q1, show a2 = _ from q2, show a3 = _ from q3, show a4 = _ from q4]; rfl
  refine ⟨pl, _, i6, .int q, rfl, rfl, .inl (.inl (k12 pl _ npl upd_same)), atI_of g5 (by rw [ea, List.getElem?_map, hq]; rfl), n + 1, q, rfl, rfl, ?_⟩
  have I13 := I12.set (d := .int (n + 1 + q)) 1 rfl
  generalize hm : n + 1 + q = m at I13
  generalize σ3.set (1 + 1) (some (.int m)) = σ4 at I13
  -- _law_rest
  refine wB_setQ 3 ?_ sc_law_same_right.nd
  refine wE_take T hr3 I13 (ev_var 2 rfl) (by omega) (by omega) rfl fun r Hs14 H14 g7 g8 _ _ _ I14 => ?_
  have I15 := I14.set (d := .int r) 2 rfl
  -- the rest
  have B := (gb_law_same_right T cd A outer s H E hr hgd).ok (Γs n m r) (.rt (.bl true)) (PL n m r hn1 hn2 (by omega) (by omega) g7 g8) { nx := fun _ => False, rt := fun d => d = .bl true } rfl Hs14 H14 Hs14 H14 _ (Stp.refl I15.t.sub) (st2_rebase rfl I15.S)
  refine wB_le (D := ends K Hs14 H14 { nx := fun _ => False, rt := fun d => d = .bl true }) ⟨fun _ _ ⟨_, _, _, _, z⟩ => z.elim, fun v H' ⟨Hs', d, t', rd, ed⟩ => ?_, fun _ _ ⟨_, _, _, _, z⟩ => z.elim, fun _ _ ⟨_, _, _, _, z⟩ => z.elim⟩ B
  have ed' : d = .bl true := ed
  subst ed'
  rw [show v = .bl true from rd]
  obtain ⟨x', y', z', hat', hx'⟩ := (I15.step t').h
  exact k Hs' H' x' y' z' hat' hx'
end
end K54

set_option Elab.async false
set_option linter.all false
set_option maxRecDepth 100000
set_option maxHeartbeats 4000000
/-! J22: _law_clash_right, law. -/
namespace K54
open PySem PySem.Spec PyProof.Rows L2
section
variable {X : Cx} {a b c e o : Expr} {es : List Expr} {A rest : List Stmt} {Γ : List Ent} {pos : Pos} {d : Da} {ds : List Da} {p : Addr} {cells : List Int} {Hs0 H00 Hs H : Hp} {σ : L2.St} {x y : Str}
theorem wB_ifF {D : Ends} (hc : ET X c (.no :: Γ) false) (I : HSt X.K p cells Hs0 H00 Hs H σ Γ) (k : ∀ Hs' H', HSt X.K p cells Hs0 H00 Hs' H' σ Γ → wB X rest D σ H') : wB X (.If c A [] pos :: rest) D σ H :=
  wB_cons (wS_of (ps_if (ptW X c) (pssW X A) (pssW X [])) (hc (mn H00 p) Hs H σ I.S _ fun Hs2 H2 t2 => wB_of pss_nil (k Hs2 H2 (I.step t2))))
theorem wB_ifT {D : Ends} (hc : ET X c (.no :: Γ) true) (I : HSt X.K p cells Hs0 H00 Hs H σ Γ) (k : ∀ Hs' H', HSt X.K p cells Hs0 H00 Hs' H' σ Γ → wB X A { D with nx := wB X rest D } σ H') : wB X (.If c A [] pos :: rest) D σ H :=
  wB_cons (wS_of (ps_if (ptW X c) (pssW X A) (pssW X [])) (hc (mn H00 p) Hs H σ I.S _ fun Hs2 H2 t2 => k Hs2 H2 (I.step t2)))
theorem wB_pairH {D : Ends} {p1 p2 p3 : Pos} {kk : Nat} {w u : List Int} (i j : Nat) (he : EV X e (.no :: Γ) (.tw [w, u])) (I : HSt X.K p cells Hs0 H00 Hs H σ Γ) (hg : PG X (.Tuple [.Name x p1, .Name y p2] kk p3) (gPair X.K (i + 1) (j + 1)))
    (k : ∀ σ' Hs' H', HSt X.K p cells Hs0 H00 Hs' H' σ' ((Γ.set i (.val (.wd w))).set j (.val (.wd u))) → wB X rest D σ' H') (hs : swapsWithSole [.Tuple [.Name x p1, .Name y p2] kk p3] e pos.line X.env = pure false := by rfl)
    (hw : swappedStores [.Tuple [.Name x p1, .Name y p2] kk p3] e X.env = pure none := by rfl) (h1 : (assignEach [.Tuple [.Name x p1, .Name y p2] kk p3] X.env).map (·.2) = [assign (.Tuple [.Name x p1, .Name y p2] kk p3) X.env] := by rfl) :
    wB X (.Assign [.Tuple [.Name x p1, .Name y p2] kk p3] e pos :: rest) D σ H :=
  wB_cons (wS_of (ps_asg (peW X e) hg hs hw h1) (he (mn H00 p) Hs H σ I.S _ fun z Hs2 H2 t2 ⟨T, vs, ez, hT, pr⟩ => by
      subst ez
      cases pr with
      | cons r1 pr =>
        cases pr with
        | cons r2 pr =>
          cases pr
          have I2 := ((I.step t2).set (d := .wd w) i r1).set (d := .wd u) j r2
          exact pair_store (sqT_ex t2.sub hT) (k _ Hs2 H2 I2)))
theorem wE_eqB {Q : VK} (h : wE X a σ H fun x H1 => wE X b σ H1 fun y H2 => ∃ k k' : Bool, x = .bl k ∧ y = .bl k' ∧ Q (.bl (k == k')) H2) : wE X (.Compare a [.Eq] [b] pos) σ H Q :=
  wE_of (pe_cmpR op_eq (peW X a) (peW X b) (nomark _)) (wE_mono h fun x H1 h1 => wE_mono h1 fun y H2 ⟨k, k', e1, e2, q⟩ => by
    subst e1 e2
    refine ⟨rfl, ?_⟩
    have e : decide (V.bl k = V.bl k') = (k == k') := by cases k <;> cases k' <;> decide
    rw [e]
    exact q)
theorem wE_isN {Q : VK} {j : Nat} {p2 : Pos} (h : wE X a σ H fun x H1 => Q (.bl (decide (x = .non))) H1) : wE X (.Compare a [.Is] [.Constant .none j p2] pos) σ H Q :=
  wE_of (pe_cmpR op_isN (peW X a) pe_non (nomark _)) (wE_mono h fun x H1 q => ⟨rfl, q⟩)
theorem wE_callF {F : List Da → Option Da} {Q : VK} {p0 : Pos} {k : Nat} (C : CanF X.prog X.w X.K X.mg X.base k x [] F) (hr : Room k X.A) (h : wA X (e :: es) σ H fun vs H2 => ∃ Hs2 ds d, Same Hs2 H2 ∧ Paired (DR X.K Hs2) vs ds ∧ F ds = some d ∧ ∀ v Hs3 H3, Stp Hs2 H2 Hs3 H3 → DR X.K Hs3 v d → Q v H3) (hg : Gl X x := by rfl)
    (hdb : (x == ("__debug__" : Str)) = false := by decide) (he : starEach (e :: es) X.env = (false, eval e X.env) :: starEach es X.env := by rfl) (hpl : (backTo pos (starEach es X.env)).any (·.1) = false := by rfl) : wE X (.Call (.Name x p0) (e :: es) [] pos) σ H Q := by
  obtain ⟨f, fd, ps, dvs, us, h1, h2, h3, h4, h5, h6⟩ := C.ex
  have h0 := h6 (fun _ => none)
  cases h0
  refine wE_of (pe_call h5 hr hg h1 h2 h4 h3 pass0 (paW X (e :: es)) hdb he hpl) ?_
  refine fun pos pins s I => thn (h pos pins s I) fun us' s' ⟨vs, H', I', r, Hs2, ds, d, q1, q2, q3, q4⟩ => ⟨vs, H', I', r, ?_⟩
  show spR X.K _ (vs ++ []) H' Q _
  rw [List.append_nil]
  exact ⟨Hs2, ds, d, q1, q2, q3, q4⟩
theorem wB_retQ {D : Ends} (h : wE X e σ H fun v H1 => D.rt v H1) : wB X (.Return (some e) pos :: rest) D σ H := wB_cons (wS_of (ps_ret (peW X e)) h)
end
theorem t2_of {h : Da → Da → Option Bool} {f g : Mx} {Γ : List Ent} {a b : Da} {r : Bool} (h1 : f Γ = some a) (h2 : g Γ = some b) (h3 : h a b = some r) : t2 h f g Γ = some r := by
  unfold t2
  rw [h1, h2]
  exact h3
theorem notM_of {t : Mt} {Γ : List Ent} {k : Bool} (h : t Γ = some k) : notM t Γ = some (!k) := by
  unfold notM
  rw [h]
def PClash : Prop := ∀ n m : Int, 1 ≤ n → n ≤ 5 → 1 ≤ m → m ≤ 2 * n + 2 → ∃ wf c, F_weights_for [.int 2, .int 1, .int n] = some (.wd wf) ∧ eqW (.li (wf.take n.toNat)) (.li (rngL 1 (n + 1))) = some true ∧ F_close_couple [.int 2, .li (wf.take n.toNat), .int m, .int 1] = some c ∧ isNon c = decide (n < m) ∧
  (c = .non ∨ ∃ a b sa sb k, c = .tw [a, b] ∧ F_law_sum [.wd a] = some (.int sa) ∧ F_law_sum [.wd b] = some (.int sb) ∧ (sa - sb) % m = 0 ∧ eqW (.wd a) (.wd b) = some false ∧ F_law_common [.wd a, .wd b] = some (.int k) ∧ n - 1 ≤ k) ∧
  ∀ r, 0 ≤ r → r < m → ∃ d, F_modulus_clash [.int n, .int m, .int r] = some d ∧ isNon d = isNon c
section
variable {P : Program} {w : World} {K : PySem.W.Frag} {mg : Str → Option Value} {base : Heap}
theorem ok_law_clash_right (PL : PClash) (T : Tx K mg) : ∃ fd, FnG P w K mg base 8 (He.fAd K ("_law_clash_right", none)) fd ["_law_hand_here"] (spSame K) ∧ Binds K fd ["_law_hand_here"] [] := by
  obtain ⟨fd, F⟩ := T.f_law_clash_right
  refine ⟨fd, fnG_of F sc_law_clash_right (fun vs H Q E ⟨_, _, _, _, _, _, e, _⟩ => by rw [e]; rfl) fun cd A outer s H vs Q E hr hgd ⟨p, Hs, cells, x, y, z, e, hat, hx, k⟩ => ?_, b_law_clash_right F⟩
  subst e
  have hr3 : Room 3 (fX P w K mg base n_law_clash_right "_law_clash_right" (defScope s_law_clash_right) (He.fAd K ("_law_clash_right", none)) cd A outer s H E).A := hr.mono (by decide)
  obtain ⟨vs0, hp, hl⟩ := hat.at_
  obtain ⟨t0, S0⟩ := st2_own (N := n_law_clash_right) (us := []) (ds := []) hat.sub hat.no hp hl .nil
  have I0 : HSt K p cells Hs H Hs H (L2.start n_law_clash_right [.ref p]) [.no, .no, .no, .no, .no, .no] := ⟨t0, S0.weak (Weak.refl _), rfl, x, y, z, hat, hx⟩
  generalize L2.start n_law_clash_right [.ref p] = σ0 at I0
  refine wB_setQ 1 (wE_add (wE_ev ev_int I0 fun v1 Hs1 H1 t1 I1 r1 => wE_take T hr3 I1 ev_int (by decide) (by decide) rfl fun i1 Hs2 H2 a1 a2 _ _ _ I2 => ⟨1, i1, r1, rfl, ?_⟩)) sc_law_clash_right.nd
  have I3 := I2.set (d := .int (1 + i1)) 0 rfl
  generalize hn : 1 + i1 = n at I3
  generalize σ0.set (0 + 1) (some (.int n)) = σ1 at I3
  refine wB_setQ 2 (wE_add (wE_ev ev_int I3 fun v1 Hs1 H1 t1 I1 r1 => wE_take T hr3 I1 (ev_add (ev_mul ev_int (ev_var 1 rfl) (.inr ⟨by omega, by omega⟩)) ev_int) (by omega) (by omega) rfl fun i2 Hs2 H2 b1 b2 _ _ _ I2 => ⟨1, i2, r1, rfl, ?_⟩)) sc_law_clash_right.nd
  have I4 := I2.set (d := .int (1 + i2)) 1 rfl
  generalize hm : 1 + i2 = m at I4
  generalize σ1.set (1 + 1) (some (.int m)) = σ2 at I4
  obtain ⟨wf, cc, w1, w2, w3, w4, w5, w6⟩ := PL n m (by omega) (by omega) (by omega) (by omega)
  -- the last statement
  have fin : ∀ {σ : L2.St} {Hs' H' : Hp} (e2 e4 e5 : Ent), notOwn [e2, e4, e5] = true → HSt K p cells Hs H Hs' H' σ [.val (.int n), .val (.int m), e2, .val cc, e4, e5] →
      wB (fX P w K mg base n_law_clash_right "_law_clash_right" (defScope s_law_clash_right) (He.fAd K ("_law_clash_right", none)) cd A outer s H E) ((defBody s_law_clash_right).drop 6) { nx := fun _ H' => Q .non H', rt := Q } σ H' := by
    intro σ Hs' H' e2 e4 e5 hno I
    have hno' : notOwn [.val (.int n), .val (.int m), e2, .val cc, e4, e5] = true := by
      unfold notOwn at hno ⊢
      simp only [List.all_cons, List.all_nil, Bool.and_true, Bool.and_eq_true] at hno ⊢
      exact ⟨rfl, rfl, hno.1, rfl, hno.2⟩
    refine wB_retQ (wE_eqB (wE_isN (wE_callF (Can.mono (ok_modulus_clash T) (by decide)) hr (wA_cons (wE_ev (ev_var 1 rfl) I fun v1 Hs1 H1 t1 I1 r1 => wA_cons (wE_ev (ev_var 2 rfl) I1 fun v2 Hs2 H2 t2 I2 r2 => wA_cons (wE_take T hr3 I2 (ev_var 2 rfl) (by omega) (by omega) hno' fun r Hs3 H3 c1 c2 _ _ _ I3 => ?_)))))))
    obtain ⟨d, hd1, hd2⟩ := w6 r c1 c2
    refine wA_nil ⟨Hs3, [.int n, .int m, .int r], d, I3.t.sub, .cons (show v1 = _ from r1) (.cons (show v2 = _ from r2) (.cons rfl .nil)), hd1, fun v Hs4 H4 t4 r4 => ?_⟩
    refine wE_ev (ev_isN (ev_var 4 rfl)) (I3.step t4) fun y Hs5 H5 t5 I5 r5 => ⟨_, isNon cc, rfl, r5, ?_⟩
    have e : (decide (v = .non) == isNon cc) = true := by rw [isNon_of r4, hd2]; cases isNon cc <;> rfl
    rw [e]
    obtain ⟨x', y', z', hat', hx'⟩ := I5.h
    exact k Hs5 H5 x' y' z' hat' hx'
  -- _law_weights, _law_close
  refine wB_setQ 3 (wE_ev (ev_of_el' (el_to (i := n) (ev_of_el' (el_list (d := .wd wf) (d' := .li wf) T.b_list (ev_call (R := fun ds r => F_weights_for ds = some r) (Can.mono (ok_weights_for T) (by decide)) hr (ea_cons ev_int (ea_cons ev_int (ea_cons (ev_var 1 rfl) ea_nil))) w1) rfl)) (ev_var 1 rfl) (by omega))) I4 fun v Hs5 H5 t5 I5 r5 => ?_) sc_law_clash_right.nd
  have I6 := I5.set 2 r5
  generalize σ2.set (2 + 1) (some v) = σ3 at I6
  refine wB_setQ 4 (wE_ev (ev_call (R := fun ds r => F_close_couple ds = some r) (Can.mono (ok_close_couple T) (by decide)) hr (ea_cons ev_int (ea_cons (ev_var 3 rfl) (ea_cons (ev_var 2 rfl) (ea_cons ev_int ea_nil)))) w3) I6 fun v Hs7 H7 t7 I7 r7 => ?_) sc_law_clash_right.nd
  have I8 := I7.set 3 r7
  generalize σ3.set (3 + 1) (some v) = σ4 at I8
  refine wB_ifF (et_cast (et_or2 (et_neB (ev_isN (ev_var 4 rfl)) (ev_gt (ev_var 2 rfl) (ev_var 1 rfl))) (fun _ => (gt_neW hr (g_var 3) (g_new (gn_listR rfl T.b_list T.b_range g_int (g_add (g_var 1) g_int)))).ok _ false (notM_of (t2_of rfl (show rngD (.int 1) (.int (n + 1)) = some (.li (rngL 1 (n + 1))) from if_pos (by omega)) w2)))) (by rw [w4]; cases decide (n < m) <;> rfl)) I8 fun Hs9 H9 I9 => ?_
  rcases w5 with z | ⟨u1, u2, sa, sb, kk, z, z1, z2, z3, z4, z5, z6⟩
  · subst z
    exact wB_ifF (et_cast (et_notN (ev_var 4 rfl)) rfl) I9 fun Hs10 H10 I10 => fin _ _ _ rfl I10
  · subst z
    refine wB_ifT (et_cast (et_notN (ev_var 4 rfl)) rfl) I9 fun Hs10 H10 I10 => ?_
    refine wB_pairH 4 5 (ev_var 4 rfl) I10 (pg_pair rfl sc_law_clash_right.nd rfl rfl (.inl rfl) (.inl rfl) (.inr rfl) (.inr rfl)) fun σ' Hs11 H11 I11 => ?_
    refine wB_ifF (et_cast (et_or3 (et_neI (ev_mod (ev_intOf T.b_int (ev_sub (ev_call (R := fun ds r => F_law_sum ds = some r) (Can.mono (ok_law_sum T) (by decide)) hr (ea_cons (ev_var 5 rfl) ea_nil) z1) (ev_call (R := fun ds r => F_law_sum ds = some r) (Can.mono (ok_law_sum T) (by decide)) hr (ea_cons (ev_var 6 rfl) ea_nil) z2))) (ev_var 2 rfl) (by omega)) ev_int)
      (fun _ => (gt_eqW hr (g_var 5) (g_var 6)).ok _ false (t2_of rfl rfl z4)) (fun _ _ => et_lt (ev_call (R := fun ds r => F_law_common ds = some r) (Can.mono (ok_law_common T) (by decide)) hr (ea_cons (ev_var 5 rfl) (ea_cons (ev_var 6 rfl) ea_nil)) z5) (ev_sub (ev_var 1 rfl) ev_int))) ?_) I11 fun Hs12 H12 I12 => wB_of pss_nil (fin _ _ _ rfl I12)
    rw [decide_eq_false (show ¬ (sa - sb) % m ≠ 0 from fun q => q z3), decide_eq_false (show ¬ kk < n - 1 by omega)]
    rfl
end
end K54

set_option Elab.async false
set_option linter.all false
set_option maxRecDepth 100000
set_option maxHeartbeats 40000000
/-! P1: the plain law of the clash. -/
namespace K54
def okC (n m : Int) : Bool := match F_weights_for [.int 2, .int 1, .int n] with
  | some (.wd wf) => (match eqW (.li (wf.take n.toNat)) (.li (rngL 1 (n + 1))) with
    | some true => (match F_close_couple [.int 2, .li (wf.take n.toNat), .int m, .int 1] with
      | some c => (isNon c == decide (n < m)) && ((match c with
          | .non => true
          | .tw [a, b] => (match F_law_sum [.wd a], F_law_sum [.wd b], eqW (.wd a) (.wd b), F_law_common [.wd a, .wd b] with
            | some (.int sa), some (.int sb), some false, some (.int k) => decide ((sa - sb) % m = 0) && decide (n - 1 ≤ k)
            | _, _, _, _ => false)
          | _ => false) && (List.range m.toNat).all fun r => match F_modulus_clash [.int n, .int m, .int (r : Int)] with
            | some d => isNon d == isNon c
            | none => false)
      | none => false)
    | _ => false)
  | _ => false
theorem okC_1 : ([1, 2, 3, 4] : List Int).all (okC 1) = true := by decide +kernel
theorem okC_2 : ([1, 2, 3, 4, 5, 6] : List Int).all (okC 2) = true := by decide +kernel
theorem okC_3 : ([1, 2, 3, 4, 5, 6, 7, 8] : List Int).all (okC 3) = true := by decide +kernel
end K54

set_option Elab.async false
set_option linter.all false
set_option maxRecDepth 100000
set_option maxHeartbeats 40000000
namespace K54
theorem okC_4_0 : ([1, 2, 3, 4, 5, 6] : List Int).all (okC 4) = true := by decide +kernel
theorem okC_4_1 : ([7, 8, 9, 10] : List Int).all (okC 4) = true := by decide +kernel
theorem okC_4 : ([1, 2, 3, 4, 5, 6, 7, 8, 9, 10] : List Int).all (okC 4) = true := by
  show (([1, 2, 3, 4, 5, 6] : List Int) ++ (([7, 8, 9, 10] : List Int))).all (okC 4) = true
  rw [List.all_append, okC_4_0, okC_4_1]
  rfl
theorem okC_5_0 : ([1, 2, 3, 4, 5] : List Int).all (okC 5) = true := by decide +kernel
theorem okC_5_1 : ([6] : List Int).all (okC 5) = true := by decide +kernel
theorem okC_5_2 : ([7] : List Int).all (okC 5) = true := by decide +kernel
theorem okC_5_3 : ([8] : List Int).all (okC 5) = true := by decide +kernel
theorem okC_5_4 : ([9] : List Int).all (okC 5) = true := by decide +kernel
theorem okC_5_5 : ([10] : List Int).all (okC 5) = true := by decide +kernel
theorem okC_5_6 : ([11] : List Int).all (okC 5) = true := by decide +kernel
theorem okC_5_7 : ([12] : List Int).all (okC 5) = true := by decide +kernel
theorem okC_5 : ([1, 2, 3, 4, 5, 6, 7, 8, 9, 10, 11, 12] : List Int).all (okC 5) = true := by
  show (([1, 2, 3, 4, 5] : List Int) ++ (([6] : List Int) ++ (([7] : List Int) ++ (([8] : List Int) ++ (([9] : List Int) ++ (([10] : List Int) ++ (([11] : List Int) ++ (([12] : List Int))))))))).all (okC 5) = true
  rw [List.all_append, okC_5_0, List.all_append, okC_5_1, List.all_append, okC_5_2, List.all_append, okC_5_3, List.all_append, okC_5_4, List.all_append, okC_5_5, List.all_append, okC_5_6, okC_5_7]
  rfl
end K54

set_option Elab.async false
set_option linter.all false
set_option maxRecDepth 100000
set_option maxHeartbeats 40000000
/-! P2: the plain law of the clash, from its table. -/
namespace K54
theorem okC_sound {n m : Int} (h : okC n m = true) : ∃ wf c, F_weights_for [.int 2, .int 1, .int n] = some (.wd wf) ∧ eqW (.li (wf.take n.toNat)) (.li (rngL 1 (n + 1))) = some true ∧ F_close_couple [.int 2, .li (wf.take n.toNat), .int m, .int 1] = some c ∧ isNon c = decide (n < m) ∧
  (c = .non ∨ ∃ a b sa sb k, c = .tw [a, b] ∧ F_law_sum [.wd a] = some (.int sa) ∧ F_law_sum [.wd b] = some (.int sb) ∧ (sa - sb) % m = 0 ∧ eqW (.wd a) (.wd b) = some false ∧ F_law_common [.wd a, .wd b] = some (.int k) ∧ n - 1 ≤ k) ∧
  ∀ r, 0 ≤ r → r < m → ∃ d, F_modulus_clash [.int n, .int m, .int r] = some d ∧ isNon d = isNon c := by
  unfold okC at h
  split at h
  case h_2 => cases h
  rename_i wf h1
  split at h
  case h_2 => cases h
  rename_i h2
  split at h
  case h_2 => cases h
  rename_i c h3
  rw [Bool.and_eq_true, Bool.and_eq_true, List.all_eq_true] at h
  obtain ⟨h4, h5, h6⟩ := h
  refine ⟨wf, c, h1, h2, h3, by simpa using h4, ?_, fun r r0 r1 => ?_⟩
  · split at h5
    · exact .inl rfl
    · rename_i a b
      split at h5
      · rename_i sa sb k e1 e2 e3 e4
        rw [Bool.and_eq_true, decide_eq_true_eq, decide_eq_true_eq] at h5
        exact .inr ⟨a, b, sa, sb, k, rfl, e1, e2, h5.1, e3, e4, h5.2⟩
      · cases h5
    · cases h5
  · have h7 := h6 r.toNat (List.mem_range.mpr (by omega))
    rw [Int.toNat_of_nonneg r0] at h7
    split at h7
    · rename_i d hd
      exact ⟨d, hd, by simpa using h7⟩
    · cases h7
theorem pClash : PClash := by
  intro n m n1 n5 m1 m2
  have all {n : Int} {ms : List Int} (h : ms.all (okC n) = true) {m : Int} (hm : m ∈ ms) : okC n m = true := List.all_eq_true.mp h m hm
  have hn : n = 1 ∨ n = 2 ∨ n = 3 ∨ n = 4 ∨ n = 5 := by omega
  rcases hn with rfl | rfl | rfl | rfl | rfl
  · exact okC_sound (all okC_1 (by simp only [List.mem_cons, List.mem_nil_iff]; omega))
  · exact okC_sound (all okC_2 (by simp only [List.mem_cons, List.mem_nil_iff]; omega))
  · exact okC_sound (all okC_3 (by simp only [List.mem_cons, List.mem_nil_iff]; omega))
  · exact okC_sound (all okC_4 (by simp only [List.mem_cons, List.mem_nil_iff]; omega))
  · exact okC_sound (all okC_5 (by simp only [List.mem_cons, List.mem_nil_iff]; omega))
end K54

set_option Elab.async false
set_option linter.all false
set_option maxRecDepth 100000
set_option maxHeartbeats 4000000
/-! P3: plain words; the longest common part, as it is reckoned. -/
namespace K54
theorem o1_of {h : Da → Option Da} {f : Mx} {Γ : List Ent} {a r : Da} (h1 : f Γ = some a) (h3 : h a = some r) : o1 h f Γ = some r := by
  unfold o1
  rw [h1]
  exact h3
theorem o2_of {h : Da → Da → Option Da} {f g : Mx} {Γ : List Ent} {a b r : Da} (h1 : f Γ = some a) (h2 : g Γ = some b) (h3 : h a b = some r) : o2 h f g Γ = some r := by
  unfold o2
  rw [h1, h2]
  exact h3
theorem t1_of {h : Da → Option Bool} {f : Mx} {Γ : List Ent} {a : Da} {r : Bool} (h1 : f Γ = some a) (h3 : h a = some r) : t1 h f Γ = some r := by
  unfold t1
  rw [h1]
  exact h3
theorem oA_of {h : List Da → Option Da} {fa : Ma} {Γ : List Ent} {ds : List Da} {r : Da} (h1 : fa Γ = some ds) (h3 : h ds = some r) : oA h fa Γ = some r := by
  unfold oA
  rw [h1]
  exact h3
theorem consA_of {f : Mx} {fa : Ma} {Γ : List Ent} {a : Da} {ds : List Da} (h1 : f Γ = some a) (h3 : fa Γ = some ds) : consA f fa Γ = some (a :: ds) := by
  unfold consA
  rw [h1, h3]
theorem setM_of {i : Nat} {f : Mx} {Γ : List Ent} {d : Da} (h : f Γ = some d) : setM i f Γ = some (.nx (Γ.set i (.val d))) := by
  unfold setM
  rw [h]
theorem ifM_t {t : Mt} {m n : Ms} {Γ : List Ent} {r : Option Out} (h : t Γ = some true) (k : m Γ = r) : ifM t m n Γ = r := by
  unfold ifM
  rw [h]
  exact k
theorem ifM_f {t : Mt} {m n : Ms} {Γ : List Ent} {r : Option Out} (h : t Γ = some false) (k : n Γ = r) : ifM t m n Γ = r := by
  unfold ifM
  rw [h]
  exact k
theorem exM_of {f : Mx} {Γ : List Ent} {d : Da} (h : f Γ = some d) : exM f Γ = some (.nx Γ) := by
  unfold exM
  rw [h]
theorem retM_of {f : Mx} {Γ : List Ent} {d : Da} (h : f Γ = some d) : retM f Γ = some (.rt d) := by
  unfold retM
  rw [h]
theorem seq_rt {m n : Ms} {Γ : List Ent} {d : Da} (h : m Γ = some (.rt d)) : seqM m n Γ = some (.rt d) := by
  unfold seqM
  rw [h]
theorem seq_of {m n : Ms} {Γ Γ' : List Ent} {r : Option Out} (h : m Γ = some (.nx Γ')) (k : n Γ' = r) : seqM m n Γ = r := (seq_nx h).trans k
theorem orM_f {t u : Mt} {Γ : List Ent} {r : Option Bool} (h : t Γ = some false) (k : u Γ = r) : orM t u Γ = r := by
  unfold orM
  rw [h]
  exact k
/-- all binary words, in order -/
def allW : Nat → List (List Int)
  | 0 => [[]]
  | k + 1 => (allW k).map (0 :: ·) ++ (allW k).map (1 :: ·)
theorem allW_len : ∀ {k : Nat} {w : List Int}, w ∈ allW k → w.length = k
  | 0, w, h => by
    cases h with
    | head => rfl
    | tail _ h => cases h
  | k + 1, w, h => by
    unfold allW at h
    rcases List.mem_append.mp h with z | z
    · obtain ⟨u, hu, e⟩ := List.mem_map.mp z
      subst e
      show u.length + 1 = k + 1
      rw [allW_len hu]
    · obtain ⟨u, hu, e⟩ := List.mem_map.mp z
      subst e
      show u.length + 1 = k + 1
      rw [allW_len hu]
theorem allW_bin : ∀ {k : Nat} {w : List Int}, w ∈ allW k → ∀ i ∈ w, i = 0 ∨ i = 1
  | 0, w, h => by
    cases h with
    | head => intro i hi; cases hi
    | tail _ h => cases h
  | k + 1, w, h => by
    unfold allW at h
    rcases List.mem_append.mp h with z | z
    · obtain ⟨u, hu, e⟩ := List.mem_map.mp z
      subst e
      intro i hi
      cases hi with
      | head => exact .inl rfl
      | tail _ hi => exact allW_bin hu i hi
    · obtain ⟨u, hu, e⟩ := List.mem_map.mp z
      subst e
      intro i hi
      cases hi with
      | head => exact .inr rfl
      | tail _ hi => exact allW_bin hu i hi
theorem mem_allW : ∀ {w : List Int}, (∀ i ∈ w, i = 0 ∨ i = 1) → w ∈ allW w.length
  | [], _ => .head _
  | i :: w, h => by
    have hw := mem_allW fun j hj => h j (.tail _ hj)
    show i :: w ∈ (allW w.length).map (0 :: ·) ++ (allW w.length).map (1 :: ·)
    rcases h i (.head _) with e | e
    · subst e; exact List.mem_append_left _ (List.mem_map.mpr ⟨w, hw, rfl⟩)
    · subst e; exact List.mem_append_right _ (List.mem_map.mpr ⟨w, hw, rfl⟩)
theorem okw_allW {k : Nat} {w : List Int} (hk : k ≤ 10) (h : w ∈ allW k) : okw w = true := by
  unfold okw
  rw [Bool.and_eq_true, decide_eq_true_eq, List.all_eq_true]
  exact ⟨by rw [allW_len h]; exact hk, fun i hi => decide_eq_true (allW_bin h i hi)⟩
theorem allW_drop {k : Nat} {w : List Int} (h : w ∈ allW (k + 1)) {i : Nat} (hi : i ≤ k) : w.take i ++ w.drop (i + 1) ∈ allW k := by
  have hl := allW_len h
  have e : (w.take i ++ w.drop (i + 1)).length = k := by
    rw [List.length_append, List.length_take, List.length_drop, hl]
    omega
  have := mem_allW (w := w.take i ++ w.drop (i + 1)) fun j hj => by
    rcases List.mem_append.mp hj with z | z
    · exact allW_bin h j (List.mem_of_mem_take z)
    · exact allW_bin h j (List.mem_of_mem_drop z)
  rw [e] at this
  exact this
/-- the sum of places, from place k on -/
def sW : Int → List Int → Int
  | _, [] => 0
  | k, x :: r => k * x + sW (k + 1) r
/-! ### the common part -/
def mx (a b : Int) : Int := if b > a then b else a
def dpW (w : List Int) (c : Int) : Nat → Nat → List Int → Int → List Int
  | 0, _, row, _ => row
  | k + 1, j, row, prev => dpW w c k (j + 1) (row.set (j + 1) (if w.getD j 0 = c then prev + 1 else mx (row.getD (j + 1) 0) (row.getD j 0))) (row.getD (j + 1) 0)
theorem dpW_len {w : List Int} {c : Int} : ∀ {k j : Nat} {row : List Int} {prev : Int}, (dpW w c k j row prev).length = row.length
  | 0, _, _, _ => rfl
  | k + 1, j, row, prev => by
    unfold dpW
    rw [dpW_len, List.length_set]
def dpR (w : List Int) : List Int → List Int → List Int
  | [], row => row
  | c :: x, row => dpR w x (dpW w c w.length 0 row 0)
theorem dpR_len {w : List Int} : ∀ {x row : List Int}, (dpR w x row).length = row.length
  | [], _ => rfl
  | c :: x, row => by
    unfold dpR
    rw [dpR_len, dpW_len]
def lcs (x w : List Int) : Int := (dpR w x (List.replicate (w.length + 1) 0)).getD w.length 0
theorem ixD_wd {w : List Int} {j : Nat} (h : j < w.length) : ixD (.wd w) (.int (j : Int)) = some (.int (w.getD j 0)) := by
  show (if 0 ≤ (j : Int) ∧ (j : Int) < w.length then some (Da.int (w.getD (j : Int).toNat 0)) else none) = _
  rw [if_pos ⟨by omega, by omega⟩]
  rfl
theorem item_li {row : List Int} {j : Nat} (h : j < row.length) : item (.li row) j = some (.int (row.getD j 0)) := by
  show (row[j]?).map Da.int = _
  rw [List.getD_eq_getElem?_getD, List.getElem?_eq_getElem h]
  rfl
abbrev bodyC : Ms := (seqM (setM 6 (ixM 2 (o2 addD (oVar 5) (fun _ => some (.int 1)))))
        (seqM (ifM (t2 eqD (o2 ixD (oVar 1) (oVar 5)) (oVar 3)) (seqM (putM 2 (o2 addD (oVar 5) (fun _ => some (.int 1))) (o2 addD (oVar 4) (fun _ => some (.int 1))))
          skipM) (seqM (putM 2 (o2 addD (oVar 5) (fun _ => some (.int 1))) (o2 maxD (ixM 2 (o2 addD (oVar 5) (fun _ => some (.int 1)))) (ixM 2 (oVar 5))))
          skipM))
        (seqM (setM 4 (oVar 6))
        skipM)))
theorem bodyC_ok {x w row : List Int} {c prev : Int} {j : Nat} {e6 : Ent} (hr : row.length = w.length + 1) (hj : j < w.length) :
    bodyC [.val (.wd x), .val (.wd w), .own (.li row), .val (.int c), .val (.int prev), .val (.int (j : Int)), e6] =
      some (.nx [.val (.wd x), .val (.wd w), .own (.li (row.set (j + 1) (if w.getD j 0 = c then prev + 1 else mx (row.getD (j + 1) 0) (row.getD j 0)))), .val (.int c), .val (.int (row.getD (j + 1) 0)), .val (.int (j : Int)), .val (.int (row.getD (j + 1) 0))]) := by
  have i1 : item (.li row) (j + 1) = some (.int (row.getD (j + 1) 0)) := item_li (by omega)
  have i0 : item (.li row) j = some (.int (row.getD j 0)) := item_li (by omega)
  have x1 : ∀ e4 e6, (ixM 2 (o2 addD (oVar 5) (fun _ => some (.int 1)))) [.val (.wd x), .val (.wd w), .own (.li row), .val (.int c), e4, .val (.int (j : Int)), e6] = some (.int (row.getD (j + 1) 0)) := fun e4 e6 => by
    show (if 0 ≤ (j : Int) + 1 then item (.li row) ((j : Int) + 1).toNat else none) = _
    rw [if_pos (by omega), show ((j : Int) + 1).toNat = j + 1 by omega, i1]
  have x0 : ∀ e4 e6, (ixM 2 (oVar 5)) [.val (.wd x), .val (.wd w), .own (.li row), .val (.int c), e4, .val (.int (j : Int)), e6] = some (.int (row.getD j 0)) := fun e4 e6 => by
    show (if 0 ≤ (j : Int) then item (.li row) (j : Int).toNat else none) = _
    rw [if_pos (by omega), show (j : Int).toNat = j by omega, i0]
  have s1 : setM 6 (ixM 2 (o2 addD (oVar 5) (fun _ => some (.int 1)))) [.val (.wd x), .val (.wd w), .own (.li row), .val (.int c), .val (.int prev), .val (.int (j : Int)), e6] = some (.nx [.val (.wd x), .val (.wd w), .own (.li row), .val (.int c), .val (.int prev), .val (.int (j : Int)), .val (.int (row.getD (j + 1) 0))]) := by
    unfold setM
    rw [x1]
    rfl
  have put : ∀ (g : Mx) (q : Int), g [.val (.wd x), .val (.wd w), .own (.li row), .val (.int c), .val (.int prev), .val (.int (j : Int)), .val (.int (row.getD (j + 1) 0))] = some (.int q) →
      putM 2 (o2 addD (oVar 5) (fun _ => some (.int 1))) g [.val (.wd x), .val (.wd w), .own (.li row), .val (.int c), .val (.int prev), .val (.int (j : Int)), .val (.int (row.getD (j + 1) 0))] = some (.nx [.val (.wd x), .val (.wd w), .own (.li (row.set (j + 1) q)), .val (.int c), .val (.int prev), .val (.int (j : Int)), .val (.int (row.getD (j + 1) 0))]) := fun g q hg => by
    unfold putM
    rw [hg]
    show (if 0 ≤ (j : Int) + 1 ∧ (j : Int) + 1 < row.length then (match setAt (.li row) ((j : Int) + 1).toNat (.int q) with
      | some d => some (Out.nx ([Ent.val (.wd x), .val (.wd w), .own (.li row), .val (.int c), .val (.int prev), .val (.int (j : Int)), .val (.int (row.getD (j + 1) 0))].set 2 (.own d)))
      | none => none) else none) = _
    rw [if_pos ⟨by omega, by omega⟩, show ((j : Int) + 1).toNat = j + 1 by omega]
    rfl
  refine (seq_nx s1).trans ?_
  have tt : t2 eqD (o2 ixD (oVar 1) (oVar 5)) (oVar 3) [.val (.wd x), .val (.wd w), .own (.li row), .val (.int c), .val (.int prev), .val (.int (j : Int)), .val (.int (row.getD (j + 1) 0))] = some (decide (w.getD j 0 = c)) := by
    refine t2_of (a := .int (w.getD j 0)) (b := .int c) ?_ rfl rfl
    exact ixD_wd hj
  by_cases hc : w.getD j 0 = c
  · rw [if_pos hc]
    rw [decide_eq_true hc] at tt
    refine (seq_nx (Γ' := [.val (.wd x), .val (.wd w), .own (.li (row.set (j + 1) (prev + 1))), .val (.int c), .val (.int prev), .val (.int (j : Int)), .val (.int (row.getD (j + 1) 0))]) ?_).trans ?_
    · unfold ifM
      rw [tt]
      exact (seq_nx (put _ (prev + 1) rfl)).trans rfl
    · rfl
  · rw [if_neg hc]
    rw [decide_eq_false hc] at tt
    refine (seq_nx (Γ' := [.val (.wd x), .val (.wd w), .own (.li (row.set (j + 1) (mx (row.getD (j + 1) 0) (row.getD j 0)))), .val (.int c), .val (.int prev), .val (.int (j : Int)), .val (.int (row.getD (j + 1) 0))]) ?_).trans ?_
    · unfold ifM
      rw [tt]
      refine (seq_nx (put _ (mx (row.getD (j + 1) 0) (row.getD j 0)) ?_)).trans rfl
      exact o2_of (x1 _ _) (x0 _ _) rfl
    · rfl
theorem loopC {x w : List Int} {c : Int} : ∀ (k j : Nat) {row : List Int} {prev : Int} {e5 e6 : Ent}, row.length = w.length + 1 → j + k = w.length → ∃ prev' e5' e6',
    loopM (fun k Γ' => Γ'.set 5 (.val (.int (k : Int)))) bodyC k j [.val (.wd x), .val (.wd w), .own (.li row), .val (.int c), .val (.int prev), e5, e6] =
      some (.nx [.val (.wd x), .val (.wd w), .own (.li (dpW w c k j row prev)), .val (.int c), .val (.int prev'), e5', e6'])
  | 0, j, row, prev, e5, e6, _, _ => ⟨prev, e5, e6, rfl⟩
  | k + 1, j, row, prev, e5, e6, hr, hj => by
    have b := bodyC_ok (x := x) (c := c) (prev := prev) (e6 := e6) hr (show j < w.length by omega)
    obtain ⟨p', e5', e6', h⟩ := loopC (x := x) (w := w) (c := c) k (j + 1) (row := row.set (j + 1) (if w.getD j 0 = c then prev + 1 else mx (row.getD (j + 1) 0) (row.getD j 0))) (prev := row.getD (j + 1) 0) (e5 := .val (.int (j : Int))) (e6 := .val (.int (row.getD (j + 1) 0))) (by rw [List.length_set]; exact hr) (by omega)
    refine ⟨p', e5', e6', ?_⟩
    unfold loopM
    rw [show ([Ent.val (.wd x), .val (.wd w), .own (.li row), .val (.int c), .val (.int prev), e5, e6].set 5 (.val (.int (j : Int)))) = [Ent.val (.wd x), .val (.wd w), .own (.li row), .val (.int c), .val (.int prev), .val (.int (j : Int)), e6] from rfl, b]
    exact h
abbrev bodyR : Ms := (seqM (setM 4 (fun _ => some (.int 0)))
      (seqM (forM (srcR1 5 (o1 lenD (oVar 1))) bodyC)
      skipM))
theorem loopR {x w : List Int} : ∀ (k i : Nat) {row : List Int} {e3 e4 e5 e6 : Ent}, row.length = w.length + 1 → w.length ≤ 1000 → i + k = x.length → ∃ e3' e4' e5' e6',
    loopM (fun i Γ' => Γ'.set 3 (.val (.int (x.getD i 0)))) bodyR k i [.val (.wd x), .val (.wd w), .own (.li row), e3, e4, e5, e6] =
      some (.nx [.val (.wd x), .val (.wd w), .own (.li (dpR w (x.drop i) row)), e3', e4', e5', e6'])
  | 0, i, row, e3, e4, e5, e6, hr, _, hi => ⟨e3, e4, e5, e6, by rw [List.drop_of_length_le (by omega)]; rfl⟩
  | k + 1, i, row, e3, e4, e5, e6, hr, hw, hi => by
    obtain ⟨p', f5, f6, h⟩ := loopC (x := x) (w := w) (c := x.getD i 0) w.length 0 (row := row) (prev := 0) (e5 := e5) (e6 := e6) hr (by omega)
    obtain ⟨g3, g4, g5, g6, h'⟩ := loopR (x := x) (w := w) k (i + 1) (row := dpW w (x.getD i 0) w.length 0 row 0) (e3 := .val (.int (x.getD i 0))) (e4 := .val (.int p')) (e5 := f5) (e6 := f6) (by rw [dpW_len]; exact hr) hw (by omega)
    refine ⟨g3, g4, g5, g6, ?_⟩
    have b : bodyR [.val (.wd x), .val (.wd w), .own (.li row), .val (.int (x.getD i 0)), e4, e5, e6] = some (.nx [.val (.wd x), .val (.wd w), .own (.li (dpW w (x.getD i 0) w.length 0 row 0)), .val (.int (x.getD i 0)), .val (.int p'), f5, f6]) := by
      refine (seq_nx (Γ' := [.val (.wd x), .val (.wd w), .own (.li row), .val (.int (x.getD i 0)), .val (.int 0), e5, e6]) rfl).trans ?_
      refine (seq_nx (Γ' := [.val (.wd x), .val (.wd w), .own (.li (dpW w (x.getD i 0) w.length 0 row 0)), .val (.int (x.getD i 0)), .val (.int p'), f5, f6]) ?_).trans rfl
      have s : srcR1 5 (o1 lenD (oVar 1)) [.val (.wd x), .val (.wd w), .own (.li row), .val (.int (x.getD i 0)), .val (.int 0), e5, e6] = some (w.length, fun k Γ' => Γ'.set 5 (.val (.int (k : Int)))) := by
        show (if -100000 ≤ (w.length : Int) ∧ (w.length : Int) ≤ 100000 then some ((w.length : Int).toNat, fun (k : Nat) (Γ' : List Ent) => Γ'.set 5 (.val (.int (k : Int)))) else none) = _
        rw [if_pos ⟨by omega, by omega⟩]
        rfl
      unfold forM
      rw [s]
      exact h
    unfold loopM
    rw [show ([Ent.val (.wd x), .val (.wd w), .own (.li row), e3, e4, e5, e6].set 3 (.val (.int (x.getD i 0)))) = [Ent.val (.wd x), .val (.wd w), .own (.li row), .val (.int (x.getD i 0)), e4, e5, e6] from rfl, b]
    have hd : x.drop i = x.getD i 0 :: x.drop (i + 1) := by
      rw [List.drop_eq_getElem_cons (show i < x.length by omega), List.getD_eq_getElem?_getD, List.getElem?_eq_getElem (show i < x.length by omega)]
      rfl
    rw [hd]
    exact h'
theorem common_ok {x w : List Int} (hw : w.length < 1000) : F_law_common [.wd x, .wd w] = some (.int (lcs x w)) := by
  obtain ⟨e3, e4, e5, e6, h⟩ := loopR (x := x) (w := w) x.length 0 (row := List.replicate (w.length + 1) 0) (e3 := .no) (e4 := .no) (e5 := .no) (e6 := .no) (by rw [List.length_replicate]) (by omega) (by omega)
  refine res_rt rfl ?_
  show m_law_common [.val (.wd x), .val (.wd w), .no, .no, .no, .no, .no] = _
  refine (seq_nx (Γ' := [.val (.wd x), .val (.wd w), .own (.li (List.replicate (w.length + 1) 0)), .no, .no, .no, .no]) ?_).trans ?_
  · have e : (o1 (repD 0) (o2 addD (o1 lenD (oVar 1)) (fun _ => some (.int 1)))) [.val (.wd x), .val (.wd w), .no, .no, .no, .no, .no] = some (.li (List.replicate (w.length + 1) 0)) := by
      show (if 0 ≤ (w.length : Int) + 1 ∧ (w.length : Int) + 1 ≤ 1000 then some (Da.li (List.replicate ((w.length : Int) + 1).toNat 0)) else none) = _
      rw [if_pos ⟨by omega, by omega⟩, show ((w.length : Int) + 1).toNat = w.length + 1 by omega]
    unfold ownM
    rw [e]
    rfl
  · refine (seq_nx (Γ' := [.val (.wd x), .val (.wd w), .own (.li (dpR w x (List.replicate (w.length + 1) 0))), e3, e4, e5, e6]) h).trans ?_
    have e : (ixM 2 (o1 lenD (oVar 1))) [.val (.wd x), .val (.wd w), .own (.li (dpR w x (List.replicate (w.length + 1) 0))), e3, e4, e5, e6] = some (.int (lcs x w)) := by
      show (if 0 ≤ (w.length : Int) then item (.li (dpR w x (List.replicate (w.length + 1) 0))) (w.length : Int).toNat else none) = _
      rw [if_pos (by omega)]
      exact item_li (by rw [dpR_len, List.length_replicate]; exact Nat.lt_succ_self _)
    unfold seqM retM
    rw [e]
end K54

set_option Elab.async false
set_option linter.all false
set_option maxRecDepth 100000
set_option maxHeartbeats 40000000
/-! P4: the plain forms of the small functions, and the tables that bind them to what is reckoned. -/
namespace K54
def isLw (o : Option Da) (w : List (List Int)) : Bool := match o with
  | some (.lw u) => u == w
  | _ => false
theorem isLw_eq {o : Option Da} {w : List (List Int)} (h : isLw o w = true) : o = some (.lw w) := by
  unfold isLw at h
  split at h
  · rw [eq_of_beq h]
  · cases h
def isTw (o : Option Da) (w : List (List Int)) : Bool := match o with
  | some (.tw u) => u == w
  | _ => false
theorem isTw_eq {o : Option Da} {w : List (List Int)} (h : isTw o w = true) : o = some (.tw w) := by
  unfold isTw at h
  split at h
  · rw [eq_of_beq h]
  · cases h
def isIn (o : Option Da) (k : Int) : Bool := match o with
  | some (.int j) => decide (j = k)
  | _ => false
theorem isIn_eq {o : Option Da} {k : Int} (h : isIn o k = true) : o = some (.int k) := by
  unfold isIn at h
  split at h
  · rw [of_decide_eq_true h]
  · cases h
/-- a place or none -/
def plD : Option Nat → Da
  | some p => .int (p : Int)
  | none => .non
def isPl (o : Option Da) (p : Option Nat) : Bool := match o, p with
  | some .non, none => true
  | some (.int j), some q => decide (j = (q : Int))
  | _, _ => false
theorem isPl_eq {o : Option Da} {p : Option Nat} (h : isPl o p = true) : o = some (plD p) := by
  unfold isPl at h
  split at h
  · rfl
  · rw [of_decide_eq_true h]; rfl
  · cases h
/-- the smallest word above: a letter put in so that the sum of places grows by k -/
def ins0 : Int → List Int → List Int
  | _, [] => [0]
  | k, x :: r => if k ≤ 0 then 0 :: x :: r else x :: ins0 (k - x) r
def ins1 : Int → List Int → List Int
  | _, [] => [1]
  | k, x :: r => if k ≤ 0 then 1 :: x :: r else x :: ins1 (k - 1 + x) r
def liftP (w : List Int) (k : Int) : List Int := if k ≤ w.sum then (ins0 k w.reverse).reverse else ins1 (k - w.sum - 1) w
def lowA (k : Int) : List Int → Nat → Int → Option Nat
  | [], _, _ => none
  | x :: r, i, t => if x = 0 ∧ t = k then some i else lowA k r (i - 1) (t + x)
def lowB (k : Int) : List Int → Nat → Int → Option Nat
  | [], _, _ => none
  | x :: r, i, t => if t = k ∧ (x = 1 ∨ i = 0) then some i else lowB k r (i + 1) (t + 1 - x)
def lowP (w : List Int) (k : Int) : Option Nat := if k < w.sum then lowA k w.reverse (w.length - 1) 0 else lowB (k - w.sum) w 0 0
/-- x holds w but for k letters -/
def lcsB (k : Int) (x w : List Int) : Bool := decide ((x.length : Int) - k ≤ lcs x w)
/-- the weights 1 .. n -/
def wts (n : Int) : List Int := rngL 1 (n + 1)
def isWf (n : Int) (o : Option Da) : Bool := match o with
  | some (.wd w) => w.take n.toNat == wts n
  | _ => false
def upTo (n : Int) : Int := if n + 5 < 4 * n then 4 * n else n + 5
def tabA (n : Int) : Bool := isWf n (F_weights_for [.int 2, .int 1, .int n]) && isWd (F_check_weights [.wd (wts n)]) (wts n) && decide (((wts n).length : Int) = n)
  && isLw (F_law_all_words [.int 2, .int n]) (allW n.toNat) && isLw (F_law_all_words [.int 2, .int (n - 1)]) (allW (n.toNat - 1)) && isLw (F_law_all_words [.int 2, .int (n + 1)]) (allW (n.toNat + 1))
  && isLw (F_every_word [.int 2, .int n]) (allW n.toNat) && isIn (F_power_of [.int 2, .int n]) ((allW n.toNat).length : Int)
  && ((List.range (allW n.toNat).length).all fun (i : Nat) => isWd (F_word_at [.int 2, .int n, .int (i : Int)]) ((allW n.toNat).getD i []))
def tabW (k : Nat) : Bool := (allW k).all fun w => isWd (F_check_word [.int 2, .wd w, .int 24]) w && isWd (F_check_word [.int 2, .wd w, .int 200]) w && isWd (F_check_word [.int 2, .wd w, .int 201]) w && isIn (F_sum_places [.wd w]) (sW 1 w)
def tabS (n : Int) : Bool := (allW n.toNat).all fun w => isIn (F_law_sum [.wd w]) (sW 1 w) && isIn (F_sum_by [.wd (wts n), .wd w]) (sW 1 w)
def tabL (n : Int) : Bool := ((allW (n.toNat - 1)).all fun w => (List.range (n.toNat + 1)).all fun (k : Nat) => isWd (F_lift_word [.wd w, .int (k : Int)]) (liftP w (k : Int)))
  && ((allW (n.toNat + 1)).all fun w => (List.range (upTo n).toNat).all fun (k : Nat) => isPl (F_lowering_place [.wd w, .int (k : Int)]) (lowP w (k : Int)))
def tabC (n : Int) : Bool := ((allW (n.toNat - 1)).all fun w => isTw (F_come_to [.int 2, .wd w, .int 0, .int 1]) ((allW n.toNat).filter fun x => lcsB 1 x w))
  && ((allW (n.toNat + 1)).all fun w => isTw (F_come_to [.int 2, .wd w, .int 1, .int 0]) ((allW n.toNat).filter fun x => lcsB 0 x w))
  && ((allW n.toNat).all fun w => isTw (F_come_to [.int 2, .wd w, .int 1, .int 1]) ((allW n.toNat).filter fun x => lcsB 1 x w))
theorem tabA_all : ([1, 2, 3, 4, 5] : List Int).all tabA = true := by decide +kernel
theorem tabW_all : ([0, 1, 2, 3, 4, 5, 6] : List Nat).all tabW = true := by decide +kernel
theorem tabS_all : ([1, 2, 3, 4, 5] : List Int).all tabS = true := by decide +kernel
theorem tabL_123 : ([1, 2, 3] : List Int).all tabL = true := by decide +kernel
theorem tabC_12 : ([1, 2] : List Int).all tabC = true := by decide +kernel
end K54

set_option Elab.async false
set_option linter.all false
set_option maxRecDepth 100000
set_option maxHeartbeats 40000000
namespace K54
theorem tabL_4 : tabL 4 = true := by decide +kernel
end K54

set_option Elab.async false
set_option linter.all false
set_option maxRecDepth 100000
set_option maxHeartbeats 40000000
namespace K54
def tl1 (n : Int) (w : List Int) : Bool := (List.range (n.toNat + 1)).all fun (k : Nat) => isWd (F_lift_word [.wd w, .int (k : Int)]) (liftP w (k : Int))
def tl2 (n : Int) (w : List Int) : Bool := (List.range (upTo n).toNat).all fun (k : Nat) => isPl (F_lowering_place [.wd w, .int (k : Int)]) (lowP w (k : Int))
theorem all_from {l : List (List Int)} {p : List Int → Bool} (k a : Nat) (h1 : ((l.drop a).take k).all p = true) (h2 : (l.drop (a + k)).all p = true) : (l.drop a).all p = true := by
  rw [← List.take_append_drop k (l.drop a), List.all_append, h1, List.drop_drop, h2]
  rfl
theorem tl1_5 : (allW 4).all (tl1 5) = true := by decide +kernel
theorem tl2_5_0 : (((allW 6).drop 0).take 16).all (tl2 5) = true := by decide +kernel
theorem tl2_5_1 : (((allW 6).drop 16).take 16).all (tl2 5) = true := by decide +kernel
theorem tl2_5_2 : (((allW 6).drop 32).take 16).all (tl2 5) = true := by decide +kernel
theorem tl2_5_3 : (((allW 6).drop 48).take 16).all (tl2 5) = true := by decide +kernel
theorem tl2_5 : (allW 6).all (tl2 5) = true := (all_from 16 0 tl2_5_0 (all_from 16 16 tl2_5_1 (all_from 16 32 tl2_5_2 (all_from 16 48 tl2_5_3 (show ((allW 6).drop 64).all (tl2 5) = true by decide +kernel)))))
theorem tabL_5 : tabL 5 = true := by
  show ((allW 4).all (tl1 5) && (allW 6).all (tl2 5)) = true
  rw [tl1_5, tl2_5]
  rfl
end K54

set_option Elab.async false
set_option linter.all false
set_option maxRecDepth 100000
set_option maxHeartbeats 40000000
namespace K54
theorem tabC_3 : tabC 3 = true := by decide +kernel
end K54

set_option Elab.async false
set_option linter.all false
set_option maxRecDepth 100000
set_option maxHeartbeats 40000000
/-! P5d: the words that come to a word of four letters. -/
namespace K54
def tc1 (n : Int) (w : List Int) : Bool := isTw (F_come_to [.int 2, .wd w, .int 0, .int 1]) ((allW n.toNat).filter fun x => lcsB 1 x w)
def tc2 (n : Int) (w : List Int) : Bool := isTw (F_come_to [.int 2, .wd w, .int 1, .int 0]) ((allW n.toNat).filter fun x => lcsB 0 x w)
def tc3 (n : Int) (w : List Int) : Bool := isTw (F_come_to [.int 2, .wd w, .int 1, .int 1]) ((allW n.toNat).filter fun x => lcsB 1 x w)
theorem tc1_4 : (allW 3).all (tc1 4) = true := by decide +kernel
theorem tc2_4_0 : (((allW 5).drop 0).take 8).all (tc2 4) = true := by decide +kernel
theorem tc2_4_1 : (((allW 5).drop 8).take 8).all (tc2 4) = true := by decide +kernel
theorem tc2_4_2 : (((allW 5).drop 16).take 8).all (tc2 4) = true := by decide +kernel
theorem tc2_4_3 : (((allW 5).drop 24).take 8).all (tc2 4) = true := by decide +kernel
theorem tc3_4_0 : (((allW 4).drop 0).take 4).all (tc3 4) = true := by decide +kernel
theorem tc3_4_1 : (((allW 4).drop 4).take 4).all (tc3 4) = true := by decide +kernel
theorem tc3_4_2 : (((allW 4).drop 8).take 4).all (tc3 4) = true := by decide +kernel
theorem tc3_4_3 : (((allW 4).drop 12).take 4).all (tc3 4) = true := by decide +kernel
theorem tc2_4 : (allW 5).all (tc2 4) = true := (all_from 8 0 tc2_4_0 (all_from 8 8 tc2_4_1 (all_from 8 16 tc2_4_2 (all_from 8 24 tc2_4_3 (show ((allW 5).drop 32).all (tc2 4) = true by decide +kernel)))))
theorem tc3_4 : (allW 4).all (tc3 4) = true := (all_from 4 0 tc3_4_0 (all_from 4 4 tc3_4_1 (all_from 4 8 tc3_4_2 (all_from 4 12 tc3_4_3 (show ((allW 4).drop 16).all (tc3 4) = true by decide +kernel)))))
theorem tabC_4 : tabC 4 = true := by
  show ((allW 3).all (tc1 4) && (allW 5).all (tc2 4) && (allW 4).all (tc3 4)) = true
  rw [tc1_4, tc2_4, tc3_4]
  rfl
end K54

set_option Elab.async false
set_option linter.all false
set_option maxRecDepth 100000
set_option maxHeartbeats 40000000
/-! P5e: the words that come to a word of five letters. -/
namespace K54
theorem tc1_5 : (allW 4).all (tc1 5) = true := by decide +kernel
theorem tc2_5_0 : (((allW 6).drop 0).take 8).all (tc2 5) = true := by decide +kernel
theorem tc2_5_1 : (((allW 6).drop 8).take 8).all (tc2 5) = true := by decide +kernel
theorem tc2_5_2 : (((allW 6).drop 16).take 8).all (tc2 5) = true := by decide +kernel
theorem tc2_5_3 : (((allW 6).drop 24).take 8).all (tc2 5) = true := by decide +kernel
theorem tc2_5_4 : (((allW 6).drop 32).take 8).all (tc2 5) = true := by decide +kernel
theorem tc2_5_5 : (((allW 6).drop 40).take 8).all (tc2 5) = true := by decide +kernel
theorem tc2_5_6 : (((allW 6).drop 48).take 8).all (tc2 5) = true := by decide +kernel
theorem tc2_5_7 : (((allW 6).drop 56).take 8).all (tc2 5) = true := by decide +kernel
theorem tc2_5 : (allW 6).all (tc2 5) = true := (all_from 8 0 tc2_5_0 (all_from 8 8 tc2_5_1 (all_from 8 16 tc2_5_2 (all_from 8 24 tc2_5_3 (all_from 8 32 tc2_5_4 (all_from 8 40 tc2_5_5 (all_from 8 48 tc2_5_6 (all_from 8 56 tc2_5_7 (show ((allW 6).drop 64).all (tc2 5) = true by decide +kernel)))))))))
end K54

set_option Elab.async false
set_option linter.all false
set_option maxRecDepth 100000
set_option maxHeartbeats 40000000
namespace K54
theorem tc3_5_0 : (((allW 5).drop 0).take 4).all (tc3 5) = true := by decide +kernel
theorem tc3_5_1 : (((allW 5).drop 4).take 4).all (tc3 5) = true := by decide +kernel
end K54

set_option Elab.async false
set_option linter.all false
set_option maxRecDepth 100000
set_option maxHeartbeats 40000000
namespace K54
theorem tc3_5_2 : (((allW 5).drop 8).take 4).all (tc3 5) = true := by decide +kernel
theorem tc3_5_3 : (((allW 5).drop 12).take 4).all (tc3 5) = true := by decide +kernel
end K54

set_option Elab.async false
set_option linter.all false
set_option maxRecDepth 100000
set_option maxHeartbeats 40000000
namespace K54
theorem tc3_5_4 : (((allW 5).drop 16).take 4).all (tc3 5) = true := by decide +kernel
theorem tc3_5_5 : (((allW 5).drop 20).take 4).all (tc3 5) = true := by decide +kernel
end K54

set_option Elab.async false
set_option linter.all false
set_option maxRecDepth 100000
set_option maxHeartbeats 40000000
namespace K54
theorem tc3_5_6 : (((allW 5).drop 24).take 4).all (tc3 5) = true := by decide +kernel
theorem tc3_5_7 : (((allW 5).drop 28).take 4).all (tc3 5) = true := by decide +kernel
end K54

set_option Elab.async false
set_option linter.all false
set_option maxRecDepth 100000
set_option maxHeartbeats 4000000
namespace K54
theorem tc3_5 : (allW 5).all (tc3 5) = true := (all_from 4 0 tc3_5_0 (all_from 4 4 tc3_5_1 (all_from 4 8 tc3_5_2 (all_from 4 12 tc3_5_3 (all_from 4 16 tc3_5_4 (all_from 4 20 tc3_5_5 (all_from 4 24 tc3_5_6 (all_from 4 28 tc3_5_7 (show ((allW 5).drop 32).all (tc3 5) = true by decide +kernel)))))))))
theorem tabC_5 : tabC 5 = true := by
  show ((allW 4).all (tc1 5) && (allW 6).all (tc2 5) && (allW 5).all (tc3 5)) = true
  rw [tc1_5, tc2_5, tc3_5]
  rfl
end K54

set_option Elab.async false
set_option linter.all false
set_option maxRecDepth 100000
set_option maxHeartbeats 4000000
/-! P6: the books' functions by their plain forms. -/
namespace K54
structure Tab (n : Int) : Prop where
  n1 : 1 ≤ n
  n5 : n ≤ 5
  wf : ∃ wf, F_weights_for [.int 2, .int 1, .int n] = some (.wd wf) ∧ wf.take n.toNat = wts n
  cw : isWd (F_check_weights [.wd (wts n)]) (wts n) = true
  wl : ((wts n).length : Int) = n
  a0 : F_law_all_words [.int 2, .int n] = some (.lw (allW n.toNat))
  am : F_law_all_words [.int 2, .int (n - 1)] = some (.lw (allW (n.toNat - 1)))
  ap : F_law_all_words [.int 2, .int (n + 1)] = some (.lw (allW (n.toNat + 1)))
  ev : F_every_word [.int 2, .int n] = some (.lw (allW n.toNat))
  pw : F_power_of [.int 2, .int n] = some (.int ((allW n.toNat).length : Int))
  wa : ∀ i, i < (allW n.toNat).length → F_word_at [.int 2, .int n, .int (i : Int)] = some (.wd ((allW n.toNat).getD i []))
  ls : ∀ w ∈ allW n.toNat, F_law_sum [.wd w] = some (.int (sW 1 w))
  sb : ∀ w ∈ allW n.toNat, F_sum_by [.wd (wts n), .wd w] = some (.int (sW 1 w))
  li : ∀ w ∈ allW (n.toNat - 1), ∀ k : Int, 0 ≤ k → k ≤ n → F_lift_word [.wd w, .int k] = some (.wd (liftP w k))
  lo : ∀ w ∈ allW (n.toNat + 1), ∀ k : Int, 0 ≤ k → k < upTo n → F_lowering_place [.wd w, .int k] = some (plD (lowP w k))
  c1 : ∀ w ∈ allW (n.toNat - 1), F_come_to [.int 2, .wd w, .int 0, .int 1] = some (.tw ((allW n.toNat).filter fun x => lcsB 1 x w))
  c2 : ∀ w ∈ allW (n.toNat + 1), F_come_to [.int 2, .wd w, .int 1, .int 0] = some (.tw ((allW n.toNat).filter fun x => lcsB 0 x w))
  c3 : ∀ w ∈ allW n.toNat, F_come_to [.int 2, .wd w, .int 1, .int 1] = some (.tw ((allW n.toNat).filter fun x => lcsB 1 x w))
theorem tab_of {n : Int} (n1 : 1 ≤ n) (n5 : n ≤ 5) (hA : tabA n = true) (hS : tabS n = true) (hL : tabL n = true) (hC : tabC n = true) : Tab n := by
  unfold tabA at hA
  unfold tabS at hS
  unfold tabL at hL
  unfold tabC at hC
  simp only [Bool.and_eq_true, List.all_eq_true, decide_eq_true_eq] at hA hS hL hC
  obtain ⟨⟨⟨⟨⟨⟨⟨⟨a1, a2⟩, a3⟩, a4⟩, a5⟩, a6⟩, a7⟩, a8⟩, a9⟩ := hA
  obtain ⟨l1, l2⟩ := hL
  obtain ⟨⟨c1, c2⟩, c3⟩ := hC
  refine ⟨n1, n5, ?_, a2, a3, isLw_eq a4, isLw_eq a5, isLw_eq a6, isLw_eq a7, isIn_eq a8, fun i hi => isWd_eq (a9 i (List.mem_range.mpr hi)), fun w hw => isIn_eq (hS w hw).1, fun w hw => isIn_eq (hS w hw).2, fun w hw k k0 k1 => ?_, fun w hw k k0 k1 => ?_,
    fun w hw => isTw_eq (c1 w hw), fun w hw => isTw_eq (c2 w hw), fun w hw => isTw_eq (c3 w hw)⟩
  · unfold isWf at a1
    split at a1
    · exact ⟨_, by assumption, eq_of_beq a1⟩
    · cases a1
  · have := l1 w hw k.toNat (List.mem_range.mpr (by omega))
    rw [Int.toNat_of_nonneg k0] at this
    exact isWd_eq this
  · have := l2 w hw k.toNat (List.mem_range.mpr (by omega))
    rw [Int.toNat_of_nonneg k0] at this
    exact isPl_eq this
theorem tabW_of {k : Nat} (hk : k ≤ 6) {w : List Int} (hw : w ∈ allW k) : F_check_word [.int 2, .wd w, .int 24] = some (.wd w) ∧ F_check_word [.int 2, .wd w, .int 200] = some (.wd w) ∧ F_check_word [.int 2, .wd w, .int 201] = some (.wd w) ∧ F_sum_places [.wd w] = some (.int (sW 1 w)) := by
  have h := List.all_eq_true.mp tabW_all k (by simp only [List.mem_cons, List.mem_nil_iff]; omega)
  unfold tabW at h
  simp only [Bool.and_eq_true, List.all_eq_true] at h
  obtain ⟨⟨⟨h1, h2⟩, h3⟩, h4⟩ := h w hw
  exact ⟨isWd_eq h1, isWd_eq h2, isWd_eq h3, isIn_eq h4⟩
/-! ### filters -/
theorem lcTo_filter {ws : List (List Int)} {p : List Int → Bool} {y : Nat → List Ent → List Ent} {t : Mt} {f : Mx} {Γ : List Ent} (h : ∀ i, i < ws.length → t (y i Γ) = some (p (ws.getD i [])) ∧ f (y i Γ) = some (.wd (ws.getD i []))) :
    ∀ k, k ≤ ws.length → lcTo (.lw []) y t f Γ k = some (.lw ((ws.take k).filter p))
  | 0, _ => by rw [List.take_zero]; rfl
  | k + 1, hk => by
    have ih := lcTo_filter h k (by omega)
    obtain ⟨h1, h2⟩ := h k (by omega)
    have e : ws.take (k + 1) = ws.take k ++ [ws.getD k []] := by
      rw [List.take_add_one, List.getD_eq_getElem?_getD, List.getElem?_eq_getElem (show k < ws.length by omega)]
      rfl
    unfold lcTo
    rw [ih, h1, e, List.filter_append]
    cases hp : p (ws.getD k []) with
    | true =>
      rw [h2]
      show some (Da.lw _) = _
      rw [List.filter_cons_of_pos hp]
      rfl
    | false =>
      rw [List.filter_cons_of_neg (by rw [hp]; decide)]
      show some (Da.lw _) = _
      rw [List.filter_nil, List.append_nil]
theorem genL_filter {ws : List (List Int)} {p : List Int → Bool} {y : Nat → List Ent → List Ent} {pre : Ms} {t : Mt} {f : Mx} {I : List Ent → Prop}
    (h : ∀ i Γ, i < ws.length → I Γ → ∃ Γ1, pre (y i Γ) = some (.nx Γ1) ∧ I Γ1 ∧ t Γ1 = some (p (ws.getD i [])) ∧ f Γ1 = some (.wd (ws.getD i []))) :
    ∀ (k i : Nat) (Γ : List Ent) (acc : List (List Int)), I Γ → i + k = ws.length → acc.length + k < 1000000 → genL y pre t f k i Γ acc = some (acc ++ (ws.drop i).filter p)
  | 0, i, Γ, acc, hI, hi, _ => by
    rw [List.drop_of_length_le (by omega), List.filter_nil, List.append_nil]
    rfl
  | k + 1, i, Γ, acc, hI, hi, ha => by
    obtain ⟨Γ1, h1, h2, h3, h4⟩ := h i Γ (by omega) hI
    have e : ws.drop i = ws.getD i [] :: ws.drop (i + 1) := by
      rw [List.drop_eq_getElem_cons (show i < ws.length by omega), List.getD_eq_getElem?_getD, List.getElem?_eq_getElem (show i < ws.length by omega)]
      rfl
    unfold genL
    rw [h1]
    show (match t Γ1 with
      | some true => (match f Γ1 with
        | some (.wd w) => if acc.length < 1000000 then genL y pre t f k (i + 1) Γ1 (acc ++ [w]) else none
        | _ => none)
      | some false => genL y pre t f k (i + 1) Γ1 acc
      | none => none) = _
    rw [h3, e]
    cases hp : p (ws.getD i []) with
    | true =>
      rw [h4, List.filter_cons_of_pos hp]
      show (if acc.length < 1000000 then genL y pre t f k (i + 1) Γ1 (acc ++ [ws.getD i []]) else none) = _
      rw [if_pos (by omega), genL_filter h k (i + 1) Γ1 _ h2 (by omega) (by rw [List.length_append]; show acc.length + 1 + k < _; omega), List.append_assoc]
      rfl
    | false =>
      rw [List.filter_cons_of_neg (by rw [hp]; decide)]
      exact genL_filter h k (i + 1) Γ1 _ h2 (by omega) (by omega)
/-- is x a member -/
def inB (m r : Int) (x : List Int) : Bool := decide (sW 1 x % m = r)
theorem mod_iff {s m r : Int} (r0 : 0 ≤ r) (r1 : r < m) : decide ((s - r) % m = 0) = decide (s % m = r) := by
  have e : r % m = r := Int.emod_eq_of_lt r0 r1
  have := Int.emod_emod_of_dvd
  have h := @Int.emod_eq_emod_iff_emod_sub_eq_zero s m r
  rw [e] at h
  exact decide_eq_decide.mpr h.symm
section
variable {n m r : Int} (T : Tab n) (n0 : n.toNat ≤ 5)
theorem modD_ok (hm : 0 < m) {i : Int} : modD (.int i) (.int m) = some (.int (i % m)) := if_pos hm
theorem getD_mem {ws : List (List Int)} {i : Nat} (h : i < ws.length) : ws.getD i [] ∈ ws := by
  rw [List.getD_eq_getElem?_getD, List.getElem?_eq_getElem h]
  exact List.getElem_mem h
include T in
theorem has_ok (hm : 0 < m) {x : List Int} (hx : x ∈ allW n.toNat) : F_WeightBook_has [.wb 2 (wts n) m r, .wd x] = some (.bl (inB m r x)) := by
  obtain ⟨t1', _, _, _⟩ := tabW_of (by have := T.n5; omega) hx
  refine res_rt rfl ?_
  show m_WeightBook_has [.val (.wb 2 (wts n) m r), .val (.wd x)] = _
  refine seq_of (Γ' := [.val (.wb 2 (wts n) m r), .val (.wd x)]) (setM_of (d := .wd x) t1') ?_
  refine seq_of (Γ' := [.val (.wb 2 (wts n) m r), .val (.wd x)]) (ifM_f (t2_of (a := .int (x.length : Int)) (b := .int ((wts n).length : Int)) rfl rfl ?_) rfl) ?_
  · show some (decide ((x.length : Int) ≠ ((wts n).length : Int))) = _
    rw [T.wl, allW_len hx, decide_eq_false]
    have := T.n1
    omega
  · refine seq_rt (retM_of (o2_of (a := .int (sW 1 x % m)) (b := .int r) (o2_of (a := .int (sW 1 x)) (b := .int m) (T.sb x hx) rfl (modD_ok hm)) rfl rfl))
include T in
theorem members_ok (hm : 0 < m) {w : List Int} {j : Nat} {lost put : Int} {C : List (List Int)} (hw : w ∈ allW j) (hj : (j : Int) = n - lost + put) (l0 : 0 ≤ lost) (l1 : lost ≤ 1) (p0 : 0 ≤ put) (p1 : put ≤ 1) (hc : F_come_to [.int 2, .wd w, .int put, .int lost] = some (.tw C)) (hC : ∀ x ∈ C, x ∈ allW n.toNat) (hl : C.length ≤ 100) :
    F_members_behind [.wb 2 (wts n) m r, .wd w, .int lost, .int put] = some (.tw (C.filter (inB m r))) := by
  have hn1 := T.n1
  have hn5 := T.n5
  obtain ⟨t1', _, _, _⟩ := tabW_of (by omega) hw
  refine res_rt rfl ?_
  show m_members_behind [.val (.wb 2 (wts n) m r), .val (.wd w), .val (.int lost), .val (.int put), .no, .no] = _
  refine seq_of (Γ' := [.val (.wb 2 (wts n) m r), .val (.wd w), .val (.int lost), .val (.int put), .no, .no]) (setM_of (d := .wd w) t1') ?_
  refine seq_of (exM_of (d := .int lost) (number_ok l0 (show lost ≤ ((wts n).length : Int) by rw [T.wl]; omega))) ?_
  refine seq_of (exM_of (d := .int put) (number_ok p0 (show put ≤ 24 by omega))) ?_
  refine seq_of (Γ' := [.val (.wb 2 (wts n) m r), .val (.wd w), .val (.int lost), .val (.int put), .no, .no]) (ifM_f (t2_of (a := .int (w.length : Int)) (b := .int (((wts n).length : Int) - lost + put)) rfl rfl ?_) rfl) ?_
  · show some (decide ((w.length : Int) ≠ ((wts n).length : Int) - lost + put)) = _
    rw [T.wl, allW_len hw, decide_eq_false (fun q => q hj)]
  refine seq_of (Γ' := [.val (.wb 2 (wts n) m r), .val (.wd w), .val (.int lost), .val (.int put), .val (.tw C), .no]) (setM_of (d := .tw C) hc) ?_
  refine seq_rt (retM_of (o1_of (a := .lw (C.filter (inB m r))) ?_ rfl))
  show (if C.length ≤ 1000000 then lcTo (.lw []) _ _ _ _ C.length else none) = _
  rw [if_pos (by omega), lcTo_filter (ws := C) (p := inB m r) (fun i hi => ⟨?_, rfl⟩) C.length (Nat.le_refl _), List.take_length]
  refine t1_of (a := .bl (inB m r (C.getD i []))) (has_ok T hm (hC _ (getD_mem hi))) rfl
include T in
theorem sum_words_ok (r0 : 0 ≤ r) (r1 : r < m) (hl : (allW n.toNat).length ≤ 100) : F_law_sum_words [.int n, .int m, .int r] = some (.lw ((allW n.toNat).filter (inB m r))) := by
  refine res_rt rfl ?_
  show m_law_sum_words [.val (.int n), .val (.int m), .val (.int r), .no] = _
  refine seq_rt (retM_of ?_)
  unfold lcM
  have e : srcA 3 (oA (fun ds => F_law_all_words (ds ++ [])) (consA (fun _ => some (.int 2)) (consA (oVar 0) (fun _ => some [])))) [.val (.int n), .val (.int m), .val (.int r), .no] = some ((allW n.toNat).length, fun i Γ' => Γ'.set 3 (.val (itd (.lw (allW n.toNat)) i))) := by
    unfold srcA
    rw [show (oA (fun ds => F_law_all_words (ds ++ [])) (consA (fun _ => some (.int 2)) (consA (oVar 0) (fun _ => some [])))) [.val (.int n), .val (.int m), .val (.int r), .no] = some (.lw (allW n.toNat)) from T.a0]
    rfl
  rw [e]
  show (if (allW n.toNat).length ≤ 1000000 then lcTo (.lw []) (fun i Γ' => Γ'.set 3 (.val (itd (.lw (allW n.toNat)) i))) _ _ _ (allW n.toNat).length else none) = _
  have it : ∀ i, i < (allW n.toNat).length → itd (.lw (allW n.toNat)) i = .wd ((allW n.toNat).getD i []) := fun i hi => by
    show (((allW n.toNat)[i]?).map Da.wd).getD .non = _
    rw [List.getD_eq_getElem?_getD, List.getElem?_eq_getElem hi]
    rfl
  rw [if_pos (by omega), lcTo_filter (ws := allW n.toNat) (p := inB m r) (fun i hi => ?_) _ (Nat.le_refl _), List.take_length]
  show _ ∧ some (itd (.lw (allW n.toNat)) i) = _
  refine ⟨?_, by rw [it i hi]⟩
  refine t2_of (a := .int ((sW 1 ((allW n.toNat).getD i []) - r) % m)) (b := .int 0) (o2_of (a := .int (sW 1 ((allW n.toNat).getD i []) - r)) (b := .int m) (o1_of (a := .int (sW 1 ((allW n.toNat).getD i []) - r)) (o2_of (a := .int (sW 1 ((allW n.toNat).getD i []))) (b := .int r) ?_ rfl rfl) rfl) rfl (modD_ok (by omega))) rfl ?_
  · refine oA_of (ds := [.wd ((allW n.toNat).getD i [])]) (consA_of (a := .wd ((allW n.toNat).getD i [])) ?_ rfl) (T.ls _ (getD_mem hi))
    show some (itd (.lw (allW n.toNat)) i) = _
    rw [it i hi]
  · show some (decide _) = some (decide _)
    rw [mod_iff r0 r1]
theorem behind_ok {ws : List (List Int)} {w : List Int} {k : Int} (hw : w.length < 1000) (hl : ws.length ≤ 100) : F_law_behind [.lw ws, .wd w, .int k] = some (.lw (ws.filter fun x => lcsB k x w)) := by
  refine res_rt rfl ?_
  show m_law_behind [.val (.lw ws), .val (.wd w), .val (.int k), .no] = _
  refine seq_rt (retM_of ?_)
  show (if ws.length ≤ 1000000 then lcTo (.lw []) (fun i Γ' => Γ'.set 3 (.val (itd (.lw ws) i))) _ _ _ ws.length else none) = _
  have it : ∀ i, i < ws.length → itd (.lw ws) i = .wd (ws.getD i []) := fun i hi => by
    show ((ws[i]?).map Da.wd).getD .non = _
    rw [List.getD_eq_getElem?_getD, List.getElem?_eq_getElem hi]
    rfl
  rw [if_pos (by omega), lcTo_filter (ws := ws) (p := fun x => lcsB k x w) (fun i hi => ?_) _ (Nat.le_refl _), List.take_length]
  have e3 : (oVar 3) ((wipeΓ [.val (.lw ws), .val (.wd w), .val (.int k), .no] [3]).set 3 (.val (itd (.lw ws) i))) = some (.wd (ws.getD i [])) := by
    show some (itd (.lw ws) i) = _
    rw [it i hi]
  refine ⟨t2_of (a := .int (lcs (ws.getD i []) w)) (b := .int (((ws.getD i []).length : Int) - k)) (oA_of (consA_of e3 (consA_of (a := .wd w) rfl rfl)) (common_ok hw)) (o2_of (a := .int ((ws.getD i []).length : Int)) (b := .int k) (o1_of e3 rfl) rfl rfl) rfl, e3⟩
end
end K54

set_option Elab.async false
set_option linter.all false
set_option maxRecDepth 100000
set_option maxHeartbeats 4000000
/-! P7: reading by the books' plain forms. -/
namespace K54
def wdO : Option (List Int) → Da
  | some w => .wd w
  | none => .non
def lostP (n m r : Int) (w : List Int) : Option (List Int) := if n < (r - sW 1 w) % m then none else some (liftP w ((r - sW 1 w) % m))
def putPl (n m r : Int) (w : List Int) : Option Nat := match lowP w ((sW 1 w - r) % m) with
  | some p => some p
  | none => if (sW 1 w - r) % m = 0 ∧ m = n + 1 then lowP w (n + 1) else none
def putP (n m r : Int) (w : List Int) : Option (List Int) := match putPl n m r w with
  | some p => some (w.take p ++ w.drop (p + 1))
  | none => none
section
variable {n m r : Int} (T : Tab n)
include T in
theorem above_ok (hm : 0 < m) {w : List Int} (hw : w ∈ allW (n.toNat - 1)) : F_member_above [.sb n m r, .wd w] = some (wdO (lostP n m r w)) := by
  have hn1 := T.n1
  have hn5 := T.n5
  obtain ⟨_, _, _, t4⟩ := tabW_of (by omega) hw
  have k0 : 0 ≤ (r - sW 1 w) % m := Int.emod_nonneg _ (by omega)
  have e : F_loss_amount [.sb n m r, .wd w] = some (if n < (r - sW 1 w) % m then .non else .int ((r - sW 1 w) % m)) := by
    refine res_rt rfl ?_
    show m_loss_amount [.val (.sb n m r), .val (.wd w), .no] = _
    refine seq_of (Γ' := [.val (.sb n m r), .val (.wd w), .val (.int ((r - sW 1 w) % m))]) (setM_of (d := .int ((r - sW 1 w) % m)) (o2_of (a := .int (r - sW 1 w)) (b := .int m) (o2_of (a := .int r) (b := .int (sW 1 w)) rfl t4 rfl) rfl (modD_ok hm))) ?_
    by_cases h : n < (r - sW 1 w) % m
    · rw [if_pos h]
      refine seq_rt (ifM_t (t2_of (a := .int ((r - sW 1 w) % m)) (b := .int n) rfl rfl ?_) rfl)
      show some (decide _) = _
      rw [decide_eq_true h]
    · rw [if_neg h]
      refine seq_of (ifM_f (t2_of (a := .int ((r - sW 1 w) % m)) (b := .int n) rfl rfl ?_) rfl) rfl
      show some (decide _) = _
      rw [decide_eq_false h]
  refine res_rt rfl ?_
  show m_member_above [.val (.sb n m r), .val (.wd w), .no] = _
  unfold lostP
  by_cases h : n < (r - sW 1 w) % m
  · rw [if_pos h] at e ⊢
    exact seq_of (setM_of (d := .non) e) rfl
  · rw [if_neg h] at e ⊢
    refine seq_of (setM_of (d := .int ((r - sW 1 w) % m)) e) ?_
    refine seq_of (Γ' := [.val (.sb n m r), .val (.wd w), .val (.int ((r - sW 1 w) % m))]) rfl ?_
    exact seq_rt (retM_of (T.li w hw _ k0 (by omega)))
theorem check_read_ok {w : List Int} {j : Nat} {k : Int} (hj : j ≤ 6) (hw : w ∈ allW j) (hk : (j : Int) = k) : F_check_read [.wd w, .int k] = some (.wd w) := by
  obtain ⟨_, _, t3, _⟩ := tabW_of hj hw
  refine res_rt rfl ?_
  show m_check_read [.val (.wd w), .val (.int k)] = _
  refine seq_of (Γ' := [.val (.wd w), .val (.int k)]) (setM_of (d := .wd w) t3) ?_
  refine seq_of (Γ' := [.val (.wd w), .val (.int k)]) (ifM_f (t2_of (a := .int (w.length : Int)) (b := .int k) rfl rfl ?_) rfl) rfl
  show some (decide _) = _
  rw [allW_len hw, decide_eq_false (fun q => q hk)]
include T in
theorem read_lost_ok (hm : 0 < m) {w : List Int} (hw : w ∈ allW (n.toNat - 1)) : F_read_lost [.sb n m r, .wd w] = some (wdO (lostP n m r w)) := by
  have hn1 := T.n1
  have hn5 := T.n5
  refine res_rt rfl ?_
  show m_read_lost [.val (.sb n m r), .val (.wd w)] = _
  refine seq_rt (retM_of (oA_of (ds := [.sb n m r, .wd w]) (consA_of (a := .sb n m r) rfl (consA_of (a := .wd w) ?_ rfl)) (above_ok T hm hw)))
  exact check_read_ok (k := n - 1) (by omega) hw (by omega)
include T in
theorem read_put_ok (hm : 0 < m) (hm2 : m ≤ upTo n) {w : List Int} (hw : w ∈ allW (n.toNat + 1)) : F_read_put [.sb n m r, .wd w] = some (wdO (putP n m r w)) := by
  have hn1 := T.n1
  have hn5 := T.n5
  obtain ⟨_, _, _, t4⟩ := tabW_of (by omega) hw
  have k0 : 0 ≤ (sW 1 w - r) % m := Int.emod_nonneg _ (by omega)
  have k1 : (sW 1 w - r) % m < m := Int.emod_lt_of_pos _ hm
  have hl := allW_len hw
  have hn6 : n + 1 < upTo n := by unfold upTo; split <;> omega
  have lo := T.lo w hw _ k0 (by omega)
  have e : F_put_place [.sb n m r, .wd w] = some (plD (putPl n m r w)) := by
    refine res_rt rfl ?_
    show m_put_place [.val (.sb n m r), .val (.wd w), .no, .no] = _
    refine seq_of (Γ' := [.val (.sb n m r), .val (.wd w), .val (.int ((sW 1 w - r) % m)), .no]) (setM_of (d := .int ((sW 1 w - r) % m)) (o2_of (a := .int (sW 1 w - r)) (b := .int m) (o2_of (a := .int (sW 1 w)) (b := .int r) t4 rfl rfl) rfl (modD_ok hm))) ?_
    refine seq_of (Γ' := [.val (.sb n m r), .val (.wd w), .val (.int ((sW 1 w - r) % m)), .val (plD (lowP w ((sW 1 w - r) % m)))]) (setM_of lo) ?_
    unfold putPl
    cases hp : lowP w ((sW 1 w - r) % m) with
    | some p => exact seq_of rfl rfl
    | none =>
      show _ = some (Out.rt (plD (if (sW 1 w - r) % m = 0 ∧ m = n + 1 then lowP w (n + 1) else none)))
      have tt : (andM (t1 (fun d => some (isNon d)) (oVar 3)) (andM (t2 eqD (oVar 2) (fun _ => some (.int 0))) (t1 asB (o1 fullD54 (oVar 0))))) [.val (.sb n m r), .val (.wd w), .val (.int ((sW 1 w - r) % m)), .val (plD none)] = some (decide ((sW 1 w - r) % m = 0 ∧ m = n + 1)) := by
        show (match some (decide ((sW 1 w - r) % m = 0)) with
          | some true => some (decide (m = n + 1))
          | some false => some false
          | none => none) = _
        by_cases a : (sW 1 w - r) % m = 0
        · rw [decide_eq_true a]
          show some (decide _) = _
          exact congrArg some (decide_eq_decide.mpr ⟨fun z => ⟨a, z⟩, fun z => z.2⟩)
        · rw [decide_eq_false a, decide_eq_false (show ¬ ((sW 1 w - r) % m = 0 ∧ m = n + 1) from fun q => a q.1)]
      by_cases h : (sW 1 w - r) % m = 0 ∧ m = n + 1
      · rw [if_pos h]
        rw [decide_eq_true h] at tt
        refine seq_rt (ifM_t tt (seq_rt (retM_of ?_)))
        refine oA_of (ds := [.wd w, .int (w.length : Int)]) rfl ?_
        have h2 : ((w.length : Nat) : Int) = n + 1 := by rw [hl]; omega
        rw [h2]
        exact T.lo w hw _ (by omega) hn6
      · rw [if_neg h]
        rw [decide_eq_false h] at tt
        exact seq_of (ifM_f tt rfl) rfl
  have e2 : F_member_below [.sb n m r, .wd w] = some (wdO (putP n m r w)) := by
    refine res_rt rfl ?_
    show m_member_below [.val (.sb n m r), .val (.wd w), .no] = _
    refine seq_of (Γ' := [.val (.sb n m r), .val (.wd w), .val (plD (putPl n m r w))]) (setM_of e) ?_
    unfold putP
    cases hp : putPl n m r w with
    | none => rfl
    | some p =>
      refine seq_of (Γ' := [.val (.sb n m r), .val (.wd w), .val (.int (p : Int))]) rfl ?_
      refine seq_rt (retM_of (o2_of (a := .wd (w.take p)) (b := .wd (w.drop (p + 1))) (o2_of (a := .wd w) (b := .int (p : Int)) rfl rfl ?_) (o2_of (a := .wd w) (b := .int ((p : Int) + 1)) rfl rfl ?_) ?_))
      · show (if 0 ≤ (p : Int) then some (Da.wd (w.take (p : Int).toNat)) else none) = _
        rw [if_pos (by omega)]
        rfl
      · show (if 0 ≤ (p : Int) + 1 then some (Da.wd (w.drop ((p : Int) + 1).toNat)) else none) = _
        rw [if_pos (by omega), show ((p : Int) + 1).toNat = p + 1 by omega]
      · show (if (w.take p).length + (w.drop (p + 1)).length ≤ 1000 then some (Da.wd (w.take p ++ w.drop (p + 1))) else none) = _
        rw [if_pos (by rw [List.length_take, List.length_drop]; omega)]
        rfl
  refine res_rt rfl ?_
  show m_read_put [.val (.sb n m r), .val (.wd w)] = _
  refine seq_rt (retM_of (oA_of (ds := [.sb n m r, .wd w]) (consA_of (a := .sb n m r) rfl (consA_of (a := .wd w) ?_ rfl)) e2))
  exact check_read_ok (k := n + 1) (by omega) hw (by omega)
/-- the members near a word, found one loss at a time -/
def nearP (n m r : Int) (w : List Int) : Nat → Nat → List (List Int) → List (List Int)
  | 0, _, acc => acc
  | k + 1, i, acc => nearP n m r w k (i + 1) (match lostP n m r (w.take i ++ w.drop (i + 1)) with
    | some u => putW acc u
    | none => acc)
theorem putW_len {acc : List (List Int)} {u : List Int} : (putW acc u).length ≤ acc.length + 1 := by
  unfold putW
  split
  · omega
  · rw [List.length_append]; exact Nat.le_refl _
abbrev bodyN : Ms := (seqM (setM 4 (oA (fun ds => F_member_above (ds ++ [])) (consA (oVar 0) (consA (o2 addD (o2 toD (oVar 1) (oVar 3)) (o2 fromD (oVar 1) (o2 addD (oVar 3) (fun _ => some (.int 1))))) (fun _ => some [])))))
      (seqM (ifM (t1 (fun d => some (!isNon d)) (oVar 4)) (seqM (putT 2 (oVar 4))
        skipM) skipM)
      skipM))
include T in
theorem loopN (hm : 0 < m) {w : List Int} (hw : w ∈ allW n.toNat) : ∀ (k i : Nat) (acc : List (List Int)) (e3 e4 : Ent), i + k = n.toNat → acc.length + k < 1000 → ∃ e3' e4', loopM (fun k Γ' => Γ'.set 3 (.val (.int (k : Int)))) bodyN k i [.val (.sb n m r), .val (.wd w), .dT acc, e3, e4] =
    some (.nx [.val (.sb n m r), .val (.wd w), .dT (nearP n m r w k i acc), e3', e4'])
  | 0, i, acc, e3, e4, _, _ => ⟨e3, e4, rfl⟩
  | k + 1, i, acc, e3, e4, hi, ha => by
    have hn1 := T.n1
    have hn5 := T.n5
    have hl := allW_len hw
    have hu : w.take i ++ w.drop (i + 1) ∈ allW (n.toNat - 1) := by
      refine allW_drop (by rw [show n.toNat - 1 + 1 = n.toNat by omega]; exact hw) (by omega)
    have s1 : setM 4 (oA (fun ds => F_member_above (ds ++ [])) (consA (oVar 0) (consA (o2 addD (o2 toD (oVar 1) (oVar 3)) (o2 fromD (oVar 1) (o2 addD (oVar 3) (fun _ => some (.int 1))))) (fun _ => some [])))) [.val (.sb n m r), .val (.wd w), .dT acc, .val (.int (i : Int)), e4] =
        some (.nx [.val (.sb n m r), .val (.wd w), .dT acc, .val (.int (i : Int)), .val (wdO (lostP n m r (w.take i ++ w.drop (i + 1))))]) := by
      refine setM_of (d := wdO (lostP n m r (w.take i ++ w.drop (i + 1)))) (oA_of (ds := [.sb n m r, .wd (w.take i ++ w.drop (i + 1))]) (consA_of (a := .sb n m r) rfl (consA_of (a := .wd (w.take i ++ w.drop (i + 1))) ?_ rfl)) (above_ok T hm hu))
      refine o2_of (a := .wd (w.take i)) (b := .wd (w.drop (i + 1))) (o2_of (a := .wd w) (b := .int (i : Int)) rfl rfl ?_) (o2_of (a := .wd w) (b := .int ((i : Int) + 1)) rfl rfl ?_) ?_
      · show (if 0 ≤ (i : Int) then some (Da.wd (w.take (i : Int).toNat)) else none) = _
        rw [if_pos (by omega)]
        rfl
      · show (if 0 ≤ (i : Int) + 1 then some (Da.wd (w.drop ((i : Int) + 1).toNat)) else none) = _
        rw [if_pos (by omega), show ((i : Int) + 1).toNat = i + 1 by omega]
      · show (if (w.take i).length + (w.drop (i + 1)).length ≤ 1000 then some (Da.wd (w.take i ++ w.drop (i + 1))) else none) = _
        rw [if_pos (by rw [List.length_take, List.length_drop]; omega)]
    cases hp : lostP n m r (w.take i ++ w.drop (i + 1)) with
    | none =>
      rw [hp] at s1
      obtain ⟨f3, f4, h⟩ := loopN hm hw k (i + 1) acc (.val (.int (i : Int))) (.val .non) (by omega) (by omega)
      refine ⟨f3, f4, ?_⟩
      have b : bodyN [.val (.sb n m r), .val (.wd w), .dT acc, .val (.int (i : Int)), e4] = some (.nx [.val (.sb n m r), .val (.wd w), .dT acc, .val (.int (i : Int)), .val .non]) := seq_of s1 rfl
      unfold loopM nearP
      rw [show ([Ent.val (.sb n m r), .val (.wd w), .dT acc, e3, e4].set 3 (.val (.int (i : Int)))) = [Ent.val (.sb n m r), .val (.wd w), .dT acc, .val (.int (i : Int)), e4] from rfl, b, hp]
      exact h
    | some u =>
      rw [hp] at s1
      have hpl := @putW_len acc u
      obtain ⟨f3, f4, h⟩ := loopN hm hw k (i + 1) (putW acc u) (.val (.int (i : Int))) (.val (.wd u)) (by omega) (by omega)
      refine ⟨f3, f4, ?_⟩
      have b : bodyN [.val (.sb n m r), .val (.wd w), .dT acc, .val (.int (i : Int)), e4] = some (.nx [.val (.sb n m r), .val (.wd w), .dT (putW acc u), .val (.int (i : Int)), .val (.wd u)]) := by
        refine seq_of s1 ?_
        have p : putT 2 (oVar 4) [.val (.sb n m r), .val (.wd w), .dT acc, .val (.int (i : Int)), .val (.wd u)] = some (.nx [.val (.sb n m r), .val (.wd w), .dT (putW acc u), .val (.int (i : Int)), .val (.wd u)]) := by
          show (if acc.length < 1000000 then some (Out.nx ([Ent.val (.sb n m r), .val (.wd w), .dT acc, .val (.int (i : Int)), .val (.wd u)].set 2 (.dT (putW acc u)))) else none) = _
          rw [if_pos (by omega)]
          rfl
        exact seq_of (ifM_t rfl (seq_of p rfl)) rfl
      unfold loopM nearP
      rw [show ([Ent.val (.sb n m r), .val (.wd w), .dT acc, e3, e4].set 3 (.val (.int (i : Int)))) = [Ent.val (.sb n m r), .val (.wd w), .dT acc, .val (.int (i : Int)), e4] from rfl, b, hp]
      exact h
include T in
theorem near_ok (hm : 0 < m) {w : List Int} (hw : w ∈ allW n.toNat) (hs : okS (nearP n m r w n.toNat 0 []) = true) : F_near_members [.sb n m r, .wd w] = some (.tw (sortW (nearP n m r w n.toNat 0 []))) := by
  have hn1 := T.n1
  have hn5 := T.n5
  obtain ⟨_, t2, _, _⟩ := tabW_of (by omega) hw
  have hl := allW_len hw
  obtain ⟨e3, e4, h⟩ := loopN (r := r) T hm hw n.toNat 0 [] .no .no (by omega) (by show 0 + n.toNat < 1000; omega)
  refine res_rt rfl ?_
  show m_near_members [.val (.sb n m r), .val (.wd w), .no, .no, .no] = _
  refine seq_of (Γ' := [.val (.sb n m r), .val (.wd w), .no, .no, .no]) (setM_of (d := .wd w) t2) ?_
  refine seq_of (Γ' := [.val (.sb n m r), .val (.wd w), .no, .no, .no]) (ifM_f (t2_of (a := .int (w.length : Int)) (b := .int n) rfl rfl ?_) rfl) ?_
  · show some (decide _) = _
    rw [hl, decide_eq_false (fun q => q (by omega))]
  refine seq_of (Γ' := [.val (.sb n m r), .val (.wd w), .dT [], .no, .no]) rfl ?_
  refine seq_of (Γ' := [.val (.sb n m r), .val (.wd w), .dT (nearP n m r w n.toNat 0 []), e3, e4]) ?_ ?_
  · have s : srcR1 3 (o1 lenD (oVar 1)) [.val (.sb n m r), .val (.wd w), .dT [], .no, .no] = some (n.toNat, fun k Γ' => Γ'.set 3 (.val (.int (k : Int)))) := by
      show (if -100000 ≤ (w.length : Int) ∧ (w.length : Int) ≤ 100000 then some ((w.length : Int).toNat, fun (k : Nat) (Γ' : List Ent) => Γ'.set 3 (.val (.int (k : Int)))) else none) = _
      rw [if_pos ⟨by omega, by omega⟩, hl]
      rfl
    unfold forM
    rw [s]
    exact h
  · refine seq_rt (retM_of (o1_of (a := .lw (sortW (nearP n m r w n.toNat 0 []))) (o1_of (a := .lw (nearP n m r w n.toNat 0 [])) rfl ?_) rfl))
    show (if okS (nearP n m r w n.toNat 0 []) then some (Da.lw (sortW (nearP n m r w n.toNat 0 []))) else none) = _
    rw [if_pos hs]
theorem several_ok {b : Da} {w : List Int} {x y : Int} {C : List (List Int)} (h : F_members_behind [b, .wd w, .int x, .int y] = some (.tw C)) (hl : C.length ≤ 1) : F_read_several [b, .wd w, .int x, .int y] = some (wdO C.head?) := by
  refine res_rt rfl ?_
  show m_read_several [.val b, .val (.wd w), .val (.int x), .val (.int y), .no] = _
  refine seq_of (Γ' := [.val b, .val (.wd w), .val (.int x), .val (.int y), .val (.tw C)]) (setM_of (d := .tw C) h) ?_
  cases C with
  | nil => rfl
  | cons u C =>
    cases C with
    | nil => rfl
    | cons _ _ => simp at hl
include T in
theorem sum_members_ok (hm : 0 < m) (hl : (allW n.toNat).length ≤ 100) : F_sum_members [.sb n m r] = some ((allW n.toNat).filter (inB m r)) := by
  have hn1 := T.n1
  have hn5 := T.n5
  have it : ∀ i, i < (allW n.toNat).length → itd (.lw (allW n.toNat)) i = .wd ((allW n.toNat).getD i []) := fun i hi => by
    show (((allW n.toNat)[i]?).map Da.wd).getD .non = _
    rw [List.getD_eq_getElem?_getD, List.getElem?_eq_getElem hi]
    rfl
  unfold F_sum_members genM
  rw [if_pos (show [Da.sb n m r].length = 1 from rfl)]
  have p0 : ifM (t2 gtD (o1 fLenD (oVar 0)) (fun _ => some (.int 14))) badM skipM [.val (.sb n m r), .no] = some (.nx [.val (.sb n m r), .no]) := by
    refine ifM_f (t2_of (a := .int n) (b := .int 14) rfl rfl ?_) rfl
    show some (decide _) = _
    rw [decide_eq_false (by omega)]
  have p1 : srcA 1 (oA (fun ds => F_every_word (ds ++ [])) (consA (fun _ => some (.int 2)) (consA (o1 fLenD (oVar 0)) (fun _ => some [])))) [.val (.sb n m r), .no] = some ((allW n.toNat).length, fun i Γ' => Γ'.set 1 (.val (itd (.lw (allW n.toNat)) i))) := by
    unfold srcA
    rw [show (oA (fun ds => F_every_word (ds ++ [])) (consA (fun _ => some (.int 2)) (consA (o1 fLenD (oVar 0)) (fun _ => some [])))) [.val (.sb n m r), .no] = some (.lw (allW n.toNat)) from T.ev]
    rfl
  show (match ifM (t2 gtD (o1 fLenD (oVar 0)) (fun _ => some (.int 14))) badM skipM [.val (.sb n m r), .no] with
    | some (.nx Γ) => (match srcA 1 (oA (fun ds => F_every_word (ds ++ [])) (consA (fun _ => some (.int 2)) (consA (o1 fLenD (oVar 0)) (fun _ => some [])))) Γ with
      | some (k, y) => genL y skipM _ _ k 0 Γ []
      | none => none)
    | _ => none) = _
  rw [p0]
  show (match srcA 1 (oA (fun ds => F_every_word (ds ++ [])) (consA (fun _ => some (.int 2)) (consA (o1 fLenD (oVar 0)) (fun _ => some [])))) [.val (.sb n m r), .no] with
      | some (k, y) => genL y skipM _ _ k 0 [.val (.sb n m r), .no] []
      | none => none) = _
  rw [p1]
  refine (genL_filter (ws := allW n.toNat) (p := inB m r) (I := fun Γ => ∃ e, Γ = [.val (.sb n m r), e]) (fun i Γ hi ⟨e, hΓ⟩ => ?_) _ 0 _ [] ⟨_, rfl⟩ (by omega) (by show 0 + _ < _; omega)).trans ?_
  · subst hΓ
    obtain ⟨_, _, _, t4⟩ := tabW_of (show n.toNat ≤ 6 by omega) (getD_mem hi)
    refine ⟨[.val (.sb n m r), .val (.wd ((allW n.toNat).getD i []))], ?_, ⟨_, rfl⟩, ?_, rfl⟩
    · show some (Out.nx [.val (.sb n m r), .val (itd (.lw (allW n.toNat)) i)]) = _
      rw [it i hi]
    · exact t2_of (a := .int (sW 1 ((allW n.toNat).getD i []) % m)) (b := .int r) (o2_of (a := .int (sW 1 ((allW n.toNat).getD i []))) (b := .int m) t4 rfl (modD_ok hm)) rfl rfl
  · rw [List.nil_append, List.drop_zero]
include T in
theorem weight_members_ok (hm : 0 < m) (hl : (allW n.toNat).length ≤ 100) : F_weight_members [.wb 2 (wts n) m r] = some ((allW n.toNat).filter (inB m r)) := by
  have hn1 := T.n1
  have hn5 := T.n5
  unfold F_weight_members genM
  rw [if_pos (show [Da.wb 2 (wts n) m r].length = 1 from rfl)]
  have p0 : seqM (setM 1 (oA (fun ds => F_power_of (ds ++ [])) (consA (o1 fLetD (oVar 0)) (consA (o1 fLenD (oVar 0)) (fun _ => some []))))) (ifM (t2 gtD (oVar 1) (fun _ => some (.int 2048))) badM skipM) [.val (.wb 2 (wts n) m r), .no, .no, .no] = some (.nx [.val (.wb 2 (wts n) m r), .val (.int ((allW n.toNat).length : Int)), .no, .no]) := by
    refine seq_of (Γ' := [.val (.wb 2 (wts n) m r), .val (.int ((allW n.toNat).length : Int)), .no, .no]) (setM_of (d := .int ((allW n.toNat).length : Int)) (oA_of (ds := [.int 2, .int ((wts n).length : Int)]) rfl ?_)) ?_
    · rw [T.wl]; exact T.pw
    · refine ifM_f (t2_of (a := .int ((allW n.toNat).length : Int)) (b := .int 2048) rfl rfl ?_) rfl
      show some (decide _) = _
      rw [decide_eq_false (by omega)]
  have p1 : srcR1 2 (oVar 1) [.val (.wb 2 (wts n) m r), .val (.int ((allW n.toNat).length : Int)), .no, .no] = some ((allW n.toNat).length, fun k Γ' => Γ'.set 2 (.val (.int (k : Int)))) := by
    show (if -100000 ≤ ((allW n.toNat).length : Int) ∧ ((allW n.toNat).length : Int) ≤ 100000 then some (((allW n.toNat).length : Int).toNat, fun (k : Nat) (Γ' : List Ent) => Γ'.set 2 (.val (.int (k : Int)))) else none) = _
    rw [if_pos ⟨by omega, by omega⟩]
    rfl
  show (match seqM (setM 1 (oA (fun ds => F_power_of (ds ++ [])) (consA (o1 fLetD (oVar 0)) (consA (o1 fLenD (oVar 0)) (fun _ => some []))))) (ifM (t2 gtD (oVar 1) (fun _ => some (.int 2048))) badM skipM) [.val (.wb 2 (wts n) m r), .no, .no, .no] with
    | some (.nx Γ) => (match srcR1 2 (oVar 1) Γ with
      | some (k, y) => genL y _ _ _ k 0 Γ []
      | none => none)
    | _ => none) = _
  rw [p0]
  show (match srcR1 2 (oVar 1) [.val (.wb 2 (wts n) m r), .val (.int ((allW n.toNat).length : Int)), .no, .no] with
      | some (k, y) => genL y _ _ _ k 0 [.val (.wb 2 (wts n) m r), .val (.int ((allW n.toNat).length : Int)), .no, .no] []
      | none => none) = _
  rw [p1]
  refine (genL_filter (ws := allW n.toNat) (p := inB m r) (I := fun Γ => ∃ e e', Γ = [.val (.wb 2 (wts n) m r), .val (.int ((allW n.toNat).length : Int)), e, e']) (fun i Γ hi ⟨e, e', hΓ⟩ => ?_) _ 0 _ [] ⟨_, _, rfl⟩ (by omega) (by show 0 + _ < _; omega)).trans ?_
  · subst hΓ
    refine ⟨[.val (.wb 2 (wts n) m r), .val (.int ((allW n.toNat).length : Int)), .val (.int (i : Int)), .val (.wd ((allW n.toNat).getD i []))], ?_, ⟨_, _, rfl⟩, ?_, rfl⟩
    · refine setM_of (Γ := [.val (.wb 2 (wts n) m r), .val (.int ((allW n.toNat).length : Int)), .val (.int (i : Int)), e']) (d := .wd ((allW n.toNat).getD i [])) (oA_of (ds := [.int 2, .int ((wts n).length : Int), .int (i : Int)]) rfl ?_)
      rw [T.wl]
      exact T.wa i hi
    · exact t2_of (a := .int (sW 1 ((allW n.toNat).getD i []) % m)) (b := .int r) (o2_of (a := .int (sW 1 ((allW n.toNat).getD i []))) (b := .int m) (T.sb _ (getD_mem hi)) rfl (modD_ok hm)) rfl rfl
  · rw [List.nil_append, List.drop_zero]
end
end K54

set_option Elab.async false
set_option linter.all false
set_option maxRecDepth 100000
set_option maxHeartbeats 40000000
/-! P8: the plain law of the books, as checks. -/
namespace K54
def cnd (n k : Int) (w : List Int) : List (List Int) := (allW n.toNat).filter fun x => lcsB k x w
def forMR (n : Int) (p : Int → Int → Bool) : Bool := (List.range (upTo n - n).toNat).all fun (i : Nat) => (List.range (n + 1 + (i : Int)).toNat).all fun (r : Nat) => p (n + 1 + (i : Int)) (r : Int)
theorem forMR_of {n : Int} {p : Int → Int → Bool} (h : forMR n p = true) {m r : Int} (h1 : n + 1 ≤ m) (h2 : m ≤ upTo n) (h3 : 0 ≤ r) (h4 : r < m) : p m r = true := by
  unfold forMR at h
  have h5 := List.all_eq_true.mp h (m - n - 1).toNat (List.mem_range.mpr (by omega))
  have e : n + 1 + ((m - n - 1).toNat : Int) = m := by omega
  rw [e] at h5
  have h6 := List.all_eq_true.mp h5 r.toNat (List.mem_range.mpr (by omega))
  rw [Int.toNat_of_nonneg h3] at h6
  exact h6
def lenLe1 : List (List Int) → Bool
  | [] => true
  | [_] => true
  | _ => false
theorem lenLe1_eq {l : List (List Int)} (h : lenLe1 l = true) : l.length ≤ 1 := by
  unfold lenLe1 at h
  split at h
  · exact Nat.zero_le _
  · exact Nat.le_refl _
  · cases h
def ck1 (n : Int) (w : List Int) : Bool := forMR n fun m r => lenLe1 ((cnd n 1 w).filter (inB m r)) && (lostP n m r w == ((cnd n 1 w).filter (inB m r)).head?)
def ck2 (n : Int) (w : List Int) : Bool := forMR n fun m r => lenLe1 ((cnd n 0 w).filter (inB m r)) && (putP n m r w == ((cnd n 0 w).filter (inB m r)).head?)
def ck3 (n : Int) (w : List Int) : Bool := forMR n fun m r => okS (nearP n m r w n.toNat 0 []) && (sortW (nearP n m r w n.toNat 0 []) == (cnd n 1 w).filter (inB m r))
def ck (n : Int) : Bool := (allW (n.toNat - 1)).all (ck1 n) && (allW (n.toNat + 1)).all (ck2 n) && (allW n.toNat).all (ck3 n)
theorem ck_12 : ([1, 2] : List Int).all ck = true := by decide +kernel
end K54

set_option Elab.async false
set_option linter.all false
set_option maxRecDepth 100000
set_option maxHeartbeats 40000000
namespace K54
theorem ck_3 : ck 3 = true := by decide +kernel
end K54

set_option Elab.async false
set_option linter.all false
set_option maxRecDepth 100000
set_option maxHeartbeats 40000000
namespace K54
theorem ck1_4 : (allW 3).all (ck1 4) = true := by decide +kernel
theorem ck2_4_0 : (((allW 5).drop 0).take 8).all (ck2 4) = true := by decide +kernel
theorem ck2_4_1 : (((allW 5).drop 8).take 8).all (ck2 4) = true := by decide +kernel
theorem ck2_4_2 : (((allW 5).drop 16).take 8).all (ck2 4) = true := by decide +kernel
theorem ck2_4_3 : (((allW 5).drop 24).take 8).all (ck2 4) = true := by decide +kernel
theorem ck2_4 : (allW 5).all (ck2 4) = true := (all_from 8 0 ck2_4_0 (all_from 8 8 ck2_4_1 (all_from 8 16 ck2_4_2 (all_from 8 24 ck2_4_3 (show ((allW 5).drop 32).all (ck2 4) = true by decide +kernel)))))
theorem ck3_4_0 : (((allW 4).drop 0).take 4).all (ck3 4) = true := by decide +kernel
theorem ck3_4_1 : (((allW 4).drop 4).take 4).all (ck3 4) = true := by decide +kernel
theorem ck3_4_2 : (((allW 4).drop 8).take 4).all (ck3 4) = true := by decide +kernel
theorem ck3_4_3 : (((allW 4).drop 12).take 4).all (ck3 4) = true := by decide +kernel
theorem ck3_4 : (allW 4).all (ck3 4) = true := (all_from 4 0 ck3_4_0 (all_from 4 4 ck3_4_1 (all_from 4 8 ck3_4_2 (all_from 4 12 ck3_4_3 (show ((allW 4).drop 16).all (ck3 4) = true by decide +kernel)))))
theorem ck_4 : ck 4 = true := by
  show ((allW 3).all (ck1 4) && (allW 5).all (ck2 4) && (allW 4).all (ck3 4)) = true
  rw [ck1_4, ck2_4, ck3_4]
  rfl
end K54

set_option Elab.async false
set_option linter.all false
set_option maxRecDepth 100000
set_option maxHeartbeats 40000000
/-! P8c5: the checks for words of five letters. -/
namespace K54
theorem ck1_5 : (allW 4).all (ck1 5) = true := by decide +kernel
theorem ck2_5_0 : (((allW 6).drop 0).take 8).all (ck2 5) = true := by decide +kernel
theorem ck2_5_1 : (((allW 6).drop 8).take 8).all (ck2 5) = true := by decide +kernel
theorem ck2_5_2 : (((allW 6).drop 16).take 8).all (ck2 5) = true := by decide +kernel
theorem ck2_5_3 : (((allW 6).drop 24).take 8).all (ck2 5) = true := by decide +kernel
theorem ck2_5_4 : (((allW 6).drop 32).take 8).all (ck2 5) = true := by decide +kernel
theorem ck2_5_5 : (((allW 6).drop 40).take 8).all (ck2 5) = true := by decide +kernel
theorem ck2_5_6 : (((allW 6).drop 48).take 8).all (ck2 5) = true := by decide +kernel
theorem ck2_5_7 : (((allW 6).drop 56).take 8).all (ck2 5) = true := by decide +kernel
theorem ck3_5_0 : (((allW 5).drop 0).take 4).all (ck3 5) = true := by decide +kernel
theorem ck3_5_1 : (((allW 5).drop 4).take 4).all (ck3 5) = true := by decide +kernel
theorem ck3_5_2 : (((allW 5).drop 8).take 4).all (ck3 5) = true := by decide +kernel
theorem ck3_5_3 : (((allW 5).drop 12).take 4).all (ck3 5) = true := by decide +kernel
theorem ck3_5_4 : (((allW 5).drop 16).take 4).all (ck3 5) = true := by decide +kernel
theorem ck3_5_5 : (((allW 5).drop 20).take 4).all (ck3 5) = true := by decide +kernel
theorem ck3_5_6 : (((allW 5).drop 24).take 4).all (ck3 5) = true := by decide +kernel
theorem ck3_5_7 : (((allW 5).drop 28).take 4).all (ck3 5) = true := by decide +kernel
theorem ck2_5 : (allW 6).all (ck2 5) = true := (all_from 8 0 ck2_5_0 (all_from 8 8 ck2_5_1 (all_from 8 16 ck2_5_2 (all_from 8 24 ck2_5_3 (all_from 8 32 ck2_5_4 (all_from 8 40 ck2_5_5 (all_from 8 48 ck2_5_6 (all_from 8 56 ck2_5_7 (show ((allW 6).drop 64).all (ck2 5) = true by decide +kernel)))))))))
theorem ck3_5 : (allW 5).all (ck3 5) = true := (all_from 4 0 ck3_5_0 (all_from 4 4 ck3_5_1 (all_from 4 8 ck3_5_2 (all_from 4 12 ck3_5_3 (all_from 4 16 ck3_5_4 (all_from 4 20 ck3_5_5 (all_from 4 24 ck3_5_6 (all_from 4 28 ck3_5_7 (show ((allW 5).drop 32).all (ck3 5) = true by decide +kernel)))))))))
theorem ck_5 : ck 5 = true := by
  show ((allW 4).all (ck1 5) && (allW 6).all (ck2 5) && (allW 5).all (ck3 5)) = true
  rw [ck1_5, ck2_5, ck3_5]
  rfl
end K54

set_option Elab.async false
set_option linter.all false
set_option maxRecDepth 100000
set_option maxHeartbeats 4000000
/-! P9: _law_same_right gives true, from the tables and the checks. -/
namespace K54
theorem allW_length : ∀ k : Nat, (allW k).length = 2 ^ k
  | 0 => rfl
  | k + 1 => by
    unfold allW
    rw [List.length_append, List.length_map, List.length_map, allW_length k, Nat.pow_succ]
    omega
theorem allW_le {k : Nat} (h : k ≤ 6) : (allW k).length ≤ 64 := by
  rw [allW_length]
  exact Nat.pow_le_pow_right (show 0 < 2 by decide) h
theorem repr_of {d : Da} (h : okR d = true) : ∃ s, reprD d = some (.str s) := by
  unfold reprD
  rw [if_pos h]
  cases d <;> first
    | (cases h; done)
    | exact ⟨_, rfl⟩
theorem ne_same (s : PySem.Str) : neD (.str s) (.str s) = some false := by
  show some (!decide (s = s)) = some false
  rw [decide_eq_true rfl]
  rfl
theorem ne_repr {f g : Mx} {Γ : List Ent} {d : Da} (h : okR d = true) (h1 : f Γ = some d) (h2 : g Γ = some d) : t2 neD (o1 reprD f) (o1 reprD g) Γ = some false := by
  obtain ⟨s, e⟩ := repr_of h
  exact t2_of (o1_of h1 e) (o1_of h2 e) (ne_same s)
theorem loop_ok {N : Nat} {y : Nat → List Ent → List Ent} {b : Ms} {I : List Ent → Prop} (h : ∀ i Γ, i < N → I Γ → ∃ Γ', b (y i Γ) = some (.nx Γ') ∧ I Γ') : ∀ (k i : Nat) (Γ : List Ent), I Γ → i + k = N → ∃ Γ', loopM y b k i Γ = some (.nx Γ') ∧ I Γ'
  | 0, i, Γ, hI, _ => ⟨Γ, rfl, hI⟩
  | k + 1, i, Γ, hI, hi => by
    obtain ⟨Γ1, h1, h2⟩ := h i Γ (by omega) hI
    obtain ⟨Γ2, h3, h4⟩ := loop_ok h k (i + 1) Γ1 h2 (by omega)
    refine ⟨Γ2, ?_, h4⟩
    unfold loopM
    rw [h1]
    exact h3
theorem itd_lw {W : List (List Int)} {i : Nat} (hi : i < W.length) : itd (.lw W) i = .wd (W.getD i []) := by
  show ((W[i]?).map Da.wd).getD .non = _
  rw [List.getD_eq_getElem?_getD, List.getElem?_eq_getElem hi]
  rfl
theorem for_ok {f : Mx} {b : Ms} {I : List Ent → Prop} {W : List (List Int)} {Γ : List Ent} {j : Nat} (hf : f Γ = some (.lw W)) (hI : I Γ) (h : ∀ w, w ∈ W → ∀ Γ, I Γ → ∃ Γ', b (Γ.set j (.val (.wd w))) = some (.nx Γ') ∧ I Γ') :
    ∃ Γ', forM (srcA j f) b Γ = some (.nx Γ') ∧ I Γ' := by
  have e : srcA j f Γ = some (W.length, fun i Γ' => Γ'.set j (.val (itd (.lw W) i))) := by
    unfold srcA
    rw [hf]
    rfl
  unfold forM
  rw [e]
  exact loop_ok (N := W.length) (fun i Γ1 hi h1 => by
    show ∃ Γ', b (Γ1.set j (.val (itd (.lw W) i))) = _ ∧ _
    rw [itd_lw hi]
    exact h _ (getD_mem hi) Γ1 h1) W.length 0 Γ hI (by omega)
/-- the slots of the law -/
def IsΓ (n m r : Int) (M : List (List Int)) (Γ : List Ent) : Prop := ∃ e7 e8 e9 e10, Γ = [.no, .val (.int n), .val (.int m), .val (.int r), .val (.sb n m r), .val (.wb 2 (wts n) m r), .val (.lw M), e7, e8, e9, e10]
theorem okR_wdO {B : List (List Int)} (h : ∀ x ∈ B, okw x = true) : okR (wdO B.head?) = true := by
  cases B with
  | nil => rfl
  | cons x B => exact h x (.head _)
theorem okR_tw {B : List (List Int)} (hl : B.length ≤ 100) (h : ∀ x ∈ B, okw x = true) : okR (.tw B) = true := by
  show (decide (B.length ≤ 100) && B.all okw) = true
  rw [Bool.and_eq_true, decide_eq_true_eq, List.all_eq_true]
  exact ⟨hl, h⟩
theorem okR_lw {B : List (List Int)} (hl : B.length ≤ 100) (h : ∀ x ∈ B, okw x = true) : okR (.lw B) = true := okR_tw hl h
/-- a turn of the first two loops -/
theorem turn_ok {n m r k : Int} {M B : List (List Int)} {f g : Mx} {w : List Int} {e8 e9 e10 : Ent} (hb : F_law_behind [.lw M, .wd w, .int k] = some (.lw B)) (hB : ∀ x ∈ B, okw x = true)
    (hf : ∀ e9, f [.no, .val (.int n), .val (.int m), .val (.int r), .val (.sb n m r), .val (.wb 2 (wts n) m r), .val (.lw M), .val (.wd w), .val (.lw B), e9, e10] = some (wdO B.head?))
    (hg : ∀ e9, g [.no, .val (.int n), .val (.int m), .val (.int r), .val (.sb n m r), .val (.wb 2 (wts n) m r), .val (.lw M), .val (.wd w), .val (.lw B), e9, e10] = some (wdO B.head?)) :
    ∃ Γ', (seqM (setM 8 (oA (fun ds => F_law_behind (ds ++ [])) (consA (oVar 6) (consA (oVar 7) (consA (fun _ => some (.int k)) (fun _ => some []))))))
      (seqM (setM 9 (o1 reprD (ifE (t1 fullD (oVar 8)) (o2 ixD (oVar 8) (fun _ => some (.int 0))) (fun _ => some .non))))
      (seqM (ifM (orM (t2 neD (o1 reprD f) (oVar 9)) (t2 neD (o1 reprD g) (oVar 9))) (seqM (retM (fun _ => some (.bl false)))
        skipM) skipM)
      skipM))) [.no, .val (.int n), .val (.int m), .val (.int r), .val (.sb n m r), .val (.wb 2 (wts n) m r), .val (.lw M), .val (.wd w), e8, e9, e10] = some (.nx Γ') ∧ IsΓ n m r M Γ' := by
  obtain ⟨s, es⟩ := repr_of (okR_wdO hB)
  refine ⟨[.no, .val (.int n), .val (.int m), .val (.int r), .val (.sb n m r), .val (.wb 2 (wts n) m r), .val (.lw M), .val (.wd w), .val (.lw B), .val (.str s), e10], ?_, ⟨_, _, _, _, rfl⟩⟩
  refine seq_of (Γ' := [.no, .val (.int n), .val (.int m), .val (.int r), .val (.sb n m r), .val (.wb 2 (wts n) m r), .val (.lw M), .val (.wd w), .val (.lw B), e9, e10]) (setM_of (d := .lw B) hb) ?_
  refine seq_of (Γ' := [.no, .val (.int n), .val (.int m), .val (.int r), .val (.sb n m r), .val (.wb 2 (wts n) m r), .val (.lw M), .val (.wd w), .val (.lw B), .val (.str s), e10]) (setM_of (d := .str s) (o1_of (a := wdO B.head?) ?_ es)) ?_
  · cases B with
    | nil => rfl
    | cons x B =>
      show (match some (decide (0 < (x :: B).length)) with
        | some true => some (Da.wd x)
        | some false => some .non
        | none => none) = _
      rw [decide_eq_true (show 0 < (x :: B).length from Nat.succ_pos _)]
      rfl
  · refine seq_of (Γ' := [.no, .val (.int n), .val (.int m), .val (.int r), .val (.sb n m r), .val (.wb 2 (wts n) m r), .val (.lw M), .val (.wd w), .val (.lw B), .val (.str s), e10]) (ifM_f (orM_f (t2_of (a := .str s) (b := .str s) (o1_of (hf _) es) rfl (ne_same s)) (t2_of (a := .str s) (b := .str s) (o1_of (hg _) es) rfl (ne_same s))) rfl) rfl
theorem filt {n m r k : Int} {w : List Int} : ((allW n.toNat).filter (inB m r)).filter (fun x => lcsB k x w) = (cnd n k w).filter (inB m r) := by
  unfold cnd
  rw [List.filter_filter, List.filter_filter]
  exact List.filter_congr fun x _ => Bool.and_comm _ _
theorem same_ok {n m r : Int} (T : Tab n) (K : ck n = true) (m1 : n + 1 ≤ m) (m2 : m ≤ upTo n) (r0 : 0 ≤ r) (r1 : r < m) : m_law_same_right (Γs n m r) = some (.rt (.bl true)) := by
  have hn1 := T.n1
  have hn5 := T.n5
  have hm : 0 < m := by omega
  have hle : (allW n.toNat).length ≤ 100 := Nat.le_trans (allW_le (by omega)) (by decide)
  unfold ck at K
  rw [Bool.and_eq_true, Bool.and_eq_true, List.all_eq_true, List.all_eq_true, List.all_eq_true] at K
  obtain ⟨⟨k1, k2⟩, k3⟩ := K
  have hup : upTo n ≤ 20 := by unfold upTo; split <;> omega
  -- books
  have eM : ∀ x ∈ (allW n.toNat).filter (inB m r), okw x = true := fun x hx => okw_allW (by omega) (List.mem_filter.mp hx).1
  have lM : ((allW n.toNat).filter (inB m r)).length ≤ 100 := Nat.le_trans (List.length_filter_le _ _) hle
  have lB : ∀ k w, ((cnd n k w).filter (inB m r)).length ≤ 100 := fun k w => Nat.le_trans (List.length_filter_le _ _) (Nat.le_trans (List.length_filter_le _ _) hle)
  have lC : ∀ k w, (cnd n k w).length ≤ 100 := fun k w => Nat.le_trans (List.length_filter_le _ _) hle
  have mC : ∀ k w x, x ∈ cnd n k w → x ∈ allW n.toNat := fun k w x hx => (List.mem_filter.mp hx).1
  have eB : ∀ k w, ∀ x ∈ (cnd n k w).filter (inB m r), okw x = true := fun k w x hx => okw_allW (by omega) (mC k w x (List.mem_filter.mp hx).1)
  have beh : ∀ (k : Int) (j : Nat) (w : List Int), j ≤ 6 → w ∈ allW j → F_law_behind [.lw ((allW n.toNat).filter (inB m r)), .wd w, .int k] = some (.lw ((cnd n k w).filter (inB m r))) := fun k j w hj hw => by
    rw [behind_ok (by rw [allW_len hw]; omega) lM, filt]
  obtain ⟨wf, w1, w2⟩ := T.wf
  unfold Γs m_law_same_right
  refine seq_of (Γ' := [.no, .val (.int n), .val (.int m), .val (.int r), .val (.sb n m r), .no, .no, .no, .no, .no, .no]) (setM_of (d := .sb n m r) ?_) ?_
  · show (if 0 ≤ n ∧ n ≤ 200 ∧ n + 1 ≤ m ∧ m ≤ 1000000 ∧ 0 ≤ r ∧ r < m then some (Da.sb n m r) else none) = _
    rw [if_pos ⟨by omega, by omega, m1, by omega, r0, r1⟩]
  refine seq_of (Γ' := [.no, .val (.int n), .val (.int m), .val (.int r), .val (.sb n m r), .val (.wb 2 (wts n) m r), .no, .no, .no, .no, .no]) (setM_of (d := .wb 2 (wts n) m r) ?_) ?_
  · refine oA_of (ds := [.int 2, .wd (wts n), .int m, .int r]) (consA_of (a := .int 2) rfl (consA_of (a := .wd (wts n)) (o2_of (a := .wd wf) (b := .int n) w1 rfl ?_) rfl)) ?_
    · show (if 0 ≤ n then some (Da.wd (wf.take n.toNat)) else none) = _
      rw [if_pos (by omega), w2]
    · show (if (2 ≤ (2 : Int) ∧ (2 : Int) ≤ 4 ∧ 1 ≤ m ∧ m ≤ 10000000000000000 ∧ 0 ≤ r ∧ r < m) ∧ isWd (F_check_weights [.wd (wts n)]) (wts n) = true then some (Da.wb 2 (wts n) m r) else none) = _
      rw [if_pos ⟨⟨by decide, by decide, by omega, by omega, r0, r1⟩, T.cw⟩]
  refine seq_of (Γ' := [.no, .val (.int n), .val (.int m), .val (.int r), .val (.sb n m r), .val (.wb 2 (wts n) m r), .val (.lw ((allW n.toNat).filter (inB m r))), .no, .no, .no, .no]) (setM_of (d := .lw ((allW n.toNat).filter (inB m r))) (sum_words_ok T r0 r1 hle)) ?_
  refine seq_of (Γ' := [.no, .val (.int n), .val (.int m), .val (.int r), .val (.sb n m r), .val (.wb 2 (wts n) m r), .val (.lw ((allW n.toNat).filter (inB m r))), .no, .no, .no, .no]) (ifM_f (orM_f (ne_repr (okR_lw lM eM) (oA_of (ds := [.sb n m r]) rfl ?_) rfl) (ne_repr (okR_lw lM eM) (oA_of (ds := [.wb 2 (wts n) m r]) rfl ?_) rfl)) rfl) ?_
  · unfold genD
    rw [sum_members_ok T hm hle]
  · unfold genD
    rw [weight_members_ok T hm hle]
  -- the losses
  obtain ⟨Γ1, h1, i1⟩ := for_ok (I := IsΓ n m r ((allW n.toNat).filter (inB m r))) (j := 7) (b := (seqM (setM 8 (oA (fun ds => F_law_behind (ds ++ [])) (consA (oVar 6) (consA (oVar 7) (consA (fun _ => some (.int 1)) (fun _ => some []))))))
      (seqM (setM 9 (o1 reprD (ifE (t1 fullD (oVar 8)) (o2 ixD (oVar 8) (fun _ => some (.int 0))) (fun _ => some .non))))
      (seqM (ifM (orM (t2 neD (o1 reprD (oA (fun ds => F_read_lost (ds ++ [])) (consA (oVar 4) (consA (oVar 7) (fun _ => some []))))) (oVar 9)) (t2 neD (o1 reprD (oA (fun ds => F_read_several (ds ++ [])) (consA (oVar 5) (consA (oVar 7) (consA (fun _ => some (.int 1)) (consA (fun _ => some (.int 0)) (fun _ => some []))))))) (oVar 9))) (seqM (retM (fun _ => some (.bl false)))
        skipM) skipM)
      skipM)))) (f := (oA (fun ds => F_law_all_words (ds ++ [])) (consA (fun _ => some (.int 2)) (consA (o2 subD (oVar 1) (fun _ => some (.int 1))) (fun _ => some [])))))
      (Γ := [.no, .val (.int n), .val (.int m), .val (.int r), .val (.sb n m r), .val (.wb 2 (wts n) m r), .val (.lw ((allW n.toNat).filter (inB m r))), .no, .no, .no, .no]) (W := allW (n.toNat - 1)) (oA_of (ds := [.int 2, .int (n - 1)]) rfl T.am) ⟨_, _, _, _, rfl⟩ fun w hw Γ ⟨e7, e8, e9, e10, hΓ⟩ => by
    subst hΓ
    have c := forMR_of (k1 w hw) m1 m2 r0 r1
    rw [Bool.and_eq_true] at c
    have c1 := lenLe1_eq c.1
    have c2 : lostP n m r w = ((cnd n 1 w).filter (inB m r)).head? := eq_of_beq c.2
    exact turn_ok (beh 1 _ w (by omega) hw) (eB 1 w) (fun _ => by rw [← c2]; exact read_lost_ok T hm hw) (fun _ => several_ok (members_ok T hm (C := cnd n 1 w) hw (by omega) (by decide) (by decide) (by decide) (by decide) (T.c1 w hw) (mC 1 w) (lC 1 w)) c1)
  refine seq_of h1 ?_
  obtain ⟨_, _, _, _, hΓ1⟩ := i1
  subst hΓ1
  -- the puts
  obtain ⟨Γ2, h2, i2⟩ := for_ok (I := IsΓ n m r ((allW n.toNat).filter (inB m r))) (j := 7) (b := (seqM (setM 8 (oA (fun ds => F_law_behind (ds ++ [])) (consA (oVar 6) (consA (oVar 7) (consA (fun _ => some (.int 0)) (fun _ => some []))))))
      (seqM (setM 9 (o1 reprD (ifE (t1 fullD (oVar 8)) (o2 ixD (oVar 8) (fun _ => some (.int 0))) (fun _ => some .non))))
      (seqM (ifM (orM (t2 neD (o1 reprD (oA (fun ds => F_read_put (ds ++ [])) (consA (oVar 4) (consA (oVar 7) (fun _ => some []))))) (oVar 9)) (t2 neD (o1 reprD (oA (fun ds => F_read_several (ds ++ [])) (consA (oVar 5) (consA (oVar 7) (consA (fun _ => some (.int 0)) (consA (fun _ => some (.int 1)) (fun _ => some []))))))) (oVar 9))) (seqM (retM (fun _ => some (.bl false)))
        skipM) skipM)
      skipM)))) (f := (oA (fun ds => F_law_all_words (ds ++ [])) (consA (fun _ => some (.int 2)) (consA (o2 addD (oVar 1) (fun _ => some (.int 1))) (fun _ => some [])))))
      (Γ := [.no, .val (.int n), .val (.int m), .val (.int r), .val (.sb n m r), .val (.wb 2 (wts n) m r), .val (.lw ((allW n.toNat).filter (inB m r))), _, _, _, _]) (W := allW (n.toNat + 1)) (oA_of (ds := [.int 2, .int (n + 1)]) rfl T.ap) ⟨_, _, _, _, rfl⟩ fun w hw Γ ⟨e7, e8, e9, e10, hΓ⟩ => by
    subst hΓ
    have c := forMR_of (k2 w hw) m1 m2 r0 r1
    rw [Bool.and_eq_true] at c
    have c1 := lenLe1_eq c.1
    have c2 : putP n m r w = ((cnd n 0 w).filter (inB m r)).head? := eq_of_beq c.2
    exact turn_ok (beh 0 _ w (by omega) hw) (eB 0 w) (fun _ => by rw [← c2]; exact read_put_ok T hm m2 hw) (fun _ => several_ok (members_ok T hm (C := cnd n 0 w) hw (by omega) (by decide) (by decide) (by decide) (by decide) (T.c2 w hw) (mC 0 w) (lC 0 w)) c1)
  refine seq_of h2 ?_
  obtain ⟨_, _, _, _, hΓ2⟩ := i2
  subst hΓ2
  -- one lost and one put
  obtain ⟨Γ3, h3, i3⟩ := for_ok (I := IsΓ n m r ((allW n.toNat).filter (inB m r))) (j := 7) (b := (seqM (setM 10 (oA (fun ds => F_members_behind (ds ++ [])) (consA (oVar 5) (consA (oVar 7) (consA (fun _ => some (.int 1)) (consA (fun _ => some (.int 1)) (fun _ => some [])))))))
      (seqM (ifM (orM (t2 neD (o1 reprD (oVar 10)) (o1 reprD (oA (fun ds => F_near_members (ds ++ [])) (consA (oVar 4) (consA (oVar 7) (fun _ => some [])))))) (t2 neD (o1 reprD (oVar 10)) (o1 reprD (o1 tupleD (oA (fun ds => F_law_behind (ds ++ [])) (consA (oVar 6) (consA (oVar 7) (consA (fun _ => some (.int 1)) (fun _ => some []))))))))) (seqM (retM (fun _ => some (.bl false)))
        skipM) skipM)
      skipM))) (f := (oA (fun ds => F_law_all_words (ds ++ [])) (consA (fun _ => some (.int 2)) (consA (oVar 1) (fun _ => some [])))))
      (Γ := [.no, .val (.int n), .val (.int m), .val (.int r), .val (.sb n m r), .val (.wb 2 (wts n) m r), .val (.lw ((allW n.toNat).filter (inB m r))), _, _, _, _]) (W := allW n.toNat) (oA_of (ds := [.int 2, .int n]) rfl T.a0) ⟨_, _, _, _, rfl⟩ fun w hw Γ ⟨e7, e8, e9, e10, hΓ⟩ => by
    subst hΓ
    have c := forMR_of (k3 w hw) m1 m2 r0 r1
    rw [Bool.and_eq_true] at c
    have c2 : sortW (nearP n m r w n.toNat 0 []) = (cnd n 1 w).filter (inB m r) := eq_of_beq c.2
    have ok := okR_tw (lB 1 w) (eB 1 w)
    refine ⟨[.no, .val (.int n), .val (.int m), .val (.int r), .val (.sb n m r), .val (.wb 2 (wts n) m r), .val (.lw ((allW n.toNat).filter (inB m r))), .val (.wd w), e8, e9, .val (.tw ((cnd n 1 w).filter (inB m r)))], ?_, ⟨_, _, _, _, rfl⟩⟩
    refine seq_of (Γ' := [.no, .val (.int n), .val (.int m), .val (.int r), .val (.sb n m r), .val (.wb 2 (wts n) m r), .val (.lw ((allW n.toNat).filter (inB m r))), .val (.wd w), e8, e9, .val (.tw ((cnd n 1 w).filter (inB m r)))]) (setM_of (d := .tw ((cnd n 1 w).filter (inB m r))) (members_ok T hm (C := cnd n 1 w) hw (by omega) (by decide) (by decide) (by decide) (by decide) (T.c3 w hw) (mC 1 w) (lC 1 w))) ?_
    refine seq_of (ifM_f (orM_f (ne_repr ok rfl ?_) (ne_repr ok rfl (o1_of (a := .lw ((cnd n 1 w).filter (inB m r))) (beh 1 _ w (by omega) hw) rfl))) rfl) rfl
    rw [← c2]
    exact near_ok T hm hw c.1
  refine seq_of h3 ?_
  rfl
end K54

set_option Elab.async false
set_option linter.all false
set_option maxRecDepth 100000
set_option maxHeartbeats 4000000
/-! P10: the plain law of the books. -/
namespace K54
theorem pSame : PSame := by
  intro n m r n1 n5 m1 m2 r0 r1
  have hu : m ≤ upTo n := by
    unfold upTo
    split <;> omega
  have inl {p : Int → Bool} {l : List Int} (h : l.all p = true) {x : Int} (hx : x ∈ l) : p x = true := List.all_eq_true.mp h x hx
  have hn : n = 1 ∨ n = 2 ∨ n = 3 ∨ n = 4 ∨ n = 5 := by omega
  rcases hn with rfl | rfl | rfl | rfl | rfl
  · exact same_ok (tab_of (by decide) (by decide) (inl tabA_all (by decide)) (inl tabS_all (by decide)) (inl tabL_123 (by decide)) (inl tabC_12 (by decide))) (inl ck_12 (by decide)) m1 hu r0 r1
  · exact same_ok (tab_of (by decide) (by decide) (inl tabA_all (by decide)) (inl tabS_all (by decide)) (inl tabL_123 (by decide)) (inl tabC_12 (by decide))) (inl ck_12 (by decide)) m1 hu r0 r1
  · exact same_ok (tab_of (by decide) (by decide) (inl tabA_all (by decide)) (inl tabS_all (by decide)) (inl tabL_123 (by decide)) tabC_3) ck_3 m1 hu r0 r1
  · exact same_ok (tab_of (by decide) (by decide) (inl tabA_all (by decide)) (inl tabS_all (by decide)) tabL_4 tabC_4) ck_4 m1 hu r0 r1
  · exact same_ok (tab_of (by decide) (by decide) (inl tabA_all (by decide)) (inl tabS_all (by decide)) tabL_5 tabC_5) ck_5 m1 hu r0 r1
end K54

set_option Elab.async false
set_option linter.all false
set_option maxRecDepth 100000
set_option maxHeartbeats 4000000
/-! J23: law, and the end. -/
namespace K54
open PySem PySem.Spec PyProof.Rows L2
def spLaw (K : PySem.W.Frag) : Sp := fun vs H Q _ => ∃ (a : Addr) (ns : List Int), vs = [.ref a] ∧ SqL K H a (ns.map V.int) ∧ ns.length ≤ 1000 ∧ ∀ H', Q (.bl true) H'
section
variable {P : Program} {w : World} {K : PySem.W.Frag} {mg : Str → Option Value} {base : Heap}
theorem ok_law (PL1 : PSame) (PL2 : PClash) (T : Tx K mg) {fd : FuncData} (F : FunD K "law" "law" (defArgs s_law) (defBody s_law) (defScope s_law) [] [] (He.fAd K ("law", none)) fd) : FnG P w K mg base 9 (He.fAd K ("law", none)) fd ["_law_script"] (spLaw K) := by
  refine fnG_of F sc_law (fun vs H Q E ⟨_, _, e, _⟩ => by rw [e]; rfl) fun cd A outer s H vs Q E hr hgd ⟨a, ns, e, hs, hlen, k⟩ => ?_
  subst e
  obtain ⟨fh, Fh, bh⟩ := ok_law_hand (P := P) (w := w) (base := base) T
  obtain ⟨f1, F1, b1⟩ := ok_law_same_right (P := P) (w := w) (base := base) PL1 T
  obtain ⟨f2, F2, b2⟩ := ok_law_clash_right (P := P) (w := w) (base := base) PL2 T
  obtain ⟨_, D0⟩ := T.f_law_hand
  obtain ⟨_, D1⟩ := T.f_law_same_right
  obtain ⟨_, D2⟩ := T.f_law_clash_right
  refine wB_setQ 1 (wE_of (pe_call (x := "_law_hand") Fh (hr.mono (by decide)) rfl T.g__law_hand D0.kp bh .nil pass0 (pa_cons (pe_var (i := 0) rfl (.inl rfl) (by decide) (by decide)) pa_nil)) ?_) sc_law.nd
  refine ⟨.ref a, rfl, H, .ref a, ns, rfl, Same.refl _, ⟨a, _, rfl, hs, rfl⟩, hlen, fun p Hs1 H1 cells c t1 hp hat => ?_⟩
  refine wB_retQ (wE_of (pe_and (pe_callG (x := "_law_same_right") F1 (hr.mono (by decide)) hgd rfl T.g__law_same_right D1.kp b1 (pa_cons (pe_var (i := 1) rfl (.inl rfl) (by decide) (by decide)) pa_nil)) (pe_one (pe_callG (x := "_law_clash_right") F2 (hr.mono (by decide)) hgd rfl T.g__law_clash_right D2.kp b2 (pa_cons (pe_var (i := 1) rfl (.inl rfl) (by decide) (by decide)) pa_nil)))) ?_)
  refine ⟨.ref p, rfl, p, Hs1, cells, 0, 0, c, rfl, hat, Int.le_refl 0, fun Hs2 H2 x y z hat2 hx2 => ⟨true, rfl, ?_⟩⟩
  exact ⟨.ref p, rfl, p, Hs2, cells, x, y, z, rfl, hat2, hx2, fun Hs3 H3 _ _ _ _ _ => k H3⟩
end
end K54
open PySem PySem.W PySem.Calls PyProof.Rows
theorem K54.holds_of (PL1 : K54.PSame) (PL2 : K54.PClash) : PySem.Challenge.rw_lostplaces_k54_whole_told_weights_of_one.Holds := by
  w_on; o_law
  refine HandSHeadRun.head_any (r := OpenLaw.row PySem.Challenge.rw_lostplaces_k54_whole_told_weights_of_one) (q := view (OpenLaw.row PySem.Challenge.rw_lostplaces_k54_whole_told_weights_of_one).prog [91]) (H := K54.hk) (ob := K54.ob) (M := 6000) (loose := K54.names) (d := HandSHeadRun.topDef (OpenLaw.row PySem.Challenge.rw_lostplaces_k54_whole_told_weights_of_one).prog 91) (kwd := []) K54.ob_eq
    (by kernel_rfl) (fun s => by kernel_rfl) K54.run (by kernel_rfl) (by kernel_rfl) (by kernel_rfl) (by rfl) (by first | assumption | decide +kernel) (by decide +kernel) ⟨rfl, rfl, rfl, rfl, rfl, by decide +kernel⟩ ?hw ?hc
  case hw => w_witness2
  case hc =>
    refine K54.walk_ofG (l := PySem.Challenge.rw_lostplaces_k54_whole_told_weights_of_one) (n := 63) (k := 9) (x := "_law_script") rfl (by decide) (by kernel_rfl) ⟨rfl, by decide, by decide⟩ ?F
    intro w mg fa h Y G hmg0
    obtain ⟨K, KX, c⟩ := Y
    have hmg : mg ("law" : PySem.Str) = some (.ref fa) := by
      have e : (HandSHeadRun.topDef (OpenLaw.row PySem.Challenge.rw_lostplaces_k54_whole_told_weights_of_one).prog 91).name = ("law" : PySem.Str) := by kernel_rfl
      rw [← e]
      exact hmg0
    have T : K54.Tx K mg := ⟨c, h, KX, G⟩
    have e := hmg.symm.trans T.g_law
    cases e
    obtain ⟨fd, F⟩ := T.f_law
    have b := L2.FunD.bindsA (ps := ["_law_script"]) F fun _ _ _ _ _ _ us hl => match us, hl with | [_], _ => rfl
    exact ⟨K, fd, K54.spLaw K, KX, fun s v => b s [v] rfl, fun H a ns hl _ hS => ⟨a, ns, rfl, hS, Nat.le_trans hl (by decide), fun _ => rfl⟩, fun base _ _ => K54.ok_law PL1 PL2 T F⟩

theorem PySem.Challenge.cw_lostplaces_k54_whole_told_weights_of_one_holds : PySem.Challenge.rw_lostplaces_k54_whole_told_weights_of_one.Holds :=
  K54.holds_of K54.pSame K54.pClash
