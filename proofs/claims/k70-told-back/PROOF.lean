import PyProof.Rows.All
import Wide.All
import OpenK.AllK
import Wide.FinOn
import HandS.Codes
import HandS.Deep
import HandS.Defaults
import HandS.DictComp
import HandS.DictSub
import HandS.EndTab
import HandS.FStr
import HandS.ForDict
import HandS.ForMost
import HandS.GenList
import HandS.Head0
import HandS.Head1
import HandS.Head2
import HandS.HeadEnd
import HandS.HeadHook1
import HandS.HeadHook2
import HandS.HeadHook3
import HandS.HeadHook4
import HandS.HeadWalk
import HandS.IsInst
import HandS.IterVal
import HandS.Lambda
import HandS.MakeKwOnly
import HandS.Nested
import HandS.OwnIter
import HandS.Records
import HandS.SetKeys
import HandS.Star
import HandS.Style
import HandS.TupAny
import HandS.TupLen
import HandS.TupMul
import HandS.Walk
import HandS.WideBits
import HandS.Zip
import KE.GoesEnum
import KE.GoesMore
import KE.GoesNew
import KE.KDictCopyH
import KE.KDictDisplayH
import KE.KRevSl
import KE.KStateDown
import KE.KeyNested
import PyProof.FString3
import PyProof.GenArm
import PyProof.GenComp
import PyProof.GenRules
import PyProof.P3Eq
import PyProof.ReprLen
import PyProof.ReprRoads
import Wide.Line
import PySem.Challenge.RW_lanebanks_k70_whole_rules_told_back_by_a
set_option Elab.async false
set_option linter.all false
set_option maxRecDepth 100000
set_option maxHeartbeats 0
-- K70Base
/-! the defs of the text by their places; the facts that the head gives -/
namespace K70
open L2 PySem PySem.Spec PyProof.Rows
def top (i : Nat) : Stmt := PySem.Challenge.pw_lanebanks_k70_whole_rules_told_back_by_a.main.body.getD i (.Pass ⟨0, 0, 0, 0⟩)
abbrev sis_integer : Stmt := top 2
abbrev sis_within : Stmt := top 3
abbrev sis_number : Stmt := top 4
abbrev sbanks_of : Stmt := top 16
abbrev sare_moduli : Stmt := top 17
abbrev sare_banks : Stmt := top 18
abbrev sshortest_turn : Stmt := top 19
abbrev snormal_weights : Stmt := top 20
abbrev scommon_multiple : Stmt := top 21
abbrev sRule_init : Stmt := inClass (top 22) 2
abbrev sRule_class_of : Stmt := inClass (top 22) 10
abbrev sRule_next_class : Stmt := inClass (top 22) 11
abbrev sRule_weight : Stmt := inClass (top 22) 12
abbrev sRule_call : Stmt := inClass (top 22) 13
abbrev sRule_need_bank : Stmt := inClass (top 22) 14
abbrev sRule_added : Stmt := inClass (top 22) 15
abbrev sRule_less : Stmt := inClass (top 22) 16
abbrev sRule_parts : Stmt := inClass (top 22) 17
abbrev sRule_bank_of : Stmt := inClass (top 22) 18
abbrev sRule_mul : Stmt := inClass (top 22) 19
abbrev sRule_add : Stmt := inClass (top 22) 20
abbrev sRule_neg : Stmt := inClass (top 22) 21
abbrev sRule_lshift : Stmt := inClass (top 22) 22
abbrev sRule_cut : Stmt := inClass (top 22) 23
abbrev sRule_eq : Stmt := inClass (top 22) 24
abbrev sRule_str : Stmt := inClass (top 22) 25
abbrev sneed_rule : Stmt := top 23
abbrev sneed_number : Stmt := top 24
abbrev sparts_of : Stmt := top 25
abbrev sjoined : Stmt := top 26
abbrev ssum_of : Stmt := top 27
abbrev sopposite : Stmt := top 28
abbrev sweight_pairs : Stmt := top 29
abbrev ssplit_rule : Stmt := top 30
abbrev supcoming : Stmt := top 31
abbrev sneed_head : Stmt := top 32
abbrev snumber_at : Stmt := top 33
abbrev smoduli_at : Stmt := top 34
abbrev sbanks_at : Stmt := top 35
abbrev sSame_init : Stmt := inClass (top 39) 0
abbrev sSame_eq : Stmt := inClass (top 39) 1
abbrev sSame_bool : Stmt := inClass (top 39) 2
abbrev sParted_init : Stmt := inClass (top 40) 0
abbrev sParted_eq : Stmt := inClass (top 40) 1
abbrev sParted_bool : Stmt := inClass (top 40) 2
abbrev sneed_rules : Stmt := top 41
abbrev smoved_pairs : Stmt := top 42
abbrev sraised : Stmt := top 43
abbrev sleast_addresses : Stmt := top 44
abbrev sclashes : Stmt := top 45
abbrev snames_of : Stmt := top 46
abbrev ssame_banks : Stmt := top 47
abbrev sis_entry : Stmt := top 51
abbrev sLog_init : Stmt := inClass (top 52) 0
abbrev sLog_first_against : Stmt := inClass (top 52) 1
abbrev sLog_len : Stmt := inClass (top 52) 2
abbrev sLog_iter : Stmt := inClass (top 52) 3
abbrev sLog_add : Stmt := inClass (top 52) 4
abbrev sLog_eq : Stmt := inClass (top 52) 5
abbrev sShape_init : Stmt := inClass (top 53) 0
abbrev sShape_iter : Stmt := inClass (top 53) 1
abbrev sShape_contains : Stmt := inClass (top 53) 2
abbrev sShape_eq : Stmt := inClass (top 53) 3
abbrev sFound_init : Stmt := inClass (top 54) 0
abbrev sFound_eq : Stmt := inClass (top 54) 1
abbrev shas_few : Stmt := top 55
abbrev sweights_of : Stmt := top 56
abbrev srules_of : Stmt := top 57
abbrev sneed_shape : Stmt := top 58
abbrev sneed_log : Stmt := top 59
abbrev sfitting : Stmt := top 60
abbrev sfirst_other : Stmt := top 61
abbrev stold_back : Stmt := top 62
abbrev sshows_found : Stmt := top 63
abbrev s_law_pen : Stmt := top 65
abbrev s_law_draw : Stmt := top 66
abbrev s_law_pick : Stmt := top 67
abbrev s_law_banks : Stmt := top 68
abbrev s_law_rule : Stmt := top 70
abbrev s_law_sum : Stmt := top 71
abbrev s_law_weight : Stmt := top 72
abbrev s_law_bank : Stmt := top 73
abbrev s_law_least : Stmt := top 74
abbrev s_law_split : Stmt := top 75
abbrev s_law_first : Stmt := top 76
abbrev s_law_shape : Stmt := top 77
abbrev s_law_plains : Stmt := top 78
abbrev s_law_unlike : Stmt := top 79
abbrev s_law_log : Stmt := top 81
abbrev s_law_parting : Stmt := top 82
abbrev s_law_due : Stmt := top 83
abbrev s_law_right : Stmt := top 84
abbrev s_law_papers_right : Stmt := top 85
abbrev slaw : Stmt := top 86
def dis_integer : He.DefD := ⟨("is_integer", none), "is_integer", "is_integer", defArgs sis_integer, defBody sis_integer, defScope sis_integer, [], []⟩
def dis_within : He.DefD := ⟨("is_within", none), "is_within", "is_within", defArgs sis_within, defBody sis_within, defScope sis_within, [], []⟩
def dis_number : He.DefD := ⟨("is_number", none), "is_number", "is_number", defArgs sis_number, defBody sis_number, defScope sis_number, [], []⟩
def dbanks_of : He.DefD := ⟨("banks_of", none), "banks_of", "banks_of", defArgs sbanks_of, defBody sbanks_of, defScope sbanks_of, [], []⟩
def dare_moduli : He.DefD := ⟨("are_moduli", none), "are_moduli", "are_moduli", defArgs sare_moduli, defBody sare_moduli, defScope sare_moduli, [], []⟩
def dare_banks : He.DefD := ⟨("are_banks", none), "are_banks", "are_banks", defArgs sare_banks, defBody sare_banks, defScope sare_banks, [], []⟩
def dshortest_turn : He.DefD := ⟨("shortest_turn", none), "shortest_turn", "shortest_turn", defArgs sshortest_turn, defBody sshortest_turn, defScope sshortest_turn, [], []⟩
def dnormal_weights : He.DefD := ⟨("normal_weights", none), "normal_weights", "normal_weights", defArgs snormal_weights, defBody snormal_weights, defScope snormal_weights, [], []⟩
def dcommon_multiple : He.DefD := ⟨("common_multiple", none), "common_multiple", "common_multiple", defArgs scommon_multiple, defBody scommon_multiple, defScope scommon_multiple, [], []⟩
def dRule_init : He.DefD := ⟨("Rule", some "__init__"), "__init__", "Rule.__init__", defArgs sRule_init, defBody sRule_init, defScope sRule_init, [], []⟩
def dRule_class_of : He.DefD := ⟨("Rule", some "class_of"), "class_of", "Rule.class_of", defArgs sRule_class_of, defBody sRule_class_of, defScope sRule_class_of, [], []⟩
def dRule_next_class : He.DefD := ⟨("Rule", some "next_class"), "next_class", "Rule.next_class", defArgs sRule_next_class, defBody sRule_next_class, defScope sRule_next_class, [], []⟩
def dRule_weight : He.DefD := ⟨("Rule", some "weight"), "weight", "Rule.weight", defArgs sRule_weight, defBody sRule_weight, defScope sRule_weight, [], []⟩
def dRule_call : He.DefD := ⟨("Rule", some "__call__"), "__call__", "Rule.__call__", defArgs sRule_call, defBody sRule_call, defScope sRule_call, [], []⟩
def dRule_need_bank : He.DefD := ⟨("Rule", some "need_bank"), "need_bank", "Rule.need_bank", defArgs sRule_need_bank, defBody sRule_need_bank, defScope sRule_need_bank, [], []⟩
def dRule_added : He.DefD := ⟨("Rule", some "added"), "added", "Rule.added", defArgs sRule_added, defBody sRule_added, defScope sRule_added, [], []⟩
def dRule_less : He.DefD := ⟨("Rule", some "less"), "less", "Rule.less", defArgs sRule_less, defBody sRule_less, defScope sRule_less, [], []⟩
def dRule_parts : He.DefD := ⟨("Rule", some "parts"), "parts", "Rule.parts", defArgs sRule_parts, defBody sRule_parts, defScope sRule_parts, [], []⟩
def dRule_bank_of : He.DefD := ⟨("Rule", some "bank_of"), "bank_of", "Rule.bank_of", defArgs sRule_bank_of, defBody sRule_bank_of, defScope sRule_bank_of, [], []⟩
def dRule_mul : He.DefD := ⟨("Rule", some "__mul__"), "__mul__", "Rule.__mul__", defArgs sRule_mul, defBody sRule_mul, defScope sRule_mul, [], []⟩
def dRule_add : He.DefD := ⟨("Rule", some "__add__"), "__add__", "Rule.__add__", defArgs sRule_add, defBody sRule_add, defScope sRule_add, [], []⟩
def dRule_neg : He.DefD := ⟨("Rule", some "__neg__"), "__neg__", "Rule.__neg__", defArgs sRule_neg, defBody sRule_neg, defScope sRule_neg, [], []⟩
def dRule_lshift : He.DefD := ⟨("Rule", some "__lshift__"), "__lshift__", "Rule.__lshift__", defArgs sRule_lshift, defBody sRule_lshift, defScope sRule_lshift, [], []⟩
def dRule_cut : He.DefD := ⟨("Rule", some "cut"), "cut", "Rule.cut", defArgs sRule_cut, defBody sRule_cut, defScope sRule_cut, [], []⟩
def dRule_eq : He.DefD := ⟨("Rule", some "__eq__"), "__eq__", "Rule.__eq__", defArgs sRule_eq, defBody sRule_eq, defScope sRule_eq, [], []⟩
def dRule_str : He.DefD := ⟨("Rule", some "__str__"), "__str__", "Rule.__str__", defArgs sRule_str, defBody sRule_str, defScope sRule_str, [], []⟩
def dneed_rule : He.DefD := ⟨("need_rule", none), "need_rule", "need_rule", defArgs sneed_rule, defBody sneed_rule, defScope sneed_rule, [], []⟩
def dneed_number : He.DefD := ⟨("need_number", none), "need_number", "need_number", defArgs sneed_number, defBody sneed_number, defScope sneed_number, [], []⟩
def dparts_of : He.DefD := ⟨("parts_of", none), "parts_of", "parts_of", defArgs sparts_of, defBody sparts_of, defScope sparts_of, [], []⟩
def djoined : He.DefD := ⟨("joined", none), "joined", "joined", defArgs sjoined, defBody sjoined, defScope sjoined, [], []⟩
def dsum_of : He.DefD := ⟨("sum_of", none), "sum_of", "sum_of", defArgs ssum_of, defBody ssum_of, defScope ssum_of, [], []⟩
def dopposite : He.DefD := ⟨("opposite", none), "opposite", "opposite", defArgs sopposite, defBody sopposite, defScope sopposite, [], []⟩
def dweight_pairs : He.DefD := ⟨("weight_pairs", none), "weight_pairs", "weight_pairs", defArgs sweight_pairs, defBody sweight_pairs, defScope sweight_pairs, [], []⟩
def dsplit_rule : He.DefD := ⟨("split_rule", none), "split_rule", "split_rule", defArgs ssplit_rule, defBody ssplit_rule, defScope ssplit_rule, [], []⟩
def dupcoming : He.DefD := ⟨("upcoming", none), "upcoming", "upcoming", defArgs supcoming, defBody supcoming, defScope supcoming, [], []⟩
def dneed_head : He.DefD := ⟨("need_head", none), "need_head", "need_head", defArgs sneed_head, defBody sneed_head, defScope sneed_head, [], []⟩
def dnumber_at : He.DefD := ⟨("number_at", none), "number_at", "number_at", defArgs snumber_at, defBody snumber_at, defScope snumber_at, [], []⟩
def dmoduli_at : He.DefD := ⟨("moduli_at", none), "moduli_at", "moduli_at", defArgs smoduli_at, defBody smoduli_at, defScope smoduli_at, [], []⟩
def dbanks_at : He.DefD := ⟨("banks_at", none), "banks_at", "banks_at", defArgs sbanks_at, defBody sbanks_at, defScope sbanks_at, [], []⟩
def dSame_init : He.DefD := ⟨("Same", some "__init__"), "__init__", "Same.__init__", defArgs sSame_init, defBody sSame_init, defScope sSame_init, [], []⟩
def dSame_eq : He.DefD := ⟨("Same", some "__eq__"), "__eq__", "Same.__eq__", defArgs sSame_eq, defBody sSame_eq, defScope sSame_eq, [], []⟩
def dSame_bool : He.DefD := ⟨("Same", some "__bool__"), "__bool__", "Same.__bool__", defArgs sSame_bool, defBody sSame_bool, defScope sSame_bool, [], []⟩
def dParted_init : He.DefD := ⟨("Parted", some "__init__"), "__init__", "Parted.__init__", defArgs sParted_init, defBody sParted_init, defScope sParted_init, [], []⟩
def dParted_eq : He.DefD := ⟨("Parted", some "__eq__"), "__eq__", "Parted.__eq__", defArgs sParted_eq, defBody sParted_eq, defScope sParted_eq, [], []⟩
def dParted_bool : He.DefD := ⟨("Parted", some "__bool__"), "__bool__", "Parted.__bool__", defArgs sParted_bool, defBody sParted_bool, defScope sParted_bool, [], []⟩
def dneed_rules : He.DefD := ⟨("need_rules", none), "need_rules", "need_rules", defArgs sneed_rules, defBody sneed_rules, defScope sneed_rules, [], []⟩
def dmoved_pairs : He.DefD := ⟨("moved_pairs", none), "moved_pairs", "moved_pairs", defArgs smoved_pairs, defBody smoved_pairs, defScope smoved_pairs, [], []⟩
def draised : He.DefD := ⟨("raised", none), "raised", "raised", defArgs sraised, defBody sraised, defScope sraised, [], []⟩
def dleast_addresses : He.DefD := ⟨("least_addresses", none), "least_addresses", "least_addresses", defArgs sleast_addresses, defBody sleast_addresses, defScope sleast_addresses, [], []⟩
def dclashes : He.DefD := ⟨("clashes", none), "clashes", "clashes", defArgs sclashes, defBody sclashes, defScope sclashes, [], []⟩
def dnames_of : He.DefD := ⟨("names_of", none), "names_of", "names_of", defArgs snames_of, defBody snames_of, defScope snames_of, [], []⟩
def dsame_banks : He.DefD := ⟨("same_banks", none), "same_banks", "same_banks", defArgs ssame_banks, defBody ssame_banks, defScope ssame_banks, [], []⟩
def dis_entry : He.DefD := ⟨("is_entry", none), "is_entry", "is_entry", defArgs sis_entry, defBody sis_entry, defScope sis_entry, [], []⟩
def dLog_init : He.DefD := ⟨("Log", some "__init__"), "__init__", "Log.__init__", defArgs sLog_init, defBody sLog_init, defScope sLog_init, [], []⟩
def dLog_first_against : He.DefD := ⟨("Log", some "first_against"), "first_against", "Log.first_against", defArgs sLog_first_against, defBody sLog_first_against, defScope sLog_first_against, [], []⟩
def dLog_len : He.DefD := ⟨("Log", some "__len__"), "__len__", "Log.__len__", defArgs sLog_len, defBody sLog_len, defScope sLog_len, [], []⟩
def dLog_iter : He.DefD := ⟨("Log", some "__iter__"), "__iter__", "Log.__iter__", defArgs sLog_iter, defBody sLog_iter, defScope sLog_iter, [], []⟩
def dLog_add : He.DefD := ⟨("Log", some "__add__"), "__add__", "Log.__add__", defArgs sLog_add, defBody sLog_add, defScope sLog_add, [], []⟩
def dLog_eq : He.DefD := ⟨("Log", some "__eq__"), "__eq__", "Log.__eq__", defArgs sLog_eq, defBody sLog_eq, defScope sLog_eq, [], []⟩
def dShape_init : He.DefD := ⟨("Shape", some "__init__"), "__init__", "Shape.__init__", defArgs sShape_init, defBody sShape_init, defScope sShape_init, [], []⟩
def dShape_iter : He.DefD := ⟨("Shape", some "__iter__"), "__iter__", "Shape.__iter__", defArgs sShape_iter, defBody sShape_iter, defScope sShape_iter, [], []⟩
def dShape_contains : He.DefD := ⟨("Shape", some "__contains__"), "__contains__", "Shape.__contains__", defArgs sShape_contains, defBody sShape_contains, defScope sShape_contains, [], []⟩
def dShape_eq : He.DefD := ⟨("Shape", some "__eq__"), "__eq__", "Shape.__eq__", defArgs sShape_eq, defBody sShape_eq, defScope sShape_eq, [], []⟩
def dFound_init : He.DefD := ⟨("Found", some "__init__"), "__init__", "Found.__init__", defArgs sFound_init, defBody sFound_init, defScope sFound_init, [], []⟩
def dFound_eq : He.DefD := ⟨("Found", some "__eq__"), "__eq__", "Found.__eq__", defArgs sFound_eq, defBody sFound_eq, defScope sFound_eq, [], []⟩
def dhas_few : He.DefD := ⟨("has_few", none), "has_few", "has_few", defArgs shas_few, defBody shas_few, defScope shas_few, [], []⟩
def dweights_of : He.DefD := ⟨("weights_of", none), "weights_of", "weights_of", defArgs sweights_of, defBody sweights_of, defScope sweights_of, [], []⟩
def drules_of : He.DefD := ⟨("rules_of", none), "rules_of", "rules_of", defArgs srules_of, defBody srules_of, defScope srules_of, [], []⟩
def dneed_shape : He.DefD := ⟨("need_shape", none), "need_shape", "need_shape", defArgs sneed_shape, defBody sneed_shape, defScope sneed_shape, [], []⟩
def dneed_log : He.DefD := ⟨("need_log", none), "need_log", "need_log", defArgs sneed_log, defBody sneed_log, defScope sneed_log, [], []⟩
def dfitting : He.DefD := ⟨("fitting", none), "fitting", "fitting", defArgs sfitting, defBody sfitting, defScope sfitting, [], []⟩
def dfirst_other : He.DefD := ⟨("first_other", none), "first_other", "first_other", defArgs sfirst_other, defBody sfirst_other, defScope sfirst_other, [], []⟩
def dtold_back : He.DefD := ⟨("told_back", none), "told_back", "told_back", defArgs stold_back, defBody stold_back, defScope stold_back, [], []⟩
def dshows_found : He.DefD := ⟨("shows_found", none), "shows_found", "shows_found", defArgs sshows_found, defBody sshows_found, defScope sshows_found, [], []⟩
def d_law_pen : He.DefD := ⟨("_law_pen", none), "_law_pen", "_law_pen", defArgs s_law_pen, defBody s_law_pen, defScope s_law_pen, [], []⟩
def d_law_draw : He.DefD := ⟨("_law_draw", none), "_law_draw", "_law_draw", defArgs s_law_draw, defBody s_law_draw, defScope s_law_draw, [], []⟩
def d_law_pick : He.DefD := ⟨("_law_pick", none), "_law_pick", "_law_pick", defArgs s_law_pick, defBody s_law_pick, defScope s_law_pick, [], []⟩
def d_law_banks : He.DefD := ⟨("_law_banks", none), "_law_banks", "_law_banks", defArgs s_law_banks, defBody s_law_banks, defScope s_law_banks, [], []⟩
def d_law_rule : He.DefD := ⟨("_law_rule", none), "_law_rule", "_law_rule", defArgs s_law_rule, defBody s_law_rule, defScope s_law_rule, [], []⟩
def d_law_sum : He.DefD := ⟨("_law_sum", none), "_law_sum", "_law_sum", defArgs s_law_sum, defBody s_law_sum, defScope s_law_sum, [], []⟩
def d_law_weight : He.DefD := ⟨("_law_weight", none), "_law_weight", "_law_weight", defArgs s_law_weight, defBody s_law_weight, defScope s_law_weight, [], []⟩
def d_law_bank : He.DefD := ⟨("_law_bank", none), "_law_bank", "_law_bank", defArgs s_law_bank, defBody s_law_bank, defScope s_law_bank, [], []⟩
def d_law_least : He.DefD := ⟨("_law_least", none), "_law_least", "_law_least", defArgs s_law_least, defBody s_law_least, defScope s_law_least, [], []⟩
def d_law_split : He.DefD := ⟨("_law_split", none), "_law_split", "_law_split", defArgs s_law_split, defBody s_law_split, defScope s_law_split, [], []⟩
def d_law_first : He.DefD := ⟨("_law_first", none), "_law_first", "_law_first", defArgs s_law_first, defBody s_law_first, defScope s_law_first, [], []⟩
def d_law_shape : He.DefD := ⟨("_law_shape", none), "_law_shape", "_law_shape", defArgs s_law_shape, defBody s_law_shape, defScope s_law_shape, [], []⟩
def d_law_plains : He.DefD := ⟨("_law_plains", none), "_law_plains", "_law_plains", defArgs s_law_plains, defBody s_law_plains, defScope s_law_plains, [], []⟩
def d_law_unlike : He.DefD := ⟨("_law_unlike", none), "_law_unlike", "_law_unlike", defArgs s_law_unlike, defBody s_law_unlike, defScope s_law_unlike, [], []⟩
def d_law_log : He.DefD := ⟨("_law_log", none), "_law_log", "_law_log", defArgs s_law_log, defBody s_law_log, defScope s_law_log, [], []⟩
def d_law_parting : He.DefD := ⟨("_law_parting", none), "_law_parting", "_law_parting", defArgs s_law_parting, defBody s_law_parting, defScope s_law_parting, [], []⟩
def d_law_due : He.DefD := ⟨("_law_due", none), "_law_due", "_law_due", defArgs s_law_due, defBody s_law_due, defScope s_law_due, [], []⟩
def d_law_right : He.DefD := ⟨("_law_right", none), "_law_right", "_law_right", defArgs s_law_right, defBody s_law_right, defScope s_law_right, [], []⟩
def d_law_papers_right : He.DefD := ⟨("_law_papers_right", none), "_law_papers_right", "_law_papers_right", defArgs s_law_papers_right, defBody s_law_papers_right, defScope s_law_papers_right, [], []⟩
def dlaw : He.DefD := ⟨("law", none), "law", "law", defArgs slaw, defBody slaw, defScope slaw, [], []⟩
def fn0 : List He.DefD := [dis_integer, dis_within, dis_number, dbanks_of, dare_moduli, dare_banks, dshortest_turn, dnormal_weights, dcommon_multiple, dRule_init, dRule_class_of, dRule_next_class, dRule_weight, dRule_call, dRule_need_bank, dRule_added, dRule_less, dRule_parts, dRule_bank_of, dRule_mul, dRule_add, dRule_neg, dRule_lshift, dRule_cut, dRule_eq, dRule_str, dneed_rule, dneed_number, dparts_of, djoined]
def fn1 : List He.DefD := [dsum_of, dopposite, dweight_pairs, dsplit_rule, dupcoming, dneed_head, dnumber_at, dmoduli_at, dbanks_at, dSame_init, dSame_eq, dSame_bool, dParted_init, dParted_eq, dParted_bool, dneed_rules, dmoved_pairs, draised, dleast_addresses, dclashes, dnames_of, dsame_banks, dis_entry, dLog_init, dLog_first_against, dLog_len, dLog_iter, dLog_add, dLog_eq, dShape_init]
def fn2 : List He.DefD := [dShape_iter, dShape_contains, dShape_eq, dFound_init, dFound_eq, dhas_few, dweights_of, drules_of, dneed_shape, dneed_log, dfitting, dfirst_other, dtold_back, dshows_found, d_law_pen, d_law_draw, d_law_pick, d_law_banks, d_law_rule, d_law_sum, d_law_weight, d_law_bank, d_law_least, d_law_split, d_law_first, d_law_shape, d_law_plains, d_law_unlike, d_law_log, d_law_parting]
def fn3 : List He.DefD := [d_law_due, d_law_right, d_law_papers_right, dlaw]
def fn : List He.DefD := fn0 ++ (fn1 ++ (fn2 ++ (fn3)))
def fa0 : List He.Fa := [.glo "is_integer", .glo "is_within", .glo "is_number", .glo "banks_of", .glo "are_moduli", .glo "are_banks", .glo "shortest_turn", .glo "normal_weights", .glo "common_multiple", .glo "need_rule", .glo "need_number", .glo "parts_of", .glo "joined", .glo "sum_of", .glo "opposite", .glo "weight_pairs", .glo "split_rule", .glo "upcoming", .glo "need_head", .glo "number_at", .glo "moduli_at", .glo "banks_at", .glo "need_rules", .glo "moved_pairs", .glo "raised", .glo "least_addresses", .glo "clashes", .glo "names_of", .glo "same_banks", .glo "is_entry"]
def fa1 : List He.Fa := [.glo "has_few", .glo "weights_of", .glo "rules_of", .glo "need_shape", .glo "need_log", .glo "fitting", .glo "first_other", .glo "told_back", .glo "shows_found", .glo "_law_pen", .glo "_law_draw", .glo "_law_pick", .glo "_law_banks", .glo "_law_rule", .glo "_law_sum", .glo "_law_weight", .glo "_law_bank", .glo "_law_least", .glo "_law_split", .glo "_law_first", .glo "_law_shape", .glo "_law_plains", .glo "_law_unlike", .glo "_law_log", .glo "_law_parting", .glo "_law_due", .glo "_law_right", .glo "_law_papers_right", .glo "law", .glo "Rule"]
def fa2 : List He.Fa := [.cls "Rule", .mkr "Rule", .keep "Rule", .noat "Rule" "moduli", .noat "Rule" "ahead", .noat "Rule" "turn", .glo "Same", .cls "Same", .mkr "Same", .keep "Same", .noat "Same" "names", .glo "Parted", .cls "Parted", .mkr "Parted", .keep "Parted", .noat "Parted" "first", .noat "Parted" "second", .glo "Log", .cls "Log", .mkr "Log", .keep "Log", .noat "Log" "entries", .glo "Shape", .cls "Shape", .mkr "Shape", .keep "Shape", .noat "Shape" "moduli", .noat "Shape" "ahead", .noat "Shape" "turn", .noat "Shape" "own_rules"]
def fa3 : List He.Fa := [.glo "Found", .cls "Found", .mkr "Found", .keep "Found", .noat "Found" "rule", .noat "Found" "log", .meth "Rule" "__init__", .meth "Rule" "class_of", .meth "Rule" "next_class", .meth "Rule" "weight", .meth "Rule" "__call__", .meth "Rule" "need_bank", .meth "Rule" "added", .meth "Rule" "less", .meth "Rule" "parts", .meth "Rule" "bank_of", .meth "Rule" "__mul__", .meth "Rule" "__add__", .meth "Rule" "__neg__", .meth "Rule" "__lshift__", .meth "Rule" "cut", .meth "Rule" "__eq__", .meth "Rule" "__str__", .meth "Same" "__init__", .meth "Same" "__eq__", .meth "Same" "__bool__", .meth "Parted" "__init__", .meth "Parted" "__eq__", .meth "Parted" "__bool__", .meth "Log" "__init__"]
def fa4 : List He.Fa := [.meth "Log" "first_against", .meth "Log" "__len__", .meth "Log" "__iter__", .meth "Log" "__add__", .meth "Log" "__eq__", .meth "Shape" "__init__", .meth "Shape" "__iter__", .meth "Shape" "__contains__", .meth "Shape" "__eq__", .meth "Found" "__init__", .meth "Found" "__eq__", .int "MOST_BANKS" 32, .int "MOST_MODULI" 5, .int "MOST_PLACES_rules" 24, .int "MOST_RULES" 5000, .int "MOST_ADDRESS" 1000000000000000000000000000000, .free "isinstance", .free "int", .free "bool", .free "len", .free "all", .free "range", .free "tuple", .free "list", .free "dict", .free "max", .free "min", .free "sorted", .free "enumerate", .free "zip"]
def fa5 : List He.Fa := [.free "iter", .free "next", .free "abs", .free "repr", .free "any"]
def fa : List He.Fa := fa0 ++ (fa1 ++ (fa2 ++ (fa3 ++ (fa4 ++ (fa5)))))
def ex0 (K : PySem.W.Frag) : List Bool := [PySem.W.specialIn K (.builtin "object.__class__") "__get__" == some (some (.builtin "getset_descriptor.__get__")), PySem.W.takesIn K (.builtin "object.__class__") == some true, PySem.W.findIn K (.ref (He.ga K "Rule")) "__class__" == some (some (.builtin "object.__class__")), PySem.W.mroIn K (He.ga K "Rule") (.type "object") == some true, PySem.W.findIn K (.ref (He.ga K "Same")) "__class__" == some (some (.builtin "object.__class__")), PySem.W.mroIn K (He.ga K "Same") (.type "object") == some true, PySem.W.findIn K (.ref (He.ga K "Parted")) "__class__" == some (some (.builtin "object.__class__")), PySem.W.mroIn K (He.ga K "Parted") (.type "object") == some true, PySem.W.findIn K (.ref (He.ga K "Log")) "__class__" == some (some (.builtin "object.__class__")), PySem.W.mroIn K (He.ga K "Log") (.type "object") == some true, PySem.W.findIn K (.ref (He.ga K "Shape")) "__class__" == some (some (.builtin "object.__class__")), PySem.W.mroIn K (He.ga K "Shape") (.type "object") == some true, PySem.W.findIn K (.ref (He.ga K "Found")) "__class__" == some (some (.builtin "object.__class__")), PySem.W.mroIn K (He.ga K "Found") (.type "object") == some true, PySem.W.findIn K (.ref (He.ga K "Found")) "__ne__" == some (some (.builtin "object.__ne__")), PySem.W.findIn K (.ref (He.ga K "Log")) "__ne__" == some (some (.builtin "object.__ne__")), PySem.W.findIn K (.ref (He.ga K "Rule")) "__ne__" == some (some (.builtin "object.__ne__")), PySem.W.findIn K (.ref (He.ga K "Shape")) "__len__" == some none, PySem.W.findIn K (.ref (He.ga K "Shape")) "__length_hint__" == some none, PySem.W.findIn K (.ref (He.ga K "Found")) "__bool__" == some none]
def ex1 (K : PySem.W.Frag) : List Bool := [PySem.W.findIn K (.ref (He.ga K "Found")) "__len__" == some none, PySem.W.selfFirst K (He.ga K "Log") == true, PySem.W.subIn K (.ref (He.ga K "Found")) (.type "tuple") == some false, decide ((He.cT K ("law", Option.none)).2 = (He.cT K ("_law_right", Option.none)).2) == false, decide ((He.cT K ("first_other", Option.none)).2 = (He.cT K ("_law_right", Option.none)).2) == false, decide ((He.cT K ("first_other", Option.none)).2 = (He.cT K ("law", Option.none)).2) == false, PySem.W.kitOne K (.type "tuple") (.ref (He.ga K "Found")) == some false, PySem.W.kitOne K (.type "NoneType") (.ref (He.ga K "Found")) == some false, PySem.W.subIn K (.ref (He.ga K "Found")) (.type "NoneType") == some false]
def exs (K : PySem.W.Frag) : List Bool := ex0 K ++ (ex1 K)
def exB (K : PySem.W.Frag) : Bool := (exs K).all id
/-- what the head says, at a written part and the module's names -/
structure Tx (K : PySem.W.Frag) (mg : Str → Option Value) : Prop where
  d : He.SaysD fa fn K
  e : exB K = true
  g : ∀ x, (He.Fa.glo x).ok K = true → mg x = some (.ref (He.ga K x))
  f : ∀ x, (He.Fa.free x).ok K = true → mg x = none
  i : ∀ x n, (He.Fa.int x n).ok K = true → ∃ t, mg x = some (.int n t)
theorem Tx.of {K : PySem.W.Frag} {h : Heap} {mg : Str → Option Value} (X : K.In h) (G : h.Ns mainGlobals mg) (c : He.SaysD fa fn K) (e : exB K = true) : Tx K mg :=
  ⟨c, e, fun _ q => He.glo_ok X G q, fun _ q => He.free_ok X G q, fun _ _ q => He.int_ok X G q⟩
namespace Tx
variable {K : PySem.W.Frag} {mg : Str → Option Value}
theorem ex_at (T : Tx K mg) (i : Nat) {b : Bool} (h : (exs K)[i]? = some b) : b = true := List.all_eq_true.mp T.e b (List.mem_of_getElem? h)
theorem x_getClass (T : Tx K mg) : PySem.W.specialIn K (.builtin "object.__class__") "__get__" = some (some (.builtin "getset_descriptor.__get__")) := beq_iff_eq.mp (T.ex_at 0 rfl)
theorem x_takesClass (T : Tx K mg) : PySem.W.takesIn K (.builtin "object.__class__") = some true := beq_iff_eq.mp (T.ex_at 1 rfl)
theorem x_Rule_class (T : Tx K mg) : PySem.W.findIn K (.ref (He.ga K "Rule")) "__class__" = some (some (.builtin "object.__class__")) := beq_iff_eq.mp (T.ex_at 2 rfl)
theorem x_Rule_object (T : Tx K mg) : PySem.W.mroIn K (He.ga K "Rule") (.type "object") = some true := beq_iff_eq.mp (T.ex_at 3 rfl)
theorem x_Same_class (T : Tx K mg) : PySem.W.findIn K (.ref (He.ga K "Same")) "__class__" = some (some (.builtin "object.__class__")) := beq_iff_eq.mp (T.ex_at 4 rfl)
theorem x_Same_object (T : Tx K mg) : PySem.W.mroIn K (He.ga K "Same") (.type "object") = some true := beq_iff_eq.mp (T.ex_at 5 rfl)
theorem x_Parted_class (T : Tx K mg) : PySem.W.findIn K (.ref (He.ga K "Parted")) "__class__" = some (some (.builtin "object.__class__")) := beq_iff_eq.mp (T.ex_at 6 rfl)
theorem x_Parted_object (T : Tx K mg) : PySem.W.mroIn K (He.ga K "Parted") (.type "object") = some true := beq_iff_eq.mp (T.ex_at 7 rfl)
theorem x_Log_class (T : Tx K mg) : PySem.W.findIn K (.ref (He.ga K "Log")) "__class__" = some (some (.builtin "object.__class__")) := beq_iff_eq.mp (T.ex_at 8 rfl)
theorem x_Log_object (T : Tx K mg) : PySem.W.mroIn K (He.ga K "Log") (.type "object") = some true := beq_iff_eq.mp (T.ex_at 9 rfl)
theorem x_Shape_class (T : Tx K mg) : PySem.W.findIn K (.ref (He.ga K "Shape")) "__class__" = some (some (.builtin "object.__class__")) := beq_iff_eq.mp (T.ex_at 10 rfl)
theorem x_Shape_object (T : Tx K mg) : PySem.W.mroIn K (He.ga K "Shape") (.type "object") = some true := beq_iff_eq.mp (T.ex_at 11 rfl)
theorem x_Found_class (T : Tx K mg) : PySem.W.findIn K (.ref (He.ga K "Found")) "__class__" = some (some (.builtin "object.__class__")) := beq_iff_eq.mp (T.ex_at 12 rfl)
theorem x_Found_object (T : Tx K mg) : PySem.W.mroIn K (He.ga K "Found") (.type "object") = some true := beq_iff_eq.mp (T.ex_at 13 rfl)
theorem x_Found__ne (T : Tx K mg) : PySem.W.findIn K (.ref (He.ga K "Found")) "__ne__" = some (some (.builtin "object.__ne__")) := beq_iff_eq.mp (T.ex_at 14 rfl)
theorem x_Log__ne (T : Tx K mg) : PySem.W.findIn K (.ref (He.ga K "Log")) "__ne__" = some (some (.builtin "object.__ne__")) := beq_iff_eq.mp (T.ex_at 15 rfl)
theorem x_Rule__ne (T : Tx K mg) : PySem.W.findIn K (.ref (He.ga K "Rule")) "__ne__" = some (some (.builtin "object.__ne__")) := beq_iff_eq.mp (T.ex_at 16 rfl)
theorem x_Shape__len (T : Tx K mg) : PySem.W.findIn K (.ref (He.ga K "Shape")) "__len__" = some none := beq_iff_eq.mp (T.ex_at 17 rfl)
theorem x_Shape__length_hint (T : Tx K mg) : PySem.W.findIn K (.ref (He.ga K "Shape")) "__length_hint__" = some none := beq_iff_eq.mp (T.ex_at 18 rfl)
theorem x_Found__bool (T : Tx K mg) : PySem.W.findIn K (.ref (He.ga K "Found")) "__bool__" = some none := beq_iff_eq.mp (T.ex_at 19 rfl)
theorem x_Found__len (T : Tx K mg) : PySem.W.findIn K (.ref (He.ga K "Found")) "__len__" = some none := beq_iff_eq.mp (T.ex_at 20 rfl)
theorem x_Log__first (T : Tx K mg) : PySem.W.selfFirst K (He.ga K "Log") = true := beq_iff_eq.mp (T.ex_at 21 rfl)
theorem x_Found__tuple (T : Tx K mg) : PySem.W.subIn K (.ref (He.ga K "Found")) (.type "tuple") = some false := beq_iff_eq.mp (T.ex_at 22 rfl)
theorem x_tab_lr (T : Tx K mg) : decide ((He.cT K ("law", Option.none)).2 = (He.cT K ("_law_right", Option.none)).2) = false := beq_iff_eq.mp (T.ex_at 23 rfl)
theorem x_tab_fr (T : Tx K mg) : decide ((He.cT K ("first_other", Option.none)).2 = (He.cT K ("_law_right", Option.none)).2) = false := beq_iff_eq.mp (T.ex_at 24 rfl)
theorem x_tab_fl (T : Tx K mg) : decide ((He.cT K ("first_other", Option.none)).2 = (He.cT K ("law", Option.none)).2) = false := beq_iff_eq.mp (T.ex_at 25 rfl)
theorem x_Found__ktuple (T : Tx K mg) : PySem.W.kitOne K (.type "tuple") (.ref (He.ga K "Found")) = some false := beq_iff_eq.mp (T.ex_at 26 rfl)
theorem x_Found__kNone (T : Tx K mg) : PySem.W.kitOne K (.type "NoneType") (.ref (He.ga K "Found")) = some false := beq_iff_eq.mp (T.ex_at 27 rfl)
theorem x_Found__NoneType (T : Tx K mg) : PySem.W.subIn K (.ref (He.ga K "Found")) (.type "NoneType") = some false := beq_iff_eq.mp (T.ex_at 28 rfl)
theorem g_is_integer (T : Tx K mg) : mg "is_integer" = some (.ref (He.ga K "is_integer")) := T.g "is_integer" (T.d.fact 0 (f := .glo "is_integer") rfl)
theorem g_is_within (T : Tx K mg) : mg "is_within" = some (.ref (He.ga K "is_within")) := T.g "is_within" (T.d.fact 1 (f := .glo "is_within") rfl)
theorem g_is_number (T : Tx K mg) : mg "is_number" = some (.ref (He.ga K "is_number")) := T.g "is_number" (T.d.fact 2 (f := .glo "is_number") rfl)
theorem g_banks_of (T : Tx K mg) : mg "banks_of" = some (.ref (He.ga K "banks_of")) := T.g "banks_of" (T.d.fact 3 (f := .glo "banks_of") rfl)
theorem g_are_moduli (T : Tx K mg) : mg "are_moduli" = some (.ref (He.ga K "are_moduli")) := T.g "are_moduli" (T.d.fact 4 (f := .glo "are_moduli") rfl)
theorem g_are_banks (T : Tx K mg) : mg "are_banks" = some (.ref (He.ga K "are_banks")) := T.g "are_banks" (T.d.fact 5 (f := .glo "are_banks") rfl)
theorem g_shortest_turn (T : Tx K mg) : mg "shortest_turn" = some (.ref (He.ga K "shortest_turn")) := T.g "shortest_turn" (T.d.fact 6 (f := .glo "shortest_turn") rfl)
theorem g_normal_weights (T : Tx K mg) : mg "normal_weights" = some (.ref (He.ga K "normal_weights")) := T.g "normal_weights" (T.d.fact 7 (f := .glo "normal_weights") rfl)
theorem g_common_multiple (T : Tx K mg) : mg "common_multiple" = some (.ref (He.ga K "common_multiple")) := T.g "common_multiple" (T.d.fact 8 (f := .glo "common_multiple") rfl)
theorem g_need_rule (T : Tx K mg) : mg "need_rule" = some (.ref (He.ga K "need_rule")) := T.g "need_rule" (T.d.fact 9 (f := .glo "need_rule") rfl)
theorem g_need_number (T : Tx K mg) : mg "need_number" = some (.ref (He.ga K "need_number")) := T.g "need_number" (T.d.fact 10 (f := .glo "need_number") rfl)
theorem g_parts_of (T : Tx K mg) : mg "parts_of" = some (.ref (He.ga K "parts_of")) := T.g "parts_of" (T.d.fact 11 (f := .glo "parts_of") rfl)
theorem g_joined (T : Tx K mg) : mg "joined" = some (.ref (He.ga K "joined")) := T.g "joined" (T.d.fact 12 (f := .glo "joined") rfl)
theorem g_sum_of (T : Tx K mg) : mg "sum_of" = some (.ref (He.ga K "sum_of")) := T.g "sum_of" (T.d.fact 13 (f := .glo "sum_of") rfl)
theorem g_opposite (T : Tx K mg) : mg "opposite" = some (.ref (He.ga K "opposite")) := T.g "opposite" (T.d.fact 14 (f := .glo "opposite") rfl)
theorem g_weight_pairs (T : Tx K mg) : mg "weight_pairs" = some (.ref (He.ga K "weight_pairs")) := T.g "weight_pairs" (T.d.fact 15 (f := .glo "weight_pairs") rfl)
theorem g_split_rule (T : Tx K mg) : mg "split_rule" = some (.ref (He.ga K "split_rule")) := T.g "split_rule" (T.d.fact 16 (f := .glo "split_rule") rfl)
theorem g_upcoming (T : Tx K mg) : mg "upcoming" = some (.ref (He.ga K "upcoming")) := T.g "upcoming" (T.d.fact 17 (f := .glo "upcoming") rfl)
theorem g_need_head (T : Tx K mg) : mg "need_head" = some (.ref (He.ga K "need_head")) := T.g "need_head" (T.d.fact 18 (f := .glo "need_head") rfl)
theorem g_number_at (T : Tx K mg) : mg "number_at" = some (.ref (He.ga K "number_at")) := T.g "number_at" (T.d.fact 19 (f := .glo "number_at") rfl)
theorem g_moduli_at (T : Tx K mg) : mg "moduli_at" = some (.ref (He.ga K "moduli_at")) := T.g "moduli_at" (T.d.fact 20 (f := .glo "moduli_at") rfl)
theorem g_banks_at (T : Tx K mg) : mg "banks_at" = some (.ref (He.ga K "banks_at")) := T.g "banks_at" (T.d.fact 21 (f := .glo "banks_at") rfl)
theorem g_need_rules (T : Tx K mg) : mg "need_rules" = some (.ref (He.ga K "need_rules")) := T.g "need_rules" (T.d.fact 22 (f := .glo "need_rules") rfl)
theorem g_moved_pairs (T : Tx K mg) : mg "moved_pairs" = some (.ref (He.ga K "moved_pairs")) := T.g "moved_pairs" (T.d.fact 23 (f := .glo "moved_pairs") rfl)
theorem g_raised (T : Tx K mg) : mg "raised" = some (.ref (He.ga K "raised")) := T.g "raised" (T.d.fact 24 (f := .glo "raised") rfl)
theorem g_least_addresses (T : Tx K mg) : mg "least_addresses" = some (.ref (He.ga K "least_addresses")) := T.g "least_addresses" (T.d.fact 25 (f := .glo "least_addresses") rfl)
theorem g_clashes (T : Tx K mg) : mg "clashes" = some (.ref (He.ga K "clashes")) := T.g "clashes" (T.d.fact 26 (f := .glo "clashes") rfl)
theorem g_names_of (T : Tx K mg) : mg "names_of" = some (.ref (He.ga K "names_of")) := T.g "names_of" (T.d.fact 27 (f := .glo "names_of") rfl)
theorem g_same_banks (T : Tx K mg) : mg "same_banks" = some (.ref (He.ga K "same_banks")) := T.g "same_banks" (T.d.fact 28 (f := .glo "same_banks") rfl)
theorem g_is_entry (T : Tx K mg) : mg "is_entry" = some (.ref (He.ga K "is_entry")) := T.g "is_entry" (T.d.fact 29 (f := .glo "is_entry") rfl)
theorem g_has_few (T : Tx K mg) : mg "has_few" = some (.ref (He.ga K "has_few")) := T.g "has_few" (T.d.fact 30 (f := .glo "has_few") rfl)
theorem g_weights_of (T : Tx K mg) : mg "weights_of" = some (.ref (He.ga K "weights_of")) := T.g "weights_of" (T.d.fact 31 (f := .glo "weights_of") rfl)
theorem g_rules_of (T : Tx K mg) : mg "rules_of" = some (.ref (He.ga K "rules_of")) := T.g "rules_of" (T.d.fact 32 (f := .glo "rules_of") rfl)
theorem g_need_shape (T : Tx K mg) : mg "need_shape" = some (.ref (He.ga K "need_shape")) := T.g "need_shape" (T.d.fact 33 (f := .glo "need_shape") rfl)
theorem g_need_log (T : Tx K mg) : mg "need_log" = some (.ref (He.ga K "need_log")) := T.g "need_log" (T.d.fact 34 (f := .glo "need_log") rfl)
theorem g_fitting (T : Tx K mg) : mg "fitting" = some (.ref (He.ga K "fitting")) := T.g "fitting" (T.d.fact 35 (f := .glo "fitting") rfl)
theorem g_first_other (T : Tx K mg) : mg "first_other" = some (.ref (He.ga K "first_other")) := T.g "first_other" (T.d.fact 36 (f := .glo "first_other") rfl)
theorem g_told_back (T : Tx K mg) : mg "told_back" = some (.ref (He.ga K "told_back")) := T.g "told_back" (T.d.fact 37 (f := .glo "told_back") rfl)
theorem g_shows_found (T : Tx K mg) : mg "shows_found" = some (.ref (He.ga K "shows_found")) := T.g "shows_found" (T.d.fact 38 (f := .glo "shows_found") rfl)
theorem g__law_pen (T : Tx K mg) : mg "_law_pen" = some (.ref (He.ga K "_law_pen")) := T.g "_law_pen" (T.d.fact 39 (f := .glo "_law_pen") rfl)
theorem g__law_draw (T : Tx K mg) : mg "_law_draw" = some (.ref (He.ga K "_law_draw")) := T.g "_law_draw" (T.d.fact 40 (f := .glo "_law_draw") rfl)
theorem g__law_pick (T : Tx K mg) : mg "_law_pick" = some (.ref (He.ga K "_law_pick")) := T.g "_law_pick" (T.d.fact 41 (f := .glo "_law_pick") rfl)
theorem g__law_banks (T : Tx K mg) : mg "_law_banks" = some (.ref (He.ga K "_law_banks")) := T.g "_law_banks" (T.d.fact 42 (f := .glo "_law_banks") rfl)
theorem g__law_rule (T : Tx K mg) : mg "_law_rule" = some (.ref (He.ga K "_law_rule")) := T.g "_law_rule" (T.d.fact 43 (f := .glo "_law_rule") rfl)
theorem g__law_sum (T : Tx K mg) : mg "_law_sum" = some (.ref (He.ga K "_law_sum")) := T.g "_law_sum" (T.d.fact 44 (f := .glo "_law_sum") rfl)
theorem g__law_weight (T : Tx K mg) : mg "_law_weight" = some (.ref (He.ga K "_law_weight")) := T.g "_law_weight" (T.d.fact 45 (f := .glo "_law_weight") rfl)
theorem g__law_bank (T : Tx K mg) : mg "_law_bank" = some (.ref (He.ga K "_law_bank")) := T.g "_law_bank" (T.d.fact 46 (f := .glo "_law_bank") rfl)
theorem g__law_least (T : Tx K mg) : mg "_law_least" = some (.ref (He.ga K "_law_least")) := T.g "_law_least" (T.d.fact 47 (f := .glo "_law_least") rfl)
theorem g__law_split (T : Tx K mg) : mg "_law_split" = some (.ref (He.ga K "_law_split")) := T.g "_law_split" (T.d.fact 48 (f := .glo "_law_split") rfl)
theorem g__law_first (T : Tx K mg) : mg "_law_first" = some (.ref (He.ga K "_law_first")) := T.g "_law_first" (T.d.fact 49 (f := .glo "_law_first") rfl)
theorem g__law_shape (T : Tx K mg) : mg "_law_shape" = some (.ref (He.ga K "_law_shape")) := T.g "_law_shape" (T.d.fact 50 (f := .glo "_law_shape") rfl)
theorem g__law_plains (T : Tx K mg) : mg "_law_plains" = some (.ref (He.ga K "_law_plains")) := T.g "_law_plains" (T.d.fact 51 (f := .glo "_law_plains") rfl)
theorem g__law_unlike (T : Tx K mg) : mg "_law_unlike" = some (.ref (He.ga K "_law_unlike")) := T.g "_law_unlike" (T.d.fact 52 (f := .glo "_law_unlike") rfl)
theorem g__law_log (T : Tx K mg) : mg "_law_log" = some (.ref (He.ga K "_law_log")) := T.g "_law_log" (T.d.fact 53 (f := .glo "_law_log") rfl)
theorem g__law_parting (T : Tx K mg) : mg "_law_parting" = some (.ref (He.ga K "_law_parting")) := T.g "_law_parting" (T.d.fact 54 (f := .glo "_law_parting") rfl)
theorem g__law_due (T : Tx K mg) : mg "_law_due" = some (.ref (He.ga K "_law_due")) := T.g "_law_due" (T.d.fact 55 (f := .glo "_law_due") rfl)
theorem g__law_right (T : Tx K mg) : mg "_law_right" = some (.ref (He.ga K "_law_right")) := T.g "_law_right" (T.d.fact 56 (f := .glo "_law_right") rfl)
theorem g__law_papers_right (T : Tx K mg) : mg "_law_papers_right" = some (.ref (He.ga K "_law_papers_right")) := T.g "_law_papers_right" (T.d.fact 57 (f := .glo "_law_papers_right") rfl)
theorem g_law (T : Tx K mg) : mg "law" = some (.ref (He.ga K "law")) := T.g "law" (T.d.fact 58 (f := .glo "law") rfl)
theorem g_Rule (T : Tx K mg) : mg "Rule" = some (.ref (He.ga K "Rule")) := T.g "Rule" (T.d.fact 59 (f := .glo "Rule") rfl)
theorem c_Rule (T : Tx K mg) : Cls K (He.ga K "Rule") := He.cls_ok (T.d.fact 60 (f := .cls "Rule") rfl)
theorem mk_Rule (T : Tx K mg) : Mk K (He.ga K "Rule") (He.ma K (He.ga K "Rule") "__init__") := He.mkr_ok (T.d.fact 61 (f := .mkr "Rule") rfl)
theorem kp_Rule (T : Tx K mg) : PySem.W.keepIn K (.ref (He.ga K "Rule")) = true := He.keep_ok (T.d.fact 62 (f := .keep "Rule") rfl)
theorem n_Rule_moduli (T : Tx K mg) : NoAttr K (He.ga K "Rule") "moduli" := He.noat_ok (T.d.fact 63 (f := .noat "Rule" "moduli") rfl)
theorem n_Rule_ahead (T : Tx K mg) : NoAttr K (He.ga K "Rule") "ahead" := He.noat_ok (T.d.fact 64 (f := .noat "Rule" "ahead") rfl)
theorem n_Rule_turn (T : Tx K mg) : NoAttr K (He.ga K "Rule") "turn" := He.noat_ok (T.d.fact 65 (f := .noat "Rule" "turn") rfl)
theorem g_Same (T : Tx K mg) : mg "Same" = some (.ref (He.ga K "Same")) := T.g "Same" (T.d.fact 66 (f := .glo "Same") rfl)
theorem c_Same (T : Tx K mg) : Cls K (He.ga K "Same") := He.cls_ok (T.d.fact 67 (f := .cls "Same") rfl)
theorem mk_Same (T : Tx K mg) : Mk K (He.ga K "Same") (He.ma K (He.ga K "Same") "__init__") := He.mkr_ok (T.d.fact 68 (f := .mkr "Same") rfl)
theorem kp_Same (T : Tx K mg) : PySem.W.keepIn K (.ref (He.ga K "Same")) = true := He.keep_ok (T.d.fact 69 (f := .keep "Same") rfl)
theorem n_Same_names (T : Tx K mg) : NoAttr K (He.ga K "Same") "names" := He.noat_ok (T.d.fact 70 (f := .noat "Same" "names") rfl)
theorem g_Parted (T : Tx K mg) : mg "Parted" = some (.ref (He.ga K "Parted")) := T.g "Parted" (T.d.fact 71 (f := .glo "Parted") rfl)
theorem c_Parted (T : Tx K mg) : Cls K (He.ga K "Parted") := He.cls_ok (T.d.fact 72 (f := .cls "Parted") rfl)
theorem mk_Parted (T : Tx K mg) : Mk K (He.ga K "Parted") (He.ma K (He.ga K "Parted") "__init__") := He.mkr_ok (T.d.fact 73 (f := .mkr "Parted") rfl)
theorem kp_Parted (T : Tx K mg) : PySem.W.keepIn K (.ref (He.ga K "Parted")) = true := He.keep_ok (T.d.fact 74 (f := .keep "Parted") rfl)
theorem n_Parted_first (T : Tx K mg) : NoAttr K (He.ga K "Parted") "first" := He.noat_ok (T.d.fact 75 (f := .noat "Parted" "first") rfl)
theorem n_Parted_second (T : Tx K mg) : NoAttr K (He.ga K "Parted") "second" := He.noat_ok (T.d.fact 76 (f := .noat "Parted" "second") rfl)
theorem g_Log (T : Tx K mg) : mg "Log" = some (.ref (He.ga K "Log")) := T.g "Log" (T.d.fact 77 (f := .glo "Log") rfl)
theorem c_Log (T : Tx K mg) : Cls K (He.ga K "Log") := He.cls_ok (T.d.fact 78 (f := .cls "Log") rfl)
theorem mk_Log (T : Tx K mg) : Mk K (He.ga K "Log") (He.ma K (He.ga K "Log") "__init__") := He.mkr_ok (T.d.fact 79 (f := .mkr "Log") rfl)
theorem kp_Log (T : Tx K mg) : PySem.W.keepIn K (.ref (He.ga K "Log")) = true := He.keep_ok (T.d.fact 80 (f := .keep "Log") rfl)
theorem n_Log_entries (T : Tx K mg) : NoAttr K (He.ga K "Log") "entries" := He.noat_ok (T.d.fact 81 (f := .noat "Log" "entries") rfl)
theorem g_Shape (T : Tx K mg) : mg "Shape" = some (.ref (He.ga K "Shape")) := T.g "Shape" (T.d.fact 82 (f := .glo "Shape") rfl)
theorem c_Shape (T : Tx K mg) : Cls K (He.ga K "Shape") := He.cls_ok (T.d.fact 83 (f := .cls "Shape") rfl)
theorem mk_Shape (T : Tx K mg) : Mk K (He.ga K "Shape") (He.ma K (He.ga K "Shape") "__init__") := He.mkr_ok (T.d.fact 84 (f := .mkr "Shape") rfl)
theorem kp_Shape (T : Tx K mg) : PySem.W.keepIn K (.ref (He.ga K "Shape")) = true := He.keep_ok (T.d.fact 85 (f := .keep "Shape") rfl)
theorem n_Shape_moduli (T : Tx K mg) : NoAttr K (He.ga K "Shape") "moduli" := He.noat_ok (T.d.fact 86 (f := .noat "Shape" "moduli") rfl)
theorem n_Shape_ahead (T : Tx K mg) : NoAttr K (He.ga K "Shape") "ahead" := He.noat_ok (T.d.fact 87 (f := .noat "Shape" "ahead") rfl)
theorem n_Shape_turn (T : Tx K mg) : NoAttr K (He.ga K "Shape") "turn" := He.noat_ok (T.d.fact 88 (f := .noat "Shape" "turn") rfl)
theorem n_Shape_own_rules (T : Tx K mg) : NoAttr K (He.ga K "Shape") "own_rules" := He.noat_ok (T.d.fact 89 (f := .noat "Shape" "own_rules") rfl)
theorem g_Found (T : Tx K mg) : mg "Found" = some (.ref (He.ga K "Found")) := T.g "Found" (T.d.fact 90 (f := .glo "Found") rfl)
theorem c_Found (T : Tx K mg) : Cls K (He.ga K "Found") := He.cls_ok (T.d.fact 91 (f := .cls "Found") rfl)
theorem mk_Found (T : Tx K mg) : Mk K (He.ga K "Found") (He.ma K (He.ga K "Found") "__init__") := He.mkr_ok (T.d.fact 92 (f := .mkr "Found") rfl)
theorem kp_Found (T : Tx K mg) : PySem.W.keepIn K (.ref (He.ga K "Found")) = true := He.keep_ok (T.d.fact 93 (f := .keep "Found") rfl)
theorem n_Found_rule (T : Tx K mg) : NoAttr K (He.ga K "Found") "rule" := He.noat_ok (T.d.fact 94 (f := .noat "Found" "rule") rfl)
theorem n_Found_log (T : Tx K mg) : NoAttr K (He.ga K "Found") "log" := He.noat_ok (T.d.fact 95 (f := .noat "Found" "log") rfl)
theorem m_Rule_init (T : Tx K mg) : Meth K (He.ga K "Rule") "__init__" (He.ma K (He.ga K "Rule") "__init__") := He.meth_ok (T.d.fact 96 (f := .meth "Rule" "__init__") rfl)
theorem m_Rule_class_of (T : Tx K mg) : Meth K (He.ga K "Rule") "class_of" (He.ma K (He.ga K "Rule") "class_of") := He.meth_ok (T.d.fact 97 (f := .meth "Rule" "class_of") rfl)
theorem m_Rule_next_class (T : Tx K mg) : Meth K (He.ga K "Rule") "next_class" (He.ma K (He.ga K "Rule") "next_class") := He.meth_ok (T.d.fact 98 (f := .meth "Rule" "next_class") rfl)
theorem m_Rule_weight (T : Tx K mg) : Meth K (He.ga K "Rule") "weight" (He.ma K (He.ga K "Rule") "weight") := He.meth_ok (T.d.fact 99 (f := .meth "Rule" "weight") rfl)
theorem m_Rule_call (T : Tx K mg) : Meth K (He.ga K "Rule") "__call__" (He.ma K (He.ga K "Rule") "__call__") := He.meth_ok (T.d.fact 100 (f := .meth "Rule" "__call__") rfl)
theorem m_Rule_need_bank (T : Tx K mg) : Meth K (He.ga K "Rule") "need_bank" (He.ma K (He.ga K "Rule") "need_bank") := He.meth_ok (T.d.fact 101 (f := .meth "Rule" "need_bank") rfl)
theorem m_Rule_added (T : Tx K mg) : Meth K (He.ga K "Rule") "added" (He.ma K (He.ga K "Rule") "added") := He.meth_ok (T.d.fact 102 (f := .meth "Rule" "added") rfl)
theorem m_Rule_less (T : Tx K mg) : Meth K (He.ga K "Rule") "less" (He.ma K (He.ga K "Rule") "less") := He.meth_ok (T.d.fact 103 (f := .meth "Rule" "less") rfl)
theorem m_Rule_parts (T : Tx K mg) : Meth K (He.ga K "Rule") "parts" (He.ma K (He.ga K "Rule") "parts") := He.meth_ok (T.d.fact 104 (f := .meth "Rule" "parts") rfl)
theorem m_Rule_bank_of (T : Tx K mg) : Meth K (He.ga K "Rule") "bank_of" (He.ma K (He.ga K "Rule") "bank_of") := He.meth_ok (T.d.fact 105 (f := .meth "Rule" "bank_of") rfl)
theorem m_Rule_mul (T : Tx K mg) : Meth K (He.ga K "Rule") "__mul__" (He.ma K (He.ga K "Rule") "__mul__") := He.meth_ok (T.d.fact 106 (f := .meth "Rule" "__mul__") rfl)
theorem m_Rule_add (T : Tx K mg) : Meth K (He.ga K "Rule") "__add__" (He.ma K (He.ga K "Rule") "__add__") := He.meth_ok (T.d.fact 107 (f := .meth "Rule" "__add__") rfl)
theorem m_Rule_neg (T : Tx K mg) : Meth K (He.ga K "Rule") "__neg__" (He.ma K (He.ga K "Rule") "__neg__") := He.meth_ok (T.d.fact 108 (f := .meth "Rule" "__neg__") rfl)
theorem m_Rule_lshift (T : Tx K mg) : Meth K (He.ga K "Rule") "__lshift__" (He.ma K (He.ga K "Rule") "__lshift__") := He.meth_ok (T.d.fact 109 (f := .meth "Rule" "__lshift__") rfl)
theorem m_Rule_cut (T : Tx K mg) : Meth K (He.ga K "Rule") "cut" (He.ma K (He.ga K "Rule") "cut") := He.meth_ok (T.d.fact 110 (f := .meth "Rule" "cut") rfl)
theorem m_Rule_eq (T : Tx K mg) : Meth K (He.ga K "Rule") "__eq__" (He.ma K (He.ga K "Rule") "__eq__") := He.meth_ok (T.d.fact 111 (f := .meth "Rule" "__eq__") rfl)
theorem m_Rule_str (T : Tx K mg) : Meth K (He.ga K "Rule") "__str__" (He.ma K (He.ga K "Rule") "__str__") := He.meth_ok (T.d.fact 112 (f := .meth "Rule" "__str__") rfl)
theorem m_Same_init (T : Tx K mg) : Meth K (He.ga K "Same") "__init__" (He.ma K (He.ga K "Same") "__init__") := He.meth_ok (T.d.fact 113 (f := .meth "Same" "__init__") rfl)
theorem m_Same_eq (T : Tx K mg) : Meth K (He.ga K "Same") "__eq__" (He.ma K (He.ga K "Same") "__eq__") := He.meth_ok (T.d.fact 114 (f := .meth "Same" "__eq__") rfl)
theorem m_Same_bool (T : Tx K mg) : Meth K (He.ga K "Same") "__bool__" (He.ma K (He.ga K "Same") "__bool__") := He.meth_ok (T.d.fact 115 (f := .meth "Same" "__bool__") rfl)
theorem m_Parted_init (T : Tx K mg) : Meth K (He.ga K "Parted") "__init__" (He.ma K (He.ga K "Parted") "__init__") := He.meth_ok (T.d.fact 116 (f := .meth "Parted" "__init__") rfl)
theorem m_Parted_eq (T : Tx K mg) : Meth K (He.ga K "Parted") "__eq__" (He.ma K (He.ga K "Parted") "__eq__") := He.meth_ok (T.d.fact 117 (f := .meth "Parted" "__eq__") rfl)
theorem m_Parted_bool (T : Tx K mg) : Meth K (He.ga K "Parted") "__bool__" (He.ma K (He.ga K "Parted") "__bool__") := He.meth_ok (T.d.fact 118 (f := .meth "Parted" "__bool__") rfl)
theorem m_Log_init (T : Tx K mg) : Meth K (He.ga K "Log") "__init__" (He.ma K (He.ga K "Log") "__init__") := He.meth_ok (T.d.fact 119 (f := .meth "Log" "__init__") rfl)
theorem m_Log_first_against (T : Tx K mg) : Meth K (He.ga K "Log") "first_against" (He.ma K (He.ga K "Log") "first_against") := He.meth_ok (T.d.fact 120 (f := .meth "Log" "first_against") rfl)
theorem m_Log_len (T : Tx K mg) : Meth K (He.ga K "Log") "__len__" (He.ma K (He.ga K "Log") "__len__") := He.meth_ok (T.d.fact 121 (f := .meth "Log" "__len__") rfl)
theorem m_Log_iter (T : Tx K mg) : Meth K (He.ga K "Log") "__iter__" (He.ma K (He.ga K "Log") "__iter__") := He.meth_ok (T.d.fact 122 (f := .meth "Log" "__iter__") rfl)
theorem m_Log_add (T : Tx K mg) : Meth K (He.ga K "Log") "__add__" (He.ma K (He.ga K "Log") "__add__") := He.meth_ok (T.d.fact 123 (f := .meth "Log" "__add__") rfl)
theorem m_Log_eq (T : Tx K mg) : Meth K (He.ga K "Log") "__eq__" (He.ma K (He.ga K "Log") "__eq__") := He.meth_ok (T.d.fact 124 (f := .meth "Log" "__eq__") rfl)
theorem m_Shape_init (T : Tx K mg) : Meth K (He.ga K "Shape") "__init__" (He.ma K (He.ga K "Shape") "__init__") := He.meth_ok (T.d.fact 125 (f := .meth "Shape" "__init__") rfl)
theorem m_Shape_iter (T : Tx K mg) : Meth K (He.ga K "Shape") "__iter__" (He.ma K (He.ga K "Shape") "__iter__") := He.meth_ok (T.d.fact 126 (f := .meth "Shape" "__iter__") rfl)
theorem m_Shape_contains (T : Tx K mg) : Meth K (He.ga K "Shape") "__contains__" (He.ma K (He.ga K "Shape") "__contains__") := He.meth_ok (T.d.fact 127 (f := .meth "Shape" "__contains__") rfl)
theorem m_Shape_eq (T : Tx K mg) : Meth K (He.ga K "Shape") "__eq__" (He.ma K (He.ga K "Shape") "__eq__") := He.meth_ok (T.d.fact 128 (f := .meth "Shape" "__eq__") rfl)
theorem m_Found_init (T : Tx K mg) : Meth K (He.ga K "Found") "__init__" (He.ma K (He.ga K "Found") "__init__") := He.meth_ok (T.d.fact 129 (f := .meth "Found" "__init__") rfl)
theorem m_Found_eq (T : Tx K mg) : Meth K (He.ga K "Found") "__eq__" (He.ma K (He.ga K "Found") "__eq__") := He.meth_ok (T.d.fact 130 (f := .meth "Found" "__eq__") rfl)
theorem i_MOST_BANKS (T : Tx K mg) : ∃ t, mg "MOST_BANKS" = some (.int 32 t) := T.i _ _ (T.d.fact 131 (f := .int "MOST_BANKS" 32) rfl)
theorem i_MOST_MODULI (T : Tx K mg) : ∃ t, mg "MOST_MODULI" = some (.int 5 t) := T.i _ _ (T.d.fact 132 (f := .int "MOST_MODULI" 5) rfl)
theorem i_MOST_PLACES_rules (T : Tx K mg) : ∃ t, mg "MOST_PLACES_rules" = some (.int 24 t) := T.i _ _ (T.d.fact 133 (f := .int "MOST_PLACES_rules" 24) rfl)
theorem i_MOST_RULES (T : Tx K mg) : ∃ t, mg "MOST_RULES" = some (.int 5000 t) := T.i _ _ (T.d.fact 134 (f := .int "MOST_RULES" 5000) rfl)
theorem i_MOST_ADDRESS (T : Tx K mg) : ∃ t, mg "MOST_ADDRESS" = some (.int 1000000000000000000000000000000 t) := T.i _ _ (T.d.fact 135 (f := .int "MOST_ADDRESS" 1000000000000000000000000000000) rfl)
theorem b_isinstance (T : Tx K mg) : mg "isinstance" = none := T.f "isinstance" (T.d.fact 136 (f := .free "isinstance") rfl)
theorem b_int (T : Tx K mg) : mg "int" = none := T.f "int" (T.d.fact 137 (f := .free "int") rfl)
theorem b_bool (T : Tx K mg) : mg "bool" = none := T.f "bool" (T.d.fact 138 (f := .free "bool") rfl)
theorem b_len (T : Tx K mg) : mg "len" = none := T.f "len" (T.d.fact 139 (f := .free "len") rfl)
theorem b_all (T : Tx K mg) : mg "all" = none := T.f "all" (T.d.fact 140 (f := .free "all") rfl)
theorem b_range (T : Tx K mg) : mg "range" = none := T.f "range" (T.d.fact 141 (f := .free "range") rfl)
theorem b_tuple (T : Tx K mg) : mg "tuple" = none := T.f "tuple" (T.d.fact 142 (f := .free "tuple") rfl)
theorem b_list (T : Tx K mg) : mg "list" = none := T.f "list" (T.d.fact 143 (f := .free "list") rfl)
theorem b_dict (T : Tx K mg) : mg "dict" = none := T.f "dict" (T.d.fact 144 (f := .free "dict") rfl)
theorem b_max (T : Tx K mg) : mg "max" = none := T.f "max" (T.d.fact 145 (f := .free "max") rfl)
theorem b_min (T : Tx K mg) : mg "min" = none := T.f "min" (T.d.fact 146 (f := .free "min") rfl)
theorem b_sorted (T : Tx K mg) : mg "sorted" = none := T.f "sorted" (T.d.fact 147 (f := .free "sorted") rfl)
theorem b_enumerate (T : Tx K mg) : mg "enumerate" = none := T.f "enumerate" (T.d.fact 148 (f := .free "enumerate") rfl)
theorem b_zip (T : Tx K mg) : mg "zip" = none := T.f "zip" (T.d.fact 149 (f := .free "zip") rfl)
theorem b_iter (T : Tx K mg) : mg "iter" = none := T.f "iter" (T.d.fact 150 (f := .free "iter") rfl)
theorem b_next (T : Tx K mg) : mg "next" = none := T.f "next" (T.d.fact 151 (f := .free "next") rfl)
theorem b_abs (T : Tx K mg) : mg "abs" = none := T.f "abs" (T.d.fact 152 (f := .free "abs") rfl)
theorem b_repr (T : Tx K mg) : mg "repr" = none := T.f "repr" (T.d.fact 153 (f := .free "repr") rfl)
theorem b_any (T : Tx K mg) : mg "any" = none := T.f "any" (T.d.fact 154 (f := .free "any") rfl)
theorem fis_integer (T : Tx K mg) : ∃ fd, FunD K "is_integer" "is_integer" (defArgs sis_integer) (defBody sis_integer) (defScope sis_integer) [] [] (He.ga K "is_integer") fd := T.d.def_ 0 (d := dis_integer) rfl
theorem fis_within (T : Tx K mg) : ∃ fd, FunD K "is_within" "is_within" (defArgs sis_within) (defBody sis_within) (defScope sis_within) [] [] (He.ga K "is_within") fd := T.d.def_ 1 (d := dis_within) rfl
theorem fis_number (T : Tx K mg) : ∃ fd, FunD K "is_number" "is_number" (defArgs sis_number) (defBody sis_number) (defScope sis_number) [] [] (He.ga K "is_number") fd := T.d.def_ 2 (d := dis_number) rfl
theorem fbanks_of (T : Tx K mg) : ∃ fd, FunD K "banks_of" "banks_of" (defArgs sbanks_of) (defBody sbanks_of) (defScope sbanks_of) [] [] (He.ga K "banks_of") fd := T.d.def_ 3 (d := dbanks_of) rfl
theorem fare_moduli (T : Tx K mg) : ∃ fd, FunD K "are_moduli" "are_moduli" (defArgs sare_moduli) (defBody sare_moduli) (defScope sare_moduli) [] [] (He.ga K "are_moduli") fd := T.d.def_ 4 (d := dare_moduli) rfl
theorem fare_banks (T : Tx K mg) : ∃ fd, FunD K "are_banks" "are_banks" (defArgs sare_banks) (defBody sare_banks) (defScope sare_banks) [] [] (He.ga K "are_banks") fd := T.d.def_ 5 (d := dare_banks) rfl
theorem fshortest_turn (T : Tx K mg) : ∃ fd, FunD K "shortest_turn" "shortest_turn" (defArgs sshortest_turn) (defBody sshortest_turn) (defScope sshortest_turn) [] [] (He.ga K "shortest_turn") fd := T.d.def_ 6 (d := dshortest_turn) rfl
theorem fnormal_weights (T : Tx K mg) : ∃ fd, FunD K "normal_weights" "normal_weights" (defArgs snormal_weights) (defBody snormal_weights) (defScope snormal_weights) [] [] (He.ga K "normal_weights") fd := T.d.def_ 7 (d := dnormal_weights) rfl
theorem fcommon_multiple (T : Tx K mg) : ∃ fd, FunD K "common_multiple" "common_multiple" (defArgs scommon_multiple) (defBody scommon_multiple) (defScope scommon_multiple) [] [] (He.ga K "common_multiple") fd := T.d.def_ 8 (d := dcommon_multiple) rfl
theorem fRule_init (T : Tx K mg) : ∃ fd, FunD K "__init__" "Rule.__init__" (defArgs sRule_init) (defBody sRule_init) (defScope sRule_init) [] [] (He.ma K (He.ga K "Rule") "__init__") fd := T.d.def_ 9 (d := dRule_init) rfl
theorem fRule_class_of (T : Tx K mg) : ∃ fd, FunD K "class_of" "Rule.class_of" (defArgs sRule_class_of) (defBody sRule_class_of) (defScope sRule_class_of) [] [] (He.ma K (He.ga K "Rule") "class_of") fd := T.d.def_ 10 (d := dRule_class_of) rfl
theorem fRule_next_class (T : Tx K mg) : ∃ fd, FunD K "next_class" "Rule.next_class" (defArgs sRule_next_class) (defBody sRule_next_class) (defScope sRule_next_class) [] [] (He.ma K (He.ga K "Rule") "next_class") fd := T.d.def_ 11 (d := dRule_next_class) rfl
theorem fRule_weight (T : Tx K mg) : ∃ fd, FunD K "weight" "Rule.weight" (defArgs sRule_weight) (defBody sRule_weight) (defScope sRule_weight) [] [] (He.ma K (He.ga K "Rule") "weight") fd := T.d.def_ 12 (d := dRule_weight) rfl
theorem fRule_call (T : Tx K mg) : ∃ fd, FunD K "__call__" "Rule.__call__" (defArgs sRule_call) (defBody sRule_call) (defScope sRule_call) [] [] (He.ma K (He.ga K "Rule") "__call__") fd := T.d.def_ 13 (d := dRule_call) rfl
theorem fRule_need_bank (T : Tx K mg) : ∃ fd, FunD K "need_bank" "Rule.need_bank" (defArgs sRule_need_bank) (defBody sRule_need_bank) (defScope sRule_need_bank) [] [] (He.ma K (He.ga K "Rule") "need_bank") fd := T.d.def_ 14 (d := dRule_need_bank) rfl
theorem fRule_added (T : Tx K mg) : ∃ fd, FunD K "added" "Rule.added" (defArgs sRule_added) (defBody sRule_added) (defScope sRule_added) [] [] (He.ma K (He.ga K "Rule") "added") fd := T.d.def_ 15 (d := dRule_added) rfl
theorem fRule_less (T : Tx K mg) : ∃ fd, FunD K "less" "Rule.less" (defArgs sRule_less) (defBody sRule_less) (defScope sRule_less) [] [] (He.ma K (He.ga K "Rule") "less") fd := T.d.def_ 16 (d := dRule_less) rfl
theorem fRule_parts (T : Tx K mg) : ∃ fd, FunD K "parts" "Rule.parts" (defArgs sRule_parts) (defBody sRule_parts) (defScope sRule_parts) [] [] (He.ma K (He.ga K "Rule") "parts") fd := T.d.def_ 17 (d := dRule_parts) rfl
theorem fRule_bank_of (T : Tx K mg) : ∃ fd, FunD K "bank_of" "Rule.bank_of" (defArgs sRule_bank_of) (defBody sRule_bank_of) (defScope sRule_bank_of) [] [] (He.ma K (He.ga K "Rule") "bank_of") fd := T.d.def_ 18 (d := dRule_bank_of) rfl
theorem fRule_mul (T : Tx K mg) : ∃ fd, FunD K "__mul__" "Rule.__mul__" (defArgs sRule_mul) (defBody sRule_mul) (defScope sRule_mul) [] [] (He.ma K (He.ga K "Rule") "__mul__") fd := T.d.def_ 19 (d := dRule_mul) rfl
theorem fRule_add (T : Tx K mg) : ∃ fd, FunD K "__add__" "Rule.__add__" (defArgs sRule_add) (defBody sRule_add) (defScope sRule_add) [] [] (He.ma K (He.ga K "Rule") "__add__") fd := T.d.def_ 20 (d := dRule_add) rfl
theorem fRule_neg (T : Tx K mg) : ∃ fd, FunD K "__neg__" "Rule.__neg__" (defArgs sRule_neg) (defBody sRule_neg) (defScope sRule_neg) [] [] (He.ma K (He.ga K "Rule") "__neg__") fd := T.d.def_ 21 (d := dRule_neg) rfl
theorem fRule_lshift (T : Tx K mg) : ∃ fd, FunD K "__lshift__" "Rule.__lshift__" (defArgs sRule_lshift) (defBody sRule_lshift) (defScope sRule_lshift) [] [] (He.ma K (He.ga K "Rule") "__lshift__") fd := T.d.def_ 22 (d := dRule_lshift) rfl
theorem fRule_cut (T : Tx K mg) : ∃ fd, FunD K "cut" "Rule.cut" (defArgs sRule_cut) (defBody sRule_cut) (defScope sRule_cut) [] [] (He.ma K (He.ga K "Rule") "cut") fd := T.d.def_ 23 (d := dRule_cut) rfl
theorem fRule_eq (T : Tx K mg) : ∃ fd, FunD K "__eq__" "Rule.__eq__" (defArgs sRule_eq) (defBody sRule_eq) (defScope sRule_eq) [] [] (He.ma K (He.ga K "Rule") "__eq__") fd := T.d.def_ 24 (d := dRule_eq) rfl
theorem fRule_str (T : Tx K mg) : ∃ fd, FunD K "__str__" "Rule.__str__" (defArgs sRule_str) (defBody sRule_str) (defScope sRule_str) [] [] (He.ma K (He.ga K "Rule") "__str__") fd := T.d.def_ 25 (d := dRule_str) rfl
theorem fneed_rule (T : Tx K mg) : ∃ fd, FunD K "need_rule" "need_rule" (defArgs sneed_rule) (defBody sneed_rule) (defScope sneed_rule) [] [] (He.ga K "need_rule") fd := T.d.def_ 26 (d := dneed_rule) rfl
theorem fneed_number (T : Tx K mg) : ∃ fd, FunD K "need_number" "need_number" (defArgs sneed_number) (defBody sneed_number) (defScope sneed_number) [] [] (He.ga K "need_number") fd := T.d.def_ 27 (d := dneed_number) rfl
theorem fparts_of (T : Tx K mg) : ∃ fd, FunD K "parts_of" "parts_of" (defArgs sparts_of) (defBody sparts_of) (defScope sparts_of) [] [] (He.ga K "parts_of") fd := T.d.def_ 28 (d := dparts_of) rfl
theorem fjoined (T : Tx K mg) : ∃ fd, FunD K "joined" "joined" (defArgs sjoined) (defBody sjoined) (defScope sjoined) [] [] (He.ga K "joined") fd := T.d.def_ 29 (d := djoined) rfl
theorem fsum_of (T : Tx K mg) : ∃ fd, FunD K "sum_of" "sum_of" (defArgs ssum_of) (defBody ssum_of) (defScope ssum_of) [] [] (He.ga K "sum_of") fd := T.d.def_ 30 (d := dsum_of) rfl
theorem fopposite (T : Tx K mg) : ∃ fd, FunD K "opposite" "opposite" (defArgs sopposite) (defBody sopposite) (defScope sopposite) [] [] (He.ga K "opposite") fd := T.d.def_ 31 (d := dopposite) rfl
theorem fweight_pairs (T : Tx K mg) : ∃ fd, FunD K "weight_pairs" "weight_pairs" (defArgs sweight_pairs) (defBody sweight_pairs) (defScope sweight_pairs) [] [] (He.ga K "weight_pairs") fd := T.d.def_ 32 (d := dweight_pairs) rfl
theorem fsplit_rule (T : Tx K mg) : ∃ fd, FunD K "split_rule" "split_rule" (defArgs ssplit_rule) (defBody ssplit_rule) (defScope ssplit_rule) [] [] (He.ga K "split_rule") fd := T.d.def_ 33 (d := dsplit_rule) rfl
theorem fupcoming (T : Tx K mg) : ∃ fd, FunD K "upcoming" "upcoming" (defArgs supcoming) (defBody supcoming) (defScope supcoming) [] [] (He.ga K "upcoming") fd := T.d.def_ 34 (d := dupcoming) rfl
theorem fneed_head (T : Tx K mg) : ∃ fd, FunD K "need_head" "need_head" (defArgs sneed_head) (defBody sneed_head) (defScope sneed_head) [] [] (He.ga K "need_head") fd := T.d.def_ 35 (d := dneed_head) rfl
theorem fnumber_at (T : Tx K mg) : ∃ fd, FunD K "number_at" "number_at" (defArgs snumber_at) (defBody snumber_at) (defScope snumber_at) [] [] (He.ga K "number_at") fd := T.d.def_ 36 (d := dnumber_at) rfl
theorem fmoduli_at (T : Tx K mg) : ∃ fd, FunD K "moduli_at" "moduli_at" (defArgs smoduli_at) (defBody smoduli_at) (defScope smoduli_at) [] [] (He.ga K "moduli_at") fd := T.d.def_ 37 (d := dmoduli_at) rfl
theorem fbanks_at (T : Tx K mg) : ∃ fd, FunD K "banks_at" "banks_at" (defArgs sbanks_at) (defBody sbanks_at) (defScope sbanks_at) [] [] (He.ga K "banks_at") fd := T.d.def_ 38 (d := dbanks_at) rfl
theorem fSame_init (T : Tx K mg) : ∃ fd, FunD K "__init__" "Same.__init__" (defArgs sSame_init) (defBody sSame_init) (defScope sSame_init) [] [] (He.ma K (He.ga K "Same") "__init__") fd := T.d.def_ 39 (d := dSame_init) rfl
theorem fSame_eq (T : Tx K mg) : ∃ fd, FunD K "__eq__" "Same.__eq__" (defArgs sSame_eq) (defBody sSame_eq) (defScope sSame_eq) [] [] (He.ma K (He.ga K "Same") "__eq__") fd := T.d.def_ 40 (d := dSame_eq) rfl
theorem fSame_bool (T : Tx K mg) : ∃ fd, FunD K "__bool__" "Same.__bool__" (defArgs sSame_bool) (defBody sSame_bool) (defScope sSame_bool) [] [] (He.ma K (He.ga K "Same") "__bool__") fd := T.d.def_ 41 (d := dSame_bool) rfl
theorem fParted_init (T : Tx K mg) : ∃ fd, FunD K "__init__" "Parted.__init__" (defArgs sParted_init) (defBody sParted_init) (defScope sParted_init) [] [] (He.ma K (He.ga K "Parted") "__init__") fd := T.d.def_ 42 (d := dParted_init) rfl
theorem fParted_eq (T : Tx K mg) : ∃ fd, FunD K "__eq__" "Parted.__eq__" (defArgs sParted_eq) (defBody sParted_eq) (defScope sParted_eq) [] [] (He.ma K (He.ga K "Parted") "__eq__") fd := T.d.def_ 43 (d := dParted_eq) rfl
theorem fParted_bool (T : Tx K mg) : ∃ fd, FunD K "__bool__" "Parted.__bool__" (defArgs sParted_bool) (defBody sParted_bool) (defScope sParted_bool) [] [] (He.ma K (He.ga K "Parted") "__bool__") fd := T.d.def_ 44 (d := dParted_bool) rfl
theorem fneed_rules (T : Tx K mg) : ∃ fd, FunD K "need_rules" "need_rules" (defArgs sneed_rules) (defBody sneed_rules) (defScope sneed_rules) [] [] (He.ga K "need_rules") fd := T.d.def_ 45 (d := dneed_rules) rfl
theorem fmoved_pairs (T : Tx K mg) : ∃ fd, FunD K "moved_pairs" "moved_pairs" (defArgs smoved_pairs) (defBody smoved_pairs) (defScope smoved_pairs) [] [] (He.ga K "moved_pairs") fd := T.d.def_ 46 (d := dmoved_pairs) rfl
theorem fraised (T : Tx K mg) : ∃ fd, FunD K "raised" "raised" (defArgs sraised) (defBody sraised) (defScope sraised) [] [] (He.ga K "raised") fd := T.d.def_ 47 (d := draised) rfl
theorem fleast_addresses (T : Tx K mg) : ∃ fd, FunD K "least_addresses" "least_addresses" (defArgs sleast_addresses) (defBody sleast_addresses) (defScope sleast_addresses) [] [] (He.ga K "least_addresses") fd := T.d.def_ 48 (d := dleast_addresses) rfl
theorem fclashes (T : Tx K mg) : ∃ fd, FunD K "clashes" "clashes" (defArgs sclashes) (defBody sclashes) (defScope sclashes) [] [] (He.ga K "clashes") fd := T.d.def_ 49 (d := dclashes) rfl
theorem fnames_of (T : Tx K mg) : ∃ fd, FunD K "names_of" "names_of" (defArgs snames_of) (defBody snames_of) (defScope snames_of) [] [] (He.ga K "names_of") fd := T.d.def_ 50 (d := dnames_of) rfl
theorem fsame_banks (T : Tx K mg) : ∃ fd, FunD K "same_banks" "same_banks" (defArgs ssame_banks) (defBody ssame_banks) (defScope ssame_banks) [] [] (He.ga K "same_banks") fd := T.d.def_ 51 (d := dsame_banks) rfl
theorem fis_entry (T : Tx K mg) : ∃ fd, FunD K "is_entry" "is_entry" (defArgs sis_entry) (defBody sis_entry) (defScope sis_entry) [] [] (He.ga K "is_entry") fd := T.d.def_ 52 (d := dis_entry) rfl
theorem fLog_init (T : Tx K mg) : ∃ fd, FunD K "__init__" "Log.__init__" (defArgs sLog_init) (defBody sLog_init) (defScope sLog_init) [] [] (He.ma K (He.ga K "Log") "__init__") fd := T.d.def_ 53 (d := dLog_init) rfl
theorem fLog_first_against (T : Tx K mg) : ∃ fd, FunD K "first_against" "Log.first_against" (defArgs sLog_first_against) (defBody sLog_first_against) (defScope sLog_first_against) [] [] (He.ma K (He.ga K "Log") "first_against") fd := T.d.def_ 54 (d := dLog_first_against) rfl
theorem fLog_len (T : Tx K mg) : ∃ fd, FunD K "__len__" "Log.__len__" (defArgs sLog_len) (defBody sLog_len) (defScope sLog_len) [] [] (He.ma K (He.ga K "Log") "__len__") fd := T.d.def_ 55 (d := dLog_len) rfl
theorem fLog_iter (T : Tx K mg) : ∃ fd, FunD K "__iter__" "Log.__iter__" (defArgs sLog_iter) (defBody sLog_iter) (defScope sLog_iter) [] [] (He.ma K (He.ga K "Log") "__iter__") fd := T.d.def_ 56 (d := dLog_iter) rfl
theorem fLog_add (T : Tx K mg) : ∃ fd, FunD K "__add__" "Log.__add__" (defArgs sLog_add) (defBody sLog_add) (defScope sLog_add) [] [] (He.ma K (He.ga K "Log") "__add__") fd := T.d.def_ 57 (d := dLog_add) rfl
theorem fLog_eq (T : Tx K mg) : ∃ fd, FunD K "__eq__" "Log.__eq__" (defArgs sLog_eq) (defBody sLog_eq) (defScope sLog_eq) [] [] (He.ma K (He.ga K "Log") "__eq__") fd := T.d.def_ 58 (d := dLog_eq) rfl
theorem fShape_init (T : Tx K mg) : ∃ fd, FunD K "__init__" "Shape.__init__" (defArgs sShape_init) (defBody sShape_init) (defScope sShape_init) [] [] (He.ma K (He.ga K "Shape") "__init__") fd := T.d.def_ 59 (d := dShape_init) rfl
theorem fShape_iter (T : Tx K mg) : ∃ fd, FunD K "__iter__" "Shape.__iter__" (defArgs sShape_iter) (defBody sShape_iter) (defScope sShape_iter) [] [] (He.ma K (He.ga K "Shape") "__iter__") fd := T.d.def_ 60 (d := dShape_iter) rfl
theorem fShape_contains (T : Tx K mg) : ∃ fd, FunD K "__contains__" "Shape.__contains__" (defArgs sShape_contains) (defBody sShape_contains) (defScope sShape_contains) [] [] (He.ma K (He.ga K "Shape") "__contains__") fd := T.d.def_ 61 (d := dShape_contains) rfl
theorem fShape_eq (T : Tx K mg) : ∃ fd, FunD K "__eq__" "Shape.__eq__" (defArgs sShape_eq) (defBody sShape_eq) (defScope sShape_eq) [] [] (He.ma K (He.ga K "Shape") "__eq__") fd := T.d.def_ 62 (d := dShape_eq) rfl
theorem fFound_init (T : Tx K mg) : ∃ fd, FunD K "__init__" "Found.__init__" (defArgs sFound_init) (defBody sFound_init) (defScope sFound_init) [] [] (He.ma K (He.ga K "Found") "__init__") fd := T.d.def_ 63 (d := dFound_init) rfl
theorem fFound_eq (T : Tx K mg) : ∃ fd, FunD K "__eq__" "Found.__eq__" (defArgs sFound_eq) (defBody sFound_eq) (defScope sFound_eq) [] [] (He.ma K (He.ga K "Found") "__eq__") fd := T.d.def_ 64 (d := dFound_eq) rfl
theorem fhas_few (T : Tx K mg) : ∃ fd, FunD K "has_few" "has_few" (defArgs shas_few) (defBody shas_few) (defScope shas_few) [] [] (He.ga K "has_few") fd := T.d.def_ 65 (d := dhas_few) rfl
theorem fweights_of (T : Tx K mg) : ∃ fd, FunD K "weights_of" "weights_of" (defArgs sweights_of) (defBody sweights_of) (defScope sweights_of) [] [] (He.ga K "weights_of") fd := T.d.def_ 66 (d := dweights_of) rfl
theorem frules_of (T : Tx K mg) : ∃ fd, FunD K "rules_of" "rules_of" (defArgs srules_of) (defBody srules_of) (defScope srules_of) [] [] (He.ga K "rules_of") fd := T.d.def_ 67 (d := drules_of) rfl
theorem fneed_shape (T : Tx K mg) : ∃ fd, FunD K "need_shape" "need_shape" (defArgs sneed_shape) (defBody sneed_shape) (defScope sneed_shape) [] [] (He.ga K "need_shape") fd := T.d.def_ 68 (d := dneed_shape) rfl
theorem fneed_log (T : Tx K mg) : ∃ fd, FunD K "need_log" "need_log" (defArgs sneed_log) (defBody sneed_log) (defScope sneed_log) [] [] (He.ga K "need_log") fd := T.d.def_ 69 (d := dneed_log) rfl
theorem ffitting (T : Tx K mg) : ∃ fd, FunD K "fitting" "fitting" (defArgs sfitting) (defBody sfitting) (defScope sfitting) [] [] (He.ga K "fitting") fd := T.d.def_ 70 (d := dfitting) rfl
theorem ffirst_other (T : Tx K mg) : ∃ fd, FunD K "first_other" "first_other" (defArgs sfirst_other) (defBody sfirst_other) (defScope sfirst_other) [] [] (He.ga K "first_other") fd := T.d.def_ 71 (d := dfirst_other) rfl
theorem ftold_back (T : Tx K mg) : ∃ fd, FunD K "told_back" "told_back" (defArgs stold_back) (defBody stold_back) (defScope stold_back) [] [] (He.ga K "told_back") fd := T.d.def_ 72 (d := dtold_back) rfl
theorem fshows_found (T : Tx K mg) : ∃ fd, FunD K "shows_found" "shows_found" (defArgs sshows_found) (defBody sshows_found) (defScope sshows_found) [] [] (He.ga K "shows_found") fd := T.d.def_ 73 (d := dshows_found) rfl
theorem f_law_pen (T : Tx K mg) : ∃ fd, FunD K "_law_pen" "_law_pen" (defArgs s_law_pen) (defBody s_law_pen) (defScope s_law_pen) [] [] (He.ga K "_law_pen") fd := T.d.def_ 74 (d := d_law_pen) rfl
theorem f_law_draw (T : Tx K mg) : ∃ fd, FunD K "_law_draw" "_law_draw" (defArgs s_law_draw) (defBody s_law_draw) (defScope s_law_draw) [] [] (He.ga K "_law_draw") fd := T.d.def_ 75 (d := d_law_draw) rfl
theorem f_law_pick (T : Tx K mg) : ∃ fd, FunD K "_law_pick" "_law_pick" (defArgs s_law_pick) (defBody s_law_pick) (defScope s_law_pick) [] [] (He.ga K "_law_pick") fd := T.d.def_ 76 (d := d_law_pick) rfl
theorem f_law_banks (T : Tx K mg) : ∃ fd, FunD K "_law_banks" "_law_banks" (defArgs s_law_banks) (defBody s_law_banks) (defScope s_law_banks) [] [] (He.ga K "_law_banks") fd := T.d.def_ 77 (d := d_law_banks) rfl
theorem f_law_rule (T : Tx K mg) : ∃ fd, FunD K "_law_rule" "_law_rule" (defArgs s_law_rule) (defBody s_law_rule) (defScope s_law_rule) [] [] (He.ga K "_law_rule") fd := T.d.def_ 78 (d := d_law_rule) rfl
theorem f_law_sum (T : Tx K mg) : ∃ fd, FunD K "_law_sum" "_law_sum" (defArgs s_law_sum) (defBody s_law_sum) (defScope s_law_sum) [] [] (He.ga K "_law_sum") fd := T.d.def_ 79 (d := d_law_sum) rfl
theorem f_law_weight (T : Tx K mg) : ∃ fd, FunD K "_law_weight" "_law_weight" (defArgs s_law_weight) (defBody s_law_weight) (defScope s_law_weight) [] [] (He.ga K "_law_weight") fd := T.d.def_ 80 (d := d_law_weight) rfl
theorem f_law_bank (T : Tx K mg) : ∃ fd, FunD K "_law_bank" "_law_bank" (defArgs s_law_bank) (defBody s_law_bank) (defScope s_law_bank) [] [] (He.ga K "_law_bank") fd := T.d.def_ 81 (d := d_law_bank) rfl
theorem f_law_least (T : Tx K mg) : ∃ fd, FunD K "_law_least" "_law_least" (defArgs s_law_least) (defBody s_law_least) (defScope s_law_least) [] [] (He.ga K "_law_least") fd := T.d.def_ 82 (d := d_law_least) rfl
theorem f_law_split (T : Tx K mg) : ∃ fd, FunD K "_law_split" "_law_split" (defArgs s_law_split) (defBody s_law_split) (defScope s_law_split) [] [] (He.ga K "_law_split") fd := T.d.def_ 83 (d := d_law_split) rfl
theorem f_law_first (T : Tx K mg) : ∃ fd, FunD K "_law_first" "_law_first" (defArgs s_law_first) (defBody s_law_first) (defScope s_law_first) [] [] (He.ga K "_law_first") fd := T.d.def_ 84 (d := d_law_first) rfl
theorem f_law_shape (T : Tx K mg) : ∃ fd, FunD K "_law_shape" "_law_shape" (defArgs s_law_shape) (defBody s_law_shape) (defScope s_law_shape) [] [] (He.ga K "_law_shape") fd := T.d.def_ 85 (d := d_law_shape) rfl
theorem f_law_plains (T : Tx K mg) : ∃ fd, FunD K "_law_plains" "_law_plains" (defArgs s_law_plains) (defBody s_law_plains) (defScope s_law_plains) [] [] (He.ga K "_law_plains") fd := T.d.def_ 86 (d := d_law_plains) rfl
theorem f_law_unlike (T : Tx K mg) : ∃ fd, FunD K "_law_unlike" "_law_unlike" (defArgs s_law_unlike) (defBody s_law_unlike) (defScope s_law_unlike) [] [] (He.ga K "_law_unlike") fd := T.d.def_ 87 (d := d_law_unlike) rfl
theorem f_law_log (T : Tx K mg) : ∃ fd, FunD K "_law_log" "_law_log" (defArgs s_law_log) (defBody s_law_log) (defScope s_law_log) [] [] (He.ga K "_law_log") fd := T.d.def_ 88 (d := d_law_log) rfl
theorem f_law_parting (T : Tx K mg) : ∃ fd, FunD K "_law_parting" "_law_parting" (defArgs s_law_parting) (defBody s_law_parting) (defScope s_law_parting) [] [] (He.ga K "_law_parting") fd := T.d.def_ 89 (d := d_law_parting) rfl
theorem f_law_due (T : Tx K mg) : ∃ fd, FunD K "_law_due" "_law_due" (defArgs s_law_due) (defBody s_law_due) (defScope s_law_due) [] [] (He.ga K "_law_due") fd := T.d.def_ 90 (d := d_law_due) rfl
theorem f_law_right (T : Tx K mg) : ∃ fd, FunD K "_law_right" "_law_right" (defArgs s_law_right) (defBody s_law_right) (defScope s_law_right) [] [] (He.ga K "_law_right") fd := T.d.def_ 91 (d := d_law_right) rfl
theorem f_law_papers_right (T : Tx K mg) : ∃ fd, FunD K "_law_papers_right" "_law_papers_right" (defArgs s_law_papers_right) (defBody s_law_papers_right) (defScope s_law_papers_right) [] [] (He.ga K "_law_papers_right") fd := T.d.def_ 92 (d := d_law_papers_right) rfl
theorem flaw (T : Tx K mg) : ∃ fd, FunD K "law" "law" (defArgs slaw) (defBody slaw) (defScope slaw) [] [] (He.ga K "law") fd := T.d.def_ 93 (d := dlaw) rfl
theorem ty_Rule (T : Tx K mg) {H : Hp} {a dx : Addr} {fs : List (Str × V)} (e : H a = some (.ins (He.ga K "Rule") dx fs)) : TyX K H (.ref a) (.ref (He.ga K "Rule")) := .base (.ins e T.c_Rule T.x_Rule_class T.x_getClass T.x_takesClass T.x_Rule_object)
theorem ty_Same (T : Tx K mg) {H : Hp} {a dx : Addr} {fs : List (Str × V)} (e : H a = some (.ins (He.ga K "Same") dx fs)) : TyX K H (.ref a) (.ref (He.ga K "Same")) := .base (.ins e T.c_Same T.x_Same_class T.x_getClass T.x_takesClass T.x_Same_object)
theorem ty_Parted (T : Tx K mg) {H : Hp} {a dx : Addr} {fs : List (Str × V)} (e : H a = some (.ins (He.ga K "Parted") dx fs)) : TyX K H (.ref a) (.ref (He.ga K "Parted")) := .base (.ins e T.c_Parted T.x_Parted_class T.x_getClass T.x_takesClass T.x_Parted_object)
theorem ty_Log (T : Tx K mg) {H : Hp} {a dx : Addr} {fs : List (Str × V)} (e : H a = some (.ins (He.ga K "Log") dx fs)) : TyX K H (.ref a) (.ref (He.ga K "Log")) := .base (.ins e T.c_Log T.x_Log_class T.x_getClass T.x_takesClass T.x_Log_object)
theorem ty_Shape (T : Tx K mg) {H : Hp} {a dx : Addr} {fs : List (Str × V)} (e : H a = some (.ins (He.ga K "Shape") dx fs)) : TyX K H (.ref a) (.ref (He.ga K "Shape")) := .base (.ins e T.c_Shape T.x_Shape_class T.x_getClass T.x_takesClass T.x_Shape_object)
theorem ty_Found (T : Tx K mg) {H : Hp} {a dx : Addr} {fs : List (Str × V)} (e : H a = some (.ins (He.ga K "Found") dx fs)) : TyX K H (.ref a) (.ref (He.ga K "Found")) := .base (.ins e T.c_Found T.x_Found_class T.x_getClass T.x_takesClass T.x_Found_object)
end Tx
end K70
-- HdG
namespace K70
open L2 PySem PySem.Spec PyProof.Rows
def nms0 : List PySem.Str := ["_wall", "is_integer", "is_within", "is_number", "BankError", "BadRule", "BadNumber", "BadLog", "BadText", "TooMany", "MOST_BANKS", "MOST_MODULI", "MOST_PLACES_rules", "banks_of", "are_moduli", "are_banks", "shortest_turn", "normal_weights", "common_multiple", "Rule", "need_rule", "need_number", "parts_of", "joined", "sum_of", "opposite", "weight_pairs", "split_rule", "upcoming", "need_head"]
def nms1 : List PySem.Str := ["number_at", "moduli_at", "banks_at", "Verdict", "Same", "Parted", "need_rules", "moved_pairs", "raised", "least_addresses", "clashes", "names_of", "same_banks", "MOST_RULES", "MOST_ADDRESS", "is_entry", "Log", "Shape", "Found", "has_few", "weights_of", "rules_of", "need_shape", "need_log", "fitting", "first_other", "told_back", "shows_found", "_law_pen", "_law_draw"]
def nms2 : List PySem.Str := ["_law_pick", "_law_banks", "_law_plain", "_law_rule", "_law_sum", "_law_weight", "_law_bank", "_law_least", "_law_split", "_law_first", "_law_shape", "_law_plains", "_law_unlike", "_law_entries", "_law_log", "_law_parting", "_law_due", "_law_right", "_law_papers_right"]
def nms : List PySem.Str := nms0 ++ (nms1 ++ (nms2))
def tf : List He.Defn := [("first_other", none), ("_law_right", none), ("law", none)]
abbrev R : PySem.W.OpenRow := PySem.W.OpenLaw.row PySem.Challenge.rw_lanebanks_k70_whole_rules_told_back_by_a
def as0 : List Addr := [3, 6, 4, 21, 28, 35, 42, 52, 74, 95, 116, 137, 158, 167, 172, 177, 184, 191, 198, 382, 393, 400, 407, 414, 421, 428, 433, 440, 447, 454, 459, 466, 473, 483, 518, 551, 560, 567, 574, 581]
def as1 : List Addr := [586, 591, 596, 603, 655, 697, 725, 736, 741, 748, 755, 762, 769, 776, 781, 786, 793, 800, 807, 814, 819, 826, 833, 840, 847, 854, 861, 866, 873, 878, 883, 890, 897, 904, 909, 914, 919, 926, 0, 20]
def as2 : List Addr := [27, 34, 41, 51, 73, 94, 115, 136, 157, 166, 171, 176, 183, 190, 197, 381, 392, 399, 406, 413, 420, 427, 432, 439, 446, 453, 458, 465, 472, 482, 517, 550, 559, 566, 573, 580, 585, 590, 595, 602]
def as3 : List Addr := [654, 696, 724, 735, 740, 747, 754, 761, 768, 775, 780, 785, 792, 799, 806, 813, 818, 825, 832, 839, 846, 853, 860, 865, 872, 877, 882, 889, 896, 903, 908, 913, 918, 925, 15, 16, 17, 18, 19, 22]
def as4 : List Addr := [23, 24, 25, 26, 29, 30, 31, 32, 33, 36, 37, 38, 39, 40, 50, 53, 71, 72, 92, 93, 113, 114, 134, 135, 155, 156, 161, 162, 163, 164, 165, 168, 169, 170, 173, 174, 175, 178, 179, 180]
def as5 : List Addr := [181, 182, 185, 186, 187, 188, 189, 192, 193, 194, 195, 196, 212, 221, 231, 242, 252, 261, 269, 277, 284, 291, 298, 305, 312, 319, 326, 333, 340, 345, 350, 355, 360, 367, 374, 379, 380, 383, 384, 387]
def as6 : List Addr := [388, 389, 390, 391, 394, 395, 396, 397, 398, 401, 402, 403, 404, 405, 408, 409, 410, 411, 412, 415, 416, 417, 418, 419, 422, 423, 424, 425, 426, 429, 430, 431, 434, 435, 436, 437, 438, 441, 442, 443]
def as7 : List Addr := [444, 445, 448, 449, 450, 451, 452, 455, 456, 457, 460, 461, 462, 463, 464, 467, 468, 469, 470, 471, 481, 484, 485, 501, 508, 515, 516, 534, 541, 548, 549, 554, 555, 556, 557, 558, 561, 562, 563, 564]
def as8 : List Addr := [565, 568, 569, 570, 571, 572, 575, 576, 577, 578, 579, 582, 583, 584, 587, 588, 589, 592, 593, 594, 597, 598, 599, 600, 601, 617, 624, 631, 638, 645, 652, 653, 656, 657, 673, 680, 687, 694, 695, 698]
def as9 : List Addr := [699, 715, 722, 723, 726, 727, 730, 731, 732, 733, 734, 737, 738, 739, 742, 743, 744, 745, 746, 749, 750, 751, 752, 753, 756, 757, 758, 759, 760, 763, 764, 765, 766, 767, 770, 771, 772, 773, 774, 777]
def as10 : List Addr := [778, 779, 782, 783, 784, 787, 788, 789, 790, 791, 794, 795, 796, 797, 798, 801, 802, 803, 804, 805, 808, 809, 810, 811, 812, 815, 816, 817, 820, 821, 822, 823, 824, 827, 828, 829, 830, 831, 834, 835]
def as11 : List Addr := [836, 837, 838, 841, 842, 843, 844, 845, 848, 849, 850, 851, 852, 855, 856, 857, 858, 859, 862, 863, 864, 867, 868, 869, 870, 871, 874, 875, 876, 879, 880, 881, 884, 885, 886, 887, 888, 891, 892, 893]
def as12 : List Addr := [894, 895, 898, 899, 900, 901, 902, 905, 906, 907, 910, 911, 912, 915, 916, 917, 920, 921, 922, 923, 924, 70, 59, 91, 80, 112, 101, 133, 122, 154, 143, 211, 219, 220, 229, 230, 240, 241, 250, 251]
def as13 : List Addr := [260, 268, 276, 283, 290, 297, 304, 311, 318, 325, 332, 339, 344, 349, 354, 359, 366, 373, 378, 500, 507, 514, 533, 540, 547, 616, 623, 630, 637, 644, 651, 672, 679, 686, 693, 714, 721, 65, 66, 67]
def as14 : List Addr := [68, 69, 86, 87, 88, 89, 90, 107, 108, 109, 110, 111, 128, 129, 130, 131, 132, 149, 150, 151, 152, 153, 206, 207, 208, 209, 210, 218, 222, 228, 232, 239, 233, 243, 249, 253, 259, 267, 275, 278]
def as15 : List Addr := [279, 280, 281, 282, 285, 286, 287, 288, 289, 292, 293, 294, 295, 296, 299, 300, 301, 302, 303, 306, 307, 308, 309, 310, 313, 314, 315, 316, 317, 320, 321, 322, 323, 324, 327, 328, 329, 330, 331, 334]
def as16 : List Addr := [335, 336, 337, 338, 341, 342, 343, 346, 347, 348, 351, 352, 353, 356, 357, 358, 361, 362, 363, 364, 365, 368, 369, 370, 371, 372, 375, 376, 377, 495, 496, 497, 498, 499, 502, 503, 504, 505, 506, 509]
def as17 : List Addr := [510, 511, 512, 513, 528, 529, 530, 531, 532, 535, 536, 537, 538, 539, 542, 543, 544, 545, 546, 611, 612, 613, 614, 615, 618, 619, 620, 621, 622, 625, 626, 627, 628, 629, 632, 633, 634, 635, 636, 639]
def as18 : List Addr := [640, 641, 642, 643, 646, 647, 648, 649, 650, 667, 668, 669, 670, 671, 674, 675, 676, 677, 678, 681, 682, 683, 684, 685, 688, 689, 690, 691, 692, 709, 710, 711, 712, 713, 716, 717, 718, 719, 720]
def as_ : List Addr := as0 ++ (as1 ++ (as2 ++ (as3 ++ (as4 ++ (as5 ++ (as6 ++ (as7 ++ (as8 ++ (as9 ++ (as10 ++ (as11 ++ (as12 ++ (as13 ++ (as14 ++ (as15 ++ (as16 ++ (as17 ++ (as18))))))))))))))))))
/-- what is looked at: the objects at given addresses -/
def obsA (al : List Addr) (fa : List He.Fa) (fn : List He.DefD) (tf : List He.Defn) (g : Addr → Option Obj) : He.AlX :=
  (fun K : PySem.W.Frag => (He.obsT fa fn [] K, exB K && He.tabsB g tf K)) (He.frT g al)
theorem saysA {al : List Addr} {fa : List He.Fa} {fn : List He.DefD} {tf : List He.Defn} {w : World} {h : Heap} (e : obsA al fa fn tf h.get? = He.valX fn [] w) : He.SaysX fa fn [] tf exB w h (He.frT h.get? al) := by
  have e1k := congrArg Prod.fst e
  have e3 : (exB (He.frT h.get? al) && He.tabsB h.get? tf (He.frT h.get? al)) = true := congrArg Prod.snd e
  have e2 := (Bool.and_eq_true_iff.mp e3).2
  have key : ∀ p ∈ tf, PySem.W.codeHdIn (He.frT h.get? al) (He.cT (He.frT h.get? al) p).1 (He.cT (He.frT h.get? al) p).2 = true ∧ ∃ o, h.get? (He.cT (He.frT h.get? al) p).2 = some o ∧ He.emptyTab o = true := by
    intro p hp
    have h0 := List.all_eq_true.mp e2 p hp
    have h3 := (Bool.and_eq_true_iff.mp h0).1
    have h4 := (Bool.and_eq_true_iff.mp h0).2
    refine ⟨h3, ?_⟩
    generalize he : h.get? (He.cT (He.frT h.get? al) p).2 = r at h4
    cases r with
    | none => cases h4
    | some o => exact ⟨o, rfl, h4⟩
  refine ⟨e1k, (Bool.and_eq_true_iff.mp e3).1, fun p hp => (key p hp).1, fun p hp => ?_, fun p hp => ?_⟩
  · obtain ⟨_, o, q, z⟩ := key p hp
    exact He.frT_none q z
  · obtain ⟨_, o, q, z⟩ := key p hp
    rw [q, He.emptyTab_eq z]
def hookA (al : List Addr) (fa : List He.Fa) (fn : List He.DefD) (tf : List He.Defn) : PySem.W.Hook where
  α := He.AlX
  obs := fun s => obsA al fa fn tf s.heap.get?
  val := fun w => He.valX fn [] w
  says := fun w h => ∃ K : PySem.W.Frag, K.In h ∧ He.SaysX fa fn [] tf exB w h K
  of := fun _ _ e => ⟨_, He.frT_in, saysA e⟩
  keeps := fun _ _ _ ⟨K, hK, c⟩ k => ⟨K, hK.keeps k, c.t, c.more, c.hd, c.out, fun p hp => k _ _ (c.empty p hp)⟩
abbrev hk : PySem.W.Hook := hookA as_ fa fn tf
def ob (s : PySem.W.SharedT) : He.AlX := obsA as_ fa fn tf (HandSHeadRun.getT s)
theorem ob_eq (s : PySem.W.SharedT) : ob s = hk.obs s.abs := by
  have e : HandSHeadRun.getT s = s.abs.heap.get? := funext (HandSHeadRun.getT_eq s)
  show obsA as_ fa fn tf (HandSHeadRun.getT s) = obsA as_ fa fn tf s.abs.heap.get?
  rw [e]
theorem run (w : World) : HandSHeadRun.RunEq R (PySem.W.view R.prog [86]) hk ob 7000 nms w := by
  intro os
  kernel_rfl
end K70
-- K70Kit
/-! defs, methods and makers that keep their promises, called -/
namespace K70
open L2 PySem PySem.Spec PyProof.Rows StX

/-- a def of the module that keeps its promise; nothing leaves it -/
structure Fnc (P : Program) (w : World) (K : PySem.W.Frag) (mg : Str → Option Value) (base : Heap) (k : Nat) (x : Str) (f : Addr) (ps : List Str) (sp : Sp) : Prop where
  ex : ∃ fd, FnOk P w K mg base CX0 k f fd ps sp ∧ Binds K fd ps []
  mg : mg x = some (.ref f)
  kp : (PySem.W.keepIn K (.ref f)) = true
/-- a method -/
structure Mtd (P : Program) (w : World) (K : PySem.W.Frag) (mg : Str → Option Value) (base : Heap) (k : Nat) (C : Addr) (m : Str) (f : Addr) (ps : List Str) (sp : Sp) : Prop where
  ex : ∃ fd, FnOk P w K mg base CX0 k f fd ps sp ∧ Binds K fd ps []
  mt : Meth K C m f
  cl : Cls K C
/-- an __init__ -/
structure Mkr (P : Program) (w : World) (K : PySem.W.Frag) (mg : Str → Option Value) (base : Heap) (k : Nat) (x : Str) (C f : Addr) (ps : List Str) (sp : Sp) : Prop where
  ex : ∃ fd, FnOk P w K mg base CX0 k f fd ps sp ∧ Binds K fd ps []
  mks : Mk K C f
  mg : mg x = some (.ref C)
section
variable {X : Cx} {k : Nat} {f C : Addr} {ps : List Str} {sp : Sp} {x m : Str} {p pos apos : Pos} {e o : Expr} {es : List Expr} {ta : TE} {t : TA}
theorem pe_f (c : Fnc X.prog X.w X.K X.mg X.base k x f ps sp) (hr : Room k X.A) (ha : PA X (e :: es) t) (hg : Gl X x := by rfl) (hdb : (x == ("__debug__" : Str)) = false := by decide)
    (hek : starEach (e :: es) X.env = (false, eval e X.env) :: starEach es X.env := by rfl) (hpl : (backTo pos (starEach es X.env)).any (·.1) = false := by rfl) :
    PE X (.Call (.Name x p) (e :: es) [] pos) (tCall sp [] E0 t) := by
  obtain ⟨fd, F, b⟩ := c.ex
  exact pe_call F hr hg c.mg c.kp b .nil pass0 ha hdb hek hpl
theorem pe_mk' (c : Mkr X.prog X.w X.K X.mg X.base k x C f ps sp) (hr : Room (k + 1) X.A) (ha : PA X (e :: es) t) (hg : Gl X x := by rfl) (hdb : (x == ("__debug__" : Str)) = false := by decide)
    (hek : starEach (e :: es) X.env = (false, eval e X.env) :: starEach es X.env := by rfl) (hpl : (backTo pos (starEach es X.env)).any (·.1) = false := by rfl) :
    PE X (.Call (.Name x p) (e :: es) [] pos) (tMake C sp [] E0 t) := by
  obtain ⟨fd, F, b⟩ := c.ex
  exact pe_make c.mks F hr hg c.mg b .nil pass0 ha hdb hek hpl
theorem pe_m {plk : Sem Bool} (he : PE X o ta) (c : Mtd X.prog X.w X.K X.mg X.base k C m f ps sp) (hr : Room k X.A) (ha : PA X (e :: es) t)
    (hst : starEach (e :: es) X.env = (false, eval e X.env) :: starEach es X.env := by rfl) (hplk : (backTo pos (starEach es X.env)).any (·.1) = false := by rfl)
    (htk : eval (.Call (.Attribute o m apos) (e :: es) [] pos) X.env = (do
      let ov ← eval o X.env
      standAt apos.atName
      let (f, first) ← holding [ov] (getMethod ov m plk)
      (callWith pos f first (backTo pos (starEach (e :: es) X.env)) (backToKw pos (keywordEach [] X.env)))) := by rfl) :
    PE X (.Call (.Attribute o m apos) (e :: es) [] pos) (tMeth C m sp [] E0 ta t) := by
  obtain ⟨fd, F, b⟩ := c.ex
  exact pe_meth he c.cl c.mt F hr b .nil pass0 ha hst hplk htk
end
section
variable {K : PySem.W.Frag} {mg : Str → Option Value} {base : Heap} {P : Program} {w : World}
/-- the words of a def's binding: one row a number of parameters -/
abbrev BindsAs (x qual : Str) (st : Stmt) (ps : List Str) : Prop := ∀ (kV doc pm : Value) (an : Option Addr) (cdv ct : Value) (us : List Value), us.length = ps.length →
  bindArgs (PySem.W.fnOf x qual (defArgs st) (defBody st) (defScope st) .none kV doc pm an cdv ct) ⟨us, []⟩ = pure (ps.zip us)
abbrev BodyOk (P : Program) (w : World) (K : PySem.W.Frag) (mg : Str → Option Value) (base : Heap) (k : Nat) (qual : Str) (st : Stmt) (f : Addr) (N : List Str) (sp : Sp) : Prop :=
  ∀ (cdv : Value) (A : Around) (outer : List Env) (s : Shared) (H : Hp) (vs : List V) (Q : VK) (E : XK), Room k (A.deeper (envOfC qual (defScope st) s.heap.objs.size f cdv)) → sp vs H Q E →
    ∃ t, PSs (cxOf CX0 P w K mg base N qual (defScope st) f cdv A outer s H E).nox (defBody st) t ∧ t { nx := fun _ H' => Q .non H', rt := Q } (start N vs) H
theorem ok_of {x qual : Str} {st : Stmt} {f : Addr} {N ps : List Str} {k : Nat} {sp : Sp} (F : ∃ fd, FunD K x qual (defArgs st) (defBody st) (defScope st) [] [] f fd) (S : FnScope N ps (defScope st)) (B : BindsAs x qual st ps)
    (len : ∀ vs H Q E, sp vs H Q E → vs.length = ps.length) (body : BodyOk P w K mg base k qual st f N sp) : ∃ fd, FnOk P w K mg base CX0 (k + 1) f fd ps sp ∧ Binds K fd ps [] := by
  obtain ⟨fd, F⟩ := F
  refine ⟨fd, F.ok S len fun cdv A outer s H vs Q E hr h => ?_, F.bindsN B⟩
  obtain ⟨t, h1, h2⟩ := body cdv A outer s H vs Q E hr h
  exact ⟨t, h1.nox, h2⟩
theorem fnc_of {x : Str} {st : Stmt} {f : Addr} {N ps : List Str} {k : Nat} {sp : Sp} (F : ∃ fd, FunD K x x (defArgs st) (defBody st) (defScope st) [] [] f fd) (g : mg x = some (.ref f)) (S : FnScope N ps (defScope st)) (B : BindsAs x x st ps)
    (len : ∀ vs H Q E, sp vs H Q E → vs.length = ps.length) (body : BodyOk P w K mg base k x st f N sp) : Fnc P w K mg base (k + 1) x f ps sp :=
  ⟨ok_of F S B len body, g, F.elim fun _ F => F.kp⟩
theorem mtd_of {x qual : Str} {st : Stmt} {f C : Addr} {N ps : List Str} {k : Nat} {sp : Sp} (F : ∃ fd, FunD K x qual (defArgs st) (defBody st) (defScope st) [] [] f fd) (mt : Meth K C x f) (cl : Cls K C) (S : FnScope N ps (defScope st)) (B : BindsAs x qual st ps)
    (len : ∀ vs H Q E, sp vs H Q E → vs.length = ps.length) (body : BodyOk P w K mg base k qual st f N sp) : Mtd P w K mg base (k + 1) C x f ps sp :=
  ⟨ok_of F S B len body, mt, cl⟩
end

theorem pe_gi {X : Cx} {x : Str} {n : Int} {pos : Pos} (hg : Gl X x) (h : ∃ t, X.mg x = some (.int n t)) (hdk : (x == ("__debug__" : Str)) = false := by decide) : PE X (.Name x pos) (tC (.int n)) := by
  obtain ⟨t, e⟩ := h
  exact pe_glob hg e ⟨t, rfl⟩ hdk

/-! ### values -/
abbrev IV (l : List Int) : List V := l.map V.int
/-- a tuple of ints stands at a -/
def TpI (H : Hp) (a : Addr) (l : List Int) : Prop := H a = some (.tup (IV l))
theorem TpI.same {H H' : Hp} {a : Addr} {l : List Int} (h : TpI H a l) (s : Same H H') : TpI H' a l := s _ _ h
theorem _root_.L2.Same.put {H : Hp} {p : Addr} {o : HO} (h : H p = none) : Same H (upd H p o) := fun b u e => by rw [upd_ne (ne_of_none e h)]; exact e
theorem _root_.L2.Same.put' {H H1 : Hp} {p : Addr} {o : HO} (s : Same H H1) (h : H1 p = none) : Same H (upd H1 p o) := s.trans (Same.put h)
/-- a change of what is not of before -/
theorem _root_.L2.Same.set {H H1 : Hp} {p : Addr} {o : HO} (s : Same H H1) (h : H p = none) : Same H (upd H1 p o) := fun b u e => by rw [upd_ne (ne_of_none e h)]; exact s _ _ e
/-! ### loops and comprehensions that only make objects -/
/-- a comprehension over a tuple, its element at turn i worth y i, over a heap that grows -/
theorem lc_tupG {K : PySem.W.Frag} {a : Addr} {xs : List V} {g : TG} {te : TE} {vs : List Nat} {σ : L2.St} {H1k : Hp} {D : Addr} {Qd : Hp → Prop} (y : Nat → V) (hD : H1k D = none) (ha : SqT K H1k a xs) (hz : xs.length ≤ sizeLine)
    (hs : ∀ i x H, xs[i]? = some x → Same H1k H → ∀ Qk : V → Hp → Prop, (∀ H4, Same H H4 → Qk (y i) H4) → g x (wipe σ vs) H fun σ2 H2 => wipe σ2 vs = wipe σ vs ∧ te σ2 H2 Qk)
    (hd : ∀ H, Same H1k H → H D = some (.lst ((List.range xs.length).map y)) → Qd H) :
    ∃ W : Nat → Nat → Hp → Prop, (∃ m, W 0 m (upd H1k D (.lst []))) ∧ ∀ i m H, W i m H →
      ((Itt K a).stop i H ∧ Qd H) ∨ ((Itt K a).go i H ∧ ∃ Nx : Hp → Prop, (∀ H', Nx H' → ∃ m', m' < m ∧ W (i + 1) m' H') ∧ ∀ x H', (Itt K a).yld i H x H' → g x (wipe σ vs) H' fun σ2 H2 => wipe σ2 vs = wipe σ vs ∧ tYes σ2 H2 fun b H3k =>
        if b = true then te σ2 H3k fun y H4 => ∃ acc, H4 D = some (.lst acc) ∧ acc.length < sizeLine ∧ Nx (upd H4 D (.lst (acc ++ [y]))) else Nx H3k) := by
  have hsq : ∀ {H : Hp}, Same H1k H → SqT K H a xs := fun s => by
    rcases ha with (h | ⟨o, h⟩) | h
    · exact .inl (.inl (s _ _ h))
    · exact .inl (.inr ⟨o, s _ _ h⟩)
    · exact .inr h
  refine lc_tup (fun i H => Same H1k H ∧ H D = some (.lst ((List.range i).map y))) ⟨Same.put hD, upd_same⟩ (fun i H _ p => hsq p.1) (fun i x H hx p => ?_) fun H p => hd H p.1 p.2
  obtain ⟨s, e⟩ := p
  have hi : i < xs.length := (List.getElem?_eq_some_iff.mp hx).1
  have q := hs i x H hx s (fun y H4 => ∃ acc, H4 D = some (.lst acc) ∧ acc.length < sizeLine ∧ (Same H1k (upd H4 D (.lst (acc ++ [y]))) ∧ (upd H4 D (.lst (acc ++ [y]))) D = some (.lst ((List.range (i + 1)).map _))))
    fun H4 s4 => ⟨_, s4 _ _ e, by rw [List.length_map, List.length_range]; omega, Same.set (s.trans s4) hD, by rw [upd_same, List.range_succ, List.map_append] <;> rfl⟩
  exact q
theorem _root_.L2.Same.seqT {K : PySem.W.Frag} {H H' : Hp} {a : Addr} {xs : List V} (s : Same H H') (ha : SqT K H a xs) : SqT K H' a xs := by
  rcases ha with (h | ⟨o, h⟩) | h
  · exact .inl (.inl (s _ _ h))
  · exact .inl (.inr ⟨o, s _ _ h⟩)
  · exact .inr h
theorem IV_take (t : List Int) (k : Nat) : (IV t).take k = IV (t.take k) := List.map_take.symm
theorem IV_drop (t : List Int) (k : Nat) : (IV t).drop k = IV (t.drop k) := List.map_drop.symm
theorem IV_init (t : List Int) : (IV t).dropLast = IV t.dropLast := List.map_dropLast.symm
theorem IV_len (t : List Int) : (IV t).length = t.length := List.length_map ..
theorem IV_app (t u : List Int) : IV (t ++ u) = IV t ++ IV u := List.map_append
theorem IV_at {l : List Int} {i : Nat} {z : Int} (h : l[i]? = some z) : (IV l)[i]? = some (V.int z) := by
  rw [List.getElem?_map, h]
  rfl
/-! ### answers -/
theorem blE {Q : VK} {b c : Bool} {H : Hp} (h : b = c) (k : Q (.bl c) H) : Q (.bl b) H := by rw [h]; exact k
theorem inE {Q : VK} {a b : Int} {H : Hp} (h : a = b) (k : Q (.int b) H) : Q (.int a) H := by rw [h]; exact k
theorem itT {c A B : Prop} [Decidable c] (hc : c) (h : A) : if decide c = true then A else B := by rw [decide_eq_true hc]; exact iteT h
theorem itF {c A B : Prop} [Decidable c] (hc : ¬ c) (h : B) : if decide c = true then A else B := by rw [decide_eq_false hc]; exact iteF h
theorem niT {c A B : Prop} [Decidable c] (hc : c) (h : B) : if (!decide c) = true then A else B := by rw [decide_eq_true hc]; exact iteF h
theorem niF {c A B : Prop} [Decidable c] (hc : ¬ c) (h : A) : if (!decide c) = true then A else B := by rw [decide_eq_false hc]; exact iteT h
/-! ### slices, last items -/
theorem cut_take (xs : List V) (k : Nat) : cutV xs none (some (k : Int)) = xs.take k := by
  unfold cutV
  rw [HT.sIx_none, HT.sIx_nat, List.drop_zero, Nat.sub_zero]
  rcases Nat.le_total k xs.length with h | h
  · rw [Nat.min_eq_left h]
  · rw [Nat.min_eq_right h, List.take_of_length_le (Nat.le_refl _), List.take_of_length_le h]
theorem cut_drop (xs : List V) (k : Nat) : cutV xs (some (k : Int)) none = xs.drop k := by
  unfold cutV
  rw [HT.sIx_none, HT.sIx_nat]
  rcases Nat.le_total k xs.length with h | h
  · rw [Nat.min_eq_left h]
    exact List.take_of_length_le (by rw [List.length_drop]; exact Nat.le_refl _)
  · rw [Nat.min_eq_right h, List.drop_of_length_le (Nat.le_refl _), List.drop_of_length_le h]
    exact List.take_nil
theorem sIx_m1 (n : Nat) (d : Nat) : HT.sIx n d (some (-1)) = n - 1 := by
  show (if (-1 : Int) < 0 then ((-1 : Int) + (n : Int)).toNat else min (-1 : Int).toNat n) = n - 1
  rw [if_pos (by decide)]
  omega
theorem cut_init (xs : List V) : cutV xs none (some (-1)) = xs.dropLast := by
  unfold cutV
  rw [HT.sIx_none, sIx_m1, List.drop_zero, Nat.sub_zero, List.dropLast_eq_take]
theorem at_m1 {xs : List V} (h : xs ≠ []) : atI xs (-1) = some (xs.getLast h) := by
  have e := List.dropLast_concat_getLast h
  have q := atI_last xs.dropLast (xs.getLast h)
  rw [e] at q
  exact q
theorem at_last {l : List Int} (h : l ≠ []) : atI (IV l) (-1) = some (V.int (l.getLastD 0)) := by
  have h' : IV l ≠ [] := fun z => h (List.map_eq_nil_iff.mp z)
  rw [at_m1 h']
  have e : (IV l).getLast h' = V.int (l.getLast h) := List.getLast_map ..
  rw [e]
  have e2 : l.getLastD 0 = l.getLast h := by
    cases l with
    | nil => exact absurd rfl h
    | cons a r => rfl
  rw [e2]
/-- a list or a tuple -/
def SqI (H : Hp) (a : Addr) (xs : List V) : Prop := H a = some (.lst xs) ∨ H a = some (.tup xs)
theorem SqI.same {H H' : Hp} {a : Addr} {xs : List V} (h : SqI H a xs) (s : Same H H') : SqI H' a xs := h.elim (fun h => .inl (s _ _ h)) fun h => .inr (s _ _ h)
theorem pi_or {X : Cx} {tg iter : Expr} {w1 w2 : TI} (h1 : PI X tg iter w1) (h2 : PI X tg iter w2) : PI X tg iter (fun σ H R => w1 σ H R ∨ w2 σ H R) :=
  ⟨fun pins s σ H R I h => h.elim (h1.run pins s σ H R I) (h2.run pins s σ H R I)⟩
/-- the type of what is a list or a tuple -/
theorem SqL.tyx {K : PySem.W.Frag} {H : Hp} {a : Addr} {xs : List V} (h : SqL K H a xs) : TyX K H (.ref a) (.type "list") := by
  rcases h with (h | ⟨o, h⟩) | ⟨o, its, n, h, c, _⟩
  · exact .base (.lst h)
  · exact .base (.frz h)
  · exact .kList h c
theorem SqT.tyx {K : PySem.W.Frag} {H : Hp} {a : Addr} {xs : List V} (h : SqT K H a xs) : TyX K H (.ref a) (.type "tuple") := by
  rcases h with (h | ⟨o, h⟩) | ⟨o, its, n, h, c, _⟩
  · exact .base (.tup h)
  · exact .fTuple h
  · exact .kTuple h c
theorem lc_listG {K : PySem.W.Frag} {a : Addr} {xs : List V} {g : TG} {te : TE} {vs : List Nat} {σ : L2.St} {H1k : Hp} {D : Addr} {Qd : Hp → Prop} (y : Nat → V) (hD : H1k D = none) (ha : SqL K H1k a xs) (hz : xs.length ≤ sizeLine)
    (hs : ∀ i x H, xs[i]? = some x → Same H1k H → ∀ Qk : V → Hp → Prop, (∀ H4, Same H H4 → Qk (y i) H4) → g x (wipe σ vs) H fun σ2 H2 => wipe σ2 vs = wipe σ vs ∧ te σ2 H2 Qk)
    (hd : ∀ H, Same H1k H → H D = some (.lst ((List.range xs.length).map y)) → Qd H) :
    ∃ W : Nat → Nat → Hp → Prop, (∃ m, W 0 m (upd H1k D (.lst []))) ∧ ∀ i m H, W i m H →
      ((Itl K a).stop i H ∧ Qd H) ∨ ((Itl K a).go i H ∧ ∃ Nx : Hp → Prop, (∀ H', Nx H' → ∃ m', m' < m ∧ W (i + 1) m' H') ∧ ∀ x H', (Itl K a).yld i H x H' → g x (wipe σ vs) H' fun σ2 H2 => wipe σ2 vs = wipe σ vs ∧ tYes σ2 H2 fun b H3k =>
        if b = true then te σ2 H3k fun y H4 => ∃ acc, H4 D = some (.lst acc) ∧ acc.length < sizeLine ∧ Nx (upd H4 D (.lst (acc ++ [y]))) else Nx H3k) := by
  refine lc_list (fun i H => Same H1k H ∧ H D = some (.lst ((List.range i).map y))) ⟨Same.put hD, upd_same⟩ (fun i H _ p => p.1.seq ha) (fun i x H hx p => ?_) fun H p => hd H p.1 p.2
  obtain ⟨s, e⟩ := p
  have hi : i < xs.length := (List.getElem?_eq_some_iff.mp hx).1
  have q := hs i x H hx s (fun y H4 => ∃ acc, H4 D = some (.lst acc) ∧ acc.length < sizeLine ∧ (Same H1k (upd H4 D (.lst (acc ++ [y]))) ∧ (upd H4 D (.lst (acc ++ [y]))) D = some (.lst ((List.range (i + 1)).map _))))
    fun H4 s4 => ⟨_, s4 _ _ e, by rw [List.length_map, List.length_range]; omega, Same.set (s.trans s4) hD, by rw [upd_same, List.range_succ, List.map_append] <;> rfl⟩
  exact q
theorem IV_get {l : List Int} {i : Nat} {x : V} (h : (IV l)[i]? = some x) : ∃ z, l[i]? = some z ∧ x = V.int z := by
  rw [List.getElem?_map] at h
  cases e : l[i]? with
  | none => (rw [e] at h; cases h)
  | some z => rw [e] at h; exact ⟨z, rfl, (Option.some.inj h).symm⟩
theorem all_true (n : Nat) : ((List.range n).map fun _ => true).all id = true := by
  rw [List.all_eq_true]
  intro b hb
  obtain ⟨_, _, e⟩ := List.mem_map.mp hb
  rw [← e]
  rfl
theorem map_bl (n : Nat) : ((List.range n).map fun _ => V.bl true) = (((List.range n).map fun _ => true).map V.bl) := by
  rw [List.map_map]
  rfl
/-- tuple(x), list(x), x a list or a tuple; told by growth alone -/
theorem call_tupI {X : Cx} : CallR X (.type "tuple") (fun xs H Q => ∃ a ys, xs = [.ref a] ∧ SqI H a ys ∧ ∀ p H', Same H H' → H' p = some (.tup ys) → Q (.ref p) H') := by
  intro pins s σ H xs us Q Ik r h
  obtain ⟨a, ys, rfl, h, q⟩ := h
  refine call_tuple_of pins s σ H _ us Q Ik r ⟨a, ys, rfl, ?_⟩
  rcases h with h | h
  · exact .inl ⟨SqL.of h, fun l hl => q l _ (Same.put hl) upd_same⟩
  · exact .inr ⟨SqT.of h, q a H (Same.refl _) h⟩
theorem call_lstI {X : Cx} : CallR X (.type "list") (fun xs H Q => ∃ a ys, xs = [.ref a] ∧ SqI H a ys ∧ ∀ p, H p = none → Q (.ref p) (upd H p (.lst ys))) := by
  intro pins s σ H xs us Q Ik r h
  obtain ⟨a, ys, rfl, h, q⟩ := h
  refine call_list_of pins s σ H _ us Q Ik r ⟨a, ys, rfl, ?_, q⟩
  rcases h with h | h
  · exact .inl (SqL.of h)
  · exact .inr (SqT.of h)
/-- len of a list or a tuple -/
theorem call_lenI {X : Cx} : CallR X (.builtin "len") (fun xs H Q => ∃ a ys, xs = [.ref a] ∧ SqI H a ys ∧ Q (.int ys.length) H) := by
  intro pins s σ H xs us Q Ik r h
  obtain ⟨a, ys, rfl, h, q⟩ := h
  refine call_len_seq pins s σ H _ us Q Ik r ⟨a, ys, rfl, ?_, q⟩
  rcases h with h | h
  · exact .inl (SqL.of h)
  · exact .inr (SqT.of h)
/-- x[i] of a list or a tuple -/
theorem ix_I {X : Cx} : IxR X (fun x y H Q => ∃ p xs i v, x = .ref p ∧ y = .int i ∧ SqI H p xs ∧ atI xs i = some v ∧ Q v H) := by
  intro value slice pins s σ H x y v u Q Ik rx ry h hs
  obtain ⟨p, xs, i, z, e1, e2, h, e3, q⟩ := h
  rcases h with h | h
  · exact ix_list value slice pins s σ H x y v u Q Ik rx ry ⟨p, xs, i, z, e1, e2, SqL.of h, e3, q⟩ hs
  · exact ix_tup value slice pins s σ H x y v u Q Ik rx ry ⟨p, xs, i, z, e1, e2, SqT.of h, e3, q⟩ hs
end K70
-- K70F1
namespace K70
open L2 PySem PySem.Spec PyProof.Rows
section
variable {K : PySem.W.Frag} {mg : Str → Option Value} {base : Heap} {P : Program} {w : World}
/-! ### checks.py -/
theorem kit_int_int : PySem.W.kitOne K (.type "int") (.type "int") = some true := kit_ty (by decide +kernel)
theorem kit_int_bool : PySem.W.kitOne K (.type "int") (.type "bool") = some false := kit_ty (by decide +kernel)
theorem kit_list_seq : PySem.W.kitAny K (.type "list") [.type "list", .type "tuple"] = some true := by
  unfold PySem.W.kitAny
  rw [kit_ty (K := K) (a := "list") (b := "list") (r := true) (by decide +kernel)]
theorem kit_tuple_seq : PySem.W.kitAny K (.type "tuple") [.type "list", .type "tuple"] = some true := by
  unfold PySem.W.kitAny
  rw [kit_ty (K := K) (a := "tuple") (b := "list") (r := false) (by decide +kernel)]
  show PySem.W.kitAny K (.type "tuple") [.type "tuple"] = some true
  unfold PySem.W.kitAny
  rw [kit_ty (K := K) (a := "tuple") (b := "tuple") (r := true) (by decide +kernel)]
theorem cls_seq : Paired ClsV [V.ty "list", V.ty "tuple"] [Value.type "list", Value.type "tuple"] := .cons (.ty _) (.cons (.ty _) .nil)
def sp_is_integer : Sp := fun vs H Q _ => ∃ i : Int, vs = [.int i] ∧ Q (.bl true) H
theorem sc_is_integer : FnScope ["value"] ["value"] (defScope sis_integer) := ⟨rfl, rfl, rfl, by decide +kernel, rfl, by decide +kernel, by decide +kernel⟩
theorem ok_is_integer (T : Tx K mg) : Fnc P w K mg base 1 "is_integer" (He.ga K "is_integer") ["value"] sp_is_integer := by
  refine fnc_of T.fis_integer T.g_is_integer sc_is_integer (fun _ _ _ _ _ _ us hl => match us, hl with | [_], _ => rfl) (fun vs H Q E h => ?_) (fun cdv A outer s H vs Q E hr h => ?_)
  · obtain ⟨i, rfl, _⟩ := h
    rfl
  · obtain ⟨i, rfl, k⟩ := h
    refine ⟨_, pss_one (ps_ret (pe_and (pe_callB call_isi (by rfl) T.b_isinstance (by decide +kernel) (pa_cons (pv 0) (pa_cons (pe_bltn (v := .ty "int") (by rfl) T.b_int (by decide +kernel) rfl) pa_nil)))
      (pe_one (pe_not (pe_callB call_isi (by rfl) T.b_isinstance (by decide +kernel) (pa_cons (pv 0) (pa_cons (pe_bltn (v := .ty "bool") (by rfl) T.b_bool (by decide +kernel) rfl) pa_nil))))))), ?_⟩
    refine ⟨_, rfl, _, _, _, _, _, rfl, .ty _, .base (.int _), kit_int_int, true, rfl, iteT ?_⟩
    exact ⟨_, rfl, _, _, _, _, _, rfl, .ty _, .base (.int _), kit_int_bool, false, rfl, k⟩
def sp_is_within : Sp := fun vs H Q _ => ∃ i a b : Int, vs = [.int i, .int a, .int b] ∧ Q (.bl (decide (a ≤ i ∧ i ≤ b))) H
theorem sc_is_within : FnScope ["value", "least", "most"] ["value", "least", "most"] (defScope sis_within) := ⟨rfl, rfl, rfl, by decide +kernel, rfl, by decide +kernel, by decide +kernel⟩
theorem ok_is_within (T : Tx K mg) : Fnc P w K mg base 2 "is_within" (He.ga K "is_within") ["value", "least", "most"] sp_is_within := by
  have c_is_integer := ok_is_integer (P := P) (w := w) (base := base) T
  refine fnc_of T.fis_within T.g_is_within sc_is_within (fun _ _ _ _ _ _ us hl => match us, hl with | [_, _, _], _ => rfl) (fun vs H Q E h => ?_) (fun cdv A outer s H vs Q E hr h => ?_)
  · obtain ⟨i, a, b, rfl, _⟩ := h
    rfl
  · obtain ⟨i, a, b, rfl, k⟩ := h
    refine ⟨_, (pss_one (ps_ret (pe_and (pe_f c_is_integer (hr.mono (by decide)) (pa_cons (pv 0) pa_nil)) (pe_one (pe_chain op_le op_le (pv 1) (pv 0) (pv 2)))))), ?_⟩
    refine ⟨_, rfl, i, rfl, true, rfl, iteT ?_⟩
    (refine ⟨_, rfl, _, rfl, _, _, rfl, rfl, _, rfl, ?_⟩)
    refine ite2 (fun h1 => ?_) (fun h1 => ?_)
    · refine ⟨_, rfl, _, _, rfl, rfl, ?_⟩
      have e : decide (i ≤ b) = decide (a ≤ i ∧ i ≤ b) := by
        have h2 := of_decide_eq_true h1
        simp [h2]
      show Q (.bl (decide (i ≤ b))) H
      rw [e]
      exact k
    · have e : decide (a ≤ i ∧ i ≤ b) = false := decide_eq_false fun z => h1 (decide_eq_true z.1)
      rw [e] at k
      exact k
def sp_is_number : Sp := fun vs H Q _ => ∃ i : Int, vs = [.int i] ∧ Q (.bl (decide (0 ≤ i))) H
theorem sc_is_number : FnScope ["value"] ["value"] (defScope sis_number) := ⟨rfl, rfl, rfl, by decide +kernel, rfl, by decide +kernel, by decide +kernel⟩
theorem ok_is_number (T : Tx K mg) : Fnc P w K mg base 2 "is_number" (He.ga K "is_number") ["value"] sp_is_number := by
  have c_is_integer := ok_is_integer (P := P) (w := w) (base := base) T
  refine fnc_of T.fis_number T.g_is_number sc_is_number (fun _ _ _ _ _ _ us hl => match us, hl with | [_], _ => rfl) (fun vs H Q E h => ?_) (fun cdv A outer s H vs Q E hr h => ?_)
  · obtain ⟨i, rfl, _⟩ := h
    rfl
  · obtain ⟨i, rfl, k⟩ := h
    refine ⟨_, (pss_one (ps_ret (pe_and (pe_f c_is_integer (hr.mono (by decide)) (pa_cons (pv 0) pa_nil)) (pe_one (pe_cmpR op_ge (pv 0) pe_int (nomark _)))))), ?_⟩
    exact ⟨_, rfl, i, rfl, true, rfl, iteT ⟨_, rfl, _, _, rfl, rfl, k⟩⟩
/-! ### rules.py: moduli, banks -/
/-- the product -/
def prodI (m : List Int) : Int := m.foldl (· * ·) 1
theorem prodI_snoc (m : List Int) (q : Int) : prodI (m ++ [q]) = prodI m * q := by
  unfold prodI
  rw [List.foldl_append]
  rfl
/-- moduli that can stand together -/
structure ModOk (m : List Int) : Prop where
  ne : 1 ≤ m.length
  few : m.length ≤ 5
  each : ∀ q ∈ m, 2 ≤ q ∧ q ≤ 32
  prod : prodI m ≤ 32
def sp_banks_of : Sp := fun vs H Q _ => ∃ (a : Addr) (m : List Int), vs = [.ref a] ∧ TpI H a m ∧ (∀ q ∈ m, 2 ≤ q ∧ q ≤ 32) ∧ Q (.int (prodI m)) H
theorem sc_banks_of : FnScope ["moduli", "found", "modulus"] ["moduli"] (defScope sbanks_of) := ⟨rfl, rfl, rfl, by decide +kernel, rfl, by decide +kernel, by decide +kernel⟩
theorem ok_banks_of (T : Tx K mg) : Fnc P w K mg base 1 "banks_of" (He.ga K "banks_of") ["moduli"] sp_banks_of := by
  refine fnc_of T.fbanks_of T.g_banks_of sc_banks_of (fun _ _ _ _ _ _ us hl => match us, hl with | [_], _ => rfl) (fun vs H Q E h => ?_) (fun cdv A outer s H vs Q E hr h => ?_)
  · obtain ⟨a, m, rfl, _⟩ := h
    rfl
  · obtain ⟨a, m, rfl, hT, hm, k⟩ := h
    refine ⟨_, (pss_cons (ps_set (i := 1) sc_banks_of.nd rfl (Or.inl rfl) pe_int)
      (pss_cons (ps_for PassesOwn.never rfl (pi_tup (pv 0)) (pg_name (i := 2) sc_banks_of.nd rfl (Or.inl rfl))
        (pss_one (ps_set (i := 1) sc_banks_of.nd rfl (Or.inl rfl) (pe_op op_mul (pv 1) (pv 2)))))
      (pss_one (ps_ret (pv 1))))), ?_⟩
    refine ⟨_, rfl, a, rfl, ⟨_, SqT.of hT⟩, for_tup (K := K) (a := a) (xs := IV m) (fun i σ H' => H' = H ∧ ∃ v, σ = [some (.ref a), some (.int (prodI (m.take i))), v]) ⟨rfl, none, rfl⟩ (fun i σ H' _ p => by rw [p.1]; exact SqT.of hT) ?_ ?_⟩
    · rintro i x σ H' hx ⟨rfl, v, rfl⟩
      obtain ⟨hi, e⟩ := List.getElem?_eq_some_iff.mp hx
      rw [List.length_map] at hi
      rw [List.getElem_map] at e
      subst e
      have hq := hm m[i] (List.getElem_mem hi)
      refine ⟨_, rfl, _, rfl, _, _, rfl, rfl, .inr ⟨by omega, by omega⟩, rfl, some (.int m[i]), ?_⟩
      have et : m.take (i + 1) = m.take i ++ [m[i]] := by rw [List.take_succ, List.getElem?_eq_getElem hi] <;> rfl
      rw [et, prodI_snoc]
      rfl
    · rintro σ H' ⟨rfl, v, rfl⟩
      refine ⟨_, rfl, ?_⟩
      have et : m.take (IV m).length = m := List.take_of_length_le (by rw [List.length_map]; exact Nat.le_refl _)
      rw [et]
      exact k
end
end K70
-- K70F2
namespace K70
open L2 PySem PySem.Spec PyProof.Rows
section
variable {K : PySem.W.Frag} {mg : Str → Option Value} {base : Heap} {P : Program} {w : World}
def sp_are_moduli : Sp := fun vs H Q _ => ∃ (a : Addr) (m : List Int), vs = [.ref a] ∧ TpI H a m ∧ ModOk m ∧ ∀ H', Same H H' → Q (.bl true) H'
theorem sc_are_moduli : FnScope ["value", "modulus"] ["value"] (defScope sare_moduli) := ⟨rfl, rfl, rfl, by decide +kernel, rfl, by decide +kernel, by decide +kernel⟩
theorem ok_are_moduli (T : Tx K mg) : Fnc P w K mg base 3 "are_moduli" (He.ga K "are_moduli") ["value"] sp_are_moduli := by
  have c_is_within := ok_is_within (P := P) (w := w) (base := base) T
  have c_banks_of := ok_banks_of (P := P) (w := w) (base := base) T
  refine fnc_of T.fare_moduli T.g_are_moduli sc_are_moduli (fun _ _ _ _ _ _ us hl => match us, hl with | [_], _ => rfl) (fun vs H Q E h => ?_) (fun cdv A outer s H vs Q E hr h => ?_)
  · obtain ⟨a, m, rfl, _⟩ := h
    rfl
  · obtain ⟨a, m, rfl, hT, hm, k⟩ := h
    refine ⟨_, (pss_cons (ps_if (PW.pt (pw_or (pt_not (pt_val (pe_callB call_isiT (by rfl) T.b_isinstance (by decide +kernel) (pa_cons (pv 0) (pa_cons (pe_tup (pa_cons (pe_bltn (v := .ty "list") (by rfl) T.b_list (by decide +kernel) rfl) (pa_cons (pe_bltn (v := .ty "tuple") (by rfl) T.b_tuple (by decide +kernel) rfl) pa_nil))) pa_nil))))) (pw_or1 (pt_not (pt_chain op_le op_le pe_int (pe_callB call_len_seq (by rfl) T.b_len (by decide +kernel) (pa_cons (pv 0) pa_nil)) (pe_gi (by rfl) T.i_MOST_MODULI)))))) (pss_one (ps_ret pe_bl)) pss_nil)
      (pss_cons (ps_if (pt_not (pt_val (pe_callB (cr_all rfl) (by rfl) T.b_all (by decide +kernel) (pa_cons (pe_lc (own := [("modulus", 1)]) (g := gName 1) (tt := tYes) (by rfl) sc_are_moduli.nd (pi_tup (pv 0)) (blkOk_by (N := ["value", "modulus"]) (sc := defScope sare_moduli) (by decide +kernel)) (fun _ _ _ _ _ => (pg_name (i := 1) sc_are_moduli.nd rfl (Or.inl rfl))) (fun _ _ _ _ _ => pts_nil) (fun _ _ _ _ _ => (pe_f c_is_within (hr.mono (by decide)) (pa_cons (pv 1) (pa_cons pe_int (pa_cons (pe_gi (by rfl) T.i_MOST_BANKS) pa_nil)))))) pa_nil)))) (pss_one (ps_ret pe_bl)) pss_nil)
      (pss_one (ps_ret (pe_cmpR op_le (pe_f c_banks_of (hr.mono (by decide)) (pa_cons (pv 0) pa_nil)) (pe_gi (by rfl) T.i_MOST_BANKS) (nomark _)))))), ?_⟩
    refine ⟨_, rfl, by show 2 ≤ sizeLine; decide, fun t ht => ?_⟩
    have s1 : Same H (upd H t (.tup [.ty "list", .ty "tuple"])) := Same.put ht
    refine ⟨_, _, _, _, _, true, rfl, upd_same, cls_seq, SqT.tyx (SqT.of (s1 _ _ hT)), kit_tuple_seq, true, rfl, iteF ?_⟩
    refine ⟨_, rfl, a, _, rfl, .inr (SqT.of (s1 _ _ hT)), _, _, rfl, rfl, _, rfl, itT (by rw [List.length_map]; have := hm.ne; omega) ⟨_, _, rfl, rfl, _, rfl, niT (by rw [List.length_map]; have := hm.few; omega) ?_⟩⟩
    refine ⟨_, rfl, a, rfl, ⟨_, SqT.of (s1 _ _ hT)⟩, fun D hD => lc_tupG (xs := IV m) (fun _ => V.bl true) hD (SqT.of (s1 _ _ hT)) (by rw [List.length_map]; have := hm.few; rw [sizeLine_eq]; omega) ?_ ?_⟩
    · intro i x H2 hx s2 Qk hq
      obtain ⟨z, hz, rfl⟩ := IV_get hx
      refine ⟨rfl, _, rfl, z, 2, 32, rfl, ?_⟩
      rw [decide_eq_true (hm.each z (List.mem_of_getElem? hz))]
      exact hq _ (Same.refl _)
    · intro H2 s2 e
      have e2 : H2 D = some (.lst (((List.range (IV m).length).map fun _ => true).map V.bl)) := by rw [e, map_bl]
      refine ⟨D, _, rfl, SqL.of e2, _, rfl, ?_⟩
      rw [all_true]
      refine iteF ?_
      refine ⟨_, rfl, a, m, rfl, s2 _ _ (s1 _ _ hT), hm.each, _, _, rfl, rfl, ?_⟩
      exact blE (decide_eq_true hm.prod) (k _ (s1.trans s2))
/-- all are banks -/
def BanksIn (n : Int) (l : List Int) : Prop := ∀ b ∈ l, 0 ≤ b ∧ b < n
def sp_are_banks : Sp := fun vs H Q _ => ∃ (a : Addr) (l : List Int) (n : Int), vs = [.ref a, .int n] ∧ SqI H a (IV l) ∧ l.length ≤ 1000 ∧ BanksIn n l ∧ ∀ H', Same H H' → Q (.bl true) H'
theorem sc_are_banks : FnScope ["value", "banks", "bank"] ["value", "banks"] (defScope sare_banks) := ⟨rfl, rfl, rfl, by decide +kernel, rfl, by decide +kernel, by decide +kernel⟩
theorem ok_are_banks (T : Tx K mg) : Fnc P w K mg base 3 "are_banks" (He.ga K "are_banks") ["value", "banks"] sp_are_banks := by
  have c_is_within := ok_is_within (P := P) (w := w) (base := base) T
  refine fnc_of T.fare_banks T.g_are_banks sc_are_banks (fun _ _ _ _ _ _ us hl => match us, hl with | [_, _], _ => rfl) (fun vs H Q E h => ?_) (fun cdv A outer s H vs Q E hr h => ?_)
  · obtain ⟨a, l, n, rfl, _⟩ := h
    rfl
  · obtain ⟨a, l, n, rfl, hT, hl, hm, k⟩ := h
    refine ⟨_, (pss_one (ps_ret (pe_and (pe_callB call_isiT (by rfl) T.b_isinstance (by decide +kernel) (pa_cons (pv 0) (pa_cons (pe_tup (pa_cons (pe_bltn (v := .ty "list") (by rfl) T.b_list (by decide +kernel) rfl) (pa_cons (pe_bltn (v := .ty "tuple") (by rfl) T.b_tuple (by decide +kernel) rfl) pa_nil))) pa_nil))) (pe_one (pe_callB (cr_all rfl) (by rfl) T.b_all (by decide +kernel) (pa_cons (pe_lc (own := [("bank", 2)]) (g := gName 2) (tt := tYes) (by rfl) sc_are_banks.nd (pi_or (pi_list (pv 0)) (pi_tup (pv 0))) (blkOk_by (N := ["value", "banks", "bank"]) (sc := defScope sare_banks) (by decide +kernel)) (fun _ _ _ _ _ => (pg_name (i := 2) sc_are_banks.nd rfl (Or.inl rfl))) (fun _ _ _ _ _ => pts_nil) (fun _ _ _ _ _ => (pe_f c_is_within (hr.mono (by decide)) (pa_cons (pv 2) (pa_cons pe_int (pa_cons (pe_op op_sub (pv 1) pe_int) pa_nil)))))) pa_nil)))))), ?_⟩
    have zl : (IV l).length ≤ sizeLine := by rw [List.length_map, sizeLine_eq]; omega
    refine ⟨_, rfl, by show 2 ≤ sizeLine; decide, fun t ht => ?_⟩
    have s1 : Same H (upd H t (.tup [.ty "list", .ty "tuple"])) := Same.put ht
    have turn : ∀ (i : Nat) (x : V) (H2 : Hp), (IV l)[i]? = some x → ∀ Qk : V → Hp → Prop, (∀ H4, Same H2 H4 → Qk (V.bl true) H4) → gName 2 x (wipe [some (V.ref a), some (V.int n), none] [2]) H2 fun σ2 H2 => wipe σ2 [2] = wipe [some (V.ref a), some (V.int n), none] [2] ∧
        (tCall sp_is_within [] E0 (tCons (tVar 2) (tCons (tC (V.int 0)) (tCons (tOp (rI0 fun i j => V.int (i - j)) (tVar 1) (tC (V.int 1))) tNil)))) σ2 H2 Qk := by
      intro i x H2 hx Qk hq
      obtain ⟨z, hz, rfl⟩ := IV_get hx
      have hb := hm z (List.mem_of_getElem? hz)
      refine ⟨rfl, _, rfl, _, rfl, _, _, rfl, rfl, z, 0, n - 1, rfl, ?_⟩
      rw [decide_eq_true (show 0 ≤ z ∧ z ≤ n - 1 by omega)]
      exact hq _ (Same.refl _)
    have fin : ∀ (D : Addr) (H2 : Hp), Same H H2 → H2 D = some (.lst ((List.range (IV l).length).map fun _ => V.bl true)) → rAll K [V.ref D] H2 Q := by
      intro D H2 s2 e
      have e2 : H2 D = some (.lst (((List.range (IV l).length).map fun _ => true).map V.bl)) := by rw [e, map_bl]
      refine ⟨D, _, rfl, SqL.of e2, ?_⟩
      rw [all_true]
      exact k _ s2
    rcases hT with hS | hS
    · have hT : SqL K H a (IV l) := SqL.of hS
      refine ⟨_, _, _, _, _, true, rfl, upd_same, cls_seq, SqL.tyx (s1.seq hT), kit_list_seq, true, rfl, iteT ?_⟩
      refine .inl ⟨_, rfl, a, rfl, ⟨_, s1.seq hT⟩, fun D hD => lc_listG (xs := IV l) (fun _ => V.bl true) hD (s1.seq hT) zl (fun i x H2 hx _ Qk hq => turn i x H2 hx Qk hq) fun H2 s2 e => fin D H2 (s1.trans s2) e⟩
    · have hT : SqT K H a (IV l) := SqT.of hS
      refine ⟨_, _, _, _, _, true, rfl, upd_same, cls_seq, SqT.tyx (Same.seqT s1 hT), kit_tuple_seq, true, rfl, iteT ?_⟩
      refine .inr ⟨_, rfl, a, rfl, ⟨_, Same.seqT s1 hT⟩, fun D hD => lc_tupG (xs := IV l) (fun _ => V.bl true) hD (Same.seqT s1 hT) zl (fun i x H2 hx _ Qk hq => turn i x H2 hx Qk hq) fun H2 s2 e => fin D H2 (s1.trans s2) e⟩
end
end K70
-- K70F3
namespace K70
open L2 PySem PySem.Spec PyProof.Rows
/-! ### rounds, normal forms: the mirror -/
def repT (t : List Int) (k : Nat) : List Int := (List.replicate (t.length / k) (t.take k)).flatten
def isPer (t : List Int) (k : Nat) : Bool := decide (t.length % k = 0) && decide (t = repT t k)
def shortGo (t : List Int) : Nat → Nat → List Int
  | _, 0 => t
  | k, f + 1 => if isPer t k = true then t.take k else shortGo t (k + 1) f
def shortest (t : List Int) : List Int := shortGo t 1 (t.length - 1)
def normGo : Nat → List Int → List Int → List Int × List Int
  | 0, a, t => (a, t)
  | n + 1, a, t => if a.getLastD 0 = t.getLastD 0 then normGo n a.dropLast (t.getLastD 0 :: t.dropLast) else (a, t)
/-- the weights ahead and those of the round in the normal form -/
def normW (a t : List Int) : List Int × List Int := normGo a.length a (shortest t)
theorem shortGo_len (t : List Int) : ∀ (f k : Nat), (shortGo t k f).length ≤ t.length
  | 0, _ => Nat.le_refl _
  | f + 1, k => by
    unfold shortGo
    split
    · rw [List.length_take]; exact Nat.min_le_right _ _
    · exact shortGo_len t f (k + 1)
theorem shortest_len (t : List Int) : (shortest t).length ≤ t.length := shortGo_len t _ _
theorem shortGo_ne {t : List Int} (h : t ≠ []) : ∀ (f k : Nat), 1 ≤ k → shortGo t k f ≠ []
  | 0, _, _ => h
  | f + 1, k, hk => by
    unfold shortGo
    split
    · cases t with
      | nil => exact absurd rfl h
      | cons x r =>
        obtain ⟨j, rfl⟩ : ∃ j, k = j + 1 := ⟨k - 1, by omega⟩
        simp
    · exact shortGo_ne h f (k + 1) (by omega)
theorem shortest_ne {t : List Int} (h : t ≠ []) : shortest t ≠ [] := shortGo_ne h _ _ (Nat.le_refl _)
theorem Dp_ints {K : PySem.W.Frag} {H : Hp} : ∀ (l : List Int), DpAll K H (IV l) (l.map PyData.int)
  | [] => .nil
  | n :: r => .cons (.int n) (Dp_ints r)
theorem Dp_tup {K : PySem.W.Frag} {H : Hp} {a : Addr} {l : List Int} (h : TpI H a l) : Dp K H (.ref a) (.tuple (l.map PyData.int)) := .tup (SqT.of h) (Dp_ints l)
theorem eqvAll_ints : ∀ (l m : List Int), PyData.eqvAll (l.map PyData.int) (m.map PyData.int) = decide (l = m)
  | [], [] => rfl
  | [], _ :: _ => rfl
  | _ :: _, [] => rfl
  | a :: r, b :: q => by
    show (a == b && PyData.eqvAll (r.map PyData.int) (q.map PyData.int)) = decide (a :: r = b :: q)
    rw [eqvAll_ints r q, Bool.beq_eq_decide_eq]
    by_cases e : a = b
    · subst e
      simp
    · simp [e]
theorem eqv_tup (l m : List Int) : PyData.eqv (.tuple (l.map PyData.int)) (.tuple (m.map PyData.int)) = decide (l = m) := by
  unfold PyData.eqv
  exact eqvAll_ints l m
theorem canAll_ints : ∀ (l : List Int), PyData.canLayAll0 (l.map PyData.int) = true
  | [] => rfl
  | _ :: r => canAll_ints r
theorem depthAll_ints : ∀ (l : List Int), PyData.depthAll (l.map PyData.int) = 0
  | [] => rfl
  | _ :: r => by
    show max 0 (PyData.depthAll (r.map PyData.int)) = 0
    rw [depthAll_ints r]
    rfl
theorem shaped_tup (l : List Int) : SeqAt.shaped (.tuple (l.map PyData.int)) = true := by
  unfold SeqAt.shaped
  have e1 : PyData.canLay0 (.tuple (l.map PyData.int)) = true := canAll_ints l
  have e2 : PyData.depth (.tuple (l.map PyData.int)) = 1 := by
    show PyData.depthAll (l.map PyData.int) + 1 = 1
    rw [depthAll_ints]
  rw [e1, e2]
  rfl
theorem repT_map (t : List Int) (k : Nat) : (List.replicate (t.length / k) ((IV t).take k)).flatten = IV (repT t k) := by
  unfold repT
  show _ = List.map V.int _
  rw [List.map_flatten, List.map_replicate, List.map_take]
section
variable {K : PySem.W.Frag} {mg : Str → Option Value} {base : Heap} {P : Program} {w : World}
def sp_shortest_turn : Sp := fun vs H Q _ => ∃ (a : Addr) (t : List Int), vs = [.ref a] ∧ TpI H a t ∧ 1 ≤ t.length ∧ t.length ≤ 1000 ∧ ∀ H' p, Same H H' → TpI H' p (shortest t) → Q (.ref p) H'
theorem sc_shortest_turn : FnScope ["turn", "many"] ["turn"] (defScope sshortest_turn) := ⟨rfl, rfl, rfl, by decide +kernel, rfl, by decide +kernel, by decide +kernel⟩
theorem ok_shortest_turn (T : Tx K mg) : Fnc P w K mg base 1 "shortest_turn" (He.ga K "shortest_turn") ["turn"] sp_shortest_turn := by
  refine fnc_of T.fshortest_turn T.g_shortest_turn sc_shortest_turn (fun _ _ _ _ _ _ us hl => match us, hl with | [_], _ => rfl) (fun vs H Q E h => ?_) (fun cdv A outer s H vs Q E hr h => ?_)
  · obtain ⟨a, t, rfl, _⟩ := h
    rfl
  · obtain ⟨a, t, rfl, hT, h1, h2, k⟩ := h
    refine ⟨_, (pss_cons (ps_for PassesOwn.never rfl (pi_range2 (by rfl) T.b_range (pa_cons pe_int (pa_cons (pe_callB call_len_seq (by rfl) T.b_len (by decide +kernel) (pa_cons (pv 0) pa_nil)) pa_nil))) (pg_name (i := 1) sc_shortest_turn.nd rfl (Or.inl rfl))
        (pss_one (ps_if (PW.pt (pw_and (pt_cmpR op_eq (pe_op op_mod (pe_callTy call_int1 (by rfl) T.b_int (by decide +kernel) (pa_cons (pe_callB call_len_seq (by rfl) T.b_len (by decide +kernel) (pa_cons (pv 0) pa_nil)) pa_nil)) (pv 1)) pe_int (nomark _)) (pw_and1 (pt_cmpR (op_eqD hr.units) (pv 0) (pe_op op_repT (pe_slice sl_tupA (pv 0) po_none (po_some (pv 1))) (pe_op op_fdiv (pe_callB call_len_seq (by rfl) T.b_len (by decide +kernel) (pa_cons (pv 0) pa_nil)) (pv 1))) (nomark _))))) (pss_one (ps_ret (pe_slice sl_tupA (pv 0) po_none (po_some (pv 1))))) pss_nil)))
      (pss_one (ps_ret (pv 0)))), ?_⟩
    have lenV : (IV t).length = t.length := by rw [List.length_map]
    refine ⟨_, rfl, a, _, rfl, .inr (SqT.of hT), 1, _, rfl, ⟨by decide, by decide, by rw [lenV]; omega, by rw [lenV]; omega⟩, ?_⟩
    refine for_range (lo := 1) (n := (((IV t).length : Int) - 1).toNat) (fun i σ H' => Same H H' ∧ (∃ v, σ = [some (.ref a), v]) ∧ shortest t = shortGo t (1 + i) (t.length - 1 - i)) ⟨Same.refl _, ⟨none, rfl⟩, rfl⟩ ?_ ?_
    · rintro i σ H' hi ⟨s1, ⟨v, rfl⟩, e⟩
      have hi' : i < t.length - 1 := by rw [lenV] at hi; omega
      have T1 := hT.same s1
      obtain ⟨f, hf⟩ : ∃ f, t.length - 1 - i = f + 1 := ⟨t.length - 1 - i - 1, by omega⟩
      have ek : (1 : Int) + (i : Int) = ((1 + i : Nat) : Int) := by omega
      have cut : cutV (IV t) none (some ((1 : Int) + (i : Int))) = IV (t.take (1 + i)) := by rw [ek, cut_take, IV_take]
      have nw : ¬ (HT.sIx (IV t).length 0 none = 0 ∧ HT.sIx (IV t).length (IV t).length (some ((1 : Int) + (i : Int))) = (IV t).length) := by
        rintro ⟨_, z⟩
        rw [ek, HT.sIx_nat, lenV, Nat.min_eq_left (by omega)] at z
        omega
      refine ⟨_, rfl, a, _, rfl, .inr (SqT.of T1), .inl ⟨_, rfl, _, rfl, _, _, rfl, rfl, by show (0 : Int) < 1 + i; omega, rfl, _, rfl, ?_⟩⟩
      have em : V.int (((IV t).length : Int) % (1 + (i : Int))) = V.int ((t.length % (1 + i) : Nat) : Int) := by rw [lenV, ek, ← Int.natCast_emod]
      have go : ∀ H2, Same H H2 → ¬ isPer t (1 + i) = true → (Same H H2 ∧ (∃ v, [some (V.ref a), some (V.int (1 + (i : Int)))] = [some (V.ref a), v]) ∧ shortest t = shortGo t (1 + (i + 1)) (t.length - 1 - (i + 1))) := fun H2 s2 hp => by
        refine ⟨s2, ⟨_, rfl⟩, ?_⟩
        rw [e, hf]
        show (if isPer t (1 + i) = true then t.take (1 + i) else shortGo t (1 + i + 1) f) = _
        rw [if_neg hp]
        have ef : t.length - 1 - (i + 1) = f := by omega
        rw [ef]
        rfl
      refine ite2 (fun hd => ?_) (fun hd => ?_)
      · have hd : V.int (((IV t).length : Int) % (1 + (i : Int))) = V.int 0 := of_decide_eq_true hd
        rw [em] at hd
        have hmod : t.length % (1 + i) = 0 := by
          have z := V.int.inj hd
          omega
        have hdiv : 2 ≤ t.length / (1 + i) := by
          have q := Nat.div_add_mod t.length (1 + i)
          rw [hmod, Nat.add_zero] at q
          have key : ∀ d, (1 + i) * d = t.length → 2 ≤ d := fun d q => by
            rcases d with _ | _ | d
            · rw [Nat.mul_zero] at q; omega
            · rw [Nat.zero_add, Nat.mul_one] at q; omega
            · omega
          exact key _ q
        have hdle : t.length / (1 + i) ≤ 1000 := Nat.le_trans (Nat.div_le_self _ _) h2
        refine ⟨_, rfl, _, rfl, _, rfl, _, rfl, a, _, rfl, SqT.of T1, fun z => absurd z nw, fun _ p hp => ?_⟩
        have s2 : Same H' (upd H' p (.tup (cutV (IV t) none (some ((1 : Int) + (i : Int)))))) := Same.put hp
        refine ⟨_, rfl, a, _, rfl, .inr (SqT.of (s2 _ _ T1)), _, rfl, _, _, rfl, rfl, ⟨by show (0 : Int) < 1 + i; omega, by show (1 : Int) + i < 1073741824; omega⟩, ?_⟩
        have eq : ((IV t).length : Int) / (1 + (i : Int)) = ((t.length / (1 + i) : Nat) : Int) := by rw [lenV, ek, ← Int.natCast_ediv]
        have q2 : (2 : Int) ≤ ((IV t).length : Int) / (1 + (i : Int)) := by rw [eq]; exact Int.ofNat_le.mpr hdiv
        have q3 : ((IV t).length : Int) / (1 + (i : Int)) ≤ 1000 := by rw [eq]; exact Int.ofNat_le.mpr hdle
        refine ⟨p, _, _, rfl, rfl, SqT.of upd_same, ?_, q2, q3, ?_, fun p2 hp2 => ?_⟩
        · rw [cut]
          intro z
          have z := congrArg List.length (List.map_eq_nil_iff.mp z)
          rw [List.length_take] at z
          have z : min (1 + i) t.length = 0 := z
          omega
        · rw [cut, List.length_map, List.length_take]
          omega
        · have s3 := Same.put (o := .tup (List.replicate (((IV t).length : Int) / (1 + (i : Int))).toNat (cutV (IV t) none (some ((1 : Int) + (i : Int))))).flatten) hp2
          have erep : (List.replicate (((IV t).length : Int) / (1 + (i : Int))).toNat (cutV (IV t) none (some ((1 : Int) + (i : Int))))).flatten = IV (repT t (1 + i)) := by
            rw [eq, Int.toNat_natCast, ← repT_map, cut, IV_take]
          refine ⟨_, _, Dp_tup (l := t) (s3 _ _ (s2 _ _ T1)), Dp_tup (l := repT t (1 + i)) (by unfold TpI; rw [upd_same, erep]), shaped_tup _, shaped_tup _, _, rfl, ?_⟩
          rw [eqv_tup]
          refine ite2 (fun hd2 => ?_) (fun hd2 => ?_)
          · have hd2 := of_decide_eq_true hd2
            have hp : isPer t (1 + i) = true := by
              unfold isPer
              rw [decide_eq_true hmod, decide_eq_true hd2]
              rfl
            refine ⟨_, rfl, _, rfl, _, rfl, a, _, rfl, SqT.of (s3 _ _ (s2 _ _ T1)), fun z => absurd z nw, fun _ p3 hp3 => ?_⟩
            refine k _ p3 (s1.trans (s2.trans (s3.trans (Same.put hp3)))) ?_
            unfold TpI
            rw [upd_same, cut, e, hf]
            show _ = some (HO.tup (IV (if isPer t (1 + i) = true then t.take (1 + i) else shortGo t (1 + i + 1) f)))
            rw [if_pos hp]
          · refine go _ (s1.trans (s2.trans s3)) fun z => hd2 ?_
            unfold isPer at z
            exact (Bool.and_eq_true_iff.mp z).2
      · refine iteF ?_
        refine go _ s1 fun z => hd ?_
        unfold isPer at z
        have z1 := of_decide_eq_true (Bool.and_eq_true_iff.mp z).1
        show decide (V.int (((IV t).length : Int) % (1 + (i : Int))) = V.int 0) = true
        rw [em, z1]
        rfl
    · rintro σ H' ⟨s1, ⟨v, rfl⟩, e⟩
      refine ⟨_, rfl, k _ a s1 ?_⟩
      have ez : t.length - 1 - (((IV t).length : Int) - 1).toNat = 0 := by rw [lenV]; omega
      rw [ez] at e
      rw [e]
      exact hT.same s1
end
end K70
-- K70F4
namespace K70
open L2 PySem PySem.Spec PyProof.Rows StX
theorem normGo_len : ∀ (n : Nat) (a t : List Int), (normGo n a t).1.length ≤ a.length ∧ (t ≠ [] → (normGo n a t).2.length = t.length)
  | 0, a, t => ⟨Nat.le_refl _, fun _ => rfl⟩
  | n + 1, a, t => by
    unfold normGo
    split
    · obtain ⟨h1, h2⟩ := normGo_len n a.dropLast (t.getLastD 0 :: t.dropLast)
      refine ⟨Nat.le_trans h1 (by rw [List.length_dropLast]; omega), fun ht => ?_⟩
      rw [h2 (by simp), List.length_cons, List.length_dropLast]
      have : 0 < t.length := List.length_pos_iff.mpr ht
      omega
    · exact ⟨Nat.le_refl _, fun _ => rfl⟩
theorem normW_len {a t : List Int} (ht : t ≠ []) : (normW a t).1.length ≤ a.length ∧ (normW a t).2.length ≤ t.length ∧ (normW a t).2 ≠ [] := by
  obtain ⟨h1, h2⟩ := normGo_len a.length a (shortest t)
  have h3 := h2 (shortest_ne ht)
  refine ⟨h1, by show (normGo _ _ _).2.length ≤ _; rw [h3]; exact shortest_len t, fun z => ?_⟩
  have z' : (normGo a.length a (shortest t)).2 = [] := z
  rw [z'] at h3
  exact shortest_ne ht (List.length_eq_zero_iff.mp h3.symm)
section
variable {K : PySem.W.Frag} {mg : Str → Option Value} {base : Heap} {P : Program} {w : World}
def sp_normal_weights : Sp := fun vs H Q _ => ∃ (a b : Addr) (u t : List Int), vs = [.ref a, .ref b] ∧ SqI H a (IV u) ∧ SqI H b (IV t) ∧ u.length ≤ 1000 ∧ 1 ≤ t.length ∧ t.length ≤ 1000 ∧
  ∀ H' p pa pt, Same H H' → H' p = some (.tup [.ref pa, .ref pt]) → TpI H' pa (normW u t).1 → TpI H' pt (normW u t).2 → Q (.ref p) H'
theorem sc_normal_weights : FnScope ["ahead", "turn"] ["ahead", "turn"] (defScope snormal_weights) := ⟨rfl, rfl, rfl, by decide +kernel, rfl, by decide +kernel, by decide +kernel⟩
theorem ok_normal_weights (T : Tx K mg) : Fnc P w K mg base 2 "normal_weights" (He.ga K "normal_weights") ["ahead", "turn"] sp_normal_weights := by
  have c_shortest_turn := ok_shortest_turn (P := P) (w := w) (base := base) T
  refine fnc_of T.fnormal_weights T.g_normal_weights sc_normal_weights (fun _ _ _ _ _ _ us hl => match us, hl with | [_, _], _ => rfl) (fun vs H Q E h => ?_) (fun cdv A outer s H vs Q E hr h => ?_)
  · obtain ⟨a, b, u, t, rfl, _⟩ := h
    rfl
  · obtain ⟨a, b, u, t, rfl, hu, ht, zu, t1, zt, k⟩ := h
    refine ⟨_, (pss_cons (ps_set (i := 1) sc_normal_weights.nd rfl (Or.inl rfl) (pe_f c_shortest_turn (hr.mono (by decide)) (pa_cons (pe_callTy call_tupI (by rfl) T.b_tuple (by decide +kernel) (pa_cons (pv 1) pa_nil)) pa_nil)))
      (pss_cons (ps_set (i := 0) sc_normal_weights.nd rfl (Or.inl rfl) (pe_callTy call_tupI (by rfl) T.b_tuple (by decide +kernel) (pa_cons (pv 0) pa_nil)))
      (pss_cons (ps_while PassesOwn.never (PW.pt (pw_and (pt_cmpR op_gt (pe_callB call_len_seq (by rfl) T.b_len (by decide +kernel) (pa_cons (pv 0) pa_nil)) pe_int (nomark _)) (pw_and1 (pt_cmpR op_eq (pe_ix ix_tup (pv 0) (pe_un un_neg pe_int) (fun _ _ => rfl)) (pe_ix ix_tup (pv 1) (pe_un un_neg pe_int) (fun _ _ => rfl)) (nomark _))))) (pss_cons (ps_set (i := 1) sc_normal_weights.nd rfl (Or.inl rfl) (pe_tup (pa_cons (pe_ix ix_tup (pv 1) (pe_un un_neg pe_int) (fun _ _ => rfl)) (pa_star (pe_slice sl_tupA (pv 1) po_none (po_some (pe_un un_neg pe_int))) pa_nil))))
      (pss_one (ps_set (i := 0) sc_normal_weights.nd rfl (Or.inl rfl) (pe_slice sl_tupA (pv 0) po_none (po_some (pe_un un_neg pe_int)))))))
      (pss_one (ps_ret (pe_tup (pa_cons (pv 0) (pa_cons (pv 1) pa_nil)))))))), ?_⟩
    have tne : t ≠ [] := fun z => by rw [z] at t1; exact absurd t1 (by decide)
    refine ⟨_, rfl, b, _, rfl, ht, fun b1 H1 s1 hb1 => ⟨b1, t, rfl, hb1, t1, zt, fun H2 b2 s2 hb2 => ?_⟩⟩
    have hu2 := hu.same (s1.trans s2)
    refine ⟨_, rfl, a, _, rfl, hu2, fun a1 H3 s3 ha1 => ?_⟩
    have sl := shortest_len t
    refine ⟨fun m σ H' => ∃ (pa pt : Addr) (x y : List Int), σ = [some (.ref pa), some (.ref pt)] ∧ TpI H' pa x ∧ TpI H' pt y ∧ y ≠ [] ∧ Same H H' ∧ m = x.length ∧ x.length ≤ 1000 ∧ y.length ≤ 1000 ∧ normGo x.length x y = normW u t,
      ⟨_, a1, b2, u, shortest t, rfl, ha1, hb2.same s3, shortest_ne tne, s1.trans (s2.trans s3), rfl, zu, by omega, rfl⟩, ?_⟩
    rintro m σ H' ⟨pa, pt, x, y, rfl, hx, hy, yne, s4, rfl, zx, zy, e⟩
    refine ⟨_, rfl, pa, _, rfl, .inr (SqT.of hx), _, _, rfl, rfl, _, rfl, ?_⟩
    refine ite2 (fun h0 => ?_) (fun h0 => ?_)
    · have h0 : (0 : Int) < ((IV x).length : Int) := of_decide_eq_true h0
      have xne : x ≠ [] := fun z => by rw [z] at h0; exact absurd h0 (by decide)
      obtain ⟨n, hn⟩ : ∃ n, x.length = n + 1 := ⟨x.length - 1, by have := List.length_pos_iff.mpr xne; omega⟩
      refine ⟨_, rfl, 1, rfl, pa, _, _, _, rfl, rfl, SqT.of hx, at_last xne, _, rfl, 1, rfl, pt, _, _, _, rfl, rfl, SqT.of hy, at_last yne, rfl, _, rfl, ?_⟩
      rw [hn] at e
      refine ite2 (fun h1 => ?_) (fun h1 => ?_)
      · have h1 : x.getLastD 0 = y.getLastD 0 := V.int.inj (of_decide_eq_true h1)
        refine ⟨fun σ' H'' => ∃ (pa pt : Addr) (x' y' : List Int), σ' = [some (.ref pa), some (.ref pt)] ∧ TpI H'' pa x' ∧ TpI H'' pt y' ∧ y' ≠ [] ∧ Same H H'' ∧ x'.length < x.length ∧ x'.length ≤ 1000 ∧ y'.length ≤ 1000 ∧ normGo x'.length x' y' = normW u t,
          fun σ' H'' ⟨pa, pt, x', y', q1, q2, q3, q4, q5, q6, q7⟩ => ⟨_, q6, pa, pt, x', y', q1, q2, q3, q4, q5, rfl, q7⟩, ?_⟩
        have nwx : ∀ l : List Int, l ≠ [] → ¬ (HT.sIx (IV l).length 0 none = 0 ∧ HT.sIx (IV l).length (IV l).length (some (-1)) = (IV l).length) := fun l hl z => by
          have z := z.2
          rw [sIx_m1, IV_len] at z
          have := List.length_pos_iff.mpr hl
          omega
        refine ⟨_, rfl, 1, rfl, pt, _, _, _, rfl, rfl, SqT.of hy, at_last yne, _, rfl, 1, rfl, _, rfl, pt, _, rfl, SqT.of hy, fun z => absurd z (nwx y yne), fun _ p1 hp1 => ?_⟩
        refine ⟨p1, _, rfl, .inl (SqT.of upd_same), ?_⟩
        have ly : y.dropLast.length + 1 = y.length := by rw [List.length_dropLast]; have := List.length_pos_iff.mpr yne; omega
        have ec : cutV (IV y) none (some (-1)) = IV y.dropLast := by rw [cut_init, IV_init]
        rw [ec]
        refine ⟨?_, fun p2 hp2 => ?_⟩
        · show (V.int (y.getLastD 0) :: (IV y.dropLast ++ [])).length ≤ sizeLine
          rw [List.append_nil, List.length_cons, IV_len, sizeLine_eq]
          omega
        · have s5 : Same H' (upd H' p1 (.tup (IV y.dropLast))) := Same.put hp1
          have s6 := s5.put' (o := .tup (V.int (y.getLastD 0) :: (IV y.dropLast ++ []))) hp2
          have hx6 := hx.same s6
          refine ⟨_, rfl, 1, rfl, _, rfl, pa, _, rfl, SqT.of hx6, fun z => absurd z (nwx x xne), fun _ p3 hp3 => ?_⟩
          have s7 := s6.put' (o := .tup (cutV (IV x) none (some (-1)))) hp3
          have lx : x.dropLast.length = n := by rw [List.length_dropLast]; omega
          refine ⟨p3, p2, x.dropLast, y.getLastD 0 :: y.dropLast, rfl, ?_, ?_, by simp, s4.trans s7, by omega, by omega, by rw [List.length_cons]; omega, ?_⟩
          · unfold TpI
            rw [upd_same, cut_init, IV_init]
          · refine (Same.put hp3) _ _ ?_
            rw [upd_same, List.append_nil]
            rfl
          · rw [lx, ← e]
            show _ = if x.getLastD 0 = y.getLastD 0 then normGo n x.dropLast (y.getLastD 0 :: y.dropLast) else (x, y)
            rw [if_pos h1]
      · have h1 : ¬ x.getLastD 0 = y.getLastD 0 := fun z => h1 (decide_eq_true (by rw [z]))
        have e2 : (x, y) = normW u t := by
          rw [← e]
          show _ = if x.getLastD 0 = y.getLastD 0 then normGo n x.dropLast (y.getLastD 0 :: y.dropLast) else (x, y)
          rw [if_neg h1]
        refine ⟨_, rfl, _, rfl, by show 2 ≤ sizeLine; decide, fun p hp => k _ p pa pt (s4.trans (Same.put hp)) upd_same ?_ ?_⟩
        · rw [← e2]; exact hx.same (Same.put hp)
        · rw [← e2]; exact hy.same (Same.put hp)
    · have xnil : x = [] := by
        cases x with
        | nil => rfl
        | cons z r => exact absurd (decide_eq_true (by rw [IV_len, List.length_cons]; show (0 : Int) < _; omega)) h0
      subst xnil
      have e2 : ([], y) = normW u t := e
      refine iteF ⟨_, rfl, _, rfl, by show 2 ≤ sizeLine; decide, fun p hp => k _ p pa pt (s4.trans (Same.put hp)) upd_same ?_ ?_⟩
      · rw [← e2]; exact hx.same (Same.put hp)
      · rw [← e2]; exact hy.same (Same.put hp)
end
end K70
-- K70Zip
/-! zip of two and of three, each a list or a tuple; enumerate over a tuple: rows told ahead -/
namespace K70
open L2 PySem PySem.Spec PyProof.Rows
/-- walked: n rows, each a new tuple, while G stands -/
def ItN (G : Hp → Prop) (n : Nat) (row : Nat → List V) : It :=
  ⟨fun i H => G H ∧ i < n, fun i H v H' => ∃ T, v = .ref T ∧ H T = none ∧ H' = upd H T (.tup (row i)), fun i H => G H ∧ i = n⟩
section
variable {P : Program} {w : World} {K : PySem.W.Frag} {tg : Expr} {I0 : Addr} {fp : List Addr} {tn : Nat → Heap → Prop} {G : Hp → Prop} {n : Nat} {row : Nat → List V}
theorem turn_of (mem : I0 ∈ fp) (hrow : ∀ i, (row i).length ≤ sizeLine) (obj : ∀ i h, tn i h → ∀ b ∈ fp, ∃ o, h.get? b = some o ∧ ∀ v, o.data ≠ .cell v)
    (keep : ∀ i h h', tn i h → (∀ b ∈ fp, ∀ o, h.get? b = some o → h'.get? b = some o) → tn i h')
    (hG : ∀ (X : Cx), X.prog = P → X.w = w → X.K = K → X.calm = true → ∀ pins s σ H, Inv X pins σ H s → G H → ∃ (fp' wr : List Addr) (Y : Nat → Heap → Value → Heap → Prop) (St : Nat → Heap → Prop),
      GoesN P w X.A tg I0 fp' wr n Y St ∧ (∀ i, tn i s.heap → St i s.heap) ∧ (∀ i h', St i h' → tn i h') ∧ (∀ b ∈ wr, b ∈ fp) ∧
      ∀ i v h', i < n → Y i s.heap v h' → ∃ T its, v = .ref T ∧ s.heap.objs.size ≤ T ∧ Vals (row i) its ∧ h'.IsTuple T its.toArray)
    (self : ∀ (A : Around) (i : Nat) (s : Shared) (Q : Value → Shared → Prop) (Ek : Value → Shared → Prop), tn i s.heap → Q (.ref I0) s → wpAny (model P w) A (pyIter (.ref I0)) Q Ek s) :
    Turn P w K tg (ItN G n row) fp I0 tn where
  mem := mem
  obj := obj
  keep := keep
  item := by
    intro X hP hw hK hc i pins s σ H Ek I hf st hg
    obtain ⟨g, hi⟩ := hg
    obtain ⟨fp', wr, Y, St, W, t1, t2, t3, t4⟩ := hG X hP hw hK hc pins s σ H I g
    subst hP hw hK
    refine W.goes i s _ Ek hi (t1 i st) fun v h' tk hY hS hk _ => ?_
    obtain ⟨T, its, rfl, hT, rv, hTu⟩ := t4 i v h' hi hY
    have new : ObjOk X.prog X.w (upd H T (.tup (row i))) h' T (.tup (row i)) := ⟨hrow i, its, rv, hTu⟩
    have I1 : Inv X pins σ (upd H T (.tup (row i))) { s with heap := h', toks := tk } := I.turnedNew (t' := tk) (ch := wr) hk (fun b hb => hf b (t3 b hb)) hT new
    refine ⟨.ref T, _, I1, rfl, ⟨T, rfl, I.hok.fresh hT, rfl⟩, t2 _ _ hS, fun c hcm => ?_⟩
    obtain ⟨o, ho, _⟩ := obj i _ st c hcm
    rw [upd_ne (Nat.ne_of_lt (Nat.lt_of_lt_of_le (Heap.lt_size ho) hT))]
    exact (hf c hcm).1
  done := by
    intro X hP hw hK hc i pins s σ H Ek I hf st hg
    obtain ⟨g, rfl⟩ := hg
    obtain ⟨fp', wr, Y, St, W, t1, t2, t3, t4⟩ := hG X hP hw hK hc pins s σ H I g
    subst hP hw hK
    exact W.stops s _ Ek (t1 _ st) fun h' tk hk _ => I.turnedL (t' := tk) (ch := wr) hk (fun b hb => hf b (t3 b hb))
  self := self
end
/-- a list (true) or a tuple (false) -/
def SqK (K : PySem.W.Frag) (k : Bool) (H : Hp) (a : Addr) (xs : List V) : Prop := cond k (SqL K H a xs) (SqT K H a xs)
def ItK (k : Bool) (h : Heap) (it a : Addr) (i : Nat) : Prop := cond k (h.IsListIter it a i) (h.IsTupleIter it a i)
def StK (k : Bool) (h : Heap) (a : Addr) (its : Array Value) : Prop := cond k (h.IsList a its) (h.IsTuple a its)
def objK (k : Bool) (a : Addr) : Obj := cond k { cls := .type "list_iterator", data := .fields #[.ref a, .int 0 0] } { cls := .type "tuple_iterator", data := .fields #[.ref a, .int 0 0] }
theorem SqK.l {K : PySem.W.Frag} {H : Hp} {a : Addr} {xs : List V} (h : H a = some (.lst xs)) : SqK K true H a xs := SqL.of h
theorem SqK.t {K : PySem.W.Frag} {H : Hp} {a : Addr} {xs : List V} (h : H a = some (.tup xs)) : SqK K false H a xs := SqT.of h
theorem SqK.same {K : PySem.W.Frag} {k : Bool} {H H' : Hp} {a : Addr} {xs : List V} (h : SqK K k H a xs) (s : Same H H') : SqK K k H' a xs := by
  cases k with
  | true => exact s.seq h
  | false => exact Same.seqT s h
theorem ItK.at' {k : Bool} {h h' : Heap} {it a : Addr} {i : Nat} (x : ItK k h it a i) (q : ∀ o, h.get? it = some o → h'.get? it = some o) : ItK k h' it a i := by
  cases k with
  | true => exact Heap.IsListIter.at x q
  | false => exact Heap.IsTupleIter.at x q
theorem ItK.ob {k : Bool} {h : Heap} {it a : Addr} {i : Nat} (x : ItK k h it a i) : ∃ o, h.get? it = some o ∧ ∀ v, o.data ≠ .cell v := by
  cases k with
  | true =>
    obtain ⟨o, e, _, d⟩ : h.IsListIter it a i := x
    exact ⟨o, e, fun v q => by rw [d] at q; cases q⟩
  | false =>
    obtain ⟨o, e, _, d⟩ : h.IsTupleIter it a i := x
    exact ⟨o, e, fun v q => by rw [d] at q; cases q⟩
theorem itK_new {k : Bool} {h : Heap} {it a : Addr} (e : h.get? it = some (objK k a)) : ItK k h it a 0 := by
  cases k with
  | true => exact ⟨_, e, rfl, rfl⟩
  | false => exact ⟨_, e, rfl, rfl⟩
theorem StK.lt {k : Bool} {h : Heap} {a : Addr} {its : Array Value} (x : StK k h a its) : a < h.objs.size := by
  cases k with
  | true => obtain ⟨o, e, _⟩ : h.IsList a its := x; exact Heap.lt_size e
  | false => obtain ⟨o, e, _⟩ : h.IsTuple a its := x; exact Heap.lt_size e
theorem draws {P : Program} {w : World} {A : Around} (k : Bool) (hh : A.handled = none) (it a : Addr) (hne : a ≠ it) (items : Array Value) :
    Draws P w A it [it, a] items.size (fun i v => items[i]? = some v) (fun i h => ItK k h it a i ∧ StK k h a items) := by
  cases k with
  | true => exact Draws.list hh it a hne items
  | false => exact Draws.tuple hh it a hne items
theorem begins (k : Bool) (a : Addr) (items : Array Value) : Begins (.ref a) (objK k a) fun h => StK k h a items := by
  cases k with
  | true => exact begins_list a items
  | false => exact begins_tuple a items
theorem seqI {X : Cx} {pins : List (Addr × Obj)} {σ : L2.St} {H : Hp} {s : Shared} {k : Bool} {a : Addr} {xs : List V} (I : Inv X pins σ H s) (h : SqK X.K k H a xs) : ∃ its : List Value, Vals xs its ∧ StK k s.heap a its.toArray := by
  cases k with
  | true => obtain ⟨its, r, p, _⟩ := I.list h; exact ⟨its, r, p.isList⟩
  | false => obtain ⟨its, r, p, _⟩ := I.tuple h; exact ⟨its, r, show s.heap.IsTuple a its.toArray from p⟩
theorem val_at {xs : List V} {its : List Value} (r : Vals xs its) {i : Nat} {u : Value} (hu : its.toArray[i]? = some u) : RelV (xs.getD i .non) u := by
  have hu : its[i]? = some u := by simpa using hu
  have l := r.length
  have hi : i < its.length := (List.getElem?_eq_some_iff.mp hu).1
  have hx : xs[i]? = some (xs[i]'(by omega)) := List.getElem?_eq_getElem (by omega)
  obtain ⟨u', h1, h2⟩ := r.get hx
  rw [hu] at h1
  cases h1
  rw [List.getD_eq_getElem?_getD, hx]
  exact h2
def rows2 (xs ys : List V) (i : Nat) : List V := [xs.getD i .non, ys.getD i .non]
def rows3 (xs ys zs : List V) (i : Nat) : List V := [xs.getD i .non, ys.getD i .non, zs.getD i .non]
theorem turn_zip2 {P : Program} {w : World} {K : PySem.W.Frag} {elts : List Expr} {kk : Nat} {tpos : Pos} (k1 k2 : Bool) {a b z TI TO i1 i2 : Addr} {xs ys : List V} {n : Nat} (l1 : xs.length = n) (l2 : ys.length = n) (D : ZipSep2 z TI TO i1 i2 [i1, a] [i2, b]) (na : a ≠ i1) (nb : b ≠ i2) :
    Turn P w K (.Tuple elts kk tpos) (ItN (fun H => SqK K k1 H a xs ∧ SqK K k2 H b ys) n (rows2 xs ys)) [z, TI, TO, i1, i2] z
      (fun i h => IsZip h z TI TO .none ∧ IsTupOf2 h TI (.ref i1) (.ref i2) ∧ (∃ x y, IsTupOf2 h TO x y) ∧ ItK k1 h i1 a i ∧ ItK k2 h i2 b i) := by
  refine turn_of (by simp) (fun i => by show 2 ≤ sizeLine; decide) (fun i h st c hc => ?_) (fun i h h' st k => ?_) (fun X hP hw hK hcm pins s σ H I g => ?_) (fun A i s Q E st h => wpAny_pyIter_zip st.1 h)
  · obtain ⟨hz, hTIk, ⟨x, y, hTOk⟩, h1, h2⟩ := st
    have e'k : c = z ∨ c = TI ∨ c = TO ∨ c = i1 ∨ c = i2 := by simpa using hc
    rcases e'k with q | q | q | q | q
    · (rw [q]; exact ⟨_, hz, fun v q => nomatch q⟩)
    · rw [q]; exact ⟨_, hTIk, fun v q => nomatch q⟩
    · rw [q]; exact ⟨_, hTOk, fun v q => nomatch q⟩
    · rw [q]; exact h1.ob
    · rw [q]; exact h2.ob
  · obtain ⟨hz, hTIk, ⟨x, y, hTOk⟩, h1, h2⟩ := st
    exact ⟨k z (by simp) _ hz, k TI (by simp) _ hTIk, ⟨x, y, k TO (by simp) _ hTOk⟩, h1.at' fun o q => k i1 (by simp) o q, h2.at' fun o q => k i2 (by simp) o q⟩
  · subst hP hw hK
    obtain ⟨ga, gb⟩ := g
    obtain ⟨ia, ra, sa⟩ := seqI I ga
    obtain ⟨ib, rb, sb⟩ := seqI I gb
    have hh : X.A.in1.handled = none := I.ok.hd hcm
    have W := GoesN.zip2 (elts := elts) (x1 := kk) (pos := tpos) D (draws (P := X.prog) (w := X.w) (A := X.A.in1) k1 hh i1 a na ia.toArray) (draws (P := X.prog) (w := X.w) (A := X.A.in1) k2 hh i2 b nb ib.toArray)
    have e1 := ra.length
    have e2 := rb.length
    have em : min ia.toArray.size ib.toArray.size = n := by simp only [List.size_toArray]; omega
    rw [em] at W
    refine ⟨_, _, _, _, W, fun i st => ?_, fun i h' st => ?_, fun b hb => ?_, fun i v h' hi hy => ?_⟩
    · obtain ⟨hz, hTIk, hTOk, h1, h2⟩ := st
      exact ⟨hz, hTIk, hTOk, ⟨h1, sa⟩, ⟨h2, sb⟩⟩
    · obtain ⟨hz, hTIk, hTOk, h1, h2⟩ := st
      exact ⟨hz, hTIk, hTOk, h1.1, h2.1⟩
    · simp at hb ⊢
      rcases hb with q | q | q | q <;> simp [q]
    · obtain ⟨T, x, y, rfl, hT, px, py, hTu⟩ := hy
      exact ⟨T, [x, y], rfl, hT, .cons (val_at ra px) (.cons (val_at rb py) .nil), hTu⟩
theorem turn_zip3 {P : Program} {w : World} {K : PySem.W.Frag} {elts : List Expr} {kk : Nat} {tpos : Pos} (k1 k2 k3 : Bool) {a b c z TI TO i1 i2 i3 : Addr} {xs ys zs : List V} {n : Nat} (l1 : xs.length = n) (l2 : ys.length = n) (l3 : zs.length = n) (D : ZipSep3 z TI TO i1 i2 i3 [i1, a] [i2, b] [i3, c])
    (na : a ≠ i1) (nb : b ≠ i2) (nc : c ≠ i3) :
    Turn P w K (.Tuple elts kk tpos) (ItN (fun H => SqK K k1 H a xs ∧ SqK K k2 H b ys ∧ SqK K k3 H c zs) n (rows3 xs ys zs)) [z, TI, TO, i1, i2, i3] z
      (fun i h => IsZip h z TI TO .none ∧ IsTupOf3 h TI (.ref i1) (.ref i2) (.ref i3) ∧ (∃ x y u, IsTupOf3 h TO x y u) ∧ ItK k1 h i1 a i ∧ ItK k2 h i2 b i ∧ ItK k3 h i3 c i) := by
  refine turn_of (by simp) (fun i => by show 3 ≤ sizeLine; decide) (fun i h st c hc => ?_) (fun i h h' st k => ?_) (fun X hP hw hK hcm pins s σ H I g => ?_) (fun A i s Q E st h => wpAny_pyIter_zip st.1 h)
  · obtain ⟨hz, hTIk, ⟨x, y, u, hTOk⟩, h1, h2, h3⟩ := st
    have e' : c = z ∨ c = TI ∨ c = TO ∨ c = i1 ∨ c = i2 ∨ c = i3 := by simpa using hc
    rcases e' with q | q | q | q | q | q
    · (rw [q]; exact ⟨_, hz, fun v q => nomatch q⟩)
    · rw [q]; exact ⟨_, hTIk, fun v q => nomatch q⟩
    · rw [q]; exact ⟨_, hTOk, fun v q => nomatch q⟩
    · rw [q]; exact h1.ob
    · rw [q]; exact h2.ob
    · rw [q]; exact h3.ob
  · obtain ⟨hz, hTIk, ⟨x, y, u, hTOk⟩, h1, h2, h3⟩ := st
    exact ⟨k z (by simp) _ hz, k TI (by simp) _ hTIk, ⟨x, y, u, k TO (by simp) _ hTOk⟩, h1.at' fun o q => k i1 (by simp) o q, h2.at' fun o q => k i2 (by simp) o q, h3.at' fun o q => k i3 (by simp) o q⟩
  · subst hP hw hK
    obtain ⟨ga, gb, gc⟩ := g
    obtain ⟨ia, ra, sa⟩ := seqI I ga
    obtain ⟨ib, rb, sb⟩ := seqI I gb
    obtain ⟨ic, rc, sc⟩ := seqI I gc
    have hh : X.A.in1.handled = none := I.ok.hd hcm
    have W := GoesN.zip3 (elts := elts) (x1 := kk) (pos := tpos) D (draws (P := X.prog) (w := X.w) (A := X.A.in1) k1 hh i1 a na ia.toArray) (draws (P := X.prog) (w := X.w) (A := X.A.in1) k2 hh i2 b nb ib.toArray) (draws (P := X.prog) (w := X.w) (A := X.A.in1) k3 hh i3 c nc ic.toArray)
    have e1 := ra.length
    have e2 := rb.length
    have e3 := rc.length
    have em : min (min ia.toArray.size ib.toArray.size) ic.toArray.size = n := by simp only [List.size_toArray]; omega
    rw [em] at W
    refine ⟨_, _, _, _, W, fun i st => ?_, fun i h' st => ?_, fun b hb => ?_, fun i v h' hi hy => ?_⟩
    · obtain ⟨hz, hTIk, hTOk, h1, h2, h3⟩ := st
      exact ⟨hz, hTIk, hTOk, ⟨h1, sa⟩, ⟨h2, sb⟩, ⟨h3, sc⟩⟩
    · obtain ⟨hz, hTIk, hTOk, h1, h2, h3⟩ := st
      exact ⟨hz, hTIk, hTOk, h1.1, h2.1, h3.1⟩
    · simp at hb ⊢
      rcases hb with q | q | q | q | q <;> simp [q]
    · obtain ⟨T, x, y, u, rfl, hT, px, py, pu, hTu⟩ := hy
      exact ⟨T, [x, y, u], rfl, hT, .cons (val_at ra px) (.cons (val_at rb py) (.cons (val_at rc pu) .nil)), hTu⟩
theorem nin2 {x a b : Nat} (h1 : x ≠ a) (h2 : x ≠ b) : x ∉ [a, b] := by simp [h1, h2]
theorem nne {x y : Nat} (h : x < y ∨ y < x) : x ≠ y := by omega
theorem sep2 (N a b : Nat) (la : a < N) (lb : b < N) : ZipSep2 (N + 4) (N + 2) (N + 3) N (N + 1) [N, a] [N + 1, b] := by
  constructor
  all_goals first | exact nne (by omega) | exact nin2 (by omega) (by omega) | exact List.mem_cons_self
theorem sep3 (N a b c : Nat) (la : a < N) (lb : b < N) (lc : c < N) : ZipSep3 (N + 5) (N + 3) (N + 4) N (N + 1) (N + 2) [N, a] [N + 1, b] [N + 2, c] := by
  constructor
  all_goals first | exact nne (by omega) | exact nin2 (by omega) (by omega) | exact List.mem_cons_self
theorem mem5 {N c : Nat} (h : c ∈ [N + 4, N + 2, N + 3, N, N + 1]) : N ≤ c := by
  simp at h
  omega
theorem mem6 {N c : Nat} (h : c ∈ [N + 5, N + 3, N + 4, N, N + 1, N + 2]) : N ≤ c := by
  simp at h
  omega
def iZip2 (K : PySem.W.Frag) (ta : TA) : TI := fun σ H R => ta σ H fun vs H1 => ∃ a b xs ys k1 k2 n, vs = [.ref a, .ref b] ∧ SqK K k1 H1 a xs ∧ SqK K k2 H1 b ys ∧ xs.length = n ∧ ys.length = n ∧ R (ItN (fun H => SqK K k1 H a xs ∧ SqK K k2 H b ys) n (rows2 xs ys)) H1
theorem pi_zip2 {X : Cx} {e e2 : Expr} {ta : TA} {p pos tpos : Pos} {elts : List Expr} {kk : Nat} (hg : Gl X "zip") (hm : X.mg "zip" = none) (ha : PA X [e, e2] ta)
    (hs : starEach [e, e2] X.env = (false, eval e X.env) :: starEach [e2] X.env := by rfl) (hplk : (backTo pos (starEach [e2] X.env)).any (·.1) = false := by rfl) :
    PI X (.Tuple elts kk tpos) (.Call (.Name "zip" p) [e, e2] [] pos) (iZip2 X.K ta) := by
  refine ⟨fun pins s σk H R I h => ?_⟩
  refine Call_ (ld_blt I hg hm PyProof.Rows.boot_zip (PyProof.Rows.callWith_type1 (thn (ha.run pos pins s σk H _ I h) fun us s1 ⟨vs, H1, I1, r1, q1⟩ => ?_) hs hplk))
  obtain ⟨a, b, xs, ys, k1, k2, n, ex, hqx, hqy, l1, l2, q⟩ := q1
  subst ex
  cases r1 with
  | cons r rr =>
    cases rr with
    | cons r' rr =>
      cases rr
      cases r
      cases r'
      obtain ⟨ia, ra, sa⟩ := seqI I1 hqx
      obtain ⟨ib, rb, sb⟩ := seqI I1 hqy
      have la := sa.lt
      have lb := sb.lt
      refine zip_begins2 (begins k1 a ia.toArray) (begins k2 b ib.toArray) sa sb fun h' hz hTI hTO h1 h2 hsz hk => wpAny_pyIter_zip hz ?_
      have I2 : Inv X pins σk H1 { s1 with heap := h' } := I1.kept (t' := s1.toks) hk
      have D : ZipSep2 (s1.heap.objs.size + 4) (s1.heap.objs.size + 2) (s1.heap.objs.size + 3) s1.heap.objs.size (s1.heap.objs.size + 1) [s1.heap.objs.size, a] [s1.heap.objs.size + 1, b] := sep2 _ _ _ la lb
      refine ⟨s1.heap.objs.size + 4, [s1.heap.objs.size + 4, s1.heap.objs.size + 2, s1.heap.objs.size + 3, s1.heap.objs.size, s1.heap.objs.size + 1], _, _, H1, rfl, I2, turn_zip2 k1 k2 l1 l2 D (Nat.ne_of_lt la) (Nat.ne_of_lt (Nat.lt_succ_of_lt lb)), ⟨hz, hTI, ⟨_, _, hTO⟩, itK_new h1, itK_new h2⟩, fun c hcm => ?_, q⟩
      have hlek : s1.heap.objs.size ≤ c := by
        exact (mem5 hcm)
      exact I1.fpOk hlek (I1.hok.fresh hlek)
def iZip3 (K : PySem.W.Frag) (ta : TA) : TI := fun σ H R => ta σ H fun vs H1 => ∃ a b c xs ys zs k1 k2 k3 n, vs = [.ref a, .ref b, .ref c] ∧ SqK K k1 H1 a xs ∧ SqK K k2 H1 b ys ∧ SqK K k3 H1 c zs ∧ xs.length = n ∧ ys.length = n ∧ zs.length = n ∧
  R (ItN (fun H => SqK K k1 H a xs ∧ SqK K k2 H b ys ∧ SqK K k3 H c zs) n (rows3 xs ys zs)) H1
theorem pi_zip3 {X : Cx} {e e2 e3 : Expr} {ta : TA} {p pos tpos : Pos} {elts : List Expr} {kk : Nat} (hg : Gl X "zip") (hm : X.mg "zip" = none) (ha : PA X [e, e2, e3] ta)
    (hs : starEach [e, e2, e3] X.env = (false, eval e X.env) :: starEach [e2, e3] X.env := by rfl) (hpl : (backTo pos (starEach [e2, e3] X.env)).any (·.1) = false := by rfl) :
    PI X (.Tuple elts kk tpos) (.Call (.Name "zip" p) [e, e2, e3] [] pos) (iZip3 X.K ta) := by
  refine ⟨fun pins s σk H R I h => ?_⟩
  refine Call_ (ld_blt I hg hm PyProof.Rows.boot_zip (PyProof.Rows.callWith_type1 (thn (ha.run pos pins s σk H _ I h) fun us s1 ⟨vs, H1, I1, r1, q1⟩ => ?_) hs hpl))
  obtain ⟨a, b, c, xs, ys, zs, k1, k2, k3, n, ex, hqx, hqy, hqz, l1, l2, l3, q⟩ := q1
  subst ex
  cases r1 with
  | cons r rr =>
    cases rr with
    | cons r' rr =>
      cases rr with
      | cons r'' rr =>
        cases rr
        cases r
        cases r'
        cases r''
        obtain ⟨ia, ra, sa⟩ := seqI I1 hqx
        obtain ⟨ib, rb, sb⟩ := seqI I1 hqy
        obtain ⟨ic, rc, sc⟩ := seqI I1 hqz
        have la := sa.lt
        have lb := sb.lt
        have lc := sc.lt
        refine zip_begins3 (begins k1 a ia.toArray) (begins k2 b ib.toArray) (begins k3 c ic.toArray) sa sb sc fun h' hz hTI hTO h1 h2 h3 hsz hk => wpAny_pyIter_zip hz ?_
        have I2 : Inv X pins σk H1 { s1 with heap := h' } := I1.kept (t' := s1.toks) hk
        have D : ZipSep3 (s1.heap.objs.size + 5) (s1.heap.objs.size + 3) (s1.heap.objs.size + 4) s1.heap.objs.size (s1.heap.objs.size + 1) (s1.heap.objs.size + 2) [s1.heap.objs.size, a] [s1.heap.objs.size + 1, b] [s1.heap.objs.size + 2, c] := sep3 _ _ _ _ la lb lc
        refine ⟨s1.heap.objs.size + 5, [s1.heap.objs.size + 5, s1.heap.objs.size + 3, s1.heap.objs.size + 4, s1.heap.objs.size, s1.heap.objs.size + 1, s1.heap.objs.size + 2], _, _, H1, rfl, I2, turn_zip3 k1 k2 k3 l1 l2 l3 D (Nat.ne_of_lt la) (Nat.ne_of_lt (Nat.lt_succ_of_lt lb)) (Nat.ne_of_lt (Nat.lt_succ_of_lt (Nat.lt_succ_of_lt lc))), ⟨hz, hTI, ⟨_, _, _, hTO⟩, itK_new h1, itK_new h2, itK_new h3⟩, fun c hcm => ?_, q⟩
        have hlek : s1.heap.objs.size ≤ c := by
          exact (mem6 hcm)
        exact I1.fpOk hlek (I1.hok.fresh hlek)
/-- a loop over told rows -/
theorem for_rows {G : Hp → Prop} {n : Nat} {row : Nat → List V} {g : TG} {tb : TS} {D : Ends} {σk : L2.St} {H : Hp} (Pv : Nat → L2.St → Hp → Prop) (h0 : Pv 0 σk H) (hq : ∀ i σk H, Pv i σk H → G H)
    (hs : ∀ (i : Nat) (T : Addr) (σk : L2.St) (H : Hp), i < n → Pv i σk H → H T = none → g (.ref T) σk (upd H T (.tup (row i))) fun σ2 H2 => tb { D with nx := Pv (i + 1), ct := Pv (i + 1), bk := D.nx } σ2 H2) (hd : ∀ σk H, Pv n σk H → D.nx σk H) :
    ∃ W : Nat → Nat → L2.St → Hp → Prop, (∃ m, W 0 m σk H) ∧ ∀ i m σk H, W i m σk H →
      ((ItN G n row).stop i H ∧ D.nx σk H) ∨ ((ItN G n row).go i H ∧ ∃ N : L2.St → Hp → Prop, (∀ σ' H', N σ' H' → ∃ m', m' < m ∧ W (i + 1) m' σ' H') ∧ ∀ v H', (ItN G n row).yld i H v H' → g v σk H' fun σ2 H2 => tb { D with nx := N, ct := N, bk := D.nx } σ2 H2) := by
  refine ⟨fun i m σk H => m = n - i ∧ i ≤ n ∧ Pv i σk H, ⟨n, rfl, Nat.zero_le _, h0⟩, ?_⟩
  rintro i m σk H ⟨rfl, hi, p⟩
  have g0 := hq i σk H p
  by_cases hlt : i < n
  · refine .inr ⟨⟨g0, hlt⟩, Pv (i + 1), fun σ' H' p' => ⟨n - (i + 1), by omega, rfl, hlt, p'⟩, fun v H' y => ?_⟩
    obtain ⟨T, rfl, hT, rfl⟩ := y
    exact hs i T σk H hlt p hT
  · have e : i = n := by omega
    subst e
    exact .inl ⟨⟨g0, rfl⟩, hd σk H p⟩
end K70
-- K70F5
namespace K70
open L2 PySem PySem.Spec PyProof.Rows StX
/-! ### mirrors: parts, joined, sum -/
def partsI : List Int → Int → List Int
  | [], _ => []
  | q :: m, b => b % q :: partsI m (b / q)
def joinI : List Int → List Int → Int
  | q :: m, p :: ps => p + q * joinI m ps
  | _, _ => 0
def sumI : List Int → Int → Int → Int
  | [], _, _ => 0
  | q :: m, a, b => (a % q + b % q) % q + q * sumI m (a / q) (b / q)
def sumL : List Int → List Int → List Int → List Int
  | q :: m, a :: as, b :: bs => (a + b) % q :: sumL m as bs
  | _, _, _ => []
theorem partsI_len : ∀ (m : List Int) (b : Int), (partsI m b).length = m.length
  | [], _ => rfl
  | q :: m, b => by
    show (partsI m (b / q)).length + 1 = m.length + 1
    rw [partsI_len m]
theorem sumL_parts : ∀ (m : List Int) (a b : Int), joinI m (sumL m (partsI m a) (partsI m b)) = sumI m a b
  | [], _, _ => rfl
  | q :: m, a, b => by
    show (a % q + b % q) % q + q * joinI m (sumL m (partsI m (a / q)) (partsI m (b / q))) = (a % q + b % q) % q + q * sumI m (a / q) (b / q)
    rw [sumL_parts m]
theorem sumL_len : ∀ (m : List Int) (a b : Int), (sumL m (partsI m a) (partsI m b)).length = m.length
  | [], _, _ => rfl
  | q :: m, a, b => by
    show (sumL m (partsI m (a / q)) (partsI m (b / q))).length + 1 = m.length + 1
    rw [sumL_len m]
theorem sumL_small : ∀ (m : List Int), (∀ q ∈ m, 2 ≤ q ∧ q ≤ 32) → ∀ a b, ∀ x ∈ sumL m (partsI m a) (partsI m b), 0 ≤ x ∧ x < 32
  | [], _, _, _ => fun x h => nomatch h
  | q :: m, hm, a, b => fun x h => by
    have hq := hm q List.mem_cons_self
    (rcases List.mem_cons.mp h with e | e)
    · rw [e]
      exact ⟨Int.emod_nonneg _ (by omega), Int.lt_of_lt_of_le (Int.emod_lt_of_pos _ (by omega)) hq.2⟩
    · exact sumL_small m (fun q hq => hm q (List.mem_cons_of_mem _ hq)) _ _ x e
theorem drop_at {α : Type} {l : List α} {i : Nat} (h : i < l.length) : l.drop i = l[i] :: l.drop (i + 1) := List.drop_eq_getElem_cons h
section
variable {K : PySem.W.Frag} {mg : Str → Option Value} {base : Heap} {P : Program} {w : World}
/-! ### common_multiple -/
def sp_common_multiple : Sp := fun vs H Q _ => ∃ n m : Nat, vs = [.int (n : Int), .int (m : Int)] ∧ 1 ≤ n ∧ 1 ≤ m ∧ Q (.int (Nat.lcm n m : Nat)) H
theorem sc_common_multiple : FnScope ["one", "other", "found"] ["one", "other"] (defScope scommon_multiple) := ⟨rfl, rfl, rfl, by decide +kernel, rfl, by decide +kernel, by decide +kernel⟩
theorem lcm_step {n m x : Nat} (h1 : n ∣ x) (h2 : x ≤ Nat.lcm n m) (h3 : ¬ x % m = 0) : n ∣ x + n ∧ x + n ≤ Nat.lcm n m := by
  refine ⟨(Nat.dvd_add_right h1).mpr (Nat.dvd_refl n), ?_⟩
  obtain ⟨k, hk⟩ := h1
  obtain ⟨j, hj⟩ := Nat.dvd_lcm_left n m
  have ne : x ≠ Nat.lcm n m := fun z => h3 (Nat.mod_eq_zero_of_dvd (by rw [z]; exact Nat.dvd_lcm_right n m))
  have hlt : n * k < n * j := by omega
  have : k < j := Nat.lt_of_mul_lt_mul_left hlt
  have : n * (k + 1) ≤ n * j := Nat.mul_le_mul_left n (by omega)
  (rw [Nat.mul_add, Nat.mul_one] at this)
  omega
theorem ok_common_multiple (T : Tx K mg) : Fnc P w K mg base 1 "common_multiple" (He.ga K "common_multiple") ["one", "other"] sp_common_multiple := by
  refine fnc_of T.fcommon_multiple T.g_common_multiple sc_common_multiple (fun _ _ _ _ _ _ us hl => match us, hl with | [_, _], _ => rfl) (fun vs H Q E h => ?_) (fun cdv A outer s H vs Q E hr h => ?_)
  · obtain ⟨n, m, rfl, _⟩ := h
    rfl
  · obtain ⟨n, m, rfl, hn, hm, k⟩ := h
    refine ⟨_, (pss_cons (ps_set (i := 2) sc_common_multiple.nd rfl (Or.inl rfl) (pv 0))
      (pss_cons (ps_while PassesOwn.never (pt_cmpR op_gt (pe_op op_mod (pe_callTy call_int1 (by rfl) T.b_int (by decide +kernel) (pa_cons (pv 2) pa_nil)) (pe_callTy call_int1 (by rfl) T.b_int (by decide +kernel) (pa_cons (pv 1) pa_nil))) pe_int (nomark _)) (pss_one (ps_set (i := 2) sc_common_multiple.nd rfl (Or.inl rfl) (pe_op op_add (pv 2) (pv 0)))))
      (pss_one (ps_ret (pv 2))))), ?_⟩
    refine ⟨_, rfl, ?_⟩
    have lp : 0 < Nat.lcm n m := Nat.lcm_pos hn hm
    refine ⟨fun i σ H' => H' = H ∧ ∃ x : Nat, σ = [some (.int (n : Int)), some (.int (m : Int)), some (.int (x : Int))] ∧ n ∣ x ∧ 0 < x ∧ x ≤ Nat.lcm n m ∧ i = Nat.lcm n m - x,
      ⟨_, rfl, n, rfl, Nat.dvd_refl n, hn, Nat.le_of_dvd lp (Nat.dvd_lcm_left n m), rfl⟩, ?_⟩
    rintro i σ H' ⟨rfl, x, rfl, hx, h0, hle, rfl⟩
    refine ⟨_, rfl, .inl ⟨_, rfl, _, rfl, .inl ⟨_, rfl, _, _, rfl, rfl, by show (0 : Int) < (m : Int); omega, _, _, rfl, rfl, _, rfl, ?_⟩⟩⟩
    refine ite2 (fun hd => ?_) (fun hd => ?_)
    · have hd : (0 : Int) < (x : Int) % (m : Int) := of_decide_eq_true hd
      have hnz : ¬ x % m = 0 := by omega
      obtain ⟨q1, q2⟩ := lcm_step hx hle hnz
      refine ⟨fun σ' H'' => H'' = H' ∧ ∃ y : Nat, σ' = [some (.int (n : Int)), some (.int (m : Int)), some (.int (y : Int))] ∧ n ∣ y ∧ 0 < y ∧ y ≤ Nat.lcm n m ∧ Nat.lcm n m - y < Nat.lcm n m - x,
        fun σ' H'' ⟨e, y, r1, r2, r3, r4, r5⟩ => ⟨_, r5, e, y, r1, r2, r3, r4, rfl⟩, ?_⟩
      refine ⟨_, rfl, _, rfl, _, _, rfl, rfl, rfl, x + n, rfl, q1, by omega, q2, by omega⟩
    · have hd : ¬ (0 : Int) < (x : Int) % (m : Int) := fun z => hd (decide_eq_true z)
      have hz : x % m = 0 := by omega
      have e : x = Nat.lcm n m := Nat.le_antisymm hle (Nat.le_of_dvd h0 (Nat.lcm_dvd hx (Nat.dvd_of_mod_eq_zero hz)))
      refine ⟨_, rfl, ?_⟩
      rw [e]
      exact k
/-! ### need_number, raised -/
def sp_need_number : Sp := fun vs H Q _ => ∃ i : Int, vs = [.int i] ∧ 0 ≤ i ∧ Q .non H
theorem sc_need_number : FnScope ["value"] ["value"] (defScope sneed_number) := ⟨rfl, rfl, rfl, by decide +kernel, rfl, by decide +kernel, by decide +kernel⟩
theorem ok_need_number (T : Tx K mg) : Fnc P w K mg base 3 "need_number" (He.ga K "need_number") ["value"] sp_need_number := by
  have c_is_number := ok_is_number (P := P) (w := w) (base := base) T
  refine fnc_of T.fneed_number T.g_need_number sc_need_number (fun _ _ _ _ _ _ us hl => match us, hl with | [_], _ => rfl) (fun vs H Q E h => ?_) (fun cdv A outer s H vs Q E hr h => ?_)
  · obtain ⟨i, rfl, _⟩ := h
    rfl
  · obtain ⟨i, rfl, h0, k⟩ := h
    refine ⟨_, (pss_one (ps_if (pt_not (pt_val (pe_f c_is_number (hr.mono (by decide)) (pa_cons (pv 0) pa_nil)))) (pss_one ps_never) pss_nil)), ?_⟩
    refine ⟨_, rfl, i, rfl, _, rfl, niT h0 k⟩
def sp_raised : Sp := fun vs H Q _ => ∃ n : Nat, vs = [.int (n : Int)] ∧ n < 100000 ∧ Q (.int ((2 ^ n : Nat) : Int)) H
theorem sc_raised : FnScope ["place", "found", "turn"] ["place"] (defScope sraised) := ⟨rfl, rfl, rfl, by decide +kernel, rfl, by decide +kernel, by decide +kernel⟩
theorem ok_raised (T : Tx K mg) : Fnc P w K mg base 1 "raised" (He.ga K "raised") ["place"] sp_raised := by
  refine fnc_of T.fraised T.g_raised sc_raised (fun _ _ _ _ _ _ us hl => match us, hl with | [_], _ => rfl) (fun vs H Q E h => ?_) (fun cdv A outer s H vs Q E hr h => ?_)
  · obtain ⟨i, rfl, _⟩ := h
    rfl
  · obtain ⟨n, rfl, h0, k⟩ := h
    refine ⟨_, (pss_cons (ps_set (i := 1) sc_raised.nd rfl (Or.inl rfl) pe_int)
      (pss_cons (ps_for PassesOwn.never rfl (pi_range1 (by rfl) T.b_range (pa_cons (pv 0) pa_nil)) (pg_name (i := 2) sc_raised.nd rfl (Or.inl rfl))
        (pss_one (ps_set (i := 1) sc_raised.nd rfl (Or.inl rfl) (pe_op op_mul (pv 1) pe_int))))
      (pss_one (ps_ret (pv 1))))), ?_⟩
    refine ⟨_, rfl, n, rfl, by omega, by omega, ?_⟩
    refine for_range (lo := 0) (n := n) (fun i σ H' => H' = H ∧ ∃ v, σ = [some (.int (n : Int)), some (.int ((2 ^ i : Nat) : Int)), v]) ⟨rfl, none, rfl⟩ ?_ ?_
    · rintro i σ H' hi ⟨rfl, v, rfl⟩
      refine ⟨_, rfl, _, _, rfl, rfl, .inr ⟨by decide, by decide⟩, rfl, some (.int (0 + (i : Int))), ?_⟩
      rw [Nat.pow_succ, Int.natCast_mul]
      rfl
    · rintro σ H' ⟨rfl, v, rfl⟩
      exact ⟨_, rfl, k⟩
/-! ### parts_of, joined, sum_of -/
def sp_parts_of : Sp := fun vs H Q _ => ∃ (a : Addr) (m : List Int) (b : Int), vs = [.ref a, .int b] ∧ TpI H a m ∧ m.length ≤ 5 ∧ (∀ q ∈ m, 2 ≤ q ∧ q ≤ 32) ∧ ∀ H' p, Same H H' → H p = none → H' p = some (.lst (IV (partsI m b))) → Q (.ref p) H'
theorem sc_parts_of : FnScope ["moduli", "bank", "found", "modulus"] ["moduli", "bank"] (defScope sparts_of) := ⟨rfl, rfl, rfl, by decide +kernel, rfl, by decide +kernel, by decide +kernel⟩
theorem ok_parts_of (T : Tx K mg) : Fnc P w K mg base 1 "parts_of" (He.ga K "parts_of") ["moduli", "bank"] sp_parts_of := by
  refine fnc_of T.fparts_of T.g_parts_of sc_parts_of (fun _ _ _ _ _ _ us hl => match us, hl with | [_, _], _ => rfl) (fun vs H Q E h => ?_) (fun cdv A outer s H vs Q E hr h => ?_)
  · obtain ⟨a, m, b, rfl, _⟩ := h
    rfl
  · obtain ⟨a, m, b, rfl, hT, hl, hm, k⟩ := h
    refine ⟨_, (pss_cons (ps_set (i := 2) sc_parts_of.nd rfl (Or.inl rfl) (pe_lst pa_nil))
      (pss_cons (ps_for PassesOwn.never rfl (pi_tup (pv 0)) (pg_name (i := 3) sc_parts_of.nd rfl (Or.inl rfl))
        (pss_cons (ps_expr (pe_bm PySem.F.plainAttrs_list PySem.F.slot_list_append PySem.F.type_list_append mt_append (pv 2) (pa_cons (pe_op op_mod (pe_callTy call_int1 (by rfl) T.b_int (by decide +kernel) (pa_cons (pv 1) pa_nil)) (pe_callTy call_int1 (by rfl) T.b_int (by decide +kernel) (pa_cons (pv 3) pa_nil))) pa_nil)))
      (pss_one (ps_set (i := 1) sc_parts_of.nd rfl (Or.inl rfl) (pe_op op_fdiv (pv 1) (pv 3))))))
      (pss_one (ps_ret (pv 2))))), ?_⟩
    refine ⟨Nat.zero_le _, fun p hp => ?_⟩
    refine ⟨_, rfl, a, rfl, ⟨_, SqT.of ((Same.put hp) _ _ hT)⟩, for_tup (K := K) (a := a) (xs := IV m) (fun i σ H' => ∃ (c : Int) (acc : List Int) (v : Option V), σ = [some (.ref a), some (.int c), some (.ref p), v] ∧ Same H H' ∧ H' p = some (.lst (IV acc)) ∧ acc.length = i ∧ acc ++ partsI (m.drop i) c = partsI m b)
      ⟨b, [], none, rfl, Same.put hp, upd_same, rfl, rfl⟩ (fun i σ H' _ q => by obtain ⟨_, _, _, _, s, _⟩ := q; exact SqT.of (s _ _ hT)) ?_ ?_⟩
    · rintro i x σ H' hx ⟨c, acc, v, rfl, s, hL, la, e⟩
      obtain ⟨z, hz, rfl⟩ := IV_get hx
      obtain ⟨hi, ez⟩ := List.getElem?_eq_some_iff.mp hz
      have hq := hm z (List.mem_of_getElem? hz)
      refine ⟨_, rfl, .inl ⟨rfl, _, SqL.of hL⟩, _, rfl, .inl ⟨_, rfl, _, rfl, .inl ⟨_, rfl, _, _, rfl, rfl, by show (0 : Int) < z; omega, p, _, _, rfl, rfl, hL, by rw [IV_len, sizeLine_eq]; omega, ?_⟩⟩⟩
      refine ⟨_, rfl, _, rfl, _, _, rfl, rfl, ⟨by show (0 : Int) < z; omega, by show z < 1073741824; omega⟩, c / z, acc ++ [c % z], _, rfl, s.set hp, ?_, by rw [List.length_append, la]; rfl, ?_⟩
      · rw [upd_same, IV_app]
        rfl
      · rw [← e, drop_at hi, List.append_assoc]
        show acc ++ (c % z :: partsI (m.drop (i + 1)) (c / z)) = acc ++ (c % m[i] :: partsI (m.drop (i + 1)) (c / m[i]))
        rw [ez]
    · rintro σ H' ⟨c, acc, v, rfl, s, hL, la, e⟩
      refine ⟨_, rfl, k H' p s hp ?_⟩
      rw [IV_len, List.drop_of_length_le (Nat.le_refl _)] at e
      rw [← e, hL]
      show some (HO.lst (IV acc)) = some (HO.lst (IV (acc ++ [])))
      rw [List.append_nil]
def sp_joined : Sp := fun vs H Q _ => ∃ (a b : Addr) (m ps : List Int), vs = [.ref a, .ref b] ∧ TpI H a m ∧ H b = some (.lst (IV ps)) ∧ ps.length = m.length ∧ (∀ q ∈ m, 2 ≤ q ∧ q ≤ 32) ∧ (∀ x ∈ ps, 0 ≤ x ∧ x < 32) ∧ ∀ H', Same H H' → Q (.int (joinI m ps)) H'
theorem sc_joined : FnScope ["moduli", "parts", "found", "many", "modulus", "part"] ["moduli", "parts"] (defScope sjoined) := ⟨rfl, rfl, rfl, by decide +kernel, rfl, by decide +kernel, by decide +kernel⟩
theorem ok_joined (T : Tx K mg) : Fnc P w K mg base 1 "joined" (He.ga K "joined") ["moduli", "parts"] sp_joined := by
  refine fnc_of T.fjoined T.g_joined sc_joined (fun _ _ _ _ _ _ us hl => match us, hl with | [_, _], _ => rfl) (fun vs H Q E h => ?_) (fun cdv A outer s H vs Q E hr h => ?_)
  · obtain ⟨a, b, m, ps, rfl, _⟩ := h
    rfl
  · obtain ⟨a, b, m, ps, rfl, hT, hP, hl, hm, hp, k⟩ := h
    refine ⟨_, (pss_cons (ps_asg (pe_tup (pa_cons pe_int (pa_cons pe_int pa_nil))) (pg_tup rfl (pgs_cons (pg_name (i := 2) sc_joined.nd rfl (Or.inl rfl)) (pgs_cons (pg_name (i := 3) sc_joined.nd rfl (Or.inl rfl)) pgs_nil))))
      (pss_cons (ps_for PassesOwn.never rfl (pi_zip2 (by rfl) T.b_zip (pa_cons (pv 0) (pa_cons (pv 1) pa_nil))) (pg_tup rfl (pgs_cons (pg_name (i := 4) sc_joined.nd rfl (Or.inl rfl)) (pgs_cons (pg_name (i := 5) sc_joined.nd rfl (Or.inl rfl)) pgs_nil)))
        (pss_cons (ps_set (i := 2) sc_joined.nd rfl (Or.inl rfl) (pe_op op_add (pv 2) (pe_op op_mul (pv 3) (pv 5))))
      (pss_one (ps_set (i := 3) sc_joined.nd rfl (Or.inl rfl) (pe_op op_mul (pv 3) (pv 4))))))
      (pss_one (ps_ret (pv 2))))), ?_⟩
    refine ⟨by show 2 ≤ sizeLine; decide, fun t0 ht0 => ⟨t0, _, rfl, SqT.of upd_same, rfl, _, _, rfl, _, _, rfl, rfl, ?_⟩⟩
    have s0 : Same H (upd H t0 (.tup [.int 0, .int 1])) := Same.put ht0
    refine ⟨_, rfl, _, rfl, a, b, IV m, IV ps, false, true, m.length, rfl, SqK.t (s0 _ _ hT), SqK.l (s0 _ _ hP), IV_len m, by rw [IV_len, hl], ?_⟩
    refine for_rows (fun i σ H' => Same H H' ∧ ∃ (f c : Int) (v w : Option V), σ = [some (.ref a), some (.ref b), some (.int f), some (.int c), v, w] ∧ f + c * joinI (m.drop i) (ps.drop i) = joinI m ps)
      ⟨s0, 0, 1, none, none, rfl, by rw [List.drop_zero, List.drop_zero]; omega⟩ (fun i σ H' q => ⟨SqK.t (q.1 _ _ hT), SqK.l (q.1 _ _ hP)⟩) ?_ ?_
    · rintro i t σ H' hi ⟨s, f, c, v, w, rfl, e⟩ ht
      have hi2 : i < ps.length := by omega
      have e1 : (IV m).getD i .non = V.int m[i] := by rw [List.getD_eq_getElem?_getD, IV_at (List.getElem?_eq_getElem hi)]; rfl
      have e2 : (IV ps).getD i .non = V.int ps[i] := by rw [List.getD_eq_getElem?_getD, IV_at (List.getElem?_eq_getElem hi2)]; rfl
      have hq := hm m[i] (List.getElem_mem hi)
      have hx := hp ps[i] (List.getElem_mem hi2)
      unfold rows2
      rw [e1, e2]
      refine ⟨t, _, rfl, SqT.of upd_same, rfl, _, _, rfl, _, _, rfl, rfl, ?_⟩
      refine ⟨_, rfl, _, rfl, _, rfl, _, _, rfl, rfl, .inr ⟨by omega, by omega⟩, _, _, rfl, rfl, ?_⟩
      refine ⟨_, rfl, _, rfl, _, _, rfl, rfl, .inr ⟨by omega, by omega⟩, s.put' ht, _, _, _, _, rfl, ?_⟩
      rw [← e, drop_at hi, drop_at hi2]
      show f + c * ps[i] + c * m[i] * joinI (m.drop (i + 1)) (ps.drop (i + 1)) = f + c * (ps[i] + m[i] * joinI (m.drop (i + 1)) (ps.drop (i + 1)))
      rw [Int.mul_add, Int.mul_assoc]
      omega
    · rintro σ H' ⟨s, f, c, v, w, rfl, e⟩
      refine ⟨_, rfl, ?_⟩
      rw [List.drop_of_length_le (Nat.le_refl _)] at e
      have e0 : joinI [] (ps.drop m.length) = 0 := rfl
      rw [e0, Int.mul_zero, Int.add_zero] at e
      rw [e]
      exact k H' s
def sp_sum_of : Sp := fun vs H Q _ => ∃ (a : Addr) (m : List Int) (x y : Int), vs = [.ref a, .int x, .int y] ∧ TpI H a m ∧ m.length ≤ 5 ∧ (∀ q ∈ m, 2 ≤ q ∧ q ≤ 32) ∧ ∀ H', Same H H' → Q (.int (sumI m x y)) H'
theorem sumL_drop : ∀ (m : List Int) (a b : Int) (i : Nat) (h : i < m.length), (sumL m (partsI m a) (partsI m b))[i]? = some (((partsI m a).getD i 0 + (partsI m b).getD i 0) % m[i])
  | q :: m, a, b, 0, _ => rfl
  | q :: m, a, b, i + 1, h => by
    have := sumL_drop m (a / q) (b / q) i (Nat.lt_of_succ_lt_succ h)
    exact this
theorem sc_sum_of : FnScope ["moduli", "one", "other", "found", "modulus", "first", "second"] ["moduli", "one", "other"] (defScope ssum_of) := ⟨rfl, rfl, rfl, by decide +kernel, rfl, by decide +kernel, by decide +kernel⟩
theorem ok_sum_of (T : Tx K mg) : Fnc P w K mg base 2 "sum_of" (He.ga K "sum_of") ["moduli", "one", "other"] sp_sum_of := by
  have c_parts_of := ok_parts_of (P := P) (w := w) (base := base) T
  have c_joined := ok_joined (P := P) (w := w) (base := base) T
  refine fnc_of T.fsum_of T.g_sum_of sc_sum_of (fun _ _ _ _ _ _ us hl => match us, hl with | [_, _, _], _ => rfl) (fun vs H Q E h => ?_) (fun cdv A outer s H vs Q E hr h => ?_)
  · obtain ⟨a, m, x, y, rfl, _⟩ := h
    rfl
  · obtain ⟨a, m, x, y, rfl, hT, hl, hm, k⟩ := h
    refine ⟨_, (pss_cons (ps_set (i := 3) sc_sum_of.nd rfl (Or.inl rfl) (pe_lst pa_nil))
      (pss_cons (ps_for PassesOwn.never rfl (pi_zip3 (by rfl) T.b_zip (pa_cons (pv 0) (pa_cons (pe_f c_parts_of (hr.mono (by decide)) (pa_cons (pv 0) (pa_cons (pv 1) pa_nil))) (pa_cons (pe_f c_parts_of (hr.mono (by decide)) (pa_cons (pv 0) (pa_cons (pv 2) pa_nil))) pa_nil)))) (pg_tup rfl (pgs_cons (pg_name (i := 4) sc_sum_of.nd rfl (Or.inl rfl)) (pgs_cons (pg_name (i := 5) sc_sum_of.nd rfl (Or.inl rfl)) (pgs_cons (pg_name (i := 6) sc_sum_of.nd rfl (Or.inl rfl)) pgs_nil))))
        (pss_one (ps_expr (pe_bm PySem.F.plainAttrs_list PySem.F.slot_list_append PySem.F.type_list_append mt_append (pv 3) (pa_cons (pe_op op_mod (pe_callTy call_int1 (by rfl) T.b_int (by decide +kernel) (pa_cons (pe_op op_add (pv 5) (pv 6)) pa_nil)) (pe_callTy call_int1 (by rfl) T.b_int (by decide +kernel) (pa_cons (pv 4) pa_nil))) pa_nil)))))
      (pss_one (ps_ret (pe_f c_joined (hr.mono (by decide)) (pa_cons (pv 0) (pa_cons (pv 3) pa_nil))))))), ?_⟩
    refine ⟨Nat.zero_le _, fun p hp => ?_⟩
    have s0 : Same H (upd H p (.lst [])) := Same.put hp
    refine ⟨_, rfl, _, rfl, _, rfl, a, m, x, rfl, s0 _ _ hT, hl, hm, fun H1 p1 s1 n1 h1 => ⟨_, rfl, _, rfl, a, m, y, rfl, s1 _ _ (s0 _ _ hT), hl, hm, fun H2 p2 s2 n2 h2 => ?_⟩⟩
    have S2 : Same H H2 := s0.trans (s1.trans s2)
    have hL2 : H2 p = some (.lst []) := s2 _ _ (s1 _ _ upd_same)
    refine ⟨a, p1, p2, IV m, IV (partsI m x), IV (partsI m y), false, true, true, m.length, rfl, SqK.t (S2 _ _ hT), SqK.l (s2 _ _ h1), SqK.l h2, IV_len m, by rw [IV_len, partsI_len], by rw [IV_len, partsI_len], ?_⟩
    refine for_rows (fun i σ H' => Same H H' ∧ TpI H' a m ∧ H' p1 = some (.lst (IV (partsI m x))) ∧ H' p2 = some (.lst (IV (partsI m y))) ∧ H' p = some (.lst (IV ((sumL m (partsI m x) (partsI m y)).take i))) ∧ ∃ (u v w : Option V), σ = [some (.ref a), some (.int x), some (.int y), some (.ref p), u, v, w])
      ⟨S2, S2 _ _ hT, s2 _ _ h1, h2, hL2, none, none, none, rfl⟩ (fun i σ H' q => ⟨SqK.t q.2.1, SqK.l q.2.2.1, SqK.l q.2.2.2.1⟩) ?_ ?_
    · rintro i t σ H' hi ⟨s, q1, q2, q3, q4, u, v, w, rfl⟩ ht
      have i1 : i < (partsI m x).length := by rw [partsI_len]; exact hi
      have i2 : i < (partsI m y).length := by rw [partsI_len]; exact hi
      have i3 : i < (sumL m (partsI m x) (partsI m y)).length := by rw [sumL_len]; exact hi
      have e1 : (IV m).getD i .non = V.int m[i] := by rw [List.getD_eq_getElem?_getD, IV_at (List.getElem?_eq_getElem hi)]; rfl
      have e2 : (IV (partsI m x)).getD i .non = V.int ((partsI m x).getD i 0) := by rw [List.getD_eq_getElem?_getD, IV_at (List.getElem?_eq_getElem i1), List.getD_eq_getElem?_getD, List.getElem?_eq_getElem i1]; rfl
      have e3 : (IV (partsI m y)).getD i .non = V.int ((partsI m y).getD i 0) := by rw [List.getD_eq_getElem?_getD, IV_at (List.getElem?_eq_getElem i2), List.getD_eq_getElem?_getD, List.getElem?_eq_getElem i2]; rfl
      have hq := hm m[i] (List.getElem_mem hi)
      have st : Same H' (upd H' t (.tup (rows3 (IV m) (IV (partsI m x)) (IV (partsI m y)) i))) := Same.put ht
      have npt : p ≠ t := ne_of_none q4 ht
      have l4 : (IV ((sumL m (partsI m x) (partsI m y)).take i)).length < sizeLine := by rw [IV_len, List.length_take, sizeLine_eq]; omega
      have q4' := st _ _ q4
      revert st q4'
      unfold rows3
      rw [e1, e2, e3]
      intro st q4'
      refine ⟨t, _, rfl, SqT.of upd_same, rfl, _, _, rfl, _, _, rfl, _, _, rfl, rfl, ?_⟩
      refine ⟨_, rfl, .inl ⟨rfl, _, SqL.of q4'⟩, _, rfl, _, rfl, _, _, rfl, rfl, .inl ⟨_, rfl, _, rfl, .inl ⟨_, rfl, _, _, rfl, rfl, by show (0 : Int) < m[i]; omega, p, _, _, rfl, rfl, q4', l4, ?_⟩⟩⟩
      have nap : ∀ {b : Addr} {o : HO}, H b = some o → b ≠ p := fun e => ne_of_none e hp
      have np1 : p1 ≠ p := (ne_of_none upd_same n1).symm
      have np2 : p2 ≠ p := (ne_of_none (s1 _ _ upd_same) n2).symm
      have npa : a ≠ p := nap hT
      refine ⟨fun b o e => by rw [upd_ne (nap e)]; exact st _ _ (s _ _ e), ?_, ?_, ?_, ?_, _, _, _, rfl⟩
      · unfold TpI
        rw [upd_ne npa]
        exact st _ _ q1
      · rw [upd_ne np1]
        exact st _ _ q2
      · rw [upd_ne np2]
        exact st _ _ q3
      · rw [upd_same, List.take_succ, IV_app, sumL_drop m x y i hi]
        rfl
    · rintro σ H' ⟨s, q1, q2, q3, q4, u, v, w, rfl⟩
      have e4 : (sumL m (partsI m x) (partsI m y)).take m.length = sumL m (partsI m x) (partsI m y) := List.take_of_length_le (by rw [sumL_len]; exact Nat.le_refl _)
      rw [e4] at q4
      refine ⟨_, rfl, _, rfl, a, p, m, _, rfl, q1, q4, sumL_len m x y, hm, sumL_small m hm x y, fun H3 s3 => ?_⟩
      rw [sumL_parts]
      exact k H3 (s.trans s3)
end
end K70
-- K70F6
namespace K70
open L2 PySem PySem.Spec PyProof.Rows StX
/-! ### rules -/
structure PR where
  m : List Int
  a : List Int
  t : List Int
deriving DecidableEq
def rf (m a t : Addr) : List (Str × V) := [("moduli", .ref m), ("ahead", .ref a), ("turn", .ref t)]
def RuleAt (K : PySem.W.Frag) (H : Hp) (p : Addr) (r : PR) : Prop := ∃ dx m a t, H p = some (.ins (He.ga K "Rule") dx (rf m a t)) ∧ TpI H m r.m ∧ TpI H a r.a ∧ TpI H t r.t
theorem RuleAt.same {K : PySem.W.Frag} {H H' : Hp} {p : Addr} {r : PR} (h : RuleAt K H p r) (s : Same H H') : RuleAt K H' p r := by
  obtain ⟨dx, m, a, t, h1, h2, h3, h4⟩ := h
  exact ⟨dx, m, a, t, s _ _ h1, h2.same s, h3.same s, h4.same s⟩
structure ROk (r : PR) : Prop where
  m : ModOk r.m
  a : BanksIn (prodI r.m) r.a
  t : BanksIn (prodI r.m) r.t
  ne : r.t ≠ []
  few : r.a.length + r.t.length ≤ 24
def mkR (m u t : List Int) : PR := ⟨m, (normW u t).1, (normW u t).2⟩
theorem shortGo_mem {t : List Int} {x : Int} : ∀ (f k : Nat), x ∈ shortGo t k f → x ∈ t
  | 0, _ => id
  | f + 1, k => by
    unfold shortGo
    split
    · exact fun h => List.mem_of_mem_take h
    · exact shortGo_mem f (k + 1)
theorem getLastD_mem {l : List Int} (h : l ≠ []) : l.getLastD 0 ∈ l := by
  cases l with
  | nil => exact absurd rfl h
  | cons a r =>
    show (a :: r).getLastD 0 ∈ a :: r
    have e : (a :: r).getLastD 0 = (a :: r).getLast h := rfl
    rw [e]
    exact List.getLast_mem h
theorem normGo_mem {x : Int} : ∀ (n : Nat) (a t : List Int), t ≠ [] → (x ∈ (normGo n a t).1 ∨ x ∈ (normGo n a t).2) → x ∈ a ∨ x ∈ t
  | 0, _, _, _ => id
  | n + 1, a, t, ht => by
    unfold normGo
    split
    · intro h
      rcases normGo_mem n a.dropLast (t.getLastD 0 :: t.dropLast) (by simp) h with h | h
      · exact .inl (List.dropLast_subset a h)
      · rcases List.mem_cons.mp h with h | h
        · rw [h]; exact .inr (getLastD_mem ht)
        · exact .inr (List.dropLast_subset t h)
    · exact id
theorem normW_mem {a t : List Int} (ht : t ≠ []) {x : Int} (h : x ∈ (normW a t).1 ∨ x ∈ (normW a t).2) : x ∈ a ∨ x ∈ t := by
  rcases normGo_mem _ _ _ (shortest_ne ht) h with h | h
  · exact .inl h
  · exact .inr (shortGo_mem _ _ h)
theorem mkR_ok {m u t : List Int} (hm : ModOk m) (hu : BanksIn (prodI m) u) (ht : BanksIn (prodI m) t) (ne : t ≠ []) (few : u.length + t.length ≤ 24) : ROk (mkR m u t) := by
  obtain ⟨h1, h2, h3⟩ := normW_len (a := u) ne
  refine ⟨hm, fun x hx => ?_, fun x hx => ?_, h3, ?_⟩
  · exact (normW_mem ne (.inl hx)).elim (hu x) (ht x)
  · exact (normW_mem ne (.inr hx)).elim (hu x) (ht x)
  · show (normW u t).1.length + (normW u t).2.length ≤ 24
    omega
/-- the class of a place, its weight -/
def clsR (r : PR) (n : Nat) : Nat := if n < r.a.length then n else r.a.length + (n - r.a.length) % r.t.length
def wtR (r : PR) (n : Nat) : Int := (r.a ++ r.t).getD (clsR r n) 0
theorem clsR_lt {r : PR} (h : r.t ≠ []) (n : Nat) : clsR r n < (r.a ++ r.t).length := by
  have := List.length_pos_iff.mpr h
  unfold clsR
  rw [List.length_append]
  split
  · omega
  · have := Nat.mod_lt (n - r.a.length) this
    omega
theorem wtR_in {r : PR} (h : ROk r) (n : Nat) : 0 ≤ wtR r n ∧ wtR r n < prodI r.m := by
  have hl := clsR_lt h.ne n
  unfold wtR
  rw [List.getD_eq_getElem?_getD, List.getElem?_eq_getElem hl]
  show 0 ≤ (r.a ++ r.t)[clsR r n] ∧ (r.a ++ r.t)[clsR r n] < _
  rcases List.mem_append.mp (List.getElem_mem hl) with q | q
  · exact h.a _ q
  · exact h.t _ q
theorem kit_same {K : PySem.W.Frag} {C : Addr} : PySem.W.kitOne K (.ref C) (.ref C) = some true := if_pos (beq_self_eq_true _)
section
variable {K : PySem.W.Frag} {mg : Str → Option Value} {base : Heap} {P : Program} {w : World}
def sp_Rule_init (K : PySem.W.Frag) : Sp := fun vs H Q _ => ∃ (p dx m u t : Addr) (M U T : List Int), vs = [.ref p, .ref m, .ref u, .ref t] ∧ H p = some (.ins (He.ga K "Rule") dx []) ∧ TpI H m M ∧ ModOk M ∧ SqI H u (IV U) ∧ SqI H t (IV T) ∧
  BanksIn (prodI M) U ∧ BanksIn (prodI M) T ∧ T ≠ [] ∧ U.length + T.length ≤ 24 ∧ ∀ H', (∀ b o, b ≠ p → H b = some o → H' b = some o) → RuleAt K H' p (mkR M U T) → Q .non H'
theorem sc_Rule_init : FnScope ["self", "moduli", "ahead", "turn"] ["self", "moduli", "ahead", "turn"] (defScope sRule_init) := ⟨rfl, rfl, rfl, by decide +kernel, rfl, by decide +kernel, by decide +kernel⟩
theorem ok_Rule_init (T : Tx K mg) : Mkr P w K mg base 4 "Rule" (He.ga K "Rule") (He.ma K (He.ga K "Rule") "__init__") ["self", "moduli", "ahead", "turn"] (sp_Rule_init K) := by
  have c_are_moduli := ok_are_moduli (P := P) (w := w) (base := base) T
  have c_are_banks := ok_are_banks (P := P) (w := w) (base := base) T
  have c_banks_of := ok_banks_of (P := P) (w := w) (base := base) T
  have c_normal_weights := ok_normal_weights (P := P) (w := w) (base := base) T
  refine ⟨ok_of T.fRule_init sc_Rule_init (fun _ _ _ _ _ _ us hl => match us, hl with | [_, _, _, _], _ => rfl) (fun vs H Q E h => ?_) (fun cdv A outer s H vs Q E hr h => ?_), T.mk_Rule, T.g_Rule⟩
  · obtain ⟨p, dx, m, u, t, M, U, T', rfl, _⟩ := h
    rfl
  · obtain ⟨p, dx, m, u, t, M, U, T', rfl, hp, hM, okM, hU, hT, bU, bT, ne, few, k⟩ := h
    refine ⟨_, (pss_cons (ps_if (pt_not (pt_val (pe_f c_are_moduli (hr.mono (by decide)) (pa_cons (pv 1) pa_nil)))) (pss_one ps_never) pss_nil)
      (pss_cons (ps_if (pt_not (pt_val (pe_f c_are_banks (hr.mono (by decide)) (pa_cons (pv 2) (pa_cons (pe_f c_banks_of (hr.mono (by decide)) (pa_cons (pv 1) pa_nil)) pa_nil))))) (pss_one ps_never) pss_nil)
      (pss_cons (ps_if (PW.pt (pw_or (pt_not (pt_val (pe_f c_are_banks (hr.mono (by decide)) (pa_cons (pv 3) (pa_cons (pe_f c_banks_of (hr.mono (by decide)) (pa_cons (pv 1) pa_nil)) pa_nil))))) (pw_or1 (pt_cmpR op_eq (pe_callB call_lenI (by rfl) T.b_len (by decide +kernel) (pa_cons (pv 3) pa_nil)) pe_int (nomark _))))) (pss_one ps_never) pss_nil)
      (pss_cons (ps_asg (pe_f c_normal_weights (hr.mono (by decide)) (pa_cons (pv 2) (pa_cons (pv 3) pa_nil))) (pg_tup rfl (pgs_cons (pg_name (i := 2) sc_Rule_init.nd rfl (Or.inl rfl)) (pgs_cons (pg_name (i := 3) sc_Rule_init.nd rfl (Or.inl rfl)) pgs_nil))))
      (pss_cons (ps_if (pt_cmpR op_gt (pe_op op_add (pe_callB call_lenI (by rfl) T.b_len (by decide +kernel) (pa_cons (pv 2) pa_nil)) (pe_callB call_lenI (by rfl) T.b_len (by decide +kernel) (pa_cons (pv 3) pa_nil))) (pe_gi (by rfl) T.i_MOST_PLACES_rules) (nomark _)) (pss_one ps_never) pss_nil)
      (pss_cons (ps_fld (pv 0) (pe_callTy call_tupI (by rfl) T.b_tuple (by decide +kernel) (pa_cons (pv 1) pa_nil)) rfl)
      (pss_cons (ps_fld (pv 0) (pv 2) rfl)
      (pss_one (ps_fld (pv 0) (pv 3) rfl))))))))), ?_⟩
    have zt : 1 ≤ T'.length := List.length_pos_iff.mpr ne
    obtain ⟨n1, n2, n3⟩ := normW_len (a := U) ne
    refine ⟨_, rfl, m, M, rfl, hM, okM, fun H1 s1 => ⟨true, rfl, iteF ?_⟩⟩
    refine ⟨_, rfl, _, rfl, m, M, rfl, hM.same s1, okM.each, u, U, _, rfl, hU.same s1, by omega, bU, fun H2 s2 => ⟨true, rfl, iteF ?_⟩⟩
    have S2 := s1.trans s2
    refine ⟨_, rfl, _, rfl, m, M, rfl, hM.same S2, okM.each, t, T', _, rfl, hT.same S2, by omega, bT, fun H3 s3 => ⟨true, rfl, iteF ?_⟩⟩
    have S3 := S2.trans s3
    refine ⟨_, rfl, t, _, rfl, hT.same S3, rfl, _, rfl, itF (fun z => ?_) ?_⟩
    · have z := V.int.inj z
      rw [IV_len] at z
      omega
    refine ⟨_, rfl, _, rfl, u, t, U, T', rfl, hU.same S3, hT.same S3, by omega, zt, by omega, fun H4 q pa pt s4 hq ha ht => ?_⟩
    have S4 := S3.trans s4
    refine ⟨q, _, rfl, SqT.of hq, rfl, _, _, rfl, _, _, rfl, rfl, ?_⟩
    refine ⟨_, rfl, pa, _, rfl, .inr ha, _, rfl, pt, _, rfl, .inr ht, _, _, rfl, rfl, _, _, rfl, rfl, _, rfl, itF (fun z => ?_) ?_⟩
    · rw [IV_len, IV_len] at z
      omega
    refine ⟨_, rfl, m, _, rfl, .inr (hM.same S4), fun m2 H5 s5 hm2 => ?_⟩
    have S5 := S4.trans s5
    have ha5 := ha.same s5
    have ht5 := ht.same s5
    refine ⟨_, rfl, p, _, dx, _, rfl, S5 _ _ hp, T.c_Rule, T.n_Rule_moduli, by decide, ?_⟩
    refine ⟨_, rfl, _, rfl, p, _, dx, _, rfl, upd_same, T.c_Rule, T.n_Rule_ahead, (show (1 : Nat) < 1000 by decide), ?_⟩
    refine ⟨_, rfl, _, rfl, p, _, dx, _, rfl, upd_same, T.c_Rule, T.n_Rule_turn, (show (2 : Nat) < 1000 by decide), ?_⟩
    have nt : ∀ {x : Addr} {l : List Int}, TpI H5 x l → x ≠ p := fun h z => by
      have e := S5 _ _ hp
      unfold TpI at h
      rw [z, e] at h
      cases h
    have cp : ∀ {x : Addr} {l : List Int} {o1 o2 o3 : HO}, TpI H5 x l → TpI (upd (upd (upd H5 p o1) p o2) p o3) x l := fun h => by
      have n := nt h
      unfold TpI
      rw [upd_ne n, upd_ne n, upd_ne n]
      exact h
    refine k _ (fun b o hbk e => ?_) ⟨dx, m2, pa, pt, upd_same, cp hm2, cp ha5, cp ht5⟩
    rw [upd_ne hbk, upd_ne hbk, upd_ne hbk]
    exact S5 _ _ e
def sp_Rule_class_of (K : PySem.W.Frag) : Sp := fun vs H Q _ => ∃ (p : Addr) (r : PR) (n : Nat), vs = [.ref p, .int (n : Int)] ∧ RuleAt K H p r ∧ r.t ≠ [] ∧ Q (.int (clsR r n : Nat)) H
theorem sc_Rule_class_of : FnScope ["self", "place"] ["self", "place"] (defScope sRule_class_of) := ⟨rfl, rfl, rfl, by decide +kernel, rfl, by decide +kernel, by decide +kernel⟩
theorem ok_Rule_class_of (T : Tx K mg) : Mtd P w K mg base 4 (He.ga K "Rule") "class_of" (He.ma K (He.ga K "Rule") "class_of") ["self", "place"] (sp_Rule_class_of K) := by
  have c_need_number := ok_need_number (P := P) (w := w) (base := base) T
  refine mtd_of T.fRule_class_of T.m_Rule_class_of T.c_Rule sc_Rule_class_of (fun _ _ _ _ _ _ us hl => match us, hl with | [_, _], _ => rfl) (fun vs H Q E h => ?_) (fun cdv A outer s H vs Q E hr h => ?_)
  · obtain ⟨p, r, n, rfl, _⟩ := h
    rfl
  · obtain ⟨p, r, n, rfl, ⟨dx, m, a, t, hp, hm, ha, ht⟩, ne, k⟩ := h
    refine ⟨_, (pss_cons (ps_expr (pe_f c_need_number (hr.mono (by decide)) (pa_cons (pv 1) pa_nil)))
      (pss_cons (ps_if (pt_cmpR op_lt (pv 1) (pe_callB call_lenI (by rfl) T.b_len (by decide +kernel) (pa_cons (pe_fld (pv 0) rfl) pa_nil)) (nomark _)) (pss_one (ps_ret (pv 1))) pss_nil)
      (pss_one (ps_ret (pe_op op_add (pe_callB call_lenI (by rfl) T.b_len (by decide +kernel) (pa_cons (pe_fld (pv 0) rfl) pa_nil)) (pe_op op_mod (pe_callTy call_int1 (by rfl) T.b_int (by decide +kernel) (pa_cons (pe_op op_sub (pv 1) (pe_callB call_lenI (by rfl) T.b_len (by decide +kernel) (pa_cons (pe_fld (pv 0) rfl) pa_nil))) pa_nil)) (pe_callB call_lenI (by rfl) T.b_len (by decide +kernel) (pa_cons (pe_fld (pv 0) rfl) pa_nil)))))))), ?_⟩
    have zt := List.length_pos_iff.mpr ne
    have la : (IV r.a).length = r.a.length := IV_len _
    have lt : (IV r.t).length = r.t.length := IV_len _
    refine ⟨_, rfl, _, rfl, by omega, ?_⟩
    refine ⟨_, rfl, _, rfl, p, _, dx, _, _, rfl, hp, T.c_Rule, T.n_Rule_ahead, rfl, a, _, rfl, .inr ha, _, _, rfl, rfl, _, rfl, ?_⟩
    refine ite2 (fun hd => ?_) (fun hd => ?_)
    · have hd : (n : Int) < ((IV r.a).length : Int) := of_decide_eq_true hd
      refine ⟨_, rfl, ?_⟩
      have e : clsR r n = n := if_pos (by omega)
      rw [e] at k
      exact k
    · have hd : ¬ (n : Int) < ((IV r.a).length : Int) := fun z => hd (decide_eq_true z)
      refine ⟨_, rfl, p, _, dx, _, _, rfl, hp, T.c_Rule, T.n_Rule_ahead, rfl, a, _, rfl, .inr ha, _, rfl, _, rfl, p, _, dx, _, _, rfl, hp, T.c_Rule, T.n_Rule_ahead, rfl, a, _, rfl, .inr ha, _, _, rfl, rfl, .inl ⟨_, rfl, ?_⟩⟩
      refine ⟨_, rfl, p, _, dx, _, _, rfl, hp, T.c_Rule, T.n_Rule_turn, rfl, t, _, rfl, .inr ht, _, _, rfl, rfl, by show (0 : Int) < ((IV r.t).length : Int); omega, _, _, rfl, rfl, ?_⟩
      have e : clsR r n = r.a.length + (n - r.a.length) % r.t.length := if_neg (by omega)
      refine inE ?_ k
      rw [e, la, lt]
      have e2 : (n : Int) - (r.a.length : Int) = ((n - r.a.length : Nat) : Int) := by omega
      rw [e2, ← Int.natCast_emod]
      omega
def sp_Rule_weight (K : PySem.W.Frag) : Sp := fun vs H Q _ => ∃ (p : Addr) (r : PR) (n : Nat), vs = [.ref p, .int (n : Int)] ∧ RuleAt K H p r ∧ ROk r ∧ ∀ H', Same H H' → Q (.int (wtR r n)) H'
theorem sc_Rule_weight : FnScope ["self", "place", "weights"] ["self", "place"] (defScope sRule_weight) := ⟨rfl, rfl, rfl, by decide +kernel, rfl, by decide +kernel, by decide +kernel⟩
theorem ok_Rule_weight (T : Tx K mg) : Mtd P w K mg base 5 (He.ga K "Rule") "weight" (He.ma K (He.ga K "Rule") "weight") ["self", "place"] (sp_Rule_weight K) := by
  have c_class_of := ok_Rule_class_of (P := P) (w := w) (base := base) T
  refine mtd_of T.fRule_weight T.m_Rule_weight T.c_Rule sc_Rule_weight (fun _ _ _ _ _ _ us hl => match us, hl with | [_, _], _ => rfl) (fun vs H Q E h => ?_) (fun cdv A outer s H vs Q E hr h => ?_)
  · obtain ⟨p, r, n, rfl, _⟩ := h
    rfl
  · obtain ⟨p, r, n, rfl, hR, ok, k⟩ := h
    have hR' := hR
    obtain ⟨dx, m, a, t, hp, hm, ha, ht⟩ := hR'
    refine ⟨_, (pss_cons (ps_set (i := 2) sc_Rule_weight.nd rfl (Or.inl rfl) (pe_lst (pa_star (pe_fld (pv 0) rfl) (pa_star (pe_fld (pv 0) rfl) pa_nil))))
      (pss_one (ps_ret (pe_ix ix_I (pv 2) (pe_m (pv 0) c_class_of (hr.mono (by decide)) (pa_cons (pv 1) pa_nil)) (fun _ _ => rfl))))), ?_⟩
    refine ⟨_, rfl, p, _, dx, _, _, rfl, hp, T.c_Rule, T.n_Rule_ahead, rfl, a, _, rfl, .inl (SqT.of ha), _, rfl, p, _, dx, _, _, rfl, hp, T.c_Rule, T.n_Rule_turn, rfl, t, _, rfl, .inl (SqT.of ht), ?_, fun l hl => ?_⟩
    · have := ok.few
      show (IV r.a ++ (IV r.t ++ [])).length ≤ sizeLine
      rw [List.append_nil, List.length_append, IV_len, IV_len, sizeLine_eq]
      omega
    have s1 : Same H (upd H l (.lst (IV r.a ++ (IV r.t ++ [])))) := Same.put hl
    refine ⟨_, rfl, _, rfl, _, dx, _, rfl, s1 _ _ hp, rfl, _, rfl, p, r, n, rfl, hR.same s1, ok.ne, ?_⟩
    have hc := clsR_lt ok.ne n
    refine ⟨l, _, _, _, rfl, rfl, .inl upd_same, atI_nat ?_, k _ s1⟩
    rw [List.append_nil, ← IV_app]
    refine IV_at (List.getElem?_eq_getElem hc |>.trans ?_)
    unfold wtR
    rw [List.getD_eq_getElem?_getD, List.getElem?_eq_getElem hc]
    rfl
def sp_Rule_need_bank (K : PySem.W.Frag) : Sp := fun vs H Q _ => ∃ (p : Addr) (r : PR) (x : Int), vs = [.ref p, .int x] ∧ RuleAt K H p r ∧ ModOk r.m ∧ 0 ≤ x ∧ x < prodI r.m ∧ Q .non H
theorem sc_Rule_need_bank : FnScope ["self", "value"] ["self", "value"] (defScope sRule_need_bank) := ⟨rfl, rfl, rfl, by decide +kernel, rfl, by decide +kernel, by decide +kernel⟩
theorem ok_Rule_need_bank (T : Tx K mg) : Mtd P w K mg base 3 (He.ga K "Rule") "need_bank" (He.ma K (He.ga K "Rule") "need_bank") ["self", "value"] (sp_Rule_need_bank K) := by
  have c_is_within := ok_is_within (P := P) (w := w) (base := base) T
  have c_banks_of := ok_banks_of (P := P) (w := w) (base := base) T
  refine mtd_of T.fRule_need_bank T.m_Rule_need_bank T.c_Rule sc_Rule_need_bank (fun _ _ _ _ _ _ us hl => match us, hl with | [_, _], _ => rfl) (fun vs H Q E h => ?_) (fun cdv A outer s H vs Q E hr h => ?_)
  · obtain ⟨p, r, n, rfl, _⟩ := h
    rfl
  · obtain ⟨p, r, x, rfl, ⟨dx, m, a, t, hp, hm, ha, ht⟩, ok, h0, h1, k⟩ := h
    refine ⟨_, (pss_one (ps_if (pt_not (pt_val (pe_f c_is_within (hr.mono (by decide)) (pa_cons (pv 1) (pa_cons pe_int (pa_cons (pe_op op_sub (pe_f c_banks_of (hr.mono (by decide)) (pa_cons (pe_fld (pv 0) rfl) pa_nil)) pe_int) pa_nil)))))) (pss_one ps_never) pss_nil)), ?_⟩
    refine ⟨_, rfl, _, rfl, p, _, dx, _, _, rfl, hp, T.c_Rule, T.n_Rule_moduli, rfl, m, r.m, rfl, hm, ok.each, _, _, rfl, rfl, x, 0, _, rfl, _, rfl, niT ?_ k⟩
    omega
def sp_Rule_added (K : PySem.W.Frag) : Sp := fun vs H Q _ => ∃ (p : Addr) (r : PR) (x y : Int), vs = [.ref p, .int x, .int y] ∧ RuleAt K H p r ∧ ModOk r.m ∧ (0 ≤ x ∧ x < prodI r.m) ∧ (0 ≤ y ∧ y < prodI r.m) ∧ ∀ H', Same H H' → Q (.int (sumI r.m x y)) H'
theorem sc_Rule_added : FnScope ["self", "one", "other"] ["self", "one", "other"] (defScope sRule_added) := ⟨rfl, rfl, rfl, by decide +kernel, rfl, by decide +kernel, by decide +kernel⟩
theorem ok_Rule_added (T : Tx K mg) : Mtd P w K mg base 4 (He.ga K "Rule") "added" (He.ma K (He.ga K "Rule") "added") ["self", "one", "other"] (sp_Rule_added K) := by
  have c_need_bank := ok_Rule_need_bank (P := P) (w := w) (base := base) T
  have c_sum_of := ok_sum_of (P := P) (w := w) (base := base) T
  refine mtd_of T.fRule_added T.m_Rule_added T.c_Rule sc_Rule_added (fun _ _ _ _ _ _ us hl => match us, hl with | [_, _, _], _ => rfl) (fun vs H Q E h => ?_) (fun cdv A outer s H vs Q E hr h => ?_)
  · obtain ⟨p, r, x, y, rfl, _⟩ := h
    rfl
  · obtain ⟨p, r, x, y, rfl, hR, ok, hx, hy, k⟩ := h
    have hR' := hR
    obtain ⟨dx, m, a, t, hp, hm, ha, ht⟩ := hR'
    refine ⟨_, (pss_cons (ps_expr (pe_m (pv 0) c_need_bank (hr.mono (by decide)) (pa_cons (pv 1) pa_nil)))
      (pss_cons (ps_expr (pe_m (pv 0) c_need_bank (hr.mono (by decide)) (pa_cons (pv 2) pa_nil)))
      (pss_one (ps_ret (pe_f c_sum_of (hr.mono (by decide)) (pa_cons (pe_fld (pv 0) rfl) (pa_cons (pv 1) (pa_cons (pv 2) pa_nil)))))))), ?_⟩
    refine ⟨_, rfl, p, dx, _, rfl, hp, rfl, _, rfl, p, r, x, rfl, hR, ok, hx.1, hx.2, ?_⟩
    refine ⟨_, rfl, p, dx, _, rfl, hp, rfl, _, rfl, p, r, y, rfl, hR, ok, hy.1, hy.2, ?_⟩
    refine ⟨_, rfl, p, _, dx, _, _, rfl, hp, T.c_Rule, T.n_Rule_moduli, rfl, _, rfl, _, rfl, m, r.m, x, y, rfl, hm, ok.few, ok.each, k⟩
def sp_Rule_eq (K : PySem.W.Frag) : Sp := fun vs H Q _ => ∃ (p q : Addr) (r s : PR), vs = [.ref p, .ref q] ∧ RuleAt K H p r ∧ RuleAt K H q s ∧ Q (.bl (decide (r = s))) H
theorem sc_Rule_eq : FnScope ["self", "other"] ["self", "other"] (defScope sRule_eq) := ⟨rfl, rfl, rfl, by decide +kernel, rfl, by decide +kernel, by decide +kernel⟩
theorem ok_Rule_eq (T : Tx K mg) : Mtd P w K mg base 1 (He.ga K "Rule") "__eq__" (He.ma K (He.ga K "Rule") "__eq__") ["self", "other"] (sp_Rule_eq K) := by
  refine mtd_of T.fRule_eq T.m_Rule_eq T.c_Rule sc_Rule_eq (fun _ _ _ _ _ _ us hl => match us, hl with | [_, _], _ => rfl) (fun vs H Q E h => ?_) (fun cdv A outer s H vs Q E hr h => ?_)
  · obtain ⟨p, q, r, s, rfl, _⟩ := h
    rfl
  · obtain ⟨p, q, r, r', rfl, ⟨dx, m, a, t, hp, hm, ha, ht⟩, ⟨dy, m', a', t', hp', hm', ha', ht'⟩, k⟩ := h
    refine ⟨_, (pss_cons (ps_if (PW.pt (pw_or (pt_not (pt_val (pe_callB call_isi (by rfl) T.b_isinstance (by decide +kernel) (pa_cons (pv 1) (pa_cons (pe_glob (v := .ref (He.ga K "Rule")) (by rfl) T.g_Rule rfl) pa_nil))))) (pw_or1 (pt_cmpR (op_neD hr.units) (pe_fld (pv 0) rfl) (pe_fld (pv 1) rfl) (nomark _))))) (pss_one (ps_ret pe_bl)) pss_nil)
      (pss_one (ps_ret (pe_and (pe_cmpR (op_eqD hr.units) (pe_fld (pv 0) rfl) (pe_fld (pv 1) rfl) (nomark _)) (pe_one (pe_cmpR (op_eqD hr.units) (pe_fld (pv 0) rfl) (pe_fld (pv 1) rfl) (nomark _))))))), ?_⟩
    refine ⟨_, rfl, _, _, _, _, _, rfl, .own _, T.ty_Rule hp', kit_same, true, rfl, iteF ?_⟩
    refine ⟨_, rfl, p, _, dx, _, _, rfl, hp, T.c_Rule, T.n_Rule_moduli, rfl, _, rfl, q, _, dy, _, _, rfl, hp', T.c_Rule, T.n_Rule_moduli, rfl, _, _, Dp_tup hm, Dp_tup hm', shaped_tup _, shaped_tup _, _, rfl, ?_⟩
    rw [eqv_tup]
    by_cases e1 : r.m = r'.m
    · refine niT e1 ?_
      refine ⟨_, rfl, p, _, dx, _, _, rfl, hp, T.c_Rule, T.n_Rule_ahead, rfl, _, rfl, q, _, dy, _, _, rfl, hp', T.c_Rule, T.n_Rule_ahead, rfl, _, _, Dp_tup ha, Dp_tup ha', shaped_tup _, shaped_tup _, _, rfl, ?_⟩
      rw [eqv_tup]
      by_cases e2 : r.a = r'.a
      · refine itT e2 ?_
        refine ⟨_, rfl, p, _, dx, _, _, rfl, hp, T.c_Rule, T.n_Rule_turn, rfl, _, rfl, q, _, dy, _, _, rfl, hp', T.c_Rule, T.n_Rule_turn, rfl, _, _, Dp_tup ht, Dp_tup ht', shaped_tup _, shaped_tup _, ?_⟩
        rw [eqv_tup]
        refine blE ?_ k
        cases r
        cases r'
        simp only [] at e1 e2
        subst e1 e2
        simp
      · refine itF e2 ?_
        exact blE (decide_eq_false fun z => e2 (by rw [z])).symm k
    · exact niF e1 (blE (decide_eq_false fun z => e1 (by rw [z])).symm k)
end
end K70
-- K70Str
/-! f"{n:b}", s[::-1] -/
namespace K70
open L2 PySem PySem.Spec PyProof.Rows
def bspec : Str := Str.ofString "b"
def bF : Builtin.Float.FormatSpec := { align := 62, type := some 98 }
def binL (n : Nat) : List Nat := (Nat.toDigits 2 n).map Char.toNat
def binS (n : Nat) : Str := ⟨(binL n).toArray⟩
theorem parse_b : Builtin.Float.parseFormatSpec bspec.cps.toList "int" 62 = .ok bF := by rfl
theorem field_b (ds : List Nat) (h : ds ≠ []) : intField' bF false [] ds [] 4 = ⟨ds.toArray⟩ := by
  unfold intField'
  have e : ds.isEmpty = false := by cases ds with
    | nil => exact absurd rfl h
    | cons _ _ => rfl
  simp only [bF, e, Bool.false_eq_true, if_false, List.length_nil, List.nil_append, List.append_nil, Int.natCast_zero]
  have p : ((-1 : Int) - (0 + 0 + 0) - (ds.length : Int)).toNat = 0 := by omega
  simp [p]
section
variable {A : Around} {s : Shared} {prog : Program} {w : World} {E : Value → Shared → Prop}
theorem binL_ne (n : Nat) : binL n ≠ [] := by
  unfold binL
  intro z
  have := Nat.length_toDigits_pos (b := 2) (n := n)
  rw [List.map_eq_nil_iff.mp z] at this
  exact absurd this (by decide)
theorem formatField_b0 {n : Nat} {t : Tok} {speck : Str} {f : Builtin.Float.FormatSpec} {Q : Value → Shared → Prop} (hp : Builtin.Float.parseFormatSpec speck.cps.toList "int" 62 = .ok f) (hszk : speck.length ≤ sizeLine) (hne : (speck.length == 0) = false)
    (hasc : ((speck.cps.toList.drop 1).any (· ≥ 128) || (speck.cps.getD 0 0 ≥ 128 && !([60, 62, 61, 94] : List Nat).contains (speck.cps.getD 1 0))) = false)
    (hty2 : f.type.getD (if speck.cps.back? == some 0 then 0 else 100) = 98) (hpr : f.precision.isSome = false) (hz : f.noNeg0 = false) (hw : f.width.getD 0 ≤ 100000) (hal : f.alt = false) (hgr : f.grouping = none) (hsg : f.sign = none)
    (hl : (intField' f false [] (binL n) [] 4).length ≤ sizeLine) (h : ∀ u k, Q (.str (intField' f false [] (binL n) [] 4) u) { s with toks := k }) : wpAny (model prog w) A (formatField (.int (n : Int) t) speck) Q E s := by
  show wpAny _ _ (holding [.int (n : Int) t] (pyFormat (.int (n : Int) t) speck)) Q E s
  refine wpAny_holding ?_
  unfold pyFormat
  refine wpAny_bind (wpAny_mkStr ?_ hszk)
  refine wpAny_bind (m := callSpecial? (.int (n : Int) t) (Str.ofString "__format__") [.str speck s.toks]) (wpAny_callSpecial?_slot (name := Str.ofString "__format__") (typeIs_int _ _ t) slot_int_format ?_)
  refine wpAny_call (codeAny_call_builtin slot_int_format.plain entry_int_format (slot_int_format.check _ _ _ _ _ _ _ _ (typeIs_int _ _ t) (args_int_format _ _) ?_))
  (unfold Builtin.«int.__format__»)
  have e1 : decide ((n : Int) < 0) = false := decide_eq_false (by omega)
  simp only [selfAndOne, noKeywords, Builtin.Int.intOfSelf, asInt?, asStr?, List.isEmpty_nil, if_true, pure_bind, bind_pure, bind_assoc, hne, hasc, Bool.false_eq_true, if_false,
    show (Value.str speck s.toks == Value.none) = false from rfl]
  (refine wpAny_bind (wpAny_typeNameOf (T := "str") (typeIs_str _ _ _) (by decide) fun _ => ?_))
  (refine wpAny_bind (wpAny_typeNameOfCut_int ?_))
  simp only [hp, hty2]
  rw [if_pos (by decide)]
  (show wpAny _ _ (if _ then _ else _) _ _ _)
  rw [if_neg (by simp [hpr])]
  (show wpAny _ _ (if _ then _ else _) _ _ _)
  rw [if_neg (by simp [hz])]
  (show wpAny _ _ (if _ then _ else _) _ _ _)
  rw [if_neg (by decide)]
  (show wpAny _ _ (if _ then _ else _) _ _ _)
  rw [if_neg (by decide)]
  (show wpAny _ _ (if _ then _ else _) _ _ _)
  have hw'k : ¬ (f.width.getD 0 > 100000) := by omega
  rw [if_neg (by simpa using hw'k)]
  (show wpAny _ _ (retStr _) _ _ _)
  unfold retStr
  simp only [hal, Bool.false_eq_true, if_false]
  rw [e1]
  have e2 : (Nat.toDigits 2 (n : Int).natAbs).map (fun c => (if ((98 : Nat) == 88) = true then c.toUpper else c).toNat) = binL n := rfl
  have e3 : (if ((2 : Nat) == 10) = true then 3 else 4) = 4 := rfl
  rw [e2, e3]
  (refine wpAny_bind (wpAny_mkStr (wpAny_pure ?_) ?hs2))
  case hs2 =>
    conv => lhs; arg 1; whnf
    simp only [intField', hgr, hsg, hal, Bool.false_eq_true, if_false] at hl ⊢
    exact hl
  dsimp only
  (refine wpAny_bind (wpAny_isInstance (typeIs_str _ _ _) isSubtype_str_str (wpAny_pure ?_)))
  conv => arg 1; arg 1; whnf
  simp only [intField', hgr, hsg, hal, Bool.false_eq_true, if_false] at h ⊢
  exact h _ _
theorem formatField_b {n : Nat} {t : Tok} {Q : Value → Shared → Prop} (hl : (binL n).length ≤ sizeLine) (h : ∀ u k, Q (.str (binS n) u) { s with toks := k }) : wpAny (model prog w) A (formatField (.int (n : Int) t) bspec) Q E s := by
  have e := field_b (binL n) (binL_ne n)
  refine formatField_b0 (f := bF) parse_b (by decide) (by decide) (by decide) rfl rfl rfl (by decide) rfl rfl rfl ?_ ?_
  · rw [e]
    show (binL n).toArray.size ≤ sizeLine
    rw [List.size_toArray]
    exact hl
  · rw [e]
    exact h
end
section
variable {X : Cx}
/-- {n:b} -/
def tBin (te : TE) : TE := fun σ H Q => te σ H fun x H1 => ∃ n : Nat, x = .int (n : Int) ∧ (binL n).length ≤ sizeLine ∧ Q (.str (binS n)) H1
theorem pe_fmtB {e : Expr} {te : TE} {k : Nat} {p1 p2 pos : Pos} (he : PE X e te) : PE X (.FormattedValue e (-1) (some (.JoinedStr [.Constant (.str bspec) k p1] p2)) pos) (tBin te) := by
  refine ⟨fun pins s σ H Q Ik h => ?_⟩
  refine wpAny_FormattedValue_spec (thn (he.run pins s σ H _ Ik h) fun v s1 ⟨x, H1, I1, rx, n, ex, hl, q⟩ => ?_)
  subst ex
  obtain ⟨t, rfl⟩ := rx
  have js : PE X (.JoinedStr [.Constant (.str bspec) k p1] p2) (tC (.str bspec)) := pe_joined1 pe_str
  refine thn (js.run pins s1 σ H1 (fun y H2 => y = .str bspec ∧ H2 = H1) I1 ⟨rfl, rfl⟩) fun r s2 ⟨y, H2, I2, ry, ey, e2⟩ => ?_
  subst ey e2
  obtain ⟨u, rfl⟩ := ry
  exact ⟨bspec, u, rfl, formatField_b hl fun u k => ⟨.str (binS n), H2, I2.tok _, ⟨_, rfl⟩, q⟩⟩
theorem str_back (z : Str) : (Builtin.Str.strSliceIndices none none (-1) z.length).filterMap (z.cps[·]?) = z.cps.toList.reverse := by
  show (sliceRange ((z.cps.size : Int) - 1) (-1) (-1)).filterMap (z.cps[·]?) = z.cps.toList.reverse
  rw [PySem.W.krv_sliceRange, PySem.W.krv_range, List.filterMap_reverse, PySem.W.krv_all]
/-- s[::-1] -/
def tRevS (te : TE) : TE := fun σ H Q => te σ H fun x H1 => ∃ z, x = .str z ∧ z.length ≤ sizeLine ∧ Q (.str ⟨z.cps.toList.reverse.toArray⟩) H1
theorem pe_revS {e : Expr} {te : TE} {k : Nat} {p1 p2 p3 pos : Pos} (he : PE X e te) (hstk : ∀ (z : Str) (t : Tok) (a : Addr), subscripted (.Slice none none (some (.UnaryOp .USub (.Constant (.int 1) k p1) p2)) p3) false (.str z t) (.ref a) = operate [.str z t, .ref a] (getItem (.str z t) (.ref a)) := by intros; rfl) : PE X (.Subscript e (.Slice none none (some (.UnaryOp .USub (.Constant (.int 1) k p1) p2)) p3) pos) (tRevS te) := by
  refine ⟨fun pins s σk H Q I h => ?_⟩
  refine Subscript_ (thn (he.run pins s σk H _ I h) fun v s1 ⟨x, H1, I1, r1, q1⟩ => ?_)
  obtain ⟨z, ex, hz, q⟩ := q1
  subst ex
  obtain ⟨t, rfl⟩ := r1
  have hstk : PO X (some (.UnaryOp .USub (.Constant (.int 1) k p1) p2)) (tPart (tUn (rU fun i => .int (-i)) (tC (.int 1)))) := po_some (pe_un un_neg pe_int)
  refine wpAny_Slice (thn (po_none.run pins s1 σk H1 (fun o H2 => o = none ∧ H2 = H1) I1 ⟨rfl, rfl⟩) fun vl s2 ⟨l, H2, I2, pl, el, e2⟩ => ?_)
  subst el e2
  refine thn (po_none.run pins s2 σk H2 (fun o H3 => o = none ∧ H3 = H2) I2 ⟨rfl, rfl⟩) fun vu s3 ⟨u, H3, I3, pu, eu, e3⟩ => ?_
  subst eu e3
  refine thn (hstk.run pins s3 σk H3 (fun o H4 => o = some (-1) ∧ H4 = H3) I3 ⟨1, rfl, -1, rfl, rfl, rfl⟩) fun vs s4 ⟨o, H4, I4, ps, eo, e4⟩ => ?_
  subst eo e4
  have I5 : Inv X pins σk H4 { s4 with heap := s4.heap.push { cls := .type "slice", data := .fields #[vl, vu, vs] } } := I4.kept (t' := s4.toks) fun b ob q => Heap.get?_push_of_some _ q
  obtain ⟨l, rfl, hl⟩ := IsPart.raw pl
  obtain ⟨u, rfl, hu⟩ := IsPart.raw pu
  obtain ⟨st, rfl, hs⟩ := IsPart.raw ps
  show wpAny (model X.prog X.w) X.A (subscriptTail e (.Slice none none (some (.UnaryOp .USub (.Constant (.int 1) k p1) p2)) p3) (.str z t) (.ref s4.heap.objs.size)) (EP X pins σk Q) X.xe { s4 with heap := s4.heap.push { cls := .type "slice", data := .fields #[partValue l, partValue u, partValue st] } }
  refine tail_any (ops := [.str z t, .ref s4.heap.objs.size]) (typeIs_str _ _ _) (PySem.F.slot_str_getitem.lookup) ?_ (by with_unfolding_all rfl)
  obtain ⟨os, hos, hcs, hds⟩ := Heap.IsSliceOf.new s4.heap (partValue l) (partValue u) (partValue st)
  refine wpAny_getItem_str_slice (l := l) (u := u) (st := st) ⟨os, hos, hcs, hds⟩ (by rw [hs]; rfl) ?_
  have hb : (slicePicked z l u st).filterMap (z.cps[·]?) = z.cps.toList.reverse := by
    unfold slicePicked
    rw [hl, hu, hs]
    exact str_back z
  have hlen : (⟨z.cps.toList.reverse.toArray⟩ : Str).length ≤ sizeLine := by
    show z.cps.toList.reverse.toArray.size ≤ sizeLine
    rw [List.size_toArray, List.length_reverse, Array.length_toList]
    exact hz
  unfold sliceMade
  rw [hb, hs]
  exact ⟨hlen, .str _, H4, I5.tok _, ⟨_, rfl⟩, q⟩
end
/-- a loop over a text -/
theorem for_str {z : Str} {g : TG} {tb : TS} {D : Ends} {σk : L2.St} {H : Hp} (Pv : Nat → L2.St → Hp → Prop) (h0 : Pv 0 σk H)
    (hs : ∀ (i : Nat) (c : Nat) (σk : L2.St) (H : Hp), z.cps.toList[i]? = some c → Pv i σk H → g (.str ⟨#[c]⟩) σk H fun σ2 H2 => tb { D with nx := Pv (i + 1), ct := Pv (i + 1), bk := D.nx } σ2 H2) (hd : ∀ σk H, Pv z.cps.toList.length σk H → D.nx σk H) :
    ∃ W : Nat → Nat → L2.St → Hp → Prop, (∃ m, W 0 m σk H) ∧ ∀ i m σk H, W i m σk H →
      ((Its z).stop i H ∧ D.nx σk H) ∨ ((Its z).go i H ∧ ∃ N : L2.St → Hp → Prop, (∀ σ' H', N σ' H' → ∃ m', m' < m ∧ W (i + 1) m' σ' H') ∧ ∀ v H', (Its z).yld i H v H' → g v σk H' fun σ2 H2 => tb { D with nx := N, ct := N, bk := D.nx } σ2 H2) := by
  refine ⟨fun i m σk H => m = z.cps.size - i ∧ i ≤ z.cps.size ∧ Pv i σk H, ⟨z.cps.size, rfl, Nat.zero_le _, h0⟩, ?_⟩
  rintro i m σk H ⟨rfl, hi, p⟩
  by_cases hlt : i < z.cps.size
  · refine .inr ⟨hlt, Pv (i + 1), fun σ' H' p' => ⟨z.cps.size - (i + 1), by omega, rfl, hlt, p'⟩, fun v H' y => ?_⟩
    obtain ⟨rfl, c, hc, rfl⟩ := y
    exact hs i c σk H' (by rw [Array.getElem?_toList]; exact hc) p
  · have e : i = z.cps.size := by omega
    subst e
    exact .inl ⟨Nat.le_refl _, hd σk H (by rw [Array.length_toList]; exact p)⟩
end K70
-- K70F7
namespace K70
open L2 PySem PySem.Spec PyProof.Rows StX
/-! ### the bank of an address -/
def revB (n : Nat) : List Nat := (binL n).reverse
theorem revB_small {n : Nat} (h : n < 2) : revB n = [48 + n] := by
  unfold revB binL
  (rw [Nat.toDigits_of_lt_base h])
  rcases n with _ | _ | n
  · rfl
  · rfl
  · omega
theorem revB_big {n : Nat} (h : 2 ≤ n) : revB n = (48 + n % 2) :: revB (n / 2) := by
  unfold revB binL
  have hm : n % 2 < 2 := Nat.mod_lt _ (by decide)
  have t : Nat.toDigits 2 (n / 2) ++ Nat.toDigits 2 (n % 2) = Nat.toDigits 2 (2 * (n / 2) + n % 2) := Nat.toDigits_append_toDigits (by decide) (by omega) hm
  rw [Nat.div_add_mod] at t
  rw [← t, List.map_append, List.reverse_append, Nat.toDigits_of_lt_base hm]
  rcases Nat.mod_two_eq_zero_or_one n with e | e <;> rw [e] <;> rfl
theorem binL_len : ∀ (k n : Nat), n < 2 ^ k → (binL n).length ≤ k + 1
  | 0, n, h => by
    have : n = 0 := by omega
    subst this
    decide
  | k + 1, n, h => by
    have e : (binL n).length = (revB n).length := (List.length_reverse ..).symm
    rw [e]
    by_cases hn : n < 2
    · rw [revB_small hn]
      show 1 ≤ _
      omega
    · rw [revB_big (by omega)]
      have := binL_len k (n / 2) (by rw [Nat.pow_succ] at h; omega)
      show (revB (n / 2)).length + 1 ≤ _
      unfold revB
      rw [List.length_reverse]
      omega
def bankL (m : List Int) (w : Nat → Int) : List Nat → Nat → Int → Int
  | [], _, f => f
  | c :: r, p, f => bankL m w r (p + 1) (if c = 49 then sumI m f (w p) else f)
def bankI (m : List Int) (w : Nat → Int) (n : Nat) : Int := bankL m w (revB n) 0 0
theorem clsR_zero {r : PR} (h : r.t ≠ []) : clsR r 0 = 0 := by
  unfold clsR
  split
  · rfl
  · have e : r.a.length = 0 := by omega
    rw [e]
    simp
theorem clsR_succ {r : PR} (h : r.t ≠ []) (p : Nat) : clsR r (p + 1) = if clsR r p + 1 < (r.a ++ r.t).length then clsR r p + 1 else r.a.length := by
  have ht := List.length_pos_iff.mpr h
  unfold clsR
  rw [List.length_append]
  by_cases h1 : p < r.a.length
  · have c2 : p + 1 < r.a.length + r.t.length := by omega
    rw [if_pos h1, if_pos c2]
    by_cases h2 : p + 1 < r.a.length
    · rw [if_pos h2]
    · rw [if_neg h2]
      have e : p + 1 - r.a.length = 0 := by omega
      rw [e, Nat.zero_mod]
      omega
  · have c1 : ¬ p + 1 < r.a.length := by omega
    rw [if_neg h1, if_neg c1]
    have e : p + 1 - r.a.length = (p - r.a.length) + 1 := by omega
    rw [e]
    have q := Nat.mod_lt (p - r.a.length) ht
    by_cases h2 : (p - r.a.length) % r.t.length + 1 < r.t.length
    · have c3 : r.a.length + (p - r.a.length) % r.t.length + 1 < r.a.length + r.t.length := by omega
      rw [if_pos c3, Nat.add_mod, Nat.mod_eq_of_lt (show 1 < r.t.length by omega), Nat.mod_eq_of_lt h2]
      omega
    · have c3 : ¬ r.a.length + (p - r.a.length) % r.t.length + 1 < r.a.length + r.t.length := by omega
      rw [if_neg c3]
      have e2 : (p - r.a.length) % r.t.length + 1 = r.t.length := by omega
      have e3 : (p - r.a.length + 1) % r.t.length = 0 := by
        rw [Nat.add_mod]
        rcases Nat.eq_or_lt_of_le ht with z | z
        · have z : 1 = r.t.length := z
          rw [← z]
          exact Nat.mod_one _
        · have z : 1 < r.t.length := z
          rw [Nat.mod_eq_of_lt z, e2, Nat.mod_self]
      rw [e3]
      rfl
theorem sign_eq (c : Nat) : decide ((V.str ⟨#[c]⟩ : V) = V.str (Str.ofString "1")) = decide (c = 49) := by
  by_cases h : c = 49
  · subst h
    decide
  · rw [decide_eq_false h]
    refine decide_eq_false fun z => h ?_
    have z := V.str.inj z
    have z := congrArg (fun x : Str => x.cps.toList) z
    exact (List.cons.inj z).1
section
variable {K : PySem.W.Frag} {mg : Str → Option Value} {base : Heap} {P : Program} {w : World}
def sp_Rule_call (K : PySem.W.Frag) : Sp := fun vs H Q _ => ∃ (p : Addr) (r : PR) (n : Nat), vs = [.ref p, .int (n : Int)] ∧ RuleAt K H p r ∧ ROk r ∧ n < 2 ^ 1000 ∧ ∀ H', Same H H' → Q (.int (bankI r.m (wtR r) n)) H'
theorem sc_Rule_call : FnScope ["self", "address", "weights", "found", "number", "digit"] ["self", "address"] (defScope sRule_call) := ⟨rfl, rfl, rfl, by decide +kernel, rfl, by decide +kernel, by decide +kernel⟩
theorem ok_Rule_call (T : Tx K mg) : Mtd P w K mg base 4 (He.ga K "Rule") "__call__" (He.ma K (He.ga K "Rule") "__call__") ["self", "address"] (sp_Rule_call K) := by
  have c_need_number := ok_need_number (P := P) (w := w) (base := base) T
  have c_sum_of := ok_sum_of (P := P) (w := w) (base := base) T
  refine mtd_of T.fRule_call T.m_Rule_call T.c_Rule sc_Rule_call (fun _ _ _ _ _ _ us hl => match us, hl with | [_, _], _ => rfl) (fun vs H Q E h => ?_) (fun cdv A outer s H vs Q E hr h => ?_)
  · obtain ⟨p, r, n, rfl, _⟩ := h
    rfl
  · obtain ⟨p, r, n, rfl, hR, ok, hn, k⟩ := h
    have hR' := hR
    obtain ⟨dx, m, a, t, hp, hm, ha, ht⟩ := hR'
    refine ⟨_, (pss_cons (ps_expr (pe_f c_need_number (hr.mono (by decide)) (pa_cons (pv 1) pa_nil)))
      (pss_cons (ps_par3 (i := 2) (j := 3) (l := 4) (by rfl) sc_Rule_call.nd rfl rfl rfl (by decide) (by decide) (by decide) rfl rfl rfl (pa_cons (pe_lst (pa_star (pe_fld (pv 0) rfl) (pa_star (pe_fld (pv 0) rfl) pa_nil))) (pa_cons pe_int (pa_cons pe_int pa_nil))) (by rfl))
      (pss_cons (ps_for PassesOwn.never rfl (pi_str (pe_revS (pe_joined1 (pe_fmtB (pe_callTy call_int1 (by rfl) T.b_int (by decide +kernel) (pa_cons (pv 1) pa_nil)))))) (pg_name (i := 5) sc_Rule_call.nd rfl (Or.inl rfl))
        (pss_cons (ps_if (pt_cmpR op_eq (pv 5) pe_str (nomark _)) (pss_one (ps_set (i := 3) sc_Rule_call.nd rfl (Or.inl rfl) (pe_f c_sum_of (hr.mono (by decide)) (pa_cons (pe_fld (pv 0) rfl) (pa_cons (pv 3) (pa_cons (pe_ix ix_I (pv 2) (pv 4) (fun _ _ => rfl)) pa_nil)))))) pss_nil)
      (pss_one (ps_set (i := 4) sc_Rule_call.nd rfl (Or.inl rfl) (pe_ifExp (pt_cmpR op_lt (pe_op op_add (pv 4) pe_int) (pe_callB call_lenI (by rfl) T.b_len (by decide +kernel) (pa_cons (pv 2) pa_nil)) (nomark _)) (pe_op op_add (pv 4) pe_int) (pe_callB call_lenI (by rfl) T.b_len (by decide +kernel) (pa_cons (pe_fld (pv 0) rfl) pa_nil)))))))
      (pss_one (ps_ret (pv 3)))))), ?_⟩
    have few := ok.few
    have zb := binL_len 1000 n hn
    refine ⟨_, rfl, _, rfl, by omega, ?_⟩
    refine ⟨_, rfl, p, _, dx, _, _, rfl, hp, T.c_Rule, T.n_Rule_ahead, rfl, a, _, rfl, .inl (SqT.of ha), _, rfl, p, _, dx, _, _, rfl, hp, T.c_Rule, T.n_Rule_turn, rfl, t, _, rfl, .inl (SqT.of ht), ?_, fun l hl => ⟨_, _, _, rfl, ?_⟩⟩
    · show (IV r.a ++ (IV r.t ++ [])).length ≤ sizeLine
      rw [List.append_nil, List.length_append, IV_len, IV_len, sizeLine_eq]
      omega
    have ew : (IV r.a ++ (IV r.t ++ [])) = IV (r.a ++ r.t) := by rw [List.append_nil, IV_app]
    rw [ew]
    have s1 : Same H (upd H l (.lst (IV (r.a ++ r.t)))) := Same.put hl
    refine ⟨_, rfl, .inl ⟨_, rfl, n, rfl, by rw [sizeLine_eq]; omega, binS n, rfl, by show (binL n).toArray.size ≤ sizeLine; rw [List.size_toArray, sizeLine_eq]; omega, ?_⟩⟩
    have er : (binS n).cps.toList.reverse = revB n := rfl
    rw [er]
    refine ⟨_, rfl, for_str (z := ⟨(revB n).toArray⟩) (fun i σ H' => Same (upd H l (.lst (IV (r.a ++ r.t)))) H' ∧ ∃ (f : Int) (v : Option V), σ = [some (.ref p), some (.int (n : Int)), some (.ref l), some (.int f), some (.int (clsR r i : Nat)), v] ∧ bankL r.m (wtR r) ((revB n).drop i) i f = bankI r.m (wtR r) n)
      ⟨Same.refl _, 0, none, by rw [clsR_zero ok.ne]; rfl, rfl⟩ ?_ ?_⟩
    · rintro i c σ H' hc ⟨s2, f, v, rfl, e⟩
      have S2 := s1.trans s2
      have hL : H' l = some (.lst (IV (r.a ++ r.t))) := s2 _ _ upd_same
      obtain ⟨hi, ec⟩ := List.getElem?_eq_some_iff.mp hc
      have hc2 := clsR_lt ok.ne i
      rw [drop_at hi] at e
      have ec : (revB n)[i] = c := ec
      rw [ec] at e
      have e : bankL r.m (wtR r) ((revB n).drop (i + 1)) (i + 1) (if c = 49 then sumI r.m f (wtR r i) else f) = bankI r.m (wtR r) n := e
      (refine ⟨_, rfl, rfl, _, rfl, ?_⟩)
      rw [sign_eq]
      by_cases h1 : c = 49
      · rw [if_pos h1] at e
        refine itT h1 ?_
        have hw : atI (IV (r.a ++ r.t)) ((clsR r i : Nat) : Int) = some (.int (wtR r i)) := by
          refine atI_nat (IV_at (List.getElem?_eq_getElem hc2 |>.trans ?_))
          unfold wtR
          rw [List.getD_eq_getElem?_getD, List.getElem?_eq_getElem hc2]
          rfl
        refine ⟨_, rfl, p, _, dx, _, _, rfl, S2 _ _ hp, T.c_Rule, T.n_Rule_moduli, rfl, _, rfl, _, rfl, _, rfl, l, _, _, _, rfl, rfl, .inl hL, hw, m, r.m, f, wtR r i, rfl, S2 _ _ hm, ok.m.few, ok.m.each, fun H3 s3 => ?_⟩
        have hL2 : H3 l = some (.lst (IV (r.a ++ r.t))) := s3 _ _ hL
        refine ⟨_, rfl, _, _, rfl, rfl, _, rfl, l, _, rfl, .inl hL2, _, _, rfl, rfl, _, rfl, ?_⟩
        have ecl := clsR_succ ok.ne i
        refine ite2 (fun hd2 => ?_) (fun hd2 => ?_)
        · have hd2 : ((clsR r i : Nat) : Int) + 1 < ((IV (r.a ++ r.t)).length : Int) := of_decide_eq_true hd2
          rw [IV_len] at hd2
          rw [if_pos (by omega)] at ecl
          refine ⟨_, rfl, _, _, rfl, rfl, s2.trans s3, _, some (.str ⟨#[c]⟩), ?_, e⟩
          rw [ecl]
          rfl
        · have hd2 : ¬ ((clsR r i : Nat) : Int) + 1 < ((IV (r.a ++ r.t)).length : Int) := fun z => hd2 (decide_eq_true z)
          rw [IV_len] at hd2
          rw [if_neg (by omega)] at ecl
          refine ⟨_, rfl, p, _, dx, _, _, rfl, s3 _ _ (s2 _ _ (s1 _ _ hp)), T.c_Rule, T.n_Rule_ahead, rfl, a, _, rfl, .inr (s3 _ _ (s2 _ _ (s1 _ _ ha))), s2.trans s3, _, some (.str ⟨#[c]⟩), ?_, e⟩
          rw [ecl, IV_len]
          rfl
      · rw [if_neg h1] at e
        refine itF h1 ?_
        have s3 := Same.refl H'
        have hL2 : H' l = some (.lst (IV (r.a ++ r.t))) := s3 _ _ hL
        refine ⟨_, rfl, _, _, rfl, rfl, _, rfl, l, _, rfl, .inl hL2, _, _, rfl, rfl, _, rfl, ?_⟩
        have ecl := clsR_succ ok.ne i
        refine ite2 (fun hd2 => ?_) (fun hd2 => ?_)
        · have hd2 : ((clsR r i : Nat) : Int) + 1 < ((IV (r.a ++ r.t)).length : Int) := of_decide_eq_true hd2
          rw [IV_len] at hd2
          rw [if_pos (by omega)] at ecl
          refine ⟨_, rfl, _, _, rfl, rfl, s2.trans s3, _, some (.str ⟨#[c]⟩), ?_, e⟩
          rw [ecl]
          rfl
        · have hd2 : ¬ ((clsR r i : Nat) : Int) + 1 < ((IV (r.a ++ r.t)).length : Int) := fun z => hd2 (decide_eq_true z)
          rw [IV_len] at hd2
          rw [if_neg (by omega)] at ecl
          refine ⟨_, rfl, p, _, dx, _, _, rfl, s3 _ _ (s2 _ _ (s1 _ _ hp)), T.c_Rule, T.n_Rule_ahead, rfl, a, _, rfl, .inr (s3 _ _ (s2 _ _ (s1 _ _ ha))), s2.trans s3, _, some (.str ⟨#[c]⟩), ?_, e⟩
          rw [ecl, IV_len]
          rfl
    · rintro σ H' ⟨s2, f, v, rfl, e⟩
      have e0 : (revB n).drop ((⟨(revB n).toArray⟩ : Str).cps.toList.length) = [] := List.drop_of_length_le (Nat.le_refl _)
      rw [e0] at e
      have e : f = bankI r.m (wtR r) n := e
      refine ⟨_, rfl, ?_⟩
      rw [e]
      exact k H' (s1.trans s2)
end
end K70
-- K70Dict
/-! dicts whose keys are tuples: {t: v}, {**a, **b}, dict(a) -/
namespace K70
open L2 PySem PySem.Spec PyProof.Rows
section
variable {A : Around} {s : Shared} {prog : Program} {w : World} {E : Value → Shared → Prop} {κ : Type} [DecidableEq κ] {knd : HeapKind prog w κ}
theorem put_heap {d a : Addr} {xs : List (κ × Addr × Value)} {k : κ} {v : Value} {Q : Unit → Shared → Prop} (room : knd.room A) (isk : knd.is s.heap k a) (hm : s.heap.DictOfH knd d xs) (hsz : xs.length ≤ sizeLine)
    (hQ : ∀ h', h'.DictOfH knd d (storedH xs k a v) → Heap.SameBut d s.heap h' → Q () { s with heap := h' }) : wpAny (model prog w) A (dictPut d (knd.hash k) (.ref a) v) Q E s := by
  obtain ⟨o, es, ep, ho, hc, hdk, he, his, hn⟩ := hm
  have size := size_of_entries he
  unfold dictPut
  refine wpAny_bind (wpAny_dictFind_heap room isk ho hdk he his hn (fun hno => ?_) (fun j p hj => ?_))
  · have fresh : k ∉ xs.map (·.1) := not_mem_keys_of_get hno
    have put := storedH_new (atKey_none_of_get hno) a v
    refine wpAny_updateDictKeys (hz := by omega) ho hdk (hQ _ ?_ (Heap.SameBut.update ..))
    refine ⟨_, _, ep + 1, Heap.get?_update_self _ ho (Obj.isFreed_of_dict (Obj.data_mapDictKeys hdk _)), hc.mapDictKeys _, Obj.data_mapDictKeys hdk _, ?_, fun x hxk => ?_, ?_⟩
    · rw [put]
      simp [he, entryOfKey]
    · rw [put] at hxk
      rcases List.mem_append.mp hxk with hxk | hxk
      · exact knd.keeps (his x hxk) ho hdk (Heap.SameBut.update ..)
      · cases List.mem_singleton.mp hxk
        exact knd.keeps isk ho hdk (Heap.SameBut.update ..)
    · rw [put, List.map_append, List.nodup_append]
      refine ⟨hn, by simp, fun x hxk y hy e => ?_⟩
      cases List.mem_singleton.mp hy
      exact fresh (by rw [← (show x = k from e)]; exact hxk)
  · have put := storedH_old (atKey_of_get hn hj) a v
    refine wpAny_updateDict ho hdk (hQ _ ?_ (Heap.SameBut.update ..))
    refine ⟨_, _, ep, Heap.get?_update_self _ ho (Obj.isFreed_of_dict (Obj.data_mapDict hdk _)), hc.mapDict _, Obj.data_mapDict hdk _, ?_, fun x hxk => ?_, ?_⟩
    · rw [put]
      have q := modify_map_putAt (entryOfKey knd) (fun e : DictEntry => { e with val := v }) k v (fun _ _ => rfl) hn hj
      rw [← he] at q
      obtain ⟨l⟩ := es
      simpa using q
    · rw [put] at hxk
      obtain ⟨y, hy, rfl⟩ := List.mem_map.mp hxk
      unfold putAt
      split <;> exact knd.keeps (his y hy) ho hdk (Heap.SameBut.update ..)
    · rw [put, keys_map_putAt]
      exact hn
theorem merge_heap {d o : Addr} {kvs more : List (κ × Addr × Value)} {Q : Unit → Shared → Prop} (room : knd.room A) (hdo : d ≠ o) (hoSk : (o == sysModules) = false) (hd : s.heap.DictOfH knd d kvs) (hok : s.heap.DictOfH knd o more)
    (hap : kvs ≠ [] ∨ ((∀ x ∈ more, s.TypeIs (.ref x.2.1) "tuple") ∧ (more.map fun x => knd.hash x.1).Nodup)) (hsz : kvs.length + more.length ≤ sizeLine)
    (hQ : ∀ h', h'.DictOfH knd d (storedAllH kvs more) → h'.DictOfH knd o more → Heap.SameBut d s.heap h' → Q () { s with heap := h' }) : wpAny (model prog w) A (mergeMapping d (.ref o) false) Q E s := by
  obtain ⟨od, esd, epd, hod, hcd, hddk, hed, hisd, hnd⟩ := id hd
  obtain ⟨oo, eso, epo, hoo, hco, hdo'k, heo, hiso, hno⟩ := id hok
  have size : eso.size = more.length := size_of_entries heo
  unfold mergeMapping
  refine wpAny_bind (wpAny_isInstance hok.typeIs isSubtype_dict_dict ?_)
  rw [if_pos rfl]
  refine wpAny_bind (wpAny_specialOf hok.typeIs F.slot_dict_iter.lookup (wpAny_bind (wpAny_pure ?_)))
  have hb : (some (Value.builtin "dict.__iter__") == some (Value.builtin "dict.__iter__")) = true := beq_self_eq_true _
  rw [hb]
  dsimp only
  rw [if_neg (by rw [hoSk]; exact Bool.false_ne_true)]
  refine wpAny_bind (wpAny_dictEntries hod hddk ?_)
  have loopk : wpAny (model prog w) A (do
      let l ← dictEntries o
      let epoch ← dictEpoch o
      forIn (List.range l.size) PUnit.unit fun i (_ : PUnit) => (do
          let l' ← dictEntries o
          match l'[i]? with
            | some e => do
              holding [e.key, e.val] (dictPut d e.hash e.key e.val)
              let ep' ← dictEpoch o
              if ((ep' != epoch) = true) then do
                  (unsupported "dict.changed-during-merge" : Sem PUnit)
                  (pure (ForInStep.yield PUnit.unit))
                else (pure (ForInStep.yield PUnit.unit))
            | _ => do
              (unsupported "dict.changed-during-merge" : Sem PUnit)
              (pure (ForInStep.yield PUnit.unit)) : Sem (ForInStep PUnit))
      pure ()) Q E s := by
    refine wpAny_bind (wpAny_dictEntries hoo hdo'k (wpAny_bind (wpAny_dictEpoch hoo hdo'k (wpAny_bind ?_))))
    refine wpAny_forIn_list _ (fun rest _ s' => ∃ h' i, s' = { s with heap := h' } ∧ rest = (List.range eso.size).drop i ∧ i ≤ eso.size ∧ h'.DictOfH knd d (storedAllH kvs (more.take i)) ∧ h'.DictOfH knd o more ∧ h'.get? o = some oo ∧ Heap.SameBut d s.heap h')
      _ ?_ ?_ _ _ ⟨s.heap, 0, rfl, rfl, Nat.zero_le _, hd, hok, hoo, Heap.SameBut.refl _ _⟩
    · rintro x rest b s' ⟨h', i, rfl, hrk, hi, hd', ho', hoo', hs'⟩
      have hlt : i < eso.size := by
        rcases Nat.lt_or_ge i eso.size with z | z
        · exact z
        · rw [List.drop_of_length_le (by rw [List.length_range]; exact z)] at hrk
          exact nomatch hrk
      rw [List.drop_eq_getElem_cons (by rw [List.length_range]; exact hlt), List.getElem_range] at hrk
      obtain ⟨rfl, rfl⟩ := List.cons.inj hrk
      refine wpAny_bind (wpAny_dictEntries hoo' hdo'k ?_)
      obtain ⟨⟨k, a, v⟩, hkv⟩ : ∃ kv, more[x]? = some kv := ⟨_, List.getElem?_eq_getElem (by rw [← size]; exact hlt)⟩
      rw [entry_at heo x, hkv]
      have few : (storedAllH kvs (more.take x)).length ≤ sizeLine := by
        have e1k := storedAllH_length (more.take x) kvs
        rw [List.length_take] at e1k
        omega
      have isk : knd.is h' k a := by
        obtain ⟨_, _, _, _, _, _, _, all, _⟩ := ho'
        exact all (k, a, v) (List.mem_of_getElem? hkv)
      refine wpAny_bind (wpAny_holding (put_heap (s := { s with heap := h' }) room isk hd' few fun h2 hd2 hs2 => ?_))
      have hoo2 : h2.get? o = some oo := (hs2.2 o (Ne.symm hdo)).trans hoo'
      refine wpAny_bind (wpAny_dictEpoch hoo2 hdo'k ?_)
      rw [if_neg (by simp)]
      exact wpAny_pure ⟨h2, x + 1, rfl, rfl, hlt, by rw [storedAllH_take_succ kvs more x (k, a, v) hkv]; exact hd2, ho'.notHere hd' hdo hs2, hoo2, hs'.trans hs2⟩
    · rintro b s' ⟨h', i, rfl, hrk, hi, hd', ho', hoo', hs'⟩
      have hin : i = more.length := by
        have z := congrArg List.length hrk
        rw [List.length_drop, List.length_range, List.length_nil] at z
        omega
      rw [hin, List.take_length] at hd'
      exact wpAny_pure (hQ h' hd' ho' hs')
  split
  · rename_i hemp
    have hkvs : kvs = [] := by
      have h0 := size_of_entries hed
      rw [Array.isEmpty_iff.mp hemp] at h0
      exact List.length_eq_zero_iff.mp h0.symm
    obtain ⟨ty, nd⟩ := hap.resolve_left fun h => h hkvs
    have apart := keysApart heo ty nd
    refine wpAny_bind (wpAny_dictEntries hoo hdo'k ?_)
    refine wpAny_bind ?_
    rw [← Array.forIn_toList]
    refine wpAny_forIn_list _ (fun rest _ s' => s' = s ∧ ∀ e ∈ rest, KeyApart s eso e ∧ ∃ a, e.key = .ref a ∧ s.TypeIs (.ref a) "tuple") _ ?_ ?_ _ _ ⟨rfl, fun e he => ⟨apart e he, ?_⟩⟩
    · rintro e rest b s' ⟨rfl, all⟩
      have next : ∀ x ∈ rest, KeyApart s' eso x ∧ ∃ a, x.key = .ref a ∧ s'.TypeIs (.ref a) "tuple" := fun x hx => all x (List.mem_cons_of_mem _ hx)
      obtain ⟨q, a, hk, hTk⟩ := all e List.mem_cons_self
      have one : ¬ (eso.filter (·.hash == e.hash)).size > 1 := by
        rcases q with q | ⟨_, _, _, q⟩
        · rw [hk] at q
          exact nomatch q
        · omega
      rw [hk]
      refine wpAny_bind (wpAny_specialOf hTk F.slot_tuple_eq.lookup ?_)
      rw [if_pos (by decide), if_neg one]
      exact wpAny_pure ⟨rfl, next⟩
    · rintro b s' ⟨rfl, _⟩
      exact loopk
    · rw [heo] at he
      obtain ⟨x, hx, rfl⟩ := List.mem_map.mp he
      exact ⟨x.2.1, rfl, ty x hx⟩
  · exact loopk
end
/-- later ones win -/
def mergeT (kvs more : List (List L2.Key × V)) : List (List L2.Key × V) := more.foldl (fun acc kv => putK acc kv.1 kv.2) kvs
theorem kt_merge {H : Hp} : ∀ {more : List (List L2.Key × V)} {ys : List (List L2.Key × Addr × Value)} {kvs : List (List L2.Key × V)} {xs : List (List L2.Key × Addr × Value)}, KT H more ys → KT H kvs xs → KT H (mergeT kvs more) (storedAllH xs ys)
  | _, _, _, _, .nil, r => r
  | _, _, kvs, xs, @Paired.cons _ _ _ p q ps qs h t, r => by
    have one : KT H (putK kvs p.1 p.2) (storedH xs q.1 q.2.1 q.2.2) := by
      have z := r.put p.1 h.2.1 h.2.2
      rw [h.1] at z ⊢
      exact z
    show KT H (mergeT (putK kvs p.1 p.2) ps) (storedAllH (storedH xs q.1 q.2.1 q.2.2) qs)
    exact kt_merge t one
theorem length_mergeT : ∀ (more kvs : List (List L2.Key × V)), (mergeT kvs more).length ≤ kvs.length + more.length
  | [], kvs => Nat.le_refl _
  | p :: r, kvs => by
    have h1 := length_mergeT r (putK kvs p.1 p.2)
    have h2k := length_putK kvs p.1 p.2
    show (mergeT (putK kvs p.1 p.2) r).length ≤ kvs.length + (r.length + 1)
    omega
def HashNd (P : Program) (w : World) (kvs : List (List L2.Key × V)) : Prop := (kvs.map fun kv => (tupleKind (mixKind P w)).hash kv.1).Nodup
theorem kt_hash {P : Program} {w : World} {H : Hp} : ∀ {kvs : List (List L2.Key × V)} {xs : List (List L2.Key × Addr × Value)}, KT H kvs xs → (xs.map fun x => (tupleKind (mixKind P w)).hash x.1) = kvs.map fun kv => (tupleKind (mixKind P w)).hash kv.1
  | _, _, .nil => rfl
  | _, _, .cons h t => by rw [List.map_cons, List.map_cons, kt_hash t, h.1]
theorem kt_types {P : Program} {w : World} {H : Hp} {s : Shared} (ok : HOk P w H s.heap) : ∀ {kvs : List (List L2.Key × V)} {xs : List (List L2.Key × Addr × Value)}, KT H kvs xs → ∀ x ∈ xs, s.TypeIs (.ref x.2.1) "tuple"
  | _, _, .nil => fun x h => nomatch h
  | _, _, .cons h t => fun x hxk => by
    rcases List.mem_cons.mp hxk with e | hxk
    · rw [e]
      obtain ⟨_, its, _, q⟩ := ok _ _ h.2.1
      exact IsTup.typeIs q
    · exact kt_types ok t x hxk
section
variable {X : Cx} {pos : Pos} {a b : Expr} {ta tb : TE}
/-- {**a, **b} -/
def tMerge2 (P : Program) (w : World) (ta tb : TE) : TE := fun σ H Q => ∀ p, H p = none → ta σ (upd H p (.dT [])) fun x H1 => ∃ a kvs, x = .ref a ∧ a ≠ p ∧ H1 a = some (.dT kvs) ∧ H1 p = some (.dT []) ∧ HashNd P w kvs ∧
  tb σ (upd H1 p (.dT kvs)) fun y H2 => ∃ b more, y = .ref b ∧ b ≠ p ∧ H2 b = some (.dT more) ∧ H2 p = some (.dT kvs) ∧ HashNd P w more ∧ kvs.length + more.length ≤ sizeLine ∧ Q (.ref p) (upd H2 p (.dT (mergeT kvs more)))
theorem merge_in {pins : List (Addr × Obj)} {σ : L2.St} {H : Hp} {s : Shared} {p a : Addr} {kvs more : List (List L2.Key × V)} {E : Value → Shared → Prop} {Q : Unit → Shared → Prop} {A : Around} (hu : A.units < cLine) (I : Inv X pins σ H s) (hp : H p = some (.dT kvs)) (ha : H a = some (.dT more)) (hne : a ≠ p)
    (hh : HashNd X.prog X.w more) (hl : kvs.length + more.length ≤ sizeLine) (h : ∀ s', Inv X pins σ (upd H p (.dT (mergeT kvs more))) s' → Q () s') : wpAny (model X.prog X.w) A (mergeMapping p (.ref a) false) Q E s := by
  obtain ⟨z1, hd1, xs, r1, d1⟩ := dt_of I.hok hp
  obtain ⟨z2, hd2, ys, r2, d2⟩ := dt_of I.hok ha
  have l1 : xs.length = kvs.length := (Paired.length r1).symm
  have l2 : ys.length = more.length := (Paired.length r2).symm
  refine merge_heap hu (Ne.symm hne) hd2 d1 d2 (.inr ⟨kt_types I.hok r2, ?_⟩) (by omega) fun h' dd' _ hs => h _ ?_
  · rw [kt_hash r2]
    exact hh
  · obtain ⟨q, es, ep, hq, h2, h3, h4, _, h5⟩ := dd'
    have len : (mergeT kvs more).length ≤ sizeLine := Nat.le_trans (length_mergeT more kvs) hl
    refine d_write I (by rw [hp]; exact True.intro) hs ⟨q, hq⟩ ⟨len, hd1, _, (kt_merge r2 r1).keeps fun c zs ec => ?_, q, es, ep, hq, h2, h3, h4, h5⟩
    rw [upd_ne (ne_of ec hp (fun z => nomatch z))]
    exact ec
theorem mergeT_nil {P : Program} {w : World} {H : Hp} {h : Heap} {d : Addr} {kvs : List (List L2.Key × V)} (ok : HOk P w H h) (e : H d = some (.dT kvs)) : mergeT [] kvs = kvs := by
  obtain ⟨_, _, xs, r, dd⟩ := dt_of ok e
  have nd : (kvs.map (·.1)).Nodup := by
    have key : ∀ {l : List (List L2.Key × V)} {m : List (List L2.Key × Addr × Value)}, KT H l m → m.map (·.1) = l.map (·.1) := fun r => by
      induction r with
      | nil => rfl
      | cons h t ihk => rw [List.map_cons, List.map_cons, ihk, h.1]
    rw [← key r]
    exact dd.nodup
  have go : ∀ (more acc : List (List L2.Key × V)), ((acc ++ more).map (·.1)).Nodup → mergeT acc more = acc ++ more := fun more => by
    induction more with
    | nil => intro acc _; exact (List.append_nil acc).symm
    | cons p r ihk =>
      intro acc hn
      have fresh : (acc.any fun kv => decide (kv.1 = p.1)) = false := by
        rw [List.any_eq_false]
        intro x hx
        rw [List.map_append, List.nodup_append] at hn
        have := hn.2.2 x.1 (List.mem_map_of_mem hx) p.1 (by simp)
        simpa using this
      have e1 : putK acc p.1 p.2 = acc ++ [p] := by
        unfold putK
        rw [fresh]
        rfl
      show mergeT (putK acc p.1 p.2) r = acc ++ p :: r
      rw [e1, ihk (acc ++ [p]) (by rw [List.append_assoc]; exact hn), List.append_assoc]
      rfl
  exact go kvs [] nd
theorem pe_merge2 (hu : X.A.units + 1 < cLine) (ha : PE X a ta) (hb : PE X b tb) : PE X (.Dict [none, none] [a, b] pos) (tMerge2 X.prog X.w ta tb) := by
  refine ⟨fun pins s σ H Q Ik h => ?_⟩
  have hn := Ik.hok.fresh (Nat.le_refl s.heap.objs.size)
  have I1 := Ik.laid (a := s.heap.objs.size) (o := .dT []) (h' := s.heap.push { cls := .type "dict", data := .dict #[] }) (t' := s.toks) (fun _ _ q => Heap.get?_push_of_some _ q) (Nat.le_refl _) (dt_empty s.heap Ik.big)
  rw [arm_eval_Dict]
  show wpAny _ _ (standAt pos >>= fun _ => dictDisplay [(none, do let x ← eval a X.env; standAt pos; pure x), (none, do let x ← eval b X.env; standAt pos; pure x)]) _ _ _
  (refine wpAny_bind (wpAny_standAt ?_))
  unfold dictDisplay
  simp only [List.forIn_cons, List.forIn_nil, List.isEmpty_nil, if_true, pure_bind, bind_assoc]
  (refine wpAny_bind (wpAny_alloc ?_))
  refine wpAny_bind (wpAny_holding (wpAny_bind (thn (ha.run pins _ σ _ _ I1 (h _ hn)) fun u s2 ⟨x, H1, I2, rx, a1, kvs, ex, ne1, ea, ep, hh, q⟩ => wpAny_bind (wpAny_standAt (wpAny_pure ?_)))))
  subst ex
  obtain rfl : u = Value.ref a1 := rx
  have zl : ([] : List (List L2.Key × V)).length + kvs.length ≤ sizeLine := by
    have := (dt_of I2.hok ea).1
    rw [List.length_nil]
    omega
  refine wpAny_bind (wpAny_onRaise (wpAny_tryCatch (wpAny_onRaise (wpAny_holding (merge_in (by omega) I2 ep ea ne1 hh zl fun s3 I3 => ?_)))))
  rw [mergeT_nil I2.hok ea] at I3
  refine wpAny_bind (wpAny_holding (wpAny_bind (thn (hb.run pins _ σ _ _ I3 q) fun u s4 ⟨y, H2, I4, ry, b1, more, ey, ne2, eb, ep2, hh2, zl2, q2⟩ => wpAny_bind (wpAny_standAt (wpAny_pure ?_)))))
  subst ey
  obtain rfl : u = Value.ref b1 := ry
  refine wpAny_bind (wpAny_onRaise (wpAny_tryCatch (wpAny_onRaise (wpAny_holding (merge_in (by omega) I4 ep2 eb ne2 hh2 zl2 fun s5 I5 => wpAny_pure ?_)))))
  exact ⟨.ref _, _, I5, rfl, q2⟩
/-- {t: v}, t a tuple -/
def tDisp1T (tk tv : TE) : TE := fun σ H Q => ∀ p, H p = none → tk σ (upd H p (.dT [])) fun x H1 => tv σ H1 fun y H2 => ∃ b ks, x = .ref b ∧ H2 b = some (.tup (ks.map kV)) ∧ H2 p = some (.dT []) ∧ Q (.ref p) (upd H2 p (.dT [(ks, y)]))
theorem pe_disp1T (hu : X.A.units + 1 < cLine) (ha : PE X a ta) (hb : PE X b tb) : PE X (.Dict [some a] [b] pos) (tDisp1T ta tb) := by
  refine ⟨fun pins s σ H Q Ik h => ?_⟩
  have hn := Ik.hok.fresh (Nat.le_refl s.heap.objs.size)
  have I1 := Ik.laid (a := s.heap.objs.size) (o := .dT []) (h' := s.heap.push { cls := .type "dict", data := .dict #[] }) (t' := s.toks) (fun _ _ q => Heap.get?_push_of_some _ q) (Nat.le_refl _) (dt_empty s.heap Ik.big)
  have len1 : (pairTrees [some a] [b] X.env pos).length = 1 := pairTrees_length [some a] [b] X.env pos rfl rfl
  rw [arm_eval_Dict, zip_pairTrees [some a] [b] X.env pos rfl rfl, dictDisplay_pairs _ (fun z => by rw [z] at len1; exact nomatch len1) (by omega)]
  refine wpAny_bind (wpAny_standAt (wpAny_bind (wpAny_subDictH (knd := tupleKind (mixKind X.prog X.w)) (Q := fun d s' => wpAny (model X.prog X.w) X.A (pure (Value.ref d)) (EP X pins σ Q) X.xe s') (show X.A.units < cLine by omega) (by omega) ?_)))
  refine pairTrees_cons_walk (thn (ha.run pins _ σ _ _ I1 (h _ hn)) fun u s2 ⟨x, H1, I2, rx, q1⟩ => thn (hb.run pins _ σ _ _ I2 q1) fun v s3 ⟨y, H2, I3, ry, c, ks, ex, ec, ep, q2⟩ => pairTrees_nil_walk ?_)
  subst ex
  obtain rfl : u = Value.ref c := rx
  obtain ⟨_, hd, xs, r0, dd⟩ := dt_of I3.hok ep
  cases r0
  refine ⟨[(ks, c, v)], ⟨rfl, rfl, key_of I3.hok ec, True.intro⟩, dd, fun h' tk dd' hs => wpAny_pure ⟨.ref _, _, ?_, rfl, q2⟩⟩
  obtain ⟨q, es, ep', hq, h2, h3, h4, _, h5⟩ := dd'
  have kt : KT (upd H2 s.heap.objs.size (.dT [(ks, y)])) [(ks, y)] [(ks, c, v)] := .cons ⟨rfl, by rw [upd_ne (ne_of ec ep (fun z => nomatch z))]; exact ec, ry⟩ .nil
  exact d_write I3 (by rw [ep]; exact True.intro) hs ⟨q, hq⟩ ⟨by show 1 ≤ sizeLine; decide, hd, _, kt, q, es, ep', hq, h2, h3, h4, h5⟩
theorem dict_of_heap {prog : Program} {w : World} {A : Around} {E : Value → Shared → Prop} {s : Shared} {κ : Type} [DecidableEq κ] {knd : HeapKind prog w κ} {o : Addr} {more : List (κ × Addr × Value)} {Q : Value → Shared → Prop} (room : knd.room A.in1.in1) (hoS : (o == sysModules) = false) (ho : s.heap.DictOfH knd o more) (hsz : more.length ≤ sizeLine)
    (isk : ∀ h', (∀ b o, s.heap.get? b = some o → h'.get? b = some o) → ∀ x ∈ more, knd.is h' x.1 x.2.1) (ty : ∀ x ∈ more, s.TypeIs (.ref x.2.1) "tuple") (nd : (more.map fun x => knd.hash x.1).Nodup)
    (h : ∀ h', h'.DictOfH knd s.heap.objs.size more → Heap.SameBut s.heap.objs.size (s.heap.push { cls := .type "dict", data := .dict #[] }) h' → Q (.ref s.heap.objs.size) { s with heap := h' }) : wpAny (model prog w) A (call (.type "dict") [.ref o]) Q E s := by
  refine callType_codes (Q₁ := fun new s1 => new = .ref s.heap.objs.size ∧ s1 = { s with heap := s.heap.push { cls := .type "dict", data := .dict #[] } }) F.kt_called_dict (F.kt_typeCall_dict_1 _) F.entry_dict_init (kt_code_dict_new _ ⟨rfl, rfl⟩) ?_
  rintro new s1 ⟨rfl, rfl⟩
  have grow : ∀ b o, s.heap.get? b = some o → (s.heap.push { cls := .type "dict", data := .dict #[] }).get? b = some o := fun b o e => Heap.get?_push_of_some _ e
  have empty : (s.heap.push { cls := .type "dict", data := .dict #[] }).DictOfH knd s.heap.objs.size [] := Heap.DictOfH.new s.heap
  obtain ⟨oo, eso, epo, hoo, hco, hdo, heo, _, hno⟩ := id ho
  have src : (s.heap.push { cls := .type "dict", data := .dict #[] }).DictOfH knd o more := ⟨oo, eso, epo, grow _ _ hoo, hco, hdo, heo, isk _ grow, hno⟩
  have ne : s.heap.objs.size ≠ o := fun e => absurd (Heap.lt_size hoo) (by rw [e]; exact Nat.lt_irrefl _)
  refine ⟨empty.typeIs, F.args_dict_init_2 _ _, ?_⟩
  (unfold Builtin.«dict.__init__»)
  refine wpAny_bind ?_
  (unfold Builtin.Dict.selfAndRest)
  refine wpAny_bind (wpAny_notOrdered_dict empty.typeIs (wpAny_pure ?_))
  (show wpAny _ _ (Builtin.Dict.updateFrom "dict.__init__" s.heap.objs.size (.ref o) [] .none) _ _ _)
  refine updateFrom_dictH (R := wants (fun r s2 => r = .none ∧ Q (.ref s.heap.objs.size) s2) E) .none room ne hoS empty src (.inr ⟨fun x hx => ?_, nd⟩) (by rw [List.length_nil]; omega) fun h' dd' _ hs => ⟨rfl, ?_⟩
  · obtain ⟨ot, e, c⟩ := ty x hx
    exact ⟨ot, grow _ _ e, c⟩
  · rw [storedAllH_nil_of_nodup more hno] at dd'
    exact h h' dd' hs
/-- dict(d), d a dict of tuple keys -/
theorem call_dictT (hu : X.A.units + 2 < cLine) : CallR X (.type "dict") (fun xs H Q => ∃ a kvs, xs = [.ref a] ∧ H a = some (.dT kvs) ∧ HashNd X.prog X.w kvs ∧ ∀ p, H p = none → Q (.ref p) (upd H p (.dT kvs))) := by
  intro pins s σ H xs us Q Ik r h
  obtain ⟨a, kvs, rfl, ha, hh, q⟩ := h
  obtain ⟨u, rfl, ruk⟩ := r.one
  obtain rfl : u = Value.ref a := ruk
  obtain ⟨z, hd, ys, rel, dd⟩ := dt_of Ik.hok ha
  have isk : ∀ h', (∀ b o, s.heap.get? b = some o → h'.get? b = some o) → ∀ x ∈ ys, (tupleKind (mixKind X.prog X.w)).is h' x.1 x.2.1 := fun h' grow x hx => by
    obtain ⟨_, _, _, _, _, _, _, all, _⟩ := dd
    obtain ⟨ot, its, n, e, c, d, k⟩ := all x hx
    exact ⟨ot, its, n, grow _ _ e, c, d, k⟩
  refine dict_of_heap (knd := tupleKind (mixKind X.prog X.w)) ?_ hd dd (by rw [← Paired.length rel]; exact z) isk (kt_types Ik.hok rel) (by rw [kt_hash rel]; exact hh) fun h' dd' hs => ⟨.ref _, _, ?_, rfl, q _ (Ik.hok.fresh (Nat.le_refl _))⟩
  · show X.A.in1.in1.units < cLine
    have e : X.A.in1.in1.units = X.A.units + 2 := rfl
    omega
  · obtain ⟨oq, es, ep, hq, h2, h3, h4, _, h5⟩ := dd'
    have hn := Ik.hok.fresh (Nat.le_refl s.heap.objs.size)
    have grow : ∀ b ob, s.heap.get? b = some ob → h'.get? b = some ob := fun b ob e => (hs.2 b (Nat.ne_of_lt (Heap.lt_size e))).trans (Heap.get?_push_of_some _ e)
    refine Ik.laid (t' := s.toks) grow (Nat.le_refl _) ⟨z, beq_eq_false_iff_ne.mpr (Ne.symm (Nat.ne_of_lt Ik.big)), ys, rel.keeps fun c zs ec => ?_, oq, es, ep, hq, h2, h3, h4, h5⟩
    rw [upd_ne (ne_of_none ec hn)]
    exact ec
/-! ### for k in d if .. else {} -/
theorem pi_ifExp {tg c : Expr} {tA : TT} {wa wb : TI} (hc : PT X c tA) (ha : PI X tg a wa) (hb : PI X tg b wb) : PI X tg (.IfExp c a b pos) (fun σ H R => tA σ H fun d H1 => if d = true then wa σ H1 R else wb σ H1 R) := by
  refine ⟨fun pins s σ H R Ik h => ?_⟩
  refine wpAny_IfExp (thn (hc.run pins s σ H _ Ik h) fun d s1 ⟨H1, I1, q1⟩ => ?_)
  cases d with
  | true => exact ha.run pins s1 σ H1 R I1 q1
  | false => exact hb.run pins s1 σ H1 R I1 q1
/-- {} walked: nothing comes -/
theorem pi_dnewT {tg : Expr} : PI X tg (.Dict [] [] pos) (fun _ H R => ∀ d od, H d = none → R (Itkt d od []) (upd H d (.frz od (.dT [])))) := by
  refine ⟨fun pins s σ H R Ik h => ?_⟩
  refine thn ((pe_dnewT (pos := pos)).run pins s σ H (fun x H1 => ∃ d, x = .ref d ∧ H d = none ∧ H1 = upd H d (.dT [])) Ik fun p hp => ⟨p, rfl, hp, rfl⟩) fun u s1 ⟨x, H1, I1, rxk, d, ex, hp, e1⟩ => ?_
  subst ex e1
  obtain rfl : u = Value.ref d := rxk
  obtain ⟨od, I2⟩ := I1.lock upd_same True.intro
  rw [upd_upd] at I2
  obtain ⟨hs, hgd, hx, es, ep, hdt, hsz, _⟩ := I2.frzT upd_same
  refine iter_keys hs hgd hx hdt (pi_one (tk := s1.toks) I2 _ (turn_keysT _ hdt) ⟨_, Heap.get?_push_size _ rfl, rfl, ?_⟩ (h d od hp))
  rw [hsz]
  rfl
end
end K70
-- K70F8
namespace K70
open L2 PySem PySem.Spec PyProof.Rows StX
/-! ### tables: the least address for each pair of banks -/
abbrev Tab := List ((Int × Int) × Nat)
def kT (k : Int × Int) : List L2.Key := [.inl k.1, .inl k.2]
def dtI (t : Tab) : List (List L2.Key × V) := t.map fun e => (kT e.1, V.int (e.2 : Int))
def getT (t : Tab) (k : Int × Int) : Option Nat := (t.find? fun e => decide (e.1 = k)).map (·.2)
def putT (t : Tab) (k : Int × Int) (v : Nat) : Tab := if t.any (fun e => decide (e.1 = k)) = true then t.map (fun e => if e.1 = k then (e.1, v) else e) else t ++ [(k, v)]
theorem kT_inj {a b : Int × Int} (h : kT a = kT b) : a = b := by
  obtain ⟨a1, a2⟩ := a
  obtain ⟨b1, b2⟩ := b
  injection h with h1 h2
  injection h2 with h2 _
  injection h1 with h1
  injection h2 with h2
  subst h1 h2
  rfl
theorem valV_dtI (k : Int × Int) : ∀ t : Tab, valV (dtI t) (kT k) = (getT t k).map fun (n : Nat) => V.int (n : Int)
  | [] => rfl
  | e :: r => by
    show valV ((kT e.1, V.int (e.2 : Int)) :: dtI r) (kT k) = _
    unfold getT
    by_cases h : e.1 = k
    · rw [valV_pos (show (kT e.1, V.int (e.2 : Int)).1 = kT k by rw [← h]), List.find?_cons_of_pos (by simpa using h)]
      rfl
    · rw [valV_neg (show ¬ (kT e.1, V.int (e.2 : Int)).1 = kT k from fun z => h (kT_inj z)), List.find?_cons_of_neg (by simpa using h)]
      exact valV_dtI k r
theorem putK_dtI (t : Tab) (k : Int × Int) (v : Nat) : putK (dtI t) (kT k) (V.int (v : Int)) = dtI (putT t k v) := by
  unfold putK putT dtI
  rw [List.any_map]
  have e1 : ((fun kv : List L2.Key × V => decide (kv.1 = kT k)) ∘ fun e : (Int × Int) × Nat => (kT e.1, V.int (e.2 : Int))) = fun e => decide (e.1 = k) := by
    funext e
    show decide (kT e.1 = kT k) = decide (e.1 = k)
    by_cases h : e.1 = k
    · rw [decide_eq_true h, decide_eq_true (by rw [h])]
    · rw [decide_eq_false h, decide_eq_false fun z => h (kT_inj z)]
  rw [e1]
  split
  · rw [List.map_map, List.map_map]
    refine List.map_congr_left fun e _ => ?_
    show (if kT e.1 = kT k then (kT e.1, V.int (v : Int)) else (kT e.1, V.int (e.2 : Int))) = (fun e : (Int × Int) × Nat => (kT e.1, V.int (e.2 : Int))) (if e.1 = k then (e.1, v) else e)
    by_cases h : e.1 = k
    · rw [if_pos h, if_pos (by rw [h])]
    · rw [if_neg h, if_neg fun z => h (kT_inj z)]
  · rw [List.map_append]
    rfl
theorem dtI_len (t : Tab) : (dtI t).length = t.length := List.length_map ..
theorem putT_len (t : Tab) (k : Int × Int) (v : Nat) : (putT t k v).length ≤ t.length + 1 := by
  unfold putT
  split
  · rw [List.length_map]; omega
  · rw [List.length_append]; exact Nat.le_refl _
theorem dtI_at {t : Tab} {i : Nat} {k : List L2.Key} {v : V} (h : (dtI t)[i]? = some (k, v)) : ∃ e, t[i]? = some e ∧ k = kT e.1 ∧ v = V.int (e.2 : Int) := by
  unfold dtI at h
  rw [List.getElem?_map] at h
  cases e : t[i]? with
  | none => (rw [e] at h; cases h)
  | some x =>
    rw [e] at h
    injection h with h
    injection h with h1 h2
    exact ⟨x, rfl, h1.symm, h2.symm⟩
theorem getT_some {t : Tab} {k : Int × Int} {v : Nat} (h : getT t k = some v) : (k, v) ∈ t := by
  unfold getT at h
  cases e : t.find? (fun e => decide (e.1 = k)) with
  | none => (rw [e] at h; cases h)
  | some x =>
    rw [e] at h
    injection h with h
    have m := List.mem_of_find?_eq_some e
    have p0 : decide (x.1 = k) = true := List.find?_some (p := fun e : (Int × Int) × Nat => decide (e.1 = k)) e
    have p := of_decide_eq_true p0
    obtain ⟨x1, x2⟩ := x
    simp only [] at p h
    subst p h
    exact m
def NdT (t : Tab) : Prop := (t.map (·.1)).Nodup
theorem getT_mem {t : Tab} (ndk : NdT t) {e : (Int × Int) × Nat} (h : e ∈ t) : getT t e.1 = some e.2 := by
  induction t with
  | nil => exact nomatch h
  | cons x r ih =>
    unfold NdT at ndk
    rw [List.map_cons, List.nodup_cons] at ndk
    (rcases List.mem_cons.mp h with q | q)
    · subst q
      unfold getT
      rw [List.find?_cons_of_pos (by simp)]
      rfl
    · have ne : ¬ x.1 = e.1 := fun z => ndk.1 (by rw [z]; exact List.mem_map_of_mem q)
      unfold getT
      rw [List.find?_cons_of_neg (by simpa using ne)]
      exact ih ndk.2 q
/-! ### a step of the table -/
def moveK (r s : PR) (n : Nat) (k : Int × Int) : Int × Int := (sumI r.m k.1 (wtR r n), sumI s.m k.2 (wtR s n))
def movedGo (f : Tab) (mv : Int × Int → Int × Int) (b : Nat) : Tab → Tab → Tab
  | [], l => l
  | e :: r, l => movedGo f mv b r (if (getT f (mv e.1)).isSome = true then l else putT l (mv e.1) (min (b + e.2) ((getT l (mv e.1)).getD (b + e.2))))
def movedT (r s : PR) (f : Tab) (n : Nat) : Tab := if wtR r n = 0 ∧ wtR s n = 0 then [] else movedGo f (moveK r s n) (2 ^ n) f []
theorem movedGo_len (f : Tab) (mv : Int × Int → Int × Int) (b : Nat) : ∀ (t l : Tab), (movedGo f mv b t l).length ≤ l.length + t.length
  | [], l => Nat.le_refl _
  | e :: r, l => by
    have h := movedGo_len f mv b r (if (getT f (mv e.1)).isSome = true then l else putT l (mv e.1) (min (b + e.2) ((getT l (mv e.1)).getD (b + e.2))))
    have h2 : (if (getT f (mv e.1)).isSome = true then l else putT l (mv e.1) (min (b + e.2) ((getT l (mv e.1)).getD (b + e.2)))).length ≤ l.length + 1 := by
      split
      · omega
      · exact putT_len _ _ _
    show (movedGo f mv b r _).length ≤ l.length + (r.length + 1)
    omega
/-- keys within the banks -/
def InT (r s : PR) (t : Tab) : Prop := ∀ e ∈ t, (0 ≤ e.1.1 ∧ e.1.1 < prodI r.m) ∧ (0 ≤ e.1.2 ∧ e.1.2 < prodI s.m)
theorem RuleAt.lock {K : PySem.W.Frag} {H : Hp} {p d : Addr} {r : PR} {kvs : List (List L2.Key × V)} {o : HO} (h : RuleAt K H p r) (hd : H d = some (.dT kvs)) : RuleAt K (upd H d o) p r := by
  obtain ⟨dx, m, a, t, h1, h2, h3, h4⟩ := h
  have ne : ∀ {b : Addr} {l : List Int}, TpI H b l → b ≠ d := fun e => ne_of e hd (fun z => nomatch z)
  have st : ∀ {b : Addr} {l : List Int}, TpI H b l → TpI (upd H d o) b l := fun e => by
    unfold TpI
    rw [upd_ne (ne e)]
    exact e
  exact ⟨dx, m, a, t, by rw [upd_ne (ne_of h1 hd (fun z => nomatch z))]; exact h1, st h2, st h3, st h4⟩
/-- a loop over the keys of a locked dict of tuple keys -/
theorem for_keysT {d : Addr} {od : Obj} {kvs : List (List L2.Key × V)} {g : TG} {tb : TS} {D : Ends} {σk : L2.St} {H : Hp} (Pv : Nat → L2.St → Hp → Prop) (h0 : Pv 0 σk H) (hq : ∀ i σk H, Pv i σk H → H d = some (.frz od (.dT kvs)))
    (hs : ∀ (i : Nat) (k : List L2.Key) (v : V) (q : Addr) (σk : L2.St) (H : Hp), kvs[i]? = some (k, v) → H q = some (.tup (k.map kV)) → Pv i σk H → g (.ref q) σk H fun σ2 H2 => tb { D with nx := Pv (i + 1), ct := Pv (i + 1), bk := D.nx } σ2 H2) (hd : ∀ σk H, Pv kvs.length σk H → D.nx σk H) :
    ∃ W : Nat → Nat → L2.St → Hp → Prop, (∃ m, W 0 m σk H) ∧ ∀ i m σk H, W i m σk H →
      ((Itkt d od kvs).stop i H ∧ D.nx σk H) ∨ ((Itkt d od kvs).go i H ∧ ∃ N : L2.St → Hp → Prop, (∀ σ' H', N σ' H' → ∃ m', m' < m ∧ W (i + 1) m' σ' H') ∧ ∀ v H', (Itkt d od kvs).yld i H v H' → g v σk H' fun σ2 H2 => tb { D with nx := N, ct := N, bk := D.nx } σ2 H2) := by
  refine ⟨fun i m σk H => m = kvs.length - i ∧ i ≤ kvs.length ∧ Pv i σk H, ⟨kvs.length, rfl, Nat.zero_le _, h0⟩, ?_⟩
  rintro i m σk H ⟨rfl, hi, p⟩
  have g0 := hq i σk H p
  by_cases hlt : i < kvs.length
  · refine .inr ⟨⟨g0, hlt⟩, Pv (i + 1), fun σ' H' p' => ⟨kvs.length - (i + 1), by omega, rfl, hlt, p'⟩, fun v H' y => ?_⟩
    obtain ⟨rfl, k, u, q, hk, rfl, hq'⟩ := y
    exact hs i k u q σk H' hk hq' p
  · have e : i = kvs.length := by omega
    subst e
    exact .inl ⟨⟨g0, Nat.le_refl _⟩, hd σk H p⟩
theorem nbT {b : Bool} {A B : Prop} (h : b = true) (k : B) : if (!b) = true then A else B := by
  rw [h]
  exact k
theorem nbF {b : Bool} {A B : Prop} (h : b = false) (k : A) : if (!b) = true then A else B := by
  rw [h]
  exact k
theorem pair_eq (a b c d : Int) : PyData.eqv (.tuple [PyData.int a, PyData.int b]) (.tuple [PyData.int c, PyData.int d]) = decide (a = c ∧ b = d) := by
  have h := eqv_tup [a, b] [c, d]
  rw [show PyData.eqv (.tuple [PyData.int a, PyData.int b]) (.tuple [PyData.int c, PyData.int d]) = _ from h]
  congr 1
  simp
section
variable {K : PySem.W.Frag} {mg : Str → Option Value} {base : Heap} {P : Program} {w : World}
def sp_need_rule (K : PySem.W.Frag) : Sp := fun vs H Q _ => ∃ (p : Addr) (x : Str) (dx : Addr) (fs : List (Str × V)), vs = [.ref p, .str x] ∧ H p = some (.ins (He.ga K "Rule") dx fs) ∧ Q .non H
theorem sc_need_rule : FnScope ["rule", "part"] ["rule", "part"] (defScope sneed_rule) := ⟨rfl, rfl, rfl, by decide +kernel, rfl, by decide +kernel, by decide +kernel⟩
theorem ok_need_rule (T : Tx K mg) : Fnc P w K mg base 1 "need_rule" (He.ga K "need_rule") ["rule", "part"] (sp_need_rule K) := by
  refine fnc_of T.fneed_rule T.g_need_rule sc_need_rule (fun _ _ _ _ _ _ us hl => match us, hl with | [_, _], _ => rfl) (fun vs H Q E h => ?_) (fun cdv A outer s H vs Q E hr h => ?_)
  · obtain ⟨p, x, dx, fs, rfl, _⟩ := h
    rfl
  · obtain ⟨p, x, dx, fs, rfl, hp, k⟩ := h
    refine ⟨_, (pss_one (ps_if (pt_not (pt_val (pe_callB call_isi (by rfl) T.b_isinstance (by decide +kernel) (pa_cons (pv 0) (pa_cons (pe_glob (v := .ref (He.ga K "Rule")) (by rfl) T.g_Rule rfl) pa_nil))))) (pss_one ps_never) pss_nil)), ?_⟩
    exact ⟨_, rfl, _, _, _, _, _, rfl, .own _, T.ty_Rule hp, kit_same, true, rfl, iteF k⟩
def sp_need_rules (K : PySem.W.Frag) : Sp := fun vs H Q _ => ∃ (p q : Addr) (r s : PR), vs = [.ref p, .ref q] ∧ RuleAt K H p r ∧ RuleAt K H q s ∧ Q .non H
theorem sc_need_rules : FnScope ["one", "other"] ["one", "other"] (defScope sneed_rules) := ⟨rfl, rfl, rfl, by decide +kernel, rfl, by decide +kernel, by decide +kernel⟩
theorem ok_need_rules (T : Tx K mg) : Fnc P w K mg base 2 "need_rules" (He.ga K "need_rules") ["one", "other"] (sp_need_rules K) := by
  have c_need_rule := ok_need_rule (P := P) (w := w) (base := base) T
  refine fnc_of T.fneed_rules T.g_need_rules sc_need_rules (fun _ _ _ _ _ _ us hl => match us, hl with | [_, _], _ => rfl) (fun vs H Q E h => ?_) (fun cdv A outer s H vs Q E hr h => ?_)
  · obtain ⟨p, q, r, s, rfl, _⟩ := h
    rfl
  · obtain ⟨p, q, r, s', rfl, ⟨dx, m, a, t, hp, _⟩, ⟨dy, m', a', t', hq, _⟩, k⟩ := h
    refine ⟨_, (pss_cons (ps_expr (pe_f c_need_rule (hr.mono (by decide)) (pa_cons (pv 0) (pa_cons pe_str pa_nil))))
      (pss_one (ps_expr (pe_f c_need_rule (hr.mono (by decide)) (pa_cons (pv 1) (pa_cons pe_str pa_nil)))))), ?_⟩
    exact ⟨_, rfl, p, _, dx, _, rfl, hp, _, rfl, q, _, dy, _, rfl, hq, k⟩
def sp_moved_pairs (K : PySem.W.Frag) : Sp := fun vs H Q _ => ∃ (p q d : Addr) (r s : PR) (f : Tab) (n : Nat), vs = [.ref p, .ref q, .ref d, .int (n : Int)] ∧ RuleAt K H p r ∧ RuleAt K H q s ∧ ROk r ∧ ROk s ∧ H d = some (.dT (dtI f)) ∧ NdT f ∧ InT r s f ∧ f.length ≤ 2000 ∧ n < 100000 ∧
  ∀ H' l, Same H H' → H l = none → H' l = some (.dT (dtI (movedT r s f n))) → Q (.ref l) H'
theorem sc_moved_pairs : FnScope ["one", "other", "found", "place", "more", "later", "pair", "moved", "address"] ["one", "other", "found", "place"] (defScope smoved_pairs) := ⟨rfl, rfl, rfl, by decide +kernel, rfl, by decide +kernel, by decide +kernel⟩
theorem ok_moved_pairs (T : Tx K mg) : Fnc P w K mg base 6 "moved_pairs" (He.ga K "moved_pairs") ["one", "other", "found", "place"] (sp_moved_pairs K) := by
  have c_weight := ok_Rule_weight (P := P) (w := w) (base := base) T
  have c_added := ok_Rule_added (P := P) (w := w) (base := base) T
  have c_raised := ok_raised (P := P) (w := w) (base := base) T
  refine fnc_of T.fmoved_pairs T.g_moved_pairs sc_moved_pairs (fun _ _ _ _ _ _ us hl => match us, hl with | [_, _, _, _], _ => rfl) (fun vs H Q E h => ?_) (fun cdv A outer s H vs Q E hr h => ?_)
  · obtain ⟨p, q, d, r, s, f, n, rfl, _⟩ := h
    rfl
  · obtain ⟨p, q, d, r, s', f, n, rfl, hR, hS, okR, okS, hD, nd, inT, zf, hn, k⟩ := h
    refine ⟨_, (pss_cons (ps_par (i := 4) (j := 5) (by rfl) sc_moved_pairs.nd rfl rfl (by decide) rfl rfl (pa_cons (pe_tup (pa_cons (pe_m (pv 0) c_weight (hr.mono (by decide)) (pa_cons (pv 3) pa_nil)) (pa_cons (pe_m (pv 1) c_weight (hr.mono (by decide)) (pa_cons (pv 3) pa_nil)) pa_nil))) (pa_cons pe_dnewT pa_nil)) (by rfl))
      (pss_cons (ps_lock (ps_for PassesOwn.never rfl (pi_ifExp (pt_cmpR (op_neD hr.units) (pv 4) (pe_tup (pa_cons pe_int (pa_cons pe_int pa_nil))) (nomark _)) (pi_keys (pv 2)) pi_dnewT) (pg_name (i := 6) sc_moved_pairs.nd rfl (Or.inl rfl))
        (pss_cons (ps_set (i := 7) sc_moved_pairs.nd rfl (Or.inl rfl) (pe_tup (pa_cons (pe_m (pv 0) c_added (hr.mono (by decide)) (pa_cons (pe_ix ix_I (pv 6) pe_int (fun _ _ => rfl)) (pa_cons (pe_ix ix_I (pv 4) pe_int (fun _ _ => rfl)) pa_nil))) (pa_cons (pe_m (pv 1) c_added (hr.mono (by decide)) (pa_cons (pe_ix ix_I (pv 6) pe_int (fun _ _ => rfl)) (pa_cons (pe_ix ix_I (pv 4) pe_int (fun _ _ => rfl)) pa_nil))) pa_nil))))
      (pss_one (ps_if (pt_cmp (pc_dnotin (hu_of hr) (pv 7) (pv 2))) (pss_cons (ps_set (i := 8) sc_moved_pairs.nd rfl (Or.inl rfl) (pe_op op_add (pe_f c_raised (hr.mono (by decide)) (pa_cons (pv 3) pa_nil)) (pe_dget (hu_of hr) (pv 2) (pv 6) (fun _ _ => rfl))))
      (pss_one (ps_dput (hu_of hr) (pv 5) (pv 7) (pe_callB (call_min2 rfl) (by rfl) T.b_min (by decide +kernel) (pa_cons (pe_callTy call_int1 (by rfl) T.b_int (by decide +kernel) (pa_cons (pv 8) pa_nil)) (pa_cons (pe_callTy call_int1 (by rfl) T.b_int (by decide +kernel) (pa_cons (pe_dget2 (hu_of hr) (pv 5) (pv 7) (pv 8) ⟨rfl, rfl, rfl, rfl⟩) pa_nil)) pa_nil))) rfl))) pss_nil)))))
      (pss_one (ps_ret (pv 5))))), ?_⟩
    have wr := wtR_in okR n
    have ws := wtR_in okS n
    have hR' := hR
    have hS' := hS
    obtain ⟨dx, m, a, t, hp, hm, ha, ht⟩ := hR'
    obtain ⟨dy, m', a', t', hq, hm', ha', ht'⟩ := hS'
    refine ⟨_, rfl, p, dx, _, rfl, hp, rfl, _, rfl, p, r, n, rfl, hR, okR, fun H1 s1 => ⟨_, rfl, q, dy, _, rfl, s1 _ _ hq, rfl, _, rfl, q, s', n, rfl, hS.same s1, okS, fun H2 s2 => ?_⟩⟩
    refine ⟨by show 2 ≤ sizeLine; decide, fun w0 hw0 => ?_⟩
    have s3 := (s1.trans s2).put' (o := .tup [.int (wtR r n), .int (wtR s' n)]) hw0
    refine fun l hl => ⟨_, _, rfl, ?_⟩
    have s4 := s3.put' (o := .dT []) hl
    have hl0 : H l = none := by
      cases e : H l with
      | none => rfl
      | some o => rw [s3 _ _ e] at hl; cases hl
    have hW : upd (upd H2 w0 (.tup [.int (wtR r n), .int (wtR s' n)])) l (.dT []) w0 = some (.tup [.int (wtR r n), .int (wtR s' n)]) := (Same.put hl) _ _ upd_same
    refine ⟨d, _, s4 _ _ hD, True.intro, fun od => ?_⟩
    -- the heap behind the lock
    generalize hH4 : upd (upd H2 w0 (.tup [.int (wtR r n), .int (wtR s' n)])) l (.dT []) = H4 at *
    have hL4 : H4 l = some (.dT []) := by rw [← hH4]; exact upd_same
    have hD4 := s4 _ _ hD
    have back : ∀ H', Same (upd H4 d (.frz od (.dT (dtI f)))) H' → Same H (upd H' d (.dT (dtI f))) := fun H' s b o e => by
      by_cases hb : b = d
      · rw [hb, hD] at e
        cases e
        rw [hb, upd_same]
      · rw [upd_ne hb]
        exact s _ _ (by rw [upd_ne hb]; exact s4 _ _ e)
    have nld : l ≠ d := fun z => by rw [z, hD] at hl0; cases hl0
    have nwd : w0 ≠ d := ne_of hW hD4 (fun z => nomatch z)
    have hWd : upd H4 d (.frz od (.dT (dtI f))) w0 = some (.tup [.int (wtR r n), .int (wtR s' n)]) := by rw [upd_ne nwd]; exact hW
    have hLd : upd H4 d (.frz od (.dT (dtI f))) l = some (.dT []) := by rw [upd_ne nld]; exact hL4
    have hRd := (hR.same s4).lock (o := .frz od (.dT (dtI f))) hD4
    have hSd := (hS.same s4).lock (o := .frz od (.dT (dtI f))) hD4
    generalize hH5 : upd H4 d (.frz od (.dT (dtI f))) = H5 at *
    have hD5 : H5 d = some (.frz od (.dT (dtI f))) := by rw [← hH5]; exact upd_same
    refine ⟨_, rfl, by show 2 ≤ sizeLine; decide, fun z0 hz0 => ?_⟩
    have s5 : Same H5 (upd H5 z0 (.tup [.int 0, .int 0])) := Same.put hz0
    refine ⟨_, _, Dp_tup (l := [wtR r n, wtR s' n]) (s5 _ _ hWd), Dp_tup (l := [0, 0]) upd_same, shaped_tup _, shaped_tup _, _, rfl, ?_⟩
    rw [eqv_tup]
    by_cases h0 : wtR r n = 0 ∧ wtR s' n = 0
    · refine niT (by rw [h0.1, h0.2]) ?_
      refine fun e oe he => for_keysT (d := e) (od := oe) (kvs := []) (fun i σ H' => σ = [some (.ref p), some (.ref q), some (.ref d), some (.int (n : Int)), some (.ref w0), some (.ref l), none, none, none] ∧ H' = upd (upd H5 z0 (.tup [.int 0, .int 0])) e (.frz oe (.dT [])))
        ⟨rfl, rfl⟩ (fun i σ H' q => by rw [q.2]; exact upd_same) (fun i k v q σ H' hx => by simp at hx) ?_
      rintro σ H' ⟨rfl, rfl⟩
      have s6 : Same H5 (upd (upd H5 z0 (.tup [.int 0, .int 0])) e (.frz oe (.dT []))) := s5.put' he
      refine ⟨s6 _ _ hD5, _, rfl, ?_⟩
      refine k _ l (back _ s6) hl0 ?_
      rw [upd_ne nld, s6 _ _ hLd]
      unfold movedT
      rw [if_pos h0]
      rfl
    · refine niF (fun z => h0 ?_) ?_
      · injection z with z1 z2
        injection z2 with z2 _
        exact ⟨z1, z2⟩
      refine ⟨_, rfl, d, od, rfl, .inr ⟨_, s5 _ _ hD5, ?_⟩⟩
      refine for_keysT (d := d) (od := od) (kvs := dtI f) (fun i σ H' => ∃ (cur : Tab) (u v w : Option V), σ = [some (.ref p), some (.ref q), some (.ref d), some (.int (n : Int)), some (.ref w0), some (.ref l), u, v, w] ∧
          (∀ b o, b ≠ l → H5 b = some o → H' b = some o) ∧ H' l = some (.dT (dtI cur)) ∧ cur.length ≤ i ∧ movedGo f (moveK r s' n) (2 ^ n) (f.drop i) cur = movedT r s' f n)
        ⟨[], none, none, none, rfl, fun b o hb e => s5 _ _ e, s5 _ _ hLd, Nat.le_refl _, by unfold movedT; rw [if_neg h0]; rfl⟩ (fun i σ H' q => by obtain ⟨_, _, _, _, _, st, _⟩ := q; exact st _ _ nld.symm hD5) ?_ ?_
      · rintro i k0 v0 b σ H' hk hb ⟨cur, u1, u2, u3, rfl, st, hL, zc, e⟩
        obtain ⟨x, hx, rfl, rfl⟩ := dtI_at hk
        obtain ⟨hi, ex⟩ := List.getElem?_eq_some_iff.mp hx
        rw [drop_at hi, ex] at e
        have mem := List.mem_of_getElem? hx
        obtain ⟨in1, in2⟩ := inT x mem
        have e : movedGo f (moveK r s' n) (2 ^ n) (f.drop (i + 1)) (if (getT f (moveK r s' n x.1)).isSome = true then cur else putT cur (moveK r s' n x.1) (min (2 ^ n + x.2) ((getT cur (moveK r s' n x.1)).getD (2 ^ n + x.2)))) = movedT r s' f n := e
        have stR : ∀ {H2 : Hp} {pp : Addr} {rr : PR}, (∀ b o, b ≠ l → H5 b = some o → H2 b = some o) → RuleAt K H5 pp rr → RuleAt K H2 pp rr := fun st ⟨dz, m2, a2, t2, h1, h2, h3, h4⟩ => by
          have ne : ∀ {b : Addr} {o : HO}, H5 b = some o → o ≠ .dT [] → b ≠ l := fun e z => ne_of e hLd z
          exact ⟨dz, m2, a2, t2, st _ _ (ne h1 (fun z => nomatch z)) h1, st _ _ (ne h2 (fun z => nomatch z)) h2, st _ _ (ne h3 (fun z => nomatch z)) h3, st _ _ (ne h4 (fun z => nomatch z)) h4⟩
        have nwl : w0 ≠ l := ne_of hWd hLd (fun z => nomatch z)
        have R1 := stR st hRd
        have S1 := stR st hSd
        obtain ⟨dx1, m1, a1, t1, hp1, _⟩ := id R1
        obtain ⟨dy1, m1', a1', t1', hq1, _⟩ := id S1
        have hW1 := st _ _ nwl hWd
        have hb' : H' b = some (.tup [.int x.1.1, .int x.1.2]) := hb
        refine ⟨_, rfl, p, dx1, _, rfl, hp1, rfl, _, rfl, b, _, 0, _, rfl, rfl, .inr hb', rfl, _, rfl, w0, _, 0, _, rfl, rfl, .inr hW1, rfl, p, r, x.1.1, wtR r n, rfl, R1, okR.m, in1, wr, fun H6 s6 => ?_⟩
        refine ⟨_, rfl, q, dy1, _, rfl, s6 _ _ hq1, rfl, _, rfl, b, _, 1, _, rfl, rfl, .inr (s6 _ _ hb'), rfl, _, rfl, w0, _, 1, _, rfl, rfl, .inr (s6 _ _ hW1), rfl, q, s', x.1.2, wtR s' n, rfl, S1.same s6, okS.m, in2, ws, fun H7 s7 => ?_⟩
        refine ⟨by show 2 ≤ sizeLine; decide, fun y0 hy0 => ?_⟩
        have s8 := (s6.trans s7).put' (o := .tup [.int (sumI r.m x.1.1 (wtR r n)), .int (sumI s'.m x.1.2 (wtR s' n))]) hy0
        have hY : upd H7 y0 (.tup [.int (sumI r.m x.1.1 (wtR r n)), .int (sumI s'.m x.1.2 (wtR s' n))]) y0 = some (.tup ((kT (moveK r s' n x.1)).map kV)) := upd_same
        generalize hH8 : upd H7 y0 (.tup [.int (sumI r.m x.1.1 (wtR r n)), .int (sumI s'.m x.1.2 (wtR s' n))]) = H8 at *
        have hD8 : H8 d = some (.frz od (.dT (dtI f))) := s8 _ _ (st _ _ nld.symm hD5)
        have hL8 := s8 _ _ hL
        have st8 : ∀ b o, b ≠ l → H5 b = some o → H8 b = some o := fun b o hb e => s8 _ _ (st _ _ hb e)
        refine ⟨_, rfl, _, rfl, d, _, rfl, .inr ⟨_, _, _, .inr ⟨_, hD8⟩, rfl, hY, rfl⟩, _, rfl, ?_⟩
        have hv : (valV (dtI f) (kT (moveK r s' n x.1))).isSome = (getT f (moveK r s' n x.1)).isSome := by rw [valV_dtI, Option.isSome_map]
        by_cases hg : (getT f (moveK r s' n x.1)).isSome = true
        · rw [if_pos hg] at e
          refine nbT (hv.trans hg) ?_
          exact ⟨cur, some (.ref b), some (.ref y0), u3, rfl, st8, hL8, by omega, e⟩
        · rw [if_neg hg] at e
          refine nbF (hv.trans (Bool.eq_false_iff.mpr hg)) ?_
          refine ⟨_, rfl, n, rfl, hn, _, rfl, _, rfl, d, V.int (x.2 : Int), rfl, .inr ⟨_, _, _, .inr ⟨_, hD8⟩, rfl, s8 _ _ hb, ?_⟩, _, _, rfl, rfl, ?_⟩
          · rw [valV_dtI, getT_mem nd mem]
            rfl
          have zc8 : cur.length ≤ 2000 := by have := (List.getElem?_eq_some_iff.mp hx).1; omega
          refine ⟨_, rfl, .inl ⟨_, rfl, _, rfl, l, rfl, .inr ⟨_, .inl hL8⟩, _, rfl, _, rfl, _, .inr ⟨_, _, _, .inl hL8, rfl, hY, rfl⟩, ?_⟩⟩
          rw [valV_dtI]
          have eg : (((getT cur (moveK r s' n x.1)).map fun (n : Nat) => V.int (n : Int)).getD (V.int (((2 ^ n : Nat) : Int) + (x.2 : Int)))) = V.int (((getT cur (moveK r s' n x.1)).getD (2 ^ n + x.2) : Nat) : Int) := by
            cases getT cur (moveK r s' n x.1) with
            | none => rfl
            | some v => rfl
          rw [eg]
          refine .inl ⟨_, rfl, _, _, rfl, ?_⟩
          have em : (if (((getT cur (moveK r s' n x.1)).getD (2 ^ n + x.2) : Nat) : Int) < ((2 ^ n : Nat) : Int) + (x.2 : Int) then (((getT cur (moveK r s' n x.1)).getD (2 ^ n + x.2) : Nat) : Int) else ((2 ^ n : Nat) : Int) + (x.2 : Int)) =
              ((min (2 ^ n + x.2) ((getT cur (moveK r s' n x.1)).getD (2 ^ n + x.2)) : Nat) : Int) := by
            generalize (getT cur (moveK r s' n x.1)).getD (2 ^ n + x.2) = g
            split <;> omega
          rw [em]
          refine ⟨_, rfl, _, rfl, l, _, rfl, .inr ⟨_, _, _, hL8, rfl, hY, by rw [dtI_len, sizeLine_eq]; omega, rfl⟩, ?_⟩
          rw [putK_dtI]
          refine ⟨_, some (.ref b), some (.ref y0), some (.int (((2 ^ n : Nat) : Int) + (x.2 : Int))), rfl, fun b o hb e => ?_, upd_same, ?_, e⟩
          · rw [upd_ne hb]
            exact st8 b o hb e
          · have := putT_len cur (moveK r s' n x.1) (min (2 ^ n + x.2) ((getT cur (moveK r s' n x.1)).getD (2 ^ n + x.2)))
            omega
      · rintro σ H' ⟨cur, u1, u2, u3, rfl, st, hL, zc, e⟩
        rw [dtI_len, List.drop_of_length_le (Nat.le_refl _)] at e
        have e : cur = movedT r s' f n := e
        refine ⟨st _ _ nld.symm hD5, _, rfl, ?_⟩
        refine k _ l (fun b o eb => ?_) hl0 ?_
        · by_cases hb : b = d
          · rw [hb, hD] at eb
            cases eb
            rw [hb, upd_same]
          · have hbl : b ≠ l := ne_of_none eb hl0
            rw [upd_ne hb]
            refine st _ _ hbl ?_
            rw [← hH5, upd_ne hb]
            exact s4 _ _ eb
        · rw [upd_ne nld, hL, e]
end
end K70
-- K70Tab
/-! the tables of least addresses: what they hold, when they stand still -/
namespace K70
open L2 PySem PySem.Spec PyProof.Rows
/-! ### sums of banks -/
theorem sumI_range : ∀ (m : List Int), (∀ q ∈ m, 2 ≤ q ∧ q ≤ 32) → ∀ a b, 0 ≤ sumI m a b ∧ sumI m a b < prodI m
  | [], _, _, _ => ⟨Int.le_refl _, (show (0 : Int) < 1 by decide)⟩
  | q :: m, hm, a, b => by
    have hq := hm q List.mem_cons_self
    obtain ⟨h1, h2⟩ := sumI_range m (fun q hq => hm q (List.mem_cons_of_mem _ hq)) (a / q) (b / q)
    have e : prodI (q :: m) = q * prodI m := by
      unfold prodI
      have go : ∀ (l : List Int) (c : Int), l.foldl (· * ·) c = c * l.foldl (· * ·) 1 := by
        intro l
        induction l with
        | nil => intro c; simp
        | cons x r ih =>
          intro c
          rw [List.foldl_cons, List.foldl_cons, ih (c * x), ih (1 * x), Int.one_mul, Int.mul_assoc]
      rw [List.foldl_cons, go]
      simp
    rw [e]
    show 0 ≤ (a % q + b % q) % q + q * sumI m (a / q) (b / q) ∧ (a % q + b % q) % q + q * sumI m (a / q) (b / q) < q * prodI m
    have m0 := Int.emod_nonneg (a % q + b % q) (show q ≠ 0 by omega)
    have m1 := Int.emod_lt_of_pos (a % q + b % q) (show 0 < q by omega)
    have p1 : 0 ≤ q * sumI m (a / q) (b / q) := Int.mul_nonneg (by omega) h1
    have p2 : q * (sumI m (a / q) (b / q) + 1) ≤ q * prodI m := Int.mul_le_mul_of_nonneg_left (by omega) (by omega)
    rw [Int.mul_add, Int.mul_one] at p2
    exact ⟨by omega, by omega⟩
theorem prodI_cons (q : Int) (m : List Int) : prodI (q :: m) = q * prodI m := by
  unfold prodI
  have go : ∀ (l : List Int) (c : Int), l.foldl (· * ·) c = c * l.foldl (· * ·) 1 := by
    intro l
    induction l with
    | nil => intro c; simp
    | cons x r ih =>
      intro c
      rw [List.foldl_cons, List.foldl_cons, ih (c * x), ih (1 * x), Int.one_mul, Int.mul_assoc]
  rw [List.foldl_cons, go]
  simp
theorem sumI_zero : ∀ (m : List Int), (∀ q ∈ m, 2 ≤ q ∧ q ≤ 32) → ∀ a, 0 ≤ a → a < prodI m → sumI m a 0 = a
  | [], _, a, h0, h1 => by
    have h1 : a < 1 := h1
    show (0 : Int) = a
    omega
  | q :: m, hm, a, h0, h1 => by
    have hq := hm q List.mem_cons_self
    rw [prodI_cons] at h1
    have hd : a / q < prodI m := Int.ediv_lt_of_lt_mul (by omega) (by rw [Int.mul_comm]; exact h1)
    have ih := sumI_zero m (fun q hq => hm q (List.mem_cons_of_mem _ hq)) (a / q) (Int.ediv_nonneg h0 (by omega)) hd
    show (a % q + 0 % q) % q + q * sumI m (a / q) (0 / q) = a
    rw [Int.zero_emod, Int.zero_ediv, ih, Int.add_zero, Int.emod_emod_of_dvd a (Int.dvd_refl q)]
    have := Int.emod_add_mul_ediv a q
    omega
/-! ### the bank by the digits -/
def bankC (m : List Int) (w : Nat → Int) (n p : Nat) (f : Int) : Nat → Int
  | 0 => f
  | k + 1 => if n.testBit k = true then sumI m (bankC m w n p f k) (w (p + k)) else bankC m w n p f k
theorem bankC_shift (m : List Int) (w : Nat → Int) (n p : Nat) (f : Int) : ∀ k, bankC m w n p f (k + 1) = bankC m w (n / 2) (p + 1) (if n % 2 = 1 then sumI m f (w p) else f) k
  | 0 => by
    show (if n.testBit 0 = true then sumI m f (w (p + 0)) else f) = if n % 2 = 1 then sumI m f (w p) else f
    rw [Nat.testBit_zero]
    simp
  | k + 1 => by
    show (if n.testBit (k + 1) = true then sumI m (bankC m w n p f (k + 1)) (w (p + (k + 1))) else bankC m w n p f (k + 1)) = if (n / 2).testBit k = true then sumI m (bankC m w (n / 2) (p + 1) _ k) (w (p + 1 + k)) else bankC m w (n / 2) (p + 1) _ k
    rw [bankC_shift m w n p f k, Nat.testBit_succ, show p + (k + 1) = p + 1 + k by omega]
theorem bankC_zero (m : List Int) (w : Nat → Int) (p : Nat) (f : Int) : ∀ k, bankC m w 0 p f k = f
  | 0 => rfl
  | k + 1 => by
    show (if (0 : Nat).testBit k = true then _ else _) = f
    rw [Nat.zero_testBit]
    exact bankC_zero m w p f k
theorem bankL_C (m : List Int) (w : Nat → Int) : ∀ (k n p : Nat) (f : Int), n < 2 ^ k → bankL m w (revB n) p f = bankC m w n p f (k + 1)
  | k, n, p, f, h => by
    rw [bankC_shift]
    by_cases hn : n < 2
    · rw [revB_small hn, show n / 2 = 0 by omega, bankC_zero]
      show (if 48 + n = 49 then sumI m f (w p) else f) = _
      have e : (48 + n = 49) = (n % 2 = 1) := by
        apply propext
        omega
      simp only [e]
    · obtain ⟨j, rfl⟩ : ∃ j, k = j + 1 := ⟨k - 1, by
        rcases k with _ | k
        · omega
        · omega⟩
      rw [revB_big (by omega)]
      show bankL m w (revB (n / 2)) (p + 1) (if 48 + n % 2 = 49 then sumI m f (w p) else f) = _
      have e : (48 + n % 2 = 49) = (n % 2 = 1) := by
        apply propext
        omega
      simp only [e]
      exact bankL_C m w j (n / 2) (p + 1) _ (by rw [Nat.pow_succ] at h; omega)
theorem bankC_more (m : List Int) (w : Nat → Int) (n p : Nat) (f : Int) {k : Nat} (h : n < 2 ^ k) : bankC m w n p f (k + 1) = bankC m w n p f k := by
  show (if n.testBit k = true then _ else _) = _
  rw [Nat.testBit_lt_two_pow h]
  rfl
theorem bankC_le (m : List Int) (w : Nat → Int) (n p : Nat) (f : Int) {k : Nat} (h : n < 2 ^ k) : ∀ j, k ≤ j → bankC m w n p f j = bankC m w n p f k := by
  intro j hj
  induction hj with
  | refl => rfl
  | @step j hj ih => rw [bankC_more m w n p f (Nat.lt_of_lt_of_le h (Nat.pow_le_pow_right (by decide) hj)), ih]
theorem bankI_C {m : List Int} {w : Nat → Int} {n k : Nat} (h : n < 2 ^ k) : bankI m w n = bankC m w n 0 0 k := by
  unfold bankI
  rw [bankL_C m w k n 0 0 h, bankC_more m w n 0 0 h]
theorem bankC_low (m : List Int) (w : Nat → Int) {a b : Nat} (p : Nat) (f : Int) : ∀ k, (∀ i, i < k → a.testBit i = b.testBit i) → bankC m w a p f k = bankC m w b p f k
  | 0, _ => rfl
  | k + 1, h => by
    show (if a.testBit k = true then sumI m (bankC m w a p f k) (w (p + k)) else bankC m w a p f k) = if b.testBit k = true then sumI m (bankC m w b p f k) (w (p + k)) else bankC m w b p f k
    rw [bankC_low m w p f k (fun i hi => h i (by omega)), h k (by omega)]
theorem bankI_top {m : List Int} {w : Nat → Int} {p a : Nat} (h : a < 2 ^ p) : bankI m w (2 ^ p + a) = sumI m (bankI m w a) (w p) := by
  have h2 : 2 ^ p + a < 2 ^ (p + 1) := by rw [Nat.pow_succ]; omega
  rw [bankI_C h2, bankI_C h]
  show (if (2 ^ p + a).testBit p = true then sumI m (bankC m w (2 ^ p + a) 0 0 p) (w (0 + p)) else _) = _
  have e : (2 ^ p + a).testBit p = true := by
    rw [Nat.testBit_two_pow_add_eq, Nat.testBit_lt_two_pow h]
    rfl
  rw [e, if_pos rfl, Nat.zero_add, bankC_low m w 0 0 p fun i hi => Nat.testBit_two_pow_add_gt hi a]
theorem bankI_range {m : List Int} (hm : ∀ q ∈ m, 2 ≤ q ∧ q ≤ 32) (w : Nat → Int) (n : Nat) (hp : 1 ≤ prodI m) : 0 ≤ bankI m w n ∧ bankI m w n < prodI m := by
  have go : ∀ (l : List Nat) (p : Nat) (f : Int), (0 ≤ f ∧ f < prodI m) → 0 ≤ bankL m w l p f ∧ bankL m w l p f < prodI m := by
    intro l
    induction l with
    | nil => exact fun p f h => h
    | cons c r ih =>
      intro p f h
      refine ih (p + 1) _ ?_
      split
      · exact sumI_range m hm _ _
      · exact h
  exact go _ _ _ ⟨Int.le_refl _, by omega⟩
/-! ### tables -/
def keyIn (t : Tab) (k : Int × Int) : Prop := k ∈ t.map (·.1)
theorem getT_isSome {t : Tab} {k : Int × Int} : (getT t k).isSome = true ↔ keyIn t k := by
  unfold getT keyIn
  rw [Option.isSome_map]
  constructor
  · intro h
    obtain ⟨x, hx⟩ := Option.isSome_iff_exists.mp h
    have p0 : decide (x.1 = k) = true := List.find?_some (p := fun e : (Int × Int) × Nat => decide (e.1 = k)) hx
    exact List.mem_map.mpr ⟨x, List.mem_of_find?_eq_some hx, of_decide_eq_true p0⟩
  · intro h
    obtain ⟨x, hx, e⟩ := List.mem_map.mp h
    exact List.find?_isSome.mpr ⟨x, hx, by simpa using e⟩
theorem putT_keys {t : Tab} {k : Int × Int} {v : Nat} (x : (Int × Int) × Nat) (h : x ∈ putT t k v) : x = (k, v) ∨ x ∈ t := by
  unfold putT at h
  split at h
  · obtain ⟨e, he, q⟩ := List.mem_map.mp h
    split at q
    · rename_i hk
      rw [← q]
      exact .inl (by rw [hk])
    · exact .inr (q ▸ he)
  · rcases List.mem_append.mp h with q | q
    · exact .inr q
    · exact .inl (List.mem_singleton.mp q)
theorem putT_nd {t : Tab} {k : Int × Int} {v : Nat} (h : NdT t) : NdT (putT t k v) := by
  unfold putT NdT
  by_cases c : t.any (fun e => decide (e.1 = k)) = true
  · rw [if_pos c, List.map_map]
    have e : ((fun x : (Int × Int) × Nat => x.1) ∘ fun e : (Int × Int) × Nat => if e.1 = k then (e.1, v) else e) = fun x => x.1 := by
      funext x
      show (if x.1 = k then (x.1, v) else x).1 = x.1
      split <;> rfl
    rw [e]
    exact h
  · rw [if_neg c, List.map_append, List.nodup_append]
    refine ⟨h, by simp, fun x hx y hy z => c ?_⟩
    obtain ⟨e, he, q⟩ := List.mem_map.mp hx
    have hy : y = k := by simpa using hy
    exact List.any_eq_true.mpr ⟨e, he, by simp [q, z, hy]⟩
theorem putT_has (t : Tab) (k : Int × Int) (v : Nat) : putT t k v ≠ [] := by
  unfold putT
  split
  · rename_i h
    obtain ⟨e, he, _⟩ := List.any_eq_true.mp h
    intro z
    rw [List.map_eq_nil_iff.mp z] at he
    exact nomatch he
  · simp
section
variable {f : Tab} {mv : Int × Int → Int × Int} {b : Nat}
theorem movedGo_cons (e : (Int × Int) × Nat) (t l : Tab) : movedGo f mv b (e :: t) l = movedGo f mv b t (if (getT f (mv e.1)).isSome = true then l else putT l (mv e.1) (min (b + e.2) ((getT l (mv e.1)).getD (b + e.2)))) := rfl
theorem movedGo_nd : ∀ (t l : Tab), NdT l → NdT (movedGo f mv b t l)
  | [], l, h => h
  | e :: t, l, h => by
    rw [movedGo_cons]
    refine movedGo_nd t _ ?_
    split
    · exact h
    · exact putT_nd h
theorem movedGo_ne : ∀ (t l : Tab), l ≠ [] → movedGo f mv b t l ≠ []
  | [], l, h => h
  | e :: t, l, h => by
    rw [movedGo_cons]
    refine movedGo_ne t _ ?_
    split
    · exact h
    · exact putT_has _ _ _
theorem movedGo_nil : ∀ (t l : Tab), (∀ e ∈ t, (getT f (mv e.1)).isSome = true) → movedGo f mv b t l = l
  | [], l, _ => rfl
  | e :: t, l, h => by
    rw [movedGo_cons, if_pos (h e List.mem_cons_self)]
    exact movedGo_nil t l fun x hx => h x (List.mem_cons_of_mem _ hx)
theorem movedGo_some : ∀ (t l : Tab), (∃ e ∈ t, ¬ (getT f (mv e.1)).isSome = true) → movedGo f mv b t l ≠ []
  | [], l, h => by obtain ⟨e, he, _⟩ := h; exact nomatch he
  | e :: t, l, h => by
    rw [movedGo_cons]
    by_cases c : (getT f (mv e.1)).isSome = true
    · rw [if_pos c]
      refine movedGo_some t l ?_
      obtain ⟨x, hx, q⟩ := h
      rcases List.mem_cons.mp hx with z | z
      · rw [z] at q; exact absurd c q
      · exact ⟨x, z, q⟩
    · rw [if_neg c]
      exact movedGo_ne t _ (putT_has _ _ _)
def GoodT (f : Tab) (mv : Int × Int → Int × Int) (b : Nat) (x : (Int × Int) × Nat) : Prop := ¬ keyIn f x.1 ∧ ∃ e ∈ f, x.1 = mv e.1 ∧ x.2 = b + e.2
theorem movedGo_good : ∀ (t l : Tab), (∀ e ∈ t, e ∈ f) → (∀ x ∈ l, GoodT f mv b x) → ∀ x ∈ movedGo f mv b t l, GoodT f mv b x
  | [], l, _, h => h
  | e :: t, l, ht, h => by
    rw [movedGo_cons]
    refine movedGo_good t _ (fun x hx => ht x (List.mem_cons_of_mem _ hx)) ?_
    by_cases c : (getT f (mv e.1)).isSome = true
    · rw [if_pos c]; exact h
    · rw [if_neg c]
      intro x hx
      rcases putT_keys x hx with q | q
      · subst q
        have nk : ¬ keyIn f (mv e.1) := fun z => c (getT_isSome.mpr z)
        refine ⟨nk, ?_⟩
        cases g : getT l (mv e.1) with
        | none => exact ⟨e, ht e List.mem_cons_self, rfl, by show min (b + e.2) (b + e.2) = _; omega⟩
        | some v =>
          obtain ⟨_, e2, h2, k2, v2⟩ := h _ (getT_some g)
          simp only [] at k2 v2
          show ∃ e' ∈ f, mv e.1 = mv e'.1 ∧ min (b + e.2) v = b + e'.2
          rcases Nat.le_total (b + e.2) v with q | q
          · exact ⟨e, ht e List.mem_cons_self, rfl, Nat.min_eq_left q⟩
          · exact ⟨e2, h2, k2, by rw [Nat.min_eq_right q, v2]⟩
      · exact h x q
end
/-- the table behind so many places -/
def tabR (r s : PR) : Nat → Tab
  | 0 => [((0, 0), 0)]
  | p + 1 => tabR r s p ++ movedT r s (tabR r s p) p
structure TOk (r s : PR) (p : Nat) (t : Tab) : Prop where
  nd : NdT t
  all : ∀ e ∈ t, e.2 < 2 ^ p ∧ e.1.1 = bankI r.m (wtR r) e.2 ∧ e.1.2 = bankI s.m (wtR s) e.2
  zero : ((0, 0), 0) ∈ t
theorem bankI_zero (m : List Int) (w : Nat → Int) : bankI m w 0 = 0 := by
  unfold bankI
  rw [revB_small (by decide)]
  rfl
theorem moved_good {r s : PR} {f : Tab} {n : Nat} : ∀ x ∈ movedT r s f n, GoodT f (moveK r s n) (2 ^ n) x := by
  intro x hx
  unfold movedT at hx
  split at hx
  · exact nomatch hx
  · exact movedGo_good f [] (fun e h => h) (fun x h => nomatch h) x hx
theorem moved_nd {r s : PR} {f : Tab} {n : Nat} : NdT (movedT r s f n) := by
  unfold movedT
  split
  · exact List.nodup_nil
  · exact movedGo_nd f [] List.nodup_nil
theorem tabR_ok (r s : PR) : ∀ p, TOk r s p (tabR r s p)
  | 0 => ⟨by simp [NdT, tabR], fun e he => by
      have he : e = ((0, 0), 0) := by simpa [tabR] using he
      rw [he]
      exact ⟨by decide, (bankI_zero _ _).symm, (bankI_zero _ _).symm⟩, List.mem_cons_self⟩
  | p + 1 => by
    have ih := tabR_ok r s p
    refine ⟨?_, fun e he => ?_, List.mem_append_left _ ih.zero⟩
    · show ((tabR r s p ++ movedT r s (tabR r s p) p).map (·.1)).Nodup
      (rw [List.map_append, List.nodup_append])
      refine ⟨ih.nd, moved_nd, fun x hx y hy z => ?_⟩
      obtain ⟨e, he, rfl⟩ := List.mem_map.mp hy
      exact (moved_good e he).1 (z ▸ hx)
    · rcases List.mem_append.mp he with q | q
      · obtain ⟨h1, h2, h3⟩ := ih.all e q
        exact ⟨by rw [Nat.pow_succ]; omega, h2, h3⟩
      · obtain ⟨_, x, hx, k, v⟩ := moved_good e q
        obtain ⟨h1, h2, h3⟩ := ih.all x hx
        rw [v, k]
        refine ⟨by rw [Nat.pow_succ]; omega, ?_, ?_⟩
        · rw [bankI_top h1, ← h2]; rfl
        · rw [bankI_top h1, ← h3]; rfl
/-! ### when they stand still -/
theorem tok_in {r s : PR} (okR : ROk r) (okS : ROk s) {p : Nat} {t : Tab} (h : TOk r s p t) : InT r s t := by
  intro e he
  obtain ⟨_, h2, h3⟩ := h.all e he
  have one : ∀ {r : PR}, ROk r → 1 ≤ prodI r.m := fun ok => by
    have z := List.exists_mem_of_ne_nil _ ok.ne
    obtain ⟨x, hx⟩ := z
    have := ok.t x hx
    omega
  rw [h2, h3]
  exact ⟨bankI_range okR.m.each _ _ (one okR), bankI_range okS.m.each _ _ (one okS)⟩
def ClosedT (r s : PR) (f : Tab) (n : Nat) : Prop := ∀ e ∈ f, keyIn f (moveK r s n e.1)
theorem moved_nil {r s : PR} (okR : ROk r) (okS : ROk s) {f : Tab} (inT : InT r s f) (n : Nat) : movedT r s f n = [] ↔ ClosedT r s f n := by
  unfold movedT
  by_cases h0 : wtR r n = 0 ∧ wtR s n = 0
  · rw [if_pos h0]
    refine ⟨fun _ e he => ?_, fun _ => rfl⟩
    obtain ⟨⟨a1, a2⟩, ⟨b1, b2⟩⟩ := inT e he
    unfold moveK
    rw [h0.1, h0.2, sumI_zero _ okR.m.each _ a1 a2, sumI_zero _ okS.m.each _ b1 b2]
    exact List.mem_map_of_mem he
  · rw [if_neg h0]
    constructor
    · intro h e he
      by_cases c : (getT f (moveK r s n e.1)).isSome = true
      · exact getT_isSome.mp c
      · exact absurd h (movedGo_some f [] ⟨e, he, c⟩)
    · intro h
      exact movedGo_nil f [] fun e he => getT_isSome.mpr (h e he)
theorem clsR_per {r : PR} {n M : Nat} (hn : r.a.length ≤ n) (hM : r.t.length ∣ M) : clsR r (n + M) = clsR r n := by
  obtain ⟨k, rfl⟩ := hM
  unfold clsR
  rw [if_neg (by omega), if_neg (by omega), show n + r.t.length * k - r.a.length = (n - r.a.length) + r.t.length * k by omega, Nat.add_mul_mod_self_left]
theorem wtR_per {r : PR} {n M : Nat} (hn : r.a.length ≤ n) (hM : r.t.length ∣ M) : wtR r (n + M) = wtR r n := by
  unfold wtR
  rw [clsR_per hn hM]
theorem wtR_pers {r : PR} {n M : Nat} (hn : r.a.length ≤ n) (hM : r.t.length ∣ M) (j : Nat) : wtR r (n + M * j) = wtR r n := wtR_per hn (Nat.dvd_trans hM (Nat.dvd_mul_right M j))
theorem closed_per {r s : PR} {f : Tab} {n M : Nat} (h1 : r.a.length ≤ n) (h2 : s.a.length ≤ n) (d1 : r.t.length ∣ M) (d2 : s.t.length ∣ M) (hM : 0 < M) (h : ∀ i, i < M → ClosedT r s f (n + i)) (p : Nat) (hp : n ≤ p) : ClosedT r s f p := by
  have e : p = n + (p - n) % M + M * ((p - n) / M) := by
    have := Nat.mod_add_div (p - n) M
    omega
  have hi := h ((p - n) % M) (Nat.mod_lt _ hM)
  intro x hx
  have q := hi x hx
  unfold moveK at q ⊢
  rw [e, wtR_pers (by omega) d1, wtR_pers (by omega) d2]
  exact q
theorem tab_still {r s : PR} (okR : ROk r) (okS : ROk s) {n M : Nat} (h1 : r.a.length ≤ n) (h2 : s.a.length ≤ n) (d1 : r.t.length ∣ M) (d2 : s.t.length ∣ M) (hM : 0 < M) (h : ∀ i, i < M → movedT r s (tabR r s (n + i)) (n + i) = []) (p : Nat) (hp : n ≤ p) : tabR r s p = tabR r s n := by
  have inT := tok_in okR okS (tabR_ok r s n)
  have same : ∀ i, i ≤ M → tabR r s (n + i) = tabR r s n := by
    intro i
    induction i with
    | zero => exact fun _ => rfl
    | succ i ih =>
      intro hi
      show tabR r s (n + i) ++ movedT r s (tabR r s (n + i)) (n + i) = _
      rw [h i (by omega), List.append_nil]
      exact ih (by omega)
  have cl : ∀ i, i < M → ClosedT r s (tabR r s n) (n + i) := fun i hi => by
    have q := h i hi
    rw [same i (by omega)] at q
    exact (moved_nil okR okS inT _).mp q
  have go : ∀ j, tabR r s (n + j) = tabR r s n := by
    intro j
    induction j with
    | zero => rfl
    | succ j ih =>
      show tabR r s (n + j) ++ movedT r s (tabR r s (n + j)) (n + j) = _
      rw [ih, (moved_nil okR okS inT (n + j)).mpr (closed_per h1 h2 d1 d2 hM cl _ (by omega)), List.append_nil]
  obtain ⟨j, rfl⟩ := Nat.exists_eq_add_of_le hp
  exact go j
theorem few_nats : ∀ (K : Nat) (l : List Nat), l.Nodup → (∀ x ∈ l, x < K) → l.length ≤ K
  | 0, l, _, h => by
    cases l with
    | nil => exact Nat.le_refl _
    | cons x r => exact absurd (h x List.mem_cons_self) (Nat.not_lt_zero x)
  | K + 1, l, nd, h => by
    by_cases c : K ∈ l
    · have h1 := few_nats K (l.erase K) (nd.erase K) fun x hx => by
        have h2 := h x (List.mem_of_mem_erase hx)
        have h3 : x ≠ K := fun z => by
          rw [z] at hx
          exact (List.Nodup.not_mem_erase nd) hx
        omega
      rw [List.length_erase_of_mem c] at h1
      omega
    · have h1 := few_nats K l nd fun x hx => by
        have h2 := h x hx
        have h3 : x ≠ K := fun z => c (z ▸ hx)
        omega
      omega
theorem tab_few {r s : PR} {a b : Nat} (ha : prodI r.m = (a : Int)) (hb : prodI s.m = (b : Int)) {t : Tab} (nd : NdT t) (inT : InT r s t) : t.length ≤ a * b := by
  have inj : ∀ x ∈ t.map (·.1), ∀ y ∈ t.map (·.1), x.1.toNat * b + x.2.toNat = y.1.toNat * b + y.2.toNat → x = y := by
    intro x hx y hy e
    obtain ⟨e1, h1, rfl⟩ := List.mem_map.mp hx
    obtain ⟨e2, h2, rfl⟩ := List.mem_map.mp hy
    obtain ⟨⟨p1, p2⟩, ⟨p3, p4⟩⟩ := inT e1 h1
    obtain ⟨⟨q1, q2⟩, ⟨q3, q4⟩⟩ := inT e2 h2
    rw [ha] at p2 q2
    rw [hb] at p4 q4
    have b0 : 0 < b := by omega
    have d1 : (e1.1.1.toNat * b + e1.1.2.toNat) / b = e1.1.1.toNat := by
      rw [Nat.mul_comm, Nat.mul_add_div b0, Nat.div_eq_of_lt (by omega)]
      rfl
    have d2 : (e2.1.1.toNat * b + e2.1.2.toNat) / b = e2.1.1.toNat := by
      rw [Nat.mul_comm, Nat.mul_add_div b0, Nat.div_eq_of_lt (by omega)]
      rfl
    rw [e, d2] at d1
    rw [d1] at e
    have s1 : e1.1.1 = e2.1.1 := by omega
    have s2 : e1.1.2 = e2.1.2 := by omega
    exact Prod.ext s1 s2
  have nd2 : ((t.map (·.1)).map fun k => k.1.toNat * b + k.2.toNat).Nodup := by
    have go : ∀ l : List (Int × Int), l.Nodup → (∀ x ∈ l, ∀ y ∈ l, x.1.toNat * b + x.2.toNat = y.1.toNat * b + y.2.toNat → x = y) → (l.map fun k => k.1.toNat * b + k.2.toNat).Nodup := by
      intro l
      induction l with
      | nil => exact fun _ _ => List.nodup_nil
      | cons x r ih =>
        intro nd inj
        rw [List.nodup_cons] at nd
        (rw [List.map_cons, List.nodup_cons])
        refine ⟨fun h => ?_, ih nd.2 fun y hy z hz => inj y (List.mem_cons_of_mem _ hy) z (List.mem_cons_of_mem _ hz)⟩
        obtain ⟨y, hy, e⟩ := List.mem_map.mp h
        exact nd.1 ((inj y (List.mem_cons_of_mem _ hy) x List.mem_cons_self e) ▸ hy)
    exact go _ nd inj
  have h := few_nats (a * b) _ nd2 fun x hx => by
    obtain ⟨k, hk, rfl⟩ := List.mem_map.mp hx
    obtain ⟨e, he, rfl⟩ := List.mem_map.mp hk
    obtain ⟨⟨p1, p2⟩, ⟨p3, p4⟩⟩ := inT e he
    rw [ha] at p2
    rw [hb] at p4
    have : (e.1.1.toNat + 1) * b ≤ a * b := Nat.mul_le_mul_right b (by omega)
    rw [Nat.add_mul, Nat.one_mul] at this
    omega
  rw [List.length_map, List.length_map] at h
  exact h
/-- two rules whose table is small -/
structure SmallP (r s : PR) : Prop where
  okr : ROk r
  oks : ROk s
  pr : prodI r.m ≤ 4
  ps : prodI s.m ≤ 4
  fits : max r.a.length s.a.length + Nat.lcm r.t.length s.t.length * ((prodI r.m).toNat * (prodI s.m).toNat) ≤ 64
  quiet : max r.a.length s.a.length + Nat.lcm r.t.length s.t.length ≤ 16
abbrev aheadP (r s : PR) : Nat := max r.a.length s.a.length
abbrev manyP (r s : PR) : Nat := Nat.lcm r.t.length s.t.length
theorem manyP_pos {r s : PR} (h1 : ROk r) (h2 : ROk s) : 0 < manyP r s := Nat.lcm_pos (List.length_pos_iff.mpr h1.ne) (List.length_pos_iff.mpr h2.ne)
theorem tabR_mono (r s : PR) (p : Nat) : ∀ j, (tabR r s p).length ≤ (tabR r s (p + j)).length
  | 0 => Nat.le_refl _
  | j + 1 => by
    refine Nat.le_trans (tabR_mono r s p j) ?_
    show _ ≤ (tabR r s (p + j) ++ _).length
    rw [List.length_append]
    omega
/-- the table that stands still -/
def limT (r s : PR) : Tab := tabR r s 64
theorem tab_len {r s : PR} (h : SmallP r s) (p : Nat) : (tabR r s p).length ≤ (prodI r.m).toNat * (prodI s.m).toNat := by
  have ok := tabR_ok r s p
  have inT := tok_in h.okr h.oks ok
  obtain ⟨⟨a1, a2⟩, ⟨b1, b2⟩⟩ := inT _ ok.zero
  exact tab_few (by omega) (by omega) ok.nd inT
theorem still64 {r s : PR} (h : SmallP r s) {p : Nat} (hp : 64 ≤ p) : tabR r s p = limT r s := by
  have mp := manyP_pos h.okr h.oks
  have claim : ∀ j, (∃ p0, p0 ≤ aheadP r s + manyP r s * j ∧ ∀ p, p0 ≤ p → tabR r s p = tabR r s p0) ∨ j + 1 ≤ (tabR r s (aheadP r s + manyP r s * j)).length := by
    intro j
    induction j with
    | zero => exact .inr (List.length_pos_iff.mpr (List.ne_nil_of_mem (tabR_ok r s _).zero))
    | succ j ih =>
      rcases ih with ⟨p0, h0, h1⟩ | ih
      · exact .inl ⟨p0, Nat.le_trans h0 (by rw [Nat.mul_add]; omega), h1⟩
      · by_cases c : (tabR r s (aheadP r s + manyP r s * j + manyP r s)).length = (tabR r s (aheadP r s + manyP r s * j)).length
        · refine .inl ⟨aheadP r s + manyP r s * j, by rw [Nat.mul_add]; omega, fun p hp => ?_⟩
          refine tab_still h.okr h.oks (M := manyP r s) (by unfold aheadP; omega) (by unfold aheadP; omega) (Nat.dvd_lcm_left _ _) (Nat.dvd_lcm_right _ _) mp (fun i hi => ?_) p hp
          have l1 := tabR_mono r s (aheadP r s + manyP r s * j) i
          have l2 := tabR_mono r s (aheadP r s + manyP r s * j + (i + 1)) (manyP r s - (i + 1))
          rw [show aheadP r s + manyP r s * j + (i + 1) + (manyP r s - (i + 1)) = aheadP r s + manyP r s * j + manyP r s by omega, c] at l2
          have l3 : (tabR r s (aheadP r s + manyP r s * j + (i + 1))).length = (tabR r s (aheadP r s + manyP r s * j + i)).length + (movedT r s (tabR r s (aheadP r s + manyP r s * j + i)) (aheadP r s + manyP r s * j + i)).length := by
            show (tabR r s (aheadP r s + manyP r s * j + i) ++ _).length = _
            rw [List.length_append]
            rfl
          (exact List.length_eq_zero_iff.mp (by omega))
        · refine .inr ?_
          have l1 := tabR_mono r s (aheadP r s + manyP r s * j) (manyP r s)
          rw [show aheadP r s + manyP r s * (j + 1) = aheadP r s + manyP r s * j + manyP r s by rw [Nat.mul_add]; omega]
          omega
  rcases claim ((prodI r.m).toNat * (prodI s.m).toNat) with ⟨p0, h0, h1⟩ | c
  · have := h.fits
    unfold limT
    rw [h1 p (by unfold aheadP manyP at h0; omega), h1 64 (by unfold aheadP manyP at h0; omega)]
  · have := tab_len h (aheadP r s + manyP r s * ((prodI r.m).toNat * (prodI s.m).toNat))
    omega
/-- so many quiet places behind all that is ahead: the table stands still -/
theorem quiet_lim {r s : PR} (h : SmallP r s) {n k : Nat} (hn : aheadP r s ≤ n) (hk : manyP r s ≤ k) (q : ∀ i, i < k → movedT r s (tabR r s (n + i)) (n + i) = []) : tabR r s (n + k) = limT r s := by
  have st := fun p hp => tab_still h.okr h.oks (n := n) (M := manyP r s) (by unfold aheadP at hn; omega) (by unfold aheadP at hn; omega) (Nat.dvd_lcm_left _ _) (Nat.dvd_lcm_right _ _) (manyP_pos h.okr h.oks) (fun i hi => q i (by omega)) p hp
  by_cases c : n ≤ 64
  · unfold limT
    rw [st _ (Nat.le_add_right n k), st 64 c]
  · exact still64 h (by omega)
end K70
-- K70Hash
namespace K70
open L2 PySem PySem.Spec PyProof.Rows
/-! ### keys whose hashes differ -/
def hashK (a b : Int) : Int := reduceHash (Builtin.Tuple.tupleHashOf [hashInt a, hashInt b])
theorem hash_kT (P : Program) (w : World) (k : Int × Int) : (tupleKind (mixKind P w)).hash (kT k) = hashK k.1 k.2 := rfl
theorem hashK_inj : ∀ a b c d : Fin 4, hashK (a.val : Int) (b.val : Int) = hashK (c.val : Int) (d.val : Int) → a = c ∧ b = d := by decide +kernel
def SmallK (k : Int × Int) : Prop := (0 ≤ k.1 ∧ k.1 < 4) ∧ (0 ≤ k.2 ∧ k.2 < 4)
theorem hash_sep {P : Program} {w : World} {x y : Int × Int} (hx : SmallK x) (hy : SmallK y) (e : (tupleKind (mixKind P w)).hash (kT x) = (tupleKind (mixKind P w)).hash (kT y)) : x = y := by
  rw [hash_kT, hash_kT] at e
  obtain ⟨⟨a1, a2⟩, ⟨b1, b2⟩⟩ := hx
  obtain ⟨⟨c1, c2⟩, ⟨d1, d2⟩⟩ := hy
  have fin : ∀ z : Int, 0 ≤ z → z < 4 → ∃ n : Fin 4, z = (n.val : Int) := fun z h0 h1 => ⟨⟨z.toNat, by omega⟩, by show z = ((z.toNat : Nat) : Int); omega⟩
  obtain ⟨x1, e1⟩ := fin _ a1 a2
  obtain ⟨x2, e2⟩ := fin _ b1 b2
  obtain ⟨y1, e3⟩ := fin _ c1 c2
  obtain ⟨y2, e4⟩ := fin _ d1 d2
  rw [e1, e2, e3, e4] at e
  obtain ⟨q1, q2⟩ := hashK_inj _ _ _ _ e
  exact Prod.ext (by rw [e1, e3, q1]) (by rw [e2, e4, q2])
def SmallT (t : Tab) : Prop := ∀ e ∈ t, SmallK e.1
theorem nd_by {h : List L2.Key → Int} (sep : ∀ x y, SmallK x → SmallK y → h (kT x) = h (kT y) → x = y) (t : Tab) (ndk : NdT t) (sm : SmallT t) : ((dtI t).map fun kv => h kv.1).Nodup := by
  induction t with
  | nil => exact List.nodup_nil
  | cons x r ih =>
    unfold NdT at ndk
    rw [List.map_cons, List.nodup_cons] at ndk
    have ih := ih ndk.2 fun e he => sm e (List.mem_cons_of_mem _ he)
    show (h (kT x.1) :: (dtI r).map fun kv => h kv.1).Nodup
    rw [List.nodup_cons]
    refine ⟨fun z => ?_, ih⟩
    unfold dtI at z
    rw [List.map_map] at z
    obtain ⟨y, hy, e⟩ := List.mem_map.mp z
    have := sep _ _ (sm y (List.mem_cons_of_mem _ hy)) (sm x List.mem_cons_self) e
    refine ndk.1 ?_
    rw [← this]
    exact List.mem_map_of_mem hy
theorem hash_nd {P : Program} {w : World} {t : Tab} (nd : NdT t) (sm : SmallT t) : HashNd P w (dtI t) := nd_by (h := (tupleKind (mixKind P w)).hash) (fun x y hx hy e => hash_sep hx hy e) t nd sm
theorem mergeT_app : ∀ (l t : Tab), NdT (t ++ l) → mergeT (dtI t) (dtI l) = dtI (t ++ l)
  | [], t, _ => by rw [List.append_nil]; rfl
  | e :: l, t, h => by
    show mergeT (putK (dtI t) (kT e.1) (V.int (e.2 : Int))) (dtI l) = _
    rw [putK_dtI]
    have fresh : ¬ t.any (fun x => decide (x.1 = e.1)) = true := fun z => by
      obtain ⟨x, hx, q⟩ := List.any_eq_true.mp z
      have q := of_decide_eq_true q
      unfold NdT at h
      rw [List.map_append, List.nodup_append] at h
      exact h.2.2 x.1 (List.mem_map_of_mem hx) e.1 (by simp) q
    have ep : putT t e.1 e.2 = t ++ [e] := by
      unfold putT
      rw [if_neg fresh]
    rw [ep, mergeT_app l (t ++ [e]) (by rw [List.append_assoc]; exact h), List.append_assoc]
    rfl
theorem inT_small {r s : PR} {t : Tab} (h : InT r s t) (h1 : prodI r.m ≤ 4) (h2 : prodI s.m ≤ 4) : SmallT t := fun e he => by
  obtain ⟨⟨a, b⟩, ⟨c, d⟩⟩ := h e he
  exact ⟨⟨a, by omega⟩, ⟨c, by omega⟩⟩
theorem movedT_in {r s : PR} {p : Nat} : ∀ x ∈ movedT r s (tabR r s p) p, x ∈ tabR r s (p + 1) := fun x hx => List.mem_append_right _ hx
end K70
-- K70F9
namespace K70
open L2 PySem PySem.Spec PyProof.Rows StX
/-! ### the loop's measure -/
def muQ (r s : PR) (N n j : Nat) : Nat := (N - (tabR r s (n + j)).length) * (aheadP r s + manyP r s + 1) + (aheadP r s - (n + j)) + (manyP r s - j)
structure QOk (r s : PR) (n j : Nat) : Prop where
  from_ : j = 0 ∨ aheadP r s ≤ n
  still : ∀ i, i < j → movedT r s (tabR r s (n + i)) (n + i) = []
  le : j ≤ manyP r s
theorem q_more {r s : PR} {N n j : Nat} (h : QOk r s n j) (hA : aheadP r s ≤ n + j) (hc : n + j < aheadP r s ∨ j < manyP r s) (hn : movedT r s (tabR r s (n + j)) (n + j) = []) : QOk r s n (j + 1) ∧ muQ r s N n (j + 1) < muQ r s N n j := by
  have hj : j < manyP r s := by omega
  refine ⟨⟨.inr ?_, fun i hi => ?_, hj⟩, ?_⟩
  · rcases h.from_ with z | z
    · omega
    · exact z
  · by_cases c : i < j
    · exact h.still i c
    · rw [show i = j by omega]
      exact hn
  · unfold muQ
    have e : tabR r s (n + (j + 1)) = tabR r s (n + j) := by
      show tabR r s (n + j) ++ movedT r s (tabR r s (n + j)) (n + j) = _
      rw [hn, List.append_nil]
    rw [e]
    omega
theorem q_none {r s : PR} {N n j : Nat} (h : QOk r s n j) (hN : ∀ p, (tabR r s p).length ≤ N) (hq : ¬ (movedT r s (tabR r s (n + j)) (n + j) = [] ∧ aheadP r s ≤ n + j)) : QOk r s (n + j + 1) 0 ∧ muQ r s N (n + j + 1) 0 < muQ r s N n j := by
  refine ⟨⟨.inl rfl, fun i hi => absurd hi (Nat.not_lt_zero i), Nat.zero_le _⟩, ?_⟩
  unfold muQ
  have e : (tabR r s (n + j + 1 + 0)).length = (tabR r s (n + j)).length + (movedT r s (tabR r s (n + j)) (n + j)).length := by
    show (tabR r s (n + j) ++ movedT r s (tabR r s (n + j)) (n + j)).length = _
    rw [List.length_append]
  have h1 := hN (n + j + 1 + 0)
  by_cases c : movedT r s (tabR r s (n + j)) (n + j) = []
  · have hA : ¬ aheadP r s ≤ n + j := fun z => hq ⟨c, z⟩
    rw [c] at e
    rw [e, List.length_nil, Nat.add_zero]
    have j0 : j = 0 := by
      rcases h.from_ with z | z
      · exact z
      · omega
    subst j0
    omega
  · have l1 : 1 ≤ (movedT r s (tabR r s (n + j)) (n + j)).length := List.length_pos_iff.mpr c
    have key : (N - (tabR r s (n + j + 1 + 0)).length) + 1 ≤ N - (tabR r s (n + j)).length := by omega
    have key := Nat.mul_le_mul_right (aheadP r s + manyP r s + 1) key
    rw [Nat.add_mul, Nat.one_mul] at key
    omega
section
variable {K : PySem.W.Frag} {mg : Str → Option Value} {base : Heap} {P : Program} {w : World}
def sp_least_addresses (K : PySem.W.Frag) : Sp := fun vs H Q _ => ∃ (p q : Addr) (r s : PR), vs = [.ref p, .ref q] ∧ RuleAt K H p r ∧ RuleAt K H q s ∧ SmallP r s ∧ ∀ H' d, Same H H' → H d = none → H' d = some (.dT (dtI (limT r s))) → Q (.ref d) H'
theorem sc_least_addresses : FnScope ["one", "other", "found", "place", "quiet", "ahead", "many", "later"] ["one", "other"] (defScope sleast_addresses) := ⟨rfl, rfl, rfl, by decide +kernel, rfl, by decide +kernel, by decide +kernel⟩
theorem ok_least_addresses (T : Tx K mg) : Fnc P w K mg base 7 "least_addresses" (He.ga K "least_addresses") ["one", "other"] (sp_least_addresses K) := by
  have c_moved_pairs := ok_moved_pairs (P := P) (w := w) (base := base) T
  have c_common_multiple := ok_common_multiple (P := P) (w := w) (base := base) T
  refine fnc_of T.fleast_addresses T.g_least_addresses sc_least_addresses (fun _ _ _ _ _ _ us hl => match us, hl with | [_, _], _ => rfl) (fun vs H Q E h => ?_) (fun cdv A outer s H vs Q E hr h => ?_)
  · obtain ⟨p, q, r, s, rfl, _⟩ := h
    rfl
  · obtain ⟨p, q, r, s', rfl, hR, hS, sm, k⟩ := h
    refine ⟨_, (pss_cons (ps_par3 (i := 2) (j := 3) (l := 4) (by rfl) sc_least_addresses.nd rfl rfl rfl (by decide) (by decide) (by decide) rfl rfl rfl (pa_cons (pe_disp1T (hu_of hr) (pe_tup (pa_cons pe_int (pa_cons pe_int pa_nil))) pe_int) (pa_cons pe_int (pa_cons pe_int pa_nil))) (by rfl))
      (pss_cons (ps_par (i := 5) (j := 6) (by rfl) sc_least_addresses.nd rfl rfl (by decide) rfl rfl (pa_cons (pe_callB (cr_max rfl) (by rfl) T.b_max (by decide +kernel) (pa_cons (pe_lst (pa_cons (pe_callB call_lenI (by rfl) T.b_len (by decide +kernel) (pa_cons (pe_fld (pv 0) rfl) pa_nil)) (pa_cons (pe_callB call_lenI (by rfl) T.b_len (by decide +kernel) (pa_cons (pe_fld (pv 1) rfl) pa_nil)) pa_nil))) pa_nil)) (pa_cons (pe_f c_common_multiple (hr.mono (by decide)) (pa_cons (pe_callB call_lenI (by rfl) T.b_len (by decide +kernel) (pa_cons (pe_fld (pv 0) rfl) pa_nil)) (pa_cons (pe_callB call_lenI (by rfl) T.b_len (by decide +kernel) (pa_cons (pe_fld (pv 1) rfl) pa_nil)) pa_nil))) pa_nil)) (by rfl))
      (pss_cons (ps_while PassesOwn.never (PW.pt (pw_or (pt_cmpR op_lt (pv 3) (pv 5) (nomark _)) (pw_or1 (pt_cmpR op_lt (pv 4) (pv 6) (nomark _))))) (pss_cons (ps_set (i := 7) sc_least_addresses.nd rfl (Or.inl rfl) (pe_f c_moved_pairs (hr.mono (by decide)) (pa_cons (pv 0) (pa_cons (pv 1) (pa_cons (pv 2) (pa_cons (pv 3) pa_nil))))))
      (pss_cons (ps_set (i := 4) sc_least_addresses.nd rfl (Or.inl rfl) (pe_ifExp (PW.pt (pw_and (pt_cmpR op_eq (pe_callB call_len_dT (by rfl) T.b_len (by decide +kernel) (pa_cons (pv 7) pa_nil)) pe_int (nomark _)) (pw_and1 (pt_cmpR op_ge (pv 3) (pv 5) (nomark _))))) (pe_op op_add (pv 4) pe_int) pe_int))
      (pss_cons (ps_set (i := 2) sc_least_addresses.nd rfl (Or.inl rfl) (pe_merge2 (hu_of hr) (pv 2) (pv 7)))
      (pss_one (ps_set (i := 3) sc_least_addresses.nd rfl (Or.inl rfl) (pe_op op_add (pv 3) pe_int)))))))
      (pss_one (ps_ret (pv 2)))))), ?_⟩
    have hR' := hR
    have hS' := hS
    obtain ⟨dx, m, a, t, hp, hm, ha, ht⟩ := hR'
    obtain ⟨dy, m', a', t', hq, hm', ha', ht'⟩ := hS'
    refine fun d hd => ⟨by show 2 ≤ sizeLine; decide, fun z0 hz0 => ⟨z0, kT (0, 0), rfl, upd_same, (Same.put hz0) _ _ upd_same, _, _, _, rfl, ?_⟩⟩
    have s1 : Same H (upd (upd (upd H d (.dT [])) z0 (.tup [.int 0, .int 0])) d (.dT [(kT (0, 0), .int 0)])) := Same.set ((Same.put hd).put' hz0) hd
    generalize hH1 : upd (upd (upd H d (.dT [])) z0 (.tup [.int 0, .int 0])) d (.dT [(kT (0, 0), .int 0)]) = H1 at *
    have hD1 : H1 d = some (.dT (dtI (tabR r s' 0))) := by rw [← hH1]; exact upd_same
    refine ⟨_, rfl, p, _, dx, _, _, rfl, s1 _ _ hp, T.c_Rule, T.n_Rule_ahead, rfl, a, _, rfl, .inr (s1 _ _ ha), _, rfl, q, _, dy, _, _, rfl, s1 _ _ hq, T.c_Rule, T.n_Rule_ahead, rfl, a', _, rfl, .inr (s1 _ _ ha'), by show 2 ≤ sizeLine; decide, fun w0 hw0 => ?_⟩
    have s2 := s1.put' (o := .lst [.int ((IV r.a).length : Int), .int ((IV s'.a).length : Int)]) hw0
    refine ⟨w0, [((IV r.a).length : Int), ((IV s'.a).length : Int)], rfl, SqL.of upd_same, (show 0 < 2 by decide), fun mx mem ub => ?_⟩
    have emx : mx = ((aheadP r s' : Nat) : Int) := by
      have u1 := ub _ List.mem_cons_self
      have u2 := ub _ (List.mem_cons_of_mem _ List.mem_cons_self)
      rw [IV_len] at u1 u2
      have m1 : mx = ((IV r.a).length : Int) ∨ mx = ((IV s'.a).length : Int) := by simpa using mem
      rw [IV_len, IV_len] at m1
      unfold aheadP
      omega
    subst emx
    have lt1 : 1 ≤ r.t.length := List.length_pos_iff.mpr sm.okr.ne
    have lt2 : 1 ≤ s'.t.length := List.length_pos_iff.mpr sm.oks.ne
    refine ⟨_, rfl, p, _, dx, _, _, rfl, s2 _ _ hp, T.c_Rule, T.n_Rule_turn, rfl, t, _, rfl, .inr (s2 _ _ ht), _, rfl, q, _, dy, _, _, rfl, s2 _ _ hq, T.c_Rule, T.n_Rule_turn, rfl, t', _, rfl, .inr (s2 _ _ ht'), r.t.length, s'.t.length, by rw [IV_len, IV_len]; rfl, lt1, lt2, _, _, rfl, ?_⟩
    have hD2 : upd H1 w0 (.lst [.int ((IV r.a).length : Int), .int ((IV s'.a).length : Int)]) d = some (.dT (dtI (tabR r s' 0))) := (Same.put hw0) _ _ hD1
    have mp := manyP_pos sm.okr sm.oks
    have A16 := sm.quiet
    -- the measure
    have N16 : (prodI r.m).toNat * (prodI s'.m).toNat ≤ 16 := Nat.mul_le_mul (show (prodI r.m).toNat ≤ 4 by have := sm.pr; omega) (show (prodI s'.m).toNat ≤ 4 by have := sm.ps; omega)
    generalize hN : (prodI r.m).toNat * (prodI s'.m).toNat = N at N16
    have lenN : ∀ p, (tabR r s' p).length ≤ N := fun p => by rw [← hN]; exact tab_len sm p
    obtain ⟨W, hW⟩ : ∃ W : Nat → L2.St → Hp → Prop, W = fun mu σ H' => ∃ (d : Addr) (n j : Nat) (v : Option V), σ = [some (.ref p), some (.ref q), some (.ref d), some (.int ((n + j : Nat) : Int)), some (.int (j : Int)), some (.int ((aheadP r s' : Nat) : Int)), some (.int ((manyP r s' : Nat) : Int)), v] ∧
        Same H H' ∧ H d = none ∧ H' d = some (.dT (dtI (tabR r s' (n + j)))) ∧ QOk r s' n j ∧ mu = muQ r s' N n j ∧ n + j + mu ≤ muQ r s' N 0 0 := ⟨_, rfl⟩
    refine ⟨W, ⟨_, by rw [hW]; exact ⟨d, 0, 0, none, rfl, s2, hd, hD2, ⟨.inl rfl, fun i hi => absurd hi (Nat.not_lt_zero i), Nat.zero_le _⟩, rfl, by omega⟩⟩, ?_⟩
    intro mu σ H' hWm
    rw [hW] at hWm
    obtain ⟨d1, n, j, v, rfl, s3, hd1, hD, hq, emu, hbk⟩ := hWm
    have small : n + j < 100000 := by
      have big : (N - (tabR r s' (0 + 0)).length) * (aheadP r s' + manyP r s' + 1) ≤ 16 * 17 := Nat.mul_le_mul (by omega) (by unfold aheadP manyP; omega)
      unfold muQ at hbk
      unfold aheadP manyP at *
      omega
    have okt := tabR_ok r s' (n + j)
    have inT := tok_in sm.okr sm.oks okt
    have okt2 := tabR_ok r s' (n + j + 1)
    have inT2 := tok_in sm.okr sm.oks okt2
    have sm1 := inT_small inT sm.pr sm.ps
    have sm2 : SmallT (movedT r s' (tabR r s' (n + j)) (n + j)) := fun e he => inT_small inT2 sm.pr sm.ps e (movedT_in e he)
    have l1 := lenN (n + j)
    have l2 := lenN (n + j + 1)
    have l3 : (tabR r s' (n + j)).length + (movedT r s' (tabR r s' (n + j)) (n + j)).length = (tabR r s' (n + j + 1)).length := (List.length_append ..).symm
    refine ⟨_, rfl, _, rfl, _, _, rfl, rfl, _, rfl, ite2 (fun h1 => ?x1) (fun h1 => ⟨_, rfl, _, rfl, _, _, rfl, rfl, _, rfl, ite2 (fun h2 => ?x2) (fun h2 => ?y)⟩)⟩
    case y =>
      have h1 : ¬ ((n + j : Nat) : Int) < ((aheadP r s' : Nat) : Int) := fun z => h1 (decide_eq_true z)
      have h2 : ¬ (j : Int) < ((manyP r s' : Nat) : Int) := fun z => h2 (decide_eq_true z)
      have e : tabR r s' (n + j) = limT r s' := by
        refine quiet_lim sm ?_ (by omega) hq.still
        rcases hq.from_ with z | z
        · have := manyP_pos sm.okr sm.oks
          omega
        · exact z
      refine ⟨_, rfl, k H' d1 s3 hd1 ?_⟩
      rw [hD, e]
    all_goals
      have hc : n + j < aheadP r s' ∨ j < manyP r s' := by
        first
        | exact .inl (Int.ofNat_lt.mp (of_decide_eq_true h1))
        | exact .inr (Int.ofNat_lt.mp (of_decide_eq_true h2))
      refine ⟨fun σ' H'' => ∃ mu', mu' < mu ∧ W mu' σ' H'', fun σ' H'' z => z, ?_⟩
      refine ⟨_, rfl, _, rfl, _, rfl, _, rfl, p, q, d1, r, s', tabR r s' (n + j), n + j, rfl, hR.same s3, hS.same s3, sm.okr, sm.oks, hD, okt.nd, inT, by omega, small, fun H4 l s4 hl hL => ?_⟩
      have S4 := s3.trans s4
      have hD4 := s4 _ _ hD
      refine ⟨_, rfl, l, _, rfl, hL, rfl, _, rfl, ite2 (fun g1 => ⟨_, rfl, _, rfl, _, _, rfl, rfl, _, rfl, ite2 (fun g2 => ?_) (fun g2 => ?_)⟩) (fun g1 => ?_)⟩
      · have g1 : V.int (((dtI (movedT r s' (tabR r s' (n + j)) (n + j))).length : Nat) : Int) = V.int 0 := of_decide_eq_true g1
        have g1 := V.int.inj g1
        rw [dtI_len] at g1
        have g2 : ((aheadP r s' : Nat) : Int) ≤ ((n + j : Nat) : Int) := of_decide_eq_true g2
        have e0 : movedT r s' (tabR r s' (n + j)) (n + j) = [] := List.length_eq_zero_iff.mp (by omega)
        obtain ⟨qo, lt⟩ := q_more (N := N) hq (by omega) hc e0
        (refine ⟨_, rfl, _, _, rfl, rfl, ?_⟩)
        refine fun pn hpn => ?_
        have d1n : d1 ≠ pn := ne_of_none hD4 hpn
        have ln : l ≠ pn := ne_of_none hL hpn
        have nd2 : NdT (movedT r s' (tabR r s' (n + j)) (n + j)) := moved_nd
        refine ⟨_, rfl, d1, _, rfl, d1n, by rw [upd_ne d1n]; exact hD4, upd_same, hash_nd okt.nd sm1, ?_⟩
        refine ⟨_, rfl, l, _, rfl, ln, by rw [upd_ne ln, upd_ne ln]; exact hL, upd_same, hash_nd nd2 sm2, by rw [dtI_len, dtI_len, sizeLine_eq]; omega, ?_⟩
        rw [mergeT_app _ _ (show NdT (tabR r s' (n + j) ++ movedT r s' (tabR r s' (n + j)) (n + j)) from okt2.nd)]
        refine ⟨_, rfl, _, _, rfl, rfl, muQ r s' N (n) (j + 1), by rw [emu]; exact lt, ?_⟩
        rw [hW]
        have hn : H pn = none := by
          cases e : H pn with
          | none => rfl
          | some o => rw [S4 _ _ e] at hpn; cases hpn
        have st : Same H4 (upd (upd (upd H4 pn (.dT [])) pn (.dT (dtI (tabR r s' (n + j))))) pn (.dT (dtI (tabR r s' (n + j) ++ movedT r s' (tabR r s' (n + j)) (n + j))))) := fun b o e => by
          have hbk := ne_of_none e hpn
          rw [upd_ne hbk, upd_ne hbk, upd_ne hbk]
          exact e
        exact ⟨pn, n, j + 1, some (.ref l), rfl, S4.trans st, hn, upd_same, qo, rfl, by omega⟩
      · have g2 : ¬ ((aheadP r s' : Nat) : Int) ≤ ((n + j : Nat) : Int) := fun z => g2 (decide_eq_true z)
        obtain ⟨qo, lt⟩ := q_none (N := N) hq lenN (fun z => g2 (by omega))
        refine fun pn hpn => ?_
        have d1n : d1 ≠ pn := ne_of_none hD4 hpn
        have ln : l ≠ pn := ne_of_none hL hpn
        have nd2 : NdT (movedT r s' (tabR r s' (n + j)) (n + j)) := moved_nd
        refine ⟨_, rfl, d1, _, rfl, d1n, by rw [upd_ne d1n]; exact hD4, upd_same, hash_nd okt.nd sm1, ?_⟩
        refine ⟨_, rfl, l, _, rfl, ln, by rw [upd_ne ln, upd_ne ln]; exact hL, upd_same, hash_nd nd2 sm2, by rw [dtI_len, dtI_len, sizeLine_eq]; omega, ?_⟩
        rw [mergeT_app _ _ (show NdT (tabR r s' (n + j) ++ movedT r s' (tabR r s' (n + j)) (n + j)) from okt2.nd)]
        refine ⟨_, rfl, _, _, rfl, rfl, muQ r s' N (n + j + 1) (0), by rw [emu]; exact lt, ?_⟩
        rw [hW]
        have hn : H pn = none := by
          cases e : H pn with
          | none => rfl
          | some o => rw [S4 _ _ e] at hpn; cases hpn
        have st : Same H4 (upd (upd (upd H4 pn (.dT [])) pn (.dT (dtI (tabR r s' (n + j))))) pn (.dT (dtI (tabR r s' (n + j) ++ movedT r s' (tabR r s' (n + j)) (n + j))))) := fun b o e => by
          have hbk := ne_of_none e hpn
          rw [upd_ne hbk, upd_ne hbk, upd_ne hbk]
          exact e
        exact ⟨pn, n + j + 1, 0, some (.ref l), rfl, S4.trans st, hn, upd_same, qo, rfl, by omega⟩
      · have e0 : ¬ movedT r s' (tabR r s' (n + j)) (n + j) = [] := fun z => g1 (decide_eq_true (by rw [z]; rfl))
        obtain ⟨qo, lt⟩ := q_none (N := N) hq lenN (fun z => e0 z.1)
        refine fun pn hpn => ?_
        have d1n : d1 ≠ pn := ne_of_none hD4 hpn
        have ln : l ≠ pn := ne_of_none hL hpn
        have nd2 : NdT (movedT r s' (tabR r s' (n + j)) (n + j)) := moved_nd
        refine ⟨_, rfl, d1, _, rfl, d1n, by rw [upd_ne d1n]; exact hD4, upd_same, hash_nd okt.nd sm1, ?_⟩
        refine ⟨_, rfl, l, _, rfl, ln, by rw [upd_ne ln, upd_ne ln]; exact hL, upd_same, hash_nd nd2 sm2, by rw [dtI_len, dtI_len, sizeLine_eq]; omega, ?_⟩
        rw [mergeT_app _ _ (show NdT (tabR r s' (n + j) ++ movedT r s' (tabR r s' (n + j)) (n + j)) from okt2.nd)]
        refine ⟨_, rfl, _, _, rfl, rfl, muQ r s' N (n + j + 1) (0), by rw [emu]; exact lt, ?_⟩
        rw [hW]
        have hn : H pn = none := by
          cases e : H pn with
          | none => rfl
          | some o => rw [S4 _ _ e] at hpn; cases hpn
        have st : Same H4 (upd (upd (upd H4 pn (.dT [])) pn (.dT (dtI (tabR r s' (n + j))))) pn (.dT (dtI (tabR r s' (n + j) ++ movedT r s' (tabR r s' (n + j)) (n + j))))) := fun b o e => by
          have hbk := ne_of_none e hpn
          rw [upd_ne hbk, upd_ne hbk, upd_ne hbk]
          exact e
        exact ⟨pn, n + j + 1, 0, some (.ref l), rfl, S4.trans st, hn, upd_same, qo, rfl, by omega⟩
end
end K70
-- K70F10
namespace K70
open L2 PySem PySem.Spec PyProof.Rows StX
/-! ### loops and comprehensions over any walk -/
theorem for_gen {J : It} {n : Nat} {g : TG} {tb : TS} {D : Ends} {σk : L2.St} {H : Hp} (Pv : Nat → L2.St → Hp → Prop) (h0 : Pv 0 σk H) (hgo : ∀ i σk H, i < n → Pv i σk H → J.go i H) (hstop : ∀ σk H, Pv n σk H → J.stop n H)
    (hs : ∀ i x σk H H', i < n → Pv i σk H → J.yld i H x H' → g x σk H' fun σ2 H2 => tb { D with nx := Pv (i + 1), ct := Pv (i + 1), bk := D.nx } σ2 H2) (hd : ∀ σk H, Pv n σk H → D.nx σk H) :
    ∃ W : Nat → Nat → L2.St → Hp → Prop, (∃ m, W 0 m σk H) ∧ ∀ i m σk H, W i m σk H →
      (J.stop i H ∧ D.nx σk H) ∨ (J.go i H ∧ ∃ N : L2.St → Hp → Prop, (∀ σ' H', N σ' H' → ∃ m', m' < m ∧ W (i + 1) m' σ' H') ∧ ∀ x H', J.yld i H x H' → g x σk H' fun σ2 H2 => tb { D with nx := N, ct := N, bk := D.nx } σ2 H2) := by
  refine ⟨fun i m σk H => m = n - i ∧ i ≤ n ∧ Pv i σk H, ⟨n, rfl, Nat.zero_le _, h0⟩, ?_⟩
  rintro i m σk H ⟨rfl, hi, p⟩
  by_cases hlt : i < n
  · exact .inr ⟨hgo i σk H hlt p, Pv (i + 1), fun σ' H' p' => ⟨n - (i + 1), by omega, rfl, hlt, p'⟩, fun x H' y => hs i x σk H H' hlt p y⟩
  · have e : i = n := by omega
    subst e
    exact .inl ⟨hstop σk H p, hd σk H p⟩
theorem lc_gen {J : It} {n : Nat} {g : TG} {tt : TT} {te : TE} {vs : List Nat} {σ : L2.St} {H1k : Hp} {D : Addr} {Qd : Hp → Prop} (Pv : Nat → Hp → Prop) (h0 : Pv 0 (upd H1k D (.lst []))) (hgo : ∀ i H, i < n → Pv i H → J.go i H) (hstop : ∀ H, Pv n H → J.stop n H)
    (hs : ∀ i x H H', i < n → Pv i H → J.yld i H x H' → g x (wipe σ vs) H' fun σ2 H2 => wipe σ2 vs = wipe σ vs ∧ tt σ2 H2 fun b H3k =>
      if b = true then te σ2 H3k fun y H4 => ∃ acc, H4 D = some (.lst acc) ∧ acc.length < sizeLine ∧ Pv (i + 1) (upd H4 D (.lst (acc ++ [y]))) else Pv (i + 1) H3k) (hd : ∀ H, Pv n H → Qd H) :
    ∃ W : Nat → Nat → Hp → Prop, (∃ m, W 0 m (upd H1k D (.lst []))) ∧ ∀ i m H, W i m H →
      (J.stop i H ∧ Qd H) ∨ (J.go i H ∧ ∃ Nx : Hp → Prop, (∀ H', Nx H' → ∃ m', m' < m ∧ W (i + 1) m' H') ∧ ∀ x H', J.yld i H x H' → g x (wipe σ vs) H' fun σ2 H2 => wipe σ2 vs = wipe σ vs ∧ tt σ2 H2 fun b H3k =>
        if b = true then te σ2 H3k fun y H4 => ∃ acc, H4 D = some (.lst acc) ∧ acc.length < sizeLine ∧ Nx (upd H4 D (.lst (acc ++ [y]))) else Nx H3k) := by
  refine ⟨fun i m H => m = n - i ∧ i ≤ n ∧ Pv i H, ⟨n, rfl, Nat.zero_le _, h0⟩, ?_⟩
  rintro i m H ⟨rfl, hi, p⟩
  by_cases hlt : i < n
  · exact .inr ⟨hgo i H hlt p, Pv (i + 1), fun H' p' => ⟨n - (i + 1), by omega, rfl, hlt, p'⟩, fun x H' y => hs i x H H' hlt p y⟩
  · have e : i = n := by omega
    subst e
    exact .inl ⟨hstop H p, hd H p⟩
/-! ### rows of a side -/
def sk (sd : Bool) (k : Int × Int) : Int := if sd = true then k.2 else k.1
def addrs (t : Tab) (sd : Bool) (b : Int) : List Int := (t.filter fun e => decide (sk sd e.1 = b)).map fun e => (e.2 : Int)
theorem addrs_snoc (t : Tab) (e : (Int × Int) × Nat) (sd : Bool) (b : Int) : addrs (t ++ [e]) sd b = if sk sd e.1 = b then addrs t sd b ++ [(e.2 : Int)] else addrs t sd b := by
  unfold addrs
  rw [List.filter_append, List.map_append]
  by_cases h : sk sd e.1 = b
  · rw [if_pos h, List.filter_cons_of_pos (by simpa using h)]
    rfl
  · rw [if_neg h, List.filter_cons_of_neg (by simpa using h)]
    show _ ++ [] = _
    rw [List.append_nil]
theorem mem_addrs {t : Tab} {sd : Bool} {b x : Int} : x ∈ addrs t sd b ↔ ∃ e ∈ t, sk sd e.1 = b ∧ x = (e.2 : Int) := by
  unfold addrs
  rw [List.mem_map]
  constructor
  · rintro ⟨e, he, rfl⟩
    obtain ⟨h1, h2⟩ := List.mem_filter.mp he
    exact ⟨e, h1, by simpa using h2, rfl⟩
  · rintro ⟨e, h1, h2, rfl⟩
    exact ⟨e, List.mem_filter.mpr ⟨h1, by simpa using h2⟩, rfl⟩
/-- two addresses of one row, the later and the earlier one -/
def SS (t : Tab) (sd : Bool) (s f : Nat) : Prop := ∃ e1 ∈ t, ∃ e2 ∈ t, sk sd e1.1 = sk sd e2.1 ∧ e2.2 < e1.2 ∧ s = e1.2 ∧ f = e2.2
def ClashOk (t : Tab) (sd : Bool) (cs : List (Nat × Nat)) : Prop := (∀ c ∈ cs, SS t sd c.1 c.2) ∧ ∀ s f, SS t sd s f → ∃ c ∈ cs, c.1 ≤ s ∧ (c.1 = s → c.2 = f)
/-- what the dict of rows holds -/
structure RowsOk (H : Hp) (pre : Tab) (sd : Bool) (kvs : List (L2.Key × V)) : Prop where
  nd : (kvs.map (·.1)).Nodup
  key : ∀ kv ∈ kvs, ∃ b : Int, kv.1 = Sum.inl b ∧ addrs pre sd b ≠ []
  row : ∀ (b : Int), addrs pre sd b ≠ [] → ∃ (p : Addr) (l : List Int), valV kvs (Sum.inl b) = some (.ref p) ∧ H p = some (.lst (IV l)) ∧ l.Pairwise (· ≤ ·) ∧ l.Perm (addrs pre sd b)
  no : ∀ (b : Int), addrs pre sd b = [] → valV kvs (Sum.inl b) = none
theorem valV_of_mem {κ : Type} [DecidableEq κ] {kvs : List (κ × V)} (ndk : (kvs.map (·.1)).Nodup) {kv : κ × V} (h : kv ∈ kvs) : valV kvs kv.1 = some kv.2 := by
  induction kvs with
  | nil => exact nomatch h
  | cons x r ih =>
    rw [List.map_cons, List.nodup_cons] at ndk
    (rcases List.mem_cons.mp h with q | q)
    · subst q
      exact valV_pos rfl
    · rw [valV_neg (fun z => ndk.1 (by rw [z]; exact List.mem_map_of_mem q))]
      exact ih ndk.2 q
theorem putK_nd {κ : Type} [DecidableEq κ] {kvs : List (κ × V)} (nd : (kvs.map (·.1)).Nodup) (k : κ) (v : V) : ((putK kvs k v).map (·.1)).Nodup := by
  unfold putK
  by_cases c : (kvs.any fun kv => decide (kv.1 = k)) = true
  · rw [if_pos c, List.map_map]
    have e : ((fun x : κ × V => x.1) ∘ fun kv : κ × V => if kv.1 = k then (kv.1, v) else kv) = fun x => x.1 := by
      funext x
      show (if x.1 = k then (x.1, v) else x).1 = x.1
      split <;> rfl
    rw [e]
    exact nd
  · rw [if_neg c, List.map_append, List.nodup_append]
    refine ⟨nd, by simp, fun x hx y hy z => c ?_⟩
    obtain ⟨e, he, q⟩ := List.mem_map.mp hx
    have hy : y = k := by simpa using hy
    exact List.any_eq_true.mpr ⟨e, he, by simp [q, z, hy]⟩
theorem putK_mem {κ : Type} [DecidableEq κ] {kvs : List (κ × V)} {k : κ} {v : V} {x : κ × V} (h : x ∈ putK kvs k v) : x.1 = k ∨ x ∈ kvs := by
  unfold putK at h
  split at h
  · obtain ⟨e, he, q⟩ := List.mem_map.mp h
    split at q
    · rename_i hk
      rw [← q]
      exact .inl hk
    · exact .inr (q ▸ he)
  · rcases List.mem_append.mp h with q | q
    · exact .inr q
    · rw [List.mem_singleton.mp q]
      exact .inl rfl
theorem RowsOk.put {H H' : Hp} {pre : Tab} {sd : Bool} {kvs : List (L2.Key × V)} (h : RowsOk H pre sd kvs) (e : (Int × Int) × Nat) {p : Addr} {l : List Int} (st : ∀ b o, H b = some o → (∃ xs, o = .lst xs) → H' b = some o) (hp : H' p = some (.lst (IV l))) (so : l.Pairwise (· ≤ ·)) (pe : l.Perm (addrs pre sd (sk sd e.1) ++ [(e.2 : Int)])) :
    RowsOk H' (pre ++ [e]) sd (putK kvs (Sum.inl (sk sd e.1)) (.ref p)) := by
  refine ⟨putK_nd h.nd _ _, fun kv hkv => ?_, fun b hb => ?_, fun b hb => ?_⟩
  · rcases putK_mem hkv with q | q
    · exact ⟨sk sd e.1, q, by rw [addrs_snoc, if_pos rfl]; simp⟩
    · obtain ⟨b, h1, h2⟩ := h.key kv q
      refine ⟨b, h1, ?_⟩
      rw [addrs_snoc]
      split
      · simp
      · exact h2
  · rw [addrs_snoc] at hb ⊢
    rw [valV_put]
    by_cases c : sk sd e.1 = b
    · rw [if_pos c, if_pos (by rw [c])]
      exact ⟨p, l, rfl, hp, so, by rw [← c]; exact pe⟩
    · rw [if_neg c] at hb ⊢
      rw [if_neg (fun z => c (by injection z with z; exact z.symm))]
      obtain ⟨p1, l1, h1, h2, h3, h4⟩ := h.row b hb
      exact ⟨p1, l1, h1, st _ _ h2 ⟨_, rfl⟩, h3, h4⟩
  · rw [addrs_snoc] at hb
    by_cases c : sk sd e.1 = b
    · rw [if_pos c] at hb
      simp at hb
    · rw [if_neg c] at hb
      rw [valV_put, if_neg (fun z => c (by injection z with z; exact z.symm))]
      exact h.no b hb
/-- the second and the first of a row -/
theorem row_clash {t : Tab} {sd : Bool} {b : Int} {l : List Int} (nda : (t.map (·.2)).Nodup) (so : l.Pairwise (· ≤ ·)) (pe : l.Perm (addrs t sd b)) {x y : Int} {r : List Int} (hl : l = y :: x :: r) :
    ∃ s f : Nat, x = (s : Int) ∧ y = (f : Int) ∧ SS t sd s f ∧ ∀ s' f', (∃ e1 ∈ t, ∃ e2 ∈ t, sk sd e1.1 = b ∧ sk sd e2.1 = b ∧ e2.2 < e1.2 ∧ s' = e1.2 ∧ f' = e2.2) → s ≤ s' ∧ (s = s' → f = f') := by
  subst hl
  have hx : x ∈ addrs t sd b := pe.mem_iff.mp (by simp)
  have hy : y ∈ addrs t sd b := pe.mem_iff.mp (by simp)
  obtain ⟨e1, h1, k1, rfl⟩ := mem_addrs.mp hx
  obtain ⟨e2, h2, k2, rfl⟩ := mem_addrs.mp hy
  have ndl : ((e2.2 : Int) :: (e1.2 : Int) :: r).Nodup := by
    refine pe.nodup_iff.mpr ?_
    unfold addrs
    have sub : ((t.filter fun e => decide (sk sd e.1 = b)).map (·.2)).Nodup := ((List.filter_sublist (l := t)).map (fun e : (Int × Int) × Nat => e.2)).nodup nda
    have e : (t.filter fun e => decide (sk sd e.1 = b)).map (fun e => (e.2 : Int)) = ((t.filter fun e => decide (sk sd e.1 = b)).map (·.2)).map (fun n : Nat => (n : Int)) := by rw [List.map_map]; rfl
    rw [e]
    have inj : ∀ l : List Nat, l.Nodup → (l.map fun n : Nat => (n : Int)).Nodup := by
      intro l
      induction l with
      | nil => exact fun _ => List.nodup_nil
      | cons z w ih =>
        intro nd
        rw [List.nodup_cons] at nd
        (rw [List.map_cons, List.nodup_cons])
        refine ⟨fun h => ?_, ih nd.2⟩
        obtain ⟨q, hq, eq⟩ := List.mem_map.mp h
        have : q = z := by omega
        exact nd.1 (this ▸ hq)
    exact inj _ sub
  rw [List.pairwise_cons] at so
  have le := so.1 (e1.2 : Int) List.mem_cons_self
  rw [List.nodup_cons, List.nodup_cons] at ndl
  have ne : (e2.2 : Int) ≠ (e1.2 : Int) := fun z => ndl.1 (by rw [z]; exact List.mem_cons_self)
  refine ⟨e1.2, e2.2, rfl, rfl, ⟨e1, h1, e2, h2, by rw [k1, k2], by omega, rfl, rfl⟩, ?_⟩
  rintro s' f' ⟨a1, g1, a2, g2, c1, c2, lt, rfl, rfl⟩
  have m1 : (a1.2 : Int) ∈ (e2.2 : Int) :: (e1.2 : Int) :: r := pe.mem_iff.mpr (mem_addrs.mpr ⟨a1, g1, c1, rfl⟩)
  have m2 : (a2.2 : Int) ∈ (e2.2 : Int) :: (e1.2 : Int) :: r := pe.mem_iff.mpr (mem_addrs.mpr ⟨a2, g2, c2, rfl⟩)
  have so2 := so.2
  rw [List.pairwise_cons] at so2
  have low : ∀ z : Int, z ∈ (e2.2 : Int) :: (e1.2 : Int) :: r → z = (e2.2 : Int) ∨ (e1.2 : Int) ≤ z := fun z hz => by
    rcases List.mem_cons.mp hz with q | q
    · exact .inl q
    · (rcases List.mem_cons.mp q with q | q)
      · exact .inr (by omega)
      · exact .inr (so2.1 z q)
  have q1 := low _ m1
  have q2 := low _ m2
  refine ⟨by omega, fun z => by omega⟩
theorem range_self (xs : List V) : (List.range xs.length).map (fun i => xs.getD i .non) = xs := by
  apply List.ext_getElem
  · simp
  · intro i h1 h2k
    rw [List.getElem_map, List.getElem_range, List.getD_eq_getElem?_getD, List.getElem?_eq_getElem h2k]
    rfl
theorem take_snoc {α : Type} {l : List α} {i : Nat} {x : α} (h : l[i]? = some x) : l.take (i + 1) = l.take i ++ [x] := by
  rw [List.take_succ, h]
  rfl
section
variable {K : PySem.W.Frag} {mg : Str → Option Value} {base : Heap} {P : Program} {w : World}
def sp_clashes : Sp := fun vs H Q _ => ∃ (d : Addr) (t : Tab) (sd : Bool), vs = [.ref d, .int (if sd = true then 1 else 0)] ∧ H d = some (.dT (dtI t)) ∧ NdT t ∧ (t.map (·.2)).Nodup ∧ t.length ≤ 60 ∧
  ∀ H' D xs (cs : List (Nat × Nat)), Same H H' → H D = none → xs.length ≤ 60 → H' D = some (.lst xs) → Paired (fun x (c : Nat × Nat) => ∃ p, x = V.ref p ∧ H' p = some (.tup [.int (c.1 : Int), .int (c.2 : Int)])) xs cs → ClashOk t sd cs → Q (.ref D) H'
theorem sc_clashes : FnScope ["found", "side", "rows", "pair", "address", "row"] ["found", "side"] (defScope sclashes) := ⟨rfl, rfl, rfl, by decide +kernel, rfl, by decide +kernel, by decide +kernel⟩
theorem ok_clashes (T : Tx K mg) : Fnc P w K mg base 1 "clashes" (He.ga K "clashes") ["found", "side"] sp_clashes := by
  refine fnc_of T.fclashes T.g_clashes sc_clashes (fun _ _ _ _ _ _ us hl => match us, hl with | [_, _], _ => rfl) (fun vs H Q E h => ?_) (fun cdv A outer s H vs Q E hr h => ?_)
  · obtain ⟨d, t, sd, rfl, _⟩ := h
    rfl
  · obtain ⟨d, t, sd, rfl, hD, nd, nda, zt, k⟩ := h
    refine ⟨_, (pss_cons (ps_set (i := 2) sc_clashes.nd rfl (Or.inl rfl) pe_dnewK)
      (pss_cons (ps_lock (ps_for PassesOwn.never rfl (pi_keys (pv 0)) (pg_name (i := 3) sc_clashes.nd rfl (Or.inl rfl))
        (pss_one (ps_dput (hu_of hr) (pv 2) (pe_ix ix_I (pv 3) (pv 1) (fun _ _ => rfl)) (pe_callB cr_sorted (by rfl) T.b_sorted (by decide +kernel) (pa_cons (pe_lc (own := [("address", 4)]) (g := gName 4) (tt := tYes) (by rfl) sc_clashes.nd (pi_list (pe_lst (pa_star (pe_dget2 (hu_of hr) (pv 2) (pe_ix ix_I (pv 3) (pv 1) (fun _ _ => rfl)) (pe_lst pa_nil) ⟨rfl, rfl, rfl, rfl⟩) (pa_cons (pe_dget (hu_of hr) (pv 0) (pv 3) (fun _ _ => rfl)) pa_nil)))) (blkOk_by (N := ["found", "side", "rows", "pair", "address", "row"]) (sc := defScope sclashes) (by decide +kernel)) (fun _ _ _ _ _ => (pg_name (i := 4) sc_clashes.nd rfl (Or.inl rfl))) (fun _ _ _ _ _ => pts_nil) (fun _ _ _ _ _ => (pe_callTy call_int1 (by rfl) T.b_int (by decide +kernel) (pa_cons (pv 4) pa_nil)))) pa_nil)) rfl))))
      (pss_one (ps_ret (pe_lock (pe_lc (own := [("row", 5)]) (g := gName 5) (by rfl) sc_clashes.nd (pi_values (pv 2)) (blkOk_by (N := ["found", "side", "rows", "pair", "address", "row"]) (sc := defScope sclashes) (by decide +kernel)) (fun _ _ _ _ _ => (pg_name (i := 5) sc_clashes.nd rfl (Or.inl rfl))) (fun _ _ _ _ _ => pts_one (pt_cmpR op_gt (pe_callB call_lenI (by rfl) T.b_len (by decide +kernel) (pa_cons (pv 5) pa_nil)) pe_int (nomark _))) (fun _ _ _ _ _ => (pe_tup (pa_cons (pe_ix ix_I (pv 5) pe_int (fun _ _ => rfl)) (pa_cons (pe_ix ix_I (pv 5) pe_int (fun _ _ => rfl)) pa_nil)))))))))), ?_⟩
    refine fun l hl => ?_
    have hld : l ≠ d := fun z => by rw [z, hD] at hl; cases hl
    refine ⟨d, _, (Same.put hl) _ _ hD, True.intro, fun od => ?_⟩
    generalize hH2 : upd (upd H l (.dK [])) d (.frz od (.dT (dtI t))) = H2 at *
    have hD2 : H2 d = some (.frz od (.dT (dtI t))) := by rw [← hH2]; exact upd_same
    have hL2 : H2 l = some (.dK []) := by rw [← hH2, upd_ne hld]; exact upd_same
    have old : ∀ b o, b ≠ d → H b = some o → H2 b = some o := fun b o hb e => by rw [← hH2, upd_ne hb]; exact (Same.put hl) _ _ e
    refine ⟨_, rfl, d, od, rfl, .inr ⟨_, hD2, for_keysT (d := d) (od := od) (kvs := dtI t) (fun i σ H' => ∃ (v : Option V) (kvs : List (L2.Key × V)), σ = [some (.ref d), some (.int (if sd = true then 1 else 0)), some (.ref l), v, none, none] ∧
        (∀ b o, b ≠ l → H2 b = some o → H' b = some o) ∧ H' l = some (.dK kvs) ∧ kvs.length ≤ i ∧ RowsOk H' (t.take i) sd kvs)
      ⟨none, [], rfl, fun b o _ e => e, hL2, Nat.le_refl _, ⟨List.nodup_nil, fun kv h => (nomatch h), fun b h => absurd rfl h, fun b _ => rfl⟩⟩ (fun i σ H' q => by obtain ⟨_, _, _, st, _⟩ := q; exact st _ _ hld.symm hD2) ?_ ?_⟩⟩
    · rintro i k0 v0 q σ H' hk hb ⟨v, kvs, rfl, st, hL, zk, rows⟩
      obtain ⟨x, hx, rfl, rfl⟩ := dtI_at hk
      obtain ⟨hi, ex⟩ := List.getElem?_eq_some_iff.mp hx
      have mem := List.mem_of_getElem? hx
      have hb' : H' q = some (.tup [.int x.1.1, .int x.1.2]) := hb
      have at_ : atI [V.int x.1.1, V.int x.1.2] (if sd = true then 1 else 0) = some (.int (sk sd x.1)) := by cases sd <;> rfl
      have hD' := st _ _ hld.symm hD2
      refine ⟨_, rfl, l, rfl, .inl ⟨_, .inl hL⟩, _, rfl, _, rfl, q, _, _, _, rfl, rfl, .inr hb', at_, Nat.zero_le _, fun e0 he0 => ?_⟩
      have s3 : Same H' (upd H' e0 (.lst [])) := Same.put he0
      have hL3 := s3 _ _ hL
      have key : ∃ (pr : Addr) (l0 : List Int), (valV kvs (Sum.inl (sk sd x.1))).getD (.ref e0) = V.ref pr ∧ upd H' e0 (.lst []) pr = some (.lst (IV l0)) ∧ l0.Perm (addrs (t.take i) sd (sk sd x.1)) := by
        by_cases c : addrs (t.take i) sd (sk sd x.1) = []
        · rw [rows.no _ c, c]
          exact ⟨e0, [], rfl, upd_same, .nil⟩
        · obtain ⟨p1, l1, h1, h2, _, h4⟩ := rows.row _ c
          rw [h1]
          exact ⟨p1, l1, rfl, s3 _ _ h2, h4⟩
      obtain ⟨pr, l0, eg, hpr, perm⟩ := key
      have len0 : l0.length ≤ i := by
        rw [perm.length_eq]
        unfold addrs
        rw [List.length_map]
        refine Nat.le_trans (List.length_filter_le _ _) ?_
        rw [List.length_take]
        exact Nat.min_le_left _ _
      refine ⟨_, .inl ⟨_, Sum.inl (sk sd x.1), .inl hL3, rfl, rfl⟩, ?_⟩
      rw [eg]
      refine ⟨pr, IV l0, rfl, .inr (SqL.of hpr), _, rfl, _, rfl, d, V.int (x.2 : Int), rfl, .inr ⟨_, _, _, .inr ⟨_, s3 _ _ hD'⟩, rfl, s3 _ _ hb, ?_⟩, ?_, fun L0 hL0 => ?_⟩
      · rw [valV_dtI, getT_mem nd mem]
        rfl
      · show (IV l0 ++ [V.int (x.2 : Int)]).length ≤ sizeLine
        rw [List.length_append, IV_len, sizeLine_eq, List.length_singleton]
        omega
      have el : IV l0 ++ [V.int (x.2 : Int)] = IV (l0 ++ [(x.2 : Int)]) := by rw [IV_app]; rfl
      have s4 : Same H' (upd (upd H' e0 (.lst [])) L0 (.lst (IV l0 ++ [V.int (x.2 : Int)]))) := s3.put' hL0
      have hL0' : upd (upd H' e0 (.lst [])) L0 (.lst (IV l0 ++ [V.int (x.2 : Int)])) L0 = some (.lst (IV (l0 ++ [(x.2 : Int)]))) := by rw [upd_same, el]
      generalize hH4 : upd (upd H' e0 (.lst [])) L0 (.lst (IV l0 ++ [V.int (x.2 : Int)])) = H4 at *
      refine ⟨L0, rfl, ⟨_, SqL.of hL0'⟩, fun D hDn => lc_listG (xs := IV (l0 ++ [(x.2 : Int)])) (fun i => (IV (l0 ++ [(x.2 : Int)])).getD i .non) hDn (SqL.of hL0') (by rw [IV_len, List.length_append, List.length_singleton, sizeLine_eq]; omega) (fun j y H5 hy s5 Qk hq => ?_) fun H5 s5 e5 => ?_⟩
      · obtain ⟨z, hz, rfl⟩ := IV_get hy
        refine ⟨rfl, _, rfl, .inl ⟨z, rfl, ?_⟩⟩
        have eq : (IV (l0 ++ [(x.2 : Int)])).getD j .non = V.int z := by rw [List.getD_eq_getElem?_getD, hy]; rfl
        rw [eq] at hq
        exact hq _ (Same.refl _)
      · rw [range_self] at e5
        refine ⟨D, l0 ++ [(x.2 : Int)], rfl, SqL.of e5, by rw [List.length_append, List.length_singleton]; omega, fun ns' p0 pm so hp0 => ?_⟩
        have s6 : Same H' (upd H5 p0 (.lst (IV ns'))) := (s4.trans s5).put' hp0
        have hL6 := s6 _ _ hL
        refine ⟨_, rfl, _, rfl, _, rfl, q, _, _, _, rfl, rfl, .inr (s6 _ _ hb'), at_, l, _, rfl, .inl ⟨_, Sum.inl (sk sd x.1), hL6, rfl, by rw [sizeLine_eq]; omega, rfl⟩, ?_⟩
        have np : p0 ≠ l := fun z => by
          have h5 := (s4.trans s5) _ _ hL
          rw [z, h5] at hp0
          cases hp0
        refine ⟨_, _, rfl, fun b o hb e => ?_, upd_same, Nat.le_trans (length_putK _ _ _) (by omega), ?_⟩
        · rw [upd_ne hb]
          exact s6 _ _ (st b o hb e)
        · rw [take_snoc hx]
          refine rows.put x (p := p0) (l := ns') (fun b o e z => ?_) ?_ so (pm.trans (perm.append_right _))
          · obtain ⟨xs, rfl⟩ := z
            rw [upd_ne (ne_of e hL (fun z => nomatch z))]
            exact s6 _ _ e
          · rw [upd_ne np]
            exact upd_same
    · rintro σ H' ⟨v, kvs, rfl, st, hL, zk, rows⟩
      rw [dtI_len] at zk rows
      rw [List.take_length] at rows
      have hD' := st _ _ hld.symm hD2
      refine ⟨hD', ?_⟩
      have hL3 : upd H' d (.dT (dtI t)) l = some (.dK kvs) := by rw [upd_ne hld]; exact hL
      have s3 : Same H (upd H' d (.dT (dtI t))) := fun b o e => by
        by_cases hb : b = d
        · rw [hb, hD] at e
          cases e
          rw [hb, upd_same]
        · rw [upd_ne hb]
          exact st _ _ (ne_of_none e hl) (old b o hb e)
      have rows3 : RowsOk (upd H' d (.dT (dtI t))) t sd kvs := by
        refine ⟨rows.nd, rows.key, fun b hb => ?_, rows.no⟩
        obtain ⟨p, l1, h1, h2, h3, h4⟩ := rows.row b hb
        exact ⟨p, l1, h1, by rw [upd_ne (ne_of h2 hD' (fun z => nomatch z))]; exact h2, h3, h4⟩
      generalize hH3 : upd H' d (.dT (dtI t)) = H3 at *
      refine ⟨l, _, hL3, True.intro, fun ol => ?_⟩
      have rows4 : RowsOk (upd H3 l (.frz ol (.dK kvs))) t sd kvs := by
        refine ⟨rows3.nd, rows3.key, fun b hb => ?_, rows3.no⟩
        obtain ⟨p, l1, h1, h2, h3, h4⟩ := rows3.row b hb
        exact ⟨p, l1, h1, by rw [upd_ne (ne_of h2 hL3 (fun z => nomatch z))]; exact h2, h3, h4⟩
      have hL4 : upd H3 l (.frz ol (.dK kvs)) l = some (.frz ol (.dK kvs)) := upd_same
      have back : ∀ b o, H b = some o → upd H3 l (.frz ol (.dK kvs)) b = some o := fun b o e => by rw [upd_ne (ne_of_none e hl)]; exact s3 _ _ e
      generalize hH4 : upd H3 l (.frz ol (.dK kvs)) = H4 at *
      refine ⟨_, rfl, l, ol, kvs, rfl, hL4, fun D hDn => ?_⟩
      have hDH : H D = none := by
        cases e : H D with
        | none => rfl
        | some o => rw [back _ _ e] at hDn; cases hDn
      refine lc_gen (n := kvs.length) (fun i H5 => ∃ (xs : List V) (cs : List (Nat × Nat)), Same H4 H5 ∧ H5 D = some (.lst xs) ∧ xs.length ≤ i ∧ Paired (fun x (c : Nat × Nat) => ∃ p, x = V.ref p ∧ H5 p = some (.tup [.int (c.1 : Int), .int (c.2 : Int)])) xs cs ∧ (∀ c ∈ cs, SS t sd c.1 c.2) ∧
          ∀ (j : Nat) (b : Int) (v : V), j < i → kvs[j]? = some (Sum.inl b, v) → ∀ s' f', (∃ e1 ∈ t, ∃ e2 ∈ t, sk sd e1.1 = b ∧ sk sd e2.1 = b ∧ e2.2 < e1.2 ∧ s' = e1.2 ∧ f' = e2.2) → ∃ c ∈ cs, c.1 ≤ s' ∧ (c.1 = s' → c.2 = f'))
        ⟨[], [], Same.put hDn, upd_same, Nat.le_refl _, .nil, fun c h => (nomatch h), fun j b v hj => absurd hj (Nat.not_lt_zero j)⟩ (fun i H5 hi q => by obtain ⟨_, _, s5, _⟩ := q; exact ⟨s5 _ _ hL4, hi⟩) (fun H5 q => by obtain ⟨_, _, s5, _⟩ := q; exact ⟨s5 _ _ hL4, Nat.le_refl _⟩) ?_ ?_
      · rintro i x H6 H5 hi ⟨xs, cs, s5, hD5, zx, pr, c1, c2⟩ ⟨rfl, k0, hk⟩
        have hmem := List.mem_of_getElem? hk
        obtain ⟨b, hkb, hne⟩ := rows4.key _ hmem
        have hkb : k0 = Sum.inl b := hkb
        subst hkb
        obtain ⟨p, l1, h1, h2, so, perm⟩ := rows4.row b hne
        have ev := valV_of_mem rows4.nd hmem
        have ev : valV kvs (Sum.inl b) = some x := ev
        rw [h1] at ev
        cases ev
        have hp := s5 _ _ h2
        have zl : l1.length ≤ 60 := by
          rw [perm.length_eq]
          unfold addrs
          rw [List.length_map]
          exact Nat.le_trans (List.length_filter_le _ _) zt
        refine ⟨rfl, _, rfl, p, _, rfl, .inl hp, _, _, rfl, rfl, _, rfl, ?_⟩
        refine ite2 (fun g => ?_) (fun g => ?_)
        · have g : (1 : Int) < ((IV l1).length : Int) := of_decide_eq_true g
          rw [IV_len] at g
          obtain ⟨y, x2, r, hl1⟩ : ∃ y x r, l1 = y :: x :: r := by
            rcases l1 with _ | ⟨y, _ | ⟨x, r⟩⟩
            · exact absurd g (by simp)
            · exact absurd g (by simp)
            · exact ⟨y, x, r, rfl⟩
          obtain ⟨sN, fN, e1, e2, ss, best⟩ := row_clash nda so perm hl1
          have a1 : atI (IV l1) 1 = some (.int (sN : Int)) := by rw [hl1, e1]; exact atI_nat (j := 1) rfl
          have a0 : atI (IV l1) 0 = some (.int (fN : Int)) := by rw [hl1, e2]; exact atI_nat (j := 0) rfl
          refine ⟨_, rfl, p, _, 1, _, rfl, rfl, .inl hp, a1, _, rfl, p, _, 0, _, rfl, rfl, .inl hp, a0, by show 2 ≤ sizeLine; decide, fun T0 hT0 => ?_⟩
          have s6 : Same H5 (upd H5 T0 (.tup [.int (sN : Int), .int (fN : Int)])) := Same.put hT0
          have nT : T0 ≠ D := (ne_of_none hD5 hT0).symm
          have few : xs.length ≤ 60 := by
            have h1 : kvs.length ≤ 60 := Nat.le_trans zk zt
            omega
          refine ⟨xs, s6 _ _ hD5, by rw [sizeLine_eq]; omega, xs ++ [.ref T0], cs ++ [(sN, fN)], ?_, upd_same, by rw [List.length_append, List.length_singleton]; omega, ?_, ?_, ?_⟩
          · exact Same.set (s5.trans s6) hDn
          · refine Paired.snoc (Paired.mapP pr fun x c z => ?_) ⟨T0, rfl, by rw [upd_ne nT]; exact upd_same⟩
            obtain ⟨p1, e, hp1⟩ := z
            exact ⟨p1, e, by rw [upd_ne (ne_of hp1 hD5 (fun z => nomatch z))]; exact s6 _ _ hp1⟩
          · intro c hc
            rcases List.mem_append.mp hc with z | z
            · exact c1 c z
            · (rw [List.mem_singleton.mp z])
              exact ss
          · intro j b' v' hj hkj s' f' w'
            by_cases cj : j < i
            · obtain ⟨c, hc, z⟩ := c2 j b' v' cj hkj s' f' w'
              exact ⟨c, List.mem_append_left _ hc, z⟩
            · have ej : j = i := by omega
              subst ej
              rw [hk] at hkj
              injection hkj with hkj
              injection hkj with hkj _
              injection hkj with hkj
              subst hkj
              exact ⟨(sN, fN), List.mem_append_right _ (List.mem_singleton.mpr rfl), best s' f' w'⟩
        · have g : ¬ (1 : Int) < ((IV l1).length : Int) := fun z => g (decide_eq_true z)
          rw [IV_len] at g
          refine ⟨xs, cs, s5, hD5, by omega, pr, c1, fun j b' v' hj hkj s' f' w' => ?_⟩
          by_cases cj : j < i
          · exact c2 j b' v' cj hkj s' f' w'
          · have ej : j = i := by omega
            subst ej
            rw [hk] at hkj
            injection hkj with hkj
            injection hkj with hkj _
            injection hkj with hkj
            subst hkj
            obtain ⟨a1, g1, a2, g2, k1, k2, lt, rfl, rfl⟩ := w'
            have m1 : (a1.2 : Int) ∈ l1 := perm.mem_iff.mpr (mem_addrs.mpr ⟨a1, g1, k1, rfl⟩)
            have m2 : (a2.2 : Int) ∈ l1 := perm.mem_iff.mpr (mem_addrs.mpr ⟨a2, g2, k2, rfl⟩)
            rcases l1 with _ | ⟨y, _ | ⟨x, r⟩⟩
            · exact nomatch m1
            · rw [List.mem_singleton] at m1 m2
              omega
            · exact absurd (by rw [List.length_cons, List.length_cons]; omega) g
      · rintro H5 ⟨xs, cs, s5, hD5, zx, pr, c1, c2⟩
        refine ⟨s5 _ _ hL4, ?_⟩
        have nDl : D ≠ l := fun z => by rw [z, hL4] at hDn; cases hDn
        refine k _ D xs cs (fun b o e => ?_) hDH (by omega) ?_ (Paired.mapP pr fun x c z => ?_) ⟨c1, fun s' f' ss => ?_⟩
        · rw [upd_ne (ne_of_none e hl)]
          exact s5 _ _ (back _ _ e)
        · rw [upd_ne nDl]
          exact hD5
        · obtain ⟨p1, e, hp1⟩ := z
          exact ⟨p1, e, by rw [upd_ne (ne_of hp1 (s5 _ _ hL4) (fun z => nomatch z))]; exact hp1⟩
        · obtain ⟨e1, h1, e2, h2, kk, lt, q1, q2⟩ := ss
          have hne : addrs t sd (sk sd e1.1) ≠ [] := List.ne_nil_of_mem (mem_addrs.mpr ⟨e1, h1, rfl, rfl⟩)
          obtain ⟨p, l1, hvk, _⟩ := rows4.row _ hne
          have hmk : (Sum.inl (sk sd e1.1), V.ref p) ∈ kvs := by
            unfold valV at hvk
            cases hf : kvs.find? (fun kv => decide (kv.1 = (Sum.inl (sk sd e1.1) : L2.Key))) with
            | none => rw [hf] at hvk; cases hvk
            | some y =>
              rw [hf] at hvk
              have hmk := List.mem_of_find?_eq_some hf
              have hd := List.find?_some (p := fun kv : L2.Key × V => decide (kv.1 = (Sum.inl (sk sd e1.1) : L2.Key))) hf
              have hd := of_decide_eq_true hd
              injection hvk with hvk
              obtain ⟨y1, y2⟩ := y
              simp only [] at hd hvk
              subst hd hvk
              exact hmk
          obtain ⟨j, hj, hkj⟩ := List.getElem_of_mem hmk
          exact c2 j _ _ hj (by rw [List.getElem?_eq_getElem hj, hkj]) s' f' ⟨e1, h1, e2, h2, rfl, kk.symm, lt, q1, q2⟩
end
end K70
-- K70F11
namespace K70
open L2 PySem PySem.Spec PyProof.Rows StX
theorem nda_of {r s : PR} {p : Nat} {t : Tab} (h : TOk r s p t) : (t.map (·.2)).Nodup := by
  have go : ∀ l : Tab, NdT l → (∀ x ∈ l, ∀ y ∈ l, x.2 = y.2 → x.1 = y.1) → (l.map (·.2)).Nodup := by
    intro l
    induction l with
    | nil => exact fun _ _ => List.nodup_nil
    | cons x w ih =>
      intro nd det
      unfold NdT at nd
      (rw [List.map_cons, List.nodup_cons] at nd)
      (rw [List.map_cons, List.nodup_cons])
      refine ⟨fun h => ?_, ih nd.2 fun a ha b hb => det a (List.mem_cons_of_mem _ ha) b (List.mem_cons_of_mem _ hb)⟩
      obtain ⟨y, hy, e⟩ := List.mem_map.mp h
      have q := det y (List.mem_cons_of_mem _ hy) x List.mem_cons_self e
      exact nd.1 (by rw [← q]; exact List.mem_map_of_mem hy)
  refine go t h.nd fun x hx y hy e => ?_
  obtain ⟨_, a1, a2⟩ := h.all x hx
  obtain ⟨_, b1, b2⟩ := h.all y hy
  exact Prod.ext (by rw [a1, b1, e]) (by rw [a2, b2, e])
/-- two addresses of one bank by one of two rules, and unlike ones by the other one -/
def SSS (t : Tab) (s f : Nat) : Prop := SS t false s f ∨ SS t true s f
def Alike (r s : PR) : Prop := ∀ a b, ¬ SSS (limT r s) a b
def PartsAt (r s : PR) (a b : Nat) : Prop := SSS (limT r s) a b ∧ ∀ a' b', SSS (limT r s) a' b' → a ≤ a' ∧ (a = a' → b ≤ b')
theorem PartsAt.uniq {r s : PR} {a b a' b' : Nat} (h : PartsAt r s a b) (h' : PartsAt r s a' b') : a = a' ∧ b = b' := by
  have h1 := h.2 _ _ h'.1
  have h2 := h'.2 _ _ h.1
  omega
theorem clash_least {t : Tab} {cs ds : List (Nat × Nat)} (hc : ClashOk t false cs) (hd : ClashOk t true ds) {a b : Nat} (ha : ∃ c ∈ cs ++ ds, c.1 = a ∧ c.2 = b) (la : ∀ c ∈ cs ++ ds, a ≤ c.1) (lb : ∀ c ∈ cs ++ ds, c.1 = a → b ≤ c.2) :
    SSS t a b ∧ ∀ a' b', SSS t a' b' → a ≤ a' ∧ (a = a' → b ≤ b') := by
  obtain ⟨c, hcm, rfl, rfl⟩ := ha
  refine ⟨?_, fun a' b' h => ?_⟩
  · rcases List.mem_append.mp hcm with z | z
    · exact .inl (hc.1 c z)
    · exact .inr (hd.1 c z)
  · have key : ∃ x ∈ cs ++ ds, x.1 ≤ a' ∧ (x.1 = a' → x.2 = b') := by
      rcases h with z | z
      · obtain ⟨x, hx, q⟩ := hc.2 _ _ z
        exact ⟨x, List.mem_append_left _ hx, q⟩
      · obtain ⟨x, hx, q⟩ := hd.2 _ _ z
        exact ⟨x, List.mem_append_right _ hx, q⟩
    obtain ⟨x, hx, h1, h2⟩ := key
    have l1 := la x hx
    refine ⟨by omega, fun e => ?_⟩
    have e2 : x.1 = c.1 := by omega
    have l2 := lb x hx e2
    have := h2 (by omega)
    omega
theorem clash_none {t : Tab} {cs ds : List (Nat × Nat)} (hc : ClashOk t false cs) (hd : ClashOk t true ds) (e : cs ++ ds = []) (a b : Nat) : ¬ SSS t a b := by
  obtain ⟨rfl, rfl⟩ := List.append_eq_nil_iff.mp e
  rintro (z | z)
  · obtain ⟨x, hx, _⟩ := hc.2 _ _ z
    exact nomatch hx
  · obtain ⟨x, hx, _⟩ := hd.2 _ _ z
    exact nomatch hx
/-! ### lists of tuples of ints, compared -/
def tupsD (ls : List (List Int)) : List PyData := ls.map fun l => PyData.tuple (l.map PyData.int)
theorem canAll_tups : ∀ ls : List (List Int), PyData.canLayAll0 (tupsD ls) = true
  | [] => rfl
  | l :: r => by
    show (PyData.canLay0 (.tuple (l.map PyData.int)) && PyData.canLayAll0 (tupsD r)) = true
    rw [canAll_tups r, show PyData.canLay0 (.tuple (l.map PyData.int)) = true from canAll_ints l]
    rfl
theorem depth_tup (l : List Int) : PyData.depth (.tuple (l.map PyData.int)) = 1 := by
  show PyData.depthAll (l.map PyData.int) + 1 = 1
  rw [depthAll_ints]
theorem depth_tups : ∀ ls : List (List Int), PyData.depthAll (tupsD ls) ≤ 1
  | [] => Nat.zero_le _
  | l :: r => by
    show max (PyData.depth (.tuple (l.map PyData.int))) (PyData.depthAll (tupsD r)) ≤ 1
    rw [depth_tup]
    have := depth_tups r
    omega
theorem shaped_tups (ls : List (List Int)) : SeqAt.shaped (.list (tupsD ls)) = true := by
  unfold SeqAt.shaped
  rw [show PyData.canLay0 (.list (tupsD ls)) = true from canAll_tups ls]
  have : PyData.depth (.list (tupsD ls)) ≤ 64 := by
    show PyData.depthAll (tupsD ls) + 1 ≤ 64
    have := depth_tups ls
    omega
  rw [decide_eq_true this]
  rfl
theorem eqvAll_tups : ∀ ls ms : List (List Int), PyData.eqvAll (tupsD ls) (tupsD ms) = decide (ls = ms)
  | [], [] => rfl
  | [], _ :: _ => rfl
  | _ :: _, [] => rfl
  | l :: r, m :: q => by
    show (PyData.eqv (.tuple (l.map PyData.int)) (.tuple (m.map PyData.int)) && PyData.eqvAll (tupsD r) (tupsD q)) = decide (l :: r = m :: q)
    rw [eqv_tup, eqvAll_tups r q]
    by_cases h1 : l = m
    · by_cases h2 : r = q
      · simp [h1, h2]
      · simp [h1, h2]
    · simp [h1]
theorem eqv_tups (ls ms : List (List Int)) : PyData.eqv (.list (tupsD ls)) (.list (tupsD ms)) = decide (ls = ms) := by
  unfold PyData.eqv
  exact eqvAll_tups ls ms
theorem Dp_tups {K : PySem.W.Frag} {H : Hp} : ∀ {xs : List V} {ls : List (List Int)}, Paired (fun x (l : List Int) => ∃ p, x = V.ref p ∧ H p = some (.tup (IV l))) xs ls → DpAll K H xs (tupsD ls)
  | _, _, .nil => .nil
  | _, _, .cons h t => by
    obtain ⟨p, rfl, hp⟩ := h
    exact .cons (Dp_tup hp) (Dp_tups t)
theorem paired_app {α β : Type} {F : α → β → Prop} : ∀ {a c : List α} {b d : List β}, Paired F a b → Paired F c d → Paired F (a ++ c) (b ++ d)
  | _, _, _, _, .nil, h => h
  | _, _, _, _, .cons h t, h2 => .cons h (paired_app t h2)
theorem paired_map {α β γ : Type} {F : α → β → Prop} {G : α → γ → Prop} {m : β → γ} (g : ∀ a b, F a b → G a (m b)) : ∀ {a : List α} {b : List β}, Paired F a b → Paired G a (b.map m)
  | _, _, .nil => .nil
  | _, _, .cons h t => .cons (g _ _ h) (paired_map g t)
theorem paired_at {α β : Type} {F : α → β → Prop} : ∀ {a : List α} {b : List β} {i : Nat} {x : α}, Paired F a b → a[i]? = some x → ∃ y, b[i]? = some y ∧ F x y
  | _, _, i, _, .nil, h => by simp at h
  | _, _, 0, x, .cons h t, e => by
    have e : some _ = some x := e
    injection e with e
    subst e
    exact ⟨_, rfl, h⟩
  | _, _, i + 1, x, .cons h t, e => paired_at (i := i) t e
section
variable {K : PySem.W.Frag} {mg : Str → Option Value} {base : Heap} {P : Program} {w : World}
/-! ### papers -/
def sp_Same_init (K : PySem.W.Frag) : Sp := fun vs H Q _ => ∃ (p dx : Addr) (v : V), vs = [.ref p, v] ∧ H p = some (.ins (He.ga K "Same") dx []) ∧ Q .non (upd H p (.ins (He.ga K "Same") dx [("names", v)]))
theorem sc_Same_init : FnScope ["self", "names"] ["self", "names"] (defScope sSame_init) := ⟨rfl, rfl, rfl, by decide +kernel, rfl, by decide +kernel, by decide +kernel⟩
theorem ok_Same_init (T : Tx K mg) : Mkr P w K mg base 1 "Same" (He.ga K "Same") (He.ma K (He.ga K "Same") "__init__") ["self", "names"] (sp_Same_init K) := by
  refine ⟨ok_of T.fSame_init sc_Same_init (fun _ _ _ _ _ _ us hl => match us, hl with | [_, _], _ => rfl) (fun vs H Q E h => ?_) (fun cdv A outer s H vs Q E hr h => ?_), T.mk_Same, T.g_Same⟩
  · obtain ⟨p, dx, v, rfl, _⟩ := h
    rfl
  · obtain ⟨p, dx, v, rfl, hp, k⟩ := h
    refine ⟨_, (pss_one (ps_fld (pv 0) (pv 1) rfl)), ?_⟩
    exact ⟨_, rfl, _, rfl, p, _, dx, _, rfl, hp, T.c_Same, T.n_Same_names, by decide, k⟩
def sp_Parted_init (K : PySem.W.Frag) : Sp := fun vs H Q _ => ∃ (p dx : Addr) (v u : V), vs = [.ref p, v, u] ∧ H p = some (.ins (He.ga K "Parted") dx []) ∧ Q .non (upd (upd H p (.ins (He.ga K "Parted") dx [("first", v)])) p (.ins (He.ga K "Parted") dx [("first", v), ("second", u)]))
theorem sc_Parted_init : FnScope ["self", "first", "second"] ["self", "first", "second"] (defScope sParted_init) := ⟨rfl, rfl, rfl, by decide +kernel, rfl, by decide +kernel, by decide +kernel⟩
theorem ok_Parted_init (T : Tx K mg) : Mkr P w K mg base 1 "Parted" (He.ga K "Parted") (He.ma K (He.ga K "Parted") "__init__") ["self", "first", "second"] (sp_Parted_init K) := by
  refine ⟨ok_of T.fParted_init sc_Parted_init (fun _ _ _ _ _ _ us hl => match us, hl with | [_, _, _], _ => rfl) (fun vs H Q E h => ?_) (fun cdv A outer s H vs Q E hr h => ?_), T.mk_Parted, T.g_Parted⟩
  · obtain ⟨p, dx, v, u, rfl, _⟩ := h
    rfl
  · obtain ⟨p, dx, v, u, rfl, hp, k⟩ := h
    refine ⟨_, (pss_cons (ps_fld (pv 0) (pv 1) rfl)
      (pss_one (ps_fld (pv 0) (pv 2) rfl))), ?_⟩
    refine ⟨_, rfl, _, rfl, p, _, dx, _, rfl, hp, T.c_Parted, T.n_Parted_first, by decide, ?_⟩
    exact ⟨_, rfl, _, rfl, p, _, dx, _, rfl, upd_same, T.c_Parted, T.n_Parted_second, (show (1 : Nat) < 1000 by decide), k⟩
def sp_Same_bool (K : PySem.W.Frag) : Sp := fun vs H Q _ => ∃ (p : Addr), vs = [.ref p] ∧ Q (.bl true) H
theorem sc_Same_bool : FnScope ["self"] ["self"] (defScope sSame_bool) := ⟨rfl, rfl, rfl, by decide +kernel, rfl, by decide +kernel, by decide +kernel⟩
theorem ok_Same_bool (T : Tx K mg) : Mtd P w K mg base 1 (He.ga K "Same") "__bool__" (He.ma K (He.ga K "Same") "__bool__") ["self"] (sp_Same_bool K) := by
  refine mtd_of T.fSame_bool T.m_Same_bool T.c_Same sc_Same_bool (fun _ _ _ _ _ _ us hl => match us, hl with | [_], _ => rfl) (fun vs H Q E h => ?_) (fun cdv A outer s H vs Q E hr h => ?_)
  · obtain ⟨p, rfl, _⟩ := h
    rfl
  · obtain ⟨p, rfl, k⟩ := h
    refine ⟨_, (pss_one (ps_ret pe_bl)), ?_⟩
    exact k
def sp_Parted_bool (K : PySem.W.Frag) : Sp := fun vs H Q _ => ∃ (p : Addr), vs = [.ref p] ∧ Q (.bl false) H
theorem sc_Parted_bool : FnScope ["self"] ["self"] (defScope sParted_bool) := ⟨rfl, rfl, rfl, by decide +kernel, rfl, by decide +kernel, by decide +kernel⟩
theorem ok_Parted_bool (T : Tx K mg) : Mtd P w K mg base 1 (He.ga K "Parted") "__bool__" (He.ma K (He.ga K "Parted") "__bool__") ["self"] (sp_Parted_bool K) := by
  refine mtd_of T.fParted_bool T.m_Parted_bool T.c_Parted sc_Parted_bool (fun _ _ _ _ _ _ us hl => match us, hl with | [_], _ => rfl) (fun vs H Q E h => ?_) (fun cdv A outer s H vs Q E hr h => ?_)
  · obtain ⟨p, rfl, _⟩ := h
    rfl
  · obtain ⟨p, rfl, k⟩ := h
    refine ⟨_, (pss_one (ps_ret pe_bl)), ?_⟩
    exact k
def sp_names_of : Sp := fun vs H Q _ => ∃ (d : Addr) (t : Tab), vs = [.ref d] ∧ H d = some (.dT (dtI t)) ∧ t.length ≤ 60 ∧ ∀ H' p, Same H H' → Q (.ref p) H'
theorem sc_names_of : FnScope ["found", "pair"] ["found"] (defScope snames_of) := ⟨rfl, rfl, rfl, by decide +kernel, rfl, by decide +kernel, by decide +kernel⟩
theorem ok_names_of (T : Tx K mg) : Fnc P w K mg base 1 "names_of" (He.ga K "names_of") ["found"] sp_names_of := by
  refine fnc_of T.fnames_of T.g_names_of sc_names_of (fun _ _ _ _ _ _ us hl => match us, hl with | [_], _ => rfl) (fun vs H Q E h => ?_) (fun cdv A outer s H vs Q E hr h => ?_)
  · obtain ⟨d, t, rfl, _⟩ := h
    rfl
  · obtain ⟨d, t, rfl, hD, zt, k⟩ := h
    refine ⟨_, (pss_one (ps_ret (pe_lock (pe_dc (own := [("pair", 1)]) (g := gName 1) (tt := tYes) (by rfl) sc_names_of.nd (pi_keys (pv 0)) (blkOk_by (N := ["found", "pair"]) (sc := defScope snames_of) (by decide +kernel)) (fun _ _ _ _ _ => pg_name (i := 1) sc_names_of.nd rfl (Or.inl rfl)) (fun _ _ _ _ _ => pts_nil) (fun _ _ _ _ _ => (pe_ix ix_I (pv 1) pe_int (fun _ _ => rfl))) (fun _ _ _ _ _ => (pe_ix ix_I (pv 1) pe_int (fun _ _ => rfl))))))), ?_⟩
    refine ⟨d, _, hD, True.intro, fun od => ⟨_, rfl, d, od, rfl, .inr ⟨_, upd_same, fun D hDn => ?_⟩⟩⟩
    have hDd : D ≠ d := fun z => by rw [z, upd_same] at hDn; cases hDn
    have hDH : H D = none := by rw [upd_ne hDd] at hDn; exact hDn
    refine ⟨fun i m H' => m = t.length - i ∧ i ≤ t.length ∧ (∀ b o, b ≠ D → upd H d (.frz od (.dT (dtI t))) b = some o → H' b = some o) ∧ ∃ kvs, H' D = some (.dK kvs) ∧ kvs.length ≤ i, ⟨_, rfl, Nat.zero_le _, fun b o hb e => by rw [upd_ne hb]; exact e, [], upd_same, Nat.le_refl _⟩, ?_⟩
    rintro i m H' ⟨rfl, hi, st, kvs, hK, zk⟩
    have hd' := st _ _ hDd.symm upd_same
    by_cases hlt : i < t.length
    · refine .inr ⟨⟨hd', by rw [dtI_len]; exact hlt⟩, fun H'' => ∃ m', m' < t.length - i ∧ (m' = t.length - (i + 1) ∧ i + 1 ≤ t.length ∧ (∀ b o, b ≠ D → upd H d (.frz od (.dT (dtI t))) b = some o → H'' b = some o) ∧ ∃ kvs, H'' D = some (.dK kvs) ∧ kvs.length ≤ i + 1), fun H'' z => z, ?_⟩
      rintro x H'' ⟨rfl, k0, v0, q, hk, rfl, hb⟩
      obtain ⟨e, he, rfl, rfl⟩ := dtI_at hk
      have hb' : H'' q = some (.tup [.int e.1.1, .int e.1.2]) := hb
      refine ⟨rfl, ?_⟩
      refine ⟨_, rfl, q, _, 0, _, rfl, rfl, .inr hb', rfl, _, rfl, q, _, 1, _, rfl, rfl, .inr hb', rfl, kvs, Sum.inl e.1.1, rfl, hK, by rw [sizeLine_eq]; omega, t.length - (i + 1), by omega, rfl, hlt, fun b o hb e => ?_, _, upd_same, Nat.le_trans (length_putK _ _ _) (by omega)⟩
      rw [upd_ne hb]
      exact st b o hb e
    · refine .inl ⟨⟨hd', by rw [dtI_len]; omega⟩, hd', ?_⟩
      refine k _ D fun b o e => ?_
      by_cases hb : b = d
      · rw [hb, hD] at e
        cases e
        rw [hb, upd_same]
      · rw [upd_ne hb]
        refine st b o (ne_of_none e hDH) ?_
        rw [upd_ne hb]
        exact e
def sp_same_banks (K : PySem.W.Frag) : Sp := fun vs H Q _ => ∃ (p q : Addr) (r s : PR), vs = [.ref p, .ref q] ∧ RuleAt K H p r ∧ RuleAt K H q s ∧ SmallP r s ∧
  (∀ H' v dx fs, Same H H' → Alike r s → H' v = some (.ins (He.ga K "Same") dx fs) → Q (.ref v) H') ∧
  (∀ H' v dx (a b : Nat), Same H H' → PartsAt r s a b → H' v = some (.ins (He.ga K "Parted") dx [("first", .int (b : Int)), ("second", .int (a : Int))]) → Q (.ref v) H')
theorem sc_same_banks : FnScope ["one", "other", "found", "some", "second", "pair"] ["one", "other"] (defScope ssame_banks) := ⟨rfl, rfl, rfl, by decide +kernel, rfl, by decide +kernel, by decide +kernel⟩
theorem ok_same_banks (T : Tx K mg) : Fnc P w K mg base 8 "same_banks" (He.ga K "same_banks") ["one", "other"] (sp_same_banks K) := by
  have c_need_rules := ok_need_rules (P := P) (w := w) (base := base) T
  have c_least_addresses := ok_least_addresses (P := P) (w := w) (base := base) T
  have c_clashes := ok_clashes (P := P) (w := w) (base := base) T
  have c_names_of := ok_names_of (P := P) (w := w) (base := base) T
  have c_Same := ok_Same_init (P := P) (w := w) (base := base) T
  have c_Parted := ok_Parted_init (P := P) (w := w) (base := base) T
  refine fnc_of T.fsame_banks T.g_same_banks sc_same_banks (fun _ _ _ _ _ _ us hl => match us, hl with | [_, _], _ => rfl) (fun vs H Q E h => ?_) (fun cdv A outer s H vs Q E hr h => ?_)
  · obtain ⟨p, q, r, s, rfl, _⟩ := h
    rfl
  · obtain ⟨p, q, r, s', rfl, hR, hS, sm, k1, k2⟩ := h
    refine ⟨_, (pss_cons (ps_expr (pe_f c_need_rules (hr.mono (by decide)) (pa_cons (pv 0) (pa_cons (pv 1) pa_nil))))
      (pss_cons (ps_set (i := 2) sc_same_banks.nd rfl (Or.inl rfl) (pe_f c_least_addresses (hr.mono (by decide)) (pa_cons (pv 0) (pa_cons (pv 1) pa_nil))))
      (pss_cons (ps_set (i := 3) sc_same_banks.nd rfl (Or.inl rfl) (pe_op op_cat (pe_f c_clashes (hr.mono (by decide)) (pa_cons (pv 2) (pa_cons pe_int pa_nil))) (pe_f c_clashes (hr.mono (by decide)) (pa_cons (pv 2) (pa_cons pe_int pa_nil)))))
      (pss_cons (ps_if (pt_cmpR (op_eqD hr.units) (pv 3) (pe_lst pa_nil) (nomark _)) (pss_one (ps_ret (pe_mk' c_Same (hr.mono (by decide)) (pa_cons (pe_f c_names_of (hr.mono (by decide)) (pa_cons (pv 2) pa_nil)) pa_nil)))) pss_nil)
      (pss_cons (ps_set (i := 4) sc_same_banks.nd rfl (Or.inr rfl) (pe_callB (cr_min rfl) (by rfl) T.b_min (by decide +kernel) (pa_cons (pe_lc (own := [("pair", 5)]) (g := gName 5) (tt := tYes) (by rfl) sc_same_banks.nd (pi_list (pv 3)) (blkOk_by (N := ["one", "other", "found", "some", "second", "pair"]) (sc := defScope ssame_banks) (by decide +kernel)) (fun _ _ _ _ _ => (pg_name (i := 5) sc_same_banks.nd rfl (Or.inl rfl))) (fun _ _ _ _ _ => pts_nil) (fun _ _ _ _ _ => (pe_callTy call_int1 (by rfl) T.b_int (by decide +kernel) (pa_cons (pe_ix ix_I (pv 5) pe_int (fun _ _ => rfl)) pa_nil)))) pa_nil)))
      (pss_one (ps_ret (pe_mk' c_Parted (hr.mono (by decide)) (pa_cons (pe_callB (cr_min rfl) (by rfl) T.b_min (by decide +kernel) (pa_cons (pe_lc (own := [("pair", 5)]) (g := gName 5) (by rfl) sc_same_banks.nd (pi_list (pv 3)) (blkOk_by (N := ["one", "other", "found", "some", "second", "pair"]) (sc := defScope ssame_banks) (by decide +kernel)) (fun _ _ _ _ _ => (pg_name (i := 5) sc_same_banks.nd rfl (Or.inl rfl))) (fun _ _ _ _ _ => pts_one (pt_cmpR op_eq (pe_ix ix_I (pv 5) pe_int (fun _ _ => rfl)) (pv 4) (nomark _))) (fun _ _ _ _ _ => (pe_callTy call_int1 (by rfl) T.b_int (by decide +kernel) (pa_cons (pe_ix ix_I (pv 5) pe_int (fun _ _ => rfl)) pa_nil)))) pa_nil)) (pa_cons (pv 4) pa_nil)))))))))), ?_⟩
    have okt := tabR_ok r s' 64
    have nda := nda_of okt
    have zt : (limT r s').length ≤ 60 := by
      have h1 := tab_len sm 64
      have h2 : (prodI r.m).toNat * (prodI s'.m).toNat ≤ 4 * 4 := Nat.mul_le_mul (by have := sm.pr; omega) (by have := sm.ps; omega)
      unfold limT
      omega
    refine ⟨_, rfl, _, rfl, p, q, r, s', rfl, hR, hS, ?_⟩
    refine ⟨_, rfl, _, rfl, p, q, r, s', rfl, hR, hS, sm, fun H1 d s1 hdn hD => ?_⟩
    refine ⟨_, rfl, d, limT r s', false, rfl, hD, okt.nd, nda, zt, fun H2 D0 xs cs s2 n2 z0 hD0 pr0 c0 => ⟨_, rfl, d, limT r s', true, rfl, s2 _ _ hD, okt.nd, nda, zt, fun H3 D1 ys ds s3 n3 z1 hD1 pr1 c1 => ⟨D0, D1, xs, ys, rfl, rfl, s3 _ _ hD0, hD1, by rw [sizeLine_eq]; omega, fun L hL => ?_⟩⟩⟩
    have S4 := (s1.trans (s2.trans s3)).put' (o := .lst (xs ++ ys)) hL
    have pr4 : Paired (fun x (c : Nat × Nat) => ∃ p, x = V.ref p ∧ upd H3 L (.lst (xs ++ ys)) p = some (.tup [.int (c.1 : Int), .int (c.2 : Int)])) (xs ++ ys) (cs ++ ds) := by
      refine paired_app (Paired.mapP pr0 fun x c z => ?_) (Paired.mapP pr1 fun x c z => ?_)
      · obtain ⟨p1, e, h1⟩ := z
        exact ⟨p1, e, (Same.put hL) _ _ (s3 _ _ h1)⟩
      · obtain ⟨p1, e, h1⟩ := z
        exact ⟨p1, e, (Same.put hL) _ _ h1⟩
    have hL4 : upd H3 L (.lst (xs ++ ys)) L = some (.lst (xs ++ ys)) := upd_same
    have hD4 := (Same.put (o := .lst (xs ++ ys)) hL) _ _ (s3 _ _ (s2 _ _ hD))
    generalize hH4 : upd H3 L (.lst (xs ++ ys)) = H4 at *
    refine ⟨_, rfl, Nat.zero_le _, fun e0 he0 => ?_⟩
    have s5 : Same H4 (upd H4 e0 (.lst [])) := Same.put he0
    have dp : DpAll _ (upd H4 e0 (.lst [])) (xs ++ ys) (tupsD ((cs ++ ds).map fun c => [(c.1 : Int), (c.2 : Int)])) := Dp_tups (K := K) (paired_map (fun x c z => by
      obtain ⟨p1, e, h1⟩ := z
      exact ⟨p1, e, s5 _ _ h1⟩) pr4)
    refine ⟨_, _, .lst (SqL.of (s5 _ _ hL4)) dp, .lst (SqL.of upd_same) .nil, shaped_tups _, shaped_tups [], _, rfl, ?_⟩
    rw [show PyData.eqv (.list (tupsD ((cs ++ ds).map fun c => [(c.1 : Int), (c.2 : Int)]))) (.list []) = decide ((cs ++ ds).map (fun c => [(c.1 : Int), (c.2 : Int)]) = []) from eqv_tups _ []]
    have pr5 : Paired (fun x (c : Nat × Nat) => ∃ p, x = V.ref p ∧ upd H4 e0 (.lst []) p = some (.tup [.int (c.1 : Int), .int (c.2 : Int)])) (xs ++ ys) (cs ++ ds) := Paired.mapP pr4 fun x c z => by
      obtain ⟨p1, e, h1⟩ := z
      exact ⟨p1, e, s5 _ _ h1⟩
    have hL5 := s5 _ _ hL4
    have hD5 := s5 _ _ hD4
    have S5 := S4.trans s5
    have lens : (xs ++ ys).length = (cs ++ ds).length := Paired.length pr4
    have zlen : (xs ++ ys).length ≤ 120 := by rw [List.length_append]; omega
    generalize hH5 : upd H4 e0 (.lst []) = H5 at *
    generalize hes : cs ++ ds = es at *
    generalize hvs : xs ++ ys = zs at *
    by_cases c : es = []
    · refine itT (by rw [c]; rfl) ?_
      refine ⟨_, rfl, d, limT r s', rfl, hD5, zt, fun H6 p6 s6 => fun x dx hx hdx hne => ⟨x, dx, _, rfl, upd_same, rfl, ?_⟩⟩
      refine k1 _ x dx _ ?_ (fun a b => clash_none c0 c1 (by rw [hes, c]) a b) upd_same
      exact Same.set (((S5.trans s6).put' (o := .own x) hdx).put' (o := .ins (He.ga K "Same") dx []) (by rw [upd_ne hne.symm]; exact hx)) (by
        cases e : H x with
        | none => rfl
        | some o => rw [S5.trans s6 _ _ e] at hx; cases hx)
    · refine itF (fun z => c (List.map_eq_nil_iff.mp z)) ?_
      have pos : 0 < es.length := List.length_pos_iff.mpr c
      refine ⟨_, rfl, L, rfl, ⟨_, SqL.of hL5⟩, fun D hDn => lc_listG (xs := zs) (fun i => V.int ((es.getD i (0, 0)).1 : Int)) hDn (SqL.of hL5) (by rw [sizeLine_eq]; omega) (fun i x H6 hx s6 Qk hq => ?_) fun H6 s6 e6 => ?_⟩
      · obtain ⟨c2, hc2, p1, rfl, h1⟩ := paired_at pr5 hx
        have eq : es.getD i (0, 0) = c2 := by rw [List.getD_eq_getElem?_getD, hc2]; rfl
        rw [eq] at hq
        exact ⟨rfl, _, rfl, p1, _, 0, _, rfl, rfl, .inr (s6 _ _ h1), rfl, .inl ⟨_, rfl, hq _ (Same.refl _)⟩⟩
      · have e6' : H6 D = some (.lst ((es.map fun c => ((c.1 : Nat) : Int)).map V.int)) := by
          rw [e6, lens]
          congr 2
          apply List.ext_getElem
          · simp
          · intro i h1 h2
            simp only [List.length_map, List.length_range] at h1
            rw [List.getElem_map, List.getElem_range, List.getD_eq_getElem?_getD, List.getElem?_eq_getElem h1, List.getElem_map, List.getElem_map]
            rfl
        refine ⟨D, es.map fun c => ((c.1 : Nat) : Int), rfl, SqL.of e6', by rw [List.length_map]; exact pos, fun m1 mem1 le1 => ?_⟩
        obtain ⟨cm, hcm, rfl⟩ := List.mem_map.mp mem1
        have le1 : ∀ c ∈ es, cm.1 ≤ c.1 := fun c hc => by
          have := le1 _ (List.mem_map_of_mem hc)
          omega
        have S6 := S5.trans s6
        have hL6 := s6 _ _ hL5
        refine ⟨_, rfl, L, rfl, ⟨_, SqL.of hL6⟩, fun D2 hD2 => lc_list (xs := zs) (fun i H7 => Same H6 H7 ∧ H7 D2 = some (.lst (((es.take i).filter fun c => decide (c.1 = cm.1)).map fun c => V.int (c.2 : Int))))
          ⟨Same.put hD2, upd_same⟩ (fun i H7 _ z => SqL.of (z.1 _ _ hL6)) (fun i x H7 hx z => ?_) fun H7 z => ?_⟩
        · obtain ⟨s7, e7⟩ := z
          obtain ⟨c2, hc2, p1, rfl, h1⟩ := paired_at pr5 hx
          have h1 := s7 _ _ (s6 _ _ h1)
          have hi : i < zs.length := (List.getElem?_eq_some_iff.mp hx).1
          refine ⟨rfl, _, rfl, p1, _, 0, _, rfl, rfl, .inr h1, rfl, _, rfl, rfl, _, rfl, ?_⟩
          have tk := take_snoc hc2
          by_cases cc : c2.1 = cm.1
          · refine itT (by rw [cc]) ?_
            refine ⟨_, rfl, p1, _, 1, _, rfl, rfl, .inr h1, rfl, .inl ⟨_, rfl, _, e7, ?_, ?_⟩⟩
            · rw [List.length_map]
              have := List.length_filter_le (fun c : Nat × Nat => decide (c.1 = cm.1)) (es.take i)
              rw [List.length_take] at this
              rw [sizeLine_eq]
              omega
            · refine ⟨Same.set s7 hD2, ?_⟩
              rw [upd_same, tk, List.filter_append, List.filter_cons_of_pos (by simpa using cc), List.map_append]
              rfl
          · refine itF (fun z => cc (by have := V.int.inj z; omega)) ?_
            refine ⟨s7, ?_⟩
            rw [tk, List.filter_append, List.filter_cons_of_neg (by simpa using cc), e7]
            show _ = some (HO.lst (((es.take i).filter _ ++ []).map _))
            rw [List.append_nil]
        · obtain ⟨s7, e7⟩ := z
          rw [lens, List.take_length] at e7
          have e7' : H7 D2 = some (.lst ((((es.filter fun c => decide (c.1 = cm.1))).map fun c => ((c.2 : Nat) : Int)).map V.int)) := by rw [e7, List.map_map]; rfl
          have mcm : cm ∈ es.filter fun c => decide (c.1 = cm.1) := List.mem_filter.mpr ⟨hcm, by simp⟩
          refine ⟨D2, _, rfl, SqL.of e7', by rw [List.length_map]; exact List.length_pos_of_mem mcm, fun m2 mem2 le2 => ?_⟩
          obtain ⟨c3, hc3, rfl⟩ := List.mem_map.mp mem2
          obtain ⟨hc3m, hc3e⟩ := List.mem_filter.mp hc3
          have hc3e := of_decide_eq_true hc3e
          have le2 : ∀ c ∈ es, c.1 = cm.1 → c3.2 ≤ c.2 := fun c hc e => by
            have := le2 _ (List.mem_map_of_mem (List.mem_filter.mpr ⟨hc, by simpa using e⟩))
            omega
          have parts : PartsAt r s' cm.1 c3.2 := by
            have := clash_least (a := cm.1) (b := c3.2) c0 c1 (by rw [hes]; exact ⟨c3, hc3m, hc3e, rfl⟩) (by rw [hes]; exact le1) (by rw [hes]; exact le2)
            exact this
          refine ⟨_, rfl, fun x dx hx hdx hne => ⟨x, dx, _, _, rfl, upd_same, rfl, ?_⟩⟩
          have S7 := S6.trans s7
          have hHx : H x = none := by
            cases e : H x with
            | none => rfl
            | some o => rw [S7 _ _ e] at hx; cases hx
          refine k2 _ x dx cm.1 c3.2 ?_ parts upd_same
          exact Same.set (Same.set ((S7.put' (o := .own x) hdx).put' (o := .ins (He.ga K "Parted") dx []) (by rw [upd_ne hne.symm]; exact hx)) hHx) hHx
end
end K70
-- K70Enum
/-! enumerate(t), t a list or a tuple -/
namespace PySem
open Sem (wp)
open Builtin
set_option maxHeartbeats 1000001 in
theorem k70_meets_enum {v : Value} {o : Obj} {H : Heap → Prop} (B : Begins v o H) :
    Meets (Builtin.«enumerate.__new__» ⟨[.type "enumerate", v], []⟩) (fun _ R s => H s.heap ∧
      R (.ok (.ret (.ref (s.heap.push o).objs.size))) { s with heap := (s.heap.push o).push { cls := .type "enumerate", data := .fields #[.none, .bool false, .ref s.heap.objs.size, rawInt 0, .none, .none] } }) :=
  .of_wp fun prog w A R s hyp => by
    (obtain ⟨hp, g, d, tk, os⟩ := s)
    obtain ⟨h1, h⟩ := hyp
    have hsub := sub_enumerate
    have begin_ : ∀ {A' : Around} {E : Value → Shared → Prop} {Q : Value → Shared → Prop}, Q (.ref hp.objs.size) ⟨hp.push o, g, d, tk, os⟩ → wpAny (model prog w) A' (pyIter v) Q E ⟨hp, g, d, tk, os⟩ :=
      fun q => (B.iter prog w _ _ ⟨hp, g, d, tk, os⟩ _ h1 q)
    wp_walk using begin_
    refine (wpAny_stack_any fun st => wpAny_pure ?_)
    split
    · rename_i c _ _ _ _ _
      cases (c == Value.type "enumerate") <;> (wp_walk using begin_; exact ⟨_, rfl, h⟩)
    · wp_walk using begin_; exact ⟨_, rfl, h⟩
section
variable {A : Around} {s : Shared} {prog : Program} {w : World} {E : Value → Shared → Prop}
theorem k70_enum {v : Value} {o : Obj} {H : Heap → Prop} {Q : Value → Shared → Prop} (B : Begins v o H) (h1 : H s.heap)
    (h : ∀ h', IsEnum h' (s.heap.objs.size + 1) s.heap.objs.size 0 .none → h'.get? s.heap.objs.size = some o → (∀ b ob, s.heap.get? b = some ob → h'.get? b = some ob) → Q (.ref (s.heap.objs.size + 1)) { s with heap := h' }) :
    wpAny (model prog w) A (call (.type "enumerate") [v]) Q E s := by
  refine callType_new F.called_enumerate (by decide) (F.typeCall_enumerate_1 _) (F.newCall_enumerate_1 _) (fun obj => F.args_object_init_2 obj _) F.entry_enumerate_new (k70_meets_enum B) ⟨h1, ?_⟩
  have size1 : (s.heap.push o).objs.size = s.heap.objs.size + 1 := Heap.size_push ..
  show _ ∧ _
  rw [size1]
  have en := Heap.get?_push_size (s.heap.push o) (o := { cls := .type "enumerate", data := .fields #[.none, .bool false, .ref s.heap.objs.size, rawInt 0, .none, .none] }) rfl
  rw [size1] at en
  exact ⟨⟨_, en, rfl⟩, h _ en (Heap.get?_push_of_some _ (Heap.get?_push_size _ B.free)) fun b ob x => Heap.get?_push_of_some _ (Heap.get?_push_of_some _ x)⟩
end
end PySem
namespace K70
open L2 PySem PySem.Spec PyProof.Rows
def rowsE (xs : List V) (i : Nat) : List V := [.int (i : Int), xs.getD i .non]
theorem turn_enumK {P : Program} {w : World} {K : PySem.W.Frag} {elts : List Expr} {kk : Nat} {tpos : Pos} (k : Bool) {a e it : Addr} {xs : List V} (na : a ≠ it) (ne : e ≠ it) (nf : e ∉ [it, a]) :
    Turn P w K (.Tuple elts kk tpos) (ItN (fun H => SqK K k H a xs) xs.length (rowsE xs)) [e, it] e (fun i h => (∃ old, IsEnum h e it (0 + (i : Int)) old) ∧ ItK k h it a i) := by
  refine turn_of (by simp) (fun i => by show 2 ≤ sizeLine; decide) (fun i h st c hc => ?_) (fun i h h' st q => ?_) (fun X hP hw hK hcm pins s σ H I g => ?_) (fun A i s Q E st h => ?_)
  · obtain ⟨⟨old, he⟩, h1⟩ := st
    have e' : c = e ∨ c = it := by simpa using hc
    rcases e' with q | q
    · rw [q]; exact ⟨_, he, fun v q => nomatch q⟩
    · rw [q]; exact h1.ob
  · obtain ⟨⟨old, he⟩, h1⟩ := st
    exact ⟨⟨old, q e (by simp) _ he⟩, h1.at' fun o z => q it (by simp) o z⟩
  · subst hP hw hK
    obtain ⟨ia, ra, sa⟩ := seqI I g
    have hh : X.A.in1.handled = none := I.ok.hd hcm
    have W := GoesN.enumFrom (elts := elts) (x1 := kk) (pos := tpos) 0 (draws (P := X.prog) (w := X.w) (A := X.A.in1) k hh it a na ia.toArray) e ne nf (by simp)
    have em : ia.toArray.size = xs.length := by rw [List.size_toArray]; exact ra.length.symm
    rw [em] at W
    refine ⟨_, _, _, _, W, fun i st => ?_, fun i h' st => ?_, fun b hb => by simpa using hb, fun i v h' hi hy => ?_⟩
    · exact ⟨st.1, st.2, sa⟩
    · exact ⟨st.1, st.2.1⟩
    · obtain ⟨T, t, x, rfl, hT, px, hTu⟩ := hy
      refine ⟨T, [.int (0 + (i : Int)) t, x], rfl, hT, .cons ⟨t, ?_⟩ (.cons (val_at ra px) .nil), hTu⟩
      rw [Int.zero_add]
  · obtain ⟨⟨old, he⟩, _⟩ := st
    exact wpAny_pyIter_enum he h
def iEnumK (K : PySem.W.Frag) (ta : TA) : TI := fun σ H R => ta σ H fun vs H1 => ∃ a xs k, vs = [.ref a] ∧ SqK K k H1 a xs ∧ R (ItN (fun H => SqK K k H a xs) xs.length (rowsE xs)) H1
theorem pi_enumK {X : Cx} {e : Expr} {ta : TA} {p pos tpos : Pos} {elts : List Expr} {kk : Nat} (hg : Gl X "enumerate") (hm : X.mg "enumerate" = none) (ha : PA X [e] ta) (hs : starEach [e] X.env = [(false, eval e X.env)] := by rfl) :
    PI X (.Tuple elts kk tpos) (.Call (.Name "enumerate" p) [e] [] pos) (iEnumK X.K ta) := by
  refine ⟨fun pins s σk H R I h => ?_⟩
  refine Call_ (ld_blt I hg hm boot_enumerate (PyProof.Rows.callWith_type1 (thn (ha.run pos pins s σk H _ I h) fun us s1 ⟨vs, H1, I1, r1, q1⟩ => ?_) hs rfl))
  obtain ⟨a, xs, k, ex, hq, q⟩ := q1
  subst ex
  obtain ⟨u, rfl, ruk⟩ := r1.one
  obtain rfl : u = Value.ref a := ruk
  obtain ⟨ia, ra, sa⟩ := seqI I1 hq
  have la := sa.lt
  refine k70_enum (begins k a ia.toArray) sa fun h' he hit hk => wpAny_pyIter_enum he ?_
  have I2 : Inv X pins σk H1 { s1 with heap := h' } := I1.kept (t' := s1.toks) hk
  refine ⟨s1.heap.objs.size + 1, [s1.heap.objs.size + 1, s1.heap.objs.size], _, _, H1, rfl, I2, turn_enumK k (Nat.ne_of_lt la) (Nat.succ_ne_self _) (nin2 (Nat.succ_ne_self _) (Nat.ne_of_gt (Nat.lt_succ_of_lt la))), ⟨⟨.none, he⟩, itK_new hit⟩, fun c hcm => ?_, q⟩
  have hlek : s1.heap.objs.size ≤ c := by
    rcases List.mem_cons.mp hcm with z | z
    · rw [z]; exact Nat.le_succ _
    · rw [List.mem_singleton.mp z]; exact Nat.le_refl _
  exact I1.fpOk hlek (I1.hok.fresh hlek)
end K70
-- K70Own
/-! an own __iter__ that gives iter(a tuple): for x in o, list(o); promises that see the state they start from -/
namespace K70
open L2 PySem PySem.Spec PyProof.Rows ItX
/-- a promise that sees where the call begins -/
def FnS (P : Program) (w : World) (K : PySem.W.Frag) (mg : Str → Option Value) (base : Heap) (k : Nat) (f : Addr) (sp : List Env → Shared → Sp) : Prop :=
  ∀ (A : Around) (outer : List Env) (s : Shared) (H : Hp) (us : List Value) (vs : List V) (Q : VK) (E : XK), Room k A → Env0 P w K mg base A outer s H → Vals vs us → sp outer s vs H Q E →
    codeAny (model P w) A (.call (.ref f) ⟨us, []⟩) (CR CX0 outer P w H s Q E) s
theorem FnS.mono {P : Program} {w : World} {K : PySem.W.Frag} {mg : Str → Option Value} {base : Heap} {j k : Nat} {f : Addr} {sp : List Env → Shared → Sp} (F : FnS P w K mg base j f sp) (h : j ≤ k) : FnS P w K mg base k f sp := fun A outer s H us vs Q E hr => F A outer s H us vs Q E (hr.mono h)
section
variable {K : PySem.W.Frag} {mg : Str → Option Value} {base : Heap} {P : Program} {w : World}
theorem fnS_of {x qual : Str} {st : Stmt} {f : Addr} {N ps : List Str} {k : Nat} {sp : List Env → Shared → Sp} (F : ∃ fd, FunD K x qual (defArgs st) (defBody st) (defScope st) [] [] f fd) (S : FnScope N ps (defScope st)) (B : BindsAs x qual st ps)
    (len : ∀ outer s vs H Q E, sp outer s vs H Q E → vs.length = ps.length)
    (body : ∀ (cdv : Value) (A : Around) (outer : List Env) (s : Shared) (H : Hp) (vs : List V) (Q : VK) (E : XK), Room k (A.deeper (envOfC qual (defScope st) s.heap.objs.size f cdv)) → sp outer s vs H Q E →
      ∃ t, PSs (cxOf CX0 P w K mg base N qual (defScope st) f cdv A outer s H E).nox (defBody st) t ∧ t { nx := fun _ H'k => Q .non H'k, rt := Q } (start N vs) H) : FnS P w K mg base (k + 1) f sp := by
  obtain ⟨fd, F⟩ := F
  obtain ⟨oc, od, dV, kV, doc, pm, ank, cdv, ct, osl, rfl, lk, hcd, _, _⟩ := F.ex
  intro A outer s H us vs Q E hr e0 rel hsp
  have lenU : us.length = ps.length := by rw [← rel.length]; exact len _ _ _ _ _ _ hsp
  have kin : K.In s.heap := e0.mod.kin.keeps fun b o e => (e0.bs b o e).1
  have nolim : s.heap.NoLimit := e0.mod.nolimit.keeps fun b o e => (e0.bs b o e).1
  have kinds : ∀ y ∈ ps.zip us, (defScope st).names.lookup y.1 = some .local ∨ ((defScope st).names.lookup y.1 = some .cell ∧ ((cellsFrom (s.heap.objs.size + 1) (defScope st).names []).lookup y.1).isSome = true) := fun ⟨n, v⟩ hyk => by
    rcases S.par n (List.of_mem_zip hyk).1 with q | q
    · exact .inl q
    · (exact .inr ⟨q, PySem.W.cellsFrom_some _ _ _ (.inl q)⟩)
  have bound : BindsTo s (PySem.W.fnOf x qual (defArgs st) (defBody st) (defScope st) dV kV doc pm ank cdv ct) ⟨us, []⟩ (ps.zip us) := by
    have b := FunD.bindsN (ps := ps) F B s us kin (by simpa using lenU)
    simpa using b
  refine codeAny_call_function hr.depth (kin _ _ lk) rfl S.co S.gen rfl (PySem.W.codeRec_of kin hcd) (bound _ _ _ _ ?_)
  refine wpAny_newFunctionEnv_cells S.kind kinds fun env he s1 laid => ?_
  subst he
  refine ⟨nolim.keeps laid.toInCall.keep, codeAny_func ?_⟩
  obtain ⟨t, ht, hq⟩ := body cdv A outer s H vs Q E (hr.deeper _) hsp
  have ht := ht.nox
  have I : Inv (cxOf CX0 P w K mg base N qual (defScope st) f cdv A outer s H E) [] (start N vs) H s1 := inv_start S hr.hd e0 (len _ _ _ _ _ _ hsp) rel laid
  refine wpAny_mono (ht.run [] s1 (start N vs) H _ I hq) (fun fl s' hsk => ?_) fun e s' hsk => hsk
  have ends : ∀ {σ' : L2.St} {H'k : Hp} {v : V} {u : Value}, Inv (cxOf CX0 P w K mg base N qual (defScope st) f cdv A outer s H E) [] σ' H'k s' → RelV v u → Q v H'k → CE outer P w H s Q u s' :=
    fun {σ' H'k v u} J rv q => ⟨v, H'k, J.os, J.bare, J.base, J.hok, rv, q⟩
  cases fl with
  | ret u => obtain ⟨v, σ', H'k, J, rv, q⟩ := hsk; exact ends J rv q
  | next => obtain ⟨σ', H'k, J, q⟩ := hsk; exact ends (v := V.non) (u := Value.none) J rfl q
  | brk => obtain ⟨_, _, _, q⟩ := hsk; exact False.elim q
  | cont => obtain ⟨_, _, _, q⟩ := hsk; exact False.elim q
end
/-! ### iter(t), t a tuple -/
abbrev tiOb (t : Addr) (i : Nat) : Obj := { cls := .type "tuple_iterator", data := .fields #[.ref t, .int i 0] }
def TiO (t it : Addr) : HO := .ext fun h => h.get? it = some (tiOb t 0)
theorem call_iterT {X : Cx} : CallR X (.builtin "iter") (fun xs H Q => ∃ t ys, xs = [.ref t] ∧ H t = some (.tup ys) ∧ ∀ it, H it = none → X.s_0.heap.objs.size ≤ it → Q (.ref it) (upd H it (TiO t it))) := by
  intro pins s σ H xs us Q Ik r h
  obtain ⟨t, ys, rfl, ht, q⟩ := h
  obtain ⟨u, rfl, ruk⟩ := vals1 r
  obtain rfl : u = Value.ref t := ruk
  obtain ⟨its, rv, p, hz⟩ := Ik.tuple (SqT.of ht)
  (refine Calls.call_function_entry (by decide +kernel) (by decide +kernel) PySem.W.kdk_entry_iter (PySem.W.kdk_args_iter _) ?_)
  unfold Builtin.«iter»
  refine wpAny_bind (m := someArgs "iter" 1 2 _) (wpAny_of_eq (a := [Value.ref t]) (by first | rfl | kernel_rfl!) ?_)
  show wpAny _ _ (pyIter (.ref t) >>= _) _ _ _
  refine wpAny_bind (wpAny_pyIter_tuple (show s.heap.IsTuple t its.toArray from p) (wpAny_pure ⟨_, rfl, ?_⟩))
  have new : (s.heap.push (tiOb t 0)).get? s.heap.objs.size = some (tiOb t 0) := Heap.get?_push_size _ rfl
  exact ⟨.ref s.heap.objs.size, _, Ik.laid (t' := s.toks) (o := TiO t s.heap.objs.size) (fun b u e => Heap.get?_push_of_some _ e) (Nat.le_refl _) ⟨new, ⟨_, new⟩, fun h1 h2 q k => k _ q⟩, rfl, q _ (Ik.hok.fresh (Nat.le_refl _)) Ik.sz⟩
/-- the promise of an __iter__ over the tuple in a field -/
def spIter (C : Addr) (fld : Str) : List Env → Shared → Sp := fun _ s vs H Q _ => ∃ a dx fs t ys, vs = [.ref a] ∧ H a = some (.ins C dx fs) ∧ fs.lookup fld = some (.ref t) ∧ H t = some (.tup ys) ∧ ∀ it, H it = none → s.heap.objs.size ≤ it → Q (.ref it) (upd H it (TiO t it))
section
variable {X : Cx} {n : Nat} {C f : Addr} {fld : Str}
theorem own_iter {A : Around} {E : Value → Shared → Prop} {pins : List (Addr × Obj)} {σ : L2.St} {H : Hp} {s : Shared} {a dx t : Addr} {fs : List (Str × V)} {ys : List V} {Q : Value → Shared → Prop} (sbk : Sub X n A) (hX : ∀ e s, X.xe e s → E e s) (Mt : Meth X.K C "__iter__" f) (F : FnS X.prog X.w X.K X.mg X.base n f (spIter C fld))
    (Ik : Inv X pins σ H s) (ha : H a = some (.ins C dx fs)) (hl : fs.lookup fld = some (.ref t)) (ht : H t = some (.tup ys)) (h : ∀ it s', Inv X pins σ H s' → s'.heap.IsTupleIter it t 0 → FpOk X pins H it → Q (.ref it) s') :
    wpAny (model X.prog X.w) A (pyIter (.ref a)) Q E s := by
  obtain ⟨mA, J, _⟩ := ins_get Ik.hok ha
  obtain ⟨od, J, _⟩ := J.look
  obtain ⟨m0, hF⟩ := Ik.fr
  refine PySem.W.owit_iter hF Ik.ok.mod.kin J Mt.at_ Mt.fn ?_
  have e0k : Env0 X.prog X.w X.K X.mg X.base A X.stack s H := by
    have e := Ik.env0
    exact ⟨by rw [sbk.fr]; exact e.frames, e.mod, e.bs, e.bsz, e.funs, e.frf, e.hok, e.bare⟩
  have hsp : spIter C fld X.stack s [.ref a] H (fun v H' => ∃ it, H it = none ∧ s.heap.objs.size ≤ it ∧ v = .ref it ∧ H' = upd H it (TiO t it)) (fun _ _ _ => False) := ⟨a, dx, fs, t, ys, rfl, ha, hl, ht, fun it h1 h2 => ⟨it, h1, h2, rfl, rfl⟩⟩
  refine wpAny_call (codeAny_mono (F A X.stack s H [.ref a] [.ref a] _ _ sbk.room e0k (.cons rfl .nil) hsp) fun r s' hqk => ?_)
  cases r with
  | error e => exact False.elim hqk
  | ok fl =>
    cases fl with
    | next => exact False.elim hqk
    | brk => exact False.elim hqk
    | cont => exact False.elim hqk
    | ret u =>
      obtain ⟨v, H', I', rv, it, h1, h2, ev, eH⟩ := Ik.after hqk
      subst ev eH
      obtain rfl : u = Value.ref it := rv
      have hi : upd H it (TiO t it) it = some (TiO t it) := upd_same
      have obj := (I'.hok it _ hi).1
      have ty : s'.TypeIs (.ref it) "tuple_iterator" := ⟨_, obj, rfl⟩
      unfold PySem.W.OwitIt
      refine wpAny_specialOf (name := Str.ofString "__next__") ty slot_tupleiter_next.lookup ?_
      have I2 := inv_drop I' hi
      rw [dropH_upd h1] at I2
      have fp := inv_fp I' hi (Nat.le_trans Ik.sz h2)
      rw [dropH_upd h1] at fp
      exact h it s' I2 ⟨_, obj, rfl, rfl⟩ fp
/-- for x in o -/
def iOwn (K : PySem.W.Frag) (C : Addr) (fld : Str) (te : TE) : TI := fun σ H R => te σ H fun x H1 => ∃ a dx fs t ys, x = .ref a ∧ H1 a = some (.ins C dx fs) ∧ fs.lookup fld = some (.ref t) ∧ H1 t = some (.tup ys) ∧ R (Itt K t) H1
theorem pi_own {tg e : Expr} {te : TE} (he : PE X e te) (Mt : Meth X.K C "__iter__" f) (F : FnS X.prog X.w X.K X.mg X.base n f (spIter C fld)) (hr : Room n X.A) : PI X tg e (iOwn X.K C fld te) := by
  refine ⟨fun pins s σ H R Ik h => ?_⟩
  refine thn (he.run pins s σ H _ Ik h) fun u s1 ⟨x, H1, I1, rxk, a, dx, fs, t, ys, ex, ha, hl, ht, q⟩ => ?_
  subst ex
  obtain rfl : u = Value.ref a := rxk
  refine own_iter (A := X.A) ⟨hr, rfl⟩ (fun _ _ z => z) Mt F I1 ha hl ht fun it s2 I2 st fp => ?_
  exact ⟨it, [it], _, _, H1, rfl, I2, turn_tuple t it, st, fun b hb => by rw [List.mem_singleton.mp hb]; exact fp, q⟩
/-- the items go into a list -/
theorem tup_loop {A1 : Around} {pins : List (Addr × Obj)} {σ : L2.St} {H : Hp} {t it q : Addr} {ys : List V} {Rs : Result → Shared → Prop} (hh : A1.in1.handled = none) (ht : H t = some (.tup ys)) (hq : ∃ u, H q = some (.lst u)) (nq : q ≠ t) (fp : FpOk X pins H it)
    (done : ∀ s, Inv X pins σ (upd H q (.lst ys)) s → Rs (.ok (.ret .none)) s) :
    ∀ (k i : Nat) (s : Shared), ys.length - i = k → i ≤ ys.length → Inv X pins σ (upd H q (.lst (ys.take i))) s → s.heap.IsTupleIter it t i → codeAny (model X.prog X.w) A1 (.builtin "list.extend.loop" ⟨[.ref q, .ref it, .none], []⟩) Rs s := by
  intro k
  induction k with
  | zero =>
    intro i s hk hi I st
    (refine codeAny_builtin PySem.F.entry_extend_loop ?_)
    (rw [Around.under_plainId PySem.F.plain_extend_loop _])
    show wpAny _ A1.in1 (pyNext (.ref it) >>= _) _ _ s
    have ht2 : upd H q (.lst (ys.take i)) t = some (.tup ys) := by rw [upd_ne (Ne.symm nq)]; exact ht
    obtain ⟨its, rv, p, _⟩ := I.tuple (SqT.of ht2)
    have l := rv.length
    obtain ⟨u0, hu0⟩ := hq
    have nit : it ≠ q := fun z => by have := fp.1; rw [z, hu0] at this; cases this
    refine wpAny_bind (wpAny_pyNext_tuple_end hh st (show s.heap.IsTuple t its.toArray from p) (by simp; omega) fun h' eb => ?_)
    have I1 : Inv X pins σ (upd H q (.lst (ys.take i))) { s with heap := h' } := I.turned (t' := s.toks) (fun b o hb e => eb b o hb e) (by rw [upd_ne nit]; exact fp.1) fp.2.1 fp.2.2.2.1 fp.2.2.2.2.1 fp.2.2.2.2.2
    have ei : ys.take i = ys := List.take_of_length_le (by omega)
    rw [ei] at I1
    exact wpAny_pure (done _ I1)
  | succ k ih =>
    intro i s hk hi I st
    have hlt : i < ys.length := by omega
    (refine codeAny_builtin PySem.F.entry_extend_loop ?_)
    (rw [Around.under_plainId PySem.F.plain_extend_loop _])
    show wpAny _ A1.in1 (pyNext (.ref it) >>= _) _ _ s
    have ht2 : upd H q (.lst (ys.take i)) t = some (.tup ys) := by rw [upd_ne (Ne.symm nq)]; exact ht
    obtain ⟨its, rv, p, hz⟩ := I.tuple (SqT.of ht2)
    obtain ⟨u, hu, ru⟩ := rv.get (List.getElem?_eq_getElem hlt)
    obtain ⟨u0, hu0⟩ := id hq
    have nit : it ≠ q := fun z => by have := fp.1; rw [z, hu0] at this; cases this
    refine wpAny_bind (wpAny_pyNext_tuple_item st (show s.heap.IsTuple t its.toArray from p) (x := u) (by simpa using hu) fun h' st' sb => ?_)
    have I1 : Inv X pins σ (upd H q (.lst (ys.take i))) { s with heap := h' } := I.turned (t' := s.toks) (fun b o hb e => (sb.2 b hb).trans e) (by rw [upd_ne nit]; exact fp.1) fp.2.1 fp.2.2.2.1 fp.2.2.2.2.1 fp.2.2.2.2.2
    obtain ⟨z, its2, c, r2, hl, e⟩ := I1.lstM upd_same
    (show wpAny _ A1.in1 (updateSeq q (·.push u) >>= _) _ _ _)
    have lt2 : (ys.take i).length = i := by rw [List.length_take]; omega
    have I2 := I1.lset (f := (·.push u)) (its' := its2 ++ [u]) (ys := ys.take i ++ [ys[i]]) (t' := s.toks) upd_same e (by simp) (r2.append (.cons ru .nil)) (by rw [List.length_append, lt2, List.length_singleton]; omega)
    rw [upd_upd, ← take_snoc (List.getElem?_eq_getElem hlt)] at I2
    refine wpAny_bind (wpAny_updateSeq e rfl (wpAny_pure ⟨plainId_quiet PySem.F.plain_extend_loop _, ih (i + 1) _ (by omega) hlt I2 ?_⟩) (by rw [List.size_toArray]; omega) (by show (its2.toArray.push u).size ≤ sizeLine + 1; rw [Array.size_push, List.size_toArray]; omega))
    exact st'.at fun o eo => (Heap.get?_update_other _ _ (Ne.symm nit)).trans eo
end
end K70
-- K70Own2
/-! own __bool__, __contains__, __len__; list(o) -/
namespace K70
open L2 PySem PySem.Spec PyProof.Rows ItX
section
variable {X : Cx} {n : Nat} {C f : Addr} {sp : Sp} {name : Str}
theorem own_run {A : Around} {E : Value → Shared → Prop} {pins : List (Addr × Obj)} {σ : L2.St} {H : Hp} {s : Shared} {us : List Value} {vs : List V} {Q' : VK} {Q : Value → Shared → Prop} (sbk : Sub X n A) (F : FnR X.prog X.w X.K X.mg X.base CX0 n f sp)
    (I : Inv X pins σ H s) (r : Vals vs us) (hsp : sp vs H Q' E0) (h : ∀ u v s' H', Inv X pins σ H' s' → RelV v u → Q' v H' → Q u s') : wpAny (model X.prog X.w) A (call (.ref f) us) Q E s := by
  have e0k : Env0 X.prog X.w X.K X.mg X.base A X.stack s H := by
    have e := I.env0
    exact ⟨by rw [sbk.fr]; exact e.frames, e.mod, e.bs, e.bsz, e.funs, e.frf, e.hok, e.bare⟩
  refine wpAny_call (codeAny_mono (F A X.stack s H us vs _ _ sbk.room e0k r hsp) fun r s' hqk => ?_)
  cases r with
  | error e => exact False.elim hqk
  | ok fl =>
    cases fl with
    | next => exact False.elim hqk
    | brk => exact False.elim hqk
    | cont => exact False.elim hqk
    | ret u =>
      obtain ⟨v, H', I', rv, q⟩ := I.after hqk
      exact h u v s' H' I' rv q
theorem own_special {A : Around} {E : Value → Shared → Prop} {pins : List (Addr × Obj)} {σ : L2.St} {H : Hp} {s : Shared} {a dx : Addr} {fs : List (Str × V)} {us : List Value} {vs : List V} {Q' : VK} {Q : Option Value → Shared → Prop} (sb : Sub X n A) (Mt : Meth X.K C name f) (F : FnR X.prog X.w X.K X.mg X.base CX0 n f sp)
    (Ik : Inv X pins σ H s) (ha : H a = some (.ins C dx fs)) (r : Vals vs us) (hsp : sp (.ref a :: vs) H Q' E0) (h : ∀ u v s' H', Inv X pins σ H' s' → RelV v u → Q' v H' → Q (some u) s') : wpAny (model X.prog X.w) A (callSpecial? (.ref a) name us) Q E s := by
  obtain ⟨mA, J, _⟩ := ins_get Ik.hok ha
  obtain ⟨od, J, _⟩ := J.look
  exact PySem.W.special_fn Ik.kIn J Mt.at_ (beq_iff_eq.mp Mt.fn) (own_run (us := .ref a :: us) (vs := .ref a :: vs) sb F Ik (.cons rfl r) hsp h)
/-- the truth of an instance with an own __bool__ -/
theorem own_truthy {A : Around} {E : Value → Shared → Prop} {pins : List (Addr × Obj)} {σ : L2.St} {H : Hp} {s : Shared} {a dx : Addr} {fs : List (Str × V)} {b : Bool} {Q : Bool → Shared → Prop} (sb : Sub X n A) (Mt : Meth X.K C "__bool__" f) (F : FnR X.prog X.w X.K X.mg X.base CX0 n f sp)
    (I : Inv X pins σ H s) (ha : H a = some (.ins C dx fs)) (hsp : ∀ Q' : VK, Q' (.bl b) H → sp [.ref a] H Q' E0) (h : ∀ s', Inv X pins σ H s' → Q b s') : wpAny (model X.prog X.w) A (truthy (.ref a)) Q E s := by
  have one : wpAny (model X.prog X.w) A (callSpecial? (.ref a) "__bool__") (fun r s' => r = some (.bool b) ∧ Inv X pins σ H s') E s := by
    refine own_special (Q' := fun v H' => v = .bl b ∧ H' = H) sb Mt F I ha .nil (hsp _ ⟨rfl, rfl⟩) fun u v s' H' I' rv q => ?_
    obtain ⟨rfl, rfl⟩ := q
    obtain rfl : u = Value.bool b := rv
    exact ⟨rfl, I'⟩
  unfold truthy
  first
    | refine wpAny_bind (wpAny_mono one (fun r s' z => ?_) fun _ _ z => z)
    | refine wpAny_bind (wpAny_pure (wpAny_bind (wpAny_mono one (fun r s' z => ?_) fun _ _ z => z)))
  obtain ⟨rfl, I'⟩ := z
  exact wpAny_pure (h s' I')
end
/-- an instance of one of two classes, each with an own __bool__; b tells which -/
def IsTwo (C1 C2 : Addr) (H : Hp) (a : Addr) (b : Bool) : Prop := ∃ dx fs, H a = some (.ins (if b = true then C1 else C2) dx fs)
structure Two (X : Cx) (n : Nat) (C1 C2 : Addr) : Prop where
  t : ∃ f sp, Meth X.K C1 "__bool__" f ∧ FnR X.prog X.w X.K X.mg X.base CX0 n f sp ∧ ∀ a H (Q : VK), Q (.bl true) H → sp [.ref a] H Q E0
  f : ∃ f sp, Meth X.K C2 "__bool__" f ∧ FnR X.prog X.w X.K X.mg X.base CX0 n f sp ∧ ∀ a H (Q : VK), Q (.bl false) H → sp [.ref a] H Q E0
section
variable {X : Cx} {n : Nat} {C1 C2 : Addr}
theorem two_truthy {A : Around} {E : Value → Shared → Prop} {pins : List (Addr × Obj)} {σ : L2.St} {H : Hp} {s : Shared} {a : Addr} {b : Bool} {Q : Bool → Shared → Prop} (sb : Sub X n A) (T : Two X n C1 C2) (I : Inv X pins σ H s) (ha : IsTwo C1 C2 H a b) (h : ∀ s', Inv X pins σ H s' → Q b s') :
    wpAny (model X.prog X.w) A (truthy (.ref a)) Q E s := by
  obtain ⟨dx, fs, ha⟩ := ha
  cases b with
  | true =>
    obtain ⟨f, sp, M, F, q⟩ := T.t
    exact own_truthy sb M F I ha (fun Q' z => q a H Q' z) h
  | false =>
    obtain ⟨f, sp, M, F, q⟩ := T.f
    exact own_truthy sb M F I ha (fun Q' z => q a H Q' z) h
theorem tru_two (T : Two X n C1 C2) (hr : Room n X.A) : TruR X (fun x H Q => ∃ a b, x = .ref a ∧ IsTwo C1 C2 H a b ∧ Q b H) := by
  intro pins s σ H x v Q I r h
  obtain ⟨a, b, rfl, ha, q⟩ := h
  obtain rfl : v = Value.ref a := r
  exact two_truthy (A := X.A) ⟨hr, rfl⟩ T I ha fun s' I' => ⟨H, I', q⟩
/-- bool(x) -/
theorem call_boolTwo (T : Two X n C1 C2) (hr : Room (n + 4) X.A) : CallR X (.type "bool") (fun xs H Q => ∃ a b, xs = [.ref a] ∧ IsTwo C1 C2 H a b ∧ Q (.bl b) H) := by
  intro pins s σ H xs us Q Ik r h
  obtain ⟨a, b, rfl, ha, q⟩ := h
  obtain ⟨u, rfl, ruk⟩ := r.one
  obtain rfl : u = Value.ref a := ruk
  refine callType_codes (T := "bool") (Bi := Builtin.«object.__init__») (Q₁ := fun r s1 => r = .bool b ∧ Inv X pins σ H s1) PySem.F.called_bool (PySem.F.typeCall_bool_1 _) PySem.F.entry_object_init ?_ ?_
  · refine codeAny_of_tree ?_
    show wpAny _ X.A.in1.in1 (do checkBuiltinCall "bool.__new__" ⟨[.type "bool", .ref a], []⟩; again (.builtin "bool.__new__" ⟨[.type "bool", .ref a], []⟩)) _ _ s
    refine wpAny_bind (wpAny_of_eq (PySem.F.newCall_bool_1 _) (wpAny_pure ⟨plainId_quiet (by decide +kernel) _, codeAny_builtin PySem.F.entry_bool_new ?_⟩))
    (rw [Around.under_plainId (by decide +kernel) _])
    have tree : Builtin.«bool.__new__» ⟨[.type "bool", .ref a], []⟩ = (isSubtype (.type "bool") (.type "bool") >>= fun _ => truthy (.ref a) >>= fun t => ret (.bool t)) := by
      rfl
    rw [tree]
    refine wpAny_bind (wpAny_of_eq PySem.F.conv_sub_bool (wpAny_bind (two_truthy (Sub.in1 (Sub.in1 (⟨hr.mono (by omega), rfl⟩ : Sub X (n + 2) X.A))) T Ik ha fun s1 I1 => ?_)))
    exact wpAny_pure ⟨rfl, I1⟩
  · rintro obj s1 ⟨rfl, I1⟩
    have ty : s1.TypeIs (.bool b) "bool" := rfl
    exact ⟨ty, PySem.F.args_object_init_2 _ _, object_init_meets PySem.F.called_bool.init.lookup PySem.F.called_bool.made (by decide) X.prog X.w X.A.in1 _ s1 ⟨ty, rfl, .bl b, H, I1, rfl, q⟩⟩
end
section
variable {X : Cx} {n : Nat} {C f : Addr} {sp : Sp}
/-- x in o, o with an own __contains__ that answers by a bool -/
theorem own_contains {A : Around} {E : Value → Shared → Prop} {pins : List (Addr × Obj)} {σ : L2.St} {H : Hp} {s : Shared} {a dx : Addr} {fs : List (Str × V)} {y : V} {u : Value} {Q' : Bool → Hp → Prop} {Q : Bool → Shared → Prop} (sb : Sub X n A) (Mt : Meth X.K C "__contains__" f) (F : FnR X.prog X.w X.K X.mg X.base CX0 n f sp)
    (Ik : Inv X pins σ H s) (ha : H a = some (.ins C dx fs)) (r : RelV y u) (hsp : sp [.ref a, y] H (fun v H' => ∃ b, v = .bl b ∧ Q' b H') E0) (h : ∀ b s' H', Inv X pins σ H' s' → Q' b H' → Q b s') : wpAny (model X.prog X.w) A (contains (.ref a) u) Q E s := by
  obtain ⟨mA, J, _⟩ := ins_get Ik.hok ha
  obtain ⟨od, J, _⟩ := J.look
  unfold contains
  refine wpAny_holding ?_
  rw [stdlibNamesSay?_ref]
  refine wpAny_bind (wpAny_bind (J.type.here ((PySem.W.looks_findIn Ik.kIn Mt.at_).here ?_)))
  have nn : ¬ ((some (Value.ref f) == some Value.none) = true) := by simp
  rw [if_neg nn]
  unfold callSpecialUnlessNone?
  refine wpAny_bind (wpAny_bind (wpAny_bind (J.type.here ((PySem.W.looks_findIn Ik.kIn Mt.at_).here (wpAny_holding (wpAny_bind ((PySem.W.bind_fn Ik.kIn _ (beq_iff_eq.mp Mt.fn)).here ?_)))))))
  have nn2 : ¬ ((Value.ref f == Value.none) = true) := by simp
  show wpAny _ A (if (Value.ref f == Value.none) = true then _ else _) _ E s
  rw [if_neg nn2]
  refine wpAny_bind ?_
  refine own_run (us := [.ref a, u]) (vs := [.ref a, y]) sb F Ik (.cons rfl (.cons r .nil)) hsp fun w v s' H' I' rv q => ?_
  obtain ⟨b, rfl, q⟩ := q
  obtain rfl : w = Value.bool b := rv
  exact wpAny_pure (wpAny_truthy_bool (h b s' H' I' q))
end
end K70
-- K70Own3
/-! own __len__; list(o) -/
namespace K70
open L2 PySem PySem.Spec PyProof.Rows ItX
section
variable {X : Cx} {n : Nat} {C f : Addr} {sp : Sp}
/-- len(o), o with an own __len__ -/
theorem own_len {A : Around} {E : Value → Shared → Prop} {pins : List (Addr × Obj)} {σ : L2.St} {H : Hp} {s : Shared} {a dx : Addr} {fs : List (Str × V)} {m : Nat} {Q : Value → Shared → Prop} (sb : Sub X (n + 1) A) (Mt : Meth X.K C "__len__" f) (F : FnR X.prog X.w X.K X.mg X.base CX0 n f sp)
    (I : Inv X pins σ H s) (ha : H a = some (.ins C dx fs)) (hsp : ∀ Q' : VK, Q' (.int (m : Int)) H → sp [.ref a] H Q' E0) (hm : (m : Int) < 2 ^ 63) (h : ∀ t s', Inv X pins σ H s' → Q (.int (m : Int) t) s') : wpAny (model X.prog X.w) A (call (.builtin "len") [.ref a]) Q E s := by
  (refine Calls.call_function_entry kind_len plain_len entry_len (args_len1 _) ?_)
  unfold Builtin.«len»
  (refine wpAny_bind (m := oneArg "len" _) (wpAny_pure ?_))
  refine wpAny_bind (m := callSpecial? (.ref a) (PySem.Str.ofString "__len__")) (own_special (Q' := fun v H' => v = .int (m : Int) ∧ H' = H) sb.in1 Mt F I ha .nil (hsp _ ⟨rfl, rfl⟩) fun u v s' H' I' rv q => ?_)
  obtain ⟨rfl, rfl⟩ := q
  obtain ⟨t, rfl⟩ : ∃ t, u = Value.int (m : Int) t := rv
  (refine wpAny_bind (wpAny_holding (wpAny_pure ?_)))
  (refine wpAny_bind (wpAny_letGo ?_))
  show wpAny _ _ (if ((m : Nat) : Int) < 0 then _ else _) _ _ _
  rw [if_neg (by omega)]
  show wpAny _ _ (if ((m : Nat) : Int) ≥ 2 ^ 63 then _ else _) _ _ _
  rw [if_neg (by omega)]
  exact wpAny_bind (wpAny_mkInt (wpAny_pure ⟨_, rfl, h _ _ (I'.tok _)⟩))
/-- what is said of the length before the items are read -/
def HintP (X : Cx) (n : Nat) (C : Addr) (P : Hp → Addr → Prop) : Prop := ∀ (A : Around) (E : Value → Shared → Prop) (pins : List (Addr × Obj)) (σ : L2.St) (H : Hp) (s : Shared) (a dx : Addr) (fs : List (Str × V)) (Q : Bool → Shared → Prop),
  Sub X n A → Inv X pins σ H s → H a = some (.ins C dx fs) → P H a → (∀ b s', Inv X pins σ H s' → Q b s') → wpAny (model X.prog X.w) A (Builtin.List.listLengthHint (.ref a)) Q E s
theorem hint_no (h1 : PySem.W.findIn X.K (.ref C) "__len__" = some none) (h2 : PySem.W.findIn X.K (.ref C) "__length_hint__" = some none) : HintP X n C fun _ _ => True := by
  intro A E pins σ H s a dx fs Q sb Ik ha _ h
  obtain ⟨mA, J, _⟩ := ins_get Ik.hok ha
  obtain ⟨od, J, _⟩ := J.look
  (unfold Builtin.List.listLengthHint)
  refine wpAny_bind (wpAny_bind (J.type.here ((PySem.W.looks_findIn Ik.kIn h1).here ?_)))
  (refine PySem.W.KFB.if_not rfl ?_)
  (refine PySem.W.KFB.if_not rfl ?_)
  refine wpAny_bind (wpAny_bind (J.type.here ((PySem.W.looks_findIn Ik.kIn h2).here ?_)))
  exact wpAny_pure (h _ _ Ik)
theorem hint_len (Mt : Meth X.K C "__len__" f) (F : FnR X.prog X.w X.K X.mg X.base CX0 n f sp) : HintP X (n + 1) C fun H a => ∃ m : Nat, m ≤ 100000 ∧ ∀ Q' : VK, Q' (.int (m : Int)) H → sp [.ref a] H Q' E0 := by
  intro A E pins σ H s a dx fs Q sb Ik ha ⟨m, hm, hsp⟩ h
  obtain ⟨mA, J, _⟩ := ins_get Ik.hok ha
  obtain ⟨od, J, _⟩ := J.look
  (unfold Builtin.List.listLengthHint)
  refine wpAny_bind (wpAny_bind (J.type.here ((PySem.W.looks_findIn Ik.kIn Mt.at_).here ?_)))
  (refine PySem.W.KFB.if_not rfl ?_)
  show wpAny _ A (do
    rule "list.length-hint.len"
    _) _ _ _
  (refine wpAny_bind (wpAny_rule ?_))
  refine wpAny_bind (wpAny_attempt (own_len sb Mt F Ik ha hsp (by omega) fun t s' I' => ?_))
  refine wpAny_bind (m := asInt? (Value.int (m : Int) t)) (wpAny_pure ?_)
  show wpAny _ A (if Builtin.List.listTooLong ((m : Int)).toNat = true then _ else pure ((m : Int) != 0)) _ _ _
  have e : Builtin.List.listTooLong ((m : Int)).toNat = false := decide_eq_false (by rw [Int.toNat_natCast, sizeLine_eq]; omega)
  (rw [e, if_neg Bool.false_ne_true])
  exact wpAny_pure (h _ _ I')
/-- list(o): the items of its tuple -/
def rListOwn (K : PySem.W.Frag) (C : Addr) (fld : Str) (P : Hp → Addr → Prop) : List V → Hp → VK → Prop := fun xs H Q => ∃ a dx fs t ys, xs = [.ref a] ∧ H a = some (.ins C dx fs) ∧ fs.lookup fld = some (.ref t) ∧ H t = some (.tup ys) ∧
  ∀ q, H q = none → P (upd H q (.lst [])) a ∧ Q (.ref q) (upd H q (.lst ys))
theorem call_listOwnT {fld : Str} {P : Hp → Addr → Prop} (Mt : Meth X.K C "__iter__" f) (F : FnS X.prog X.w X.K X.mg X.base n f (spIter C fld)) (hpk : HintP X n C P) (hh : X.A.in1.in1.handled = none) (hr : Room (n + 2) X.A) : CallR X (.type "list") (rListOwn X.K C fld P) := by
  intro pins s σ H xs us Q Ik rv h
  obtain ⟨a, dx, fs, t, ys, rfl, ha, hl, ht, hq⟩ := h
  obtain ⟨u, rfl, ru⟩ := rv.one
  cases ru
  have sb : L2.Sub X n X.A.in1.in1 := (L2.Sub.in1 (L2.Sub.in1 (⟨hr, rfl⟩ : L2.Sub X (n + 2) X.A)))
  refine callType_codes (Q₁ := fun objk s₁ => objk = .ref s.heap.objs.size ∧ s₁ = { s with heap := s.heap.push { cls := .type "list", data := .seq #[] } }) PySem.F.called_list (PySem.F.typeCall_list_1 _) PySem.F.entry_list_init
    (code_list_new _ ⟨rfl, rfl⟩) fun objk s₁ h₁ => ?_
  obtain ⟨rfl, rfl⟩ := h₁
  have hSk : (s.heap.push { cls := .type "list", data := .seq #[] }).get? s.heap.objs.size = some { cls := .type "list", data := .seq #[] } := Heap.get?_push_size _ rfl
  refine ⟨⟨_, hSk, rfl⟩, PySem.F.args_list_init_2 _ _, ?_⟩
  have fr : H s.heap.objs.size = none := Ik.hok.fresh (Nat.le_refl _)
  obtain ⟨hP, hQ⟩ := hq _ fr
  have I1 : Inv X pins σ (upd H s.heap.objs.size (.lst [])) { s with heap := s.heap.push { cls := .type "list", data := .seq #[] } } := Ik.lnew (its := []) (t' := s.toks) .nil (Nat.zero_le _)
  (show wpAny _ _ (do let old ← Builtin.List.listItems (.ref s.heap.objs.size); Builtin.List.listUpdate (.ref s.heap.objs.size) (fun _ => #[]); letGo old.toList.reverse; Builtin.List.listExtendWith (.ref s.heap.objs.size) (.ref a) .none) _ _ _)
  refine wpAny_bind ?_
  unfold Builtin.List.listItems
  refine wpAny_bind (wpAny_seqItems hSk rfl (wpAny_pure ?_))
  (show wpAny _ _ (updateSeq s.heap.objs.size (fun _ => #[]) >>= fun _ => letGo (#[] : Array Value).toList.reverse >>= fun _ => Builtin.List.listExtendWith (.ref s.heap.objs.size) (.ref a) .none) _ _ _)
  refine wpAny_bind (wpAny_updateSeq hSk rfl ?_)
  have I2 := I1.lset (f := fun _ => #[]) (its := []) (its' := []) (ys := []) (t' := s.toks) upd_same hSk rfl .nil (Nat.zero_le _)
  rw [upd_upd] at I2
  (refine wpAny_bind (wpAny_letGo ?_))
  generalize hqq : s.heap.objs.size = q at *
  have hne : q ≠ a := fun z => by rw [z] at fr; rw [fr] at ha; cases ha
  have hnt : q ≠ t := fun z => by rw [z] at fr; rw [fr] at ht; cases ht
  have ha2 : upd H q (.lst []) a = some (.ins C dx fs) := by rw [upd_ne (Ne.symm hne)]; exact ha
  have ht2 : upd H q (.lst []) t = some (.tup ys) := by rw [upd_ne (Ne.symm hnt)]; exact ht
  obtain ⟨mA, Jk, _⟩ := ins_get I2.hok ha2
  obtain ⟨od, Jk, _⟩ := Jk.look
  (unfold Builtin.List.listExtendWith)
  refine wpAny_bind (Jk.type.here ?_)
  have h1k : Builtin.List.listSameRef (.ref q) (.ref a) = false := by simp [Builtin.List.listSameRef, hne]
  have h2k : (Value.ref C == Value.type "list") = false := rfl
  have h3k : (Value.ref C == Value.type "tuple") = false := rfl
  simp only [h1k, h2k, h3k, Bool.or_false, Bool.false_eq_true, if_false]
  refine wpAny_bind (own_iter sb (fun _ _ z => z) Mt F I2 ha2 hl ht2 fun it s3 I3 st fp => ?_)
  obtain ⟨u0, eu⟩ : ∃ u0, upd H q (.lst []) q = some (.lst u0) := ⟨_, upd_same⟩
  have fin : ∀ s4, Inv X pins σ (upd H q (.lst [])) s4 → s4.heap.IsTupleIter it t 0 → codeAny (model X.prog X.w) X.A.in1 (.builtin "list.extend.loop" ⟨[.ref q, .ref it, .none], []⟩) (wants (fun r s₂ => r = .none ∧ EP X pins σ Q (.ref q) s₂) X.xe) s4 := by
    intro s4 I4 st4
    have go := tup_loop (X := X) (A1 := X.A.in1) (H := upd H q (.lst [])) (t := t) (it := it) (q := q) (ys := ys) (Rs := wants (fun r s₂ => r = .none ∧ EP X pins σ Q (.ref q) s₂) X.xe) hh ht2 ⟨_, upd_same⟩ hnt fp
      (fun s5 I5 => by
        rw [upd_upd] at I5
        exact ⟨rfl, .ref q, _, I5, rfl, hQ⟩) ys.length 0 s4 rfl (Nat.zero_le _) (by rw [List.take_zero, upd_upd]; exact I4) st4
    exact go
  obtain ⟨o, ho, hc, hd⟩ := id st
  have hloc := I3.loc
  have I4 : Inv X ((it, o) :: pins) σ (upd H q (.lst [])) s3 := by
    refine I3.pins_of fun p hpk => ?_
    rcases List.mem_cons.mp hpk with rfl | hpk
    · exact ⟨ho, fp.1, fp.2.1, fp.2.2.1, fun v z => by rw [hd] at z; cases z⟩
    · exact I3.pin p (List.mem_append_right _ hpk)
  refine wpAny_bind (wpAny_holding (hpk X.A.in1.in1 _ _ _ _ _ _ _ _ _ sb I4 ha2 hP fun b s5 I5 => ?_))
  have st5 : s5.heap.IsTupleIter it t 0 := ⟨o, (I5.pin (it, o) (List.mem_append_right _ List.mem_cons_self)).1, hc, hd⟩
  have I6 : Inv X pins σ (upd H q (.lst [])) s5 := I5.pins_of fun p hpk => I5.pin p (List.mem_append_right _ (List.mem_cons_of_mem _ hpk))
  refine wpAny_ite_split (fun _ => ?_) (fun _ => wpAny_pure ⟨plainId_quiet PySem.F.plain_extend_loop _, fin _ I6 st5⟩)
  (refine wpAny_bind (wpAny_rule ?_))
  refine wpAny_bind ?_
  (show wpAny _ _ (updateSeq q (·.push .none) >>= fun _ => updateSeq q (·.pop)) _ _ _)
  obtain ⟨z, its, k, r3, hl3, e3k⟩ := I6.lstM upd_same
  cases r3
  refine wpAny_bind (wpAny_updateSeq e3k rfl ?_)
  have I7 := I6.lset (f := (·.push Value.none)) (its' := [Value.none]) (ys := [.non]) (t' := s5.toks) upd_same e3k (by simp) (.cons rfl .nil) (by rw [List.length_singleton, sizeLine_eq]; decide)
  obtain ⟨z4, its4, k4, r4k, hl4, e4k⟩ := I7.lstM upd_same
  obtain ⟨u4, rfl, ru4⟩ := r4k.one
  refine wpAny_updateSeq e4k rfl ?_ (by show 1 ≤ sizeLine; rw [sizeLine_eq]; decide) (by show 0 ≤ sizeLine + 1; exact Nat.zero_le _)
  have I8 := I7.lset (f := (·.pop)) (its := [u4]) (its' := []) (ys := []) (t' := s5.toks) upd_same e4k (by rfl) .nil (Nat.zero_le _)
  rw [upd_upd, upd_upd] at I8
  have nit : it ≠ q := fun z => by have := fp.1; rw [z, upd_same] at this; cases this
  refine wpAny_pure ⟨plainId_quiet PySem.F.plain_extend_loop _, fin _ I8 ⟨o, ?_, hc, hd⟩⟩
  exact (Heap.get?_update_other _ _ (Ne.symm nit)).trans ((Heap.get?_update_other _ _ (Ne.symm nit)).trans (I5.pin (it, o) (List.mem_append_right _ List.mem_cons_self)).1)
end
end K70
-- K70Star
/-! an __init__ with *args: makers, with and without starred arguments -/
namespace K70
open L2 PySem PySem.Spec PyProof.Rows StX
structure MkrR (P : Program) (w : World) (K : PySem.W.Frag) (mg : Str → Option Value) (base : Heap) (k : Nat) (x : Str) (C f : Addr) (sp : Sp) : Prop where
  run : FnR P w K mg base CX0 k f sp
  mks : Mk K C f
  mg : mg x = some (.ref C)
theorem two_plain {M : Model} {A : Around} {E : Value → Shared → Prop} {s : Shared} {f : Value} {x y : Bool × Sem Value} {rest : List (Bool × Sem Value)} {Q : Args → Shared → Prop} (h : wpAny M A (spliced (x :: y :: rest)) (fun vs s' => Q ⟨vs, []⟩ s') E s) : wpAny M A (evalArgs f true (x :: y :: rest) []) Q E s := by
  obtain ⟨b, x⟩ := x
  unfold evalArgs
  cases b <;>
  · show wpAny M A (spliced (_ :: y :: rest) >>= fun (vs : List Value) => (pure (vs, none) : Sem (List Value × Option Value)) >>= _) Q E s
    (refine wpAny_bind (wpAny_mono h (fun vs s' h' => ?_) fun _ _ x => x))
    (refine wpAny_bind (wpAny_pure ?_))
    refine wpAny_holding ?_
    (exact wpAny_bind (wpAny_pure (wpAny_bind (wpAny_pure (wpAny_pure h')))))
section
variable {X : Cx} {k : Nat} {f C : Addr} {sp : Sp} {x : Str} {p pos sp_ sq : Pos} {e e2 : Expr} {es : List Expr} {te te2 : TE} {t : TA}
theorem pe_mkR (c : MkrR X.prog X.w X.K X.mg X.base k x C f sp) (hr : Room (k + 1) X.A) (ha : PA X (e :: es) t) (hg : Gl X x := by rfl) (hdb : (x == ("__debug__" : Str)) = false := by decide)
    (he : starEach (e :: es) X.env = (false, eval e X.env) :: starEach es X.env := by rfl) (hpl : (backTo pos (starEach es X.env)).any (·.1) = false := by rfl) : PE X (.Call (.Name x p) (e :: es) [] pos) (tMakeR C sp E0 t) :=
  pe_makeR c.mks c.run hr hg c.mg pass0 ha hdb he hpl
theorem pe_mkR0 (c : MkrR X.prog X.w X.K X.mg X.base k x C f sp) (hr : Room (k + 1) X.A) (hg : Gl X x := by rfl) (hdb : (x == ("__debug__" : Str)) = false := by decide) : PE X (.Call (.Name x p) [] [] pos) (tMakeR C sp E0 tNil) := by
  refine ⟨fun pins s σ H Q Ik h => ?_⟩
  refine wpAny_Call_Name_kw (ld_glob Ik hg c.mg ?_ hdb)
  exact PySem.W.callWith_K0 Ik.kIn c.mks.kp (run_makeR (us := []) c.mks c.run hr pass0 Ik .nil h)
/-- x(*y) -/
theorem pe_mkRS1 (c : MkrR X.prog X.w X.K X.mg X.base k x C f sp) (hr : Room (k + 1) X.A) (he : PE X e te) (hg : Gl X x := by rfl) (hdb : (x == ("__debug__" : Str)) = false := by decide)
    (hst : starEach [.Starred e sp_] X.env = [(true, eval e X.env)] := by rfl) : PE X (.Call (.Name x p) [.Starred e sp_] [] pos) (tMakeR C sp E0 (tStar X.K te tNil)) := by
  refine ⟨fun pins s σ H Q Ik h => ?_⟩
  refine wpAny_Call_Name_kw (ld_glob Ik hg c.mg ?_ hdb)
  refine PySem.W.callWith_S (h₀ := X.base) Ik.ok.mod.kin c.mks.kp (thn (he.run pins s σ H _ Ik h) fun v s1 ⟨y, H1, I1, ry, a, xs, ey, hxs, q⟩ => ?_) hst
  subst ey
  (obtain rfl : v = Value.ref a := ry)
  refine star_any I1 hxs fun us s2 I2 rv => ⟨I2.kIn, ?_⟩
  have q : ∀ x dx, H1 x = Option.none → H1 dx = Option.none → dx ≠ x → sp (V.ref x :: (xs ++ [])) (upd (upd H1 dx (.own x)) x (.ins C dx [])) (fun v H2 => v = .non ∧ Q (.ref x) H2) E0 := q
  rw [List.append_nil] at q
  exact run_makeR c.mks c.run hr pass0 I2 rv q
/-- x(*y, *z) -/
theorem pe_mkRS2 (c : MkrR X.prog X.w X.K X.mg X.base k x C f sp) (hr : Room (k + 1) X.A) (ha : PA X (.Starred e sp_ :: e2 :: es) t) (hg : Gl X x := by rfl) (hdb : (x == ("__debug__" : Str)) = false := by decide)
    (hst : ∃ r1 r2 rest, (backTo pos (starEach (.Starred e sp_ :: e2 :: es) X.env)) = (true, r1) :: r2 :: rest := by exact ⟨_, _, _, rfl⟩) : PE X (.Call (.Name x p) (.Starred e sp_ :: e2 :: es) [] pos) (tMakeR C sp E0 t) := by
  refine ⟨fun pins s σ H Q Ik h => ?_⟩
  refine wpAny_Call_Name_kw (ld_glob Ik hg c.mg ?_ hdb)
  have z := wpAny_mono (Q' := fun (us : List Value) s1 => X.K.In s1.heap ∧ wpAny (model X.prog X.w) X.A (call (.ref C) ([] ++ us)) (EP X pins σ Q) X.xe s1) (ha.run pos pins s σ H _ Ik h) (fun us s1 ⟨vs, H1, I1, r, q⟩ => ⟨I1.kIn, run_makeR c.mks c.run hr pass0 I1 r q⟩) fun _ _ z => z
  obtain ⟨r1, r2, rest, er⟩ := hst
  rw [er] at z
  show wpAny _ _ (callWith pos (.ref C) [] (backTo pos (starEach (.Starred e sp_ :: e2 :: es) X.env)) []) _ _ _
  rw [er]
  exact PySem.W.ks_call rfl (PySem.W.keeps_K c.mks.kp) (two_plain z)
end
section
variable {K : PySem.W.Frag} {mg : Str → Option Value} {base : Heap} {P : Program} {w : World}
theorem mkrR_of {C f : Addr} {x qual nm pv p1 : Str} {st : Stmt} {N : List Str} {k : Nat} {sp : Sp} (F : ∃ fd, FunD K nm qual (defArgs st) (defBody st) (defScope st) [] [] f fd) (S : FnScope N ([p1] ++ [pv]) (defScope st)) (M : Mk K C f) (g : mg x = some (.ref C))
    (B : ∀ (kV doc pm : Value) (an : Option Addr) (cdv ct : Value) (us rest : List Value), us.length = [p1].length → bindArgs (PySem.W.fnOf nm qual (defArgs st) (defBody st) (defScope st) .none kV doc pm an cdv ct) ⟨us ++ rest, []⟩ = (newTuple rest >>= fun t => pure ([p1].zip us ++ [(pv, t)])))
    (body : BodyOk P w K mg base k qual st f N sp) :
    MkrR P w K mg base (k + 1) x C f (fun vs H Q E => ∃ ws rest, vs = ws ++ rest ∧ ws.length = [p1].length ∧ rest.length ≤ sizeLine ∧ ∀ p, H p = Option.none → sp (ws ++ [V.ref p]) (upd H p (.tup rest)) Q E) := by
  obtain ⟨fd, F⟩ := F
  obtain ⟨oc, od, dV, kV, doc, pm, an, cdv, ct, osl, rfl, lk, hcd, hd, _⟩ := F.ex
  refine ⟨fn_star lk hcd S cxUp_none (fun us rest hl => ?_) fun A outer s H vs Q E hr h => ?_, M, g⟩
  · rcases hd with ⟨_, rfl⟩ | ⟨e, _⟩
    · exact B kV doc pm an cdv ct us rest hl
    · exact absurd rfl e
  · obtain ⟨t, h1, h2⟩ := body cdv A outer s H vs Q E hr h
    exact ⟨t, h1.nox, h2⟩
end
end K70
-- K70F12
namespace K70
open L2 PySem PySem.Spec PyProof.Rows StX
/-! ### logs -/
abbrev Ent := Nat × Nat × Bool
def entV (e : Ent) : List V := [.int (e.1 : Int), .int (e.2.1 : Int), .bl e.2.2]
def EntAt (H : Hp) (y : V) (e : Ent) : Prop := ∃ p, y = .ref p ∧ H p = some (.tup (entV e))
def EntOk (e : Ent) : Prop := e.1 ≤ 10 ^ 30 ∧ e.2.1 ≤ 10 ^ 30
theorem EntAt.same {H H' : Hp} {y : V} {e : Ent} (h : EntAt H y e) (s : Same H H') : EntAt H' y e := by
  obtain ⟨p, h1, h2⟩ := h
  exact ⟨p, h1, s _ _ h2⟩
abbrev EntsAt (H : Hp) (ys : List V) (es : List Ent) : Prop := Paired (EntAt H) ys es
theorem EntsAt.same {H H' : Hp} {ys : List V} {es : List Ent} (h : EntsAt H ys es) (s : Same H H') : EntsAt H' ys es := Paired.mapP h fun _ _ z => z.same s
def LogAt (K : PySem.W.Frag) (H : Hp) (p : Addr) (es : List Ent) : Prop := ∃ dx t ys, H p = some (.ins (He.ga K "Log") dx [("entries", .ref t)]) ∧ H t = some (.tup ys) ∧ EntsAt H ys es
theorem LogAt.same {K : PySem.W.Frag} {H H' : Hp} {p : Addr} {es : List Ent} (h : LogAt K H p es) (s : Same H H') : LogAt K H' p es := by
  obtain ⟨dx, t, ys, h1, h2, h3⟩ := h
  exact ⟨dx, t, ys, s _ _ h1, s _ _ h2, h3.same s⟩
theorem kit_tup {K : PySem.W.Frag} : PySem.W.kitOne K (.type "tuple") (.type "tuple") = some true := kit_ty (by decide +kernel)
theorem kit_bool {K : PySem.W.Frag} : PySem.W.kitOne K (.type "bool") (.type "bool") = some true := kit_ty (by decide +kernel)
section
variable {K : PySem.W.Frag} {mg : Str → Option Value} {base : Heap} {P : Program} {w : World}
def sp_is_entry : Sp := fun vs H Q _ => ∃ (y : V) (e : Ent), vs = [y] ∧ EntAt H y e ∧ EntOk e ∧ Q (.bl true) H
theorem sc_is_entry : FnScope ["value"] ["value"] (defScope sis_entry) := ⟨rfl, rfl, rfl, by decide +kernel, rfl, by decide +kernel, by decide +kernel⟩
theorem ok_is_entry (T : Tx K mg) : Fnc P w K mg base 3 "is_entry" (He.ga K "is_entry") ["value"] sp_is_entry := by
  have c_is_within := ok_is_within (P := P) (w := w) (base := base) T
  refine fnc_of T.fis_entry T.g_is_entry sc_is_entry (fun _ _ _ _ _ _ us hl => match us, hl with | [_], _ => rfl) (fun vs H Q E h => ?_) (fun cdv A outer s H vs Q E hr h => ?_)
  · obtain ⟨y, e, rfl, _⟩ := h
    rfl
  · obtain ⟨y, e, rfl, ⟨p, rfl, hp⟩, ⟨l1, l2⟩, k⟩ := h
    refine ⟨_, (pss_cons (ps_if (PW.pt (pw_or (pt_not (pt_val (pe_callB call_isi (by rfl) T.b_isinstance (by decide +kernel) (pa_cons (pv 0) (pa_cons (pe_bltn (v := .ty "tuple") (by rfl) T.b_tuple (by decide +kernel) rfl) pa_nil))))) (pw_or (pt_cmpR op_ne (pe_callB call_lenI (by rfl) T.b_len (by decide +kernel) (pa_cons (pv 0) pa_nil)) pe_int (nomark _)) (pw_or1 (pt_not (pt_val (pe_callB call_isi (by rfl) T.b_isinstance (by decide +kernel) (pa_cons (pe_ix ix_I (pv 0) pe_int (fun _ _ => rfl)) (pa_cons (pe_bltn (v := .ty "bool") (by rfl) T.b_bool (by decide +kernel) rfl) pa_nil))))))))) (pss_one (ps_ret pe_bl)) pss_nil)
      (pss_one (ps_ret (pe_and (pe_f c_is_within (hr.mono (by decide)) (pa_cons (pe_ix ix_I (pv 0) pe_int (fun _ _ => rfl)) (pa_cons pe_int (pa_cons (pe_gi (by rfl) T.i_MOST_ADDRESS) pa_nil)))) (pe_one (pe_f c_is_within (hr.mono (by decide)) (pa_cons (pe_ix ix_I (pv 0) pe_int (fun _ _ => rfl)) (pa_cons pe_int (pa_cons (pe_gi (by rfl) T.i_MOST_ADDRESS) pa_nil))))))))), ?_⟩
    have hp' : H p = some (.tup [.int (e.1 : Int), .int (e.2.1 : Int), .bl e.2.2]) := hp
    refine ⟨_, rfl, _, _, _, _, _, rfl, .ty _, SqT.tyx (SqT.of hp'), kit_tup, true, rfl, iteF ?_⟩
    refine ⟨_, rfl, p, _, rfl, .inr hp', rfl, _, rfl, niT rfl ?_⟩
    refine ⟨_, rfl, p, _, (2 : Int), _, rfl, rfl, .inr hp', rfl, _, _, _, _, _, rfl, .ty _, .base (.bl _), kit_bool, true, rfl, iteF ?_⟩
    refine ⟨_, rfl, p, _, (0 : Int), _, rfl, rfl, .inr hp', rfl, _, _, _, rfl, ?_⟩
    have b1 : decide ((0 : Int) ≤ (e.1 : Int) ∧ (e.1 : Int) ≤ 1000000000000000000000000000000) = true := decide_eq_true ⟨by omega, by omega⟩
    have b2 : decide ((0 : Int) ≤ (e.2.1 : Int) ∧ (e.2.1 : Int) ≤ 1000000000000000000000000000000) = true := decide_eq_true ⟨by omega, by omega⟩
    rw [b1]
    refine ⟨_, rfl, iteT ?_⟩
    refine ⟨_, rfl, p, _, (1 : Int), _, rfl, rfl, .inr hp', rfl, _, _, _, rfl, ?_⟩
    rw [b2]
    exact k
/-- an __init__ with *entries -/
def sp_Log_init0 (K : PySem.W.Frag) : Sp := fun vs H Q _ => ∃ (p dx t : Addr) (ys : List V) (es : List Ent), vs = [.ref p, .ref t] ∧ H p = some (.ins (He.ga K "Log") dx []) ∧ H t = some (.tup ys) ∧ ys.length ≤ 100000 ∧ EntsAt H ys es ∧ (∀ e ∈ es, EntOk e) ∧
  ∀ H', (∀ b o, b ≠ p → H b = some o → H' b = some o) → H' p = some (.ins (He.ga K "Log") dx [("entries", .ref t)]) → Q .non H'
def sp_Log_init (K : PySem.W.Frag) : Sp := fun vs H Q E => ∃ ws rest, vs = ws ++ rest ∧ ws.length = ["self"].length ∧ rest.length ≤ sizeLine ∧ ∀ p, H p = Option.none → sp_Log_init0 K (ws ++ [V.ref p]) (upd H p (.tup rest)) Q E
theorem sc_Log_init : FnScope ["self", "entries", "at", "entry"] ["self", "entries"] (defScope sLog_init) := ⟨rfl, rfl, rfl, by decide +kernel, rfl, by decide +kernel, by decide +kernel⟩
theorem ok_Log_init (T : Tx K mg) : MkrR P w K mg base 4 "Log" (He.ga K "Log") (He.ma K (He.ga K "Log") "__init__") (sp_Log_init K) := by
  have c_is_entry := ok_is_entry (P := P) (w := w) (base := base) T
  refine mkrR_of (p1 := "self") (pv := "entries") T.fLog_init sc_Log_init T.mk_Log T.g_Log (fun kV doc pm an cdv ct => bind_star1 (B := fun us => bindArgs (PySem.W.fnOf "__init__" "Log.__init__" (defArgs sLog_init) (defBody sLog_init) (defScope sLog_init) .none kV doc pm an cdv ct) ⟨us, []⟩) (fun _ => rfl) fun _ _ _ => rfl) (fun cdv A outer s H vs Q E hr h => ?_)
  · obtain ⟨p, dx, t, ys, es, rfl, hp, ht, zl, pr, ok, k⟩ := h
    have npt : p ≠ t := fun z => by rw [z, ht] at hp; cases hp
    refine ⟨_, (pss_cons (ps_for PassesOwn.never rfl (pi_enumK (by rfl) T.b_enumerate (pa_cons (pv 1) pa_nil)) (pg_tup rfl (pgs_cons (pg_name (i := 2) sc_Log_init.nd rfl (Or.inl rfl)) (pgs_cons (pg_name (i := 3) sc_Log_init.nd rfl (Or.inl rfl)) pgs_nil)))
        (pss_one (ps_if (pt_not (pt_val (pe_f c_is_entry (hr.mono (by decide)) (pa_cons (pv 3) pa_nil)))) (pss_one ps_never) pss_nil)))
      (pss_one (ps_fld (pv 0) (pv 1) rfl))), ?_⟩
    refine ⟨_, rfl, t, ys, false, rfl, SqK.t ht, ?_⟩
    refine for_rows (fun i σ H' => Same H H' ∧ ∃ (v w : Option V), σ = [some (.ref p), some (.ref t), v, w]) ⟨Same.refl _, none, none, rfl⟩ (fun i σ H' q => SqK.t (q.1 _ _ ht)) ?_ ?_
    · rintro i q σ H' hi ⟨s, v, w, rfl⟩ hq
      have s2 : Same H' (upd H' q (.tup (rowsE ys i))) := Same.put hq
      obtain ⟨e, he, hy⟩ := paired_at pr (List.getElem?_eq_getElem hi)
      have ey : ys.getD i .non = ys[i] := by rw [List.getD_eq_getElem?_getD, List.getElem?_eq_getElem hi]; rfl
      refine ⟨q, _, rfl, SqT.of upd_same, rfl, _, _, rfl, _, _, rfl, rfl, ?_⟩
      rw [ey]
      refine ⟨_, rfl, ys[i], e, rfl, (hy.same s).same s2, ok e (List.mem_of_getElem? he), true, rfl, iteF ?_⟩
      exact ⟨s.trans s2, _, _, rfl⟩
    · rintro σ H' ⟨s, v, w, rfl⟩
      refine ⟨_, rfl, _, rfl, p, _, dx, _, rfl, s _ _ hp, T.c_Log, T.n_Log_entries, by decide, ?_⟩
      refine k _ (fun b o hb e => ?_) upd_same
      rw [upd_ne hb]
      exact s _ _ e
end
end K70
-- K70F13
namespace K70
open L2 PySem PySem.Spec PyProof.Rows StX
section
variable {K : PySem.W.Frag} {mg : Str → Option Value} {base : Heap} {P : Program} {w : World}
def sp_Log_len (K : PySem.W.Frag) : Sp := fun vs H Q _ => ∃ (p : Addr) (es : List Ent), vs = [.ref p] ∧ LogAt K H p es ∧ Q (.int (es.length : Nat)) H
theorem sc_Log_len : FnScope ["self"] ["self"] (defScope sLog_len) := ⟨rfl, rfl, rfl, by decide +kernel, rfl, by decide +kernel, by decide +kernel⟩
theorem ok_Log_len (T : Tx K mg) : Mtd P w K mg base 1 (He.ga K "Log") "__len__" (He.ma K (He.ga K "Log") "__len__") ["self"] (sp_Log_len K) := by
  refine mtd_of T.fLog_len T.m_Log_len T.c_Log sc_Log_len (fun _ _ _ _ _ _ us hl => match us, hl with | [_], _ => rfl) (fun vs H Q E h => ?_) (fun cdv A outer s H vs Q E hr h => ?_)
  · obtain ⟨p, es, rfl, _⟩ := h
    rfl
  · obtain ⟨p, es, rfl, ⟨dx, t, ys, hp, ht, pr⟩, k⟩ := h
    refine ⟨_, (pss_one (ps_ret (pe_callB call_lenI (by rfl) T.b_len (by decide +kernel) (pa_cons (pe_fld (pv 0) rfl) pa_nil)))), ?_⟩
    refine ⟨_, rfl, p, _, dx, _, _, rfl, hp, T.c_Log, T.n_Log_entries, rfl, t, ys, rfl, .inr ht, ?_⟩
    rw [Paired.length pr]
    exact k
theorem sc_Log_iter : FnScope ["self"] ["self"] (defScope sLog_iter) := ⟨rfl, rfl, rfl, by decide +kernel, rfl, by decide +kernel, by decide +kernel⟩
theorem ok_Log_iter (T : Tx K mg) : FnS P w K mg base 1 (He.ma K (He.ga K "Log") "__iter__") (spIter (He.ga K "Log") "entries") := by
  refine fnS_of T.fLog_iter sc_Log_iter (fun _ _ _ _ _ _ us hl => match us, hl with | [_], _ => rfl) (fun outer s vs H Q E h => ?_) (fun cdv A outer s H vs Q E hr h => ?_)
  · obtain ⟨a, dx, fs, t, ys, rfl, _⟩ := h
    rfl
  · obtain ⟨a, dx, fs, t, ys, rfl, ha, hl, ht, k⟩ := h
    refine ⟨_, (pss_one (ps_ret (pe_callB call_iterT (by rfl) T.b_iter (by decide +kernel) (pa_cons (pe_fld (pv 0) rfl) pa_nil)))), ?_⟩
    exact ⟨_, rfl, a, _, dx, _, _, rfl, ha, T.c_Log, T.n_Log_entries, hl, t, ys, rfl, ht, k⟩
def sp_need_shape (K : PySem.W.Frag) : Sp := fun vs H Q _ => ∃ (p : Addr) (dx : Addr) (fs : List (Str × V)), vs = [.ref p] ∧ H p = some (.ins (He.ga K "Shape") dx fs) ∧ Q .non H
theorem sc_need_shape : FnScope ["shape"] ["shape"] (defScope sneed_shape) := ⟨rfl, rfl, rfl, by decide +kernel, rfl, by decide +kernel, by decide +kernel⟩
theorem ok_need_shape (T : Tx K mg) : Fnc P w K mg base 1 "need_shape" (He.ga K "need_shape") ["shape"] (sp_need_shape K) := by
  refine fnc_of T.fneed_shape T.g_need_shape sc_need_shape (fun _ _ _ _ _ _ us hl => match us, hl with | [_], _ => rfl) (fun vs H Q E h => ?_) (fun cdv A outer s H vs Q E hr h => ?_)
  · obtain ⟨p, dx, fs, rfl, _⟩ := h
    rfl
  · obtain ⟨p, dx, fs, rfl, hp, k⟩ := h
    refine ⟨_, (pss_one (ps_if (pt_not (pt_val (pe_callB call_isi (by rfl) T.b_isinstance (by decide +kernel) (pa_cons (pv 0) (pa_cons (pe_glob (v := .ref (He.ga K "Shape")) (by rfl) T.g_Shape rfl) pa_nil))))) (pss_one ps_never) pss_nil)), ?_⟩
    exact ⟨_, rfl, _, _, _, _, _, rfl, .own _, T.ty_Shape hp, kit_same, true, rfl, iteF k⟩
def sp_need_log (K : PySem.W.Frag) : Sp := fun vs H Q _ => ∃ (p : Addr) (dx : Addr) (fs : List (Str × V)), vs = [.ref p] ∧ H p = some (.ins (He.ga K "Log") dx fs) ∧ Q .non H
theorem sc_need_log : FnScope ["log"] ["log"] (defScope sneed_log) := ⟨rfl, rfl, rfl, by decide +kernel, rfl, by decide +kernel, by decide +kernel⟩
theorem ok_need_log (T : Tx K mg) : Fnc P w K mg base 1 "need_log" (He.ga K "need_log") ["log"] (sp_need_log K) := by
  refine fnc_of T.fneed_log T.g_need_log sc_need_log (fun _ _ _ _ _ _ us hl => match us, hl with | [_], _ => rfl) (fun vs H Q E h => ?_) (fun cdv A outer s H vs Q E hr h => ?_)
  · obtain ⟨p, dx, fs, rfl, _⟩ := h
    rfl
  · obtain ⟨p, dx, fs, rfl, hp, k⟩ := h
    refine ⟨_, (pss_one (ps_if (pt_not (pt_val (pe_callB call_isi (by rfl) T.b_isinstance (by decide +kernel) (pa_cons (pv 0) (pa_cons (pe_glob (v := .ref (He.ga K "Log")) (by rfl) T.g_Log rfl) pa_nil))))) (pss_one ps_never) pss_nil)), ?_⟩
    exact ⟨_, rfl, _, _, _, _, _, rfl, .own _, T.ty_Log hp, kit_same, true, rfl, iteF k⟩
def sp_Found_init (K : PySem.W.Frag) : Sp := fun vs H Q _ => ∃ (p dx : Addr) (v u : V), vs = [.ref p, v, u] ∧ H p = some (.ins (He.ga K "Found") dx []) ∧
  ∀ H', (∀ b o, b ≠ p → H b = some o → H' b = some o) → H' p = some (.ins (He.ga K "Found") dx [("rule", v), ("log", u)]) → Q .non H'
theorem sc_Found_init : FnScope ["self", "rule", "log"] ["self", "rule", "log"] (defScope sFound_init) := ⟨rfl, rfl, rfl, by decide +kernel, rfl, by decide +kernel, by decide +kernel⟩
theorem ok_Found_init (T : Tx K mg) : Mkr P w K mg base 1 "Found" (He.ga K "Found") (He.ma K (He.ga K "Found") "__init__") ["self", "rule", "log"] (sp_Found_init K) := by
  refine ⟨ok_of T.fFound_init sc_Found_init (fun _ _ _ _ _ _ us hl => match us, hl with | [_, _, _], _ => rfl) (fun vs H Q E h => ?_) (fun cdv A outer s H vs Q E hr h => ?_), T.mk_Found, T.g_Found⟩
  · obtain ⟨p, dx, v, u, rfl, _⟩ := h
    rfl
  · obtain ⟨p, dx, v, u, rfl, hp, k⟩ := h
    refine ⟨_, (pss_cons (ps_fld (pv 0) (pv 1) rfl)
      (pss_one (ps_fld (pv 0) (pv 2) rfl))), ?_⟩
    refine ⟨_, rfl, _, rfl, p, _, dx, _, rfl, hp, T.c_Found, T.n_Found_rule, by decide, ?_⟩
    refine ⟨_, rfl, _, rfl, p, _, dx, _, rfl, upd_same, T.c_Found, T.n_Found_log, (show (1 : Nat) < 1000 by decide), ?_⟩
    refine k _ (fun b o hb e => ?_) upd_same
    rw [upd_ne hb, upd_ne hb]
    exact e
/-- banks ^ places ≤ 5000 -/
def sp_has_few : Sp := fun vs H Q _ => ∃ (b n : Nat), vs = [.int (b : Int), .int (n : Int)] ∧ 2 ≤ b ∧ b ^ n ≤ 5000 ∧ Q (.bl true) H
theorem sc_has_few : FnScope ["banks", "places", "found", "place"] ["banks", "places"] (defScope shas_few) := ⟨rfl, rfl, rfl, by decide +kernel, rfl, by decide +kernel, by decide +kernel⟩
theorem ok_has_few (T : Tx K mg) : Fnc P w K mg base 1 "has_few" (He.ga K "has_few") ["banks", "places"] sp_has_few := by
  refine fnc_of T.fhas_few T.g_has_few sc_has_few (fun _ _ _ _ _ _ us hl => match us, hl with | [_, _], _ => rfl) (fun vs H Q E h => ?_) (fun cdv A outer s H vs Q E hr h => ?_)
  · obtain ⟨b, n, rfl, _⟩ := h
    rfl
  · obtain ⟨b, n, rfl, hb, few, k⟩ := h
    refine ⟨_, (pss_cons (ps_set (i := 2) sc_has_few.nd rfl (Or.inl rfl) pe_int)
      (pss_cons (ps_for PassesOwn.never rfl (pi_range1 (by rfl) T.b_range (pa_cons (pv 1) pa_nil)) (pg_name (i := 3) sc_has_few.nd rfl (Or.inl rfl))
        (pss_cons (ps_set (i := 2) sc_has_few.nd rfl (Or.inl rfl) (pe_op op_mul (pv 2) (pv 0)))
      (pss_one (ps_if (pt_cmpR op_gt (pv 2) (pe_gi (by rfl) T.i_MOST_RULES) (nomark _)) (pss_one (ps_ret pe_bl)) pss_nil))))
      ((pss_one (ps_ret pe_bl))))), ?_⟩
    have hn : n ≤ 5000 := Nat.le_trans (Nat.le_of_lt Nat.lt_two_pow_self) (Nat.le_trans (Nat.pow_le_pow_left hb n) few)
    refine ⟨_, rfl, ?_⟩
    refine ⟨n, rfl, by omega, by omega, ?_⟩
    refine for_range (lo := 0) (n := n) (fun i σ H' => H' = H ∧ ∃ v, σ = [some (.int (b : Int)), some (.int (n : Int)), some (.int ((b ^ i : Nat) : Int)), v]) ⟨rfl, none, rfl⟩ ?_ ?_
    · rintro i σ H' hi ⟨rfl, v, rfl⟩
      have l1 : b ^ (i + 1) ≤ 5000 := Nat.le_trans (Nat.pow_le_pow_right (by omega) hi) few
      have l0 : b ≤ 5000 := by
        have q : b ^ 1 ≤ b ^ (i + 1) := Nat.pow_le_pow_right (by omega) (by omega)
        rw [Nat.pow_one] at q
        omega
      refine ⟨_, rfl, _, rfl, _, _, rfl, rfl, .inr ⟨by omega, by omega⟩, ?_⟩
      have e : ((b ^ i : Nat) : Int) * (b : Int) = ((b ^ (i + 1) : Nat) : Int) := by rw [Nat.pow_succ, Int.natCast_mul]
      (refine ⟨_, rfl, _, _, rfl, rfl, _, rfl, ?_⟩)
      refine itF (by rw [e]; omega) ?_
      exact ⟨rfl, some (.int (0 + (i : Int))), by rw [← e]; rfl⟩
    · rintro σ H' ⟨rfl, v, rfl⟩
      exact k
/-- the first entry that is not so -/
def entIs (r : PR) (e : Ent) : Bool := decide ((bankI r.m (wtR r) e.1 = bankI r.m (wtR r) e.2.1)) == e.2.2
def sp_Log_first_against (K : PySem.W.Frag) : Sp := fun vs H Q _ => ∃ (p q : Addr) (es : List Ent) (r : PR), vs = [.ref p, .ref q] ∧ LogAt K H p es ∧ (∀ e ∈ es, EntOk e) ∧ es.length ≤ 100000 ∧ RuleAt K H q r ∧ ROk r ∧
  ∀ H', Same H H' → (if es.all (entIs r) = true then Q .non H' else ∀ i : Nat, Q (.int (i : Int)) H')
theorem mtd_run {k : Nat} {C f : Addr} {m : Str} {ps : List Str} {sp : Sp} (c : Mtd P w K mg base k C m f ps sp) : FnR P w K mg base CX0 k f sp := by
  obtain ⟨fd, F, b⟩ := c.ex
  exact (F.raw b .nil).imp fun vs H Q E h => by rw [List.append_nil]; exact h
theorem rule_callO (T : Tx K mg) : CallO K (He.ga K "Rule") (He.ma K (He.ga K "Rule") "__call__") := by
  refine ⟨T.m_Rule_call.at_, T.m_Rule_call.fn, ?_⟩
  obtain ⟨fd, F⟩ := T.fRule_call
  obtain ⟨oc, od, dV, kV, doc, pm, an, cdv, ct, osl, rfl, lk, _⟩ := F.ex
  unfold PySem.W.fnIn
  rw [lk]
theorem sc_Log_first_against : FnScope ["self", "rule", "at", "entry"] ["self", "rule"] (defScope sLog_first_against) := ⟨rfl, rfl, rfl, by decide +kernel, rfl, by decide +kernel, by decide +kernel⟩
theorem ok_Log_first_against (T : Tx K mg) : Mtd P w K mg base 5 (He.ga K "Log") "first_against" (He.ma K (He.ga K "Log") "first_against") ["self", "rule"] (sp_Log_first_against K) := by
  have c_need_rule := ok_need_rule (P := P) (w := w) (base := base) T
  have c_call := ok_Rule_call (P := P) (w := w) (base := base) T
  refine mtd_of T.fLog_first_against T.m_Log_first_against T.c_Log sc_Log_first_against (fun _ _ _ _ _ _ us hl => match us, hl with | [_, _], _ => rfl) (fun vs H Q E h => ?_) (fun cdv A outer s H vs Q E hr h => ?_)
  · obtain ⟨p, q, es, r, rfl, _⟩ := h
    rfl
  · obtain ⟨p, q, es, r, rfl, ⟨dx, t, ys, hp, ht, pr⟩, oke, zl, hR, ok, k⟩ := h
    have hR' := hR
    obtain ⟨dr, m, a, tt, hq, hm, ha, htt⟩ := hR'
    have zy : ys.length = es.length := Paired.length pr
    refine ⟨_, (pss_cons (ps_expr (pe_f c_need_rule (hr.mono (by decide)) (pa_cons (pv 1) (pa_cons pe_str pa_nil))))
      (pss_cons (ps_for PassesOwn.never rfl (pi_enumK (by rfl) T.b_enumerate (pa_cons (pe_fld (pv 0) rfl) pa_nil)) (pg_tup rfl (pgs_cons (pg_name (i := 2) sc_Log_first_against.nd rfl (Or.inl rfl)) (pgs_cons (pg_name (i := 3) sc_Log_first_against.nd rfl (Or.inl rfl)) pgs_nil)))
        (pss_one (ps_if (pt_cmpR op_ne (pe_cmpR op_eq (pe_callO (pv 1) (rule_callO T) (mtd_run c_call) (hr.mono (by decide)) pass0 (pa_cons (pe_ix ix_I (pv 3) pe_int (fun _ _ => rfl)) pa_nil)) (pe_callO (pv 1) (rule_callO T) (mtd_run c_call) (hr.mono (by decide)) pass0 (pa_cons (pe_ix ix_I (pv 3) pe_int (fun _ _ => rfl)) pa_nil)) (nomark _)) (pe_ix ix_I (pv 3) pe_int (fun _ _ => rfl)) (nomark _)) (pss_one (ps_ret (pv 2))) pss_nil)))
      (pss_one (ps_ret pe_non)))), ?_⟩
    refine ⟨_, rfl, q, _, dr, _, rfl, hq, ?_⟩
    refine ⟨_, rfl, p, _, dx, _, _, rfl, hp, T.c_Log, T.n_Log_entries, rfl, t, ys, false, rfl, SqK.t ht, ?_⟩
    refine for_rows (fun i σ H' => Same H H' ∧ (es.take i).all (entIs r) = true ∧ ∃ (v w : Option V), σ = [some (.ref p), some (.ref q), v, w]) ⟨Same.refl _, rfl, none, none, rfl⟩ (fun i σ H' z => SqK.t (z.1 _ _ ht)) ?_ ?_
    · rintro i o σ H' hi ⟨s, al, v, w, rfl⟩ ho
      have s2 : Same H' (upd H' o (.tup (rowsE ys i))) := Same.put ho
      have hie : i < es.length := by omega
      obtain ⟨e, he, hy⟩ := paired_at pr (List.getElem?_eq_getElem hi)
      have oe := oke e (List.mem_of_getElem? he)
      obtain ⟨pe, epe, hpe⟩ := (hy.same s).same s2
      have ey : ys.getD i .non = .ref pe := by rw [List.getD_eq_getElem?_getD, List.getElem?_eq_getElem hi]; exact epe
      have S2 := s.trans s2
      refine ⟨o, _, rfl, SqT.of upd_same, rfl, _, _, rfl, _, _, rfl, rfl, ?_⟩
      rw [ey]
      generalize hH2 : upd H' o (.tup (rowsE ys i)) = H2 at *
      have big : ∀ n : Nat, n ≤ 10 ^ 30 → n < 2 ^ 1000 := fun n h => Nat.lt_of_le_of_lt h (Nat.lt_of_lt_of_le (by decide : 10 ^ 30 < 2 ^ 100) (Nat.pow_le_pow_right (by decide) (by decide)))
      refine ⟨_, rfl, q, rfl, _, rfl, pe, _, (0 : Int), _, rfl, rfl, .inr hpe, rfl, .inr ⟨dr, _, S2 _ _ hq⟩, q, r, e.1, rfl, hR.same S2, ok, big _ oe.1, fun H3 s3 => ?_⟩
      refine ⟨_, rfl, q, rfl, _, rfl, pe, _, (1 : Int), _, rfl, rfl, .inr (s3 _ _ hpe), rfl, .inr ⟨dr, _, s3 _ _ (S2 _ _ hq)⟩, q, r, e.2.1, rfl, (hR.same S2).same s3, ok, big _ oe.2, fun H4 s4 => ?_⟩
      refine ⟨rfl, _, rfl, pe, _, (2 : Int), _, rfl, rfl, .inr (s4 _ _ (s3 _ _ hpe)), rfl, rfl, _, rfl, ?_⟩
      have S4 := S2.trans (s3.trans s4)
      have eq : (decide (V.bl (decide (V.int (bankI r.m (wtR r) e.1) = V.int (bankI r.m (wtR r) e.2.1))) = V.bl e.2.2)) = entIs r e := by
        rw [dec_bl, dec_int]
        unfold entIs
        by_cases z : bankI r.m (wtR r) e.1 = bankI r.m (wtR r) e.2.1
        · rw [decide_eq_true z, z]
          simp
        · rw [decide_eq_false z, beq_false_of_ne z]
      rw [eq]
      cases he2 : entIs r e with
      | true =>
        refine iteF ⟨S4, ?_, _, _, rfl⟩
        rw [take_snoc he, List.all_append, al]
        simp [he2]
      | false =>
        refine iteT ?_
        have k' := k H4 S4
        have nal : ¬ es.all (entIs r) = true := fun z => by
          have := List.all_eq_true.mp z e (List.mem_of_getElem? he)
          rw [he2] at this
          cases this
        rw [if_neg nal] at k'
        exact ⟨_, rfl, k' i⟩
    · rintro σ H' ⟨s, al, v, w, rfl⟩
      have ea : es.all (entIs r) = true := by
        rw [zy, List.take_length] at al
        exact al
      have k' := k H' s
      rw [if_pos ea] at k'
      exact k'
end
end K70
-- K70F14
namespace K70
open L2 PySem PySem.Spec PyProof.Rows StX
theorem made_same {H : Hp} {x dx C : Addr} {o : HO} (hx : H x = none) (hd : H dx = none) : Same H (upd (upd H dx (.own x)) x o) := (Same.put hd).set hx
theorem log_made {K : PySem.W.Frag} {H : Hp} {x dx : Addr} {ys : List V} {es : List Ent} {Q : VK} {E : XK} (hx : H x = none) (hd : H dx = none) (ne : dx ≠ x) (zl : ys.length ≤ 100000) (pr : EntsAt H ys es) (ok : ∀ e ∈ es, EntOk e)
    (k : ∀ H', Same H H' → LogAt K H' x es → Q .non H') : sp_Log_init K (V.ref x :: ys) (upd (upd H dx (.own x)) x (.ins (He.ga K "Log") dx [])) Q E := by
  have s1 : Same H (upd (upd H dx (.own x)) x (.ins (He.ga K "Log") dx [])) := made_same (C := 0) hx hd
  have h0 : upd (upd H dx (.own x)) x (.ins (He.ga K "Log") dx []) x = some (.ins (He.ga K "Log") dx []) := upd_same
  generalize upd (upd H dx (.own x)) x (.ins (He.ga K "Log") dx []) = H1 at *
  refine ⟨[.ref x], ys, rfl, rfl, by rw [sizeLine_eq]; omega, fun t ht => ?_⟩
  have ntx : t ≠ x := fun z => by rw [z, h0] at ht; cases ht
  have s2 : Same H1 (upd H1 t (.tup ys)) := Same.put ht
  refine ⟨x, dx, t, ys, es, rfl, s2 _ _ h0, upd_same, zl, (pr.same s1).same s2, ok, fun H' st hp => ?_⟩
  have s3 : Same H H' := fun b o e => st b o (ne_of_none e hx) (s2 _ _ (s1 _ _ e))
  exact k H' s3 ⟨dx, t, ys, hp, st t _ ntx upd_same, pr.same s3⟩
theorem found_made {K : PySem.W.Frag} {H : Hp} {x dx : Addr} {v u : V} {Q : VK} {E : XK} (hx : H x = none) (hd : H dx = none) (ne : dx ≠ x)
    (k : ∀ H', Same H H' → H' x = some (.ins (He.ga K "Found") dx [("rule", v), ("log", u)]) → Q .non H') : sp_Found_init K [V.ref x, v, u] (upd (upd H dx (.own x)) x (.ins (He.ga K "Found") dx [])) Q E := by
  have s1 : Same H (upd (upd H dx (.own x)) x (.ins (He.ga K "Found") dx [])) := made_same (C := 0) hx hd
  exact ⟨x, dx, v, u, rfl, upd_same, fun H' st hp => k H' (fun b o e => st b o (ne_of_none e hx) (s1 _ _ e)) hp⟩
theorem rule_made {K : PySem.W.Frag} {H : Hp} {x dx m u t : Addr} {M U W : List Int} {Q : VK} {E : XK} (hx : H x = none) (hd : H dx = none) (ne : dx ≠ x) (hm : TpI H m M) (ok : ModOk M) (hu : SqI H u (IV U)) (ht : SqI H t (IV W)) (bu : BanksIn (prodI M) U) (bt : BanksIn (prodI M) W) (n0 : W ≠ []) (few : U.length + W.length ≤ 24)
    (k : ∀ H', Same H H' → RuleAt K H' x (mkR M U W) → Q .non H') : sp_Rule_init K [V.ref x, .ref m, .ref u, .ref t] (upd (upd H dx (.own x)) x (.ins (He.ga K "Rule") dx [])) Q E := by
  have s1 : Same H (upd (upd H dx (.own x)) x (.ins (He.ga K "Rule") dx [])) := made_same (C := 0) hx hd
  refine ⟨x, dx, m, u, t, M, U, W, rfl, upd_same, hm.same s1, ok, hu.same s1, ht.same s1, bu, bt, n0, few, fun H' st hp => ?_⟩
  exact k H' (fun b o e => st b o (ne_of_none e hx) (s1 _ _ e)) hp
section
variable {K : PySem.W.Frag} {mg : Str → Option Value} {base : Heap} {P : Program} {w : World}
def sp_Log_add (K : PySem.W.Frag) : Sp := fun vs H Q _ => ∃ (p q : Addr) (es fs : List Ent), vs = [.ref p, .ref q] ∧ LogAt K H p es ∧ LogAt K H q fs ∧ (∀ e ∈ es ++ fs, EntOk e) ∧ (es ++ fs).length ≤ 100000 ∧ ∀ H' v, Same H H' → H v = none → LogAt K H' v (es ++ fs) → Q (.ref v) H'
theorem sc_Log_add : FnScope ["self", "other"] ["self", "other"] (defScope sLog_add) := ⟨rfl, rfl, rfl, by decide +kernel, rfl, by decide +kernel, by decide +kernel⟩
theorem ok_Log_add (T : Tx K mg) : Mtd P w K mg base 6 (He.ga K "Log") "__add__" (He.ma K (He.ga K "Log") "__add__") ["self", "other"] (sp_Log_add K) := by
  refine mtd_of T.fLog_add T.m_Log_add T.c_Log sc_Log_add (fun _ _ _ _ _ _ us hl => match us, hl with | [_, _], _ => rfl) (fun vs H Q E h => ?_) (fun cdv A outer s H vs Q E hr h => ?_)
  · obtain ⟨p, q, es, fs, rfl, _⟩ := h
    rfl
  · obtain ⟨p, q, es, fs, rfl, ⟨dx, t, ys, hp, ht, pr⟩, ⟨dy, u, zs, hq, hu, pr2⟩, ok, zl, k⟩ := h
    have c_Log := ok_Log_init (P := P) (w := w) (base := base) T
    refine ⟨_, (pss_cons (ps_if (pt_not (pt_val (pe_callB call_isi (by rfl) T.b_isinstance (by decide +kernel) (pa_cons (pv 1) (pa_cons (pe_glob (v := .ref (He.ga K "Log")) (by rfl) T.g_Log rfl) pa_nil))))) (pss_one ps_never) pss_nil)
      (pss_one (ps_ret (pe_mkRS2 c_Log (hr.mono (by decide)) (pa_star (pe_fld (pv 0) rfl) (pa_star (pe_fld (pv 1) rfl) pa_nil)))))), ?_⟩
    refine ⟨_, rfl, _, _, _, _, _, rfl, .own _, T.ty_Log hq, kit_same, true, rfl, iteF ?_⟩
    refine ⟨_, rfl, p, _, dx, _, _, rfl, hp, T.c_Log, T.n_Log_entries, rfl, t, ys, rfl, .inl (SqT.of ht), _, rfl, q, _, dy, _, _, rfl, hq, T.c_Log, T.n_Log_entries, rfl, u, zs, rfl, .inl (SqT.of hu), fun x dx hx hd ne => ?_⟩
    rw [List.append_nil]
    refine log_made hx hd ne ?_ (paired_app pr pr2) ok fun H' s h => ⟨rfl, k H' x s hx h⟩
    rw [List.length_append, Paired.length pr, Paired.length pr2, ← List.length_append]
    exact zl
end
end K70
-- K70F15
namespace K70
open L2 PySem PySem.Spec PyProof.Rows StX
/-! ### shapes -/
abbrev RulesAt (K : PySem.W.Frag) (H : Hp) (ys : List V) (rs : List PR) : Prop := Paired (fun y r => ∃ q, y = V.ref q ∧ RuleAt K H q r) ys rs
theorem RulesAt.same {K : PySem.W.Frag} {H H' : Hp} {ys : List V} {rs : List PR} (h : RulesAt K H ys rs) (s : Same H H') : RulesAt K H' ys rs := Paired.mapP h fun _ _ z => by
  obtain ⟨q, e, z⟩ := z
  exact ⟨q, e, z.same s⟩
structure Sh where
  m : List Int
  a : Nat
  t : Nat
  rs : List PR
def shf (m o : Addr) (a t : Nat) : List (Str × V) := [("moduli", .ref m), ("ahead", .int (a : Int)), ("turn", .int (t : Int)), ("own_rules", .ref o)]
def ShapeAt (K : PySem.W.Frag) (H : Hp) (p : Addr) (s : Sh) : Prop := ∃ dx m o ys, H p = some (.ins (He.ga K "Shape") dx (shf m o s.a s.t)) ∧ TpI H m s.m ∧ H o = some (.tup ys) ∧ RulesAt K H ys s.rs
theorem ShapeAt.same {K : PySem.W.Frag} {H H' : Hp} {p : Addr} {x : Sh} (h : ShapeAt K H p x) (s : Same H H') : ShapeAt K H' p x := by
  obtain ⟨dx, m, o, ys, h1, h2, h3, h4⟩ := h
  exact ⟨dx, m, o, ys, s _ _ h1, h2.same s, s _ _ h3, h4.same s⟩
/-- a rule is of a shape -/
def inSh (s : Sh) (r : PR) : Bool := decide (r.m = s.m) && decide (r.a.length ≤ s.a) && decide (s.t % r.t.length = 0)
section
variable {K : PySem.W.Frag} {mg : Str → Option Value} {base : Heap} {P : Program} {w : World}
theorem sc_Shape_iter : FnScope ["self"] ["self"] (defScope sShape_iter) := ⟨rfl, rfl, rfl, by decide +kernel, rfl, by decide +kernel, by decide +kernel⟩
theorem ok_Shape_iter (T : Tx K mg) : FnS P w K mg base 1 (He.ma K (He.ga K "Shape") "__iter__") (spIter (He.ga K "Shape") "own_rules") := by
  refine fnS_of T.fShape_iter sc_Shape_iter (fun _ _ _ _ _ _ us hl => match us, hl with | [_], _ => rfl) (fun outer s vs H Q E h => ?_) (fun cdv A outer s H vs Q E hr h => ?_)
  · obtain ⟨a, dx, fs, t, ys, rfl, _⟩ := h
    rfl
  · obtain ⟨a, dx, fs, t, ys, rfl, ha, hl, ht, k⟩ := h
    refine ⟨_, (pss_one (ps_ret (pe_callB call_iterT (by rfl) T.b_iter (by decide +kernel) (pa_cons (pe_fld (pv 0) rfl) pa_nil)))), ?_⟩
    exact ⟨_, rfl, a, _, dx, _, _, rfl, ha, T.c_Shape, T.n_Shape_own_rules, hl, t, ys, rfl, ht, k⟩
def sp_Shape_contains (K : PySem.W.Frag) : Sp := fun vs H Q _ => ∃ (p q : Addr) (s : Sh) (r : PR), vs = [.ref p, .ref q] ∧ ShapeAt K H p s ∧ RuleAt K H q r ∧ r.t ≠ [] ∧ r.t.length ≤ 24 ∧ Q (.bl (inSh s r)) H
theorem sc_Shape_contains : FnScope ["self", "rule"] ["self", "rule"] (defScope sShape_contains) := ⟨rfl, rfl, rfl, by decide +kernel, rfl, by decide +kernel, by decide +kernel⟩
theorem ok_Shape_contains (T : Tx K mg) : Mtd P w K mg base 1 (He.ga K "Shape") "__contains__" (He.ma K (He.ga K "Shape") "__contains__") ["self", "rule"] (sp_Shape_contains K) := by
  refine mtd_of T.fShape_contains T.m_Shape_contains T.c_Shape sc_Shape_contains (fun _ _ _ _ _ _ us hl => match us, hl with | [_, _], _ => rfl) (fun vs H Q E h => ?_) (fun cdv A outer s H vs Q E hr h => ?_)
  · obtain ⟨p, q, s, r, rfl, _⟩ := h
    rfl
  · obtain ⟨p, q, sh, r, rfl, ⟨dx, m, o, ys, hp, hm, ho, hrs⟩, ⟨dr, rm, ra, rt, hq, hqm, hqa, hqt⟩, ne, few, k⟩ := h
    refine ⟨_, (pss_cons (ps_if (PW.pt (pw_or (pt_not (pt_val (pe_callB call_isi (by rfl) T.b_isinstance (by decide +kernel) (pa_cons (pv 1) (pa_cons (pe_glob (v := .ref (He.ga K "Rule")) (by rfl) T.g_Rule rfl) pa_nil))))) (pw_or (pt_cmpR (op_neD hr.units) (pe_fld (pv 1) rfl) (pe_fld (pv 0) rfl) (nomark _)) (pw_or1 (pt_cmpR op_gt (pe_callB call_lenI (by rfl) T.b_len (by decide +kernel) (pa_cons (pe_fld (pv 1) rfl) pa_nil)) (pe_fld (pv 0) rfl) (nomark _)))))) (pss_one (ps_ret pe_bl)) pss_nil)
      (pss_one (ps_ret (pe_cmpR op_eq (pe_op op_mod (pe_callTy call_int1 (by rfl) T.b_int (by decide +kernel) (pa_cons (pe_fld (pv 0) rfl) pa_nil)) (pe_callB call_lenI (by rfl) T.b_len (by decide +kernel) (pa_cons (pe_fld (pv 1) rfl) pa_nil))) pe_int (nomark _))))), ?_⟩
    refine ⟨_, rfl, _, _, _, _, _, rfl, .own _, T.ty_Rule hq, kit_same, true, rfl, iteF ?_⟩
    refine ⟨_, rfl, q, _, dr, _, _, rfl, hq, T.c_Rule, T.n_Rule_moduli, rfl, _, rfl, p, _, dx, _, _, rfl, hp, T.c_Shape, T.n_Shape_moduli, rfl, _, _, Dp_tup hqm, Dp_tup hm, shaped_tup _, shaped_tup _, _, rfl, ?_⟩
    rw [eqv_tup]
    by_cases e1 : r.m = sh.m
    · refine niT e1 ?_
      refine ⟨_, rfl, q, _, dr, _, _, rfl, hq, T.c_Rule, T.n_Rule_ahead, rfl, ra, _, rfl, .inr hqa, _, rfl, p, _, dx, _, _, rfl, hp, T.c_Shape, T.n_Shape_ahead, rfl, _, _, rfl, rfl, _, rfl, ?_⟩
      rw [IV_len]
      by_cases e2 : r.a.length ≤ sh.a
      · refine itF (by omega) ?_
        have h1 := List.length_pos_iff.mpr ne
        refine ⟨_, rfl, p, _, dx, _, _, rfl, hp, T.c_Shape, T.n_Shape_turn, rfl, .inl ⟨_, rfl, _, rfl, q, _, dr, _, _, rfl, hq, T.c_Rule, T.n_Rule_turn, rfl, rt, _, rfl, .inr hqt, _, _, rfl, rfl, ?_, ?_⟩⟩
        · rw [IV_len]
          omega
        · refine ⟨rfl, ?_⟩
          refine blE ?_ k
          show decide (V.int ((sh.t : Int) % ((IV r.t).length : Int)) = V.int 0) = inSh sh r
          rw [dec_int, IV_len]
          unfold inSh
          rw [decide_eq_true e1, decide_eq_true e2]
          show ((sh.t : Int) % (r.t.length : Int) == 0) = decide (sh.t % r.t.length = 0)
          rw [← Int.natCast_emod]
          by_cases z : sh.t % r.t.length = 0
          · rw [decide_eq_true z, z]
            rfl
          · rw [decide_eq_false z]
            (exact beq_false_of_ne (by omega))
      · refine itT (by omega) ?_
        refine blE ?_ k
        unfold inSh
        rw [decide_eq_false e2]
        simp
    · refine niF e1 (blE ?_ k)
      unfold inSh
      rw [decide_eq_false e1]
      rfl
/-! ### weights -/
def rowsW (b : Nat) : Nat → List (List Int)
  | 0 => [[]]
  | n + 1 => (rowsW b n).flatMap fun r => (List.range b).map fun (x : Nat) => r ++ [(x : Int)]
abbrev TpsAt (H : Hp) (ys : List V) (rs : List (List Int)) : Prop := Paired (fun y r => ∃ q, y = V.ref q ∧ TpI H q r) ys rs
theorem TpsAt.same {H H' : Hp} {ys : List V} {rs : List (List Int)} (h : TpsAt H ys rs) (s : Same H H') : TpsAt H' ys rs := Paired.mapP h fun _ _ z => by
  obtain ⟨q, e, z⟩ := z
  exact ⟨q, e, z.same s⟩
theorem TpsAt.set {H : Hp} {D : Addr} {acc us : List V} {ys : List V} {rs : List (List Int)} (h : TpsAt H ys rs) (hD : H D = some (.lst acc)) : TpsAt (upd H D (.lst us)) ys rs := Paired.mapP h fun _ _ z => by
  obtain ⟨q, e, z⟩ := z
  refine ⟨q, e, ?_⟩
  have z' : H q = some (.tup (IV _)) := z
  have nq : q ≠ D := fun w => by rw [w, hD] at z'; cases z'
  exact (upd_ne nq).trans z'
theorem rowsW_len (b : Nat) : ∀ n, (rowsW b n).length = b ^ n
  | 0 => rfl
  | n + 1 => by
    show ((rowsW b n).flatMap fun r => (List.range b).map fun (x : Nat) => r ++ [(x : Int)]).length = b ^ (n + 1)
    rw [List.length_flatMap]
    have e : ((rowsW b n).map fun r => ((List.range b).map fun (x : Nat) => r ++ [(x : Int)]).length) = List.replicate (rowsW b n).length b := by
      rw [← List.map_const']
      refine List.map_congr_left fun r _ => ?_
      (rw [List.length_map, List.length_range])
    rw [e, List.sum_replicate_nat, rowsW_len b n, Nat.pow_succ]
theorem rowsW_each (b : Nat) : ∀ n, ∀ r ∈ rowsW b n, r.length = n ∧ ∀ x ∈ r, 0 ≤ x ∧ x < (b : Int)
  | 0 => fun r h => by
    obtain rfl := List.mem_singleton.mp h
    exact ⟨rfl, fun x h => nomatch h⟩
  | n + 1 => fun r h => by
    obtain ⟨r0, h0, h⟩ := List.mem_flatMap.mp h
    obtain ⟨x, hx, rfl⟩ := List.mem_map.mp h
    obtain ⟨l, a⟩ := rowsW_each b n r0 h0
    refine ⟨by rw [List.length_append, l]; rfl, fun z hz => ?_⟩
    rcases List.mem_append.mp hz with q | q
    · exact a z q
    · obtain rfl := List.mem_singleton.mp q
      have := List.mem_range.mp hx
      omega
def sp_weights_of : Sp := fun vs H Q _ => ∃ (b n : Nat), vs = [.int (b : Int), .int (n : Int)] ∧ 2 ≤ b ∧ b ^ n ≤ 5000 ∧ ∀ H' p ys, Same H H' → H p = none → H' p = some (.lst ys) → TpsAt H' ys (rowsW b n) → Q (.ref p) H'
theorem sc_weights_of : FnScope ["banks", "places", "found", "place", "row", "bank"] ["banks", "places"] (defScope sweights_of) := ⟨rfl, rfl, rfl, by decide +kernel, rfl, by decide +kernel, by decide +kernel⟩
theorem ok_weights_of (T : Tx K mg) : Fnc P w K mg base 1 "weights_of" (He.ga K "weights_of") ["banks", "places"] sp_weights_of := by
  refine fnc_of T.fweights_of T.g_weights_of sc_weights_of (fun _ _ _ _ _ _ us hl => match us, hl with | [_, _], _ => rfl) (fun vs H Q E h => ?_) (fun cdv A outer s H vs Q E hr h => ?_)
  · obtain ⟨b, n, rfl, _⟩ := h
    rfl
  · obtain ⟨b, n, rfl, hb, few, k⟩ := h
    have hn : n ≤ 5000 := Nat.le_trans (Nat.le_of_lt Nat.lt_two_pow_self) (Nat.le_trans (Nat.pow_le_pow_left hb n) few)
    refine ⟨_, (pss_cons (ps_set (i := 2) sc_weights_of.nd rfl (Or.inl rfl) (pe_lst (pa_cons (pe_tup pa_nil) pa_nil)))
      (pss_cons (ps_for PassesOwn.never rfl (pi_range1 (by rfl) T.b_range (pa_cons (pv 1) pa_nil)) (pg_name (i := 3) sc_weights_of.nd rfl (Or.inl rfl))
        (pss_one (ps_setLc2 (i := 2) (own := [("row", 4), ("bank", 5)]) (vs1 := [5]) (g := gName 4) (tt := tYes) (g1 := gName 5) (tt1 := tYes) (te := tTup (tStar K (tVar 4) (tCons (tVar 5) tNil))) (by rfl) sc_weights_of.nd rfl rfl (sw_true rfl rfl rfl (by decide +kernel)) (pi_list (pv 2)) (blkOk_by (N := ["banks", "places", "found", "place", "row", "bank"]) (sc := defScope sweights_of) (by decide +kernel)) (by decide) (fun _ _ _ _ _ => (pg_name (i := 4) sc_weights_of.nd rfl (Or.inl rfl))) (fun _ _ _ _ _ => pts_nil) (fun _ _ _ _ _ => (pi_range1 (by rfl) T.b_range (pa_cons (pv 0) pa_nil))) (fun _ _ _ _ _ => (pg_name (i := 5) sc_weights_of.nd rfl (Or.inl rfl))) (fun _ _ _ _ _ => pts_nil) (fun _ _ _ _ _ => (pe_tup (pa_star (pv 4) (pa_cons (pv 5) pa_nil)))))))
      (pss_one (ps_ret (pv 2))))), ?_⟩
    refine ⟨Nat.zero_le _, fun q0 hq0 => ⟨by show 1 ≤ sizeLine; rw [sizeLine_eq]; decide, fun p0 hp0 => ?_⟩⟩
    have s0 : Same H (upd (upd H q0 (.tup [])) p0 (.lst [.ref q0])) := (Same.put hq0).put' hp0
    have np0 : H p0 = none := by
      have ne : p0 ≠ q0 := fun z => by rw [z, upd_same] at hp0; cases hp0
      rw [upd_ne ne] at hp0
      exact hp0
    have hq1 : upd (upd H q0 (.tup [])) p0 (.lst [.ref q0]) q0 = some (.tup []) := (Same.put hp0) _ _ upd_same
    refine ⟨_, rfl, n, rfl, by omega, by omega, ?_⟩
    refine for_range (lo := 0) (n := n) (fun i σ H' => Same H H' ∧ ∃ (p : Addr) (ys : List V) (u v w : Option V), σ = [some (.int (b : Int)), some (.int (n : Int)), some (.ref p), u, v, w] ∧ H p = none ∧ H' p = some (.lst ys) ∧ TpsAt H' ys (rowsW b i))
      ⟨s0, p0, _, none, none, none, rfl, np0, upd_same, .cons ⟨q0, rfl, hq1⟩ .nil⟩ ?_ ?_
    · rintro i σ H' hi ⟨s, p, ys, u, v, w, rfl, hp, hL, pr⟩
      have zy : ys.length = b ^ i := by rw [Paired.length pr, rowsW_len]
      have zb : b ^ (i + 1) ≤ 5000 := Nat.le_trans (Nat.pow_le_pow_right (by omega) hi) few
      have b1 : b ≤ 5000 := by
        have q : b ^ 1 ≤ b ^ (i + 1) := Nat.pow_le_pow_right (by omega) (by omega)
        rw [Nat.pow_one] at q
        omega
      refine ⟨_, rfl, p, rfl, ⟨_, SqL.of hL⟩, fun D hD => ?_⟩
      have nDp : D ≠ p := fun z => by rw [z, hL] at hD; cases hD
      have hDH : H D = none := by
        cases e : H D with
        | none => rfl
        | some o => rw [s _ _ e] at hD; cases hD
      refine ⟨fun j m H2 => m = ys.length - j ∧ j ≤ ys.length ∧ Same H' H2 ∧ ∃ acc, H2 D = some (.lst acc) ∧ TpsAt H2 acc (((rowsW b i).take j).flatMap fun r => (List.range b).map fun (x : Nat) => r ++ [(x : Int)]), ⟨_, rfl, Nat.zero_le _, Same.put hD, [], upd_same, .nil⟩, ?_⟩
      rintro j m H2 ⟨rfl, hj, s2, acc, hA, pa⟩
      by_cases hlt : j < ys.length
      · refine .inr ⟨⟨ys, ys[j], SqL.of (s2 _ _ hL), List.getElem?_eq_getElem hlt⟩, fun H3 => (j + 1 ≤ ys.length ∧ Same H' H3 ∧ ∃ acc, H3 D = some (.lst acc) ∧ TpsAt H3 acc (((rowsW b i).take (j + 1)).flatMap fun r => (List.range b).map fun (x : Nat) => r ++ [(x : Int)])), fun H3 z => ⟨_, by omega, rfl, z⟩, ?_⟩
        rintro x H3 ⟨rfl, hx⟩
        have hx := hx _ (SqL.of (s2 _ _ hL))
        obtain ⟨row, hrow, qr, rfl, hqr⟩ := paired_at pr hx
        refine ⟨rfl, ?_⟩
        refine ⟨_, rfl, b, rfl, by omega, by omega, ?_⟩
        have hqr3 : H3 qr = some (.tup (IV row)) := s2 _ _ hqr
        have lacc : ∀ acc c, c ≤ b → TpsAt H3 acc (((rowsW b i).take j).flatMap fun r => (List.range b).map fun (x : Nat) => r ++ [(x : Int)]) → acc.length + c ≤ b ^ (i + 1) := fun acc c hc h => by
          rw [Paired.length h, List.length_flatMap]
          have e : (((rowsW b i).take j).map fun r => ((List.range b).map fun (x : Nat) => r ++ [(x : Int)]).length) = List.replicate ((rowsW b i).take j).length b := by
            rw [← List.map_const']
            refine List.map_congr_left fun r _ => ?_
            (rw [List.length_map, List.length_range])
          rw [e, List.sum_replicate_nat, List.length_take, rowsW_len, Nat.pow_succ]
          have h1 : min j (b ^ i) + 1 ≤ b ^ i := by omega
          have h2 := Nat.mul_le_mul_right b h1
          rw [Nat.add_mul, Nat.one_mul] at h2
          omega
        have hrl := (rowsW_each b i row (List.mem_of_getElem? hrow)).1
        have h0 := lacc acc 0 (Nat.zero_le _) pa
        have zacc : acc.length + b ≤ b ^ (i + 1) := lacc acc b (Nat.le_refl _) pa
        refine ⟨fun c m H4 => m = b - c ∧ c ≤ b ∧ Same H' H4 ∧ ∃ acc2, H4 D = some (.lst acc2) ∧ acc2.length = acc.length + c ∧ TpsAt H4 acc2 ((((rowsW b i).take j).flatMap fun r => (List.range b).map fun (x : Nat) => r ++ [(x : Int)]) ++ (List.range c).map fun (x : Nat) => row ++ [(x : Int)]), ⟨_, rfl, Nat.zero_le _, s2, acc, hA, rfl, by rw [List.range_zero, List.map_nil, List.append_nil]; exact pa⟩, ?_⟩
        rintro c m H4 ⟨rfl, hc, s4, acc2, hA4, za, pa4⟩
        by_cases hcl : c < b
        · refine .inr ⟨by show c < (b : Int).toNat; omega, fun H5 => (c + 1 ≤ b ∧ Same H' H5 ∧ ∃ acc2, H5 D = some (.lst acc2) ∧ acc2.length = acc.length + (c + 1) ∧ TpsAt H5 acc2 ((((rowsW b i).take j).flatMap fun r => (List.range b).map fun (x : Nat) => r ++ [(x : Int)]) ++ (List.range (c + 1)).map fun (x : Nat) => row ++ [(x : Int)])), fun H5 z => ⟨_, by omega, rfl, z⟩, ?_⟩
          rintro x H5 ⟨rfl, rfl⟩
          refine ⟨rfl, ?_⟩
          refine ⟨_, rfl, qr, _, rfl, .inl (SqT.of (s4 _ _ hqr)), _, rfl, ?_, fun T hT => ?_⟩
          · show (IV row ++ [V.int (0 + (c : Int))]).length ≤ sizeLine
            rw [List.length_append, IV_len, sizeLine_eq, hrl]
            show i + 1 ≤ _
            omega
          · have nTD : T ≠ D := fun z => by rw [z, hA4] at hT; cases hT
            have s5 : Same H5 (upd H5 T (.tup (IV row ++ [V.int (0 + (c : Int))]))) := Same.put hT
            have hD5 := s5 _ _ hA4
            have pT := pa4.same s5
            refine ⟨acc2, hD5, by rw [sizeLine_eq]; omega, hcl, (s4.trans s5).set hD, _, upd_same, by rw [List.length_append, za]; rfl, ?_⟩
            rw [List.range_succ, List.map_append, ← List.append_assoc]
            refine paired_app (pT.set hD5) (.cons ⟨T, rfl, ?_⟩ .nil)
            show upd _ D _ T = _
            rw [upd_ne nTD, upd_same, Int.zero_add, IV_app]
            rfl
        · have ec : c = b := by omega
          subst ec
          refine .inl ⟨by show (c : Int).toNat ≤ c; omega, by omega, s4, acc2, hA4, ?_⟩
          rw [take_snoc hrow, List.flatMap_append]
          have e1 : ([row].flatMap fun r => (List.range c).map fun (x : Nat) => r ++ [(x : Int)]) = (List.range c).map fun (x : Nat) => row ++ [(x : Int)] := by
            rw [List.flatMap_cons, List.flatMap_nil, List.append_nil]
          rw [e1]
          exact pa4
      · refine .inl ⟨⟨ys, SqL.of (s2 _ _ hL), by omega⟩, ?_⟩
        have ej : (rowsW b i).take j = rowsW b i := List.take_of_length_le (by rw [rowsW_len]; omega)
        rw [ej] at pa
        exact ⟨s.trans s2, D, acc, _, _, _, rfl, hDH, hA, pa⟩
    · rintro σ H' ⟨s, p, ys, u, v, w, rfl, hp, hL, pr⟩
      exact ⟨_, rfl, k H' p ys s hp hL pr⟩
end
end K70
-- K70Nest
/-! a dict with keys (ahead, turn), pairs of tuples of ints: {}, setdefault, list(d.values()) -/
namespace K70
open L2 PySem PySem.Spec PyProof.Rows
def nkR (r : PR) : NestedKey := .tup [.tup (r.a.map .num), .tup (r.t.map .num)]
abbrev KRow := PR × Addr × Addr
def xrow (x : KRow) : NestedKey × Addr × Value := (nkR x.1, x.2.1, .ref x.2.2)
def DnO (P : Program) (w : World) (d : Addr) (xs : List KRow) : HO := .ext fun h => (d == sysModules) = false ∧ ∃ o es ep, h.get? d = some o ∧ o.ExactDict ∧ o.data = .dict es ep ∧ es.toList = (xs.map xrow).map (entryOfKey (nestedKind P w))
def KeyAt (H : Hp) (a : Addr) (r : PR) : Prop := ∃ p q, H a = some (.tup [.ref p, .ref q]) ∧ TpI H p r.a ∧ TpI H q r.t
theorem KeyAt.same {H H' : Hp} {a : Addr} {r : PR} (h : KeyAt H a r) (s : Same H H') : KeyAt H' a r := by
  obtain ⟨p, q, h1, h2, h3⟩ := h
  exact ⟨p, q, s _ _ h1, h2.same s, h3.same s⟩
def sameW (r s : PR) : Prop := r.a = s.a ∧ r.t = s.t
theorem map_num_inj {a b : List Int} (h : a.map NestedKey.num = b.map NestedKey.num) : a = b := by
  induction a generalizing b with
  | nil => cases b with
    | nil => rfl
    | cons _ _ => cases h
  | cons x r ih => cases b with
    | nil => cases h
    | cons y q =>
      (rw [List.map_cons, List.map_cons] at h)
      injection h with h1 h2
      injection h1 with h1
      rw [h1, ih h2]
theorem nkR_inj {r s : PR} : nkR r = nkR s ↔ sameW r s := by
  refine ⟨fun h => ?_, fun h => by unfold nkR; rw [h.1, h.2]⟩
  unfold nkR at h
  injection h with h
  injection h with h1 h2
  injection h2 with h2 _
  injection h1 with h1
  injection h2 with h2
  exact ⟨map_num_inj h1, map_num_inj h2⟩
section
variable {P : Program} {w : World} {H : Hp} {h : Heap}
theorem nested_ints {l : List Int} {its : List Value} (r : Vals (IV l) its) : NestedAll h (l.map .num) its := by
  induction l generalizing its with
  | nil =>
    cases r
    exact .nil
  | cons x q ih =>
    cases r with
    | cons r1 r2 =>
      obtain ⟨t, rfl⟩ := r1
      exact .cons (.int _ _) (ih r2)
theorem nested_tup (ok : HOk P w H h) {a : Addr} {l : List Int} (e : TpI H a l) : NestedIs h (.tup (l.map .num)) (.ref a) := by
  obtain ⟨_, its, r, o, ho, hc, n, hd⟩ := ok _ _ e
  exact .tup ho hc hd (by simpa using nested_ints r)
theorem nested_key (ok : HOk P w H h) {a : Addr} {r : PR} (e : KeyAt H a r) : (nestedKind P w).is h (nkR r) a := by
  obtain ⟨p, q, h1, h2, h3⟩ := e
  obtain ⟨_, its, rv, o, ho, hc, n, hd⟩ := ok _ _ h1
  refine ⟨?_, ?_⟩
  · refine .tup ho hc hd ?_
    cases rv with
    | cons r1 r2 =>
      obtain rfl := r1
      cases r2 with
      | cons r3 r4 =>
        obtain rfl := r3
        cases r4
        exact .cons (nested_tup ok h2) (.cons (nested_tup ok h3) .nil)
  · have dz : ∀ l : List Int, NestedKey.depthAll (l.map .num) = 0 := fun l => by
      induction l with
      | nil => rfl
      | cons x r ih =>
        show max 0 (NestedKey.depthAll (r.map .num)) = 0
        rw [ih]
        rfl
    unfold nkR
    show max (NestedKey.depthAll (r.a.map .num) + 1) (max (NestedKey.depthAll (r.t.map .num) + 1) 0) + 1 ≤ 8
    rw [dz, dz]
    decide
abbrev KeysOk (H : Hp) (xs : List KRow) : Prop := (∀ x ∈ xs, KeyAt H x.2.1 x.1) ∧ xs.Pairwise fun x y => ¬ sameW x.1 y.1
theorem keys_nodup : ∀ {xs : List KRow}, (xs.Pairwise fun x y => ¬ sameW x.1 y.1) → ((xs.map xrow).map (·.1)).Nodup
  | [], _ => List.nodup_nil
  | x :: r, h => by
    rw [List.pairwise_cons] at h
    rw [List.map_cons, List.map_cons, List.nodup_cons]
    refine ⟨fun hm => ?_, keys_nodup h.2⟩
    obtain ⟨y, hy, e⟩ := List.mem_map.mp hm
    obtain ⟨z, hz, rfl⟩ := List.mem_map.mp hy
    exact h.1 z hz (nkR_inj.mp e.symm)
theorem dn_of (ok : HOk P w H h) {d : Addr} {xs : List KRow} (e : H d = some (DnO P w d xs)) (k : KeysOk H xs) : (d == sysModules) = false ∧ h.DictOfH (nestedKind P w) d (xs.map xrow) := by
  obtain ⟨⟨hs, o, es, ep, ho, hxk, hd, he⟩, _⟩ := ok _ _ e
  refine ⟨hs, o, es, ep, ho, hxk, hd, he, fun x hxk => ?_, keys_nodup k.2⟩
  obtain ⟨y, hy, rfl⟩ := List.mem_map.mp hxk
  exact nested_key ok (k.1 y hy)
theorem dn_new {H' : Hp} {h' : Heap} {d : Addr} {xs : List KRow} (hs : (d == sysModules) = false) (dd : h'.DictOfH (nestedKind P w) d (xs.map xrow)) : ObjOk P w H' h' d (DnO P w d xs) := by
  obtain ⟨o, es, ep, ho, hx, hd, he, _⟩ := dd
  refine ⟨⟨hs, o, es, ep, ho, hx, hd, he⟩, ⟨o, ho⟩, fun h1 h2 ⟨hs, o, es, ep, ho, r⟩ st => ⟨hs, o, es, ep, st o ho, r⟩⟩
theorem atKey_none {xs : List KRow} {r : PR} (h : atKey (xs.map xrow) (nkR r) = none) : ∀ x ∈ xs, ¬ sameW x.1 r := by
  intro x hx e
  unfold atKey at h
  rw [Option.map_eq_none_iff, List.find?_eq_none] at h
  exact h (xrow x) (List.mem_map_of_mem hx) (decide_eq_true (nkR_inj.mpr e))
theorem atKey_some {xs : List KRow} {r : PR} {p : Addr × Value} (h : atKey (xs.map xrow) (nkR r) = some p) : ∃ x ∈ xs, sameW x.1 r ∧ p.2 = .ref x.2.2 := by
  unfold atKey at h
  rw [Option.map_eq_some_iff] at h
  obtain ⟨y, hy, rfl⟩ := h
  have h1 := List.find?_some hy
  obtain ⟨x, hx, rfl⟩ := List.mem_map.mp (List.mem_of_find?_eq_some hy)
  exact ⟨x, hx, nkR_inj.mp (of_decide_eq_true h1), rfl⟩
end
section
variable {X : Cx} {pos : Pos}
theorem pe_dnewN : PE X (.Dict [] [] pos) (fun _ H Q => ∀ d, H d = none → Q (.ref d) (upd H d (DnO X.prog X.w d []))) := ⟨fun pins s σ H Q I h =>
  wpAny_Dict_empty ⟨.ref s.heap.objs.size, _, I.laid (a := s.heap.objs.size) (o := DnO X.prog X.w s.heap.objs.size []) (t' := s.toks) (fun _ _ q => Heap.get?_push_of_some _ q) (Nat.le_refl _)
    (dn_new (beq_false_of_ne (Nat.ne_of_gt I.big)) ⟨_, #[], 0, Heap.get?_push_size _ rfl, ⟨rfl, rfl, rfl⟩, rfl, rfl, (fun x hx => by cases hx), List.nodup_nil⟩), rfl, h _ (I.hok.fresh (Nat.le_refl _))⟩⟩
/-- d.setdefault((ahead, turn), rule) -/
def tDSetN (X : Cx) (td ty tx : TE) : TE := fun σ H Q => td σ H fun x H1 => ∃ d xs0, x = .ref d ∧ H1 d = some (DnO X.prog X.w d xs0) ∧ ty σ H1 fun y H2 => tx σ H2 fun z H3 => ∃ (xs : List KRow) (r : PR) (ka q : Addr), H3 d = some (DnO X.prog X.w d xs) ∧ y = .ref ka ∧ z = .ref q ∧
  KeysOk H3 xs ∧ KeyAt H3 ka r ∧ xs.length < sizeLine ∧ (∀ x ∈ xs, sameW x.1 r → Q (.ref x.2.2) H3) ∧ ((∀ x ∈ xs, ¬ sameW x.1 r) → Q z (upd H3 d (DnO X.prog X.w d (xs ++ [(r, ka, q)]))))
theorem pe_dsetN {o e f : Expr} {td ty tx : TE} {apos cpos : Pos} (hu : X.A.units + 16 < cLine) (ho : PE X o td) (he : PE X e ty) (hf : PE X f tx) (m : M2 X o "setdefault" apos e f cpos) : PE X (.Call (.Attribute o "setdefault" apos) [e, f] [] cpos) (tDSetN X td ty tx) := by
  refine ⟨fun pins s σk H Q I h => ?_⟩
  refine wpAny_Call_method m.base m.few m.line PySem.F.plainAttrs_dict PySem.F.slot_dict_setdefault PySem.F.type_dict_setdefault (thn (ho.run pins s σk H _ I h) fun u s1 ⟨x, H1, I1, rxk, a, xs0, ex, ed, q1⟩ => ?_)
  subst ex
  obtain rfl : u = Value.ref a := rxk
  obtain ⟨⟨_, o1, es1, ep1, ho1, hx1, _⟩, _⟩ := I1.hok _ _ ed
  refine ⟨⟨o1, ho1, hx1.1⟩, fun b q => by cases q; exact ⟨o1, ho1, hx1.2.1⟩, ?_⟩
  rw [m.trees]
  refine Calls.callWith_builtin rfl (Calls.evalArgs_plain (Calls.spliced_cons (thn (he.run pins s1 σk H1 _ I1 q1) fun iv s2 ⟨y, H2, I2, ry, q2⟩ =>
    Calls.spliced_cons (thn (hf.run pins s2 σk H2 _ I2 q2) fun fv s3 ⟨z, H3, I3, rz, xs, r, ka, q, ea, ey, ez, ko, kr, hl, q3, q4⟩ => Calls.spliced_nil ?_))))
  subst ey ez
  obtain rfl : iv = Value.ref ka := ry
  obtain rfl : fv = Value.ref q := rz
  obtain ⟨hs, dd⟩ := dn_of I3.hok ea ko
  refine call_setdefault_heap (knd := nestedKind X.prog X.w) (k := nkR r) (by show X.A.in1.units + 8 < cLine; have : X.A.in1.units ≤ X.A.units + 1 := Nat.le_of_eq rfl; omega) (nested_key I3.hok kr) hs dd (fun p hp => ?_) (fun hn h' dd' sb => ?_) (by rw [List.length_map]; omega)
  · obtain ⟨x, hx, sw, ep⟩ := atKey_some hp
    rw [ep]
    exact ⟨.ref x.2.2, H3, I3.tok _, rfl, q3 x hx sw⟩
  · have hno := atKey_none hn
    rw [storedH_new hn] at dd'
    have dd2 : h'.DictOfH (nestedKind X.prog X.w) a ((xs ++ [(r, ka, q)]).map xrow) := by
      rw [List.map_append]
      exact dd'
    refine ⟨.ref q, _, d_write (t' := s3.toks + (nkR r).draws) I3 (by rw [ea]; exact True.intro) sb (let ⟨o, _, _, ho, _⟩ := dd2; ⟨o, ho⟩) (dn_new hs dd2), rfl, q4 hno⟩
/-! list(d.values()) -/
abbrev vwOb (d : Addr) : Obj := { cls := .type "dict_values", data := .fields #[.ref d] }
def VwO (v d : Addr) : HO := .ext fun h => h.get? v = some (vwOb d)
end
theorem k70_values_raw {prog : Program} {w : World} (d : Addr) (hdk : (d == sysModules) = false) :
    MeetsIn prog w (Builtin.«dict.values» ⟨[.ref d], []⟩) (fun _ R s => (∃ es ep, s.heap.DictRaw d es ep) ∧ R (.ok (.ret (.ref s.heap.objs.size))) { s with heap := s.heap.push (vwOb d) }) :=
  .of_wp fun A R s ⟨⟨es, ep, hmk⟩, h⟩ => by
    refine wpAny_bind ?_
    unfold Builtin.Dict.noArgs
    refine wpAny_bind (wpAny_notOrdered_dict hmk.typeIs ?_)
    show wpAny _ _ (pure d) _ _ s
    refine wpAny_pure ?_
    (show wpAny _ _ (Builtin.Dict.showsAll d >>= _) _ _ s)
    unfold Builtin.Dict.showsAll
    rw [if_neg (by rw [hdk]; exact Bool.false_ne_true)]
    (refine wpAny_bind (wpAny_pure ?_))
    (exact wpAny_bind (wpAny_newObj_type (wpAny_pure ⟨_, rfl, h⟩)))
section
variable {X : Cx}
theorem pe_dvalsN {e : Expr} {td : TE} {apos cposk : Pos} (he : PE X e td) (hbase : attributeBase e "values" X.env (eval e X.env) = eval e X.env := by rfl) (hline : (apos.endLine == cposk.line) = true := by rfl) :
    PE X (.Call (.Attribute e "values" apos) [] [] cposk) (fun σ H Q => td σ H fun x H1 => ∃ d xs, x = .ref d ∧ H1 d = some (DnO X.prog X.w d xs) ∧ ∀ v, H1 v = none → Q (.ref v) (upd H1 v (VwO v d))) := by
  refine ⟨fun pins s σ H Q Ik h => ?_⟩
  refine wpAny_Call_method (T := "dict") (id := "dict.values") hbase rfl hline PySem.F.plainAttrs_dict F.slot_dict_values F.type_dict_values (thn (he.run pins s σ H _ Ik h) fun u s1 ⟨x, H1, I1, rxk, d, xs, ex, hd, q⟩ => ?_)
  subst ex
  obtain rfl : u = Value.ref d := rxk
  obtain ⟨⟨hs, o1, es1, ep1, ho1, hx1, hd1, _⟩, _⟩ := I1.hok _ _ hd
  have raw : s1.heap.DictRaw d es1 ep1 := ⟨o1, ho1, hx1, hd1⟩
  refine ⟨raw.typeIs, fun b q => by cases q; exact ⟨o1, ho1, hx1.2.1⟩, ?_⟩
  show wpAny _ _ (callWith cposk (.builtin "dict.values") [.ref d] [] []) _ X.xe s1
  refine method_meetsIn F.slot_dict_values F.entry_dict_values rfl (PySem.evalArgs_none ⟨rfl, raw.typeIs, F.args_dict_values_1 _, _, k70_values_raw d hs, ⟨_, _, raw⟩, ?_⟩)
  have hn : H1 s1.heap.objs.size = none := I1.hok.fresh (Nat.le_refl _)
  refine ⟨.ref s1.heap.objs.size, _, I1.laid (a := s1.heap.objs.size) (o := VwO s1.heap.objs.size d) (t' := s1.toks) (fun _ _ q => Heap.get?_push_of_some _ q) (Nat.le_refl _) ?_, rfl, q _ hn⟩
  exact ⟨Heap.get?_push_size _ rfl, ⟨_, Heap.get?_push_size _ rfl⟩, fun h1 h2 z st => st _ z⟩
theorem vals_rows : ∀ rows : List KRow, Vals (rows.map fun x => V.ref x.2.2) (rows.map fun x => Value.ref x.2.2)
  | [] => .nil
  | _ :: r => .cons rfl (vals_rows r)
theorem call_listVN (hc : X.calm = true) : CallR X (.type "list") (fun xs H Q => ∃ v d rows, xs = [.ref v] ∧ H v = some (VwO v d) ∧ H d = some (DnO X.prog X.w d rows) ∧ rows.length ≤ sizeLine ∧ ∀ l, H l = none → Q (.ref l) (upd H l (.lst (rows.map fun x => V.ref x.2.2)))) := by
  intro pins s σ H xs us Q Ik r h
  obtain ⟨v, d, rows, rfl, hv, hd, hz, q⟩ := h
  obtain ⟨u, rfl, ruk⟩ := vals1 r
  obtain rfl : u = Value.ref v := ruk
  obtain ⟨hv1, _⟩ := Ik.hok _ _ hv
  obtain ⟨⟨hs, o1, es1, ep1, ho1, hx1, hd1, he1⟩, _⟩ := Ik.hok _ _ hd
  have hv1 : s.heap.get? v = some (vwOb d) := hv1
  have raw : s.heap.DictRaw d es1 ep1 := ⟨o1, ho1, hx1, hd1⟩
  have hsz : es1.size = rows.length := by rw [← Array.length_toList, he1, List.length_map, List.length_map]
  refine PySem.W.kdl_call (KdlSrc.rawValues (r := v) (d := d) (es := es1) (ep := ep1)) (Ik.ok.hd hc) ⟨⟨_, hv1, rfl, rfl⟩, raw⟩ (by omega) fun h' tk acc' c' hk hl hacc => ?_
  have hn : H s.heap.objs.size = none := Ik.hok.fresh (Nat.le_refl _)
  refine ⟨.ref s.heap.objs.size, _, Ik.laid (a := s.heap.objs.size) (o := .lst (rows.map fun x => V.ref x.2.2)) (t' := tk) hk (Nat.le_refl _) ?_, rfl, q _ hn⟩
  refine ⟨by rw [List.length_map]; exact hz, acc'.toList, c', ?_, by rw [hl, Array.toArray_toList]⟩
  have el : acc'.toList = rows.map fun x => Value.ref x.2.2 := by
    refine List.ext_getElem (by rw [Array.length_toList, hacc.1, hsz, List.length_map]) fun j h1 h2 => ?_
    have hj : acc'[j]? = some acc'.toList[j] := by rw [← Array.getElem?_toList]; exact List.getElem?_eq_getElem h1
    obtain ⟨hi, ev⟩ := hacc.2 j _ hj
    rw [ev]
    have e2 : es1.toList[j]? = ((rows.map xrow).map (entryOfKey (nestedKind X.prog X.w)))[j]? := by rw [he1]
    rw [Array.getElem?_toList, Array.getElem?_eq_getElem hi, List.getElem?_map, List.getElem?_map] at e2
    have hr : j < rows.length := by omega
    rw [List.getElem?_eq_getElem hr] at e2
    injection e2 with e2
    rw [e2, List.getElem_map]
    rfl
  rw [el]
  exact vals_rows rows
end
end K70
-- K70F16
namespace K70
open L2 PySem PySem.Spec PyProof.Rows StX
def addR (acc : List PR) (r : PR) : List PR := if acc.any (fun x => decide (x.a = r.a ∧ x.t = r.t)) then acc else acc ++ [r]
def rulesW (M : List Int) (a t : Nat) : List PR := (rowsW (prodI M).toNat (a + t)).foldl (fun acc row => addR acc (mkR M (row.take a) (row.drop a))) []
theorem slA_to {K : PySem.W.Frag} {H : Hp} {a : Addr} {xs : List V} {n : Nat} {Q : VK} (h : H a = some (.tup xs)) (k : ∀ H' p, Same H H' → H' p = some (.tup (xs.take n)) → Q (.ref p) H') : rSlA K (.ref a) none (some (n : Int)) H Q := by
  refine ⟨a, xs, rfl, SqT.of h, fun z => ?_, fun _ p hp => ?_⟩
  · have z := z.2
    rw [HT.sIx_nat] at z
    refine k H a (Same.refl _) ?_
    rw [List.take_of_length_le (by omega)]
    exact h
  · rw [cut_take]
    exact k _ p (Same.put hp) upd_same
theorem slA_from {K : PySem.W.Frag} {H : Hp} {a : Addr} {xs : List V} {n : Nat} {Q : VK} (h : H a = some (.tup xs)) (k : ∀ H' p, Same H H' → H' p = some (.tup (xs.drop n)) → Q (.ref p) H') : rSlA K (.ref a) (some (n : Int)) none H Q := by
  refine ⟨a, xs, rfl, SqT.of h, fun z => ?_, fun _ p hp => ?_⟩
  · have z := z.1
    rw [HT.sIx_nat] at z
    refine k H a (Same.refl _) ?_
    by_cases hn : n = 0
    · rw [hn]
      exact h
    · have : xs.length = 0 := by omega
      rw [List.length_eq_zero_iff] at this
      rw [this, List.drop_nil]
      rw [this] at h
      exact h
  · rw [cut_drop]
    exact k _ p (Same.put hp) upd_same
theorem prodI_pos : ∀ {m : List Int}, (∀ q ∈ m, 2 ≤ q ∧ q ≤ 32) → 1 ≤ prodI m
  | [], _ => Int.le_refl _
  | q :: m, h => by
    rw [prodI_cons]
    have h1 := h q List.mem_cons_self
    have h2 := prodI_pos (m := m) fun x hx => h x (List.mem_cons_of_mem _ hx)
    have := Int.mul_le_mul (a := 1) (b := 1) (c := q) (d := prodI m) (by omega) h2 (by decide) (by omega)
    omega
theorem hu16 {k : Nat} {A : Around} (hr : Room k A) : A.units + 16 < cLine := by
  have := hr.units
  omega
theorem addR_same {acc : List PR} {r : PR} (h : ∃ x ∈ acc, sameW x r) : addR acc r = acc := by
  unfold addR
  obtain ⟨x, hx, e⟩ := h
  exact if_pos (List.any_eq_true.mpr ⟨x, hx, decide_eq_true (p := x.a = r.a ∧ x.t = r.t) e⟩)
theorem addR_new {acc : List PR} {r : PR} (h : ∀ x ∈ acc, ¬ sameW x r) : addR acc r = acc ++ [r] := by
  unfold addR
  refine if_neg fun z => ?_
  obtain ⟨x, hx, e⟩ := List.any_eq_true.mp z
  exact h x hx (of_decide_eq_true (p := x.a = r.a ∧ x.t = r.t) e)
theorem two_prod {m : List Int} (ok : ModOk m) : 2 ≤ prodI m := by
  obtain ⟨n, f, e, _⟩ := ok
  cases m with
  | nil => exact absurd n (by decide)
  | cons q r =>
    rw [prodI_cons]
    have h1 := e q List.mem_cons_self
    have h2 := prodI_pos (m := r) fun x hx => e x (List.mem_cons_of_mem _ hx)
    have := Int.mul_le_mul (a := 2) (b := 1) (c := q) (d := prodI r) (by omega) h2 (by decide) (by omega)
    omega
section
variable {K : PySem.W.Frag} {mg : Str → Option Value} {base : Heap} {P : Program} {w : World}
def sp_rules_of (K : PySem.W.Frag) : Sp := fun vs H Q _ => ∃ (m : Addr) (M : List Int) (a t : Nat), vs = [.ref m, .int (a : Int), .int (t : Int)] ∧ TpI H m M ∧ ModOk M ∧ 1 ≤ t ∧ a + t ≤ 24 ∧ (prodI M).toNat ^ (a + t) ≤ 5000 ∧ ∀ H' p ys, Same H H' → H' p = some (.tup ys) → RulesAt K H' ys (rulesW M a t) → Q (.ref p) H'
theorem sc_rules_of : FnScope ["moduli", "ahead", "turn", "found", "row", "rule"] ["moduli", "ahead", "turn"] (defScope srules_of) := ⟨rfl, rfl, rfl, by decide +kernel, rfl, by decide +kernel, by decide +kernel⟩
theorem ok_rules_of (T : Tx K mg) : Fnc P w K mg base 6 "rules_of" (He.ga K "rules_of") ["moduli", "ahead", "turn"] (sp_rules_of K) := by
  have c_weights_of := ok_weights_of (P := P) (w := w) (base := base) T
  have c_banks_of := ok_banks_of (P := P) (w := w) (base := base) T
  have c_Rule := ok_Rule_init (P := P) (w := w) (base := base) T
  refine fnc_of T.frules_of T.g_rules_of sc_rules_of (fun _ _ _ _ _ _ us hl => match us, hl with | [_, _, _], _ => rfl) (fun vs H Q E h => ?_) (fun cdv A outer s H vs Q E hr h => ?_)
  · obtain ⟨m, M, a, t, rfl, _⟩ := h
    rfl
  · obtain ⟨m, M, a, t, rfl, hm, okM, t1, few, sm, k⟩ := h
    have pp := two_prod okM
    have eb : prodI M = (((prodI M).toNat : Nat) : Int) := by omega
    refine ⟨_, (pss_cons (ps_set (i := 3) sc_rules_of.nd rfl (Or.inl rfl) pe_dnewN)
      (pss_cons (ps_for PassesOwn.never rfl (pi_list (pe_f c_weights_of (hr.mono (by decide)) (pa_cons (pe_f c_banks_of (hr.mono (by decide)) (pa_cons (pv 0) pa_nil)) (pa_cons (pe_op op_add (pv 1) (pv 2)) pa_nil)))) (pg_name (i := 4) sc_rules_of.nd rfl (Or.inl rfl))
        (pss_cons (ps_set (i := 5) sc_rules_of.nd rfl (Or.inl rfl) (pe_mk' c_Rule (hr.mono (by decide)) (pa_cons (pv 0) (pa_cons (pe_slice sl_tupA (pv 4) po_none (po_some (pv 1))) (pa_cons (pe_slice sl_tupA (pv 4) (po_some (pv 1)) po_none) pa_nil)))))
      (pss_one (ps_expr (pe_dsetN (hu16 hr) (pv 3) (pe_tup (pa_cons (pe_fld (pv 5) rfl) (pa_cons (pe_fld (pv 5) rfl) pa_nil))) (pv 5) ⟨rfl, rfl, rfl, rfl⟩)))))
      (pss_one (ps_ret (pe_callTy call_tupI (by rfl) T.b_tuple (by decide +kernel) (pa_cons (pe_callTy (call_listVN rfl) (by rfl) T.b_list (by decide +kernel) (pa_cons (pe_dvalsN (pv 3)) pa_nil)) pa_nil)))))), ?_⟩
    refine fun d hd => ?_
    have s0 : Same H (upd H d (DnO P w d [])) := Same.put hd
    refine ⟨_, rfl, m, M, rfl, s0 _ _ hm, okM.each, _, rfl, _, rfl, _, _, rfl, rfl, (prodI M).toNat, a + t, ?_, by omega, sm, fun H1 L ws s1 hL0 hL prW => ?_⟩
    · rw [← eb]
      rfl
    refine ⟨L, rfl, ⟨_, SqL.of hL⟩, ?_⟩
    have hd1 : H1 d = some (DnO P w d []) := s1 _ _ upd_same
    have zw : ws.length ≤ 5000 := by
      rw [Paired.length prW, rowsW_len]
      exact sm
    have S1 : Same H H1 := s0.trans s1
    have ndL : d ≠ L := fun z => by rw [z, hL] at hd1; cases hd1
    refine for_list (fun i σ H' => (∀ b o, b ≠ d → H1 b = some o → H' b = some o) ∧ ∃ (rows : List KRow) (v w' : Option V), σ = [some (.ref m), some (.int (a : Int)), some (.int (t : Int)), some (.ref d), v, w'] ∧ H' d = some (DnO P w d rows) ∧ KeysOk H' rows ∧ (∀ x ∈ rows, RuleAt K H' x.2.2 x.1) ∧ rows.length ≤ i ∧
      rows.map (·.1) = ((rowsW (prodI M).toNat (a + t)).take i).foldl (fun acc row => addR acc (mkR M (row.take a) (row.drop a))) []) ⟨fun b o _ e => e, [], none, none, rfl, hd1, ⟨(fun x h => nomatch h), .nil⟩, (fun x h => nomatch h), Nat.le_refl _, rfl⟩
      (fun i σ H' _ z => SqL.of (z.1 _ _ ndL.symm hL)) ?_ ?_
    · rintro i x σ H' hxk ⟨st, rows, v, w', rfl, hD, ko, hr', zr, em⟩
      obtain ⟨row, hrow, qr, rfl, hq⟩ := paired_at prW hxk
      have hq' : H1 qr = some (.tup (IV row)) := hq
      have nqd : qr ≠ d := fun z => by rw [z, hd1] at hq'; cases hq'
      have hq2 := st _ _ nqd hq'
      obtain ⟨lr, er⟩ := rowsW_each _ _ row (List.mem_of_getElem? hrow)
      have nD : H d = none := hd
      have hm2 : TpI H' m M := st _ _ (ne_of_none hm nD) (S1 _ _ hm)
      have bW : ∀ l : List Int, (∀ x ∈ l, x ∈ row) → BanksIn (prodI M) l := fun l h x hxk => by
        have := er x (h x hxk)
        omega
      refine ⟨_, rfl, _, rfl, _, rfl, _, rfl, slA_to hq2 fun H2 pu s2 hu => ⟨_, rfl, _, rfl, _, rfl, ?_⟩⟩
      delta tNoPart
      refine slA_from (s2 _ _ hq2) fun H3 pt s3 ht => ?_
      have S3 := s2.trans s3
      have lt : (row.drop a).length = t := by rw [List.length_drop, lr]; omega
      have lu : (row.take a).length = a := by rw [List.length_take, lr]; omega
      refine fun q dq hx' hdx ne => rule_made (K := K) hx' hdx ne (hm2.same S3) okM (.inr (by rw [← IV_take]; exact s3 _ _ hu)) (.inr (by rw [← IV_drop]; exact ht)) (bW _ fun x h => List.mem_of_mem_take h) (bW _ fun x h => List.mem_of_mem_drop h) (fun z => by rw [z] at lt; exact absurd lt (by show ¬ (0 = t); omega)) (by omega) fun H4 s4 hR => ⟨rfl, ?_⟩
      have S4 := S3.trans s4
      have hD4 := S4 _ _ hD
      have hR' := hR
      obtain ⟨dr, rm, ra, rt, hp, hrm, hra, hrt⟩ := hR'
      refine ⟨_, rfl, d, rows, rfl, hD4, _, rfl, q, _, dr, _, _, rfl, hp, T.c_Rule, T.n_Rule_ahead, rfl, _, rfl, q, _, dr, _, _, rfl, hp, T.c_Rule, T.n_Rule_turn, rfl, by show 2 ≤ sizeLine; decide, fun ka hka => ?_⟩
      have s5 : Same H4 (upd H4 ka (.tup [.ref ra, .ref rt])) := Same.put hka
      have S5 := S4.trans s5
      have hD5 := s5 _ _ hD4
      have hR5 := hR.same s5
      have kr : KeyAt (upd H4 ka (.tup [.ref ra, .ref rt])) ka (mkR M (row.take a) (row.drop a)) := ⟨ra, rt, upd_same, hra.same s5, hrt.same s5⟩
      have ko5 : KeysOk (upd H4 ka (.tup [.ref ra, .ref rt])) rows := ⟨fun x hxk => (ko.1 x hxk).same S5, ko.2⟩
      have hr5 : ∀ x ∈ rows, RuleAt K (upd H4 ka (.tup [.ref ra, .ref rt])) x.2.2 x.1 := fun x hxk => (hr' x hxk).same S5
      have zi : i < ws.length := (List.getElem?_eq_some_iff.mp hxk).1
      generalize upd H4 ka (.tup [.ref ra, .ref rt]) = H5 at *
      have st5 : ∀ b o, b ≠ d → H1 b = some o → H5 b = some o := fun b o hb e => S5 _ _ (st b o hb e)
      have etk : (rowsW (prodI M).toNat (a + t)).take (i + 1) = (rowsW (prodI M).toNat (a + t)).take i ++ [row] := take_snoc hrow
      refine ⟨_, rfl, rows, _, ka, q, hD5, rfl, rfl, ko5, kr, by rw [sizeLine_eq]; omega, fun x hxk sw => ?_, fun hno => ?_⟩
      · refine ⟨st5, rows, _, _, rfl, hD5, ko5, hr5, by omega, ?_⟩
        rw [etk, List.foldl_append, ← em]
        exact (addR_same ⟨x.1, List.mem_map_of_mem hxk, sw⟩).symm
      · have nd : ∀ {b : Addr} {o : HO}, H5 b = some o → (∀ xs, o ≠ DnO P w d xs) → b ≠ d := fun e n z => by
          rw [z, hD5] at e
          exact n rows (Option.some.inj e).symm
        have kt : ∀ {b : Addr} {l : List V}, H5 b = some (.tup l) → upd H5 d (DnO P w d (rows ++ [(mkR M (row.take a) (row.drop a), ka, q)])) b = some (.tup l) := fun e => by
          rw [upd_ne (nd e fun xs z => nomatch z)]
          exact e
        have kk : ∀ {b : Addr} {r : PR}, KeyAt H5 b r → KeyAt (upd H5 d (DnO P w d (rows ++ [(mkR M (row.take a) (row.drop a), ka, q)]))) b r := fun ⟨p1, q1, h1, h2, h3⟩ => ⟨p1, q1, kt h1, kt h2, kt h3⟩
        have kR : ∀ {b : Addr} {r : PR}, RuleAt K H5 b r → RuleAt K (upd H5 d (DnO P w d (rows ++ [(mkR M (row.take a) (row.drop a), ka, q)]))) b r := fun ⟨d1, m1, a1, t1, h1, h2, h3, h4⟩ =>
          ⟨d1, m1, a1, t1, by rw [upd_ne (nd h1 fun xs z => nomatch z)]; exact h1, kt h2, kt h3, kt h4⟩
        refine ⟨fun b o hb e => by rw [upd_ne hb]; exact st5 b o hb e, _, _, _, rfl, upd_same, ⟨fun x hxk => ?_, ?_⟩, fun x hxk => ?_, by rw [List.length_append]; show rows.length + 1 ≤ i + 1; omega, ?_⟩
        · rcases List.mem_append.mp hxk with h | h
          · exact kk (ko5.1 x h)
          · obtain rfl := List.mem_singleton.mp h
            exact kk kr
        · rw [List.pairwise_append]
          refine ⟨ko5.2, List.pairwise_singleton _ _, fun x hxk y hy => ?_⟩
          obtain rfl := List.mem_singleton.mp hy
          exact hno x hxk
        · rcases List.mem_append.mp hxk with h | h
          · exact kR (hr5 x h)
          · obtain rfl := List.mem_singleton.mp h
            exact kR hR5
        · rw [etk, List.foldl_append, ← em, List.map_append]
          refine (addR_new fun x hxk => ?_).symm
          obtain ⟨y, hy, rfl⟩ := List.mem_map.mp hxk
          exact hno y hy
    · rintro σ H' ⟨st, rows, v, w', rfl, hD, ko, hr', zr, em⟩
      refine ⟨_, rfl, d, rows, rfl, hD, fun vw hvw => ?_⟩
      have s2 : Same H' (upd H' vw (VwO vw d)) := Same.put hvw
      refine ⟨vw, d, rows, rfl, upd_same, s2 _ _ hD, by rw [sizeLine_eq]; omega, fun l hl => ?_⟩
      have s3 := s2.put' (o := .lst (rows.map fun x => V.ref x.2.2)) hl
      refine ⟨l, _, rfl, .inl upd_same, fun p H4 s4 hp => ?_⟩
      have S4 := s3.trans s4
      have SH : Same H H4 := fun b o e => S4 _ _ (st b o (ne_of_none e hd) (S1 _ _ e))
      refine k H4 p _ SH hp ?_
      have e0 : (rowsW (prodI M).toNat (a + t)).take ws.length = rowsW (prodI M).toNat (a + t) := List.take_of_length_le (by rw [Paired.length prW]; exact Nat.le_refl _)
      rw [e0] at em
      have go : ∀ rows : List KRow, (∀ x ∈ rows, RuleAt K H4 x.2.2 x.1) → RulesAt K H4 (rows.map fun x => V.ref x.2.2) (rows.map (·.1)) := fun rows => by
        induction rows with
        | nil => exact fun _ => .nil
        | cons x r ih => exact fun h => .cons ⟨_, rfl, h x List.mem_cons_self⟩ (ih fun y hy => h y (List.mem_cons_of_mem _ hy))
      have g := go rows fun x hxk => (hr' x hxk).same S4
      rw [em] at g
      exact g
end
end K70
-- K70F17
namespace K70
open L2 PySem PySem.Spec PyProof.Rows StX
section
variable {K : PySem.W.Frag} {mg : Str → Option Value} {base : Heap} {P : Program} {w : World}
def sp_Shape_init (K : PySem.W.Frag) : Sp := fun vs H Q _ => ∃ (p dx m : Addr) (M : List Int) (a t : Nat), vs = [.ref p, .ref m, .int (a : Int), .int (t : Int)] ∧ H p = some (.ins (He.ga K "Shape") dx []) ∧ TpI H m M ∧ ModOk M ∧ 1 ≤ t ∧ a + t ≤ 24 ∧ (prodI M).toNat ^ (a + t) ≤ 5000 ∧
  ∀ H', (∀ b o, b ≠ p → H b = some o → H' b = some o) → ShapeAt K H' p ⟨M, a, t, rulesW M a t⟩ → Q .non H'
theorem sc_Shape_init : FnScope ["self", "moduli", "ahead", "turn"] ["self", "moduli", "ahead", "turn"] (defScope sShape_init) := ⟨rfl, rfl, rfl, by decide +kernel, rfl, by decide +kernel, by decide +kernel⟩
theorem ok_Shape_init (T : Tx K mg) : Mkr P w K mg base 7 "Shape" (He.ga K "Shape") (He.ma K (He.ga K "Shape") "__init__") ["self", "moduli", "ahead", "turn"] (sp_Shape_init K) := by
  have c_are_moduli := ok_are_moduli (P := P) (w := w) (base := base) T
  have c_is_within := ok_is_within (P := P) (w := w) (base := base) T
  have c_has_few := ok_has_few (P := P) (w := w) (base := base) T
  have c_banks_of := ok_banks_of (P := P) (w := w) (base := base) T
  have c_rules_of := ok_rules_of (P := P) (w := w) (base := base) T
  refine ⟨ok_of T.fShape_init sc_Shape_init (fun _ _ _ _ _ _ us hl => match us, hl with | [_, _, _, _], _ => rfl) (fun vs H Q E h => ?_) (fun cdv A outer s H vs Q E hr h => ?_), T.mk_Shape, T.g_Shape⟩
  · obtain ⟨p, dx, m, M, a, t, rfl, _⟩ := h
    rfl
  · obtain ⟨p, dx, m, M, a, t, rfl, hp, hm, okM, t1, few, sm, k⟩ := h
    have pp := two_prod okM
    have eb : prodI M = (((prodI M).toNat : Nat) : Int) := by omega
    refine ⟨_, (pss_cons (ps_if (pt_not (pt_val (pe_f c_are_moduli (hr.mono (by decide)) (pa_cons (pv 1) pa_nil)))) (pss_one ps_never) pss_nil)
      (pss_cons (ps_if (pt_not (pt_val (pe_f c_is_within (hr.mono (by decide)) (pa_cons (pv 2) (pa_cons pe_int (pa_cons (pe_gi (by rfl) T.i_MOST_PLACES_rules) pa_nil)))))) (pss_one ps_never) pss_nil)
      (pss_cons (ps_if (pt_not (pt_val (pe_f c_is_within (hr.mono (by decide)) (pa_cons (pv 3) (pa_cons pe_int (pa_cons (pe_op op_sub (pe_gi (by rfl) T.i_MOST_PLACES_rules) (pv 2)) pa_nil)))))) (pss_one ps_never) pss_nil)
      (pss_cons (ps_if (pt_not (pt_val (pe_f c_has_few (hr.mono (by decide)) (pa_cons (pe_f c_banks_of (hr.mono (by decide)) (pa_cons (pv 1) pa_nil)) (pa_cons (pe_op op_add (pv 2) (pv 3)) pa_nil))))) (pss_one ps_never) pss_nil)
      (pss_cons (ps_fld (pv 0) (pe_callTy call_tupI (by rfl) T.b_tuple (by decide +kernel) (pa_cons (pv 1) pa_nil)) rfl)
      (pss_cons (ps_fld (pv 0) (pv 2) rfl)
      (pss_cons (ps_fld (pv 0) (pv 3) rfl)
      (pss_one (ps_fld (pv 0) (pe_f c_rules_of (hr.mono (by decide)) (pa_cons (pe_fld (pv 0) rfl) (pa_cons (pv 2) (pa_cons (pv 3) pa_nil)))) rfl))))))))), ?_⟩
    refine ⟨_, rfl, m, M, rfl, hm, okM, fun H1 s1 => ⟨true, rfl, iteF ?_⟩⟩
    refine ⟨_, rfl, _, _, _, rfl, ?_⟩
    rw [show decide ((0 : Int) ≤ (a : Int) ∧ (a : Int) ≤ 24) = true from decide_eq_true ⟨by omega, by omega⟩]
    refine ⟨true, rfl, iteF ?_⟩
    refine ⟨_, rfl, _, rfl, _, _, rfl, rfl, _, _, _, rfl, ?_⟩
    rw [show decide ((1 : Int) ≤ (t : Int) ∧ (t : Int) ≤ 24 - (a : Int)) = true from decide_eq_true ⟨by omega, by omega⟩]
    refine ⟨true, rfl, iteF ?_⟩
    refine ⟨_, rfl, m, M, rfl, hm.same s1, okM.each, _, rfl, _, rfl, _, _, rfl, rfl, (prodI M).toNat, a + t, ?_, by omega, sm, true, rfl, iteF ?_⟩
    · rw [← eb]
      rfl
    refine ⟨_, rfl, m, _, rfl, .inr (hm.same s1), fun m2 H2 s2 hm2 => ?_⟩
    have S2 := s1.trans s2
    refine ⟨_, rfl, p, _, dx, _, rfl, S2 _ _ hp, T.c_Shape, T.n_Shape_moduli, by decide, ?_⟩
    refine ⟨_, rfl, _, rfl, p, _, dx, _, rfl, upd_same, T.c_Shape, T.n_Shape_ahead, (show (1 : Nat) < 1000 by decide), ?_⟩
    refine ⟨_, rfl, _, rfl, p, _, dx, _, rfl, upd_same, T.c_Shape, T.n_Shape_turn, (show (2 : Nat) < 1000 by decide), ?_⟩
    have nm : m2 ≠ p := fun z => by
      have := S2 _ _ hp
      rw [z, this] at hm2
      cases hm2
    have f3 : ∀ {b : Addr} {o : HO} {o1 o2 o3 : HO}, b ≠ p → H2 b = some o → upd (upd (upd H2 p o1) p o2) p o3 b = some o := fun n e => by rw [upd_ne n, upd_ne n, upd_ne n]; exact e
    refine ⟨_, rfl, p, _, dx, _, _, rfl, upd_same, T.c_Shape, T.n_Shape_moduli, rfl, _, rfl, _, rfl, m2, M, a, t, rfl, f3 nm hm2, okM, t1, few, sm, fun H3 o ys s3 ho hr => ?_⟩
    refine ⟨_, rfl, p, _, dx, _, rfl, s3 _ _ upd_same, T.c_Shape, T.n_Shape_own_rules, (show (3 : Nat) < 1000 by decide), ?_⟩
    have hm3 : TpI H3 m2 M := s3 _ _ (f3 nm hm2)
    have hp3 := s3 _ _ upd_same
    have no : o ≠ p := fun z => by rw [z, hp3] at ho; cases ho
    have nR : ∀ {b : Addr} {r : PR}, RuleAt K H3 b r → ∀ u, RuleAt K (upd H3 p u) b r := by
      rintro b r ⟨d1, m1, a1, r1, h1, h2, h3, h4⟩ u
      have tn : ∀ {b : Addr} {l : List V}, H3 b = some (.tup l) → b ≠ p := fun e z => by rw [z, hp3] at e; cases e
      have nb : b ≠ p := fun z => by
        rw [z, hp3] at h1
        have e : (some (V.int (a : Int)) : Option V) = some (.ref a1) := congrArg (fun o => match o with | some (HO.ins _ _ fs) => fs.lookup ("ahead" : Str) | _ => none) h1
        cases e
      have tt : ∀ {b : Addr} {l : List V}, H3 b = some (.tup l) → upd H3 p u b = some (.tup l) := fun e => by rw [upd_ne (tn e)]; exact e
      exact ⟨d1, m1, a1, r1, by rw [upd_ne nb]; exact h1, tt h2, tt h3, tt h4⟩
    refine k _ (fun b o hb e => ?_) ⟨dx, m2, o, ys, upd_same, ?_, ?_, ?_⟩
    · rw [upd_ne hb]
      exact s3 _ _ (f3 hb (S2 _ _ e))
    · unfold TpI
      rw [upd_ne nm]
      exact hm3
    · rw [upd_ne no]
      exact ho
    · exact Paired.mapP hr fun y r ⟨q, e, h⟩ => ⟨q, e, nR h _⟩
end
end K70
-- K70PoisonA
/-! Suspended generators that nobody wakes stay: a run from the state in which all of them are stuck is a run from the state itself. -/
namespace K70
open PySem
abbrev stuckK : Resume → Sem Fin := fun _ => .unsupported ""
/-- i stands for a suspended generator -/
abbrev Bk := Nat → Option GenState
structure Po (B : Bk) (s z : Shared) : Prop where
  hp : z.heap = s.heap
  dr : z.drawn = s.drawn
  tk : z.toks = s.toks
  os : z.os = s.os
  sz : z.gens.size = s.gens.size
  no : ∀ i, B i = none → z.gens[i]? = s.gens[i]?
  yes : ∀ i G, B i = some G → ∃ k l c p fs cl, G = .suspended k l c p fs cl ∧ s.gens[i]? = some (.suspended stuckK l c p fs cl) ∧ z.gens[i]? = some G
def NoG (B : Bk) (fs : List Frame) : Prop := ∀ i k l c p, Frame.gen i k l c p ∈ fs → B i = none
def Gok (B : Bk) (s : Shared) : Prop := ∀ i, B i = none → ∀ k l c p fs cl, s.gens[i]? = some (.suspended k l c p fs cl) → NoG B fs
def EOk (B : Bk) : End → Prop
  | .ret _ => True
  | .susp _ _ _ _ _ _ fs => NoG B fs
theorem Po.eta {B : Bk} {s z : Shared} (h : Po B s z) : z = { s with gens := z.gens } := by
  obtain ⟨a, b, c, d, e⟩ := z
  obtain ⟨h1, h2, h3, h4, _⟩ := h
  cases h1; cases h2; cases h3; cases h4
  rfl
theorem Po.setG {B : Bk} {s z : Shared} (h : Po B s z) {i : Nat} (hi : B i = none) (x : GenState) : Po B (s.setGen i x) (z.setGen i x) := by
  refine ⟨h.hp, h.dr, h.tk, h.os, by rw [GenW.setGen_size, GenW.setGen_size]; exact h.sz, fun j hj => ?_, fun j G hj => ?_⟩
  · show (z.gens.setIfInBounds i x)[j]? = (s.gens.setIfInBounds i x)[j]?
    rw [Array.getElem?_setIfInBounds, Array.getElem?_setIfInBounds, h.sz, h.no j hj]
  · have ne : i ≠ j := fun e => by rw [e, hj] at hi; cases hi
    obtain ⟨k, l, c, p, fs, cl, e, h1, h2⟩ := h.yes j G hj
    refine ⟨k, l, c, p, fs, cl, e, ?_, ?_⟩
    · show (s.gens.setIfInBounds i x)[j]? = _
      rw [Array.getElem?_setIfInBounds_ne ne]
      exact h1
    · show (z.gens.setIfInBounds i x)[j]? = _
      rw [Array.getElem?_setIfInBounds_ne ne]
      exact h2
theorem Gok.setG {B : Bk} {s : Shared} (h : Gok B s) {i : Nat} {x : GenState} (hx : ∀ k l c p fs cl, x = .suspended k l c p fs cl → NoG B fs) : Gok B (s.setGen i x) := by
  intro j hj k l c p fs cl e
  have e : (s.gens.setIfInBounds i x)[j]? = some (.suspended k l c p fs cl) := e
  by_cases z : i = j
  · rw [Array.getElem?_setIfInBounds] at e
    rw [if_pos z] at e
    split at e
    · injection e with e
      exact hx _ _ _ _ _ _ e
    · cases e
  · rw [Array.getElem?_setIfInBounds_ne z] at e
    exact h j hj k l c p fs cl e
theorem Gok.of_end {B : Bk} {s : Shared} (h : Gok B s) {i : Nat} {e : End} (he : EOk B e) : Gok B (s.setGen i e.genState) := by
  refine h.setG fun k l c p fs cl z => ?_
  cases e with
  | ret _ => cases z
  | susp v g l k c p fs =>
    injection z with _ _ _ _ z _
    subst z
    exact he
theorem Po.push {B : Bk} {s z : Shared} (h : Po B s z) (c : Code) : Po B { s with gens := s.gens.push (.fresh c) } { z with gens := z.gens.push (.fresh c) } := by
  refine ⟨h.hp, h.dr, h.tk, h.os, by show (z.gens.push _).size = (s.gens.push _).size; rw [Array.size_push, Array.size_push, h.sz], fun j hj => ?_, fun j G hj => ?_⟩
  · show (z.gens.push _)[j]? = (s.gens.push _)[j]?
    rw [Array.getElem?_push, Array.getElem?_push, h.sz, h.no j hj]
  · obtain ⟨k, l, c2, p, fs, cl, e, h1, h2⟩ := h.yes j G hj
    have lt := (Array.getElem?_eq_some_iff.mp h1).1
    refine ⟨k, l, c2, p, fs, cl, e, ?_, ?_⟩
    · show (s.gens.push _)[j]? = _
      rw [Array.getElem?_push, if_neg (by omega)]
      exact h1
    · show (z.gens.push _)[j]? = _
      rw [Array.getElem?_push, h.sz, if_neg (by omega)]
      exact h2
theorem Gok.push {B : Bk} {s : Shared} (h : Gok B s) (c : Code) : Gok B { s with gens := s.gens.push (.fresh c) } := by
  intro j hj k l c2 p fs cl e
  have e : (s.gens.push (.fresh c))[j]? = some (.suspended k l c2 p fs cl) := e
  rw [Array.getElem?_push] at e
  split at e
  · cases e
  · exact h j hj k l c2 p fs cl e
end K70
-- K70PoisonB
namespace K70
open PySem
abbrev GSp := List Frame × (Nat × (GenResult → Sem Fin) × Code × Pos) × List Frame
theorem split_ret {k : Result → Sem Fin} {h0 : Option Value} {g : Bool} {l : List Value} {c : Code} {p : Pos} {kp : List Value} {r : List Frame} : splitAtGen (.ret k h0 g l c p kp :: r) = (splitAtGen r).map fun (x : GSp) => (Frame.ret k h0 g l c p kp :: x.1, x.2.1, x.2.2) := by
  rw [splitAtGen]
  intro g1 k1 l1 c1 p1 h
  cases h
theorem split_gen {g : Nat} {k : GenResult → Sem Fin} {l : List Value} {c : Code} {p : Pos} {r : List Frame} : splitAtGen (.gen g k l c p :: r) = some ([], (g, k, c, p), r) := by
  rw [splitAtGen]
theorem split_mem (fs : List Frame) : ∀ x : GSp, splitAtGen fs = some x → (∀ y ∈ x.1, y ∈ fs) ∧ (∀ y ∈ x.2.2, y ∈ fs) ∧ ∃ l, Frame.gen x.2.1.1 x.2.1.2.1 l x.2.1.2.2.1 x.2.1.2.2.2 ∈ fs := by
  induction fs with
  | nil => intro x h; rw [splitAtGen] at h; exact nomatch h
  | cons f r ih =>
    intro x h
    cases f with
    | gen g k l c p =>
      rw [split_gen] at h
      obtain rfl := (Option.some.inj h).symm
      exact ⟨fun y hyk => (nomatch hyk), fun y hyk => List.mem_cons_of_mem _ hyk, l, List.mem_cons_self⟩
    | ret k h0 g l c p kp =>
      rw [split_ret] at h
      obtain ⟨x1, h1, rfl⟩ := Option.map_eq_some_iff.mp h
      obtain ⟨q1, q2, l1, q3⟩ := ih x1 h1
      refine ⟨fun y hyk => ?_, fun y hyk => List.mem_cons_of_mem _ (q2 y hyk), l1, List.mem_cons_of_mem _ q3⟩
      rcases List.mem_cons.mp hyk with e | e
      · rw [e]; exact List.mem_cons_self
      · exact List.mem_cons_of_mem _ (q1 y e)
end K70
-- K70PoisonC
namespace K70
open PySem
theorem stuck_nil {M : Model} {Γ : Ctx} {p : Pos} {s s' : Shared} {e : End} {m : String} (h : Runs M Γ p (.unsupported m) [] s e s') : False := by
  cases h
theorem runs_stuck {M : Model} {Γ : Ctx} {p : Pos} {fs : List Frame} {s s' : Shared} {e : End} {m : String} (h : Runs M Γ p (.unsupported m) fs s e s') : False := by
  cases h with
  | segRet h _ => exact stuck_nil h
  | segGen h _ => exact stuck_nil h
  | segSuspOut _ h => exact stuck_nil h
  | segSuspGen _ h _ _ => exact stuck_nil h
end K70
-- K70PoisonD
namespace K70
open PySem
theorem NoG.nil {B : Bk} : NoG B [] := fun _ _ _ _ _ h => nomatch h
theorem NoG.app {B : Bk} {a b : List Frame} (h1 : NoG B a) (h2 : NoG B b) : NoG B (a ++ b) := fun i k l c p h => (List.mem_append.mp h).elim (h1 i k l c p) (h2 i k l c p)
theorem NoG.tail {B : Bk} {a : Frame} {b : List Frame} (h : NoG B (a :: b)) : NoG B b := fun i k l c p hm => h i k l c p (List.mem_cons_of_mem _ hm)
/-- what is shown of a run -/
def PoR (B : Bk) (M : Model) (Γ : Ctx) (p : Pos) (t : Sem Fin) (fs : List Frame) (s : Shared) (e : End) (s' : Shared) : Prop :=
  ∀ z, Po B s z → Gok B s → NoG B fs → ∃ z', Runs M Γ p t fs z e z' ∧ Po B s' z' ∧ Gok B s' ∧ EOk B e
theorem Po.heap {B : Bk} {s z : Shared} (h : Po B s z) (u : Heap) : Po B { s with heap := u } { z with heap := u } := ⟨rfl, h.dr, h.tk, h.os, h.sz, h.no, h.yes⟩
theorem Po.toks {B : Bk} {s z : Shared} (h : Po B s z) (u : Nat) : Po B { s with toks := u } { z with toks := u } := ⟨h.hp, h.dr, rfl, h.os, h.sz, h.no, h.yes⟩
theorem Po.drawn {B : Bk} {s z : Shared} (h : Po B s z) (u : Drawn) : Po B { s with drawn := u } { z with drawn := u } := ⟨h.hp, rfl, h.tk, h.os, h.sz, h.no, h.yes⟩
section
variable {B : Bk} {M : Model} {Γ : Ctx} {p : Pos} {s s' : Shared} {e : End}
theorem por_update {a : Addr} {part : _} {f : Obj → Obj} {k : Unit → Sem Fin} (q : (s.heap.get? a).isSome) (h : PoR B M Γ p (k ()) [] { s with heap := s.heap.update a f } e s') : PoR B M Γ p (.update a part f k) [] s e s' := by
  intro z hz hg hn
  obtain ⟨z', h1, h2⟩ := h { z with heap := s.heap.update a f } (hz.heap _) hg .nil
  have eh := hz.hp
  refine ⟨z', .update (by rw [eh]; exact q) ?_, h2⟩
  rw [eh]
  exact h1
end
end K70
-- K70PoisonE
namespace K70
open PySem
section
variable {B : Bk} {M : Model} {Γ : Ctx} {p : Pos} {s s' : Shared} {e : End}
theorem por_alloc {o : Obj} {k : Addr → Sem Fin} (h : PoR B M Γ p (k s.heap.objs.size) [] { s with heap := s.heap.push o } e s') : PoR B M Γ p (.alloc o k) [] s e s' := by
  intro z hz hg hn
  obtain ⟨z', h1, h2⟩ := h { z with heap := s.heap.push o } (hz.heap _) hg .nil
  have eh := hz.hp
  refine ⟨z', .alloc ?_, h2⟩
  rw [eh]
  exact h1
theorem por_fresh {k : Nat → Sem Fin} (h : PoR B M Γ p (k s.toks) [] { s with toks := s.toks + 1 } e s') : PoR B M Γ p (.fresh k) [] s e s' := by
  intro z hz hg hn
  obtain ⟨z', h1, h2⟩ := h { z with toks := s.toks + 1 } (hz.toks _) hg .nil
  have eh := hz.tk
  refine ⟨z', .fresh ?_, h2⟩
  rw [eh]
  exact h1
theorem por_genState {g : Nat} {st : GenState} {k : GenStatus × Option (List (Code × Pos)) → Sem Fin} (q : s.gens[g]? = some st) (h : PoR B M Γ p (k st.seen) [] s e s') : PoR B M Γ p (.genState g k) [] s e s' := by
  intro z hz hg hn
  obtain ⟨z', h1, h2⟩ := h z hz hg .nil
  cases hb : B g with
  | none =>
    refine ⟨z', .genState (st := st) ?_ h1, h2⟩
    rw [hz.no g hb]
    exact q
  | some G =>
    obtain ⟨k0, l, c, p0, fs, cl, e1, e2, e3⟩ := hz.yes g G hb
    rw [e2] at q
    obtain rfl := Option.some.inj q
    refine ⟨z', .genState (st := G) e3 ?_, h2⟩
    rw [e1]
    exact h1
theorem por_newGen {c : Code} {k : Nat → Sem Fin} (h : PoR B M Γ p (k s.gens.size) [] { s with gens := s.gens.push (.fresh c) } e s') : PoR B M Γ p (.newGen c k) [] s e s' := by
  intro z hz hg hn
  obtain ⟨z', h1, h2⟩ := h _ (hz.push c) (hg.push c) .nil
  have eh := hz.sz
  refine ⟨z', .newGen ?_, h2⟩
  rw [eh]
  exact h1
/-- one that is woken does not stand in B -/
theorem no_of {z : Shared} {g : Nat} {x : GenState} (hz : Po B s z) (q : s.gens[g]? = some x) (hx : ∀ l c p fs cl, x ≠ .suspended stuckK l c p fs cl) : B g = none ∧ z.gens[g]? = some x := by
  cases hb : B g with
  | none => exact ⟨rfl, by rw [hz.no g hb]; exact q⟩
  | some G =>
    obtain ⟨k0, l, c, p0, fs, cl, e1, e2, e3⟩ := hz.yes g G hb
    rw [e2] at q
    exact absurd (Option.some.inj q).symm (hx _ _ _ _ _)
end
end K70
-- K70PoisonF
namespace K70
open PySem
section
variable {B : Bk} {M : Model} {Γ : Ctx} {p : Pos} {s s' s1 : Shared} {e e1 : End} {g : Nat} {l : List Value} {k : GenResult → Sem Fin}
theorem por_resumeFresh {c : Code} (q : s.gens[g]? = some (.fresh c)) (ih1 : PoR B M (Γ.wake c p) p (M.den c) [] (s.setGen g .running) e1 s1) (qq : End.quiet e1 = true) (ih2 : PoR B M Γ p (k e1.result) [] (s1.setGen g e1.genState) e s') :
    PoR B M Γ p (.resume g (.send .none) l k) [] s e s' := by
  intro z hz hg hn
  obtain ⟨hb, q2⟩ := no_of hz q (fun _ _ _ _ _ h => by cases h)
  obtain ⟨z1, h1, hz1, hg1, he1⟩ := ih1 _ (hz.setG hb .running) (hg.setG fun _ _ _ _ _ _ h => by cases h) .nil
  obtain ⟨z2, h2, hz2, hg2, he2⟩ := ih2 _ (hz1.setG hb _) (hg1.of_end he1) .nil
  exact ⟨z2, .resumeFresh q2 h1 qq h2, hz2, hg2, he2⟩
theorem por_resumeSusp {r : Resume} {k0 : Resume → Sem Fin} {l0 : List Value} {c0 : Code} {p0 : Pos} {fs : List Frame} {cl : Bool} (q : s.gens[g]? = some (.suspended k0 l0 c0 p0 fs cl)) (h0 : Runs M (Γ.wake c0 p) p0 (k0 r) fs (s.setGen g .running) e1 s1)
    (ih1 : PoR B M (Γ.wake c0 p) p0 (k0 r) fs (s.setGen g .running) e1 s1) (qq : End.quiet e1 = true) (ih2 : PoR B M Γ p (k e1.result) [] (s1.setGen g e1.genState) e s') : PoR B M Γ p (.resume g r l k) [] s e s' := by
  intro z hz hg hn
  cases hb : B g with
  | some G =>
    obtain ⟨k1, l1, c1, p1, fs1, cl1, e4, e2, e3⟩ := hz.yes g G hb
    rw [e2] at q
    have q := Option.some.inj q
    injection q with q1
    subst q1
    exact (runs_stuck h0).elim
  | none =>
    have q2 : z.gens[g]? = some (.suspended k0 l0 c0 p0 fs cl) := by rw [hz.no g hb]; exact q
    obtain ⟨z1, h1, hz1, hg1, he1⟩ := ih1 _ (hz.setG hb .running) (hg.setG fun _ _ _ _ _ _ h => by cases h) (hg g hb _ _ _ _ _ _ q)
    obtain ⟨z2, h2, hz2, hg2, he2⟩ := ih2 _ (hz1.setG hb _) (hg1.of_end he1) .nil
    exact ⟨z2, .resumeSuspended q2 h1 qq h2, hz2, hg2, he2⟩
theorem por_resumeThrow {x : Value} {c : Code} (q : s.gens[g]? = some (.fresh c)) (ih : PoR B M Γ p (k (.raised x)) [] (s.setGen g .finished) e s') : PoR B M Γ p (.resume g (.throw x) l k) [] s e s' := by
  intro z hz hg hn
  obtain ⟨hb, q2⟩ := no_of hz q (fun _ _ _ _ _ h => by cases h)
  obtain ⟨z2, h2, h3⟩ := ih _ (hz.setG hb _) (hg.setG fun _ _ _ _ _ _ h => by cases h) .nil
  exact ⟨z2, .resumeThrowFresh q2 h2, h3⟩
theorem por_resumeJust {v : Value} {c : Code} (q : s.gens[g]? = some (.fresh c)) (nv : v ≠ .none) (ih : PoR B M Γ p (k .justStarted) [] s e s') : PoR B M Γ p (.resume g (.send v) l k) [] s e s' := by
  intro z hz hg hn
  obtain ⟨hb, q2⟩ := no_of hz q (fun _ _ _ _ _ h => by cases h)
  obtain ⟨z2, h2, h3⟩ := ih _ hz hg .nil
  exact ⟨z2, .resumeJustStarted q2 nv h2, h3⟩
theorem por_resumeRun {r : Resume} (q : s.gens[g]? = some .running) (ih : PoR B M Γ p (k .running) [] s e s') : PoR B M Γ p (.resume g r l k) [] s e s' := by
  intro z hz hg hn
  obtain ⟨hb, q2⟩ := no_of hz q (fun _ _ _ _ _ h => by cases h)
  obtain ⟨z2, h2, h3⟩ := ih _ hz hg .nil
  exact ⟨z2, .resumeRunning q2 h2, h3⟩
theorem por_resumeFin {r : Resume} (q : s.gens[g]? = some .finished) (ih : PoR B M Γ p (k .finished) [] s e s') : PoR B M Γ p (.resume g r l k) [] s e s' := by
  intro z hz hg hn
  obtain ⟨hb, q2⟩ := no_of hz q (fun _ _ _ _ _ h => by cases h)
  obtain ⟨z2, h2, h3⟩ := ih _ hz hg .nil
  exact ⟨z2, .resumeFinished q2 h2, h3⟩
end
end K70
-- K70PoisonG
namespace K70
open PySem
section
variable {B : Bk} {M : Model} {Γ : Ctx} {p : Pos} {s s' s1 : Shared} {e e1 : End}
theorem por_call {c : Code} {h : Option Value} {g : Bool} {l : List Value} {k : Result → Sem Fin} {r : Result} (ih1 : PoR B M (Γ.enter c h p) p (M.den c) [] s (.ret r) s1) (ih2 : PoR B M Γ p (k r) [] s1 e s') : PoR B M Γ p (.call c h g l k) [] s e s' := by
  intro z hz hg hn
  obtain ⟨z1, h1, hz1, hg1, _⟩ := ih1 z hz hg .nil
  obtain ⟨z2, h2, hz2, hg2, he⟩ := ih2 z1 hz1 hg1 .nil
  exact ⟨z2, .call h1 h2, hz2, hg2, he⟩
theorem por_segRet {t : Sem Fin} {k : Result → Sem Fin} {h : Option Value} {g : Bool} {l : List Value} {c1 : Code} {p1 : Pos} {kp : List Value} {fs : List Frame} {r : Result} (ih1 : PoR B M (Γ.over (.ret k h g l c1 p1 kp :: fs)) p t [] s (.ret r) s1) (ih2 : PoR B M (Γ.goto c1) p1 (k r) fs s1 e s') :
    PoR B M Γ p t (.ret k h g l c1 p1 kp :: fs) s e s' := by
  intro z hz hg hn
  obtain ⟨z1, h1, hz1, hg1, _⟩ := ih1 z hz hg .nil
  obtain ⟨z2, h2, hz2, hg2, he⟩ := ih2 z1 hz1 hg1 hn.tail
  exact ⟨z2, .segRet h1 h2, hz2, hg2, he⟩
end
end K70
-- K70PoisonH
namespace K70
open PySem
section
variable {B : Bk} {M : Model} {Γ : Ctx} {p : Pos} {s s' s1 : Shared} {e e1 : End}
theorem por_callSusp {c : Code} {h : Option Value} {g : Bool} {l : List Value} {k : Result → Sem Fin} {v : Value} {g0 : Bool} {l0 : List Value} {k0 : Resume → Sem Fin} {c0 : Code} {p0 : Pos} {fs : List Frame}
    (ih : PoR B M (Γ.enter c h p) p (M.den c) [] s (.susp v g0 l0 k0 c0 p0 fs) s') : PoR B M Γ p (.call c h g l k) [] s (.susp v g0 l0 k0 c0 p0 (fs ++ [.ret k h g l Γ.code p []])) s' := by
  intro z hz hg hn
  obtain ⟨z1, h1, hz1, hg1, he⟩ := ih z hz hg .nil
  refine ⟨z1, .callSusp h1, hz1, hg1, NoG.app he fun i k2 l2 c2 p2 hm => ?_⟩
  have := List.mem_singleton.mp hm
  cases this
theorem por_segGen {t : Sem Fin} {g : Nat} {k : GenResult → Sem Fin} {l : List Value} {c1 : Code} {p1 : Pos} {fs : List Frame} {r : Result} (ih1 : PoR B M (Γ.over (.gen g k l c1 p1 :: fs)) p t [] s (.ret r) s1) (ih2 : PoR B M (Γ.goto c1) p1 (k (End.ret r).result) fs (s1.setGen g .finished) e s') :
    PoR B M Γ p t (.gen g k l c1 p1 :: fs) s e s' := by
  intro z hz hg hn
  obtain ⟨z1, h1, hz1, hg1, _⟩ := ih1 z hz hg .nil
  have hb := hn _ _ _ _ _ List.mem_cons_self
  obtain ⟨z2, h2, hz2, hg2, he⟩ := ih2 _ (hz1.setG hb _) (hg1.setG fun _ _ _ _ _ _ z => by cases z) hn.tail
  exact ⟨z2, .segGen h1 h2, hz2, hg2, he⟩
end
end K70
-- K70PoisonI
namespace K70
open PySem
section
variable {B : Bk} {M : Model} {Γ : Ctx} {p : Pos} {s s' s1 : Shared} {e e1 : End}
theorem por_segSuspOut {t : Sem Fin} {F : Frame} {fs : List Frame} {v : Value} {g0 : Bool} {l0 : List Value} {k0 : Resume → Sem Fin} {c0 : Code} {p0 : Pos} {fs0 : List Frame} (q : splitAtGen (F :: fs) = none)
    (ih : PoR B M (Γ.over (F :: fs)) p t [] s (.susp v g0 l0 k0 c0 p0 fs0) s') : PoR B M Γ p t (F :: fs) s (.susp v g0 l0 k0 c0 p0 (fs0 ++ F :: fs)) s' := by
  intro z hz hg hn
  obtain ⟨z1, h1, hz1, hg1, he⟩ := ih z hz hg .nil
  exact ⟨z1, .segSuspOut q h1, hz1, hg1, NoG.app he hn⟩
theorem por_segSuspGen {t : Sem Fin} {F : Frame} {fs pre rest : List Frame} {g : Nat} {k : GenResult → Sem Fin} {c1 : Code} {p1 : Pos} {v : Value} {g0 : Bool} {l0 : List Value} {k0 : Resume → Sem Fin} {c0 : Code} {p0 : Pos} {fs0 : List Frame}
    (q : splitAtGen (F :: fs) = some (pre, (g, k, c1, p1), rest)) (ih1 : PoR B M (Γ.over (F :: fs)) p t [] s (.susp v g0 l0 k0 c0 p0 fs0) s1) (qq : (End.susp v g0 l0 k0 c0 p0 (fs0 ++ pre)).quiet = true)
    (ih2 : PoR B M (Γ.goto c1) p1 (k (.yielded v)) rest (s1.setGen g (End.susp v g0 l0 k0 c0 p0 (fs0 ++ pre)).genState) e s') : PoR B M Γ p t (F :: fs) s e s' := by
  intro z hz hg hn
  obtain ⟨z1, h1, hz1, hg1, he1⟩ := ih1 z hz hg .nil
  obtain ⟨m1, m2, l, m3⟩ := split_mem _ _ q
  have hb : B g = none := hn _ _ _ _ _ m3
  have ne : EOk B (End.susp v g0 l0 k0 c0 p0 (fs0 ++ pre)) := NoG.app he1 fun i k l c p hm => hn i k l c p (m1 _ hm)
  obtain ⟨z2, h2, hz2, hg2, he⟩ := ih2 _ (hz1.setG hb _) (hg1.of_end ne) fun i k l c p hm => hn i k l c p (m2 _ hm)
  exact ⟨z2, .segSuspGen q h1 qq h2, hz2, hg2, he⟩
theorem por_os {q : _} {l : _} {k : _ → Sem Fin} (h : PoR B M Γ p (k (Os.step s.os q).2) [] { s with os := (Os.step s.os q).1 } e s') : PoR B M Γ p (.os q l k) [] s e s' := by
  intro z hz hg hn
  have eh := hz.os
  obtain ⟨z', h1, h2⟩ := h { z with os := (Os.step s.os q).1 } ⟨hz.hp, hz.dr, hz.tk, rfl, hz.sz, hz.no, hz.yes⟩ hg .nil
  refine ⟨z', .os ?_, h2⟩
  rw [eh]
  exact h1
theorem por_choose {src : _} {n : Nat} {k : Nat → Sem Fin} (hn0 : n ≠ 0) (h : PoR B M Γ p (k (M.w.draws src (s.drawn.get src) % n)) [] { s with drawn := s.drawn.bump src } e s') : PoR B M Γ p (.choose src n k) [] s e s' := by
  intro z hz hg hn
  have eh := hz.dr
  obtain ⟨z', h1, h2⟩ := h { z with drawn := s.drawn.bump src } (hz.drawn _) hg .nil
  refine ⟨z', .choose hn0 ?_, h2⟩
  rw [eh]
  exact h1
end
end K70
-- K70PoisonJ
namespace K70
open PySem
theorem runs_po {B : Bk} {M : Model} {Γ : Ctx} {p : Pos} {t : Sem Fin} {fs : List Frame} {s s' : Shared} {e : End} (h : Runs M Γ p t fs s e s') : PoR B M Γ p t fs s e s' := by
  induction h with
  | done => exact fun z hz hg hn => ⟨z, .done, hz, hg, trivial⟩
  | raise => exact fun z hz hg hn => ⟨z, .raise, hz, hg, trivial⟩
  | again q _ ih => exact fun z hz hg hn => let ⟨z', h1, h2⟩ := ih z hz hg .nil; ⟨z', .again q h1, h2⟩
  | rule _ ih => exact fun z hz hg hn => let ⟨z', h1, h2⟩ := ih z hz hg .nil; ⟨z', .rule h1, h2⟩
  | «at» _ ih => exact fun z hz hg hn => let ⟨z', h1, h2⟩ := ih z hz hg .nil; ⟨z', .at h1, h2⟩
  | load q _ ih => exact fun z hz hg hn => let ⟨z', h1, h2⟩ := ih z hz hg .nil; ⟨z', .load (by rw [hz.hp]; exact q) h1, h2⟩
  | update q _ ih => exact por_update q ih
  | loadIfAlive _ ih => exact fun z hz hg hn => let ⟨z', h1, h2⟩ := ih z hz hg .nil; ⟨z', .loadIfAlive (by rw [hz.hp]; exact h1), h2⟩
  | point _ ih => exact fun z hz hg hn => let ⟨z', h1, h2⟩ := ih z hz hg .nil; ⟨z', .point h1, h2⟩
  | alloc _ ih => exact por_alloc ih
  | fresh _ ih => exact por_fresh ih
  | ask _ ih => exact fun z hz hg hn => let ⟨z', h1, h2⟩ := ih z hz hg .nil; ⟨z', .ask h1, h2⟩
  | choose q _ ih => exact por_choose q ih
  | os _ ih => exact por_os ih
  | handled _ ih => exact fun z hz hg hn => let ⟨z', h1, h2⟩ := ih z hz hg .nil; ⟨z', .handled h1, h2⟩
  | genState q _ ih => exact por_genState q ih
  | stack _ ih => exact fun z hz hg hn => let ⟨z', h1, h2⟩ := ih z hz hg .nil; ⟨z', .stack h1, h2⟩
  | thread _ ih => exact fun z hz hg hn => let ⟨z', h1, h2⟩ := ih z hz hg .nil; ⟨z', .thread h1, h2⟩
  | newGen _ ih => exact por_newGen ih
  | call _ _ ih1 ih2 => exact por_call ih1 ih2
  | callSusp _ ih => exact por_callSusp ih
  | yield => exact fun z hz hg hn => ⟨z, .yield, hz, hg, NoG.nil⟩
  | resumeFresh q _ qq _ ih1 ih2 => exact por_resumeFresh q ih1 qq ih2
  | resumeSuspended q h0 qq _ ih1 ih2 => exact por_resumeSusp q h0 ih1 qq ih2
  | resumeJustStarted q nv _ ih => exact por_resumeJust q nv ih
  | resumeThrowFresh q _ ih => exact por_resumeThrow q ih
  | resumeRunning q _ ih => exact por_resumeRun q ih
  | resumeFinished q _ ih => exact por_resumeFin q ih
  | segRet _ _ ih1 ih2 => exact por_segRet ih1 ih2
  | segGen _ _ ih1 ih2 => exact por_segGen ih1 ih2
  | segSuspOut q _ ih => exact por_segSuspOut q ih
  | segSuspGen q _ qq _ ih1 ih2 => exact por_segSuspGen q ih1 qq ih2
end K70
-- K70PoisonK
namespace K70
open PySem
open Sem (wp)
/-- all suspended generators of s stand in B -/
def allSusp (s : Shared) : Bk := fun i => match s.gens[i]? with
  | some (.suspended k l c p fs cl) => some (.suspended k l c p fs cl)
  | _ => none
def dull : GenState → GenState
  | .suspended _ l c p fs cl => .suspended stuckK l c p fs cl
  | x => x
def dulled (s : Shared) : Shared := { s with gens := s.gens.map dull }
theorem dull_bare (x : GenState) : (dull x).bare = x.bare := by cases x <;> rfl
theorem po_dulled (s : Shared) : Po (allSusp s) (dulled s) s := by
  refine ⟨rfl, rfl, rfl, rfl, by show _ = (s.gens.map dull).size; rw [Array.size_map], fun i hi => ?_, fun i G hi => ?_⟩
  · show _ = (s.gens.map dull)[i]?
    rw [Array.getElem?_map]
    unfold allSusp at hi
    cases e : s.gens[i]? with
    | none => rfl
    | some x =>
      rw [e] at hi
      cases x with
      | suspended k l c p fs cl => cases hi
      | fresh _ => rfl
      | running => rfl
      | finished => rfl
  · unfold allSusp at hi
    cases e : s.gens[i]? with
    | none => rw [e] at hi; cases hi
    | some x =>
      rw [e] at hi
      cases x with
      | suspended k l c p fs cl =>
        obtain rfl := (Option.some.inj hi).symm
        refine ⟨k, l, c, p, fs, cl, rfl, ?_, rfl⟩
        show (s.gens.map dull)[i]? = _
        rw [Array.getElem?_map, e]
        rfl
      | fresh _ => cases hi
      | running => cases hi
      | finished => cases hi
theorem gok_dulled (s : Shared) : Gok (allSusp s) (dulled s) := by
  intro i hi k l c p fs cl e
  exfalso
  have e : (s.gens.map dull)[i]? = some (.suspended k l c p fs cl) := e
  rw [Array.getElem?_map] at e
  unfold allSusp at hi
  cases e2 : s.gens[i]? with
  | none => rw [e2] at e; cases e
  | some x =>
    rw [e2] at e hi
    cases x with
    | suspended k l c p fs cl => cases hi
    | fresh _ => cases e
    | running => cases e
    | finished => cases e
end K70
-- K70PoisonL
namespace K70
open PySem
open Sem (wp)
section
variable {B : Bk} {M : Model} {Γ : Ctx} {p : Pos}
theorem wakes_po {g : Nat} {r : Resume} {s s' z : Shared} {res : GenResult} (h : Wakes M Γ p g r s res s') (hz : Po B s z) (hg : Gok B s) : ∃ z', Wakes M Γ p g r z res z' ∧ Po B s' z' ∧ Gok B s' := by
  unfold Wakes at h
  split at h
  · exact h.elim
  · rename_i c q
    obtain ⟨hb, q2⟩ := no_of hz q (fun _ _ _ _ _ h => by cases h)
    split at h
    · obtain ⟨e1, s1, h0, qq, rfl, rfl⟩ := h
      obtain ⟨z1, h1, hz1, hg1, he1⟩ := runs_po h0 _ (hz.setG hb .running) (hg.setG fun _ _ _ _ _ _ h => by cases h) .nil
      refine ⟨z1.setGen g e1.genState, ?_, hz1.setG hb _, hg1.of_end he1⟩
      unfold Wakes
      rw [q2]
      exact ⟨e1, z1, h1, qq, rfl, rfl⟩
    · rename_i v hv
      obtain ⟨rfl, rfl⟩ := h
      refine ⟨z, ?_, hz, hg⟩
      unfold Wakes
      rw [q2]
      cases v <;> first | exact (hv rfl).elim | exact ⟨rfl, rfl⟩
    · rename_i x
      obtain ⟨rfl, rfl⟩ := h
      refine ⟨z.setGen g .finished, ?_, hz.setG hb _, hg.setG fun _ _ _ _ _ _ h => by cases h⟩
      unfold Wakes
      rw [q2]
      exact ⟨rfl, rfl⟩
  · rename_i k0 l0 c0 p0 fs cl q
    obtain ⟨e1, s1, h0, qq, rfl, rfl⟩ := h
    cases hb : B g with
    | some G =>
      obtain ⟨k1, l1, c1, p1, fs1, cl1, e4, e2, e3⟩ := hz.yes g G hb
      rw [e2] at q
      have q := Option.some.inj q
      injection q with q1
      subst q1
      exact (runs_stuck h0).elim
    | none =>
      have q2 : z.gens[g]? = some (.suspended k0 l0 c0 p0 fs cl) := by rw [hz.no g hb]; exact q
      obtain ⟨z1, h1, hz1, hg1, he1⟩ := runs_po h0 _ (hz.setG hb .running) (hg.setG fun _ _ _ _ _ _ h => by cases h) (hg g hb _ _ _ _ _ _ q)
      refine ⟨z1.setGen g e1.genState, ?_, hz1.setG hb _, hg1.of_end he1⟩
      unfold Wakes
      rw [q2]
      exact ⟨e1, z1, h1, qq, rfl, rfl⟩
  · rename_i q
    obtain ⟨hb, q2⟩ := no_of hz q (fun _ _ _ _ _ h => by cases h)
    obtain ⟨rfl, rfl⟩ := h
    refine ⟨z, ?_, hz, hg⟩
    unfold Wakes
    rw [q2]
    exact ⟨rfl, rfl⟩
  · rename_i q
    obtain ⟨hb, q2⟩ := no_of hz q (fun _ _ _ _ _ h => by cases h)
    obtain ⟨rfl, rfl⟩ := h
    refine ⟨z, ?_, hz, hg⟩
    unfold Wakes
    rw [q2]
    exact ⟨rfl, rfl⟩
/-- what holds of a run from the poisoned state holds of one from the state itself -/
theorem wp_po {α : Type} (B : Bk) (M : Model) (Γ : Ctx) (t : Sem α) : ∀ (Q : α → Pos → Shared → Prop) (E : Value → Pos → Shared → Prop) (p : Pos) (s z : Shared), Po B s z → Gok B s → wp M Γ t Q E p s →
    wp M Γ t (fun a p' z' => ∃ s', Po B s' z' ∧ Gok B s' ∧ Q a p' s') (fun e p' z' => ∃ s', Po B s' z' ∧ Gok B s' ∧ E e p' s') p z := by
  induction t with
  | pure a => intro Q E p s z hz hg h; exact ⟨s, hz, hg, h⟩
  | raise e => intro Q E p s z hz hg h; exact ⟨s, hz, hg, h⟩
  | unsupported _ => intro Q E p s z _ _ h; exact h
  | finish _ => intro Q E p s z _ _ h; exact h
  | rule _ k ih => intro Q E p s z hz hg h; exact ih () Q E p s z hz hg h
  | «at» p' k ih => intro Q E p s z hz hg h; exact ih () Q E p' s z hz hg h
  | load a _ k ih => intro Q E p s z hz hg h; obtain ⟨o, ho, h⟩ := h; exact ⟨o, by rw [hz.hp]; exact ho, ih o Q E p s z hz hg h⟩
  | update a _ f k ih =>
    intro Q E p s z hz hg h
    refine ⟨by rw [hz.hp]; exact h.1, ?_⟩
    have q := ih () Q E p _ _ (hz.heap (s.heap.update a f)) (fun i hi k l c p fs cl e => hg i hi k l c p fs cl e) h.2
    rw [hz.hp]
    exact q
  | loadIfAlive a k ih => intro Q E p s z hz hg h; show wp M Γ (k (z.heap.get? a)) _ _ p z; rw [hz.hp]; exact ih _ Q E p s z hz hg h
  | point _ k ih => intro Q E p s z hz hg h; exact ih () Q E p s z hz hg h
  | register _ _ => intro Q E p s z _ _ h; exact h
  | alloc o k ih =>
    intro Q E p s z hz hg h
    have q := ih _ Q E p _ _ (hz.heap (s.heap.push o)) (fun i hi k l c p fs cl e => hg i hi k l c p fs cl e) h
    show wp M Γ (k z.heap.objs.size) _ _ p { z with heap := z.heap.push o }
    rw [hz.hp]
    exact q
  | fresh k ih =>
    intro Q E p s z hz hg h
    have q := ih _ Q E p _ _ (hz.toks (s.toks + 1)) (fun i hi k l c p fs cl e => hg i hi k l c p fs cl e) h
    show wp M Γ (k z.toks) _ _ p { z with toks := z.toks + 1 }
    rw [hz.tk]
    exact q
  | ask k ih => intro Q E p s z hz hg h; exact ih _ Q E p s z hz hg h
  | choose src m k ih =>
    intro Q E p s z hz hg h
    refine ⟨h.1, ?_⟩
    have q := ih _ Q E p _ _ (hz.drawn (s.drawn.bump src)) (fun i hi k l c p fs cl e => hg i hi k l c p fs cl e) h.2
    rw [hz.dr]
    exact q
  | os q _ k ih =>
    intro Q E p s z hz hg h
    show wp M Γ (k (Os.step z.os q).2) _ _ p { z with os := (Os.step z.os q).1 }
    rw [hz.os]
    have h : wp M Γ (k (Os.step s.os q).2) Q E p { s with os := (Os.step s.os q).1 } := h
    exact ih _ Q E p { s with os := (Os.step s.os q).1 } { z with os := (Os.step s.os q).1 } ⟨hz.hp, hz.dr, hz.tk, rfl, hz.sz, hz.no, hz.yes⟩ (fun i hi k l c p fs cl e => hg i hi k l c p fs cl e) h
  | call c hd _ _ k ih =>
    intro Q E p s z hz hg h
    obtain ⟨r, s', hr, h⟩ := h
    obtain ⟨z1, h1, hz1, hg1, _⟩ := runs_po hr z hz hg .nil
    exact ⟨r, z1, h1, ih r Q E p s' z1 hz1 hg1 h⟩
  | handled own k ih => intro Q E p s z hz hg h; exact ih _ Q E p s z hz hg h
  | genState g k ih =>
    intro Q E p s z hz hg h
    obtain ⟨st, hs, h⟩ := h
    cases hb : B g with
    | none => exact ⟨st, by rw [hz.no g hb]; exact hs, ih _ Q E p s z hz hg h⟩
    | some G =>
      obtain ⟨k1, l1, c1, p1, fs1, cl1, e4, e2, e3⟩ := hz.yes g G hb
      rw [e2] at hs
      obtain rfl := Option.some.inj hs
      subst e4
      exact ⟨_, e3, ih _ Q E p s z hz hg h⟩
  | newGen c k ih =>
    intro Q E p s z hz hg h
    have q := ih _ Q E p _ _ (hz.push c) (hg.push c) h
    show wp M Γ (k z.gens.size) _ _ p { z with gens := z.gens.push (.fresh c) }
    rw [hz.sz]
    exact q
  | resume g r _ k ih =>
    intro Q E p s z hz hg h
    obtain ⟨res, s', hw, h⟩ := h
    obtain ⟨z1, h1, hz1, hg1⟩ := wakes_po hw hz hg
    exact ⟨res, z1, h1, ih res Q E p s' z1 hz1 hg1 h⟩
  | yield _ _ _ _ => intro Q E p s z _ _ h; exact h
  | stack k ih => intro Q E p s z hz hg h; exact ih _ Q E p s z hz hg h
  | fork _ _ => intro Q E p s z _ _ h; exact h
  | thread k ih => intro Q E p s z hz hg h; exact ih _ Q E p s z hz hg h
  | await _ _ _ _ _ => intro Q E p s z _ _ h; exact h
theorem wpAny_po {α : Type} {M : Model} {A : Around} {s : Shared} {t : Sem α} {Q : α → Shared → Prop} {E : Value → Shared → Prop}
    (h : wpAny M A t Q E (dulled s)) : wpAny M A t (fun a z' => ∃ s', Po (allSusp s) s' z' ∧ Q a s') (fun e z' => ∃ s', Po (allSusp s) s' z' ∧ E e s') s :=
  wpAny_mono (fun Γ p hΓ => wp_po (allSusp s) M Γ t _ _ p (dulled s) s (po_dulled s) (gok_dulled s) (h Γ p hΓ) : wpAny M A t (fun a z' => ∃ s', Po (allSusp s) s' z' ∧ Gok (allSusp s) s' ∧ Q a s') (fun e z' => ∃ s', Po (allSusp s) s' z' ∧ Gok (allSusp s) s' ∧ E e s') s)
    (fun _ _ ⟨s', h1, _, h2⟩ => ⟨s', h1, h2⟩) fun _ _ ⟨s', h1, _, h2⟩ => ⟨s', h1, h2⟩
end
end K70
-- K70Gexp
/-! next((e for x in l if c), None): the generator runs once, within its own frame -/
namespace K70
open L2 PySem PySem.Spec PyProof.Rows GenW
/-- a code object's table, whatever stands in it -/
def TabX (P : Addr) : HO := .ext fun h => ∃ ps : Array Value, h.get? P = some { cls := .none, data := .fields ps } ∧ TriplesOk ps.toList
theorem tabX_ok {P : Program} {w : World} {H : Hp} {h : Heap} {a : Addr} {ps : Array Value} (e : h.get? a = some { cls := .none, data := .fields ps }) (t : TriplesOk ps.toList) : ObjOk P w H h a (TabX a) :=
  ⟨⟨ps, e, t⟩, ⟨_, e⟩, fun h1 h2 ⟨qs, q1, q2⟩ k => ⟨qs, k _ q1, q2⟩⟩
theorem upd_id {H : Hp} {a : Addr} {o : HO} (h : H a = some o) : upd H a o = H := by
  funext b
  by_cases e : b = a
  · rw [e, upd_same, h]
  · rw [upd_ne e]
/-- the names of a generator expression -/
structure XScope (N ps fr : List Str) (sc : Scope) : Prop where
  kind : sc.kind = .function
  co : sc.isCoroutine = false
  nd : N.Nodup
  pre : (N.take (ps.length + fr.length)) = ps ++ fr
  par : ∀ y ∈ ps, sc.names.lookup y = some .local
  nocell : ∀ x ∈ sc.names, x.2 ≠ .cell
  free : ∀ x ∈ sc.names, x.2 = .free → x.1 ∈ fr
  frk : ∀ y ∈ fr, sc.names.lookup y = some .free
def xscB (N ps fr : List Str) (sc : Scope) : Bool :=
  decide (sc.kind = .function) && !sc.isCoroutine && decide N.Nodup && decide (N.take (ps.length + fr.length) = ps ++ fr) && ps.all (fun x => decide (sc.names.lookup x = some .local)) && sc.names.all (fun y => !decide (y.2 = .cell)) && sc.names.all (fun y => !decide (y.2 = .free) || decide (y.1 ∈ fr)) && fr.all (fun x => decide (sc.names.lookup x = some .free))
theorem xscope_by {N ps fr : List Str} {sc : Scope} (h : xscB N ps fr sc = true) : XScope N ps fr sc := by
  unfold xscB at h
  (simp only [Bool.and_eq_true, Bool.not_eq_true', decide_eq_true_eq, List.all_eq_true, Bool.or_eq_true, decide_eq_false_iff_not] at h)
  obtain ⟨⟨⟨⟨⟨⟨⟨h1, h2⟩, h4⟩, h5⟩, h6⟩, h7⟩, h8⟩, h9⟩ := h
  exact ⟨h1, h2, h4, h5, h6, h7, fun y hy e => (h8 y hy).elim (fun z => absurd e z) id, h9⟩
abbrev gEnv (X : Cx) (scope : Scope) (cl : List (Str × Addr)) (L : Addr) (code : Value) : Env := genEnv scope cl L code builtinsNs X.env
/-- the frame of the generator expression -/
def gcx (X : Cx) (A : Around) (scope : Scope) (cl : List (Str × Addr)) (N : List Str) (L : Addr) (fp : List Addr) (code : Value) (s : Shared) (H : Hp) : Cx where
  prog := X.prog
  w := X.w
  K := X.K
  mg := X.mg
  base := X.base
  A := A.deeper (gEnv X scope cl L code)
  N := N
  s_0 := s
  H_0 := H
  env := gEnv X scope cl L code
  outer := X.stack
  stack := gEnv X scope cl L code :: X.stack
  ex := fp
  calm := true
  fn := fun _ => false
  pn := []
  xe := fun _ _ => False
theorem over_comp {A : Around} {e i : Expr} {x : Expr} {ifs : List Expr} {sc : Scope} {p : Pos} {it acc : Value} {env : Env} : A.over (.compLoop (.GeneratorExp e [⟨x, i, ifs, 0⟩] sc p) 0 it acc env) [] = A.deeper env := by
  first
    | rfl
    | (obtain ⟨hd, d, fr, gsk, u⟩ := A; simp [Around.over, Around.deeper, marksOver, frameCount, unitsOf, envsOf, guardsOf, pushEnvs, pushGuards, Code.envs, Code.env?, Code.isFrame, Code.guards, Code.isGuard, Code.weight, Code.frames, Code.isCreation, Code.isCaller, Code.cUnits])
theorem over_compS {A : Around} {e i : Expr} {x : Expr} {ifs : List Expr} {sc : Scope} {p : Pos} {it acc : Value} {env : Env} : A.over (.compStart (.GeneratorExp e [⟨x, i, ifs, 0⟩] sc p) 0 it acc env) [] = A.deeper env := by
  first
    | rfl
    | (obtain ⟨hd, d, fr, gsk, u⟩ := A; simp [Around.over, Around.deeper, marksOver, frameCount, unitsOf, envsOf, guardsOf, pushEnvs, pushGuards, Code.envs, Code.env?, Code.isFrame, Code.guards, Code.isGuard, Code.weight, Code.frames, Code.isCreation, Code.isCaller, Code.cUnits])
section
variable {X : Cx} {A : Around} {scope : Scope} {cl : List (Str × Addr)} {N : List Str} {L it : Addr} {fp : List Addr} {code : Value} {sB : Shared} {HB : Hp}
/-- what comes out of the generator's only turn -/
theorem seg_gloop {elt cond iter : Expr} {x : Str} {px pos : Pos} {R : GenEnd} {Y : Protocol} {tn : Nat → Heap → Prop} {J : It} {tc : TT} {tel : TE} {ix : Nat} {σ0 : L2.St} {Q : VK} {W : Nat → Hp → Prop} {n : Nat}
    (T : Turn X.prog X.w X.K (.Name x px) J fp it tn) (hc : PT (gcx X A scope cl N L fp code sB HB) cond tc) (he : PE (gcx X A scope cl N L fp code sB HB) elt tel) (hN : N.Nodup) (hi : N[ix]? = some x) (hx : scope.names.lookup x = some .local) (hco : scope.isCoroutine = false)
    (hW : ∀ i H, W i H → i ≤ n ∧ (i < n → J.go i H ∧ ∀ v H1, J.yld i H v H1 → tc (σ0.set ix (some v)) H1 fun b H2 => if b = true then tel (σ0.set ix (some v)) H2 Q else W (i + 1) H2) ∧ (i = n → J.stop i H ∧ Q .non H))
    (hY : ∀ (s₀ s : Shared) (σ : L2.St) (H : Hp) (v : V) (u : Value) (kap : Resume → Shared → Prop), Inv (gcx X A scope cl N L fp code sB HB) [] σ H s → RelV v u → Q v H → Y 0 s₀ u s kap)
    (hR : ∀ (s₀ s : Shared) (σ : L2.St) (H : Hp), Inv (gcx X A scope cl N L fp code sB HB) [] σ H s → Q .non H → R 1 s₀ (.ok .next) s) :
    ∀ (k i : Nat) (s₀ s : Shared) (σ : L2.St) (H : Hp), n - i = k → (∀ v, σ.set ix v = σ0.set ix v) → Inv (gcx X A scope cl N L fp code sB HB) [] σ H s → (∀ b ∈ fp, FpOk (gcx X A scope cl N L fp code sB HB) [] H b) → tn i s.heap → W i H →
      Seg (model X.prog X.w) A R Y 1 s₀ (.compLoop (.GeneratorExp elt [⟨.Name x px, iter, [cond], 0⟩] scope pos) 0 (.ref it) .none (gEnv X scope cl L code))
        ((model X.prog X.w).den (.compLoop (.GeneratorExp elt [⟨.Name x px, iter, [cond], 0⟩] scope pos) 0 (.ref it) .none (gEnv X scope cl L code))) [] s := by
  intro k
  induction k with
  | zero =>
    intro i s₀ s σ H hk hσ I hf st w
    obtain ⟨hin, _, stop⟩ := hW i H w
    obtain ⟨stop, q⟩ := stop (by omega)
    show Seg _ A _ _ _ s₀ _ ((compTurn (.GeneratorExp elt [⟨.Name x px, iter, [cond], 0⟩] scope pos) 0 (.ref it) .none (gEnv X scope cl L code)).onRaise (leaving (gEnv X scope cl L code))) [] s
    (rw [compTurn_gen, Sem.onRaise_eq_wrap])
    (refine seg_bind_wrap (wpAny_standAt ?_))
    refine seg_bind_wrap ?_
    rw [over_comp]
    refine wpAny_mono (T.done (gcx X A scope cl N L fp code sB HB) rfl rfl rfl rfl i [] s σ H (fun _ _ => False) I hf st stop) (fun r s' ⟨hr, I'⟩ => ?_) fun _ _ z => z.elim
    subst hr
    exact seg_end (.ok .next) (hR _ _ _ _ I' q)
  | succ k ih =>
    intro i s₀ s σ H hk hσ I hf st w
    obtain ⟨hin, go, _⟩ := hW i H w
    obtain ⟨go, step⟩ := go (by omega)
    show Seg _ A _ _ _ s₀ _ ((compTurn (.GeneratorExp elt [⟨.Name x px, iter, [cond], 0⟩] scope pos) 0 (.ref it) .none (gEnv X scope cl L code)).onRaise (leaving (gEnv X scope cl L code))) [] s
    (rw [compTurn_gen, Sem.onRaise_eq_wrap])
    (refine seg_bind_wrap (wpAny_standAt ?_))
    refine seg_bind_wrap ?_
    rw [over_comp]
    refine wpAny_mono (T.item (gcx X A scope cl N L fp code sB HB) rfl rfl rfl rfl i [] s σ H (fun _ _ => False) I hf st go) (fun r s1 ⟨u, hr, h1⟩ => ?_) fun _ _ z => z.elim
    subst hr
    refine seg_bind_wrap ?_
    rw [over_comp]
    refine wpAny_mono h1 (fun _ s2 ⟨v, H2, I2, rv, y2, st2, fr2⟩ => ?_) fun _ _ z => z.elim
    have f2 : ∀ b ∈ fp, FpOk (gcx X A scope cl N L fp code sB HB) [] H2 b := fun b hb => ⟨fr2 b hb, (hf b hb).2⟩
    have I2' := I2.pinned f2 (T.obj _ _ st2)
    refine seg_bind_wrap (wpAny_assign_Name (store_ok I2' hN hi (.inl hx) rv (fun s3 I3 => ?_) (.inr hx)))
    rw [hσ] at I3
    refine seg_bind_wrap ?_
    rw [over_comp]
    (simp only [List.forIn_cons, List.forIn_nil, if_true])
    refine wpAny_bind (wpAny_bind (wpAny_mono (hc.run _ s3 _ H2 _ I3 (step v H2 y2)) (fun ok s4 h4 => ?_) fun _ _ z => z.elim))
    obtain ⟨H4, I4, q4⟩ := h4
    (refine wpAny_pure (wpAny_pure ?_))
    have st4 : tn (i + 1) s4.heap := T.keep _ _ _ st2 fun b hb o e => (I4.pin (b, o) (List.mem_append_right _ (List.mem_append_right _ (mem_pinsAt hb e)))).1
    have f4 : ∀ b ∈ fp, FpOk (gcx X A scope cl N L fp code sB HB) [] H4 b := fun b hb => by
      obtain ⟨o, e, d⟩ := T.obj _ _ st2 b hb
      exact ⟨(I4.pin (b, o) (List.mem_append_right _ (List.mem_append_right _ (mem_pinsAt hb e)))).2.1, (hf b hb).2⟩
    cases ok with
    | false =>
      rw [if_neg Bool.false_ne_true] at q4
      (simp only [Bool.false_eq_true, if_false])
      exact seg_again rfl (ih (i + 1) s₀ s4 _ H4 (by omega) (fun v' => by rw [List.set_set]) I4.unpinned f4 st4 q4)
    | true =>
      rw [if_pos rfl] at q4
      simp only [if_true]
      have hy : ∀ v, yieldOut (gEnv X scope cl L code) v = yieldValue v := fun v => by
        have : (gEnv X scope cl L code).scope.isCoroutine = false := hco
        simp only [yieldOut, this, Bool.false_eq_true, if_false]
      simp only [hy]
      (rw [Sem.bind_eq_wrap', Sem.bind_eq_wrap', Sem.wrap_wrap, Sem.wrap_wrap])
      refine seg_wrap ?_
      rw [over_comp]
      refine wpAny_mono (he.run _ s4 _ H4 _ I4 q4) (fun u5 s5 h5 => ?_) fun _ _ z => z.elim
      obtain ⟨v5, H5, I5, r5, q5⟩ := h5
      refine seg_at (seg_yield rfl rfl rfl ?_)
      exact hY _ _ _ _ _ _ _ I5.unpinned r5 q5

theorem frs_deep {B : Around} {l : List Env} {env : Env} (h : B.frames = some l) : (B.deeper env).frames = some (env :: l) := Around.frames_deeper h
theorem inv_gx {pins : List (Addr × Obj)} {σ : L2.St} {H : Hp} {s3 : Shared} {fr : List Str} {ws : List (Option V)} {h5 : Heap} {g5 : Array GenState} {tk5 : Nat} (S : XScope N [".0"] fr scope) (hA : A.handled = none) (hfrm : A.frames = some X.stack) (Ik : Inv X pins σ H s3)
    (C : NdefX.CellsAt cl fr ws s3.heap H) (hcl : ∀ y c, cl.lookup y = some c → X.env.cells.lookup y = some c) (hL : s3.heap.objs.size = L) (hfp : ∀ b ∈ fp, FpOk X pins H b ∧ b < s3.heap.objs.size)
    (kp : ∀ b o, s3.heap.get? b = some o → h5.get? b = some o) (hns : h5.Ns L fun y => if y = ".0" then some (.ref it) else none) (hgb : AllBare g5) :
    Inv (gcx X A scope cl N L fp code s3 H) [] (NdefX.startF N [.ref it] ws) H { s3 with heap := h5, gens := g5, toks := tk5 } := by
  have e0 := Ik.env0
  have stk : ∀ b ∈ fp, b ∉ frs X.stack := fun b hb hm => by
    rcases List.mem_cons.mp (Ik.stkSub b hm) with z | z
    · exact (hfp b hb).1.2.1 z
    · exact (hfp b hb).1.2.2.1 z
  have cellK : ∀ {c : Addr} {v : Option Value}, s3.heap.IsCell c v → h5.IsCell c v := fun {c v} ⟨o, ho, hd⟩ => ⟨o, kp _ _ ho, hd⟩
  have hpl : 1 + fr.length ≤ N.length := by
    (have q := congrArg List.length S.pre)
    rw [List.length_take, List.length_append, List.length_singleton] at q
    omega
  refine ⟨⟨e0.mod, S.kind, Ik.ok.glob, rfl, Nat.le_of_eq hL, C.inj, fun y hyk => ?_, fun y c z _ => ?_, fun _ => hA, frs_deep hfrm, .inr ⟨rfl, rfl⟩, fun b hb => ⟨?_, fun y c e => ?_⟩, e0.bs, e0.bsz, fun b o e hb => ?_,
      fun b hb => stk b hb, e0.funs, e0.frf⟩,
    rfl, hgb, Un.kept kp, ⟨_, hns, fun i y v e1k e2 e3 => ?_⟩, fun y c e => ?_, ?_, fun y c e => (C.all y c e).1, fun q hq => absurd (show q ∈ ([] : List (Addr × Obj)) ++ [] from hq) (by simp), Ik.hok.kept kp, ?_⟩
  · have hyk : scope.names.lookup y = some .cell ∨ scope.names.lookup y = some .free := hyk
    rcases hyk with hyk | hyk
    · exact absurd rfl (S.nocell _ (PySem.mem_of_lookup hyk))
    · obtain ⟨i, hi⟩ := List.mem_iff_getElem?.mp (S.free _ (PySem.mem_of_lookup hyk) rfl)
      obtain ⟨c, hck, _⟩ := C.has i y hi
      exact ⟨c, hck⟩
  · have z : false = true := z
    cases z
  · show b ≠ L
    rw [← hL]
    exact Nat.ne_of_lt (hfp b hb).2
  · exact (hfp b hb).1.2.2.2.2.1 y c (hcl y c e)
  · have hb : b ∈ fp := hb
    have e : X.base.get? b = some o := e
    rcases (hfp b hb).1.2.2.2.1 with z | z
    · exact Ik.ok.noex b o e z
    · have h1 := Heap.lt_size e
      have h2 := Ik.ok.bsz
      exact absurd (Nat.lt_of_lt_of_le (Nat.lt_of_lt_of_le h1 h2) z) (Nat.lt_irrefl _)
  · have e1k : N[i]? = some y := e1k
    have clen := C.len
    unfold NdefX.startF at e2
    cases i with
    | zero =>
      have hq : ([(".0" : Str)] ++ fr)[0]? = some y := by
        rw [← S.pre, List.getElem?_take_of_lt (by simp; omega)]
        exact e1k
      have ey : y = ".0" := by simpa using hq.symm
      have ev : v = .ref it := by simpa using e2.symm
      subst ey ev
      refine ⟨.ref it, rfl, .inl ⟨S.par ".0" (by simp), ?_⟩⟩
      show (if (".0" : Str) = ".0" then _ else _) = _
      rw [if_pos rfl]
    | succ i =>
      by_cases h2 : i < fr.length
      · have hq : ([(".0" : Str)] ++ fr)[i + 1]? = some y := by
          rw [← S.pre, List.getElem?_take_of_lt (by simp; omega)]
          exact e1k
        have hq : fr[i]? = some y := by simpa using hq
        have e2 : ws[i]? = some (some v) := by
          have e2 : (ws ++ List.replicate (N.length - 1 - ws.length) none)[i]? = some (some v) := by simpa using e2
          rw [List.getElem?_append_left (by omega)] at e2
          exact e2
        obtain ⟨c, hck, hv⟩ := C.has i y hq
        obtain ⟨u, ru, hu⟩ := hv v e2
        exact ⟨u, ru, .inr ⟨.inr (S.frk y (List.mem_of_getElem? hq)), c, hck, cellK hu⟩⟩
      · have e2 : (ws ++ List.replicate (N.length - 1 - ws.length) none)[i]? = some (some v) := by simpa using e2
        rw [List.getElem?_append_right (by omega), List.getElem?_replicate] at e2
        split at e2 <;> cases e2
  · (obtain ⟨v, z⟩ := (C.all y c e).2)
    exact ⟨v, cellK z⟩
  · show H L = none
    rw [← hL]
    exact Ik.hok.fresh (Nat.le_refl _)
  · have clen := C.len
    unfold NdefX.startF
    show _ = N.length
    rw [List.length_append, List.length_append, List.length_map, List.length_replicate, List.length_singleton]
    omega
/-- the two reads of next over the generator -/
def tNextG (N : List Str) (P : Addr) (js : List Nat) (ix : Nat) (wi : TI) (tc : TT) (tel : TE) : TE := fun σ H Q => wi σ H fun J H1 => H1 P = some (TabX P) ∧ ∀ it : Addr, ∃ (n : Nat) (W : Nat → Hp → Prop), W 0 H1 ∧
  ∀ i H2, W i H2 → i ≤ n ∧ (i < n → J.go i H2 ∧ ∀ v H3, J.yld i H2 v H3 → tc ((NdefX.startF N [.ref it] (js.map (NdefX.slotAt σ))).set ix (some v)) H3 fun b H4 => if b = true then tel ((NdefX.startF N [.ref it] (js.map (NdefX.slotAt σ))).set ix (some v)) H4 Q else W (i + 1) H4) ∧
    (i = n → J.stop i H2 ∧ Q .non H2)
theorem pe_nextG {c P : Addr} {elt cond iter : Expr} {x : Str} {fr : List Str} {js : List Nat} {wi : TI} {tc : TT} {tel : TE} {ix k kk : Nat} {p px pos gposk np : Pos}
    (hr : Room (k + 3) X.A) (hg : Gl X "next") (hm : X.mg "next" = none) (TBk : LamX.TabB X.base X.mg c P) (hcode : X.env.code = .ref c) (S : XScope N [".0"] fr scope) (hix : N[ix]? = some x) (hx : scope.names.lookup x = some .local)
    (hfree : ∀ y ∈ scope.names, y.2 = .free → X.env.scope.names.lookup y.1 = some .cell ∨ X.env.scope.names.lookup y.1 = some .free) (hfr : ∀ y ∈ fr, (y, NameKind.free) ∈ scope.names) (hjs : js.map (fun j => X.N[j]?) = fr.map some)
    (hi : PI X (.Name x px) iter wi)
    (hc : ∀ (A : Around) (L : Addr) (fp : List Addr) (code : Value) (s : Shared) (H : Hp), Room k (A.deeper (gEnv X scope (cloFrom X.env.cells scope.names []) L code)) → PT (gcx X A scope (cloFrom X.env.cells scope.names []) N L fp code s H) cond tc)
    (he : ∀ (A : Around) (L : Addr) (fp : List Addr) (code : Value) (s : Shared) (H : Hp), Room k (A.deeper (gEnv X scope (cloFrom X.env.cells scope.names []) L code)) → PE (gcx X A scope (cloFrom X.env.cells scope.names []) N L fp code s H) elt tel)
    (hsk : ∀ v, genFold iter X.env v = pure v)
    (hst : starEach [.GeneratorExp elt [⟨.Name x px, iter, [cond], 0⟩] scope gposk, .Constant .none kk np] X.env = (false, eval (.GeneratorExp elt [⟨.Name x px, iter, [cond], 0⟩] scope gposk) X.env) :: starEach [.Constant .none kk np] X.env := by rfl) :
    PE X (.Call (.Name "next" p) [.GeneratorExp elt [⟨.Name x px, iter, [cond], 0⟩] scope gposk, .Constant .none kk np] [] pos) (tNextG N P js ix wi tc tel) := by
  refine ⟨fun pins s σ H Q Ik h => ?_⟩
  have cps : NdefX.Caps X (cloFrom X.env.cells scope.names []) fr js := NdefX.Caps.made Ik.ok hfree hfr hjs
  have hfree' : ∀ y ∈ scope.names, y.2 = .free → ∃ c, X.env.cells.lookup y.1 = some c := fun y hy e => (hfree y hy e).elim (fun z => Ik.ok.has _ (.inl z)) fun z => Ik.ok.has _ (.inr z)
  refine wpAny_Call_Name_kw (ld_blt Ik hg hm boot_next ?_)
  refine PyProof.Rows.callWith_builtin1 ?_ hst (by rfl)
  rw [hst]
  show wpAny _ _ (spliced ((false, eval (.GeneratorExp elt [⟨.Name x px, iter, [cond], 0⟩] scope gposk) X.env) :: backTo pos (starEach [.Constant .none kk np] X.env))) _ _ s
  refine Calls.spliced_cons (wpAny_GeneratorExp_make S.co (closure_ok hfree') S.nocell (S.par ".0" (by simp)) S.kind (by have := hr.dp; omega) ?_ hsk)
  refine wpAny_mono (hi.run pins s σ H _ Ik h) (fun xv s1 h1 => wpAny_mono h1 (fun itv s2 h2 => ?_) fun _ _ z => z) fun _ _ z => z
  obtain ⟨it, fp, tn, J, H2, rfl, I2, T, st2, f2, hP, hW⟩ := h2
  obtain ⟨ps, eP, tP⟩ := (I2.hok P _ hP).1
  have cd : PySem.W.CodeHd s2.heap c P := TBk.code.keeps I2.bk
  have cont : ∀ (code : Value) (s3 : Shared), Inv X pins σ H2 s3 → tn 0 s3.heap → wpAny (model X.prog X.w) X.A (builtinsFor X.env.globals X.env.builtins) (fun bi s₄ =>
        ∀ h', h'.Ns s₄.heap.objs.size (fun y => if y = ".0" then some (.ref it) else none) → Heap.SameBut s₄.heap.objs.size (s₄.heap.push { cls := .type "frame", data := .dict #[] }) h' →
          wpAny (model X.prog X.w) X.A (spliced (backTo pos (starEach [.Constant .none kk np] X.env))) (fun vs s₁ => wpAny (model X.prog X.w) X.A (call (.builtin "next") (.ref h'.objs.size :: vs)) (EP X pins σ Q) X.xe s₁) X.xe { s₄ with
            gens := s₄.gens.push (.fresh (.compStart (.GeneratorExp elt [⟨.Name x px, iter, [cond], 0⟩] scope gposk) 0 (.ref it) .none (genEnv scope (cloFrom X.env.cells scope.names []) s₄.heap.objs.size code bi X.env))),
            toks := s₄.toks + 1 + 1 + 1,
            heap := h'.push { cls := .type "generator", data := .fields #[.int s₄.gens.size 0, .str "<genexpr>" (s₄.toks + 1), .str (X.env.qual ++ "<genexpr>") (s₄.toks + 1 + 1)] } }) X.xe s3 := by
    intro code s3 I3 st3
    obtain ⟨bm, ob, e1, e2, e3, e4, e5, e6, e7, e8⟩ := TBk.bm
    refine wpAny_builtinsFor (m := X.mg) (by rw [I3.ok.glob]; exact I3.mod.glob.keeps I3.bk) e1 e2 (I3.bk _ _ e5) e6 e7 e8 ?_
    intro h' hn' hs'
    have hsz : h'.objs.size = s3.heap.objs.size + 1 := by rw [hs'.1, Heap.size_push]
    have kp' : ∀ b o, s3.heap.get? b = some o → h'.get? b = some o := fun b o e => hs'.extBut b o (Nat.ne_of_lt (Heap.lt_size e)) (Heap.get?_push_of_some _ e)
    generalize hgo : ({ cls := .type "generator", data := .fields #[.int s3.gens.size 0, .str "<genexpr>" (s3.toks + 1), .str (X.env.qual ++ "<genexpr>") (s3.toks + 1 + 1)] } : Obj) = go
    have kp : ∀ b o, s3.heap.get? b = some o → (h'.push go).get? b = some o := fun b o e => Heap.get?_push_of_some _ (kp' b o e)
    refine Calls.spliced_cons (Constant_none (k := kk) (pos := np) (Calls.spliced_nil ?_))
    have isg : (h'.push go).IsGen h'.objs.size s3.gens.size := by
      subst hgo
      exact ⟨_, _, _, Heap.get?_push_size _ rfl, rfl, rfl, rfl⟩
    have hfp : ∀ b ∈ fp, FpOk X pins H2 b ∧ b < s3.heap.objs.size := fun b hb => by
      obtain ⟨o, e, _⟩ := T.obj _ _ st3 b hb
      exact ⟨f2 b hb, Heap.lt_size e⟩
    refine Calls.call_function_entry (by decide +kernel) (by decide +kernel) PySem.W.kdk_entry_next (PySem.W.kdk_args_next2 _ _) ?_
    unfold Builtin.«next»
    refine wpAny_bind (m := someArgs "next" 1 2 _) (wpAny_of_eq (a := [Value.ref h'.objs.size, .none]) (by first | rfl | kernel_rfl!) ?_)
    dsimp only
    refine wpAny_bind (wpAny_specialOf (name := Str.ofString "__next__") (Heap.IsGen.typeIs (s := { s3 with heap := _ }) isg) slot_gen_next.lookup ?_)
    refine wpAny_ite_split (fun habk => absurd habk (by decide)) (fun _ => ?_)
    let Fin : Value → Shared → Prop := fun u s' => ∃ v H', s'.os = s3.os ∧ AllBare s'.gens ∧ Un (frs X.stack) fp H2 H' s3.heap s'.heap ∧ HOk X.prog X.w H' s'.heap ∧ RelV v u ∧ Q v H'
    have back : ∀ (u : Value) (s' : Shared) (gs' : GenState) (h'' : Heap), gs'.bare = true → Fin u s' → (∀ b o, s'.heap.get? b = some o → h''.get? b = some o) → EP X pins σ Q u { s'.setGen s3.gens.size gs' with heap := h'' } := by
      intro u s' gs' h'' hb ⟨v, H', os, ba, un, hok, rv, q⟩ hk
      exact ⟨v, H', I3.call' (s' := { s'.setGen s3.gens.size gs' with heap := h'' }) (ch := fp) os (un.trans (Un.kept hk)) (hok.kept hk) (allBare_setGen ba hb) (fun b hb => ⟨(f2 b hb).2.2.2.1, (f2 b hb).2.1, (f2 b hb).2.2.2.2.1, (f2 b hb).2.2.2.2.2⟩), rv, q⟩
    have rm : Room k (X.A.in1.in1.deeper (gEnv X scope (cloFrom X.env.cells scope.names []) s3.heap.objs.size code)) := hr.in1.in1.deeper _
    obtain ⟨n, W, w0, hW⟩ := hW it
    have Ig := inv_gx (X := X) (A := X.A.in1.in1) (L := s3.heap.objs.size) (it := it) (fp := fp) (code := code) (h5 := h'.push go) (g5 := ((s3.gens.push (.fresh (.compStart (.GeneratorExp elt [⟨.Name x px, iter, [cond], 0⟩] scope gposk) 0 (.ref it) .none (genEnv scope (cloFrom X.env.cells scope.names []) s3.heap.objs.size code builtinsNs X.env)))).setIfInBounds s3.gens.size .running)) (tk5 := s3.toks + 1 + 1 + 1) S hr.hd I3.ok.frames I3 (NdefX.cells_of I3 cps) cps.sub rfl hfp kp (hn'.push _)
      (allBare_setGen (s := { s3 with gens := s3.gens.push _ }) (AllBare.push I3.bare rfl) rfl)
    refine wpAny_bind (next_genG (A := X.A.in1) (n := 1) (g := s3.gens.size) (F := fun _ _ s' => Fin .none s') (Er := fun _ _ => False) (Y := fun _ _ u s' _ => Fin u s') hr.hd (I3.nolimit.keeps kp) (by have := hr.dp; show X.A.depth < _; omega) isg (Array.getElem?_push_size ..) ⟨rfl, ?_⟩
      (fun u s' gs' hb hv => wpAny_pure ⟨_, rfl, back u s' gs' s'.heap hb hv fun _ _ e => e⟩) (fun s' hf h'' hk => wpAny_pure ⟨_, rfl, back .none s' .finished h'' rfl hf hk⟩) fun _ _ z => z.elim)
    have loop := seg_gloop (X := X) (A := X.A.in1.in1) (N := N) (fp := fp) (sB := s3) (HB := H2) (pos := gposk) (iter := iter) (R := fun n s₀ r s₁ => ((r = .ok (.ret .none) ∨ r = .ok .next) ∧ Fin .none s₁) ∨ ∃ e, r = .error e ∧ False) (Y := fun _ _ u s' _ => Fin u s') (Q := Q) T (hc _ _ fp code s3 H2 rm) (he _ _ fp code s3 H2 rm) S.nd hix hx S.co hW
      (fun _ s' _ H' v u _ J rv q => ⟨v, H', J.os, J.bare, J.base, J.hok, rv, q⟩) (fun _ s' _ H' J q => .inl ⟨.inr rfl, .non, H', J.os, J.bare, J.base, J.hok, rfl, q⟩) n 0
    have stk : ∀ b ∈ fp, b ∉ frs X.stack := fun b hb hm => by
      rcases List.mem_cons.mp (I3.stkSub b hm) with z | z
      · exact (f2 b hb).2.1 z
      · exact (f2 b hb).2.2.1 z
    have fg : ∀ b ∈ fp, FpOk (gcx X X.A.in1.in1 scope (cloFrom X.env.cells scope.names []) N s3.heap.objs.size fp code s3 H2) [] H2 b := fun b hb =>
      ⟨(f2 b hb).1, Nat.ne_of_lt (hfp b hb).2, stk b hb, .inl hb, fun y d e => (f2 b hb).2.2.2.2.1 y d (cps.sub y d e), fun q hq => absurd (show q ∈ ([] : List (Addr × Obj)) ++ [] from hq) (by simp)⟩
    have st5 := T.keep _ _ _ st3 fun b hb o e => kp b o e
    have loop := fun s₀ => loop s₀ _ _ H2 rfl (fun _ => rfl) Ig fg st5 w0
    show Seg _ X.A.in1.in1 _ _ 1 _ _ ((compStart (.GeneratorExp elt [⟨.Name x px, iter, [cond], 0⟩] scope gposk) 0 (.ref it) .none (gEnv X scope (cloFrom X.env.cells scope.names []) s3.heap.objs.size code)).onRaise (leaving (gEnv X scope (cloFrom X.env.cells scope.names []) s3.heap.objs.size code))) [] _
    unfold compStart
    rw [Sem.onRaise_eq_wrap]
    show Seg _ X.A.in1.in1 _ _ 1 _ _ ((ask >>= _).wrap _ _ _ _) [] _
    (refine seg_bind_wrap (wpAny_askSetting ?_))
    split
    · exact seg_again rfl (loop _)
    · first
        | exact seg_bind_wrap (wpAny_rule (seg_bind_wrap (wpAny_standAt (seg_bind_wrap (T.self _ _ _ _ _ st5 (seg_again rfl (loop _)))))))
        | (refine seg_bind_wrap (wpAny_rule ?_); show Seg _ X.A.in1.in1 _ _ 1 _ _ ((standAt iter.pos >>= _).wrap _ _ _ _) [] _; exact seg_bind_wrap (wpAny_standAt (seg_bind_wrap (T.self _ _ _ _ _ st5 (seg_again rfl (loop _))))))
  cases hf : codeAmong gposk ps.toList with
  | none =>
    refine ⟨I2.nolimit, wpAny_genexprCodeX hcode (cd.code eP tP) (cd.tab eP) hf fun c' h' tk hx hge hlt hco' _ htab' _ => ?_⟩
    obtain ⟨o1, vs, f1k, tf, fl, tg, inF, tx, tt, op, _, _, _, _, _, _, _, _, _, htr, _⟩ := hco'
    have I3 : Inv X pins σ H2 { s2 with heap := h', toks := tk } := by
      have w := I2.write (x := P) (e := P) (o := TabX P) (h' := h') (t' := tk) (by rw [hP]; exact True.intro) (.inl rfl) (fun b o hb e => hx b o hb e) ⟨_, htab'.2⟩ (tabX_ok htab'.2 htr)
      rw [upd_id hP] at w
      exact w
    exact cont _ _ I3 (T.keep _ _ _ st2 fun b hb o e => hx b o (fun z => by have := (f2 b hb).1; rw [z, hP] at this; cases this) e)
  | some cv => exact ⟨I2.nolimit, wpAny_genexprCode_hit hcode (cd.code eP tP) hf (cont cv s2 I2 st2)⟩
end
end K70
-- K70Tabs
/-! defs that make code objects: their own code object and its table -/
namespace K70
open L2 PySem PySem.Spec PyProof.Rows
abbrev ct1 (K : PySem.W.Frag) (x : Str) : Addr := (He.cT K (x, none)).1
abbrev ct2 (K : PySem.W.Frag) (x : Str) : Addr := (He.cT K (x, none)).2
abbrev TabF (K : PySem.W.Frag) (mg : Str → Option Value) (base : Heap) (x : Str) : Prop := LamX.TabB base mg (ct1 K x) (ct2 K x)
section
variable {K : PySem.W.Frag} {mg : Str → Option Value} {base : Heap} {P : Program} {w : World}
theorem okC_of {x : Str} {st : Stmt} {N ps : List Str} {k : Nat} {sp : Sp} (F : ∃ fd, FunD K x x (defArgs st) (defBody st) (defScope st) [] [] (He.ga K x) fd) (S : FnScope N ps (defScope st)) (B : BindsAs x x st ps)
    (len : ∀ vs H Q Ek, sp vs H Q Ek → vs.length = ps.length)
    (body : ∀ (A : Around) (outer : List Env) (s : Shared) (H : Hp) (vs : List V) (Q : VK) (Ek : XK), Room k (A.deeper (envOfC x (defScope st) s.heap.objs.size (He.ga K x) (.ref (ct1 K x)))) → sp vs H Q Ek →
      ∃ t, PSs (cxOf CX0 P w K mg base N x (defScope st) (He.ga K x) (.ref (ct1 K x)) A outer s H Ek).nox (defBody st) t ∧ t { nx := fun _ H' => Q .non H', rt := Q } (start N vs) H) :
    ∃ fd, FnOk P w K mg base CX0 (k + 1) (He.ga K x) fd ps sp ∧ Binds K fd ps [] := by
  obtain ⟨fd, F⟩ := F
  refine ⟨fd, ?_, F.bindsN B⟩
  obtain ⟨oc, od, dV, kV, doc, pm, ank, cdv, ct, osl, rfl, lk, hcd, _, _⟩ := F.ex
  obtain ⟨c, rfl⟩ := He.codeIn_ref hcd
  have ec : ct1 K x = c := He.codeOf_eq (p := (x, none)) lk rfl
  subst ec
  refine fn_of lk hcd S len fun A outer s H vs Q Ek hr hsp => ?_
  obtain ⟨t, h1, h2⟩ := body A outer s H vs Q Ek hr hsp
  exact ⟨t, h1.nox, h2⟩
theorem fncC_of {x : Str} {st : Stmt} {N ps : List Str} {k : Nat} {sp : Sp} (F : ∃ fd, FunD K x x (defArgs st) (defBody st) (defScope st) [] [] (He.ga K x) fd) (g : mg x = some (.ref (He.ga K x))) (S : FnScope N ps (defScope st)) (B : BindsAs x x st ps)
    (len : ∀ vs H Q Ek, sp vs H Q Ek → vs.length = ps.length)
    (body : ∀ (A : Around) (outer : List Env) (s : Shared) (H : Hp) (vs : List V) (Q : VK) (Ek : XK), Room k (A.deeper (envOfC x (defScope st) s.heap.objs.size (He.ga K x) (.ref (ct1 K x)))) → sp vs H Q Ek →
      ∃ t, PSs (cxOf CX0 P w K mg base N x (defScope st) (He.ga K x) (.ref (ct1 K x)) A outer s H Ek).nox (defBody st) t ∧ t { nx := fun _ H' => Q .non H', rt := Q } (start N vs) H) :
    Fnc P w K mg base (k + 1) x (He.ga K x) ps sp :=
  ⟨okC_of F S B len body, g, F.elim fun _ F => F.kp⟩
end
end K70
-- K70Fo
/-! two rules compared, as the law does -/
namespace K70
open L2 PySem PySem.Spec PyProof.Rows StX
/-- the law's split -/
def splitT (t : Tab) (sd : Bool) : List (Nat × Nat) := t.flatMap fun p => (t.filter fun q => decide (sk sd p.1 = sk sd q.1) && decide (q.2 < p.2)).map fun q => (p.2, q.2)
theorem splitT_mem {t : Tab} {sd : Bool} {a b : Nat} : (a, b) ∈ splitT t sd ↔ SS t sd a b := by
  unfold splitT SS
  constructor
  · intro h
    obtain ⟨p, hp, h⟩ := List.mem_flatMap.mp h
    obtain ⟨q, hq, e⟩ := List.mem_map.mp h
    obtain ⟨hq, c⟩ := List.mem_filter.mp hq
    simp only [Bool.and_eq_true, decide_eq_true_eq] at c
    cases e
    exact ⟨p, hp, q, hq, c.1, c.2, rfl, rfl⟩
  · rintro ⟨p, hp, q, hq, c1, c2, rfl, rfl⟩
    exact List.mem_flatMap.mpr ⟨p, hp, List.mem_map.mpr ⟨q, List.mem_filter.mpr ⟨hq, by simp [c1, c2]⟩, rfl⟩⟩
def splitP (t : Tab) : List (Nat × Nat) := splitT t false ++ splitT t true
theorem splitP_mem {t : Tab} {a b : Nat} : (a, b) ∈ splitP t ↔ SSS t a b := by
  unfold splitP SSS
  rw [List.mem_append, splitT_mem, splitT_mem]
def alikeB (r s : PR) : Bool := (splitP (limT r s)).isEmpty
theorem alikeB_iff {r s : PR} : alikeB r s = true ↔ Alike r s := by
  unfold alikeB Alike
  rw [List.isEmpty_iff]
  constructor
  · intro h a b q
    have := splitP_mem.mpr q
    rw [h] at this
    cases this
  · intro h
    (rw [List.eq_nil_iff_forall_not_mem])
    rintro ⟨a, b⟩ q
    exact h a b (splitP_mem.mp q)
theorem parts_not_alike {r s : PR} {a b : Nat} (h : PartsAt r s a b) : alikeB r s = false := by
  cases e : alikeB r s with
  | false => rfl
  | true => exact absurd h.1 (alikeB_iff.mp e a b)
/-- rules at the items of a list -/
def RulesIn (K : PySem.W.Frag) (H : Hp) (ys : List V) (rs : List PR) : Prop := Paired (fun y r => ∃ p, y = .ref p ∧ RuleAt K H p r) ys rs
theorem RulesIn.same {K : PySem.W.Frag} {H H' : Hp} {ys : List V} {rs : List PR} (h : RulesIn K H ys rs) (s : Same H H') : RulesIn K H' ys rs := Paired.mapP h fun _ _ ⟨p, e, q⟩ => ⟨p, e, q.same s⟩
section
variable {X : Cx}
theorem two_of {P : Program} {w : World} {K : PySem.W.Frag} {mg : Str → Option Value} {base : Heap} (T : Tx K mg) (h1 : X.prog = P) (h2 : X.w = w) (h3 : X.K = K) (h4 : X.mg = mg) (h5 : X.base = base) : Two X 1 (He.ga K "Same") (He.ga K "Parted") := by
  subst h1 h2 h3 h4 h5
  exact ⟨⟨_, _, T.m_Same_bool, mtd_run (ok_Same_bool T), fun a H Q q => ⟨_, rfl, q⟩⟩, ⟨_, _, T.m_Parted_bool, mtd_run (ok_Parted_bool T), fun a H Q q => ⟨_, rfl, q⟩⟩⟩
end
end K70
-- K70F18
namespace K70
open L2 PySem PySem.Spec PyProof.Rows StX
section
variable {K : PySem.W.Frag} {mg : Str → Option Value} {base : Heap} {P : Program} {w : World}
def sp_first_other (K : PySem.W.Frag) : Sp := fun vs H Q _ => ∃ (l : Addr) (ys : List V) (rs : List PR), vs = [.ref l] ∧ H l = some (.lst ys) ∧ RulesIn K H ys rs ∧ rs ≠ [] ∧ rs.length ≤ 1000 ∧ (∀ r ∈ rs, SmallP (rs.headD ⟨[], [], []⟩) r) ∧ H (ct2 K "first_other") = some (TabX (ct2 K "first_other")) ∧
  (∀ H', Same H H' → (∀ i r, rs[i + 1]? = some r → alikeB (rs.headD ⟨[], [], []⟩) r = true) → Q .non H') ∧
  (∀ H' i y r, Same H H' → rs[i + 1]? = some r → ys[i + 1]? = some y → alikeB (rs.headD ⟨[], [], []⟩) r = false → (∀ j r', j < i → rs[j + 1]? = some r' → alikeB (rs.headD ⟨[], [], []⟩) r' = true) → Q y H')
theorem sc_first_other : FnScope ["rules"] ["rules"] (defScope sfirst_other) := ⟨rfl, rfl, rfl, by decide +kernel, rfl, by decide +kernel, by decide +kernel⟩
theorem ok_first_other (T : Tx K mg) (B : TabF K mg base "first_other") : Fnc P w K mg base 12 "first_other" (He.ga K "first_other") ["rules"] (sp_first_other K) := by
  have c_same_banks := ok_same_banks (P := P) (w := w) (base := base) T
  refine fncC_of T.ffirst_other T.g_first_other sc_first_other (fun _ _ _ _ _ _ us hl => match us, hl with | [_], _ => rfl) (fun vs H Q E h => ?_) (fun A outer s H vs Q E hr h => ?_)
  · obtain ⟨l, ys, rs, rfl, _⟩ := h
    rfl
  · obtain ⟨l, ys, rs, rfl, hl, hR, ne, len, sm, hT, k1, k2⟩ := h
    refine ⟨_, pss_one (ps_ret (pe_nextG (N := [".0", "rules", "rule"]) (fr := ["rules"]) (js := [0]) (ix := 2) (k := 8) hr (by rfl) T.b_next B rfl (xscope_by (by decide +kernel)) rfl (by decide +kernel) (NdefX.ndef_free (sc := defScope sfirst_other) (fr := ["rules"]) (by decide +kernel)) (NdefX.ndef_fr (sc := defScope sfirst_other) (by decide +kernel)) rfl
      (pi_list (pe_slice sl_list (pv 0) (po_some pe_int) po_none)) (fun A L fp code s H hr' => pt_not (pt_truthR (pe_f c_same_banks (hr'.mono (by decide)) (pa_cons (pe_ix ix_I (pv 1) pe_int (fun _ _ => rfl)) (pa_cons (pv 2) pa_nil))) (tru_two (two_of T rfl rfl rfl rfl rfl) (hr'.mono (by decide))) (fun _ => rfl)))
      (fun A L fp code s H hr' => pv 2) (fun _ => rfl))), ?_⟩
    delta tNoPart
    refine ⟨_, rfl, _, rfl, l, ys, rfl, SqL.of hl, fun p hp => ⟨p, rfl, ⟨_, SqL.of upd_same⟩, (Same.put hp _ _ hT), fun it => ?_⟩⟩
    have L := Paired.length hR
    obtain ⟨r0, rt, rfl⟩ : ∃ r0 rt, rs = r0 :: rt := by
      cases rs with
      | nil => exact absurd rfl ne
      | cons a b => exact ⟨a, b, rfl⟩
    obtain ⟨y0, yt, rfl⟩ : ∃ y0 yt, ys = y0 :: yt := by
      cases ys with
      | nil => cases L
      | cons a b => exact ⟨a, b, rfl⟩
    have lt : yt.length = rt.length := by simpa using L
    have hp1 : upd H p (.lst (cutV (y0 :: yt) (some ((1 : Nat) : Int)) none)) p = some (.lst yt) := by
      rw [upd_same, cut_drop]
      rfl
    have s0 : Same H (upd H p (.lst (cutV (y0 :: yt) (some ((1 : Nat) : Int)) none))) := Same.put hp
    refine ⟨yt.length, fun i H2 => i ≤ yt.length ∧ Same (upd H p (.lst (cutV (y0 :: yt) (some ((1 : Nat) : Int)) none))) H2 ∧ ∀ j r', j < i → rt[j]? = some r' → alikeB r0 r' = true, ⟨Nat.zero_le _, Same.refl _, fun j r' hj => absurd hj (Nat.not_lt_zero _)⟩, ?_⟩
    rintro i H2 ⟨hi, s2, al⟩
    have hp2 : H2 p = some (.lst yt) := s2 _ _ hp1
    refine ⟨hi, fun hlt => ⟨⟨yt, yt[i], SqL.of hp2, List.getElem?_eq_getElem hlt⟩, ?_⟩, fun e => ⟨⟨yt, SqL.of hp2, by omega⟩, k1 H2 (s0.trans s2) fun j r' hr' => al j r' ?_ (by simpa using hr')⟩⟩
    · rintro v H3 ⟨rfl, hv⟩
      have hv := hv yt (SqL.of hp2)
      obtain ⟨ri, hri, q, rfl, hq⟩ := paired_at hR (i := i + 1) (x := v) (by simpa using hv)
      have hri : rt[i]? = some ri := by simpa using hri
      obtain ⟨r0', hr0, q0, rfl, hq0⟩ := paired_at hR (i := 0) (x := y0) rfl
      obtain rfl : r0 = r0' := by simpa using hr0
      have sm1 : SmallP r0 ri := sm ri (List.mem_cons_of_mem _ (List.mem_of_getElem? hri))
      refine ⟨_, rfl, l, _, (0 : Int), .ref q0, rfl, rfl, .inl ((s0.trans s2) _ _ hl), (by unfold atI ixN; simp), _, rfl, q0, q, r0, ri, rfl, hq0.same (s0.trans s2), hq.same (s0.trans s2), sm1, fun H4 v' dx fs s4 ha hv4 => ?_, fun H4 v' dx a b s4 ha hv4 => ?_⟩
      · refine ⟨v', true, rfl, ⟨dx, fs, hv4⟩, iteF ⟨hlt, s2.trans s4, fun j r' hj hr' => ?_⟩⟩
        by_cases e : j = i
        · subst e
          rw [hri] at hr'
          cases hr'
          exact alikeB_iff.mpr ha
        · exact al j r' (by omega) hr'
      · refine ⟨v', false, rfl, ⟨dx, _, hv4⟩, iteT ⟨_, rfl, ?_⟩⟩
        exact k2 H4 i (.ref q) ri (s0.trans (s2.trans s4)) (by simpa using hri) (by simpa using hv) (parts_not_alike ha) fun j r' hj hr' => al j r' hj (by simpa using hr')
    · have := (List.getElem?_eq_some_iff.mp (show rt[j]? = some r' by simpa using hr')).1
      omega
end
end K70
-- K70Ask
/-! a function that is asked; what told_back computes -/
namespace K70
open L2 PySem PySem.Spec PyProof.Rows StX
/-- all but what stands at q stays -/
def SameQ (q : Addr) (H H' : Hp) : Prop := ∀ b o, b ≠ q → H b = some o → H' b = some o
theorem SameQ.of {q : Addr} {H H' : Hp} (s : Same H H') : SameQ q H H' := fun b o _ e => s b o e
theorem SameQ.trans {q : Addr} {H H1 H2 : Hp} (a : SameQ q H H1) (b : SameQ q H1 H2) : SameQ q H H2 := fun c o n e => b c o n (a c o n e)
theorem SameQ.rule {K : PySem.W.Frag} {q p : Addr} {H H' : Hp} {r : PR} (hq : ∃ u, H q = some (.lst u)) (s : SameQ q H H') (h : RuleAt K H p r) : RuleAt K H' p r := by
  obtain ⟨u, hq⟩ := hq
  obtain ⟨dx, m, a, t, h1, h2, h3, h4⟩ := h
  have n : ∀ {b : Addr} {o : HO}, H b = some o → (∀ v, o ≠ .lst v) → b ≠ q := fun e k z => by
    rw [z, hq] at e
    exact k u (Option.some.inj e).symm
  have tt : ∀ {b : Addr} {l : List Int}, TpI H b l → TpI H' b l := fun e => s _ _ (n e (fun v z => by cases z)) e
  exact ⟨dx, m, a, t, s _ _ (n h1 (fun v z => by cases z)) h1, tt h2, tt h3, tt h4⟩
theorem SameQ.rules {K : PySem.W.Frag} {q : Addr} {H H' : Hp} {ys : List V} {rs : List PR} (hq : ∃ u, H q = some (.lst u)) (s : SameQ q H H') (h : RulesIn K H ys rs) : RulesIn K H' ys rs := Paired.mapP h fun _ _ ⟨p, e, z⟩ => ⟨p, e, s.rule hq z⟩
theorem SameQ.ents {q : Addr} {H H' : Hp} {ys : List V} {es : List Ent} (hq : ∃ u, H q = some (.lst u)) (s : SameQ q H H') (h : EntsAt H ys es) : EntsAt H' ys es := Paired.mapP h fun _ _ ⟨p, e, z⟩ => ⟨p, e, s _ _ (fun k => by
  obtain ⟨u, hq⟩ := hq
  rw [k, hq] at z
  cases z) z⟩
/-- f is a function of two addresses that answers hid; J tells what was asked -/
structure AskOk (P : Program) (w : World) (K : PySem.W.Frag) (mg : Str → Option Value) (base : Heap) (k : Nat) (f q : Addr) (J : List (Nat × Nat) → Hp → Prop) (hid : Nat → Nat → Bool) (outer0 : List Env) (s0 : Shared) (H0 : Hp) : Prop where
  run : ∀ (A : Around) (outer : List Env) (s : Shared) (H : Hp) (a b : Nat) (t1 t2 : Tok) (es : List (Nat × Nat)) (Q : VK), Room k A → Env0 P w K mg base A outer s H → Un (frs outer0) [] H0 H s0.heap s.heap → J es H → es.length ≤ 1000 → a ≤ 10 ^ 30 → b ≤ 10 ^ 30 →
    (∀ H', SameQ q H H' → J (es ++ [(a, b)]) H' → Q (.bl (hid a b)) H') → codeAny (model P w) A (.call (.ref f) ⟨[.int (a : Int) t1, .int (b : Int) t2], []⟩) (CR CX0 outer P w H s Q E0) s
  fn : ∀ es (s : Shared) (H : Hp), J es H → HOk P w H s.heap → PySem.W.FnAt f s.heap
  old : ∀ es H1 H2, J es H1 → (∀ b o, H0 b ≠ none → H1 b = some o → H2 b = some o) → (∀ b xs, H1 b = some (.tup xs) → H2 b = some (.tup xs)) → J es H2
  live : ∀ es H, J es H → ∃ u, H q = some (.lst u)
theorem AskOk.same {P : Program} {w : World} {K : PySem.W.Frag} {mg : Str → Option Value} {base : Heap} {k : Nat} {f q : Addr} {J : List (Nat × Nat) → Hp → Prop} {hid : Nat → Nat → Bool} {outer0 : List Env} {s0 : Shared} {H0 : Hp} (A : AskOk P w K mg base k f q J hid outer0 s0 H0) (es : List (Nat × Nat)) (H1 H2 : Hp) (j : J es H1) (s : Same H1 H2) : J es H2 := A.old es H1 H2 j (fun b o _ e => s b o e) fun b xs e => s b _ e
def tAsk (f q : Addr) (J : List (Nat × Nat) → Hp → Prop) (hid : Nat → Nat → Bool) (i : Nat) (t : TA) : TE := fun σ H Q => σ[i]? = some (some (.ref f)) ∧ ∃ es : List (Nat × Nat), es.length ≤ 1000 ∧ J es H ∧ t σ H fun vs H1 => ∃ a b : Nat, vs = [.int (a : Int), .int (b : Int)] ∧ J es H1 ∧ a ≤ 10 ^ 30 ∧ b ≤ 10 ^ 30 ∧
  ∀ H', SameQ q H1 H' → J (es ++ [(a, b)]) H' → Q (.bl (hid a b)) H'
section
variable {X : Cx} {i j k : Nat} {x : Str} {f q : Addr} {J : List (Nat × Nat) → Hp → Prop} {hid : Nat → Nat → Bool} {t : TA} {e : Expr} {es : List Expr} {p pos : Pos}
theorem pe_askV (hi : X.N[i]? = some x) (hv : Vis X.env.scope x) (A0 : AskOk X.prog X.w X.K X.mg X.base k f q J hid X.outer X.s_0 X.H_0) (hex : X.ex = []) (hr : Room j X.A) (hk : k ≤ j) (hx : Passes CX0 X E0) (ha : PA X (e :: es) t)
    (hd : (x == ("__debug__" : Str)) = false := by decide) (hcdk : (x == ("__classdict__" : Str)) = false := by decide)
    (hek : starEach (e :: es) X.env = (false, eval e X.env) :: starEach es X.env := by rfl) (hpl : (backTo pos (starEach es X.env)).any (·.1) = false := by rfl) :
    PE X (.Call (.Name x p) (e :: es) [] pos) (tAsk f q J hid i t) := by
  refine ⟨fun pins s σ H Q Ik h => ?_⟩
  obtain ⟨hs, es0, z0, j0, ht⟩ := h
  refine wpAny_Call_Name_kw (thn ((pe_var (pos := p) hi hv hd hcdk).run pins s σ H (fun v H1 => v = .ref f ∧ H1 = H) Ik ⟨.ref f, hs, rfl, rfl⟩) fun u s1 ⟨v, H1, I1, r1k, q1⟩ => ?_)
  obtain ⟨ev, eH⟩ := q1
  subst ev
  rw [eH] at I1
  obtain rfl : u = Value.ref f := r1k
  refine PySem.W.callWith_F (first := []) (A0.fn _ _ _ j0 I1.hok) (thn (ha.run pos pins s1 σ H _ I1 ht) fun us s2 ⟨vs, H2, I2, r, a, b, ev, j2, la, lb, kk⟩ => ⟨A0.fn _ _ _ j2 I2.hok, ?_⟩) hek hpl
  subst ev
  (show wpAny _ _ (call (.ref f) us) _ _ _)
  cases r with
  | cons ra r =>
    cases r with
    | cons rb r =>
      cases r
      obtain ⟨ta, rfl⟩ := ra
      obtain ⟨tb, rfl⟩ := rb
      have un := I2.base
      rw [hex] at un
      refine wpAny_call (codeAny_mono (A0.run X.A X.stack s2 H2 a b ta tb _ Q (hr.mono hk) I2.env0 un j2 z0 la lb kk) fun r s' hq => ?_)
      cases r with
      | error e => exact hx pins σ H2 s2 e s' I2 hq
      | ok fl =>
        cases fl with
        | ret u => exact I2.after hq
        | next => exact False.elim hq
        | brk => exact False.elim hq
        | cont => exact False.elim hq
end
/-- a call of an instance; no word of the running context -/
def tCallI (C : Addr) (sp : Sp) (tf : TE) (t : TA) : TE := fun σ H Q => tf σ H fun y H1 => ∃ a, y = V.ref a ∧ t σ H1 fun vs H2 => (∃ dx fs, H2 a = some (.ins C dx fs)) ∧ sp (V.ref a :: vs) H2 Q E0
theorem pe_callI {X : Cx} {C g : Addr} {sp : Sp} {fe e : Expr} {es : List Expr} {tf : TE} {t : TA} {k : Nat} {pos : Pos} (hf : PE X fe tf) (c : CallO X.K C g) (F : FnR X.prog X.w X.K X.mg X.base CX0 k g sp) (hr : Room k X.A) (ha : PA X (e :: es) t)
    (htk : eval (.Call fe (e :: es) [] pos) X.env = (do callWith pos (← eval fe X.env) [] (backTo pos (starEach (e :: es) X.env)) (backToKw pos (keywordEach [] X.env))) := by rfl)
    (he : starEach (e :: es) X.env = (false, eval e X.env) :: starEach es X.env := by rfl) (hpl : (backTo pos (starEach es X.env)).any (·.1) = false := by rfl) : PE X (.Call fe (e :: es) [] pos) (tCallI C sp tf t) := by
  refine ⟨fun pins s σk H Q I h => ?_⟩
  refine Call_ (thn (hf.run pins s σk H _ I h) fun u s1 ⟨y, H1, I1, ry, a, ey, q⟩ => ?_) htk
  subst ey
  (obtain rfl : u = Value.ref a := ry)
  refine callO_with (thn (ha.run pos pins s1 σk H1 _ I1 q) fun us s2 ⟨vs, H2, I2, r, hi, q2⟩ => ?_) he hpl
  obtain ⟨ox, od, J, hd⟩ := insC_at I2 (.inr hi)
  exact ⟨⟨C, ox, od, J, hd⟩, run_callO c F hr pass0 I2 (.inr hi) r q2⟩
/-- a list comprehension with a test, over a heap that grows: the items at which b tells -/
theorem lc_listF {K : PySem.W.Frag} {a : Addr} {xs : List V} {g : TG} {tt : TT} {te : TE} {vs : List Nat} {σ : L2.St} {H1k : Hp} {D : Addr} {Qd : Hp → Prop} (b : Nat → Bool) (hD : H1k D = none) (ha : SqL K H1k a xs) (hz : xs.length ≤ sizeLine)
    (hs : ∀ i x H, xs[i]? = some x → Same H1k H → ∀ Qk : Bool → V → Hp → Prop, (∀ H4, Same H H4 → b i = true → Qk true x H4) → (∀ H4, Same H H4 → b i = false → Qk false x H4) → g x (wipe σ vs) H fun σ2 H2 => wipe σ2 vs = wipe σ vs ∧ tt σ2 H2 fun c H3k => if c = true then te σ2 H3k (Qk true) else Qk false x H3k)
    (hd : ∀ H, Same H1k H → H D = some (.lst ((xs.zipIdx.filter fun p => b p.2).map (·.1))) → Qd H) :
    ∃ W : Nat → Nat → Hp → Prop, (∃ m, W 0 m (upd H1k D (.lst []))) ∧ ∀ i m H, W i m H →
      ((Itl K a).stop i H ∧ Qd H) ∨ ((Itl K a).go i H ∧ ∃ Nx : Hp → Prop, (∀ H', Nx H' → ∃ m', m' < m ∧ W (i + 1) m' H') ∧ ∀ x H', (Itl K a).yld i H x H' → g x (wipe σ vs) H' fun σ2 H2 => wipe σ2 vs = wipe σ vs ∧ tt σ2 H2 fun b H3k =>
        if b = true then te σ2 H3k fun y H4 => ∃ acc, H4 D = some (.lst acc) ∧ acc.length < sizeLine ∧ Nx (upd H4 D (.lst (acc ++ [y]))) else Nx H3k) := by
  have len : ∀ i, i ≤ xs.length → (((xs.take i).zipIdx.filter fun p => b p.2).map (·.1)).length ≤ i := fun i hi => by
    rw [List.length_map]
    refine Nat.le_trans (List.length_filter_le _ _) ?_
    rw [List.length_zipIdx, List.length_take]
    exact Nat.min_le_left _ _
  have step : ∀ i x, xs[i]? = some x → ((xs.take (i + 1)).zipIdx.filter fun p => b p.2).map (·.1) = ((xs.take i).zipIdx.filter fun p => b p.2).map (·.1) ++ if b i = true then [x] else [] := fun i x hx => by
    have hi := (List.getElem?_eq_some_iff.mp hx).1
    rw [take_snoc hx, List.zipIdx_append, List.filter_append, List.map_append]
    congr 1
    have e : (xs.take i).length = i := by rw [List.length_take]; omega
    simp only [e, List.zipIdx_singleton, Nat.zero_add]
    cases hb : b i with
    | true => simp [List.filter, hb]
    | false => simp [List.filter, hb]
  refine lc_list (fun i H => Same H1k H ∧ H D = some (.lst (((xs.take i).zipIdx.filter fun p => b p.2).map (·.1)))) ⟨Same.put hD, upd_same⟩ (fun i H _ p => p.1.seq ha) (fun i x H hx p => ?_) fun H p => hd H p.1 (by rw [p.2, List.take_length])
  obtain ⟨s, e⟩ := p
  have hi : i < xs.length := (List.getElem?_eq_some_iff.mp hx).1
  have q := hs i x H hx s (fun c y H4 => if c = true then ∃ acc, H4 D = some (.lst acc) ∧ acc.length < sizeLine ∧ (Same H1k (upd H4 D (.lst (acc ++ [y]))) ∧ (upd H4 D (.lst (acc ++ [y]))) D = some (.lst (((xs.take (i + 1)).zipIdx.filter fun p => b p.2).map (·.1))))
    else (Same H1k H4 ∧ H4 D = some (.lst (((xs.take (i + 1)).zipIdx.filter fun p => b p.2).map (·.1)))))
    (fun H4 s4 hb => by
      rw [if_pos rfl]
      exact ⟨_, s4 _ _ e, Nat.lt_of_le_of_lt (len i (by omega)) (by omega), Same.set (s.trans s4) hD, by rw [upd_same, step i x hx, if_pos hb]⟩)
    (fun H4 s4 hb => by
      (rw [if_neg Bool.false_ne_true])
      exact ⟨s.trans s4, by rw [s4 _ _ e, step i x hx, if_neg (by rw [hb]; exact Bool.false_ne_true), List.append_nil]⟩)
  simpa using q
/-! ### what is asked -/
def meets (r : PR) (a b : Nat) : Bool := decide (bankI r.m (wtR r) a = bankI r.m (wtR r) b)
/-- the least second, then the least first -/
def minP : List (Nat × Nat) → Option (Nat × Nat)
  | [] => none
  | x :: l => match minP l with
    | none => some x
    | some y => if x.1 < y.1 ∨ (x.1 = y.1 ∧ x.2 ≤ y.2) then some x else some y
theorem minP_some {l : List (Nat × Nat)} {y : Nat × Nat} (h : minP l = some y) : y ∈ l ∧ ∀ x ∈ l, y.1 ≤ x.1 ∧ (y.1 = x.1 → y.2 ≤ x.2) := by
  induction l generalizing y with
  | nil => cases h
  | cons x l ih =>
    unfold minP at h
    cases e : minP l with
    | none =>
      rw [e] at h
      cases h
      have el : l = [] := by
        cases l with
        | nil => rfl
        | cons a b =>
          unfold minP at e
          cases e2 : minP b <;> rw [e2] at e
          · cases e
          · simp only at e
            split at e <;> cases e
      subst el
      exact ⟨List.mem_cons_self, fun z hz => by
        rw [List.mem_singleton.mp hz]
        exact ⟨Nat.le_refl _, fun _ => Nat.le_refl _⟩⟩
    | some w =>
      rw [e] at h
      obtain ⟨hw, lw⟩ := ih e
      simp only at h
      split at h
      · rename_i c
        cases h
        refine ⟨List.mem_cons_self, fun z hz => ?_⟩
        (rcases List.mem_cons.mp hz with rfl | hz)
        · exact ⟨Nat.le_refl _, fun _ => Nat.le_refl _⟩
        · have := lw z hz
          omega
      · rename_i c
        cases h
        refine ⟨List.mem_cons_of_mem _ hw, fun z hz => ?_⟩
        (rcases List.mem_cons.mp hz with rfl | hz)
        · omega
        · exact lw z hz
theorem minP_none {l : List (Nat × Nat)} (h : minP l = none) : l = [] := by
  cases l with
  | nil => rfl
  | cons a b =>
    unfold minP at h
    cases e2 : minP b <;> rw [e2] at h
    · cases h
    · simp only at h
      split at h <;> cases h
def partP (r s : PR) : Option (Nat × Nat) := minP (splitP (limT r s))
theorem partP_of {r s : PR} {a b : Nat} (h : PartsAt r s a b) : partP r s = some (a, b) := by
  unfold partP
  cases e : minP (splitP (limT r s)) with
  | none =>
    have := splitP_mem.mpr h.1
    rw [minP_none e] at this
    cases this
  | some y =>
    obtain ⟨h1, h2⟩ := minP_some e
    have h3 := h2 (a, b) (splitP_mem.mpr h.1)
    have h4 := h.2 y.1 y.2 (splitP_mem.mp h1)
    obtain ⟨y1, y2⟩ := y
    simp only at h3 h4
    have e1 : y1 = a := by omega
    subst e1
    have e2 : y2 = b := by omega
    rw [e2]
theorem partP_alike {r s : PR} (h : alikeB r s = true) : partP r s = none := by
  unfold partP
  have e : splitP (limT r s) = [] := List.isEmpty_iff.mp h
  rw [e]
  rfl
theorem partP_some {r s : PR} (h : alikeB r s = false) : ∃ a b, partP r s = some (a, b) ∧ PartsAt r s a b := by
  unfold partP
  cases e : minP (splitP (limT r s)) with
  | none =>
    unfold alikeB at h
    rw [minP_none e] at h
    cases h
  | some y =>
    obtain ⟨h1, h2⟩ := minP_some e
    exact ⟨y.1, y.2, rfl, splitP_mem.mp h1, fun a' b' z => h2 (a', b') (splitP_mem.mpr z)⟩
/-- (second, first) that part the first one and the first that is not alike -/
def partR (r0 : PR) : List PR → Option (Nat × Nat)
  | [] => none
  | r :: l => match partP r0 r with
    | none => partR r0 l
    | some p => some p
theorem partR_cons {r0 s : PR} {l : List PR} : partR r0 (s :: l) = match partP r0 s with
    | none => partR r0 l
    | some p => some p := by
  rw [partR]
theorem partR_none {r0 : PR} {l : List PR} (h : ∀ r ∈ l, alikeB r0 r = true) : partR r0 l = none := by
  induction l with
  | nil => rfl
  | cons r l ih =>
    rw [partR_cons, partP_alike (h r List.mem_cons_self)]
    exact ih fun s hs => h s (List.mem_cons_of_mem _ hs)
theorem partR_at {r0 : PR} {l : List PR} {r : PR} {p : Nat × Nat} (e : partP r0 r = some p) : ∀ {i : Nat}, l[i]? = some r → (∀ j r', j < i → l[j]? = some r' → alikeB r0 r' = true) → partR r0 l = some p := by
  induction l with
  | nil =>
    intro i h _
    simp at h
  | cons s l ih =>
    intro i h al
    rw [partR_cons]
    cases i with
    | zero =>
      have es : s = r := by simpa using h
      rw [es, e]
    | succ i =>
      have a0 : alikeB r0 s = true := al 0 s (Nat.succ_pos i) (by simp)
      rw [partP_alike a0]
      exact ih (i := i) (by simpa using h) fun j r' hj hr => al (j + 1) r' (by omega) (by simpa using hr)
/-- told_back: hid first second -/
def toldF (hid : Nat → Nat → Bool) : Nat → List PR → List Ent → PR × List Ent
  | 0, rs, es => (rs.headD ⟨[], [], []⟩, es)
  | n + 1, rs, es => match partR (rs.headD ⟨[], [], []⟩) rs.tail with
    | none => (rs.headD ⟨[], [], []⟩, es)
    | some p => toldF hid n (rs.filter fun r => meets r p.2 p.1 == hid p.2 p.1) (es ++ [(p.2, p.1, hid p.2 p.1)])
end K70
-- K70Told
/-! plain facts of the loop of told_back -/
namespace K70
open L2 PySem PySem.Spec PyProof.Rows StX
theorem paired_filter {α β : Type} {F : α → β → Prop} (f : β → Bool) : ∀ {ys : List α} {rs : List β}, Paired F ys rs → ∀ (k : Nat) (g : Nat → Bool), (∀ i r, rs[i]? = some r → g (k + i) = f r) → Paired F (((ys.zipIdx k).filter fun p => g p.2).map (·.1)) (rs.filter f)
  | _, _, .nil, k, g, h => .nil
  | _, _, @Paired.cons _ _ _ y r ys rs a t, k, g, h => by
    have h0 : g k = f r := h 0 r (by simp)
    have ih := paired_filter f t (k + 1) g fun i r' hr => by
      have := h (i + 1) r' (by simpa using hr)
      rw [← this]
      congr 1
      omega
    rw [List.zipIdx_cons, List.filter_cons, List.filter_cons]
    simp only [h0]
    cases f r with
    | true => exact .cons a ih
    | false => exact ih
theorem lim_ok (r s : PR) : TOk r s 64 (limT r s) := tabR_ok r s 64
theorem sss_lt {r s : PR} {a b : Nat} (h : SSS (limT r s) a b) : b < a ∧ a < 2 ^ 64 := by
  have ok := lim_ok r s
  have one : ∀ sd, SS (limT r s) sd a b → b < a ∧ a < 2 ^ 64 := fun sd ⟨e1, h1, e2, h2, _, l, ea, eb⟩ => by
    have := (ok.all e1 h1).1
    omega
  exact h.elim (one _) (one _)
theorem nd_uniq {t : Tab} (ndk : NdT t) : ∀ x ∈ t, ∀ y ∈ t, x.1 = y.1 → x = y := by
  induction t with
  | nil => intro x h; cases h
  | cons z t ih =>
    unfold NdT at ndk
    rw [List.map_cons, List.nodup_cons] at ndk
    intro x hx y hy e
    rcases List.mem_cons.mp hx with hx | hx
    · rcases List.mem_cons.mp hy with hy | hy
      · rw [hx, hy]
      · rw [hx] at e
        exact absurd (List.mem_map.mpr ⟨y, hy, e.symm⟩) ndk.1
    · rcases List.mem_cons.mp hy with hy | hy
      · rw [hy] at e
        exact absurd (List.mem_map.mpr ⟨x, hx, e⟩) ndk.1
      · exact ih ndk.2 x hx y hy e
theorem sss_meets {r s : PR} {a b : Nat} (h : SSS (limT r s) a b) : meets r b a ≠ meets s b a := by
  have ok := lim_ok r s
  have uniq := nd_uniq ok.nd
  have one : ∀ sd, SS (limT r s) sd a b → meets r b a ≠ meets s b a := fun sd ⟨e1, h1, e2, h2, es, l, ea, eb⟩ => by
    obtain ⟨_, p1, p2⟩ := ok.all e1 h1
    obtain ⟨_, q1, q2⟩ := ok.all e2 h2
    subst ea eb
    unfold meets
    rw [← p1, ← p2, ← q1, ← q2]
    intro z
    have ne : ¬ (e1.1 = e2.1) := fun k => by
      rw [uniq e1 h1 e2 h2 k] at l
      exact Nat.lt_irrefl _ l
    have iff : e2.1.1 = e1.1.1 ↔ e2.1.2 = e1.1.2 := by simpa using z
    cases sd with
    | false =>
      have e0 : e1.1.1 = e2.1.1 := es
      exact ne (Prod.ext e0 (iff.mp e0.symm).symm)
    | true =>
      have e0 : e1.1.2 = e2.1.2 := es
      exact ne (Prod.ext (iff.mpr e0.symm).symm e0)
  exact h.elim (one _) (one _)
theorem filter_less {α : Type} {f : α → Bool} {l : List α} {x : α} (hx : x ∈ l) (h : f x = false) : (l.filter f).length < l.length := by
  have le := List.length_filter_le f l
  rcases Nat.lt_or_ge (l.filter f).length l.length with q | q
  · exact q
  · have e : (l.filter f).length = l.length := by omega
    have := List.length_filter_eq_length_iff.mp e x hx
    rw [h] at this
    cases this
abbrev stepL (hid : Nat → Nat → Bool) (rs : List PR) (p : Nat × Nat) : List PR := rs.filter fun r => meets r p.2 p.1 == hid p.2 p.1
theorem toldF_done {hid : Nat → Nat → Bool} {n : Nat} {rs : List PR} {es : List Ent} (h : partR (rs.headD ⟨[], [], []⟩) rs.tail = none) : toldF hid n rs es = (rs.headD ⟨[], [], []⟩, es) := by
  cases n with
  | zero => rw [toldF]
  | succ n => rw [toldF, h]
theorem toldF_step {hid : Nat → Nat → Bool} {n : Nat} {rs : List PR} {es : List Ent} {p : Nat × Nat} (h : partR (rs.headD ⟨[], [], []⟩) rs.tail = some p) : toldF hid (n + 1) rs es = toldF hid n (stepL hid rs p) (es ++ [(p.2, p.1, hid p.2 p.1)]) := by
  rw [toldF, h]
theorem tN {σ : L2.St} {H : Hp} {Q : List V → Hp → Prop} (h : Q [] H) : tNil σ H Q := h
/-- the items that first_other gives -/
def OthOk (rs : List PR) (ys : List V) (oth : V) : Prop := (oth = .non ∧ ∀ i r, rs[i + 1]? = some r → alikeB (rs.headD ⟨[], [], []⟩) r = true) ∨
  ∃ i p r, oth = .ref p ∧ rs[i + 1]? = some r ∧ ys[i + 1]? = some (.ref p) ∧ alikeB (rs.headD ⟨[], [], []⟩) r = false ∧ ∀ j r', j < i → rs[j + 1]? = some r' → alikeB (rs.headD ⟨[], [], []⟩) r' = true
theorem sp_fo1 {K : PySem.W.Frag} {H : Hp} {Q : VK} {E : XK} (l : Addr) (ys : List V) (rs : List PR) (hl : H l = some (.lst ys)) (hR : RulesIn K H ys rs) (ne : rs ≠ []) (len : rs.length ≤ 1000) (sm : ∀ r ∈ rs, SmallP (rs.headD ⟨[], [], []⟩) r)
    (hT : H (ct2 K "first_other") = some (TabX (ct2 K "first_other"))) (k : ∀ H' oth, Same H H' → OthOk rs ys oth → Q oth H') : sp_first_other K [.ref l] H Q E :=
  ⟨l, ys, rs, rfl, hl, hR, ne, len, sm, hT, fun H' s al => k H' .non s (.inl ⟨rfl, al⟩), fun H' i y r s h1 h2 h3 h4 => by
    obtain ⟨_, _, p, rfl, _⟩ := paired_at hR h2
    exact k H' _ s (.inr ⟨i, p, r, rfl, h1, h2, h3, h4⟩)⟩
end K70
-- K70F19
namespace K70
open L2 PySem PySem.Spec PyProof.Rows StX
/-- a promise that sees where the call begins, for any way to bind -/
def FnSB (P : Program) (w : World) (K : PySem.W.Frag) (mg : Str → Option Value) (base : Heap) (k : Nat) (f : Addr) (fd : FuncData) (ps : List Str) (sp : List Env → Shared → Sp) : Prop :=
  ∀ (A : Around) (outer : List Env) (s : Shared) (H : Hp) (args : Args) (us : List Value) (vs : List V) (Q : VK) (E : XK), Room k A → Env0 P w K mg base A outer s H → BindsTo s fd args (ps.zip us) → Vals vs us → sp outer s vs H Q E →
    codeAny (model P w) A (.call (.ref f) args) (CR CX0 outer P w H s Q E) s
section
variable {K : PySem.W.Frag} {mg : Str → Option Value} {base : Heap} {P : Program} {w : World}
theorem fnSB_of {x qual : Str} {st : Stmt} {f : Addr} {N ps : List Str} {k : Nat} {sp : List Env → Shared → Sp} {fd : FuncData} (F : FunD K x qual (defArgs st) (defBody st) (defScope st) [] [] f fd) (S : FnScope N ps (defScope st))
    (len : ∀ outer s vs H Q E, sp outer s vs H Q E → vs.length = ps.length)
    (body : ∀ (cdv : Value) (A : Around) (outer : List Env) (s : Shared) (H : Hp) (vs : List V) (Q : VK) (E : XK), Room k (A.deeper (envOfC qual (defScope st) s.heap.objs.size f cdv)) → sp outer s vs H Q E →
      ∃ t, PSs (cxOf CX0 P w K mg base N qual (defScope st) f cdv A outer s H E).nox (defBody st) t ∧ t { nx := fun _ H'k => Q .non H'k, rt := Q } (start N vs) H) : FnSB P w K mg base (k + 1) f fd ps sp := by
  obtain ⟨oc, od, dV, kV, doc, pm, ank, cdv, ct, osl, rfl, lk, hcd, _, _⟩ := F.ex
  intro A outer s H args us vs Q E hr e0 bound rel hsp
  have lenU : us.length = ps.length := by rw [← rel.length]; exact len _ _ _ _ _ _ hsp
  have kin : K.In s.heap := e0.mod.kin.keeps fun b o e => (e0.bs b o e).1
  have nolim : s.heap.NoLimit := e0.mod.nolimit.keeps fun b o e => (e0.bs b o e).1
  have kinds : ∀ y ∈ ps.zip us, (defScope st).names.lookup y.1 = some .local ∨ ((defScope st).names.lookup y.1 = some .cell ∧ ((cellsFrom (s.heap.objs.size + 1) (defScope st).names []).lookup y.1).isSome = true) := fun ⟨n, v⟩ hyk => by
    rcases S.par n (List.of_mem_zip hyk).1 with q | q
    · exact .inl q
    · (exact .inr ⟨q, PySem.W.cellsFrom_some _ _ _ (.inl q)⟩)
  refine codeAny_call_function hr.depth (kin _ _ lk) rfl S.co S.gen rfl (PySem.W.codeRec_of kin hcd) (bound _ _ _ _ ?_)
  refine wpAny_newFunctionEnv_cells S.kind kinds fun env he s1 laid => ?_
  subst he
  refine ⟨nolim.keeps laid.toInCall.keep, codeAny_func ?_⟩
  obtain ⟨t, ht, hq⟩ := body cdv A outer s H vs Q E (hr.deeper _) hsp
  have ht := ht.nox
  have I : Inv (cxOf CX0 P w K mg base N qual (defScope st) f cdv A outer s H E) [] (start N vs) H s1 := inv_start S hr.hd e0 (len _ _ _ _ _ _ hsp) rel laid
  refine wpAny_mono (ht.run [] s1 (start N vs) H _ I hq) (fun fl s' hsk => ?_) fun e s' hsk => hsk
  have ends : ∀ {σ' : L2.St} {H'k : Hp} {v : V} {u : Value}, Inv (cxOf CX0 P w K mg base N qual (defScope st) f cdv A outer s H E) [] σ' H'k s' → RelV v u → Q v H'k → CE outer P w H s Q u s' :=
    fun {σ' H'k v u} J rv q => ⟨v, H'k, J.os, J.bare, J.base, J.hok, rv, q⟩
  cases fl with
  | ret u => obtain ⟨v, σ', H'k, J, rv, q⟩ := hsk; exact ends J rv q
  | next => obtain ⟨σ', H'k, J, q⟩ := hsk; exact ends (v := V.non) (u := Value.none) J rfl q
  | brk => obtain ⟨_, _, _, q⟩ := hsk; exact False.elim q
  | cont => obtain ⟨_, _, _, q⟩ := hsk; exact False.elim q
def FoundAt (K : PySem.W.Frag) (H : Hp) (p : Addr) (r : PR) (es : List Ent) : Prop := ∃ dx y l, H p = some (.ins (He.ga K "Found") dx [("rule", .ref y), ("log", .ref l)]) ∧ RuleAt K H y r ∧ LogAt K H l es
def sp_told_back (P : Program) (w : World) (K : PySem.W.Frag) (mg : Str → Option Value) (base : Heap) : List Env → Shared → Sp := fun outer s vs H Q _ => ∃ (p fa q : Addr) (z : Sh) (J : List (Nat × Nat) → Hp → Prop) (hid : Nat → Nat → Bool), vs = [.ref p, .ref fa] ∧ ShapeAt K H p z ∧
  z.rs.length ≤ 1000 ∧ (∀ r ∈ z.rs, ∀ r' ∈ z.rs, SmallP r r') ∧ (∃ h ∈ z.rs, ∀ a b, hid a b = meets h a b) ∧ AskOk P w K mg base 8 fa q J hid outer s H ∧ J [] H ∧ H (ct2 K "first_other") = some (TabX (ct2 K "first_other")) ∧
  ∀ H' fo, SameQ q H H' → J ((toldF hid z.rs.length z.rs []).2.map fun e => (e.1, e.2.1)) H' → FoundAt K H' fo (toldF hid z.rs.length z.rs []).1 (toldF hid z.rs.length z.rs []).2 → Q (.ref fo) H'
theorem sc_told_back : FnScope ["shape", "ask", "left", "entries", "other", "asked", "met", "rule"] ["shape", "ask"] (defScope stold_back) := ⟨rfl, rfl, rfl, by decide +kernel, rfl, by decide +kernel, by decide +kernel⟩
theorem okB_told_back (T : Tx K mg) (B : TabF K mg base "first_other") {fd : FuncData} (F : FunD K "told_back" "told_back" (defArgs stold_back) (defBody stold_back) (defScope stold_back) [] [] (He.ga K "told_back") fd) :
    FnSB P w K mg base 14 (He.ga K "told_back") fd ["shape", "ask"] (sp_told_back P w K mg base) := by
  have c_need_shape := ok_need_shape (P := P) (w := w) (base := base) T
  have c_first_other := ok_first_other (P := P) (w := w) (base := base) T B
  have c_same_banks := ok_same_banks (P := P) (w := w) (base := base) T
  have c_call := ok_Rule_call (P := P) (w := w) (base := base) T
  have c_Log := ok_Log_init (P := P) (w := w) (base := base) T
  have c_Found := ok_Found_init (P := P) (w := w) (base := base) T
  refine fnSB_of F sc_told_back (fun outer s vs H Q E h => ?_) (fun cdv A outer s H vs Q E hr h => ?_)
  · obtain ⟨p, fa, q, z, J, hid, rfl, _⟩ := h
    rfl
  · obtain ⟨p, fa, q, z, J, hid, rfl, hz, zl, sm, ⟨hr0, hmem, hhid⟩, hA, j0, hT, k⟩ := h
    refine ⟨_, (pss_cons (ps_expr (pe_f c_need_shape (hr.mono (by decide)) (pa_cons (pv 0) pa_nil)))
      (pss_cons (ps_par (i := 2) (j := 3) (by rfl) sc_told_back.nd rfl rfl (by decide) rfl rfl (pa_cons (pe_callTy (call_listOwnT T.m_Shape_iter (ok_Shape_iter T) (hint_no T.x_Shape__len T.x_Shape__length_hint) hr.hd (hr.mono (by decide))) (by rfl) T.b_list (by decide +kernel) (pa_cons (pv 0) pa_nil)) (pa_cons (pe_lst pa_nil) pa_nil)) (by rfl))
      (pss_cons (ps_set (i := 4) sc_told_back.nd rfl (Or.inl rfl) (pe_f c_first_other (hr.mono (by decide)) (pa_cons (pv 2) pa_nil)))
      (pss_cons (ps_while PassesOwn.never (pt_cmpR op_notN (pv 4) pe_non (nomark _)) (pss_cons (ps_set (i := 5) sc_told_back.nd rfl (Or.inr rfl) (pe_f c_same_banks (hr.mono (by decide)) (pa_cons (pe_ix ix_I (pv 2) pe_int (fun _ _ => rfl)) (pa_cons (pv 4) pa_nil))))
      (pss_cons (ps_set (i := 6) sc_told_back.nd rfl (Or.inr rfl) (pe_askV (i := 1) rfl (Or.inl rfl) hA rfl hr (by decide) pass0 (pa_cons (pe_fld (pv 5) rfl) (pa_cons (pe_fld (pv 5) rfl) pa_nil))))
      (pss_cons (ps_if (pt_not (pt_val (pe_callB call_isi (by rfl) T.b_isinstance (by decide +kernel) (pa_cons (pv 6) (pa_cons (pe_bltn (v := .ty "bool") (by rfl) T.b_bool (by decide +kernel) rfl) pa_nil))))) (pss_one ps_never) pss_nil)
      (pss_cons (ps_setLc (i := 2) (own := [("rule", 7)]) (g := gName 7) (tt := tTest (tOp rEq (tOp rEq (tCallI (He.ga K "Rule") (sp_Rule_call K) (tVar 7) (tCons (tFld K (tVar 5) "first") tNil)) (tCallI (He.ga K "Rule") (sp_Rule_call K) (tVar 7) (tCons (tFld K (tVar 5) "second") tNil))) (tVar 6))) (by rfl) sc_told_back.nd rfl rfl (sw_true rfl rfl rfl (by decide +kernel)) (pi_list (pv 2)) (blkOk_by (N := ["shape", "ask", "left", "entries", "other", "asked", "met", "rule"]) (sc := defScope stold_back) (by decide +kernel)) (fun _ _ _ _ _ => (pg_name (i := 7) sc_told_back.nd rfl (Or.inl rfl))) (fun _ _ _ _ _ => pts_one (pt_cmpR op_eq (pe_cmpR op_eq (pe_callI (pv 7) (rule_callO T) (mtd_run c_call) (hr.mono (by decide)) (pa_cons (pe_fld (pv 5) rfl) pa_nil)) (pe_callI (pv 7) (rule_callO T) (mtd_run c_call) (hr.mono (by decide)) (pa_cons (pe_fld (pv 5) rfl) pa_nil)) (nomark _)) (pv 6) (nomark _))) (fun _ _ _ _ _ => (pv 7)))
      (pss_cons (ps_expr (pe_bm PySem.F.plainAttrs_list PySem.F.slot_list_append PySem.F.type_list_append mt_append (pv 3) (pa_cons (pe_tup (pa_cons (pe_fld (pv 5) rfl) (pa_cons (pe_fld (pv 5) rfl) (pa_cons (pv 6) pa_nil)))) pa_nil)))
      (pss_one (ps_set (i := 4) sc_told_back.nd rfl (Or.inl rfl) (pe_f c_first_other (hr.mono (by decide)) (pa_cons (pv 2) pa_nil))))))))))
      (pss_one (ps_ret (pe_mk' c_Found (hr.mono (by decide)) (pa_cons (pe_ix ix_I (pv 2) pe_int (fun _ _ => rfl)) (pa_cons (pe_mkRS1 c_Log (hr.mono (by decide)) (pv 3)) pa_nil))))))))), ?_⟩
    obtain ⟨dz, mz, oz, yz, hp, hmz, hoz, hRz⟩ := hz
    refine ⟨_, rfl, p, _, _, rfl, hp, ?_⟩
    refine ⟨_, rfl, p, _, _, _, _, rfl, hp, rfl, hoz, fun l hl => ⟨True.intro, ?_⟩⟩
    have hlq : ∃ u, H q = some (.lst u) := hA.live _ _ j0
    have s1 : Same H (upd H l (.lst yz)) := Same.put hl
    refine ⟨Nat.zero_le _, fun n hn => ⟨_, _, rfl, ?_⟩⟩
    have s2 : Same H (upd (upd H l (.lst yz)) n (.lst [])) := s1.trans (Same.put hn)
    have hn0 : H n = none := by
      cases e : H n with
      | none => rfl
      | some o => rw [s1 _ _ e] at hn; cases hn
    have nl : l ≠ n := fun z => by rw [← z, upd_same] at hn; cases hn
    have nlq : l ≠ q := fun z => by
      obtain ⟨u, e⟩ := hlq
      rw [z, e] at hl
      cases hl
    have nnq : n ≠ q := fun z => by
      obtain ⟨u, e⟩ := hlq
      rw [z, e] at hn0
      cases hn0
    have hl2 : upd (upd H l (.lst yz)) n (.lst []) l = some (.lst yz) := by rw [upd_ne nl]; exact upd_same
    have hzne : z.rs ≠ [] := fun e => by rw [e] at hmem; cases hmem
    have hd_mem : ∀ rs : List PR, rs ≠ [] → rs.headD ⟨[], [], []⟩ ∈ rs := fun rs ne => by
      cases rs with
      | nil => exact absurd rfl ne
      | cons a b => exact List.mem_cons_self
    refine ⟨_, rfl, ?_⟩
    refine tN ?_
    show sp_first_other K [.ref l] _ _ _
    refine sp_fo1 l yz z.rs hl2 (RulesIn.same hRz s2) hzne zl (fun r hr => sm _ (hd_mem _ hzne) r hr) (s2 _ _ hT) fun H3 oth s3 ho => ?_
    have S3 := s2.trans s3
    refine ⟨fun m σ H' => ∃ (rs : List PR) (es : List Ent) (l' : Addr) (ys ws : List V) (oth : V) (v5 v6 v7 : Option V), σ = [some (.ref p), some (.ref fa), some (.ref l'), some (.ref n), some oth, v5, v6, v7] ∧ SameQ q H H' ∧ l' ≠ q ∧ l' ≠ n ∧ H' l' = some (.lst ys) ∧ RulesIn K H' ys rs ∧ H' n = some (.lst ws) ∧ EntsAt H' ws es ∧
      rs ≠ [] ∧ rs.length ≤ m ∧ toldF hid m rs es = toldF hid z.rs.length z.rs [] ∧ (∀ r ∈ rs, r ∈ z.rs) ∧ hr0 ∈ rs ∧ J (es.map fun e => (e.1, e.2.1)) H' ∧ es.length + rs.length ≤ z.rs.length ∧ (∀ e ∈ es, EntOk e) ∧ OthOk rs ys oth,
      ⟨z.rs.length, z.rs, [], l, yz, [], oth, none, none, none, rfl, .of S3, nlq, nl, s3 _ _ hl2, RulesIn.same hRz S3, s3 _ _ upd_same, .nil, hzne, Nat.le_refl _, rfl, fun _ h => h, hmem, hA.same _ _ _ j0 S3, by simp, fun _ h => (nomatch h), ho⟩, ?_⟩
    rintro m σ H' ⟨rs, es, l', ys, ws, oth, v5, v6, v7, rfl, sq, nlq', nln', hl', hR, hn', hE, rne, rlen, ft, sub, hin, jj, el, eok, ho⟩
    rcases ho with ⟨rfl, al⟩ | ⟨i, po, ri, rfl, hri, hyi, nal, earl⟩
    · refine ⟨_, rfl, rfl, _, rfl, iteF ?_⟩
      obtain ⟨r0, rt, rfl⟩ : ∃ r0 rt, rs = r0 :: rt := by
        cases rs with
        | nil => exact absurd rfl rne
        | cons a b => exact ⟨a, b, rfl⟩
      obtain ⟨p0, yt, rfl, hp0⟩ : ∃ p0 yt, ys = V.ref p0 :: yt ∧ RuleAt K H' p0 r0 := by
        cases hR with
        | cons a t =>
          obtain ⟨p0, e, h0⟩ := a
          exact ⟨p0, _, by rw [e], h0⟩
      have fin : toldF hid z.rs.length z.rs [] = (r0, es) := by
        rw [← ft]
        refine toldF_done (partR_none fun r hr => ?_)
        obtain ⟨i, hi⟩ := List.mem_iff_getElem?.mp hr
        exact al i r (by simpa using hi)
      rw [fin] at k
      refine ⟨_, rfl, l', _, (0 : Int), .ref p0, rfl, rfl, .inl hl', (by unfold atI ixN; simp), _, rfl, n, ws, rfl, .inr (SqL.of hn'), fun x dx hx hd ne => ?_⟩
      have lw : ws.length = es.length := Paired.length hE
      refine log_made (es := es) hx hd ne ?_ (by rw [List.append_nil]; exact hE) eok fun H4 s4 hL => ⟨rfl, fun x2 dx2 hx2 hd2 ne2 => found_made hx2 hd2 ne2 fun H5 s5 hF => ⟨rfl, ?_⟩⟩
      · rw [List.append_nil, lw]
        have := el
        omega
      · have S5 := s4.trans s5
        refine k H5 x2 (sq.trans (.of S5)) (hA.same _ _ _ jj S5) ⟨dx2, p0, x, hF, hp0.same S5, hL.same s5⟩
    · refine ⟨_, rfl, rfl, _, rfl, iteT ?_⟩
      obtain ⟨r0, rt, rfl⟩ : ∃ r0 rt, rs = r0 :: rt := by
        cases rs with
        | nil => exact absurd rfl rne
        | cons a b => exact ⟨a, b, rfl⟩
      obtain ⟨p0, yt, rfl, hp0⟩ : ∃ p0 yt, ys = V.ref p0 :: yt ∧ RuleAt K H' p0 r0 := by
        cases hR with
        | cons a t =>
          obtain ⟨p0, e, h0⟩ := a
          exact ⟨p0, _, by rw [e], h0⟩
      obtain ⟨m, rfl⟩ : ∃ m', m = m' + 1 := ⟨m - 1, by have := rlen; rw [List.length_cons] at this; omega⟩
      have lR := Paired.length hR
      have hri' : rt[i]? = some ri := by simpa using hri
      obtain ⟨ri2, hri2, q2, eq2, hpi⟩ := paired_at hR hyi
      cases eq2
      have eri : ri = ri2 := by rw [hri] at hri2; exact Option.some.inj hri2
      subst eri
      have sm1 : SmallP r0 ri := sm _ (sub _ List.mem_cons_self) _ (sub _ (List.mem_of_getElem? hri))
      refine ⟨fun σ' H'' => ∃ (rs : List PR) (es : List Ent) (l' : Addr) (ys ws : List V) (oth : V) (v5 v6 v7 : Option V), σ' = [some (.ref p), some (.ref fa), some (.ref l'), some (.ref n), some oth, v5, v6, v7] ∧ SameQ q H H'' ∧ l' ≠ q ∧ l' ≠ n ∧ H'' l' = some (.lst ys) ∧ RulesIn K H'' ys rs ∧ H'' n = some (.lst ws) ∧ EntsAt H'' ws es ∧
        rs ≠ [] ∧ rs.length ≤ m ∧ toldF hid m rs es = toldF hid z.rs.length z.rs [] ∧ (∀ r ∈ rs, r ∈ z.rs) ∧ hr0 ∈ rs ∧ J (es.map fun e => (e.1, e.2.1)) H'' ∧ es.length + rs.length ≤ z.rs.length ∧ (∀ e ∈ es, EntOk e) ∧ OthOk rs ys oth, fun σ' H'' h => ⟨m, Nat.lt_succ_self m, h⟩, ?_⟩
      refine ⟨_, rfl, l', _, (0 : Int), .ref p0, rfl, rfl, .inl hl', (by unfold atI ixN; simp), _, rfl, p0, po, r0, ri, rfl, hp0, hpi, sm1, fun H4 v dv fs s4 ha hv => absurd (alikeB_iff.mpr ha) (by rw [show alikeB r0 ri = false from nal]; exact Bool.false_ne_true), fun H4 v dv a b s4 ha hv => ?_⟩
      obtain ⟨lab, la⟩ := sss_lt ha.1
      have big : ∀ c : Nat, c < 2 ^ 64 → c ≤ 10 ^ 30 := fun c h => Nat.le_of_lt (Nat.lt_of_lt_of_le h (by decide))
      have big2 : ∀ c : Nat, c < 2 ^ 64 → c < 2 ^ 1000 := fun c h => Nat.lt_of_lt_of_le h (Nat.pow_le_pow_right (by decide) (by decide))
      have j4 := hA.same _ _ _ jj s4
      refine ⟨rfl, _, (by rw [List.length_map]; have := el; omega), j4, _, rfl, v, _, dv, _, _, rfl, hv, T.c_Parted, T.n_Parted_first, rfl, _, rfl, v, _, dv, _, _, rfl, hv, T.c_Parted, T.n_Parted_second, rfl, b, a, rfl, j4, big _ (by omega), big _ la, fun H5 s5 j5 => ?_⟩
      refine ⟨_, rfl, _, _, _, _, _, rfl, .ty _, .base (.bl _), kit_bool, true, rfl, iteF ?_⟩
      have lq4 := hA.live _ _ j4
      have s45 : SameQ q H' H5 := (SameQ.of s4).trans s5
      have hl5 : H5 l' = some (.lst (V.ref p0 :: yt)) := s45 _ _ nlq' hl'
      have hn5 : H5 n = some (.lst ws) := s45 _ _ nnq hn'
      have hR5 : RulesIn K H5 (V.ref p0 :: yt) (r0 :: rt) := s5.rules lq4 (RulesIn.same hR s4)
      have hE5 : EntsAt H5 ws es := s5.ents lq4 (EntsAt.same hE s4)
      have hv5 : H5 v = some (.ins (He.ga K "Parted") dv [("first", .int (b : Int)), ("second", .int (a : Int))]) := s5 _ _ (fun zz => by
        obtain ⟨u, e⟩ := lq4
        rw [zz, e] at hv
        cases hv) hv
      have zR : (V.ref p0 :: yt).length ≤ 1000 := by
        rw [lR]
        have := el
        omega
      refine ⟨_, rfl, l', rfl, ⟨_, SqL.of hl5⟩, fun D hD => lc_listF (xs := V.ref p0 :: yt) (fun i => meets ((r0 :: rt).getD i ⟨[], [], []⟩) b a == hid b a) hD (SqL.of hl5) (by rw [sizeLine_eq]; omega) (fun i7 x H6 hx s6 Qk kt kf => ?_) fun H6 s6 e6 => ?_⟩
      · obtain ⟨r7, hr7, q7, rfl, h7⟩ := paired_at hR5 hx
        have eg : (r0 :: rt).getD i7 ⟨[], [], []⟩ = r7 := by rw [List.getD_eq_getElem?_getD, hr7]; rfl
        rw [eg] at kt kf
        have ok7 : ROk r7 := (sm _ (sub _ List.mem_cons_self) _ (sub _ (List.mem_of_getElem? hr7))).oks
        have h76 := h7.same s6
        obtain ⟨d7, m7, a7, t7, i71, _⟩ := id h76
        refine ⟨rfl, _, rfl, q7, rfl, _, rfl, v, _, dv, _, _, rfl, s6 _ _ hv5, T.c_Parted, T.n_Parted_first, rfl, ⟨d7, _, i71⟩, q7, r7, b, rfl, h76, ok7, big2 _ (by omega), fun H8 s8 => ?_⟩
        refine ⟨_, rfl, q7, rfl, _, rfl, v, _, dv, _, _, rfl, s8 _ _ (s6 _ _ hv5), T.c_Parted, T.n_Parted_second, rfl, ⟨d7, _, s8 _ _ i71⟩, q7, r7, a, rfl, h76.same s8, ok7, big2 _ la, fun H9 s9 => ?_⟩
        refine ⟨rfl, _, rfl, rfl, _, rfl, ?_⟩
        have ev : (decide (V.bl (decide (V.int (bankI r7.m (wtR r7) b) = V.int (bankI r7.m (wtR r7) a))) = V.bl (hid b a))) = (meets r7 b a == hid b a) := by
          rw [dec_bl, dec_int]
          unfold meets
          by_cases zz : bankI r7.m (wtR r7) b = bankI r7.m (wtR r7) a
          · rw [decide_eq_true zz, zz]
            simp
          · rw [decide_eq_false zz, beq_false_of_ne zz]
        rw [ev]
        cases hb : (meets r7 b a == hid b a) with
        | true => exact iteT ⟨_, rfl, kt H9 (s8.trans s9) hb⟩
        | false => exact iteF (kf H9 (s8.trans s9) hb)
      · have pf : RulesIn K H6 (((V.ref p0 :: yt).zipIdx.filter fun p => (meets ((r0 :: rt).getD p.2 ⟨[], [], []⟩) b a == hid b a)).map (·.1)) (stepL hid (r0 :: rt) (a, b)) :=
          paired_filter (fun r => meets r b a == hid b a) (RulesIn.same hR5 s6) 0 (fun i => meets ((r0 :: rt).getD i ⟨[], [], []⟩) b a == hid b a) fun i r hr => by
            rw [Nat.zero_add, List.getD_eq_getElem?_getD, hr]
            rfl
        generalize ((V.ref p0 :: yt).zipIdx.filter fun p => (meets ((r0 :: rt).getD p.2 ⟨[], [], []⟩) b a == hid b a)).map (·.1) = ys6 at *
        have hn6 := s6 _ _ hn5
        have lw : ws.length = es.length := Paired.length hE
        have hDq : D ≠ q := fun zz => by
          obtain ⟨u, e⟩ := hA.live _ _ j5
          rw [zz, e] at hD
          cases hD
        have hDn : D ≠ n := fun zz => by rw [zz, hn5] at hD; cases hD
        have hv6 := s6 _ _ hv5
        refine ⟨_, rfl, .inl ⟨rfl, _, SqL.of hn6⟩, _, rfl, v, _, dv, _, _, rfl, hv6, T.c_Parted, T.n_Parted_first, rfl, _, rfl, v, _, dv, _, _, rfl, hv6, T.c_Parted, T.n_Parted_second, rfl, _, rfl, ?_⟩
        refine tN ⟨(by rw [sizeLine_eq]; show 3 ≤ _; decide), fun pe hpe => ?_⟩
        have s7 : Same H6 (upd H6 pe (.tup [.int (b : Int), .int (a : Int), .bl (hid b a)])) := Same.put hpe
        have hpe7 : upd H6 pe (.tup [.int (b : Int), .int (a : Int), .bl (hid b a)]) pe = some (.tup [.int (b : Int), .int (a : Int), .bl (hid b a)]) := upd_same
        refine tN ⟨n, ws, _, rfl, rfl, s7 _ _ hn6, (by rw [lw, sizeLine_eq]; have := el; omega), ?_⟩
        have hD7 := s7 _ _ e6
        have hn7 := s7 _ _ hn6
        generalize upd H6 pe (.tup [.int (b : Int), .int (a : Int), .bl (hid b a)]) = H7 at *
        have q8 : SameQ n H7 (upd H7 n (.lst (ws ++ [V.ref pe]))) := fun c o nc e => by rw [upd_ne nc]; exact e
        have hn8 : upd H7 n (.lst (ws ++ [V.ref pe])) n = some (.lst (ws ++ [V.ref pe])) := upd_same
        have hl8 := q8 _ _ hDn hD7
        have hR8 := q8.rules ⟨_, hn7⟩ (RulesIn.same pf s7)
        have hE8 : EntsAt (upd H7 n (.lst (ws ++ [V.ref pe]))) (ws ++ [V.ref pe]) (es ++ [(b, a, hid b a)]) := q8.ents ⟨_, hn7⟩ (paired_app (EntsAt.same (EntsAt.same hE5 s6) s7) (.cons ⟨pe, rfl, hpe7⟩ .nil))
        have sq8 : SameQ q H (upd H7 n (.lst (ws ++ [V.ref pe]))) := fun c o nc e => q8 _ _ (fun zz => by rw [zz, hn0] at e; cases e) (s7 _ _ (s6 _ _ (s45 _ _ nc (sq _ _ nc e))))
        have j8 := hA.old _ _ _ j5 (fun c o hc e => q8 c o (fun zz => hc (by rw [zz]; exact hn0)) (s7 _ _ (s6 _ _ e))) (fun c xs e => q8 c _ (ne_of (s7 _ _ (s6 _ _ e)) hn7 (fun zz => nomatch zz)) (s7 _ _ (s6 _ _ e)))
        generalize upd H7 n (.lst (ws ++ [V.ref pe])) = H8 at *
        have hpart : partR (((r0 :: rt : List PR)).headD ⟨[], [], []⟩) (r0 :: rt).tail = some (a, b) := partR_at (partP_of ha) hri' fun j r' hj hr' => earl j r' hj (by simpa using hr')
        have hin' : hr0 ∈ stepL hid (r0 :: rt) (a, b) := List.mem_filter.mpr ⟨hin, by
          show (meets hr0 b a == hid b a) = true
          rw [hhid]
          simp⟩
        have ne' : stepL hid (r0 :: rt) (a, b) ≠ [] := fun e => by rw [e] at hin'; cases hin'
        have less : (stepL hid (r0 :: rt) (a, b)).length < (r0 :: rt).length := by
          have df := sss_meets ha.1
          cases c1 : (meets r0 b a == hid b a) with
          | false => exact filter_less (x := r0) List.mem_cons_self c1
          | true =>
            refine filter_less (x := ri) (List.mem_of_getElem? hri) ?_
            show (meets ri b a == hid b a) = false
            have := beq_iff_eq.mp c1
            rw [this] at df
            exact beq_false_of_ne (Ne.symm df)
        have sub' : ∀ r ∈ stepL hid (r0 :: rt) (a, b), r ∈ z.rs := fun r hr => sub r (List.mem_filter.mp hr).1
        refine ⟨_, rfl, ?_⟩
        refine tN ?_
        show sp_first_other K [.ref D] _ _ _
        refine sp_fo1 D ys6 (stepL hid (r0 :: rt) (a, b)) hl8 hR8 ne' (by have := el; omega) (fun r hr => sm _ (sub' _ (hd_mem _ ne')) r (sub' r hr)) (sq8 _ _ (fun zz => by
          obtain ⟨u, e⟩ := hlq
          rw [← zz, hT] at e
          cases e) hT) fun H9 oth s9 ho => ?_
        refine ⟨stepL hid (r0 :: rt) (a, b), es ++ [(b, a, hid b a)], D, ys6, ws ++ [V.ref pe], oth, _, _, _, rfl, sq8.trans (.of s9), hDq, hDn, s9 _ _ hl8, RulesIn.same hR8 s9, s9 _ _ hn8, EntsAt.same hE8 s9, ne', by have := rlen; omega, ?_, sub', hin', ?_, ?_, ?_, ho⟩
        · rw [← toldF_step hpart]
          exact ft
        · rw [List.map_append]
          exact hA.same _ _ _ j8 s9
        · (rw [List.length_append, List.length_singleton])
          have := el
          omega
        · intro e hek
          rcases List.mem_append.mp hek with hek | hek
          · exact eok e hek
          · rw [List.mem_singleton.mp hek]
            exact ⟨big _ (by omega), big _ la⟩
theorem ok_told_back (T : Tx K mg) (B : TabF K mg base "first_other") : FnS P w K mg base 14 (He.ga K "told_back") (sp_told_back P w K mg base) := by
  obtain ⟨fd, F⟩ := T.ftold_back
  intro A outer s H us vs Q E hr e0 rel hsp
  have kin : K.In s.heap := e0.mod.kin.keeps fun b o e => (e0.bs b o e).1
  have lenU : us.length = 2 := by
    obtain ⟨p, fa, q, z, J, hid, rfl, _⟩ := id hsp
    rw [← rel.length]
    rfl
  have b := FunD.bindsN (ps := ["shape", "ask"]) F (fun _ _ _ _ _ _ us hl => match us, hl with | [_, _], _ => rfl) s us kin (by simpa using lenU)
  exact okB_told_back T B F A outer s H ⟨us, []⟩ us vs Q E hr e0 (by simpa using b) rel hsp
end
end K70
-- K70Fit
/-! a generator def's frame, taken up at each turn -/
namespace K70
open L2 PySem PySem.Spec PyProof.Rows GenW
/-- the heap up to L -/
def cutH (h : Heap) (L : Nat) : Heap := { h with objs := h.objs.extract 0 L }
theorem cutH_size (h : Heap) (L : Nat) : (cutH h L).objs.size ≤ L := by
  show (h.objs.extract 0 L).size ≤ L
  rw [Array.size_extract]
  omega
theorem cutH_at {h : Heap} {L b : Nat} (hb : b < L) : (cutH h L).objs[b]? = h.objs[b]? := by
  show (h.objs.extract 0 L)[b]? = h.objs[b]?
  rw [Array.getElem?_extract]
  by_cases hs : b < h.objs.size
  · rw [if_pos (by omega), Nat.zero_add]
  · (rw [if_neg (by omega), Array.getElem?_eq_none (by omega)])
theorem cutH_get {h : Heap} {L b : Nat} (hb : b < L) : (cutH h L).get? b = h.get? b := by
  unfold Heap.get?
  rw [cutH_at hb]
theorem cutH_lt {h : Heap} {L b : Nat} {o : Obj} (e : (cutH h L).get? b = some o) : b < L ∧ h.get? b = some o := by
  have l := Heap.lt_size e
  have l2 := cutH_size h L
  have hb : b < L := Nat.lt_of_lt_of_le l l2
  rw [cutH_get hb] at e
  exact ⟨hb, e⟩
theorem cutH_sz {h : Heap} {L n : Nat} (h1 : n ≤ L) (h2 : n ≤ h.objs.size) : n ≤ (cutH h L).objs.size := by
  show n ≤ (h.objs.extract 0 L).size
  rw [Array.size_extract]
  omega
abbrev gfEnv (x : Str) (st : Stmt) (L f : Addr) (cd : Value) : Env := envOfC x (defScope st) L f cd
/-- the generator's frame at L, seen from the state s of a turn -/
def fcx (X : Cx) (A : Around) (x : Str) (st : Stmt) (N : List Str) (L f : Addr) (cd : Value) (s : Shared) (H : Hp) : Cx where
  prog := X.prog
  w := X.w
  K := X.K
  mg := X.mg
  base := X.base
  A := A.deeper (gfEnv x st L f cd)
  N := N
  s_0 := { s with heap := cutH s.heap L }
  H_0 := H
  env := gfEnv x st L f cd
  outer := X.stack
  stack := gfEnv x st L f cd :: X.stack
  ex := []
  calm := true
  fn := fun _ => false
  pn := []
  xe := fun _ _ => False
def isCellB (o : Obj) : Bool := match o.data with
  | .cell _ => true
  | _ => false
theorem isCellB_of {o : Obj} (h : isCellB o = false) : ∀ v, o.data ≠ .cell v := fun v e => by
  unfold isCellB at h
  rw [e] at h
  cases h
/-- all that stands behind the frame and is not tracked -/
def restPins (s : Shared) (H : Hp) (L it : Addr) : List (Addr × Obj) := (List.range s.heap.objs.size).filterMap fun b => match s.heap.get? b with
  | some o => if L < b ∧ b ≠ it ∧ (H b).isNone = true ∧ isCellB o = false then some (b, o) else none
  | none => none
theorem restPins_mem {s : Shared} {H : Hp} {L it : Addr} {p : Addr × Obj} (h : p ∈ restPins s H L it) : s.heap.get? p.1 = some p.2 ∧ L < p.1 ∧ p.1 ≠ it ∧ H p.1 = none ∧ isCellB p.2 = false := by
  unfold restPins at h
  obtain ⟨b, hb, e⟩ := List.mem_filterMap.mp h
  cases eg : s.heap.get? b with
  | none => rw [eg] at e; cases e
  | some o =>
    rw [eg] at e
    simp only at e
    split at e
    · rename_i c
      cases e
      exact ⟨eg, c.1, c.2.1, Option.isNone_iff_eq_none.mp c.2.2.1, c.2.2.2⟩
    · cases e
theorem restPins_of {s : Shared} {H : Hp} {L it b : Addr} {o : Obj} (e : s.heap.get? b = some o) (hL : L < b) (hi : b ≠ it) (hn : H b = none) (hc : isCellB o = false) : (b, o) ∈ restPins s H L it := by
  unfold restPins
  refine List.mem_filterMap.mpr ⟨b, List.mem_range.mpr (Heap.lt_size e), ?_⟩
  rw [e]
  simp only
  rw [if_pos ⟨hL, hi, by rw [hn]; rfl, hc⟩]
/-- the cells behind the frame -/
def restCells (s : Shared) (H : Hp) (L : Addr) : List Addr := (List.range s.heap.objs.size).filter fun b => match s.heap.get? b with
  | some o => decide (L < b) && isCellB o && (H b).isNone
  | none => false
theorem restCells_mem {s : Shared} {H : Hp} {L b : Addr} (h : b ∈ restCells s H L) : L < b ∧ H b = none ∧ ∃ o, s.heap.get? b = some o ∧ isCellB o = true := by
  unfold restCells at h
  have h2k := (List.mem_filter.mp h).2
  cases e : s.heap.get? b with
  | none => rw [e] at h2k; cases h2k
  | some o =>
    rw [e] at h2k
    simp only [Bool.and_eq_true, decide_eq_true_eq] at h2k
    exact ⟨h2k.1.1, Option.isNone_iff_eq_none.mp h2k.2, o, rfl, h2k.1.2⟩
theorem restCells_of {s : Shared} {H : Hp} {L b : Addr} {o : Obj} (e : s.heap.get? b = some o) (hL : L < b) (hc : isCellB o = true) (hn : H b = none) : b ∈ restCells s H L := by
  unfold restCells
  refine List.mem_filter.mpr ⟨List.mem_range.mpr (Heap.lt_size e), ?_⟩
  rw [e]
  simp [hL, hc, hn]
theorem objok_there {P : Program} {w : World} {H : Hp} {h : Heap} {a : Addr} : ∀ {o : HO}, ObjOk P w H h a o → ∃ ob, h.get? a = some ob
  | .lst xs, x => by obtain ⟨_, _, _, _, e⟩ := x; exact ⟨_, e⟩
  | .tup xs, x => by obtain ⟨_, _, _, o, e, _⟩ := x; exact ⟨_, e⟩
  | .dK kvs, x => by obtain ⟨_, _, _, _, o, _, _, e, _⟩ := x; exact ⟨_, e⟩
  | .dT kvs, x => by obtain ⟨_, _, _, _, o, _, _, e, _⟩ := x; exact ⟨_, e⟩
  | .set S n, x => by obtain ⟨o, _, _, _, e, _⟩ := x; exact ⟨_, e⟩
  | .ins C dx fs, x => by obtain ⟨_, _, _, e, _⟩ := x; exact ⟨_, e⟩
  | .own _, x => x
  | .xd fs, x => by obtain ⟨_, ⟨o, _, _, e, _⟩, _⟩ := x; exact ⟨_, e⟩
  | .rng lo hi, x => by obtain ⟨_, _, _, e⟩ := x; exact ⟨_, e⟩
  | .frz o u, x => ⟨_, x.1⟩
  | .tbl ps, x => ⟨_, x⟩
  | .met f y, x => ⟨_, x⟩
  | .ext φ, x => x.2.1
section
variable {X : Cx} {A : Around} {x : Str} {st : Stmt} {N ps : List Str} {L f it : Addr} {cd : Value} {pins : List (Addr × Obj)} {σ σg : L2.St} {H H1 : Hp} {s s1 : Shared}
/-- the frame is taken up -/
theorem inv_take (hk : (defScope st).kind = .function) (hc : ∀ y ∈ (defScope st).names, y.2 ≠ .cell ∧ y.2 ≠ .free) (hA : A.handled = none) (hfr : A.frames = some X.stack) (I : Inv X pins σ H s) (hL : FpOk X pins H L) (hLs : L < s.heap.objs.size) (hLb : X.base.objs.size ≤ L) (hLf : ∀ b ∈ frs X.stack, b < L)
    (hns : ∃ m, s.heap.Ns L m ∧ ∀ (i : Nat) (y : Str) (v : V), N[i]? = some y → σg[i]? = some (some v) → ∃ u, RelV v u ∧ (defScope st).names.lookup y = some .local ∧ m y = some u) (hlen : σg.length = N.length) :
    Inv (fcx X A x st N L f cd s H) (restPins s H L it) σg H s := by
  have e0 := I.env0
  have nocell : ∀ y c, (gfEnv x st L f cd).cells.lookup y = some c → False := fun y c e => by
    have hm := PySem.mem_of_lookup e
    have : (gfEnv x st L f cd).cells = cellsFrom (L + 1) (defScope st).names [] := rfl
    rw [this] at hm
    have go : ∀ (l : List (Str × NameKind)) (n : Nat) (acc : List (Str × Addr)), (∀ y ∈ l, y.2 ≠ .cell ∧ y.2 ≠ .free) → cellsFrom n l acc = acc := by
      intro l
      induction l with
      | nil => intro n acc _; rfl
      | cons a l ih =>
        intro n acc hl
        obtain ⟨y, k⟩ := a
        have hk := (hl (y, k) List.mem_cons_self).1
        have h2 : ∀ z ∈ l, z.2 ≠ .cell ∧ z.2 ≠ .free := fun z hz => hl z (List.mem_cons_of_mem _ hz)
        cases k <;> first | exact absurd rfl hk | (unfold cellsFrom; exact ih _ _ h2)
    rw [go _ _ _ hc] at hm
    cases hm
  have hfun : (cutH s.heap L).FunFrames X.base X.stack := by
    have go : ∀ l : List Env, (∀ b ∈ frs l, b < L) → s.heap.FunFrames X.base l → (cutH s.heap L).FunFrames X.base l := by
      intro l
      induction l with
      | nil => intro _ _; trivial
      | cons env l ih =>
        intro hb hl
        obtain ⟨hk, ⟨M, o, hf, hn, ho, hd⟩, hr⟩ := hl
        have hM : M < L := hb M (by unfold frs; exact List.mem_filterMap.mpr ⟨env, List.mem_cons_self, hf⟩)
        refine ⟨hk, ⟨M, o, hf, hn, by rw [cutH_get hM]; exact ho, hd⟩, ih (fun b h => hb b ?_) hr⟩
        unfold frs at h ⊢
        obtain ⟨e, he, hfe⟩ := List.mem_filterMap.mp h
        exact List.mem_filterMap.mpr ⟨e, List.mem_cons_of_mem _ he, hfe⟩
    exact go _ hLf e0.funs
  obtain ⟨m, hn, hl⟩ := hns
  refine ⟨⟨e0.mod, hk, rfl, rfl, cutH_size _ _, fun y z c h1 _ => (nocell y c h1).elim, fun y hy => ?_, fun y c z _ => (Bool.false_ne_true z).elim, fun _ => hA, Around.frames_deeper hfr, .inr ⟨rfl, rfl⟩, fun b hb => (nomatch hb), fun b o e => ?_, cutH_sz hLb e0.bsz, fun b o e hb => (nomatch hb),
      fun b hb => (nomatch hb), hfun, e0.frf⟩,
    rfl, I.bare, ⟨fun b o e n _ _ => (cutH_lt e).2, fun b o e n _ _ => ⟨o.slots, (cutH_lt e).2⟩, fun b o e n _ => n, fun b o e _ => ⟨o, (cutH_lt e).2⟩, fun _ _ e => e, fun _ _ _ e => e, fun b ps e => ⟨#[], by have e : H b = some (.tbl ps) := e; rw [e]; simp⟩⟩,
    ⟨m, hn, fun i y v e1 e2 _ => ?_⟩, fun y c e => (nocell y c e).elim, hL.1, fun y c e => (nocell y c e).elim, fun p hp => ?_, I.hok, hlen⟩
  · have hy : (defScope st).names.lookup y = some .cell ∨ (defScope st).names.lookup y = some .free := hy
    rcases hy with hy | hy
    · exact absurd rfl (hc _ (PySem.mem_of_lookup hy)).1
    · exact absurd rfl (hc _ (PySem.mem_of_lookup hy)).2
  · have e : X.base.get? b = some o := e
    have hb : b < L := Nat.lt_of_lt_of_le (Heap.lt_size e) hLb
    obtain ⟨h1, h2⟩ := e0.bs b o e
    exact ⟨by show (cutH s.heap L).get? b = some o; rw [cutH_get hb]; exact h1, h2⟩
  · obtain ⟨u, ru, hy, hm⟩ := hl i y v e1 e2
    exact ⟨u, ru, .inl ⟨hy, hm⟩⟩
  · obtain ⟨h1, h2, h3, h4, h5⟩ := restPins_mem (show p ∈ ([] : List (Addr × Obj)) ++ restPins s H L it from hp)
    refine ⟨h1, h4, Nat.ne_of_gt h2, fun hm => ?_, isCellB_of h5⟩
    exact absurd (Nat.lt_trans h2 (hLf p.1 hm)) (Nat.lt_irrefl _)
/-- the frame sleeps again: the consumer's own state -/
theorem inv_leave {σ1 : L2.St} (I : Inv X pins σ H s) (hL : FpOk X pins H L) (hi : FpOk X pins H it) (hLf : ∀ b ∈ frs X.stack, b < L) (hcl : ∀ b ∈ restCells s H L, b ∈ X.ex ∨ X.s_0.heap.objs.size ≤ b) (hLc : ∀ y c, X.env.cells.lookup y = some c → c < L)
    (sm : Same H H1) (J : Inv (fcx X A x st N L f cd s H) (restPins s H L it) σ1 H1 s1) : Inv X pins σ H1 s1 := by
  have hXL : X.env.locals ∉ restCells s H L := fun z => by
    obtain ⟨_, _, o, e, c⟩ := restCells_mem z
    obtain ⟨m, ⟨o', es, ep, e', d, _⟩, _⟩ := I.loc
    rw [e] at e'
    cases e'
    unfold isCellB at c
    rw [d] at c
    cases c
  have hpc : ∀ p ∈ X.pn ++ pins, p.1 ∉ restCells s H L := fun p hp z => by
    obtain ⟨_, _, o, e, c⟩ := restCells_mem z
    obtain ⟨e', _, _, _, d⟩ := I.pin p hp
    rw [e] at e'
    cases e'
    unfold isCellB at c
    split at c
    · rename_i v q
      exact d v q
    · cases c
  have un : Un (frs X.stack) (L :: it :: restCells s H L) H H1 s.heap s1.heap := by
    have B : Un (frs X.stack) [] H H1 (cutH s.heap L) s1.heap := J.base
    have rest : ∀ b o, s.heap.get? b = some o → H b = none → b ∉ L :: it :: restCells s H L → ¬ b < L → s1.heap.get? b = some o ∧ H1 b = none := fun b o e n hbk hl => by
      have h1 : b ≠ L := fun z => hbk (by rw [z]; exact List.mem_cons_self)
      have h2 : b ≠ it := fun z => hbk (by rw [z]; exact List.mem_cons_of_mem _ List.mem_cons_self)
      have hLb : L < b := Nat.lt_of_le_of_ne (Nat.le_of_not_lt hl) (Ne.symm h1)
      have h3 : isCellB o = false := by
        cases c : isCellB o with
        | false => rfl
        | true => exact absurd (List.mem_cons_of_mem _ (List.mem_cons_of_mem _ (restCells_of e hLb c n))) hbk
      have := J.pin (b, o) (List.mem_append_right _ (restPins_of e hLb h2 n h3))
      exact ⟨this.1, this.2.1⟩
    refine ⟨fun b o e n hf hbk => ?_, fun b o e n hf hbk => ?_, fun b o e n hbk => ?_, fun b o e hbk => ?_, fun b xs e => sm _ _ e, fun b o u e => sm _ _ e, fun b ps e => ⟨#[], by rw [sm _ _ e]; simp⟩⟩
    · by_cases hl : b < L
      · exact B.keep b o (by rw [cutH_get hl]; exact e) n hf (by simp)
      · exact (rest b o e n hbk hl).1
    · have hl := hLf b hf
      exact B.slot b o (by rw [cutH_get hl]; exact e) n hf (by simp)
    · by_cases hl : b < L
      · exact B.free b o (by rw [cutH_get hl]; exact e) n (by simp)
      · exact (rest b o e n hbk hl).2
    · by_cases hl : b < L
      · exact B.there b o (by rw [cutH_get hl]; exact e) (by simp)
      · cases n : H b with
        | none => exact ⟨o, (rest b o e n hbk hl).1⟩
        | some ob => exact objok_there (J.hok b ob (sm _ _ n))
  refine I.call' (ch := L :: it :: restCells s H L) J.os un J.hok J.bare fun b hbk => ?_
  rcases List.mem_cons.mp hbk with e | hbk
  · rw [e]
    exact ⟨hL.2.2.2.1, hL.2.1, hL.2.2.2.2.1, hL.2.2.2.2.2⟩
  · rcases List.mem_cons.mp hbk with e | hbk
    · rw [e]
      exact ⟨hi.2.2.2.1, hi.2.1, hi.2.2.2.2.1, hi.2.2.2.2.2⟩
    · refine ⟨hcl b hbk, fun z => hXL (by rw [← z]; exact hbk), fun y c e z => ?_, fun p hp z => hpc p hp (by rw [z]; exact hbk)⟩
      have := hLc y c e
      rw [z] at this
      exact absurd (Nat.lt_trans this (restCells_mem hbk).1) (Nat.lt_irrefl _)
end
/-! ### fitting -/
/-- what the generator reads -/
structure FitH (K : PySem.W.Frag) (H : Hp) (sh lg t : Addr) (ys : List V) (rs : List PR) (es : List Ent) : Prop where
  sh : ∃ dz fs, H sh = some (.ins (He.ga K "Shape") dz fs) ∧ fs.lookup ("own_rules" : Str) = some (V.ref t)
  t : H t = some (.tup ys)
  at_ : RulesIn K H ys rs
  ok : ∀ r ∈ rs, ROk r
  lg : LogAt K H lg es
  eo : ∀ e ∈ es, EntOk e
  el : es.length ≤ 100000
theorem FitH.same {K : PySem.W.Frag} {H H' : Hp} {sh lg t : Addr} {ys : List V} {rs : List PR} {es : List Ent} (h : FitH K H sh lg t ys rs es) (s : Same H H') : FitH K H' sh lg t ys rs es :=
  ⟨let ⟨dz, fs, h1, h2⟩ := h.sh; ⟨dz, fs, s _ _ h1, h2⟩, s _ _ h.t, h.at_.same s, h.ok, h.lg.same s, h.eo, h.el⟩
def LocG (h : Heap) (L sh lg : Addr) : Prop := ∃ m, h.Ns L m ∧ m "shape" = some (.ref sh) ∧ m "log" = some (.ref lg)
/-- the generator behind its j-th rule -/
def FitSt (X : Cx) (pins : List (Addr × Obj)) (C : Nat → L2.St → Hp → Prop) (L it sh lg t : Addr) (ys : List V) (rs : List PR) (es : List Ent) (j : Nat) (s : Shared) : Prop :=
  ∃ σ H, Inv X pins σ H s ∧ C j σ H ∧ FitH X.K H sh lg t ys rs es ∧ FpOk X pins H L ∧ FpOk X pins H it ∧ s.heap.IsTupleIter it t j ∧ LocG s.heap L sh lg
abbrev fN : List Str := ["shape", "log", "rule"]
theorem sc_fitting : GScope fN ["shape", "log"] (defScope sfitting) := ⟨rfl, rfl, rfl, by decide +kernel, rfl, by decide +kernel, by decide +kernel⟩
theorem fit_names : ∀ y ∈ (defScope sfitting).names, y.2 ≠ .cell ∧ y.2 ≠ .free := by decide +kernel
section
variable {K : PySem.W.Frag} {mg : Str → Option Value} {base : Heap} {P : Program} {w : World}
/-- what the consumer says of its own state -/
structure Cons (X : Cx) (pins : List (Addr × Obj)) (L : Addr) (C Cy : Nat → L2.St → Hp → Prop) (rs : List PR) (es : List Ent) : Prop where
  calm : X.calm = true
  fr : ∀ b ∈ frs X.stack, b < L
  cl : ∀ σ H s j, Inv X pins σ H s → C j σ H → ∀ b ∈ restCells s H L, b ∈ X.ex ∨ X.s_0.heap.objs.size ≤ b
  cs : ∀ y c, X.env.cells.lookup y = some c → c < L
  base : X.base.objs.size ≤ L
  step : ∀ j σ H H1 r, C j σ H → Same H H1 → rs[j]? = some r → if es.all (entIs r) = true then Cy j σ H1 else C (j + 1) σ H1
  same : ∀ j σ H H1, C j σ H → Same H H1 → C j σ H1
variable {X : Cx} {A : Around} {L it sh lg t f : Addr} {cd : Value} {pins : List (Addr × Obj)} {ys : List V} {rs : List PR} {es : List Ent} {C Cy : Nat → L2.St → Hp → Prop}
theorem fp_of (T : FpOk X pins H it) (I : Inv X pins σ H s) (hlt : L < it) : FpOk (fcx X A "fitting" sfitting fN L f cd s H) (restPins s H L it) H it := by
  refine ⟨T.1, Nat.ne_of_gt hlt, fun hm => ?_, .inr (Nat.le_trans (cutH_size _ _) (Nat.le_of_lt hlt)), fun y c e => ?_, fun p hp => ?_⟩
  · have hm : it ∈ frs X.stack := hm
    rcases List.mem_cons.mp (I.stkSub it hm) with z | z
    · exact T.2.1 z
    · exact T.2.2.1 z
  · have : (gfEnv "fitting" sfitting L f cd).cells.lookup y = some c := e
    have hc : (gfEnv "fitting" sfitting L f cd).cells = [] := by
      show cellsFrom (L + 1) (defScope sfitting).names [] = []
      rfl
    rw [hc] at this
    cases this
  · exact (restPins_mem (show p ∈ ([] : List (Addr × Obj)) ++ restPins s H L it from hp)).2.2.1
abbrev fitB (test : Expr) (q7 q8 q9 q10 : Pos) : List Stmt := [.If test [.Expr (.Yield (some (.Name "rule" q7)) q8) q9] [] q10]
def fitTC (K : PySem.W.Frag) : TT := tTest (tOp (fun x y H Q => y = V.non ∧ Q (V.bl (decide (x = V.non))) H) (tMeth (He.ga K "Log") "first_against" (sp_Log_first_against K) [] E0 (tVar 1) (tCons (tVar 2) tNil)) (tC .non))
theorem fit_reads {K : PySem.W.Frag} {H : Hp} {sh lg t q : Addr} {ys : List V} {rs : List PR} {es : List Ent} {r : PR} {σ : L2.St} {Q : Bool → Hp → Prop} (h : FitH K H sh lg t ys rs es) (h1 : σ[1]? = some (some (.ref lg))) (h2 : σ[2]? = some (some (.ref q))) (hq : RuleAt K H q r) (ok : ROk r) (k : ∀ H', Same H H' → Q (es.all (entIs r)) H') : fitTC K σ H Q := by
  obtain ⟨dx, tt, zs, hl, ht, pr⟩ := h.lg
  refine ⟨_, h1, lg, dx, _, rfl, hl, rfl, _, h2, lg, q, es, r, rfl, h.lg, h.eo, h.el, hq, ok, fun H' s' => ?_⟩
  by_cases c : es.all (entIs r) = true
  · rw [if_pos c]
    refine ⟨rfl, _, rfl, ?_⟩
    have := k H' s'
    rw [c] at this
    exact this
  · rw [if_neg c]
    intro i
    refine ⟨rfl, _, rfl, ?_⟩
    have := k H' s'
    rw [Bool.not_eq_true] at c
    rw [c] at this
    exact this
theorem seg_floop {R : GenEnd} {Y : Protocol} {test : Expr} {px q7 q8 q9 q10 : Pos} {fs : List Frame} (Co : Cons X pins L C Cy rs es) (hA : A.handled = none) (hfr : A.frames = some X.stack) (hlt : L < it)
    (ht : ∀ (s : Shared) (H : Hp), PT (fcx X A "fitting" sfitting fN L f cd s H) test (fitTC X.K))
    (hover : A.over (.forLoop (.Name "rule" px) (.ref it) (fitB test q7 q8 q9 q10) [] (gfEnv "fitting" sfitting L f cd)) fs = A.deeper (gfEnv "fitting" sfitting L f cd)) (hsp : splitAtGen fs = none) (hgd : fs.any Frame.guarded = false)
    (hY : ∀ (n : Nat) (s₀ s : Shared) (i : Nat) (σ : L2.St) (H : Hp) (v : V) (u : Value) (kap : Resume → Shared → Prop), i < ys.length → ys.length < n + (i + 1) → ys[i]? = some v → RelV v u → Inv X pins σ H s → Cy i σ H → FitH X.K H sh lg t ys rs es → FpOk X pins H L → FpOk X pins H it → s.heap.IsTupleIter it t (i + 1) → LocG s.heap L sh lg →
      (∀ s'', FitSt X pins C L it sh lg t ys rs es (i + 1) s'' → kap (.send .none) s'' ∧ kap (.send (.bool true)) s'') → Y n s₀ u s kap)
    (hend : ∀ (n : Nat) (s₀ s : Shared) (σ : L2.St) (H : Hp), Inv X pins σ H s → C ys.length σ H → Seg (model X.prog X.w) A R Y n s₀ (.block [] (gfEnv "fitting" sfitting L f cd)) (.pure (.done .next)) fs s) :
    ∀ (k j n : Nat) (s₀ s : Shared), ys.length - j = k → ys.length < n + j → j ≤ ys.length → FitSt X pins C L it sh lg t ys rs es j s →
      Seg (model X.prog X.w) A R Y n s₀ (.forLoop (.Name "rule" px) (.ref it) (fitB test q7 q8 q9 q10) [] (gfEnv "fitting" sfitting L f cd))
        ((model X.prog X.w).den (.forLoop (.Name "rule" px) (.ref it) (fitB test q7 q8 q9 q10) [] (gfEnv "fitting" sfitting L f cd))) fs s := by
  have take : ∀ {s : Shared} {σ : L2.St} {H : Hp} {m : Str → Option Value}, Inv X pins σ H s → FpOk X pins H L → s.heap.Ns L m → m "shape" = some (.ref sh) → m "log" = some (.ref lg) → Inv (fcx X A "fitting" sfitting fN L f cd s H) (restPins s H L it) [some (.ref sh), some (.ref lg), none] H s := by
    intro s σ H m I fL hn0 m1 m2
    refine inv_take (x := "fitting") (st := sfitting) (N := fN) (it := it) (f := f) (cd := cd) (by rfl) fit_names hA hfr I fL hn0.lt Co.base Co.fr ⟨m, hn0, fun i y v e1 e2 => ?_⟩ rfl
    match i, e1, e2 with
    | 0, e1, e2 =>
      cases e1
      cases e2
      exact ⟨_, rfl, by decide +kernel, m1⟩
    | 1, e1, e2 =>
      cases e1
      cases e2
      exact ⟨_, rfl, by decide +kernel, m2⟩
    | 2, e1, e2 => cases e2
    | i + 3, e1, e2 => cases e2
  have loc : ∀ {s s1 : Shared} {σ1 : L2.St} {H H1 : Hp} {pl : List (Addr × Obj)}, Inv (fcx X A "fitting" sfitting fN L f cd s H) pl σ1 H1 s1 → σ1[0]? = some (some (.ref sh)) → σ1[1]? = some (some (.ref lg)) → LocG s1.heap L sh lg := by
    intro s s1 σ1 H H1 pl J e0 e1
    obtain ⟨m, hn, hl⟩ := J.loc
    obtain ⟨u, ru, l⟩ := hl 0 "shape" _ rfl e0 (.inl (by show (defScope sfitting).names.lookup ("shape" : Str) = _; decide +kernel))
    obtain ⟨u2, ru2, l2⟩ := hl 1 "log" _ rfl e1 (.inl (by show (defScope sfitting).names.lookup ("log" : Str) = _; decide +kernel))
    have k1 : (gfEnv "fitting" sfitting L f cd).kindOf ("shape" : Str) = some .local := by show (defScope sfitting).names.lookup ("shape" : Str) = _; decide +kernel
    have k2 : (gfEnv "fitting" sfitting L f cd).kindOf ("log" : Str) = some .local := by show (defScope sfitting).names.lookup ("log" : Str) = _; decide +kernel
    obtain rfl : u = Value.ref sh := ru
    obtain rfl : u2 = Value.ref lg := ru2
    refine ⟨m, hn, ?_, ?_⟩
    · rcases l with ⟨_, z⟩ | ⟨z, _⟩
      · exact z
      · have z : (gfEnv "fitting" sfitting L f cd).kindOf ("shape" : Str) = some .cell ∨ (gfEnv "fitting" sfitting L f cd).kindOf ("shape" : Str) = some .free := z
        rw [k1] at z
        rcases z with z | z <;> cases z
    · rcases l2 with ⟨_, z⟩ | ⟨z, _⟩
      · exact z
      · have z : (gfEnv "fitting" sfitting L f cd).kindOf ("log" : Str) = some .cell ∨ (gfEnv "fitting" sfitting L f cd).kindOf ("log" : Str) = some .free := z
        rw [k2] at z
        rcases z with z | z <;> cases z
  have TT := turn_tuple (P := X.prog) (w := X.w) (K := X.K) (tg := .Name "rule" px) t it
  intro k
  induction k with
  | zero =>
    intro j n s₀ s hk hn hj st
    obtain ⟨σ, H, I, c, fh, fL, fi, ti, m, hn0, m1, m2⟩ := st
    have hj2 : j = ys.length := by omega
    subst hj2
    have J := take I fL hn0 m1 m2
    have fj : ∀ b ∈ [it], FpOk (fcx X A "fitting" sfitting fN L f cd s H) (restPins s H L it) H b := fun b hb => by
      rw [List.mem_singleton.mp hb]
      exact fp_of fi I hlt
    show Seg _ A R Y n s₀ _ ((forTurn (.Name "rule" px) (.ref it) (fitB test q7 q8 q9 q10) [] (gfEnv "fitting" sfitting L f cd)).onRaise (fun x => do noteFrame x (gfEnv "fitting" sfitting L f cd); theTreesLotGoes x)) fs s
    rw [Sem.onRaise_eq_wrap]
    simp only [forTurn]
    (refine seg_bind_wrap (wpAny_standAt ?_))
    refine seg_bind_wrap ?_
    rw [hover]
    refine wpAny_onRaise (wpAny_mono (TT.done (fcx X A "fitting" sfitting fN L f cd s H) rfl rfl rfl rfl ys.length (restPins s H L it) s _ H (fun _ _ => False) J fj ti ⟨ys, SqT.of fh.t, Nat.le_refl _⟩) (fun r s1 ⟨hr, I1⟩ => ?_) fun _ _ z => z.elim)
    subst hr
    refine seg_again rfl ?_
    exact hend _ _ _ σ H (inv_leave I fL fi Co.fr (Co.cl _ _ _ _ I c) Co.cs (Same.refl _) I1) c
  | succ k ih =>
    intro j n s₀ s hk hn hj st
    obtain ⟨σ, H, I, c, fh, fL, fi, ti, m, hn0, m1, m2⟩ := st
    have hlt2 : j < ys.length := by omega
    have J := take I fL hn0 m1 m2
    have fj : ∀ b ∈ [it], FpOk (fcx X A "fitting" sfitting fN L f cd s H) (restPins s H L it) H b := fun b hb => by
      rw [List.mem_singleton.mp hb]
      exact fp_of fi I hlt
    show Seg _ A R Y n s₀ _ ((forTurn (.Name "rule" px) (.ref it) (fitB test q7 q8 q9 q10) [] (gfEnv "fitting" sfitting L f cd)).onRaise (fun x => do noteFrame x (gfEnv "fitting" sfitting L f cd); theTreesLotGoes x)) fs s
    rw [Sem.onRaise_eq_wrap]
    simp only [forTurn]
    (refine seg_bind_wrap (wpAny_standAt ?_))
    refine seg_bind_wrap ?_
    rw [hover]
    refine wpAny_onRaise (wpAny_mono (TT.item (fcx X A "fitting" sfitting fN L f cd s H) rfl rfl rfl rfl j (restPins s H L it) s _ H (fun _ _ => False) J fj ti ⟨ys, ys[j], SqT.of fh.t, List.getElem?_eq_getElem hlt2⟩) (fun r s1 ⟨u, hr, h1⟩ => ?_) fun _ _ z => z.elim)
    subst hr
    refine seg_bind_wrap ?_
    rw [hover]
    refine wpAny_mono h1 (fun _ s2 ⟨v, H2, I2, rv, ⟨eH, hv⟩, st2, fr2⟩ => ?_) fun _ _ z => z.elim
    subst eH
    have hv := hv ys (SqT.of fh.t)
    obtain ⟨rj, hrj, q, eq, hq⟩ := paired_at fh.at_ hv
    subst eq
    have f2 : ∀ b ∈ [it], FpOk (fcx X A "fitting" sfitting fN L f cd s H2) (restPins s H2 L it) H2 b := fun b hb => ⟨fr2 b hb, (fj b hb).2⟩
    have I2' := I2.pinned f2 (TT.obj _ _ st2)
    refine seg_bind_wrap ?_
    rw [hover]
    refine wpAny_assign_Name (store_ok I2' (show fN.Nodup by decide +kernel) (i := 2) rfl (.inl (by show (defScope sfitting).names.lookup ("rule" : Str) = _; decide +kernel)) rv (fun s3 I3 => ?_) (.inr (by show (defScope sfitting).names.lookup ("rule" : Str) = _; decide +kernel)))
    have okj : ROk rj := fh.ok rj (List.mem_of_getElem? hrj)
    rw [Sem.bind_eq_wrap', Sem.wrap_wrap]
    refine seg_execs_cons ?_
    rw [exec_If]
    (refine seg_bind_wrap (wpAny_standAt ?_))
    refine seg_bind_wrap ?_
    rw [hover]
    refine wpAny_mono ((ht s H2).run _ s3 _ H2 (fun b H' => b = es.all (entIs rj) ∧ Same H2 H') I3 (fit_reads fh rfl rfl hq okj fun H' s' => ⟨rfl, s'⟩)) (fun b s4 ⟨H4, I4, eb, s24⟩ => ?_) fun _ _ z => z.elim
    obtain ⟨oi, eoi, doi⟩ := TT.obj _ _ st2 it (List.mem_singleton.mpr rfl)
    have after : ∀ {s5 : Shared} {H5 : Hp} {σ5 : L2.St}, Inv (fcx X A "fitting" sfitting fN L f cd s H2) (restPins s H2 L it ++ pinsAt [it] s2.heap) σ5 H5 s5 → Same H2 H5 → σ5[0]? = some (some (.ref sh)) → σ5[1]? = some (some (.ref lg)) →
        Inv X pins σ H5 s5 ∧ FitH X.K H5 sh lg t ys rs es ∧ FpOk X pins H5 L ∧ FpOk X pins H5 it ∧ s5.heap.IsTupleIter it t (j + 1) ∧ LocG s5.heap L sh lg := by
      intro s5 H5 σ5 I5 s25 z0 z1
      have pit := I5.pin (it, oi) (List.mem_append_right _ (List.mem_append_right _ (mem_pinsAt (List.mem_singleton.mpr rfl) eoi)))
      refine ⟨inv_leave I fL fi Co.fr (Co.cl _ _ _ _ I c) Co.cs s25 I5.unpinned, fh.same s25, ⟨I5.free, fL.2⟩, ⟨pit.2.1, fi.2⟩, TT.keep _ _ _ st2 fun b hb o e => ?_, loc I5 z0 z1⟩
      rw [List.mem_singleton.mp hb] at e ⊢
      rw [eoi] at e
      cases e
      exact pit.1
    cases b with
    | false =>
      (simp only [Bool.false_eq_true, if_false])
      refine seg_execs_nil ?_
      refine seg_execs_nil ?_
      refine seg_again rfl ?_
      obtain ⟨a1, a2, a3, a4, a5, a6⟩ := after I4 s24 rfl rfl
      have cc := Co.step j σ H2 H4 rj c s24 hrj
      rw [if_neg (by rw [← eb]; exact Bool.false_ne_true)] at cc
      exact ih (j + 1) n s₀ s4 (by omega) (by omega) hlt2 ⟨σ, H4, a1, cc, a2, a3, a4, a5, a6⟩
    | true =>
      simp only [if_true]
      obtain ⟨n, rfl⟩ : ∃ n'k, n = n'k + 1 := ⟨n - 1, by omega⟩
      refine seg_execs_cons ?_
      refine seg_Expr_Yield hsp rfl hgd ?_ (by rfl) (by rfl)
      rw [hover]
      refine wpAny_mono ((pe_var (X := fcx X A "fitting" sfitting fN L f cd s H2) (x := "rule") (pos := q7) (i := 2) rfl (.inl (by show (defScope sfitting).names.lookup ("rule" : Str) = _; decide +kernel))).run _ s4 _ H4 (fun v H' => v = .ref q ∧ H' = H4) I4 ⟨_, rfl, rfl, rfl⟩) (fun u5 s5 ⟨v5, H5, I5, r5, e5, eH5⟩ => ?_) fun _ _ z => z.elim
      subst e5 eH5
      obtain ⟨a1, a2, a3, a4, a5, a6⟩ := after I5 s24 rfl rfl
      have cc := Co.step j σ H2 H5 rj c s24 hrj
      rw [if_pos eb.symm] at cc
      intro kap hkap
      refine hY n s₀ s5 j σ H5 (.ref q) u5 kap hlt2 (by omega) hv r5 a1 cc a2 a3 a4 a5 a6 fun s6 st6 => ?_
      have go := ih (j + 1) n s6 s6 (by omega) (by omega) hlt2 st6
      have nxt := seg_again (c := .forLoop (.Name "rule" px) (.ref it) (fitB test q7 q8 q9 q10) [] (gfEnv "fitting" sfitting L f cd)) (c' := .forLoop (.Name "rule" px) (.ref it) (fitB test q7 q8 q9 q10) [] (gfEnv "fitting" sfitting L f cd)) rfl go
      exact ⟨hkap .none s6 (seg_execs_nil (seg_execs_nil nxt)), hkap (.bool true) s6 (seg_execs_nil (seg_execs_nil nxt))⟩
end
end K70
-- K70Fit2
/-! fitting from its beginning; its call -/
namespace K70
open L2 PySem PySem.Spec PyProof.Rows GenW
section
variable {X : Cx} {n : Nat} {C f : Addr} {fld : Str}
theorem own_iter2 {A : Around} {E : Value → Shared → Prop} {pins : List (Addr × Obj)} {σ : L2.St} {H : Hp} {s : Shared} {a dx t : Addr} {fs : List (Str × V)} {ys : List V} {Q : Value → Shared → Prop} (sbk : L2.Sub X n A) (Mt : Meth X.K C "__iter__" f) (F : FnS X.prog X.w X.K X.mg X.base n f (spIter C fld))
    (Ik : Inv X pins σ H s) (ha : H a = some (.ins C dx fs)) (hl : fs.lookup fld = some (.ref t)) (ht : H t = some (.tup ys)) (h : ∀ it s', Inv X pins σ H s' → s'.heap.IsTupleIter it t 0 → FpOk X pins H it → s.heap.objs.size ≤ it → Q (.ref it) s') :
    wpAny (model X.prog X.w) A (pyIter (.ref a)) Q E s := by
  obtain ⟨mA, J, _⟩ := ins_get Ik.hok ha
  obtain ⟨od, J, _⟩ := J.look
  obtain ⟨m0, hF⟩ := Ik.fr
  refine PySem.W.owit_iter hF Ik.ok.mod.kin J Mt.at_ Mt.fn ?_
  have e0k : Env0 X.prog X.w X.K X.mg X.base A X.stack s H := by
    have e := Ik.env0
    exact ⟨by rw [sbk.fr]; exact e.frames, e.mod, e.bs, e.bsz, e.funs, e.frf, e.hok, e.bare⟩
  have hsp : spIter C fld X.stack s [.ref a] H (fun v H' => ∃ it, H it = none ∧ s.heap.objs.size ≤ it ∧ v = .ref it ∧ H' = upd H it (TiO t it)) (fun _ _ _ => False) := ⟨a, dx, fs, t, ys, rfl, ha, hl, ht, fun it h1 h2 => ⟨it, h1, h2, rfl, rfl⟩⟩
  refine wpAny_call (codeAny_mono (F A X.stack s H [.ref a] [.ref a] _ _ sbk.room e0k (.cons rfl .nil) hsp) fun r s' hqk => ?_)
  cases r with
  | error e => exact False.elim hqk
  | ok fl =>
    cases fl with
    | next => exact False.elim hqk
    | brk => exact False.elim hqk
    | cont => exact False.elim hqk
    | ret u =>
      obtain ⟨v, H', I', rv, it, h1, h2, ev, eH⟩ := Ik.after hqk
      subst ev eH
      obtain rfl : u = Value.ref it := rv
      have hi : upd H it (TiO t it) it = some (TiO t it) := upd_same
      have obj := (I'.hok it _ hi).1
      have ty : s'.TypeIs (.ref it) "tuple_iterator" := ⟨_, obj, rfl⟩
      unfold PySem.W.OwitIt
      refine wpAny_specialOf (name := Str.ofString "__next__") ty slot_tupleiter_next.lookup ?_
      have I2 := ItX.inv_drop I' hi
      rw [ItX.dropH_upd h1] at I2
      have fp := ItX.inv_fp I' hi (Nat.le_trans Ik.sz h2)
      rw [ItX.dropH_upd h1] at fp
      exact h it s' I2 ⟨_, obj, rfl, rfl⟩ fp h2
end
def fitY (X : Cx) (pins : List (Addr × Obj)) (C Cy : Nat → L2.St → Hp → Prop) (L sh lg t : Addr) (ys : List V) (rs : List PR) (es : List Ent) : Protocol := fun n s₀ u s kap => ∃ it i σ H v, L < it ∧ i < ys.length ∧ ys.length < n + (i + 1) ∧ ys[i]? = some v ∧ RelV v u ∧ Inv X pins σ H s ∧ Cy i σ H ∧ FitH X.K H sh lg t ys rs es ∧
  FpOk X pins H L ∧ FpOk X pins H it ∧ s.heap.IsTupleIter it t (i + 1) ∧ LocG s.heap L sh lg ∧ ∀ s'', FitSt X pins C L it sh lg t ys rs es (i + 1) s'' → kap (.send .none) s'' ∧ kap (.send (.bool true)) s''
def fitF (X : Cx) (pins : List (Addr × Obj)) (C : Nat → L2.St → Hp → Prop) (m : Nat) : Nat → Shared → Shared → Prop := fun _ _ s => ∃ σ H, Inv X pins σ H s ∧ C m σ H
abbrev fitR (X : Cx) (pins : List (Addr × Obj)) (C : Nat → L2.St → Hp → Prop) (m : Nat) : GenEnd := fun n s₀ r s => ((r = .ok (.ret .none) ∨ r = .ok .next) ∧ fitF X pins C m n s₀ s) ∨ ∃ e, r = .error e ∧ False
section
variable {X : Cx} {A : Around} {L sh lg t f : Addr} {cd : Value} {pins : List (Addr × Obj)} {ys : List V} {rs : List PR} {es : List Ent} {C Cy : Nat → L2.St → Hp → Prop}
theorem fit_take {it : Addr} {s : Shared} {σ : L2.St} {H : Hp} (Co : Cons X pins L C Cy rs es) (hA : A.handled = none) (hfr : A.frames = some X.stack) (I : Inv X pins σ H s) (fL : FpOk X pins H L) (hl : LocG s.heap L sh lg) : Inv (fcx X A "fitting" sfitting fN L f cd s H) (restPins s H L it) [some (.ref sh), some (.ref lg), none] H s := by
  obtain ⟨m, hn0, m1, m2⟩ := hl
  refine inv_take (x := "fitting") (st := sfitting) (N := fN) (it := it) (f := f) (cd := cd) (by rfl) fit_names hA hfr I fL hn0.lt Co.base Co.fr ⟨m, hn0, fun i y v e1 e2 => ?_⟩ rfl
  match i, e1, e2 with
  | 0, e1, e2 =>
    cases e1
    cases e2
    exact ⟨_, rfl, by decide +kernel, m1⟩
  | 1, e1, e2 =>
    cases e1
    cases e2
    exact ⟨_, rfl, by decide +kernel, m2⟩
  | 2, e1, e2 => cases e2
  | i + 3, e1, e2 => cases e2
theorem fit_loc {s s1 : Shared} {σ1 : L2.St} {H H1 : Hp} {pl : List (Addr × Obj)} (J : Inv (fcx X A "fitting" sfitting fN L f cd s H) pl σ1 H1 s1) (e0 : σ1[0]? = some (some (.ref sh))) (e1 : σ1[1]? = some (some (.ref lg))) : LocG s1.heap L sh lg := by
  obtain ⟨m, hn, hl⟩ := J.loc
  obtain ⟨u, ru, l⟩ := hl 0 "shape" _ rfl e0 (.inl (by show (defScope sfitting).names.lookup ("shape" : Str) = _; decide +kernel))
  obtain ⟨u2, ru2, l2⟩ := hl 1 "log" _ rfl e1 (.inl (by show (defScope sfitting).names.lookup ("log" : Str) = _; decide +kernel))
  have k1 : (gfEnv "fitting" sfitting L f cd).kindOf ("shape" : Str) = some .local := by show (defScope sfitting).names.lookup ("shape" : Str) = _; decide +kernel
  have k2 : (gfEnv "fitting" sfitting L f cd).kindOf ("log" : Str) = some .local := by show (defScope sfitting).names.lookup ("log" : Str) = _; decide +kernel
  obtain rfl : u = Value.ref sh := ru
  obtain rfl : u2 = Value.ref lg := ru2
  refine ⟨m, hn, ?_, ?_⟩
  · rcases l with ⟨_, z⟩ | ⟨z, _⟩
    · exact z
    · have z : (gfEnv "fitting" sfitting L f cd).kindOf ("shape" : Str) = some .cell ∨ (gfEnv "fitting" sfitting L f cd).kindOf ("shape" : Str) = some .free := z
      rw [k1] at z
      rcases z with z | z <;> cases z
  · rcases l2 with ⟨_, z⟩ | ⟨z, _⟩
    · exact z
    · have z : (gfEnv "fitting" sfitting L f cd).kindOf ("log" : Str) = some .cell ∨ (gfEnv "fitting" sfitting L f cd).kindOf ("log" : Str) = some .free := z
      rw [k2] at z
      rcases z with z | z <;> cases z
def FitSt0 (X : Cx) (pins : List (Addr × Obj)) (C : Nat → L2.St → Hp → Prop) (L sh lg t : Addr) (ys : List V) (rs : List PR) (es : List Ent) (s : Shared) : Prop :=
  ∃ σ H, Inv X pins σ H s ∧ C 0 σ H ∧ FitH X.K H sh lg t ys rs es ∧ FpOk X pins H L ∧ LocG s.heap L sh lg
theorem seg_fit0 (T : Tx X.K X.mg) (Co : Cons X pins L C Cy rs es) (hA : A.handled = none) (hfr : A.frames = some X.stack) (hr : Room 6 (A.deeper (gfEnv "fitting" sfitting L f cd))) (n : Nat) (s₀ s : Shared) (hn : ys.length < n) (st : FitSt0 X pins C L sh lg t ys rs es s) :
    Seg (model X.prog X.w) A (fitR X pins C ys.length) (fitY X pins C Cy L sh lg t ys rs es) n s₀ (.func (defBody sfitting) (gfEnv "fitting" sfitting L f cd)) ((model X.prog X.w).den (.func (defBody sfitting) (gfEnv "fitting" sfitting L f cd))) [] s := by
  obtain ⟨σ, H, I, c, fh, fL, lc⟩ := st
  have c_need_shape := ok_need_shape (P := X.prog) (w := X.w) (base := X.base) T
  have c_need_log := ok_need_log (P := X.prog) (w := X.w) (base := X.base) T
  have c_first_against := ok_Log_first_against (P := X.prog) (w := X.w) (base := X.base) T
  have J := fit_take (f := f) (cd := cd) (it := L) Co hA hfr I fL lc
  obtain ⟨dz, fz, hsh, hrl⟩ := fh.sh
  obtain ⟨dx, tt, zs, hlg, _, _⟩ := id fh.lg
  refine seg_func ?_
  refine seg_execs_cons ?_
  refine seg_wrap ?_
  rw [over_func]
  refine wpAny_mono ((ps_expr (pe_f (X := fcx X A "fitting" sfitting fN L f cd s H) c_need_shape (hr.mono (by decide)) (pa_cons (pv 0) pa_nil))).run (restPins s H L L) s _ H { nx := fun σ' H' => σ' = [some (.ref sh), some (.ref lg), none] ∧ H' = H, rt := fun _ _ => False } J ⟨_, rfl, sh, dz, fz, rfl, hsh, rfl, rfl⟩) (fun fl s1 hsk => ?_) fun _ _ z => z.elim
  cases fl with
  | brk => obtain ⟨_, _, _, q⟩ := hsk; exact False.elim q
  | cont => obtain ⟨_, _, _, q⟩ := hsk; exact False.elim q
  | ret u => obtain ⟨_, _, _, _, _, q⟩ := hsk; exact False.elim q
  | next =>
  obtain ⟨σ1, H1, J1, rfl, rfl⟩ := hsk
  refine seg_execs_cons ?_
  refine seg_wrap ?_
  rw [over_func]
  refine wpAny_mono ((ps_expr (pe_f (X := fcx X A "fitting" sfitting fN L f cd s H1) c_need_log (hr.mono (by decide)) (pa_cons (pv 1) pa_nil))).run (restPins s H1 L L) s1 _ H1 { nx := fun σ' H' => σ' = [some (.ref sh), some (.ref lg), none] ∧ H' = H1, rt := fun _ _ => False } J1 ⟨_, rfl, lg, dx, _, rfl, hlg, rfl, rfl⟩) (fun fl s2 hsk => ?_) fun _ _ z => z.elim
  cases fl with
  | brk => obtain ⟨_, _, _, q⟩ := hsk; exact False.elim q
  | cont => obtain ⟨_, _, _, q⟩ := hsk; exact False.elim q
  | ret u => obtain ⟨_, _, _, _, _, q⟩ := hsk; exact False.elim q
  | next =>
  obtain ⟨σ2, H2, J2, rfl, rfl⟩ := hsk
  refine seg_execs_cons ?_
  rw [exec_For]
  (refine seg_bind_wrap (wpAny_standAt ?_))
  refine seg_bind_wrap ?_
  rw [over_func]
  refine wpAny_mono ((pv (X := fcx X A "fitting" sfitting fN L f cd s H2) (x := "shape") 0).run (restPins s H2 L L) s2 _ H2 (fun v H' => v = .ref sh ∧ H' = H2) J2 ⟨_, rfl, rfl, rfl⟩) (fun u3 s3 ⟨v3, H3, J3, r3, e3, eH3⟩ => ?_) fun _ _ z => z.elim
  subst e3 eH3
  obtain rfl : u3 = Value.ref sh := r3
  refine seg_bind_wrap (wpAny_pure ?_)
  (refine seg_bind_wrap (wpAny_standAt ?_))
  have I3 : Inv X pins σ H3 s3 := inv_leave I fL fL Co.fr (Co.cl _ _ _ _ I c) Co.cs (Same.refl _) J3
  (refine seg_bind_wrap (wpAny_holding ?_))
  rw [over_func]
  refine own_iter2 (X := fcx X A "fitting" sfitting fN L f cd s H3) (n := 1) (fld := "own_rules") (t := t) (ys := ys) ⟨hr.mono (by decide), rfl⟩ T.m_Shape_iter (ok_Shape_iter (P := X.prog) (w := X.w) (base := X.base) T) J3 hsh hrl fh.t fun it s4 J4 ti fpi hge => ?_
  have I4 : Inv X pins σ H3 s4 := inv_leave I fL fL Co.fr (Co.cl _ _ _ _ I c) Co.cs (Same.refl _) J4
  have hLs : L < s3.heap.objs.size := by
    obtain ⟨m, hn, _⟩ := J3.loc
    exact hn.lt
  have hlt : L < it := Nat.lt_of_lt_of_le hLs hge
  have fi : FpOk X pins H3 it := I3.fpOk hge fpi.1
  refine seg_call fun p => ?_
  refine seg_floop (it := it) (pins := pins) (sh := sh) (lg := lg) (t := t) (ys := ys) (C := C) (Cy := Cy) Co hA hfr hlt (fun s H => ?_) ((over_loop rfl rfl).trans over_func) rfl rfl (fun n s₀ s i σ H v u kap h1 h2 h3 h4 h5 h6 h7 h8 h9 h10 h11 h12 => ⟨it, i, σ, H, v, hlt, h1, h2, h3, h4, h5, h6, h7, h8, h9, h10, h11, h12⟩) (fun n s₀ s σ H I c => ?_) ys.length 0 n s₀ s4 (Nat.sub_zero _) hn (Nat.zero_le _) ⟨σ, H3, I4, c, fh, fL, fi, ti, fit_loc J4 rfl rfl⟩
  · exact pt_cmpR op_isN (pe_m (pv 1) c_first_against (hr.mono (by decide)) (pa_cons (pv 2) pa_nil)) pe_non (nomark _)
  · refine seg_leaf (.ok .next) ?_
    refine seg_execs_nil (env := gfEnv "fitting" sfitting L f cd) ?_
    exact seg_end (.ok (.ret .none)) (.inl ⟨.inl rfl, σ, H, I, c⟩)
end
end K70
-- K70Fit3
/-! the next item of fitting -/
namespace K70
open L2 PySem PySem.Spec PyProof.Rows GenW
theorem inv_gens {X : Cx} {pins : List (Addr × Obj)} {σ : L2.St} {H : Hp} {s : Shared} {G : Array GenState} (I : Inv X pins σ H s) (hG : AllBare G) : Inv X pins σ H { s with gens := G } :=
  ⟨I.ok, I.os, hG, I.base, I.loc, I.cell, I.free, I.freeC, I.pin, I.hok, I.len⟩
section
variable {X : Cx} {A : Around} {a L it sh lg t f : Addr} {g : Nat} {cd : Value} {pins : List (Addr × Obj)} {ys : List V} {rs : List PR} {es : List Ent} {C Cy : Nat → L2.St → Hp → Prop}
/-- what the generator's state promises -/
def FitGoes (X : Cx) (A : Around) (pins : List (Addr × Obj)) (C Cy : Nat → L2.St → Hp → Prop) (L sh lg t : Addr) (ys : List V) (rs : List PR) (es : List Ent) (St : Shared → Prop) (n : Nat) (gs : GenState) : Prop :=
  ∀ s'', St s'' → gs.Goes (model X.prog X.w) A (fitR X pins C ys.length) (fitY X pins C Cy L sh lg t ys rs es) n (.send .none) s''
def IsSusp (gs : GenState) : Prop := ∃ k l c p fs cl, gs = .suspended k l c p fs cl
theorem susp_of {P : Program} {w : World} {R : GenEnd} {Y : Protocol} {n : Nat} {gs : GenState} {s : Shared} (h1 : gs.Goes (model P w) A R Y n (.send .none) s) (h2 : gs.Goes (model P w) A R Y n (.send (.bool true)) s) : IsSusp gs := by
  cases gs with
  | suspended k l c p fs cl => exact ⟨_, _, _, _, _, _, rfl⟩
  | fresh c => exact absurd h2.1 (by intro z; cases z)
  | running => exact h1.elim
  | finished => exact h1.elim
theorem next_fit {St : Shared → Prop} {n : Nat} {gs : GenState} {s : Shared} {Q : Option Value → Shared → Prop} {E : Value → Shared → Prop} (hh : A.handled = none) (hl : s.heap.NoLimit) (hroom : A.depth < recursionLimit) (hg : s.heap.IsGen a g) (hgs : s.gens[g]? = some gs) (hb : AllBare s.gens)
    (hst : ∀ G, AllBare G → St { s with gens := G }) (hgo : FitGoes X A.in1 pins C Cy L sh lg t ys rs es St (n + 1) gs)
    (hY : ∀ it i σ H v u s' gs', L < it → i < ys.length → ys.length < n + (i + 1) → ys[i]? = some v → RelV v u → Inv X pins σ H s' → Cy i σ H → FitH X.K H sh lg t ys rs es → FpOk X pins H L → FpOk X pins H it → s'.heap.IsTupleIter it t (i + 1) → LocG s'.heap L sh lg → s'.gens[g]? = some gs' → ((∃ s'', FitSt X pins C L it sh lg t ys rs es (i + 1) s'') → IsSusp gs') →
      FitGoes X A.in1 pins C Cy L sh lg t ys rs es (FitSt X pins C L it sh lg t ys rs es (i + 1)) n gs' → Q (some u) s')
    (hE : ∀ σ H s', Inv X pins σ H s' → C ys.length σ H → Q none s') : wpAny (model X.prog X.w) A (pyNext (.ref a)) Q E s := by
  have hglk : g < s.gens.size := (Array.getElem?_eq_some_iff.mp hgs).1
  refine wpAny_gsz (n := g + 1) hglk (next_genG (A := A) (n := n + 1) (F := fitF X pins C ys.length) (Er := fun _ _ => False) (Y := fitY X pins C Cy L sh lg t ys rs es) hh hl hroom hg hgs (hgo _ (hst _ (allBare_setGen hb rfl))) (fun u s₁k gs' hbare hv => ?_) (fun s₁k hp h' hk => ?_) fun e s₁k z => z.elim)
  · intro hsz
    obtain ⟨it, i, σ, H, v, h0, h1, h2, h3, h4, I, h6, h7, h8, h9, h10, h11, hk⟩ := hv
    have hsz1 : g < s₁k.gens.size := by
      have q : (s₁k.setGen g gs').gens.size = s₁k.gens.size := setGen_size _ _ _
      omega
    exact hY it i σ H v u (s₁k.setGen g gs') gs' h0 h1 h2 h3 h4 (inv_gens I (allBare_setGen I.bare hbare)) h6 h7 h8 h9 h10 h11 (setGen_at hsz1) (fun ⟨s'', z⟩ => susp_of (hk s'' z).1 (hk s'' z).2) fun s'' z => (hk s'' z).1
  · intro hsz
    obtain ⟨σ, H, I, c⟩ := hp
    have I2 := inv_gens I (allBare_setGen (g := g) (x := .finished) I.bare rfl)
    exact hE σ H _ (I2.kept (t' := s₁k.toks) hk) c
/-- it has not begun -/
theorem fresh_goes (T : Tx X.K X.mg) (Co : Cons X pins L C Cy rs es) (hA : A.handled = none) (hfr : A.frames = some X.stack) (hr : Room 6 (A.deeper (gfEnv "fitting" sfitting L f cd))) {n : Nat} (hn : ys.length < n) :
    FitGoes X A pins C Cy L sh lg t ys rs es (FitSt0 X pins C L sh lg t ys rs es) n (.fresh (.func (defBody sfitting) (gfEnv "fitting" sfitting L f cd))) := fun s'' st => ⟨rfl, seg_fit0 T Co hA hfr hr n s'' s'' hn st⟩
theorem fit_call (T : Tx X.K X.mg) {σ : L2.St} {H : Hp} {s : Shared} {Q : Value → Shared → Prop} {E : Value → Shared → Prop} (hroom : A.depth < recursionLimit) (I : Inv X pins σ H s)
    (h : ∀ (cd : Value) (g : Nat) (s' : Shared), Inv X pins σ H s' → s'.heap.objs.size = s.heap.objs.size + 2 → FpOk X pins H s.heap.objs.size → LocG s'.heap s.heap.objs.size sh lg → s'.heap.IsGen (s.heap.objs.size + 1) g →
      s'.gens[g]? = some (.fresh (.func (defBody sfitting) (gfEnv "fitting" sfitting s.heap.objs.size (He.ga X.K "fitting") cd))) → (∀ b o, s.heap.get? b = some o → s'.heap.get? b = some o) → Q (.ref (s.heap.objs.size + 1)) s') :
    wpAny (model X.prog X.w) A (call (.ref (He.ga X.K "fitting")) [.ref sh, .ref lg]) Q E s := by
  obtain ⟨fd, F⟩ := T.ffitting
  obtain ⟨oc, od, dV, kV, doc, pm, ank, cdv, ct, osl, rfl, lk, hcd, _, _⟩ := F.ex
  have kin : X.K.In s.heap := I.kIn
  have bound : BindsTo s (PySem.W.fnOf "fitting" "fitting" (defArgs sfitting) (defBody sfitting) (defScope sfitting) dV kV doc pm ank cdv ct) ⟨[.ref sh, .ref lg], []⟩ ((["shape", "log"] : List Str).zip [.ref sh, .ref lg]) := by
    have b := FunD.bindsN (ps := ["shape", "log"]) F (fun _ _ _ _ _ _ us hl => match us, hl with | [_, _], _ => rfl) s [.ref sh, .ref lg] kin (by rfl)
    simpa using b
  refine wpAny_call (codeAny_call_generator hroom (kin _ _ lk) rfl (by rfl) (by rfl) rfl (PySem.W.codeRec_of kin hcd) (bound _ _ _ _ ?_))
  refine wpAny_newFunctionEnv (fun y hy => (fit_names y hy).1) (fun y hy => ?_) (fun h' hn' hs' => ⟨?_, ?_⟩) (by rfl)
  · have hy : y = (("shape" : Str), Value.ref sh) ∨ y = (("log" : Str), Value.ref lg) := by simpa using hy
    rcases hy with e | e <;> rw [e]
    · show (defScope sfitting).names.lookup ("shape" : Str) = _
      decide +kernel
    · show (defScope sfitting).names.lookup ("log" : Str) = _
      decide +kernel
  · have kp' : ∀ b o, s.heap.get? b = some o → h'.get? b = some o := fun b o e => hs'.extBut b o (Nat.ne_of_lt (Heap.lt_size e)) (Heap.get?_push_of_some _ e)
    exact I.nolimit.keeps kp'
  · have kp' : ∀ b o, s.heap.get? b = some o → h'.get? b = some o := fun b o e => hs'.extBut b o (Nat.ne_of_lt (Heap.lt_size e)) (Heap.get?_push_of_some _ e)
    have hsz : h'.objs.size = s.heap.objs.size + 1 := by rw [hs'.1, Heap.size_push]
    have I1 : Inv X pins σ H { s with heap := h', toks := s.toks + 2 } := I.kept kp'
    generalize hgo : ({ cls := .type "generator", data := .fields #[.int s.gens.size 0, .str "fitting" (s.toks + 2), .str "fitting" (s.toks + 2 + 1)] } : Obj) = go
    have I2 : Inv X pins σ H { s with heap := h'.push go, toks := s.toks + 2 + 1 + 1 } := I.kept fun b o e => Heap.get?_push_of_some _ (kp' b o e)
    have I3 := inv_gens (G := s.gens.push (.fresh (.func (defBody sfitting) (gfEnv "fitting" sfitting s.heap.objs.size (He.ga X.K "fitting") cdv)))) I2 (AllBare.push I.bare rfl)
    have hq := h cdv s.gens.size _ I3 (by show (h'.push go).objs.size = _; rw [Heap.size_push, hsz]) (I.fpOk (Nat.le_refl _) (I.hok.fresh (Nat.le_refl _))) ⟨_, hn'.push _, by rfl, by rfl⟩
      (by
        rw [← hsz]
        subst hgo
        exact ⟨_, _, _, Heap.get?_push_size _ rfl, rfl, rfl, rfl⟩) (Array.getElem?_push_size ..) (fun b o e => Heap.get?_push_of_some _ (kp' b o e))
    rw [← hsz] at hq
    subst hgo
    exact hq
end
end K70
-- K70FitL
/-! list(fitting(shape, log)) -/
namespace K70
open L2 PySem PySem.Spec PyProof.Rows GenW
/-- what a log lets of the first j rules -/
def fitL (ys : List V) (rs : List PR) (es : List Ent) (j : Nat) : List V := (((ys.zip rs).take j).filter fun p => es.all (entIs p.2)).map (·.1)
theorem fitL_step {ys : List V} {rs : List PR} {es : List Ent} {j : Nat} {y : V} {r : PR} (hy : ys[j]? = some y) (hr : rs[j]? = some r) : fitL ys rs es (j + 1) = fitL ys rs es j ++ if es.all (entIs r) = true then [y] else [] := by
  unfold fitL
  have hz : (ys.zip rs)[j]? = some (y, r) := by rw [List.getElem?_zip_eq_some]; exact ⟨hy, hr⟩
  rw [take_snoc hz, List.filter_append, List.map_append]
  congr 1
  cases c : es.all (entIs r) with
  | true => simp [List.filter, c]
  | false => simp [List.filter, c]
theorem fitL_len {ys : List V} {rs : List PR} {es : List Ent} {j : Nat} : (fitL ys rs es j).length ≤ j := by
  unfold fitL
  rw [List.length_map]
  refine Nat.le_trans (List.length_filter_le _ _) ?_
  rw [List.length_take]
  exact Nat.min_le_left _ _
theorem SameQ.log {K : PySem.W.Frag} {q p : Addr} {H H' : Hp} {es : List Ent} (hq : ∃ u, H q = some (.lst u)) (s : SameQ q H H') (h : LogAt K H p es) : LogAt K H' p es := by
  obtain ⟨u, hq'⟩ := id hq
  obtain ⟨dx, t, ys, h1, h2, h3⟩ := h
  exact ⟨dx, t, ys, s _ _ (fun z => by rw [z, hq'] at h1; cases h1) h1, s _ _ (fun z => by rw [z, hq'] at h2; cases h2) h2, s.ents hq h3⟩
theorem SameQ.fit {K : PySem.W.Frag} {q : Addr} {H H' : Hp} {sh lg t : Addr} {ys : List V} {rs : List PR} {es : List Ent} (hq : ∃ u, H q = some (.lst u)) (s : SameQ q H H') (h : FitH K H sh lg t ys rs es) : FitH K H' sh lg t ys rs es := by
  obtain ⟨u, hq'⟩ := id hq
  obtain ⟨dz, fs, h1, h2⟩ := h.sh
  exact ⟨⟨dz, fs, s _ _ (fun z => by rw [z, hq'] at h1; cases h1) h1, h2⟩, s _ _ (fun z => by have := h.t; rw [z, hq'] at this; cases this) h.t, s.rules hq h.at_, h.ok, s.log hq h.lg, h.eo, h.el⟩
section
variable {X : Cx} {A : Around} {a L sh lg t f S : Addr} {g : Nat} {cd : Value} {pins : List (Addr × Obj)} {ys : List V} {rs : List PR} {es : List Ent} {σ0 : L2.St} {H0 : Hp}
def drC (σ0 : L2.St) (H0 : Hp) (S : Addr) (ys : List V) (rs : List PR) (es : List Ent) : Nat → L2.St → Hp → Prop := fun j σ H => σ = σ0 ∧ SameQ S H0 H ∧ H S = some (.lst (fitL ys rs es j))
def drY (σ0 : L2.St) (H0 : Hp) (S : Addr) (ys : List V) (rs : List PR) (es : List Ent) : Nat → L2.St → Hp → Prop := fun j σ H => σ = σ0 ∧ SameQ S H0 H ∧ H S = some (.lst (fitL ys rs es j)) ∧ ∀ r, rs[j]? = some r → es.all (entIs r) = true
theorem dr_cons (hc : X.calm = true) (hfr : ∀ b ∈ frs X.stack, b < L) (h0 : X.s_0.heap.objs.size ≤ L) (hcs : ∀ y c, X.env.cells.lookup y = some c → c < L) (hb : X.base.objs.size ≤ L) (hl : ys.length = rs.length) : Cons X pins L (drC σ0 H0 S ys rs es) (drY σ0 H0 S ys rs es) rs es where
  calm := hc
  fr := hfr
  cl := fun _ _ _ _ _ _ b hbm => .inr (Nat.le_trans h0 (Nat.le_of_lt (restCells_mem hbm).1))
  cs := hcs
  base := hb
  same := fun j σ H H1 ⟨e1, e2, e3⟩ s => ⟨e1, e2.trans (.of s), s _ _ e3⟩
  step := fun j σ H H1 r ⟨e1, e2, e3⟩ s hr => by
    have hj : j < ys.length := by
      have := (List.getElem?_eq_some_iff.mp hr).1
      omega
    by_cases c : es.all (entIs r) = true
    · rw [if_pos c]
      refine ⟨e1, e2.trans (.of s), s _ _ e3, fun r' hr' => ?_⟩
      rw [hr] at hr'
      cases hr'
      exact c
    · rw [if_neg c]
      refine ⟨e1, e2.trans (.of s), ?_⟩
      rw [fitL_step (List.getElem?_eq_getElem hj) hr, if_neg c, List.append_nil]
      exact s _ _ e3
theorem fit_drain {A1 : Around} {Rs : Result → Shared → Prop} {oa : Obj} (hh : A1.in1.handled = none) (hroom : A1.in1.depth < recursionLimit) (hl : ys.length = rs.length) (hz : ys.length ≤ 100000) (hp : (a, oa) ∈ pins) (hg : ∀ h : Heap, h.get? a = some oa → h.IsGen a g)
    (done : ∀ σ H s, Inv X pins σ H s → drC σ0 H0 S ys rs es ys.length σ H → Rs (.ok (.ret .none)) s) :
    ∀ (n : Nat) (s : Shared) (σ : L2.St) (H : Hp) (j : Nat) (gs : GenState) (St : Shared → Prop), Inv X pins σ H s → drC σ0 H0 S ys rs es j σ H → s.gens[g]? = some gs → (∀ G, AllBare G → St { s with gens := G }) → FitGoes X A1.in1.in1 pins (drC σ0 H0 S ys rs es) (drY σ0 H0 S ys rs es) L sh lg t ys rs es St (n + 1) gs →
      codeAny (model X.prog X.w) A1 (.builtin "list.extend.loop" ⟨[.ref S, .ref a, .none], []⟩) Rs s := by
  intro n
  induction n with
  | zero =>
    intro s σ H j gs St I c hgs hst hgo
    (refine codeAny_builtin PySem.F.entry_extend_loop ?_)
    (rw [Around.under_plainId PySem.F.plain_extend_loop _])
    (show wpAny _ A1.in1 (pyNext (.ref a) >>= _) _ _ s)
    refine wpAny_bind (next_fit (X := X) (A := A1.in1) (pins := pins) hh I.nolimit hroom (hg _ (I.pin (a, oa) (List.mem_append_right _ hp)).1) hgs I.bare hst hgo (fun it i σ' H' v u s' gs' h0 h1 h2 => by omega) fun σ' H' s' I' c' => ?_)
    exact wpAny_pure (done σ' H' s' I' c')
  | succ n ih =>
    intro s σ H j gs St I c hgs hst hgo
    (refine codeAny_builtin PySem.F.entry_extend_loop ?_)
    (rw [Around.under_plainId PySem.F.plain_extend_loop _])
    (show wpAny _ A1.in1 (pyNext (.ref a) >>= _) _ _ s)
    refine wpAny_bind (next_fit (X := X) (A := A1.in1) (pins := pins) hh I.nolimit hroom (hg _ (I.pin (a, oa) (List.mem_append_right _ hp)).1) hgs I.bare hst hgo (fun it i σ' H' v u s' gs' h0 h1 h2 hv ru I' cy fh fL fi ti lc hgs' _ hgo' => ?_) fun σ' H' s' I' c' => ?_)
    · obtain ⟨es1, sq, hS, fits⟩ := cy
      have hri : rs[i]? = some rs[i] := List.getElem?_eq_getElem (by omega)
      obtain ⟨z, its2, cc, r2, hl2, e⟩ := I'.lstM hS
      show wpAny _ A1.in1 (updateSeq S (·.push u) >>= _) _ _ _
      have len := fitL_len (ys := ys) (rs := rs) (es := es) (j := i)
      have I2 := I'.lset (f := (·.push u)) (its' := its2 ++ [u]) (ys := fitL ys rs es i ++ [v]) (t' := s'.toks) hS e (by simp) (r2.append (.cons ru .nil)) (by rw [List.length_append, List.length_singleton, sizeLine_eq]; omega)
      have hst : fitL ys rs es (i + 1) = fitL ys rs es i ++ [v] := by rw [fitL_step hv hri, if_pos (fits _ hri)]
      rw [← hst] at I2
      have q8 : SameQ S H' (upd H' S (.lst (fitL ys rs es (i + 1)))) := fun c o nc e => by rw [upd_ne nc]; exact e
      have nL : L ≠ S := fun z => by have := fL.1; rw [z, hS] at this; cases this
      have ni : it ≠ S := fun z => by have := fi.1; rw [z, hS] at this; cases this
      refine wpAny_bind (wpAny_updateSeq e rfl (wpAny_pure ⟨plainId_quiet PySem.F.plain_extend_loop _, ?_⟩) (by rw [List.size_toArray]; have := Vals.length r2; rw [sizeLine_eq]; omega) (by show (its2.toArray.push u).size ≤ sizeLine + 1; rw [Array.size_push, List.size_toArray]; have := Vals.length r2; rw [sizeLine_eq]; omega))
      have st3 : ∀ G, AllBare G → FitSt X pins (drC σ0 H0 S ys rs es) L it sh lg t ys rs es (i + 1) { ({ s' with heap := s'.heap.update S (Obj.mapSeq (·.push u)) } : Shared) with gens := G } := fun G hG => by
        refine ⟨σ', _, inv_gens I2 hG, ⟨es1, sq.trans q8, upd_same⟩, q8.fit ⟨_, hS⟩ fh, ⟨by rw [upd_ne nL]; exact fL.1, fL.2⟩, ⟨by rw [upd_ne ni]; exact fi.1, fi.2⟩, ?_, ?_⟩
        · exact ti.at fun o eo => (Heap.get?_update_other _ _ (Ne.symm ni)).trans eo
        · obtain ⟨m, hn, m1, m2⟩ := lc
          exact ⟨m, hn.at' fun o eo => (Heap.get?_update_other _ _ (Ne.symm nL)).trans eo, m1, m2⟩
      exact ih _ σ' _ (i + 1) gs' _ I2 ⟨es1, sq.trans q8, upd_same⟩ hgs' st3 hgo'
    · exact wpAny_pure (done σ' H' s' I' c')
end
end K70
-- K70FitM
namespace K70
open L2 PySem PySem.Spec PyProof.Rows GenW
/-- list(fitting(shape, log)) -/
def tListFit (K : PySem.W.Frag) (ta : TA) : TE := fun σ H Q => ta σ H fun vs H1 => ∃ sh lg t ys rs es, vs = [V.ref sh, .ref lg] ∧ FitH K H1 sh lg t ys rs es ∧ ys.length ≤ 1000 ∧ ys.length = rs.length ∧
  ∀ S H2, H1 S = none → SameQ S H1 H2 → H2 S = some (.lst (fitL ys rs es ys.length)) → Q (.ref S) H2
section
variable {X : Cx} {σ : L2.St} {H : Hp} {s : Shared} {pins : List (Addr × Obj)}
theorem lt_of_stack (I : Inv X pins σ H s) : ∀ b ∈ frs X.stack, b < s.heap.objs.size := fun b hb => by
  obtain ⟨_, o, e, _⟩ := I.env0.funs.mem hb
  exact Heap.lt_size e
theorem call_listFit (T : Tx X.K X.mg) (hc : X.calm = true) (hr : Room 12 X.A) {sh lg t : Addr} {ys : List V} {rs : List PR} {es : List Ent} {Q : VK} (I : Inv X pins σ H s) (h0 : X.s_0.heap.objs.size ≤ s.heap.objs.size) (fh : FitH X.K H sh lg t ys rs es) (hz : ys.length ≤ 1000) (hl : ys.length = rs.length)
    (k : ∀ S H2, H S = none → SameQ S H H2 → H2 S = some (.lst (fitL ys rs es ys.length)) → Q (.ref S) H2) {cd : Value} {g : Nat} {s1 : Shared} (I1 : Inv X pins σ H s1) (hsz : s1.heap.objs.size = s.heap.objs.size + 2) (fL : FpOk X pins H s.heap.objs.size) (lc : LocG s1.heap s.heap.objs.size sh lg) (isg : s1.heap.IsGen (s.heap.objs.size + 1) g)
    (hgs : s1.gens[g]? = some (.fresh (.func (defBody sfitting) (gfEnv "fitting" sfitting s.heap.objs.size (He.ga X.K "fitting") cd)))) :
    wpAny (model X.prog X.w) X.A (call (.type "list") [.ref (s.heap.objs.size + 1)]) (EP X pins σ Q) X.xe s1 := by
  obtain ⟨oa, nm, qn, ea, ca, da, sa⟩ := id isg
  have isg' : ∀ h : Heap, h.get? (s.heap.objs.size + 1) = some oa → h.IsGen (s.heap.objs.size + 1) g := fun h e => ⟨oa, nm, qn, e, ca, da, sa⟩
  have hSa : s1.heap.objs.size ≠ s.heap.objs.size + 1 := by rw [hsz]; exact Nat.succ_ne_self _
  refine callType_codes (Q₁ := fun obj s₁ => obj = .ref s1.heap.objs.size ∧ s₁ = { s1 with heap := s1.heap.push { cls := .type "list", data := .seq #[] } }) PySem.F.called_list (PySem.F.typeCall_list_1 _) PySem.F.entry_list_init
    (code_list_new _ ⟨rfl, rfl⟩) fun obj s₁ h₁k => ?_
  obtain ⟨rfl, rfl⟩ := h₁k
  have hSk : (s1.heap.push { cls := .type "list", data := .seq #[] }).get? s1.heap.objs.size = some { cls := .type "list", data := .seq #[] } := Heap.get?_push_size _ rfl
  refine ⟨⟨_, hSk, rfl⟩, PySem.F.args_list_init_2 _ _, ?_⟩
  have fr : H s1.heap.objs.size = none := I1.hok.fresh (Nat.le_refl _)
  have I2 : Inv X pins σ (upd H s1.heap.objs.size (.lst [])) { s1 with heap := s1.heap.push { cls := .type "list", data := .seq #[] } } := I1.lnew (its := []) (t' := s1.toks) .nil (Nat.zero_le _)
  -- the generator's object is pinned from now on
  have pinA : ∀ {H' : Hp} {s' : Shared}, Inv X pins σ H' s' → s'.heap.get? (s.heap.objs.size + 1) = some oa → H' (s.heap.objs.size + 1) = none → Inv X ((s.heap.objs.size + 1, oa) :: pins) σ H' s' := fun {H' s'} J e n => by
    refine J.pins_of fun p hpk => ?_
    rcases List.mem_cons.mp hpk with z | z
    · rw [z]
      refine ⟨e, n, fun z => ?_, fun z => ?_, fun v z => by rw [da] at z; cases z⟩
      · obtain ⟨m, ⟨o', es', ep, e', d, _⟩, _⟩ := I1.loc
        have z : s.heap.objs.size + 1 = X.env.locals := z
        rw [← z, ea] at e'
        cases e'
        rw [da] at d
        cases d
      · have h1 := lt_of_stack (X := X) I
        have z : s.heap.objs.size + 1 ∈ frs X.outer := z
        have hst := I.ok.stk
        have : s.heap.objs.size + 1 ∈ frs X.stack := by
          rcases hst with q | ⟨q, _⟩
          · rw [q]; exact z
          · rw [q]
            unfold frs at z ⊢
            obtain ⟨e1, he, hfe⟩ := List.mem_filterMap.mp z
            exact List.mem_filterMap.mpr ⟨e1, List.mem_cons_of_mem _ he, hfe⟩
        have := h1 _ this
        exact absurd (Nat.lt_trans (Nat.lt_succ_self _) this) (Nat.lt_irrefl _)
    · exact J.pin p (List.mem_append_right _ z)
  have nA : ∀ {u : List V}, upd H s1.heap.objs.size (.lst u) (s.heap.objs.size + 1) = none := fun {u} => by
    rw [upd_ne (Ne.symm hSa)]
    exact I.hok.fresh (Nat.le_succ _)
  show wpAny _ X.A.in1.in1 (do let old ← Builtin.List.listItems (.ref s1.heap.objs.size); Builtin.List.listUpdate (.ref s1.heap.objs.size) (fun _ => #[]); letGo old.toList.reverse; Builtin.List.listExtendWith (.ref s1.heap.objs.size) (.ref (s.heap.objs.size + 1)) .none) _ _ _
  refine wpAny_bind ?_
  unfold Builtin.List.listItems
  refine wpAny_bind (wpAny_seqItems hSk rfl (wpAny_pure ?_))
  show wpAny _ X.A.in1.in1 (updateSeq s1.heap.objs.size (fun _ => #[]) >>= fun _ => letGo (#[] : Array Value).toList.reverse >>= fun _ => Builtin.List.listExtendWith (.ref s1.heap.objs.size) (.ref (s.heap.objs.size + 1)) .none) _ _ _
  refine wpAny_bind (wpAny_updateSeq hSk rfl ?_)
  have I3 := I2.lset (f := fun _ => #[]) (its := []) (its' := []) (ys := []) (t' := s1.toks) upd_same hSk rfl .nil (Nat.zero_le _)
  rw [upd_upd] at I3
  (refine wpAny_bind (wpAny_letGo ?_))
  have up : ∀ (h : Heap) (f : Obj → Obj), (∀ b o, s1.heap.get? b = some o → h.get? b = some o) → ∀ b o, s1.heap.get? b = some o → (h.update s1.heap.objs.size f).get? b = some o := fun h f q b o e =>
    (Heap.get?_update_other _ _ (Ne.symm (Nat.ne_of_lt (Heap.lt_size e)))).trans ((q b o e))
  have k1k : ∀ b o, s1.heap.get? b = some o → (s1.heap.push { cls := .type "list", data := .seq #[] }).get? b = some o := fun b o e => Heap.get?_push_of_some _ e
  have k2 := up _ (Obj.mapSeq (fun _ => (#[] : Array Value))) k1k
  have gty : ∀ {h : Heap}, (∀ b o, s1.heap.get? b = some o → h.get? b = some o) → h.IsGen (s.heap.objs.size + 1) g := fun {h} q => isg.keeps q
  (unfold Builtin.List.listExtendWith)
  refine wpAny_bind (wpAny_typeOf (Heap.IsGen.typeIs (s := { s1 with heap := _ }) (gty k2)) ?_)
  have h1 : Builtin.List.listSameRef (.ref s1.heap.objs.size) (.ref (s.heap.objs.size + 1)) = false := by simp [Builtin.List.listSameRef, hSa]
  have h2k : (Value.type "generator" == Value.type "list") = false := by decide
  have h3k : (Value.type "generator" == Value.type "tuple") = false := by decide
  simp only [h1, h2k, h3k, Bool.or_false, Bool.false_eq_true, if_false]
  refine wpAny_bind (wpAny_pyIter_gen (s := { s1 with heap := _ }) (gty k2) ?_)
  (refine wpAny_bind (wpAny_holding ?_))
  (unfold Builtin.List.listLengthHint)
  refine wpAny_bind (wpAny_specialOf (Heap.IsGen.typeIs (s := { s1 with heap := _ }) (gty k2)) PySem.F.gen_no_len ?_)
  show wpAny _ X.A.in1.in1 (specialOf (Value.ref (s.heap.objs.size + 1)) (Str.ofString "__length_hint__") >>= _) _ _ _
  refine wpAny_bind (wpAny_specialOf (Heap.IsGen.typeIs (s := { s1 with heap := _ }) (gty k2)) PySem.F.gen_no_hint ?_)
  refine wpAny_pure ?_
  show wpAny _ X.A.in1.in1 (rule "list.extend.makes-room" >>= fun _ => Builtin.List.listTouch (.ref s1.heap.objs.size) >>= fun _ =>
    again (.builtin "list.extend.loop" ⟨[.ref s1.heap.objs.size, .ref (s.heap.objs.size + 1), .none], []⟩)) _ _ _
  (refine wpAny_bind (wpAny_rule ?_))
  refine wpAny_bind ?_
  show wpAny _ X.A.in1.in1 (updateSeq s1.heap.objs.size (·.push .none) >>= fun _ => updateSeq s1.heap.objs.size (·.pop)) _ _ _
  obtain ⟨z, its, kk, r3, hl3, e3k⟩ := I3.lstM upd_same
  cases r3
  refine wpAny_bind (wpAny_updateSeq e3k rfl ?_)
  have I7 := I3.lset (f := (·.push Value.none)) (its' := [Value.none]) (ys := [.non]) (t' := s1.toks) upd_same e3k (by simp) (.cons rfl .nil) (by rw [List.length_singleton, sizeLine_eq]; decide)
  obtain ⟨z4, its4, k4, r4k, hl4, e4k⟩ := I7.lstM upd_same
  obtain ⟨u4, rfl, ru4⟩ := r4k.one
  refine wpAny_updateSeq e4k rfl ?_ (by show 1 ≤ sizeLine; rw [sizeLine_eq]; decide) (by show 0 ≤ sizeLine + 1; exact Nat.zero_le _)
  have I8 := I7.lset (f := (·.pop)) (its := [u4]) (its' := []) (ys := []) (t' := s1.toks) upd_same e4k (by rfl) .nil (Nat.zero_le _)
  rw [upd_upd, upd_upd] at I8
  have kp := up _ (Obj.mapSeq (·.pop)) (up _ (Obj.mapSeq (·.push Value.none)) k2)
  refine wpAny_pure ⟨plainId_quiet PySem.F.plain_extend_loop _, ?_⟩
  have I9 := pinA I8 (kp _ _ ea) nA
  have fr0 : H s1.heap.objs.size = none := fr
  have sq0 : SameQ s1.heap.objs.size H (upd H s1.heap.objs.size (.lst [])) := fun b o nb e => by rw [upd_ne nb]; exact e
  have s00 : Same H (upd H s1.heap.objs.size (.lst [])) := Same.put fr
  have nLS : s.heap.objs.size ≠ s1.heap.objs.size := by rw [hsz]; exact Nat.ne_of_lt (by omega)
  have hcells : ∀ y c, X.env.cells.lookup y = some c → c < s.heap.objs.size := fun y c e => by
    obtain ⟨v, z⟩ := I.cell y c e
    exact z.lt
  have hbase : X.base.objs.size ≤ s.heap.objs.size := Nat.le_trans I.ok.bsz h0
  have Co := dr_cons (pins := (s.heap.objs.size + 1, oa) :: pins) (σ0 := σ) (H0 := H) (S := s1.heap.objs.size) (es := es) hc (lt_of_stack I) h0 hcells hbase hl
  have rm : Room 6 (X.A.in1.in1.in1.deeper (gfEnv "fitting" sfitting s.heap.objs.size (He.ga X.K "fitting") cd)) := (hr.mono (j := 10) (by decide)).in1.in1.in1.deeper _
  refine fit_drain (X := X) (A1 := X.A.in1) (pins := (s.heap.objs.size + 1, oa) :: pins) (a := s.heap.objs.size + 1) (g := g) (oa := oa) (L := s.heap.objs.size) (sh := sh) (lg := lg) (t := t) (ys := ys) (rs := rs) (es := es) (σ0 := σ) (H0 := H) (S := s1.heap.objs.size) hr.hd (by have := hr.dp; show X.A.depth < _; omega) hl (by omega) List.mem_cons_self isg'
    (fun σ' H' s' I' ⟨e1, e2, e3k⟩ => ⟨rfl, .ref s1.heap.objs.size, H', by rw [← e1]; exact I'.pins_of fun p hpk => I'.pin p (List.mem_append_right _ (List.mem_cons_of_mem _ hpk)), rfl, k _ H' fr e2 e3k⟩) (ys.length + 1) _ σ _ 0 _
    (FitSt0 X ((s.heap.objs.size + 1, oa) :: pins) (drC σ H s1.heap.objs.size ys rs es) s.heap.objs.size sh lg t ys rs es) I9 ⟨rfl, sq0, by rw [upd_same]; rfl⟩ hgs (fun G hG => ⟨σ, _, inv_gens I9 hG, ⟨rfl, sq0, by rw [upd_same]; rfl⟩, fh.same s00, ⟨by rw [upd_ne nLS]; exact fL.1, fL.2.1, fL.2.2.1, fL.2.2.2.1, fL.2.2.2.2.1, fun p hpk z => ?_⟩, ?_⟩)
    (fresh_goes (X := X) (A := X.A.in1.in1.in1) (ys := ys) (n := ys.length + 1 + 1) T Co hr.hd I.ok.frames rm (by omega))
  · rcases List.mem_append.mp hpk with hpk | hpk
    · exact fL.2.2.2.2.2 p (List.mem_append_left _ hpk) z
    · rcases List.mem_cons.mp hpk with q | q
      · rw [q] at z
        exact absurd z (Nat.succ_ne_self _)
      · exact fL.2.2.2.2.2 p (List.mem_append_right _ q) z
  · obtain ⟨m, hn, m1, m2⟩ := lc
    exact ⟨m, hn.at' fun o e => kp _ o e, m1, m2⟩
theorem pe_listFit (T : Tx X.K X.mg) (hc : X.calm = true) (hr : Room 12 X.A) {e : Expr} {l : List Expr} {ta : TA} {p p2 pos pos2 : Pos} (ha : PA X (e :: l) ta) (hgl : Gl X "list" := by rfl) (hgf : Gl X "fitting" := by rfl)
    (hek : starEach [.Call (.Name "fitting" p2) (e :: l) [] pos2] X.env = (false, eval (.Call (.Name "fitting" p2) (e :: l) [] pos2) X.env) :: starEach [] X.env := by rfl)
    (he2 : starEach (e :: l) X.env = (false, eval e X.env) :: starEach l X.env := by rfl) (hpl : (backTo pos2 (starEach l X.env)).any (·.1) = false := by rfl) :
    PE X (.Call (.Name "list" p) [.Call (.Name "fitting" p2) (e :: l) [] pos2] [] pos) (tListFit X.K ta) := by
  refine ⟨fun pins s σ H Q Ik hq => ?_⟩
  refine wpAny_Call_Name_kw (ld_blt (u := .type "list") Ik hgl T.b_list (by decide +kernel) ?_)
  refine PyProof.Rows.callWith_type1 ?_ hek rfl
  rw [hek]
  show wpAny _ _ (spliced ((false, eval (.Call (.Name "fitting" p2) (e :: l) [] pos2) X.env) :: backTo pos (starEach [] X.env))) _ _ s
  obtain ⟨fd, F⟩ := T.ffitting
  refine Calls.spliced_cons (wpAny_Call_Name_kw (ld_glob Ik hgf T.g_fitting ?_))
  refine PySem.W.callWith_K (h₀ := X.base) Ik.ok.mod.kin F.kp (thn (ha.run pos2 pins s σ H _ Ik hq) fun us s1 ⟨vs, H1, I1, r, sh, lg, t, ys, rs, es, ev, fh, hz, hl, k⟩ => ⟨I1.kIn, ?_⟩) he2 hpl
  subst ev
  obtain ⟨u1, us, rfl, r1, r⟩ : ∃ u1 us', us = u1 :: us' ∧ RelV (V.ref sh) u1 ∧ Vals [V.ref lg] us' := by
    cases r with
    | cons a b => (exact ⟨_, _, rfl, a, b⟩)
  obtain ⟨u2, rfl, r2⟩ := r.one
  obtain rfl : u1 = Value.ref sh := r1
  obtain rfl : u2 = Value.ref lg := r2
  show wpAny _ _ (call (.ref (He.ga X.K "fitting")) [.ref sh, .ref lg]) _ _ _
  refine fit_call T (by have := hr.dp; omega) I1 fun cd g s2 I2 hsz fL lc isg hgs kp => ?_
  refine Calls.spliced_nil ?_
  exact call_listFit T hc hr I1 I1.sz fh hz hl k I2 hsz fL lc isg hgs
end
end K70
-- K70FitC
/-! [elt for rule in fitting(shape, log)] -/
namespace K70
open L2 PySem PySem.Spec PyProof.Rows GenW
theorem bare_dull {G : Array GenState} (h : AllBare G) : AllBare (G.map dull) := fun x hx => by
  obtain ⟨y, hy, rfl⟩ := Array.mem_map.mp hx
  rw [dull_bare]
  exact h y hy
/-- what only keeps the frame's state keeps a sleeping generator, too -/
theorem keep_inv {X : Cx} {pins : List (Addr × Obj)} {α : Type} {M : Model} {A : Around} {t : Sem α} {R : α → L2.St → Hp → Prop} {E : Value → Shared → Prop} {s : Shared} {g : Nat} {gs : GenState} (hb : AllBare s.gens) (hg : s.gens[g]? = some gs) (hs : IsSusp gs)
    (h : ∀ G, AllBare G → wpAny M A t (fun a s' => ∃ σ H, Inv X pins σ H s' ∧ R a σ H) (fun _ _ => False) { s with gens := G }) : wpAny M A t (fun a s' => (∃ σ H, Inv X pins σ H s' ∧ R a σ H) ∧ s'.gens[g]? = some gs) E s := by
  obtain ⟨k, l, c, p, fs, cl, rfl⟩ := hs
  refine wpAny_mono (wpAny_po (h (s.gens.map dull) (bare_dull hb))) (fun a z ⟨s', P, σ, H, I, r⟩ => ?_) fun e z ⟨s', _, q⟩ => q.elim
  have hB : allSusp s g = some (.suspended k l c p fs cl) := by
    unfold allSusp
    rw [hg]
  have hz : AllBare z.gens := fun x hx => by
    obtain ⟨i, hi, ei⟩ := Array.mem_iff_getElem.mp hx
    have ei' : z.gens[i]? = some x := by rw [Array.getElem?_eq_getElem hi, ei]
    cases hb2 : allSusp s i with
    | none =>
      rw [P.no i hb2] at ei'
      exact I.bare x (Array.mem_of_getElem? ei')
    | some G =>
      obtain ⟨_, _, _, _, _, _, _, _, e3⟩ := P.yes i G hb2
      rw [ei'] at e3
      cases e3
      have : s.gens[i]? = some x := by
        unfold allSusp at hb2
        cases e4 : s.gens[i]? with
        | none => rw [e4] at hb2; cases hb2
        | some y =>
          rw [e4] at hb2
          cases y with
          | suspended _ _ _ _ _ _ => exact hb2
          | fresh _ => cases hb2
          | running => cases hb2
          | finished => cases hb2
      exact hb x (Array.mem_of_getElem? this)
  refine ⟨⟨σ, H, ?_, r⟩, ?_⟩
  · rw [P.eta]
    exact inv_gens I hz
  · obtain ⟨_, _, _, _, _, _, _, _, e3⟩ := P.yes g _ hB
    exact e3
/-- the elements for the first j rules -/
def outL (rs : List PR) (es : List Ent) (yv : PR → Bool) (j : Nat) : List V := (((rs.take j).filter fun r => es.all (entIs r))).map fun r => V.bl (yv r)
theorem outL_step {rs : List PR} {es : List Ent} {yv : PR → Bool} {j : Nat} {r : PR} (hr : rs[j]? = some r) : outL rs es yv (j + 1) = outL rs es yv j ++ if es.all (entIs r) = true then [V.bl (yv r)] else [] := by
  unfold outL
  rw [take_snoc hr, List.filter_append, List.map_append]
  congr 1
  cases c : es.all (entIs r) with
  | true => simp [List.filter, c]
  | false => simp [List.filter, c]
theorem outL_len {rs : List PR} {es : List Ent} {yv : PR → Bool} {j : Nat} : (outL rs es yv j).length ≤ j := by
  unfold outL
  rw [List.length_map]
  refine Nat.le_trans (List.length_filter_le _ _) ?_
  rw [List.length_take]
  exact Nat.min_le_left _ _
def lcC (σ0 : L2.St) (H0 : Hp) (D : Addr) (rs : List PR) (es : List Ent) (yv : PR → Bool) : Nat → L2.St → Hp → Prop := fun j σ H => σ = σ0 ∧ Same H0 H ∧ H D = some (.lst (outL rs es yv j))
def lcY (σ0 : L2.St) (H0 : Hp) (D : Addr) (rs : List PR) (es : List Ent) (yv : PR → Bool) : Nat → L2.St → Hp → Prop := fun j σ H => σ = σ0 ∧ Same H0 H ∧ H D = some (.lst (outL rs es yv j)) ∧ ∀ r, rs[j]? = some r → es.all (entIs r) = true
theorem lc_cons {X : Cx} {pins : List (Addr × Obj)} {L D : Addr} {σ0 : L2.St} {H0 : Hp} {rs : List PR} {es : List Ent} {yv : PR → Bool} (hc : X.calm = true) (hfr : ∀ b ∈ frs X.stack, b < L) (hcs : ∀ y c, X.env.cells.lookup y = some c → c < L) (hb : X.base.objs.size ≤ L)
    (hcl : ∀ σ H s j, Inv X pins σ H s → lcC σ0 H0 D rs es yv j σ H → ∀ b ∈ restCells s H L, b ∈ X.ex ∨ X.s_0.heap.objs.size ≤ b) : Cons X pins L (lcC σ0 H0 D rs es yv) (lcY σ0 H0 D rs es yv) rs es where
  calm := hc
  fr := hfr
  cl := hcl
  cs := hcs
  base := hb
  same := fun j σ H H1 ⟨e1, e2, e3⟩ s => ⟨e1, e2.trans s, s _ _ e3⟩
  step := fun j σ H H1 r ⟨e1, e2, e3⟩ s hr => by
    by_cases c : es.all (entIs r) = true
    · rw [if_pos c]
      refine ⟨e1, e2.trans s, s _ _ e3, fun r' hr' => ?_⟩
      rw [hr] at hr'
      cases hr'
      exact c
    · rw [if_neg c]
      refine ⟨e1, e2.trans s, ?_⟩
      rw [outL_step hr, if_neg c, List.append_nil]
      exact s _ _ e3
def tLcFit (K : PySem.W.Frag) (ta : TA) (te : TE) (i : Nat) : TE := fun σ H Q => ta σ H fun vs H1 => ∃ (sh lg t : Addr) (ys : List V) (rs : List PR) (es : List Ent) (yv : PR → Bool), vs = [V.ref sh, .ref lg] ∧ FitH K H1 sh lg t ys rs es ∧ ys.length ≤ 1000 ∧ ys.length = rs.length ∧
  (∀ (j : Nat) (q : Addr) (r : PR) (H' : Hp), rs[j]? = some r → RuleAt K H' q r → Same H1 H' → ∀ Qk : VK, (∀ H'', Same H' H'' → Qk (.bl (yv r)) H'') → te ((wipe σ [i]).set i (some (.ref q))) H' Qk) ∧
  ∀ D H2, Same H1 H2 → H2 D = some (.lst (outL rs es yv rs.length)) → Q (.ref D) H2
section
variable {X : Cx} {σ : L2.St} {H : Hp} {s : Shared} {pins : List (Addr × Obj)}
theorem cells_none : ∀ (l : List (Str × NameKind)) (n : Nat) (acc : List (Str × Addr)), (∀ y ∈ l, y.2 ≠ .cell) → cellsFrom n l acc = acc
  | [], n, acc, _ => rfl
  | (y, k) :: l, n, acc, hl => by
    have hk := hl (y, k) List.mem_cons_self
    have h2 : ∀ z ∈ l, z.2 ≠ .cell := fun z hz => hl z (List.mem_cons_of_mem _ hz)
    cases k <;> first | exact absurd rfl hk | (unfold cellsFrom; exact cells_none l _ _ h2)
theorem pe_lcFit (T : Tx X.K X.mg) (hc : X.calm = true) (hr : Room 12 X.A) (hN : X.N.Nodup) {elt e : Expr} {l : List Expr} {ta : TA} {te : TE} {i : Nat} {scope : Scope} {px p2 pos pos2 : Pos} (ok : BlkOk X.N X.env.scope scope [("rule", i)]) (hnc : ∀ y ∈ scope.names, y.2 ≠ .cell) (ha : PA X (e :: l) ta)
    (hg : ∀ (s : Shared) (H : Hp) (C : Addr) (cl : List (Str × Addr)) (fp : List Addr), PG (X.blk s H scope (compEnvC scope cl C X.env) fp) (.Name "rule" px) (gName i))
    (he : ∀ (s : Shared) (H : Hp) (C : Addr) (cl : List (Str × Addr)) (fp : List Addr), PE (X.blk s H scope (compEnvC scope cl C X.env) fp) elt te) (hgf : Gl X "fitting" := by rfl)
    (he2 : starEach (e :: l) X.env = (false, eval e X.env) :: starEach l X.env := by rfl) (hpl : (backTo pos2 (starEach l X.env)).any (·.1) = false := by rfl) :
    PE X (.ListComp elt [⟨.Name "rule" px, .Call (.Name "fitting" p2) (e :: l) [] pos2, [], 0⟩] scope pos) (tLcFit X.K ta te i) := by
  refine ⟨fun pins s σ H Q Ik h => ?_⟩
  have hfree : ∀ y ∈ scope.names, y.2 = .free → ∃ c, X.env.cells.lookup y.1 = some c := fun y hyk e => by
    rcases ok.free y hyk e with k | k
    · exact Ik.ok.has _ (.inl k)
    · exact Ik.ok.has _ (.inr k)
  obtain ⟨fd, F⟩ := T.ffitting
  rw [eval_ListComp]
  refine wpAny_comprehension_free (use := none) rfl (fun _ => rfl) (closure_ok hfree) ok.kind (fun y hyk e => by rw [ok.uniq y hyk, e]) ?_
  refine wpAny_Call_Name_kw (ld_glob Ik hgf T.g_fitting ?_)
  refine PySem.W.callWith_K (h₀ := X.base) Ik.ok.mod.kin F.kp (thn (ha.run pos2 pins s σ H _ Ik h) fun us s1 ⟨vs, H1, I1, r, sh, lg, t, ys, rs, es, yv, ev, fh, hz, hl, hte, k⟩ => ⟨I1.kIn, ?_⟩) he2 hpl
  subst ev
  obtain ⟨u1, us, rfl, r1, r⟩ : ∃ u1 us', us = u1 :: us' ∧ RelV (V.ref sh) u1 ∧ Vals [V.ref lg] us' := by
    cases r with
    | cons a b => (exact ⟨_, _, rfl, a, b⟩)
  obtain ⟨u2, rfl, r2⟩ := r.one
  obtain rfl : u1 = Value.ref sh := r1
  obtain rfl : u2 = Value.ref lg := r2
  show wpAny _ _ (call (.ref (He.ga X.K "fitting")) [.ref sh, .ref lg]) _ _ _
  refine fit_call T (by have := hr.dp; omega) I1 fun cd g s2 I2 hsz fL lc isg hgs kp => ?_
  refine wpAny_pyIter_gen isg ?_
  (refine wpAny_newObj_type (newEnv_comp ?_) (by show 0 ≤ sizeLine; decide))
  obtain ⟨oa, nm, qn, ea, ca, da, sa⟩ := id isg
  generalize hL : s1.heap.objs.size = L at *
  have isg' : ∀ h : Heap, h.get? (L + 1) = some oa → h.IsGen (L + 1) g := fun h e => ⟨oa, nm, qn, e, ca, da, sa⟩
  have hDn : H1 s2.heap.objs.size = none := I2.hok.fresh (Nat.le_refl _)
  have na1 : H1 (L + 1) = none := I1.hok.fresh (by rw [hL]; exact Nat.le_succ _)
  generalize hD : s2.heap.objs.size = D at *
  have eD : D = L + 2 := hsz
  have hLD : L ≠ D := by rw [eD]; exact Nat.ne_of_lt (by omega)
  have haD : L + 1 ≠ D := by rw [eD]; exact Nat.ne_of_lt (by omega)
  generalize hs3 : ({ s2 with heap := s2.heap.push { cls := .type "list", data := .seq ([] : List Value).toArray } } : Shared) = s3k
  have h3 : s3k.heap = s2.heap.push { cls := .type "list", data := .seq ([] : List Value).toArray } := by rw [← hs3]
  have I3 : Inv X pins σ (upd H1 D (.lst [])) s3k := by
    rw [← hs3, ← hD]
    exact I2.lnew (its := []) (t' := s2.toks) .nil (Nat.zero_le _)
  have sz3 : s3k.heap.objs.size = L + 3 := by rw [h3, Heap.size_push, hD, eD]
  have fL3 : FpOk X pins (upd H1 D (.lst [])) L := ⟨by rw [upd_ne hLD]; exact fL.1, fL.2⟩
  have I4 := block_start I3 ok hN (fp := [L]) fun b hbk => by
    rw [List.mem_singleton.mp hbk]
    exact ⟨fL3, by rw [sz3]; exact Nat.lt_add_of_pos_right (by decide)⟩
  have pg := hg s3k (upd H1 D (.lst [])) s3k.heap.objs.size (cellsFrom (s3k.heap.objs.size + 1) scope.names (cloFrom X.env.cells scope.names [])) [L]
  have pe := he s3k (upd H1 D (.lst [])) s3k.heap.objs.size (cellsFrom (s3k.heap.objs.size + 1) scope.names (cloFrom X.env.cells scope.names [])) [L]
  show codeAny _ _ (.compStart (.ListComp elt [⟨.Name "rule" px, .Call (.Name "fitting" p2) (e :: l) [] pos2, [], 0⟩] scope pos) 0 (.ref (L + 1)) (.ref D) (compEnvC scope (cellsFrom (s3k.heap.objs.size + 1) scope.names (cloFrom X.env.cells scope.names [])) s3k.heap.objs.size X.env)) (compPost (model X.prog X.w) X.A X.xe none (EP X pins σ Q) (.ref D) s3k.heap.objs.size) { s3k with heap := pushCells (s3k.heap.push { cls := .type "dict", data := .dict #[] }) scope.names }
  have hcells : cellsFrom (s3k.heap.objs.size + 1) scope.names (cloFrom X.env.cells scope.names []) = cloFrom X.env.cells scope.names [] := cells_none _ _ _ hnc
  rw [hcells] at I4 pg pe ⊢
  have cL : (compEnvC scope (cloFrom X.env.cells scope.names []) s3k.heap.objs.size X.env).locals = s3k.heap.objs.size := rfl
  have ccl : (compEnvC scope (cloFrom X.env.cells scope.names []) s3k.heap.objs.size X.env).cells = cloFrom X.env.cells scope.names [] := rfl
  generalize hce : compEnvC scope (cloFrom X.env.cells scope.names []) s3k.heap.objs.size X.env = cek at I4 pg pe cL ccl ⊢
  generalize hH3 : upd H1 D (.lst []) = H3 at I3 I4 pg pe fL3
  have s13 : Same H1 H3 := by rw [← hH3]; exact Same.put hDn
  have hD3 : H3 D = some (.lst []) := by rw [← hH3]; exact upd_same
  generalize hs4 : ({ s3k with heap := pushCells (s3k.heap.push { cls := .type "dict", data := .dict #[] }) scope.names } : Shared) = s4 at I4 ⊢
  have kp34 : ∀ b o, s3k.heap.get? b = some o → s4.heap.get? b = some o := fun b o e => by rw [← hs4]; exact pushCells_keeps _ _ _ _ (Heap.get?_push_of_some _ e)
  have kp24 : ∀ b o, s2.heap.get? b = some o → s4.heap.get? b = some o := fun b o e => kp34 b o (by rw [h3]; exact Heap.get?_push_of_some _ e)
  have I4 : Inv (X.blk s3k H3 scope cek [L]) [(L + 1, oa)] (wipe σ [i]) H3 s4 := by
    refine I4.pins_of fun p hp => ?_
    rw [List.mem_singleton.mp hp]
    refine ⟨kp24 _ _ ea, by rw [← hH3, upd_ne haD]; exact na1, fun z => ?_, fun z => ?_, fun v z => by rw [da] at z; cases z⟩
    · have z : L + 1 = cek.locals := z
      rw [cL, sz3] at z
      exact absurd z (Nat.ne_of_lt (Nat.add_lt_add_left (by decide) L))
    · have z : L + 1 ∈ frs X.stack := z
      have := lt_of_stack I1 _ z
      rw [hL] at this
      exact absurd (Nat.lt_trans (Nat.lt_succ_self _) this) (Nat.lt_irrefl _)
  have hbl : ∀ y c, cek.cells.lookup y = some c → c < L := fun y c e => by
    rw [ccl] at e
    obtain ⟨v, z⟩ := I1.cell y c (NdefX.clo_cm hfree e)
    rw [← hL]
    exact z.lt
  have hcl : ∀ σ' H' s' j, Inv (X.blk s3k H3 scope cek [L]) [(L + 1, oa)] σ' H' s' → lcC (wipe σ [i]) H1 D rs es yv j σ' H' → ∀ b ∈ restCells s' H' L, b ∈ (X.blk s3k H3 scope cek [L]).ex ∨ (X.blk s3k H3 scope cek [L]).s_0.heap.objs.size ≤ b := by
    intro σ' H' s' j I' c b hbk
    obtain ⟨h1, h2, o, e1, e2⟩ := restCells_mem hbk
    rcases Nat.lt_or_ge b (L + 3) with hlt | hge
    · exfalso
      have hb2 : b = L + 1 ∨ b = D := by
        rw [eD]
        rcases Nat.eq_or_lt_of_le h1 with z | z
        · exact .inl z.symm
        · exact .inr (Nat.le_antisymm (Nat.le_of_lt_succ hlt) z)
      rcases hb2 with rfl | rfl
      · have := (I'.pin (L + 1, oa) (List.mem_append_right _ (List.mem_singleton.mpr rfl))).1
        rw [e1] at this
        cases this
        unfold isCellB at e2
        rw [da] at e2
        cases e2
      · rw [c.2.2] at h2
        cases h2
    · refine .inr ?_
      show s3k.heap.objs.size ≤ b
      rw [sz3]
      exact hge
  have hfr : ∀ b ∈ frs (X.blk s3k H3 scope cek [L]).stack, b < L := fun b hbk => by
    rw [← hL]
    exact lt_of_stack I1 b hbk
  have hbase : X.base.objs.size ≤ L := by rw [← hL]; exact Nat.le_trans I1.ok.bsz I1.sz
  have Co := lc_cons (X := X.blk s3k H3 scope cek [L]) (pins := [(L + 1, oa)]) (L := L) (D := D) (σ0 := wipe σ [i]) (H0 := H1) (rs := rs) (es := es) (yv := yv) hc hfr hbl hbase hcl
  have rm : Room 6 (X.A.in1.deeper (gfEnv "fitting" sfitting L (He.ga X.K "fitting") cd)) := (hr.mono (j := 8) (by decide)).in1.deeper _
  have fLb : ∀ {H' : Hp}, H' L = none → FpOk (X.blk s3k H3 scope cek [L]) [(L + 1, oa)] H' L := fun {H'} n => by
    refine ⟨n, fun z => ?_, fun z => ?_, .inl (List.mem_singleton.mpr rfl), fun y c e z => ?_, fun p hp z => ?_⟩
    · have z : L = cek.locals := z
      rw [cL, sz3] at z
      exact absurd z (Nat.ne_of_lt (Nat.lt_add_of_pos_right (by decide)))
    · exact absurd (hfr L (show L ∈ frs X.stack from z)) (Nat.lt_irrefl _)
    · have := hbl y c e
      rw [z] at this
      exact absurd this (Nat.lt_irrefl _)
    · have hp : p ∈ ([] : List (Addr × Obj)) ++ [(L + 1, oa)] := hp
      have : p = (L + 1, oa) := by simpa using hp
      rw [this] at z
      exact absurd z (Nat.succ_ne_self _)
  have nL3 : H3 L = none := fL3.1
  have cg : lcC (wipe σ [i]) H1 D rs es yv 0 (wipe σ [i]) H3 := ⟨rfl, s13, by rw [hD3]; rfl⟩
  have lc4 : LocG s4.heap L sh lg := by
    obtain ⟨m, hn, m1, m2⟩ := lc
    exact ⟨m, hn.at' fun o e => kp24 _ o e, m1, m2⟩
  have gens4 : s4.gens = s2.gens := by rw [← hs4, ← hs3]
  have loop : codeAny (model X.prog X.w) X.A (.compLoop (.ListComp elt [⟨.Name "rule" px, .Call (.Name "fitting" p2) (e :: l) [] pos2, [], 0⟩] scope pos) 0 (.ref (L + 1)) (.ref D) cek) (compPost (model X.prog X.w) X.A X.xe none (EP X pins σ Q) (.ref D) s3k.heap.objs.size) s4 := by
    refine compLoop_any (fun n s' => ∃ H' j gs St, Inv (X.blk s3k H3 scope cek [L]) [(L + 1, oa)] (wipe σ [i]) H' s' ∧ lcC (wipe σ [i]) H1 D rs es yv j (wipe σ [i]) H' ∧ s'.gens[g]? = some gs ∧ (∀ G, AllBare G → St { s' with gens := G }) ∧ FitGoes (X.blk s3k H3 scope cek [L]) X.A.in1 [(L + 1, oa)] (lcC (wipe σ [i]) H1 D rs es yv) (lcY (wipe σ [i]) H1 D rs es yv) L sh lg t ys rs es St (n + 1) gs) ?_ (ys.length + 1)
      ⟨H3, 0, _, FitSt0 (X.blk s3k H3 scope cek [L]) [(L + 1, oa)] (lcC (wipe σ [i]) H1 D rs es yv) L sh lg t ys rs es, I4, cg, by rw [gens4]; exact hgs, fun G hG => ⟨_, H3, inv_gens I4 hG, cg, fh.same s13, fLb nL3, lc4⟩, fresh_goes (X := X.blk s3k H3 scope cek [L]) (A := X.A.in1) T Co hr.hd Ik.ok.frames rm (by omega)⟩
    rintro n s5 ⟨H5, j, gs, St, I5, c5, g5, st5, go5⟩
    refine next_fit (X := X.blk s3k H3 scope cek [L]) (A := X.A) (pins := [(L + 1, oa)]) hr.hd I5.nolimit (by have := hr.dp; omega) (isg' _ (I5.pin (L + 1, oa) (List.mem_append_right _ (List.mem_singleton.mpr rfl))).1) g5 I5.bare st5 go5 (fun it i6 σ6 H6 v u s6 gs6 h0 h1 h2 hv ru I6 cy fh6 fL6 fi6 ti6 lc6 hgs6 hsus hgo6 => ?_) fun σ6 H6 s6 I6 c6 => ?_
    · have cy' := cy
      obtain ⟨e6, sm6, hD6, fits⟩ := cy'
      subst e6
      have hri : rs[i6]? = some rs[i6] := List.getElem?_eq_getElem (by omega)
      obtain ⟨rr, hrr, q, rfl, hq⟩ := paired_at fh6.at_ hv
      have fit := fits rr hrr
      have len := outL_len (rs := rs) (es := es) (yv := yv) (j := i6)
      have nit : it ≠ D := fun z => by have := fi6.1; rw [z, hD6] at this; cases this
      have stp : outL rs es yv (i6 + 1) = outL rs es yv i6 ++ [V.bl (yv rr)] := by rw [outL_step hrr, if_pos fit]
      -- such a state there is
      have hs6 : IsSusp gs6 := by
        refine hsus ?_
        obtain ⟨z, its2, cc, r2, hl2, e⟩ := I6.lstM hD6
        have I7 := I6.lset (f := (·.push (.bool (yv rr)))) (its' := its2 ++ [.bool (yv rr)]) (ys := outL rs es yv i6 ++ [V.bl (yv rr)]) (t' := s6.toks) hD6 e (by simp) (r2.append (.cons (show L2.RelV (V.bl (yv rr)) (.bool (yv rr)) from rfl) .nil)) (by rw [List.length_append, List.length_singleton, sizeLine_eq]; omega)
        rw [← stp] at I7
        have s7 : Same H1 (upd H6 D (.lst (outL rs es yv (i6 + 1)))) := Same.set sm6 hDn
        refine ⟨_, _, _, I7, ⟨rfl, s7, upd_same⟩, fh.same s7, fLb (by rw [upd_ne hLD]; exact fL6.1), ⟨by rw [upd_ne nit]; exact fi6.1, fi6.2⟩, ?_, ?_⟩
        · exact ti6.at fun o eo => (Heap.get?_update_other _ _ (Ne.symm nit)).trans eo
        · obtain ⟨m, hn, m1, m2⟩ := lc6
          exact ⟨m, hn.at' fun o eo => (Heap.get?_update_other _ _ (Ne.symm hLD)).trans eo, m1, m2⟩
      -- the generator's objects are pinned through the turn
      obtain ⟨m6, hn6, m61, m62⟩ := lc6
      obtain ⟨oL, eL, dL⟩ : ∃ oL, s6.heap.get? L = some oL ∧ ∀ v, oL.data ≠ .cell v := by
        obtain ⟨o, es', ep, e, d, _⟩ := id hn6
        (exact ⟨o, e, fun v z => by rw [d] at z; cases z⟩)
      obtain ⟨oI, eI, dI⟩ : ∃ oI, s6.heap.get? it = some oI ∧ ∀ v, oI.data ≠ .cell v := by
        obtain ⟨o, e, _, d⟩ := id ti6
        (exact ⟨o, e, fun v z => by rw [d] at z; cases z⟩)
      have hf2 : ∀ b ∈ [L, it], FpOk (X.blk s3k H3 scope cek [L]) [(L + 1, oa)] H6 b := fun b hbk => by
        rcases List.mem_cons.mp hbk with z | z
        · rw [z]; exact fL6
        · rw [List.mem_singleton.mp z]; exact fi6
      have ho2 : ∀ b ∈ [L, it], ∃ o, s6.heap.get? b = some o ∧ ∀ v, o.data ≠ .cell v := fun b hbk => by
        rcases List.mem_cons.mp hbk with z | z
        · rw [z]; exact ⟨_, eL, dL⟩
        · rw [List.mem_singleton.mp z]; exact ⟨_, eI, dI⟩
      have I6p := I6.pinned hf2 ho2
      refine wpAny_of_eq (rfl : letOwnedTupleGo (.Name "rule" px) (.ref (L + 1)) u = pure ()) ?_
      refine thnF (keep_inv (X := X.blk s3k H3 scope cek [L]) (pins := [(L + 1, oa)] ++ pinsAt [L, it] s6.heap) (R := fun _ σ' H' => σ' = (wipe σ [i]).set i (some (.ref q)) ∧ H' = H6) I6.bare hgs6 hs6 fun G hG => thnF (pg.run _ { s6 with gens := G } (wipe σ [i]) H6 (.ref q) u (fun σ' H' => σ' = (wipe σ [i]).set i (some (.ref q)) ∧ H' = H6) (inv_gens I6p hG) ru ⟨rfl, rfl⟩) fun _ _ z => z) fun _ s8 ⟨⟨σ8, H8, I8, e8, eH8⟩, g8⟩ => ?_
      subst e8 eH8
      simp only [List.forIn_nil]
      refine wpAny_pure ?_
      simp only [if_true]
      refine thnF (keep_inv (X := X.blk s3k H3 scope cek [L]) (pins := [(L + 1, oa)] ++ pinsAt [L, it] s6.heap) (R := fun x σ' H' => σ' = (wipe σ [i]).set i (some (.ref q)) ∧ Same H8 H' ∧ x = .bool (yv rr)) I8.bare g8 hs6 fun G hG =>
        thnF (pe.run _ { s8 with gens := G } _ H8 (fun v H' => v = .bl (yv rr) ∧ Same H8 H') (inv_gens I8 hG) (hte i6 q rr H8 hrr hq sm6 _ fun H'' s'' => ⟨rfl, s''⟩)) fun x s' ⟨v, H', I', rv, ev, sv⟩ => ⟨_, H', I', rfl, sv, by subst ev; exact rv⟩) fun x s9 ⟨⟨σ9, H9, I9, e9, s89, ex⟩, g9⟩ => ?_
      subst e9 ex
      have hD9 := s89 _ _ hD6
      refine thnF (keep_inv (X := X.blk s3k H3 scope cek [L]) (pins := [(L + 1, oa)] ++ pinsAt [L, it] s6.heap) (R := fun _ σ' H' => σ' = (wipe σ [i]).set i (some (.ref q)) ∧ H' = upd H9 D (.lst (outL rs es yv (i6 + 1)))) I9.bare g9 hs6 fun G hG =>
        app_ok (X := X.blk s3k H3 scope cek [L]) (y := .bl (yv rr)) (inv_gens I9 hG) hD9 (by rw [sizeLine_eq]; omega) rfl fun s' I' => ⟨_, _, I', rfl, by rw [stp]⟩) fun _ s10 ⟨⟨σ10, H10, I10, e10, eH10⟩, g10⟩ => ?_
      subst e10 eH10
      have s10' : Same H1 (upd H9 D (.lst (outL rs es yv (i6 + 1)))) := Same.set (sm6.trans s89) hDn
      have pin' : ∀ b ∈ [L, it], ∀ o, s6.heap.get? b = some o → s10.heap.get? b = some o ∧ upd H9 D (.lst (outL rs es yv (i6 + 1))) b = none := fun b hbk o e =>
        let z := I10.pin (b, o) (List.mem_append_right _ (List.mem_append_right _ (mem_pinsAt hbk e)))
        ⟨z.1, z.2.1⟩
      have IX : Inv (X.blk s3k H3 scope cek [L]) [(L + 1, oa)] (wipe σ [i]) (upd H9 D (.lst (outL rs es yv (i6 + 1)))) s10 := by
        refine (I10.unpinned (pins := [(L + 1, oa)])).weak (by rw [List.length_set]) fun jj vv ev => ?_
        have hne : i ≠ jj := fun z => by
          rw [← z] at ev
          exact (wipe_some ev).2 (List.mem_singleton.mpr rfl)
        rw [List.getElem?_set_ne hne]
        exact ev
      have pL := pin' L List.mem_cons_self oL eL
      have pI := pin' it (List.mem_cons_of_mem _ (List.mem_singleton.mpr rfl)) oI eI
      have c10 : lcC (wipe σ [i]) H1 D rs es yv (i6 + 1) (wipe σ [i]) (upd H9 D (.lst (outL rs es yv (i6 + 1)))) := ⟨rfl, s10', upd_same⟩
      obtain ⟨n, rfl⟩ : ∃ n'k, n = n'k + 1 := ⟨n - 1, by omega⟩
      refine ⟨n, Nat.lt_succ_self n, _, i6 + 1, gs6, FitSt (X.blk s3k H3 scope cek [L]) [(L + 1, oa)] (lcC (wipe σ [i]) H1 D rs es yv) L it sh lg t ys rs es (i6 + 1), IX, c10, g10, fun G hG => ⟨_, _, inv_gens IX hG, c10, fh.same s10', fLb pL.2, ⟨pI.2, fi6.2⟩, ?_, ?_⟩, hgo6⟩
      · exact ti6.at fun o eo => by
          rw [eI] at eo
          cases eo
          exact pI.1
      · exact ⟨m6, hn6.at' fun o eo => by
          rw [eL] at eo
          cases eo
          exact pL.1, m61, m62⟩
    · obtain ⟨e6, sm6, hD6⟩ := c6
      have I7 : Inv X pins σ H6 s6 := I3.call' (ch := [L]) I6.os I6.base I6.hok I6.bare fun b hbk => by
        rw [List.mem_singleton.mp hbk]
        exact ⟨fL3.2.2.2.1, fL3.2.1, fL3.2.2.2.2.1, fL3.2.2.2.2.2⟩
      have nC : H6 s3k.heap.objs.size = none := by
        have z : H6 cek.locals = none := I6.free
        rw [cL] at z
        exact z
      obtain ⟨m, hn, _⟩ := I6.loc
      have hn : s6.heap.Ns cek.locals m := hn
      rw [cL] at hn
      obtain ⟨f0, f1, f2, f3, f4, f5⟩ := I3.fpOk (Nat.le_refl _) nC
      refine ⟨m, hn, fun h'' sb => ⟨.ref D, H6, I7.turned (t' := s6.toks) (fun b o hbk e => (sb.2 b hbk).trans e) f0 f1 f3 f4 f5, rfl, k D H6 sm6 (by rw [hD6, hl])⟩⟩
  exact codeAny_compStart_list loop (wpAny_pyIter_gen (isg' _ (kp24 _ _ ea)) loop)
end
end K70
-- K70F20
namespace K70
open L2 PySem PySem.Spec PyProof.Rows StX
/-- the truth of what same_banks gives, as bool(..) tells it -/
def twoR (K : PySem.W.Frag) : List V → Hp → VK → Prop := fun xs H Q => ∃ a b, xs = [V.ref a] ∧ IsTwo (He.ga K "Same") (He.ga K "Parted") H a b ∧ Q (.bl b) H
theorem op_notinO {X : Cx} {n : Nat} {C f : Addr} {sp : Sp} (Mt : Meth X.K C "__contains__" f) (F : FnR X.prog X.w X.K X.mg X.base CX0 n f sp) (hr : Room n X.A) :
    OpR X (compareOp .NotIn) (fun x y H Q => ∃ a dx fs, y = .ref a ∧ H a = some (.ins C dx fs) ∧ sp [.ref a, x] H (fun v H' => ∃ b, v = .bl b ∧ Q (.bl (!b)) H') E0) := by
  intro pins s σ H x y v u Q Ik rx ry h
  obtain ⟨a, dx, fs, rfl, ha, hsp⟩ := h
  (obtain rfl : u = Value.ref a := ry)
  show wpAny _ _ (contains (.ref a) v >>= fun r => pure (Value.bool (!r))) _ _ s
  refine wpAny_bind (own_contains (A := X.A) (Q' := fun b H' => Q (.bl (!b)) H') ⟨hr, rfl⟩ Mt F Ik ha rx hsp fun b s' H' I' q => wpAny_pure ⟨.bl (!b), H', I', rfl, q⟩)
section
variable {K : PySem.W.Frag} {mg : Str → Option Value} {base : Heap} {P : Program} {w : World}
def sp_shows_found (K : PySem.W.Frag) : Sp := fun vs H Q _ => ∃ (p v : Addr) (z : Sh) (r : PR) (es : List Ent), vs = [.ref p, .ref v] ∧ ShapeAt K H p z ∧ FoundAt K H v r es ∧ ROk r ∧ r.t.length ≤ 24 ∧ (∀ r' ∈ z.rs, SmallP r r') ∧ (∀ e ∈ es, EntOk e) ∧ es.length ≤ 100000 ∧ z.rs.length ≤ 1000 ∧ inSh z r = true ∧ es.all (entIs r) = true ∧
  ∀ H', Same H H' → Q (.bl ((z.rs.filter fun r' => es.all (entIs r')).all (alikeB r))) H'
theorem sc_shows_found : FnScope ["shape", "value", "rule"] ["shape", "value"] (defScope sshows_found) := ⟨rfl, rfl, rfl, by decide +kernel, rfl, by decide +kernel, by decide +kernel⟩
theorem ok_shows_found (T : Tx K mg) : Fnc P w K mg base 14 "shows_found" (He.ga K "shows_found") ["shape", "value"] (sp_shows_found K) := by
  have c_need_shape := ok_need_shape (P := P) (w := w) (base := base) T
  have c_first_against := ok_Log_first_against (P := P) (w := w) (base := base) T
  have c_same_banks := ok_same_banks (P := P) (w := w) (base := base) T
  refine fnc_of T.fshows_found T.g_shows_found sc_shows_found (fun _ _ _ _ _ _ us hl => match us, hl with | [_, _], _ => rfl) (fun vs H Q E h => ?_) (fun cdv A outer s H vs Q E hr h => ?_)
  · obtain ⟨p, v, z, r, es, rfl, _⟩ := h
    rfl
  · obtain ⟨p, v, z, r, es, rfl, hz, hv, ok, tl, sm, eo, el, zl, ins, fits, k⟩ := h
    obtain ⟨dz, mz, oz, yz, hp, hmz, hoz, hRz⟩ := id hz
    obtain ⟨dv, y, lg, hv, hy, hlg⟩ := hv
    obtain ⟨dl, tl', ws, hl1, hl2, hl3⟩ := id hlg
    refine ⟨_, (pss_cons (ps_expr (pe_f c_need_shape (hr.mono (by decide)) (pa_cons (pv 0) pa_nil)))
      (pss_cons (ps_if (PW.pt (pw_or (pt_not (pt_val (pe_callB call_isi (by rfl) T.b_isinstance (by decide +kernel) (pa_cons (pv 1) (pa_cons (pe_glob (v := .ref (He.ga K "Found")) (by rfl) T.g_Found rfl) pa_nil))))) (pw_or (pt_not (pt_val (pe_callB call_isi (by rfl) T.b_isinstance (by decide +kernel) (pa_cons (pe_fld (pv 1) rfl) (pa_cons (pe_glob (v := .ref (He.ga K "Log")) (by rfl) T.g_Log rfl) pa_nil))))) (pw_or1 (pt_cmpR (op_notinO T.m_Shape_contains (mtd_run (ok_Shape_contains T)) (hr.mono (by decide))) (pe_fld (pv 1) rfl) (pv 0) rfl))))) (pss_one (ps_ret pe_bl)) pss_nil)
      (pss_cons (ps_if (pt_cmpR op_notN (pe_m (pe_fld (pv 1) rfl) c_first_against (hr.mono (by decide)) (pa_cons (pe_fld (pv 1) rfl) pa_nil)) pe_non (nomark _)) (pss_one (ps_ret pe_bl)) pss_nil)
      (pss_one (ps_ret (pe_callB (cr_all rfl) (by rfl) T.b_all (by decide +kernel) (pa_cons (pe_lcFit (i := 2) (te := tCB (twoR K) (tCons (tCall (sp_same_banks K) [] E0 (tCons (tFld K (tVar 1) "rule") (tCons (tVar 2) tNil))) tNil)) T rfl (hr.mono (by decide)) sc_shows_found.nd (blkOk_by (N := ["shape", "value", "rule"]) (sc := defScope sshows_found) (by decide +kernel)) (by decide +kernel) (pa_cons (pv 0) (pa_cons (pe_fld (pv 1) rfl) pa_nil)) (fun _ _ _ _ _ => (pg_name (i := 2) sc_shows_found.nd rfl (Or.inl rfl))) (fun _ _ _ _ _ => (pe_callTy (call_boolTwo (two_of T rfl rfl rfl rfl rfl) (hr.mono (by decide))) (by rfl) T.b_bool (by decide +kernel) (pa_cons (pe_f c_same_banks (hr.mono (by decide)) (pa_cons (pe_fld (pv 1) rfl) (pa_cons (pv 2) pa_nil))) pa_nil)))) pa_nil))))))), ?_⟩
    refine ⟨_, rfl, p, _, _, rfl, hp, ?_⟩
    refine ⟨_, rfl, _, _, _, _, _, rfl, .own _, T.ty_Found hv, kit_same, true, rfl, iteF ?_⟩
    refine ⟨_, rfl, v, _, dv, _, _, rfl, hv, T.c_Found, T.n_Found_log, rfl, _, _, _, _, _, rfl, .own _, T.ty_Log hl1, kit_same, true, rfl, iteF ?_⟩
    refine ⟨_, rfl, v, _, dv, _, _, rfl, hv, T.c_Found, T.n_Found_rule, rfl, _, rfl, p, dz, _, rfl, hp, p, y, z, r, rfl, hz, hy, ok.ne, tl, _, rfl, _, rfl, ?_⟩
    rw [ins]
    refine iteF ?_
    refine ⟨_, rfl, v, _, dv, _, _, rfl, hv, T.c_Found, T.n_Found_log, rfl, lg, dl, _, rfl, hl1, rfl, _, rfl, v, _, dv, _, _, rfl, hv, T.c_Found, T.n_Found_rule, rfl, lg, y, es, r, rfl, hlg, eo, el, hy, ok, fun H1 s1 => ?_⟩
    rw [if_pos fits]
    refine ⟨rfl, _, rfl, iteF ?_⟩
    have hv1 := s1 _ _ hv
    have lz := Paired.length hRz
    obtain ⟨yv, hyv⟩ : ∃ yv : PR → Bool, yv = alikeB r := ⟨_, rfl⟩
    rw [← hyv] at k
    refine ⟨_, rfl, _, rfl, v, _, dv, _, _, rfl, hv1, T.c_Found, T.n_Found_log, rfl, p, lg, oz, yz, z.rs, es, yv, rfl, ⟨⟨dz, _, s1 _ _ hp, rfl⟩, s1 _ _ hoz, RulesIn.same hRz s1, fun r' hr' => (sm r' hr').oks, hlg.same s1, eo, el⟩, by omega, lz, fun j q r' H' hr' hq s' Qk kk => ?_, fun D H2 s2 hD2 => ?_⟩
    · refine ⟨_, rfl, v, _, dv, _, _, rfl, s' _ _ hv1, T.c_Found, T.n_Found_rule, rfl, _, rfl, y, q, r, r', rfl, (hy.same s1).same s', hq, sm r' (List.mem_of_getElem? hr'), fun H4 v' dx fs s4 ha hv4 => ⟨v', true, rfl, ⟨dx, fs, hv4⟩, ?_⟩, fun H4 v' dx a b s4 ha hv4 => ⟨v', false, rfl, ⟨dx, _, hv4⟩, ?_⟩⟩
      · have e1 : yv r' = true := (congrFun hyv r').trans (alikeB_iff.mpr ha)
        have := kk H4 s4
        rw [e1] at this
        exact this
      · have e1 : yv r' = false := (congrFun hyv r').trans (parts_not_alike ha)
        have := kk H4 s4
        rw [e1] at this
        exact this
    · have e2 : H2 D = some (.lst (((z.rs.filter fun r' => es.all (entIs r')).map yv).map V.bl)) := by
        rw [hD2]
        unfold outL
        rw [List.take_length, List.map_map]
        rfl
      refine ⟨D, _, rfl, SqL.of e2, ?_⟩
      rw [List.all_map]
      exact k H2 (s1.trans s2)
end
end K70
-- K70L1
namespace K70
open L2 PySem PySem.Spec PyProof.Rows StX
/-- a list of ints -/
def LsI (H : Hp) (a : Addr) (l : List Int) : Prop := H a = some (.lst (IV l))
theorem LsI.same {H H' : Hp} {a : Addr} {l : List Int} (h : LsI H a l) (s : Same H H') : LsI H' a l := s _ _ h
/-- the pen: at most n cells are drawn -/
def PenAt (H : Hp) (p : Addr) (n : Nat) : Prop := ∃ (l : Addr) (cs : List Int) (i : Nat) (left : Int), H p = some (.lst [.ref l, .int (i : Int), .int left]) ∧ LsI H l cs ∧ cs.length ≤ 63 ∧ i ≤ n ∧ l ≠ p
theorem PenAt.same {H H' : Hp} {p : Addr} {n : Nat} (h : PenAt H p n) (s : Same H H') : PenAt H' p n := by
  obtain ⟨l, cs, i, left, h1, h2, h3⟩ := h
  exact ⟨l, cs, i, left, s _ _ h1, h2.same s, h3⟩
/-- choices of weights, as the law has them -/
def PlainAt (H : Hp) (p : Addr) (r : PR) : Prop := ∃ m a t, H p = some (.tup [.ref m, .ref a, .ref t]) ∧ LsI H m r.m ∧ LsI H a r.a ∧ LsI H t r.t
theorem PlainAt.same {H H' : Hp} {p : Addr} {r : PR} (h : PlainAt H p r) (s : Same H H') : PlainAt H' p r := by
  obtain ⟨m, a, t, h1, h2, h3, h4⟩ := h
  exact ⟨m, a, t, s _ _ h1, h2.same s, h3.same s, h4.same s⟩
theorem atI_nat {α : Type} {xs : List α} {n : Nat} {v : α} (h : xs[n]? = some v) : atI xs (n : Int) = some v := by
  have hn := (List.getElem?_eq_some_iff.mp h).1
  unfold atI ixN
  (rw [if_pos (by omega), if_pos (by omega)])
  exact h
section
variable {K : PySem.W.Frag} {mg : Str → Option Value} {base : Heap} {P : Program} {w : World}
def sp__law_pen (K : PySem.W.Frag) : Sp := fun vs H Q _ => ∃ (a : Addr) (ns : List Int), vs = [.ref a] ∧ SqL K H a (IV ns) ∧ ∀ H' p, Same H H' → PenAt H' p 0 → Q (.ref p) H'
theorem sc__law_pen : FnScope ["_law_script"] ["_law_script"] (defScope s_law_pen) := ⟨rfl, rfl, rfl, by decide +kernel, rfl, by decide +kernel, by decide +kernel⟩
theorem ok__law_pen (T : Tx K mg) : Fnc P w K mg base 1 "_law_pen" (He.ga K "_law_pen") ["_law_script"] (sp__law_pen K) := by
  refine fnc_of T.f_law_pen T.g__law_pen sc__law_pen (fun _ _ _ _ _ _ us hl => match us, hl with | [_], _ => rfl) (fun vs H Q E h => ?_) (fun cdv A outer s H vs Q E hr h => ?_)
  · obtain ⟨a, ns, rfl, _⟩ := h
    rfl
  · obtain ⟨a, ns, rfl, hs, k⟩ := h
    refine ⟨_, (pss_one (ps_ret (pe_lst (pa_cons (pe_callTy call_lstI (by rfl) T.b_list (by decide +kernel) (pa_cons (pe_slice sl_list (pv 0) po_none (po_some pe_int)) pa_nil)) (pa_cons pe_int (pa_cons pe_int pa_nil)))))), ?_⟩
    delta tNoPart
    refine ⟨_, rfl, _, rfl, a, IV ns, rfl, hs, fun p hp => ?_⟩
    have e : cutV (IV ns) none (some (63 : Int)) = IV (ns.take 63) := by rw [← IV_take]; exact cut_take (IV ns) 63
    have s1 : Same H (upd H p (.lst (cutV (IV ns) none (some (63 : Int))))) := Same.put hp
    refine ⟨p, _, rfl, .inl upd_same, fun l hl => ?_⟩
    rw [e] at s1 hl ⊢
    refine ⟨by rw [sizeLine_eq]; show 3 ≤ _; decide, fun q hq => ?_⟩
    have s2 := s1.put' (o := .lst (IV (ns.take 63))) hl
    have s3 := s2.put' (o := .lst [.ref l, .int 0, .int 0]) hq
    refine k _ q s3 ⟨l, ns.take 63, 0, 0, upd_same, ?_, by rw [List.length_take]; omega, Nat.le_refl _, fun z => ?_⟩
    · unfold LsI
      rw [upd_ne (fun z => by rw [← z, upd_same] at hq; cases hq)]
      exact upd_same
    · rw [← z, upd_same] at hq
      cases hq
end
end K70
-- K70L2
namespace K70
open L2 PySem PySem.Spec PyProof.Rows StX
theorem shaped_ints (l : List Int) : SeqAt.shaped (.list (l.map PyData.int)) = true := by
  unfold SeqAt.shaped
  have e1 : PyData.canLay0 (.list (l.map PyData.int)) = true := canAll_ints l
  have e2 : PyData.depth (.list (l.map PyData.int)) = 1 := by
    show PyData.depthAll (l.map PyData.int) + 1 = 1
    rw [depthAll_ints]
  rw [e1, e2]
  rfl
theorem eqv_ints (l m : List Int) : PyData.eqv (.list (l.map PyData.int)) (.list (m.map PyData.int)) = decide (l = m) := by
  unfold PyData.eqv
  exact eqvAll_ints l m
theorem nab {x : Int} (h1 : 0 ≤ x) (h2 : x < 2 ^ 60) : x.natAbs < 2 ^ 64 := by omega
theorem md (x : Int) : -(2 ^ 64) < x % 2147483563 ∧ x % 2147483563 < 2 ^ 64 := by
  have h1 := Int.emod_nonneg x (show (2147483563 : Int) ≠ 0 by decide)
  have h2 := Int.emod_lt_of_pos x (show (0 : Int) < 2147483563 by decide)
  omega
theorem rng_nat {x : Int} {m : Nat} (h : 0 < m) : ∃ r : Nat, x % (m : Int) = (r : Int) ∧ r < m := by
  have h1 : 0 ≤ x % (m : Int) := Int.emod_nonneg x (by omega)
  have h2 : x % (m : Int) < (m : Int) := Int.emod_lt_of_pos x (by omega)
  exact ⟨(x % (m : Int)).toNat, by omega, by omega⟩
section
variable {K : PySem.W.Frag} {mg : Str → Option Value} {base : Heap} {P : Program} {w : World}
/-- the pen, its list told -/
def PenAtL (H : Hp) (p l : Addr) (n : Nat) : Prop := ∃ (cs : List Int) (i : Nat) (left : Int), H p = some (.lst [.ref l, .int (i : Int), .int left]) ∧ LsI H l cs ∧ cs.length ≤ 63 ∧ i ≤ n ∧ l ≠ p
def sp__law_draw : Sp := fun vs H Q _ => ∃ (p : Addr) (many n : Nat), vs = [.ref p, .int (many : Int)] ∧ 1 ≤ many ∧ many ≤ 1000 ∧ PenAt H p n ∧ n ≤ 1000 ∧ ∀ H' (r : Nat), SameQ p H H' → PenAt H' p (n + 1) → r < many → (∀ l, PenAtL H p l n → PenAtL H' p l (n + 1)) → Q (.int (r : Int)) H'
theorem sc__law_draw : FnScope ["_law_pen_here", "_law_many", "_law_digit", "_law_at", "_law_cell", "_law_great", "_law_mixed"] ["_law_pen_here", "_law_many"] (defScope s_law_draw) := ⟨rfl, rfl, rfl, by decide +kernel, rfl, by decide +kernel, by decide +kernel⟩
theorem ok__law_draw (T : Tx K mg) : Fnc P w K mg base 1 "_law_draw" (He.ga K "_law_draw") ["_law_pen_here", "_law_many"] sp__law_draw := by
  refine fnc_of T.f_law_draw T.g__law_draw sc__law_draw (fun _ _ _ _ _ _ us hl => match us, hl with | [_, _], _ => rfl) (fun vs H Q E h => ?_) (fun cdv A outer s H vs Q E hr h => ?_)
  · obtain ⟨p, many, n, rfl, _⟩ := h
    rfl
  · obtain ⟨p, many, n, rfl, m1, m2, ⟨l, cs, i, left, hp, hl, lc, hi, nlp⟩, hn, k⟩ := h
    refine ⟨_, (pss_cons (ps_if (pt_cmpR op_gt (pe_ix ix_I (pv 0) pe_int (fun _ _ => rfl)) pe_int (nomark _)) (pss_cons (ps_set (i := 2) sc__law_draw.nd rfl (Or.inl rfl) (pe_op op_mod (pe_callTy call_int1 (by rfl) T.b_int (by decide +kernel) (pa_cons (pe_ix ix_I (pv 0) pe_int (fun _ _ => rfl)) pa_nil)) (pv 1)))
      (pss_cons (ps_asg (pe_op op_fdiv (pe_callTy call_int1 (by rfl) T.b_int (by decide +kernel) (pa_cons (pe_ix ix_I (pv 0) pe_int (fun _ _ => rfl)) pa_nil)) (pv 1)) (pg_sub (pv 0) pe_int set_list))
      (pss_one (ps_ret (pv 2))))) pss_nil)
      (pss_cons (ps_set (i := 3) sc__law_draw.nd rfl (Or.inl rfl) (pe_ix ix_I (pv 0) pe_int (fun _ _ => rfl)))
      (pss_cons (ps_asg (pe_op op_add (pv 3) pe_int) (pg_sub (pv 0) pe_int set_list))
      (pss_cons (ps_set (i := 4) sc__law_draw.nd rfl (Or.inl rfl) (pe_op op_add (pe_op op_mul pe_int (pv 3)) pe_int))
      (pss_cons (ps_if (pt_cmpR (op_neD hr.units) (pe_ix ix_I (pv 0) pe_int (fun _ _ => rfl)) (pe_lst pa_nil) (nomark _)) (pss_one (ps_set (i := 4) sc__law_draw.nd rfl (Or.inl rfl) (pe_ix ix_I (pe_ix ix_I (pv 0) pe_int (fun _ _ => rfl)) (pe_op op_mod (pe_callTy call_int1 (by rfl) T.b_int (by decide +kernel) (pa_cons (pv 3) pa_nil)) (pe_callB call_lenI (by rfl) T.b_len (by decide +kernel) (pa_cons (pe_ix ix_I (pv 0) pe_int (fun _ _ => rfl)) pa_nil))) (fun _ _ => rfl)))) pss_nil)
      (pss_cons (ps_if (PW.pt (pw_and (pt_cmpR op_lt (pv 3) (pe_callB call_lenI (by rfl) T.b_len (by decide +kernel) (pa_cons (pe_ix ix_I (pv 0) pe_int (fun _ _ => rfl)) pa_nil)) (nomark _)) (pw_and1 (pt_cmpR op_ge (pe_callB call_abs (by rfl) T.b_abs (by decide +kernel) (pa_cons (pv 4) pa_nil)) (pe_op op_pow pe_int pe_int) (nomark _))))) (pss_cons (ps_set (i := 5) sc__law_draw.nd rfl (Or.inl rfl) (pe_op op_add (pe_op op_mul pe_int (pe_op op_sub (pe_callB call_abs (by rfl) T.b_abs (by decide +kernel) (pa_cons (pv 4) pa_nil)) (pe_op op_pow pe_int pe_int))) (pe_callTy call_int1 (by rfl) T.b_int (by decide +kernel) (pa_cons (pe_cmpR op_lt (pv 4) pe_int (nomark _)) pa_nil))))
      (pss_cons (ps_asg (pe_op op_fdiv (pe_callTy call_int1 (by rfl) T.b_int (by decide +kernel) (pa_cons (pv 5) pa_nil)) (pv 1)) (pg_sub (pv 0) pe_int set_list))
      (pss_one (ps_ret (pe_op op_mod (pe_callTy call_int1 (by rfl) T.b_int (by decide +kernel) (pa_cons (pv 5) pa_nil)) (pv 1)))))) pss_nil)
      (pss_cons (ps_set (i := 6) sc__law_draw.nd rfl (Or.inl rfl) (pe_op op_mod (pe_callTy call_int1 (by rfl) T.b_int (by decide +kernel) (pa_cons (pe_op op_pow (pe_op op_add (pe_op op_add (pe_op op_mod (pe_callTy call_int1 (by rfl) T.b_int (by decide +kernel) (pa_cons (pv 4) pa_nil)) pe_int) (pe_op op_mul pe_int (pv 3))) pe_int) pe_int) pa_nil)) pe_int))
      (pss_cons (ps_set (i := 6) sc__law_draw.nd rfl (Or.inl rfl) (pe_op op_mod (pe_callTy call_int1 (by rfl) T.b_int (by decide +kernel) (pa_cons (pe_op op_pow (pe_op op_add (pe_op op_add (pe_op op_mul (pv 6) (pe_op op_add (pe_op op_mul pe_int (pv 3)) pe_int)) (pe_op op_mul (pe_op op_mul pe_int (pv 3)) (pv 3))) pe_int) pe_int) pa_nil)) pe_int))
      (pss_one (ps_ret (pe_op op_mod (pe_callTy call_int1 (by rfl) T.b_int (by decide +kernel) (pa_cons (pe_op op_fdiv (pv 6) pe_int) pa_nil)) (pv 1)))))))))))), ?_⟩
    have gp : ∀ {H' : Hp} {v : V} {j : Nat}, SameQ p H H' → H' p = some (.lst [.ref l, .int (i : Int), .int left]) → True := fun _ _ => trivial
    have q2 : ∀ (L : List V), SameQ p H (upd H p (.lst L)) := fun L b o nb e => by rw [upd_ne nb]; exact e
    have ret : ∀ (x : Int) (H' : Hp), SameQ p H H' → PenAtL H' p l (n + 1) → Q (.int (x % (many : Int))) H' := fun x H' a b => by
      obtain ⟨r, er, lr⟩ := rng_nat (x := x) (m := many) (by omega)
      rw [er]
      refine k H' r a ⟨l, b⟩ lr fun l2 h2 => ?_
      obtain ⟨_, i2, f2, h2, _⟩ := h2
      rw [hp] at h2
      have e2 : l = l2 := by
        injection (Option.some.inj h2) with e2
        injection (List.cons.inj e2).1
      rw [← e2]
      exact b
    refine ⟨_, rfl, p, _, (2 : Int), _, rfl, rfl, .inl hp, rfl, _, _, rfl, rfl, _, rfl, ?_⟩
    refine ite2 (fun h0 => ?_) (fun h0 => ?_)
    · refine ⟨_, rfl, p, _, (2 : Int), _, rfl, rfl, .inl hp, rfl, .inl ⟨_, rfl, _, rfl, _, _, rfl, rfl, by omega, ?_⟩⟩
      refine ⟨_, rfl, p, _, (2 : Int), _, rfl, rfl, .inl hp, rfl, .inl ⟨_, rfl, _, rfl, _, _, rfl, rfl, ⟨by omega, by omega⟩, ?_⟩⟩
      refine ⟨_, rfl, p, _, (2 : Int), 2, rfl, rfl, hp, rfl, ?_⟩
      refine ⟨_, rfl, ?_⟩
      refine ret _ _ (q2 _) ⟨cs, i, left / many, upd_same, ?_, lc, by omega, nlp⟩
      unfold LsI
      rw [upd_ne nlp]
      exact hl
    · refine ⟨_, rfl, p, _, (1 : Int), _, rfl, rfl, .inl hp, rfl, ?_⟩
      refine ⟨_, rfl, _, _, rfl, rfl, _, rfl, p, _, (1 : Int), 1, rfl, rfl, hp, rfl, ?_⟩
      rw [show ([V.ref l, V.int (i : Int), V.int left].set 1 ((fun i j => V.int (i + j)) (i : Int) 1)) = [V.ref l, V.int ((i : Int) + 1), V.int left] from rfl]
      have sq1 : SameQ p H (upd H p (.lst [.ref l, .int ((i : Int) + 1), .int left])) := q2 _
      have hp1 : upd H p (.lst [.ref l, .int ((i : Int) + 1), .int left]) p = some (.lst [.ref l, .int ((i : Int) + 1), .int left]) := upd_same
      have hl1 : LsI (upd H p (.lst [.ref l, .int ((i : Int) + 1), .int left])) l cs := sq1 _ _ nlp hl
      refine ⟨_, rfl, _, _, rfl, rfl, .inl ⟨by decide, by decide⟩, _, _, rfl, rfl, ?_⟩
      refine ⟨_, rfl, p, _, (0 : Int), _, rfl, rfl, .inl upd_same, rfl, Nat.zero_le _, fun e0 he0 => ?_⟩
      generalize upd H p (.lst [.ref l, .int ((i : Int) + 1), .int left]) = H1 at *
      have s2 : Same H1 (upd H1 e0 (.lst [])) := Same.put he0
      have he2 : upd H1 e0 (.lst []) e0 = some (.lst []) := upd_same
      have hp2 := s2 _ _ hp1
      have hl2 := hl1.same s2
      have sq2 := sq1.trans (.of s2)
      generalize upd H1 e0 (.lst []) = H2 at *
      have pen1 : PenAtL H2 p l (n + 1) := ⟨cs, i + 1, left, hp2, hl2, lc, by omega, nlp⟩
      have pw18 : CPow 10 18 := ⟨by decide, by decide, by decide⟩
      refine ⟨_, _, .lst (SqL.of hl2) (Dp_ints cs), .lst (SqL.of he2) .nil, shaped_ints cs, shaped_ints [], _, rfl, ?_⟩
      rw [show PyData.eqv (.list (cs.map PyData.int)) (.list []) = decide (cs = []) from eqv_ints cs []]
      have mix : ∀ (c : Int), 0 ≤ c % 2147483587 + 136797 * (i : Int) + 3403 ∧ c % 2147483587 + 136797 * (i : Int) + 3403 < 2 ^ 40 := fun c => by
        have h1 := Int.emod_nonneg c (show (2147483587 : Int) ≠ 0 by decide)
        have h2 := Int.emod_lt_of_pos c (show (0 : Int) < 2147483587 by decide)
        omega
      have mix2 : ∀ (c : Int), 0 ≤ c % 2147483563 * (2 * (i : Int) + 681) + 91403 * (i : Int) * (i : Int) + 233 ∧ c % 2147483563 * (2 * (i : Int) + 681) + 91403 * (i : Int) * (i : Int) + 233 < 2 ^ 60 := fun c => by
        have h1 := Int.emod_nonneg c (show (2147483563 : Int) ≠ 0 by decide)
        have h2 := Int.emod_lt_of_pos c (show (0 : Int) < 2147483563 by decide)
        have a1 : 0 ≤ c % 2147483563 * (2 * (i : Int) + 681) := Int.mul_nonneg h1 (by omega)
        have a2 : c % 2147483563 * (2 * (i : Int) + 681) ≤ 2147483563 * 2681 := Int.mul_le_mul (by omega) (by omega) (by omega) (by decide)
        have b1 : 0 ≤ (i : Int) * (i : Int) := Int.mul_nonneg (by omega) (by omega)
        have b2 : (i : Int) * (i : Int) ≤ 1000 * 1000 := Int.mul_le_mul (by omega) (by omega) (by omega) (by decide)
        rw [Int.mul_assoc 91403]
        omega
      refine ite2 (fun h1 => ?_) (fun h1 => ?_)
      · have cne : cs ≠ [] := by
          intro z
          rw [z] at h1
          cases h1
        have cl : 0 < cs.length := List.length_pos_iff.mpr cne
        have hat : (IV cs)[i % cs.length]? = some (V.int (cs.getD (i % cs.length) 0)) := by
          have hlt : i % cs.length < cs.length := Nat.mod_lt _ cl
          rw [List.getElem?_map, List.getElem?_eq_getElem hlt, List.getD_eq_getElem?_getD, List.getElem?_eq_getElem hlt]
          rfl
        refine ⟨_, rfl, p, _, (0 : Int), _, rfl, rfl, .inl hp2, rfl, _, rfl, .inl ⟨_, rfl, _, rfl, p, _, (0 : Int), _, rfl, rfl, .inl hp2, rfl, l, _, rfl, .inl hl2, _, _, rfl, rfl, by rw [IV_len]; omega, l, _, _, V.int (cs.getD (i % cs.length) 0), rfl, rfl, .inl hl2, by rw [IV_len, ← Int.natCast_emod]; exact atI_nat hat, ?_⟩⟩
        refine ⟨_, rfl, _, rfl, p, _, (0 : Int), _, rfl, rfl, .inl hp2, rfl, l, _, rfl, .inl hl2, _, _, rfl, rfl, _, rfl, ?_⟩
        refine ite2 (fun h2 => ?_) (fun h2 => ?_)
        · refine ⟨_, rfl, _, rfl, _, _, rfl, rfl, pw18, _, _, rfl, rfl, _, rfl, ?_⟩
          refine ite2 (fun h3 => ?_) (fun h3 => ?_)
          · refine ⟨_, rfl, _, rfl, _, _, rfl, rfl, pw18, _, _, rfl, rfl, _, _, rfl, rfl, .inl ⟨by decide, by decide⟩, _, rfl, _, _, rfl, rfl, .inr ⟨_, rfl, _, _, rfl, rfl, ?_⟩⟩
            refine ⟨_, rfl, .inl ⟨_, rfl, _, rfl, _, _, rfl, rfl, ⟨by omega, by omega⟩, _, rfl, p, _, (2 : Int), 2, rfl, rfl, hp2, rfl, ?_⟩⟩
            refine ⟨_, rfl, .inl ⟨_, rfl, _, rfl, _, _, rfl, rfl, by omega, ?_⟩⟩
            refine ret _ _ (sq2.trans fun b o nb e => by rw [upd_ne nb]; exact e) ⟨cs, i + 1, _, upd_same, ?_, lc, by omega, nlp⟩
            unfold LsI
            rw [upd_ne nlp]
            exact hl2
          · refine ⟨_, rfl, .inl ⟨_, rfl, _, _, rfl, rfl, (by show (0 : Int) < _; decide), _, rfl, _, _, rfl, rfl, .inl ⟨by decide, by decide⟩, _, _, rfl, rfl, _, _, rfl, rfl, _, _, rfl, rfl, ⟨by decide, by decide, nab (mix _).1 (Int.lt_trans (mix _).2 (by decide))⟩, .inl ⟨_, rfl, _, _, rfl, rfl, (by show (0 : Int) < _; decide), ?_⟩⟩⟩
            refine ⟨_, rfl, _, rfl, _, _, rfl, rfl, .inl ⟨by decide, by decide⟩, _, _, rfl, rfl, _, _, rfl, rfl, .inl (md _), _, rfl, _, _, rfl, rfl, .inl ⟨by decide, by decide⟩, _, rfl, _, _, rfl, rfl, .inr ⟨by omega, by omega⟩, _, _, rfl, rfl, _, _, rfl, rfl, _, _, rfl, rfl, ⟨by decide, by decide, nab (mix2 _).1 (mix2 _).2⟩, .inl ⟨_, rfl, _, _, rfl, rfl, (by show (0 : Int) < _; decide), ?_⟩⟩
            refine ⟨_, rfl, _, _, rfl, rfl, ⟨by decide, by decide⟩, .inl ⟨_, rfl, _, rfl, _, _, rfl, rfl, by omega, ?_⟩⟩
            exact ret _ _ sq2 pen1
        · refine ⟨_, rfl, .inl ⟨_, rfl, _, _, rfl, rfl, (by show (0 : Int) < _; decide), _, rfl, _, _, rfl, rfl, .inl ⟨by decide, by decide⟩, _, _, rfl, rfl, _, _, rfl, rfl, _, _, rfl, rfl, ⟨by decide, by decide, nab (mix _).1 (Int.lt_trans (mix _).2 (by decide))⟩, .inl ⟨_, rfl, _, _, rfl, rfl, (by show (0 : Int) < _; decide), ?_⟩⟩⟩
          refine ⟨_, rfl, _, rfl, _, _, rfl, rfl, .inl ⟨by decide, by decide⟩, _, _, rfl, rfl, _, _, rfl, rfl, .inl (md _), _, rfl, _, _, rfl, rfl, .inl ⟨by decide, by decide⟩, _, rfl, _, _, rfl, rfl, .inr ⟨by omega, by omega⟩, _, _, rfl, rfl, _, _, rfl, rfl, _, _, rfl, rfl, ⟨by decide, by decide, nab (mix2 _).1 (mix2 _).2⟩, .inl ⟨_, rfl, _, _, rfl, rfl, (by show (0 : Int) < _; decide), ?_⟩⟩
          refine ⟨_, rfl, _, _, rfl, rfl, ⟨by decide, by decide⟩, .inl ⟨_, rfl, _, rfl, _, _, rfl, rfl, by omega, ?_⟩⟩
          exact ret _ _ sq2 pen1
      · refine ⟨_, rfl, _, rfl, p, _, (0 : Int), _, rfl, rfl, .inl hp2, rfl, l, _, rfl, .inl hl2, _, _, rfl, rfl, _, rfl, ?_⟩
        refine ite2 (fun h2 => ?_) (fun h2 => ?_)
        · refine ⟨_, rfl, _, rfl, _, _, rfl, rfl, pw18, _, _, rfl, rfl, _, rfl, ?_⟩
          refine ite2 (fun h3 => ?_) (fun h3 => ?_)
          · refine ⟨_, rfl, _, rfl, _, _, rfl, rfl, pw18, _, _, rfl, rfl, _, _, rfl, rfl, .inl ⟨by decide, by decide⟩, _, rfl, _, _, rfl, rfl, .inr ⟨_, rfl, _, _, rfl, rfl, ?_⟩⟩
            refine ⟨_, rfl, .inl ⟨_, rfl, _, rfl, _, _, rfl, rfl, ⟨by omega, by omega⟩, _, rfl, p, _, (2 : Int), 2, rfl, rfl, hp2, rfl, ?_⟩⟩
            refine ⟨_, rfl, .inl ⟨_, rfl, _, rfl, _, _, rfl, rfl, by omega, ?_⟩⟩
            refine ret _ _ (sq2.trans fun b o nb e => by rw [upd_ne nb]; exact e) ⟨cs, i + 1, _, upd_same, ?_, lc, by omega, nlp⟩
            unfold LsI
            rw [upd_ne nlp]
            exact hl2
          · refine ⟨_, rfl, .inl ⟨_, rfl, _, _, rfl, rfl, (by show (0 : Int) < _; decide), _, rfl, _, _, rfl, rfl, .inl ⟨by decide, by decide⟩, _, _, rfl, rfl, _, _, rfl, rfl, _, _, rfl, rfl, ⟨by decide, by decide, nab (mix _).1 (Int.lt_trans (mix _).2 (by decide))⟩, .inl ⟨_, rfl, _, _, rfl, rfl, (by show (0 : Int) < _; decide), ?_⟩⟩⟩
            refine ⟨_, rfl, _, rfl, _, _, rfl, rfl, .inl ⟨by decide, by decide⟩, _, _, rfl, rfl, _, _, rfl, rfl, .inl (md _), _, rfl, _, _, rfl, rfl, .inl ⟨by decide, by decide⟩, _, rfl, _, _, rfl, rfl, .inr ⟨by omega, by omega⟩, _, _, rfl, rfl, _, _, rfl, rfl, _, _, rfl, rfl, ⟨by decide, by decide, nab (mix2 _).1 (mix2 _).2⟩, .inl ⟨_, rfl, _, _, rfl, rfl, (by show (0 : Int) < _; decide), ?_⟩⟩
            refine ⟨_, rfl, _, _, rfl, rfl, ⟨by decide, by decide⟩, .inl ⟨_, rfl, _, rfl, _, _, rfl, rfl, by omega, ?_⟩⟩
            exact ret _ _ sq2 pen1
        · refine ⟨_, rfl, .inl ⟨_, rfl, _, _, rfl, rfl, (by show (0 : Int) < _; decide), _, rfl, _, _, rfl, rfl, .inl ⟨by decide, by decide⟩, _, _, rfl, rfl, _, _, rfl, rfl, _, _, rfl, rfl, ⟨by decide, by decide, nab (mix _).1 (Int.lt_trans (mix _).2 (by decide))⟩, .inl ⟨_, rfl, _, _, rfl, rfl, (by show (0 : Int) < _; decide), ?_⟩⟩⟩
          refine ⟨_, rfl, _, rfl, _, _, rfl, rfl, .inl ⟨by decide, by decide⟩, _, _, rfl, rfl, _, _, rfl, rfl, .inl (md _), _, rfl, _, _, rfl, rfl, .inl ⟨by decide, by decide⟩, _, rfl, _, _, rfl, rfl, .inr ⟨by omega, by omega⟩, _, _, rfl, rfl, _, _, rfl, rfl, _, _, rfl, rfl, ⟨by decide, by decide, nab (mix2 _).1 (mix2 _).2⟩, .inl ⟨_, rfl, _, _, rfl, rfl, (by show (0 : Int) < _; decide), ?_⟩⟩
          refine ⟨_, rfl, _, _, rfl, rfl, ⟨by decide, by decide⟩, .inl ⟨_, rfl, _, rfl, _, _, rfl, rfl, by omega, ?_⟩⟩
          exact ret _ _ sq2 pen1
end
end K70
-- K70L3
namespace K70
open L2 PySem PySem.Spec PyProof.Rows StX
structure PlOk (P : PR) : Prop where
  m : ModOk P.m
  a : BanksIn (prodI P.m) P.a
  t : BanksIn (prodI P.m) P.t
  ne : P.t ≠ []
  few : P.a.length + P.t.length ≤ 24
abbrev nfP (P : PR) : PR := mkR P.m P.a P.t
theorem bankL_step (m : List Int) (w : Nat → Int) (n p : Nat) (f : Int) (h : 0 < n) : bankL m w (revB n) p f = bankL m w (revB (n / 2)) (p + 1) (if n % 2 = 1 then sumI m f (w p) else f) := by
  have hn : n < 2 ^ (n + 1) := Nat.lt_of_lt_of_le Nat.lt_two_pow_self (Nat.pow_le_pow_right (by decide) (Nat.le_succ _))
  have hn2 : n / 2 < 2 ^ n := Nat.lt_of_le_of_lt (Nat.div_le_self n 2) Nat.lt_two_pow_self
  rw [bankL_C m w (n + 1) n p f hn, bankC_shift, bankL_C m w n (n / 2) (p + 1) _ hn2]
theorem bankL_zero (m : List Int) (w : Nat → Int) (p : Nat) (f : Int) : bankL m w (revB 0) p f = f := by
  rw [bankL_C m w 0 0 p f (by decide), bankC_zero]
/-- sums by the place -/
theorem sum_drop (m : List Int) (x y : Int) : ∀ (i : Nat) (q : Int), m[i]? = some q → ∀ (f a b k : Int), f + k * sumI (m.drop i) a b = f + k * ((a % q + b % q) % q) + (k * q) * sumI (m.drop (i + 1)) (a / q) (b / q) := by
  intro i q hq f a b k
  obtain ⟨hi, e⟩ := List.getElem?_eq_some_iff.mp hq
  rw [List.drop_eq_getElem_cons hi, e]
  show f + k * ((a % q + b % q) % q + q * sumI (m.drop (i + 1)) (a / q) (b / q)) = _
  rw [Int.mul_add, Int.mul_assoc k q, Int.add_assoc]
theorem prodI_app (l m : List Int) : prodI (l ++ m) = prodI l * prodI m := by
  induction l with
  | nil => show prodI m = 1 * prodI m; rw [Int.one_mul]
  | cons q l ih => rw [List.cons_append, prodI_cons, prodI_cons, ih, Int.mul_assoc]
theorem prodI_take {m : List Int} (h : ∀ q ∈ m, 2 ≤ q ∧ q ≤ 32) (i : Nat) : 1 ≤ prodI (m.take i) ∧ prodI (m.take i) ≤ prodI m := by
  have h1 := prodI_pos (m := m.take i) fun q hq => h q (List.mem_of_mem_take hq)
  have h2 := prodI_pos (m := m.drop i) fun q hq => h q (List.mem_of_mem_drop hq)
  have e : prodI m = prodI (m.take i) * prodI (m.drop i) := by rw [← prodI_app, List.take_append_drop]
  refine ⟨h1, ?_⟩
  rw [e]
  have := Int.mul_le_mul_of_nonneg_left h2 (show 0 ≤ prodI (m.take i) by omega)
  rw [Int.mul_one] at this
  exact this
section
variable {K : PySem.W.Frag} {mg : Str → Option Value} {base : Heap} {P : Program} {w : World}
def sp__law_pick : Sp := fun vs H Q _ => ∃ (p s : Addr) (xs : List V) (n : Nat), vs = [.ref p, .ref s] ∧ SqI H s xs ∧ xs ≠ [] ∧ xs.length ≤ 1000 ∧ s ≠ p ∧ PenAt H p n ∧ n ≤ 1000 ∧ ∀ H' (i : Nat) v, SameQ p H H' → PenAt H' p (n + 1) → xs[i]? = some v → Q v H'
theorem sc__law_pick : FnScope ["_law_pen_here", "_law_some"] ["_law_pen_here", "_law_some"] (defScope s_law_pick) := ⟨rfl, rfl, rfl, by decide +kernel, rfl, by decide +kernel, by decide +kernel⟩
theorem ok__law_pick (T : Tx K mg) : Fnc P w K mg base 2 "_law_pick" (He.ga K "_law_pick") ["_law_pen_here", "_law_some"] sp__law_pick := by
  have c__law_draw := ok__law_draw (P := P) (w := w) (base := base) T
  refine fnc_of T.f_law_pick T.g__law_pick sc__law_pick (fun _ _ _ _ _ _ us hl => match us, hl with | [_, _], _ => rfl) (fun vs H Q E h => ?_) (fun cdv A outer s H vs Q E hr h => ?_)
  · obtain ⟨p, s, xs, n, rfl, _⟩ := h
    rfl
  · obtain ⟨p, s, xs, n, rfl, hs, ne, zl, nsp, hp, hn, k⟩ := h
    refine ⟨_, (pss_one (ps_ret (pe_ix ix_I (pv 1) (pe_f c__law_draw (hr.mono (by decide)) (pa_cons (pv 0) (pa_cons (pe_callB call_lenI (by rfl) T.b_len (by decide +kernel) (pa_cons (pv 1) pa_nil)) pa_nil))) (fun _ _ => rfl)))), ?_⟩
    refine ⟨_, rfl, _, rfl, _, rfl, s, xs, rfl, hs, p, xs.length, n, rfl, List.length_pos_iff.mpr ne, zl, hp, hn, fun H' r sq pen lr _ => ?_⟩
    have hs' : SqI H' s xs := hs.elim (fun h => .inl (sq _ _ nsp h)) fun h => .inr (sq _ _ nsp h)
    exact ⟨s, xs, (r : Int), xs[r], rfl, rfl, hs', atI_nat (List.getElem?_eq_getElem lr), k H' r _ sq pen (List.getElem?_eq_getElem lr)⟩
def sp__law_banks : Sp := fun vs H Q _ => ∃ (a : Addr) (m : List Int), vs = [.ref a] ∧ LsI H a m ∧ (∀ q ∈ m, 2 ≤ q ∧ q ≤ 32) ∧ Q (.int (prodI m)) H
theorem sc__law_banks : FnScope ["_law_moduli", "_law_found", "_law_modulus"] ["_law_moduli"] (defScope s_law_banks) := ⟨rfl, rfl, rfl, by decide +kernel, rfl, by decide +kernel, by decide +kernel⟩
theorem ok__law_banks (T : Tx K mg) : Fnc P w K mg base 1 "_law_banks" (He.ga K "_law_banks") ["_law_moduli"] sp__law_banks := by
  refine fnc_of T.f_law_banks T.g__law_banks sc__law_banks (fun _ _ _ _ _ _ us hl => match us, hl with | [_], _ => rfl) (fun vs H Q E h => ?_) (fun cdv A outer s H vs Q E hr h => ?_)
  · obtain ⟨a, m, rfl, _⟩ := h
    rfl
  · obtain ⟨a, m, rfl, hT, hm, k⟩ := h
    refine ⟨_, (pss_cons (ps_set (i := 1) sc__law_banks.nd rfl (Or.inl rfl) pe_int)
      (pss_cons (ps_for PassesOwn.never rfl (pi_list (pv 0)) (pg_name (i := 2) sc__law_banks.nd rfl (Or.inl rfl))
        (pss_one (ps_set (i := 1) sc__law_banks.nd rfl (Or.inl rfl) (pe_op op_mul (pv 1) (pv 2)))))
      (pss_one (ps_ret (pv 1))))), ?_⟩
    refine ⟨_, rfl, a, rfl, ⟨_, SqL.of hT⟩, for_list (K := K) (a := a) (xs := IV m) (fun i σ H' => H' = H ∧ ∃ v, σ = [some (.ref a), some (.int (prodI (m.take i))), v]) ⟨rfl, none, rfl⟩ (fun i σ H' _ p => by rw [p.1]; exact SqL.of hT) ?_ ?_⟩
    · rintro i x σ H' hx ⟨rfl, v, rfl⟩
      obtain ⟨q, hq, rfl⟩ := IV_get hx
      have l := hm q (List.mem_of_getElem? hq)
      refine ⟨_, rfl, _, rfl, _, _, rfl, rfl, .inr ⟨by omega, by omega⟩, rfl, some (.int q), ?_⟩
      rw [take_snoc hq, prodI_snoc]
      rfl
    · rintro σ H' ⟨rfl, v, rfl⟩
      refine ⟨_, rfl, ?_⟩
      rw [IV_len, List.take_length]
      exact k
def sp__law_rule (K : PySem.W.Frag) : Sp := fun vs H Q _ => ∃ (p : Addr) (P : PR), vs = [.ref p] ∧ PlainAt H p P ∧ PlOk P ∧ ∀ H' x, Same H H' → RuleAt K H' x (nfP P) → Q (.ref x) H'
theorem sc__law_rule : FnScope ["_law_plain_here"] ["_law_plain_here"] (defScope s_law_rule) := ⟨rfl, rfl, rfl, by decide +kernel, rfl, by decide +kernel, by decide +kernel⟩
theorem ok__law_rule (T : Tx K mg) : Fnc P w K mg base 6 "_law_rule" (He.ga K "_law_rule") ["_law_plain_here"] (sp__law_rule K) := by
  have c_Rule := ok_Rule_init (P := P) (w := w) (base := base) T
  refine fnc_of T.f_law_rule T.g__law_rule sc__law_rule (fun _ _ _ _ _ _ us hl => match us, hl with | [_], _ => rfl) (fun vs H Q E h => ?_) (fun cdv A outer s H vs Q E hr h => ?_)
  · obtain ⟨p, P, rfl, _⟩ := h
    rfl
  · obtain ⟨p, P, rfl, ⟨m, a, t, hp, hm, ha, ht⟩, ok, k⟩ := h
    refine ⟨_, (pss_one (ps_ret (pe_mk' c_Rule (hr.mono (by decide)) (pa_cons (pe_callTy call_tupI (by rfl) T.b_tuple (by decide +kernel) (pa_cons (pe_ix ix_I (pv 0) pe_int (fun _ _ => rfl)) pa_nil)) (pa_cons (pe_ix ix_I (pv 0) pe_int (fun _ _ => rfl)) (pa_cons (pe_callTy call_tupI (by rfl) T.b_tuple (by decide +kernel) (pa_cons (pe_ix ix_I (pv 0) pe_int (fun _ _ => rfl)) pa_nil)) pa_nil)))))), ?_⟩
    refine ⟨_, rfl, p, _, (0 : Int), _, rfl, rfl, .inr hp, rfl, m, _, rfl, .inl hm, fun pm H1 s1 hm1 => ?_⟩
    refine ⟨_, rfl, p, _, (1 : Int), _, rfl, rfl, .inr (s1 _ _ hp), rfl, _, rfl, p, _, (2 : Int), _, rfl, rfl, .inr (s1 _ _ hp), rfl, t, _, rfl, .inl (s1 _ _ ht), fun pt H2 s2 ht2 => ?_⟩
    refine fun x dx hx hd ne => rule_made (K := K) hx hd ne (s2 _ _ hm1) ok.m (.inl ((ha.same s1).same s2)) (.inr ht2) ok.a ok.t ok.ne ok.few fun H4 s4 hR => ⟨rfl, ?_⟩
    exact k H4 x (s1.trans (s2.trans s4)) hR
def sp__law_sum : Sp := fun vs H Q _ => ∃ (a : Addr) (m : List Int) (x y : Int), vs = [.ref a, .int x, .int y, .int 1] ∧ LsI H a m ∧ ModOk m ∧ ∀ H', Same H H' → Q (.int (sumI m x y)) H'
theorem sc__law_sum : FnScope ["_law_moduli", "_law_one", "_law_other", "_law_sign", "_law_found", "_law_many", "_law_modulus", "_law_part"] ["_law_moduli", "_law_one", "_law_other", "_law_sign"] (defScope s_law_sum) := ⟨rfl, rfl, rfl, by decide +kernel, rfl, by decide +kernel, by decide +kernel⟩
theorem ok__law_sum (T : Tx K mg) : Fnc P w K mg base 1 "_law_sum" (He.ga K "_law_sum") ["_law_moduli", "_law_one", "_law_other", "_law_sign"] sp__law_sum := by
  refine fnc_of T.f_law_sum T.g__law_sum sc__law_sum (fun _ _ _ _ _ _ us hl => match us, hl with | [_, _, _, _], _ => rfl) (fun vs H Q E h => ?_) (fun cdv A outer s H vs Q E hr h => ?_)
  · obtain ⟨a, m, x, y, rfl, _⟩ := h
    rfl
  · obtain ⟨a, m, x, y, rfl, hm, ok, k⟩ := h
    refine ⟨_, (pss_cons (ps_asg (pe_tup (pa_cons pe_int (pa_cons pe_int pa_nil))) (pg_tup rfl (pgs_cons (pg_name (i := 4) sc__law_sum.nd rfl (Or.inl rfl)) (pgs_cons (pg_name (i := 5) sc__law_sum.nd rfl (Or.inl rfl)) pgs_nil))))
      (pss_cons (ps_for PassesOwn.never rfl (pi_list (pv 0)) (pg_name (i := 6) sc__law_sum.nd rfl (Or.inl rfl))
        (pss_cons (ps_set (i := 7) sc__law_sum.nd rfl (Or.inl rfl) (pe_op op_add (pe_op op_mod (pe_callTy call_int1 (by rfl) T.b_int (by decide +kernel) (pa_cons (pe_op op_fdiv (pv 1) (pv 5)) pa_nil)) (pv 6)) (pe_op op_mul (pv 3) (pe_op op_mod (pe_callTy call_int1 (by rfl) T.b_int (by decide +kernel) (pa_cons (pe_op op_fdiv (pv 2) (pv 5)) pa_nil)) (pv 6)))))
      (pss_cons (ps_set (i := 4) sc__law_sum.nd rfl (Or.inl rfl) (pe_op op_add (pv 4) (pe_op op_mul (pv 5) (pe_op op_mod (pe_callTy call_int1 (by rfl) T.b_int (by decide +kernel) (pa_cons (pv 7) pa_nil)) (pv 6)))))
      (pss_one (ps_set (i := 5) sc__law_sum.nd rfl (Or.inl rfl) (pe_op op_mul (pv 5) (pv 6)))))))
      (pss_one (ps_ret (pv 4))))), ?_⟩
    refine ⟨by rw [sizeLine_eq]; show 2 ≤ _; decide, fun q hq => ⟨q, _, rfl, SqT.of upd_same, rfl, _, _, rfl, _, _, rfl, rfl, ?_⟩⟩
    have s1 : Same H (upd H q (.tup [.int 0, .int 1])) := Same.put hq
    refine ⟨_, rfl, a, rfl, ⟨_, SqL.of (s1 _ _ hm)⟩, for_list (K := K) (a := a) (xs := IV m) (fun i σ H' => Same H H' ∧ ∃ (f : Int) (v6 v7 : Option V), σ = [some (.ref a), some (.int x), some (.int y), some (.int 1), some (.int f), some (.int (prodI (m.take i))), v6, v7] ∧
      f + prodI (m.take i) * sumI (m.drop i) (x / prodI (m.take i)) (y / prodI (m.take i)) = sumI m x y) ⟨s1, 0, none, none, rfl, ?_⟩ (fun i σ H' _ p => SqL.of (p.1 _ _ hm)) ?_ ?_⟩
    · show (0 : Int) + 1 * sumI m (x / 1) (y / 1) = _
      rw [Int.ediv_one, Int.ediv_one, Int.one_mul, Int.zero_add]
    · rintro i z σ H' hx ⟨s2, f, v6, v7, rfl, inv⟩
      obtain ⟨q, hq, rfl⟩ := IV_get hx
      have l := ok.each q (List.mem_of_getElem? hq)
      have b := prodI_take ok.each i
      have b2 := ok.prod
      refine ⟨_, rfl, _, rfl, _, _, rfl, rfl, ⟨by omega, by omega⟩, .inl ⟨_, rfl, _, rfl, _, _, rfl, rfl, by omega, _, rfl, _, rfl, _, rfl, _, _, rfl, rfl, ⟨by omega, by omega⟩, .inl ⟨_, rfl, _, rfl, _, _, rfl, rfl, by omega, _, _, rfl, rfl, .inl ⟨by decide, by decide⟩, _, _, rfl, rfl, ?_⟩⟩⟩
      refine ⟨_, rfl, _, rfl, _, rfl, .inl ⟨_, rfl, _, rfl, _, _, rfl, rfl, by omega, _, _, rfl, rfl, .inl ⟨by omega, by omega⟩, _, _, rfl, rfl, ?_⟩⟩
      refine ⟨_, rfl, _, rfl, _, _, rfl, rfl, .inl ⟨by omega, by omega⟩, ?_⟩
      refine ⟨s2, f + prodI (m.take i) * ((x / prodI (m.take i) % q + 1 * (y / prodI (m.take i) % q)) % q), some (.int q), some (.int (x / prodI (m.take i) % q + 1 * (y / prodI (m.take i) % q))), ?_, ?_⟩
      · rw [take_snoc hq, prodI_snoc]
        rfl
      · rw [take_snoc hq, prodI_snoc, ← Int.ediv_ediv_of_nonneg (show 0 ≤ prodI (m.take i) by omega), ← Int.ediv_ediv_of_nonneg (show 0 ≤ prodI (m.take i) by omega)]
        rw [sum_drop m x y i q hq] at inv
        show f + prodI (m.take i) * ((x / prodI (m.take i) % q + 1 * (y / prodI (m.take i) % q)) % q) + _ = _
        rw [Int.one_mul]
        exact inv
    · rintro σ H' ⟨s2, f, v6, v7, rfl, inv⟩
      refine ⟨_, rfl, ?_⟩
      rw [IV_len, List.drop_length] at inv
      have e0 : sumI ([] : List Int) (x / prodI (m.take m.length)) (y / prodI (m.take m.length)) = 0 := rfl
      rw [e0, Int.mul_zero, Int.add_zero] at inv
      rw [inv]
      exact k H' s2
def sp__law_weight : Sp := fun vs H Q _ => ∃ (p : Addr) (P : PR) (n : Nat), vs = [.ref p, .int (n : Int)] ∧ PlainAt H p P ∧ P.t ≠ [] ∧ Q (.int (wtR P n)) H
theorem sc__law_weight : FnScope ["_law_plain_here", "_law_place"] ["_law_plain_here", "_law_place"] (defScope s_law_weight) := ⟨rfl, rfl, rfl, by decide +kernel, rfl, by decide +kernel, by decide +kernel⟩
theorem ok__law_weight (T : Tx K mg) : Fnc P w K mg base 1 "_law_weight" (He.ga K "_law_weight") ["_law_plain_here", "_law_place"] sp__law_weight := by
  refine fnc_of T.f_law_weight T.g__law_weight sc__law_weight (fun _ _ _ _ _ _ us hl => match us, hl with | [_, _], _ => rfl) (fun vs H Q E h => ?_) (fun cdv A outer s H vs Q E hr h => ?_)
  · obtain ⟨p, P, n, rfl, _⟩ := h
    rfl
  · obtain ⟨p, P, n, rfl, ⟨m, a, t, hp, hm, ha, ht⟩, ne, k⟩ := h
    refine ⟨_, (pss_cons (ps_if (pt_cmpR op_lt (pv 1) (pe_callB call_lenI (by rfl) T.b_len (by decide +kernel) (pa_cons (pe_ix ix_I (pv 0) pe_int (fun _ _ => rfl)) pa_nil)) (nomark _)) (pss_one (ps_ret (pe_ix ix_I (pe_ix ix_I (pv 0) pe_int (fun _ _ => rfl)) (pv 1) (fun _ _ => rfl)))) pss_nil)
      (pss_one (ps_ret (pe_ix ix_I (pe_ix ix_I (pv 0) pe_int (fun _ _ => rfl)) (pe_op op_mod (pe_callTy call_int1 (by rfl) T.b_int (by decide +kernel) (pa_cons (pe_op op_sub (pv 1) (pe_callB call_lenI (by rfl) T.b_len (by decide +kernel) (pa_cons (pe_ix ix_I (pv 0) pe_int (fun _ _ => rfl)) pa_nil))) pa_nil)) (pe_callB call_lenI (by rfl) T.b_len (by decide +kernel) (pa_cons (pe_ix ix_I (pv 0) pe_int (fun _ _ => rfl)) pa_nil))) (fun _ _ => rfl))))), ?_⟩
    have tl : 0 < P.t.length := List.length_pos_iff.mpr ne
    refine ⟨_, rfl, _, rfl, p, _, (1 : Int), _, rfl, rfl, .inr hp, rfl, a, _, rfl, .inl ha, _, _, rfl, rfl, _, rfl, ?_⟩
    rw [IV_len]
    refine ite2 (fun h0 => ?_) (fun h0 => ?_)
    · have h0 : n < P.a.length := by
        have := of_decide_eq_true h0
        omega
      have e : wtR P n = P.a[n] := by
        unfold wtR clsR
        rw [if_pos h0, List.getD_eq_getElem?_getD, List.getElem?_append_left h0, List.getElem?_eq_getElem h0]
        rfl
      rw [e] at k
      refine ⟨_, rfl, p, _, (1 : Int), _, rfl, rfl, .inr hp, rfl, _, rfl, a, _, (n : Int), V.int P.a[n], rfl, rfl, .inl ha, atI_nat (IV_at (List.getElem?_eq_getElem h0)), k⟩
    · have h0 : ¬ n < P.a.length := fun z => h0 (decide_eq_true (by omega))
      have hlt : (n - P.a.length) % P.t.length < P.t.length := Nat.mod_lt _ tl
      have e : wtR P n = P.t[(n - P.a.length) % P.t.length] := by
        unfold wtR clsR
        rw [if_neg h0, List.getD_eq_getElem?_getD, List.getElem?_append_right (by omega), Nat.add_sub_cancel_left, List.getElem?_eq_getElem hlt]
        rfl
      rw [e] at k
      refine ⟨_, rfl, p, _, (2 : Int), _, rfl, rfl, .inr hp, rfl, _, rfl, _, rfl, p, _, (1 : Int), _, rfl, rfl, .inr hp, rfl, a, _, rfl, .inl ha, _, _, rfl, rfl, .inl ⟨_, rfl, _, rfl, p, _, (2 : Int), _, rfl, rfl, .inr hp, rfl, t, _, rfl, .inl ht, _, _, rfl, rfl, by show (0 : Int) < ((IV P.t).length : Int); rw [IV_len]; omega, t, _, _, V.int P.t[(n - P.a.length) % P.t.length], rfl, rfl, .inl ht, ?_, k⟩⟩
      have em : ((n : Int) - ((IV P.a).length : Int)) % ((IV P.t).length : Int) = (((n - P.a.length) % P.t.length : Nat) : Int) := by
        rw [IV_len, IV_len, show (n : Int) - (P.a.length : Int) = ((n - P.a.length : Nat) : Int) by omega, ← Int.natCast_emod]
      rw [em]
      exact atI_nat (IV_at (List.getElem?_eq_getElem hlt))
def sp__law_bank : Sp := fun vs H Q _ => ∃ (p : Addr) (P : PR) (n : Nat), vs = [.ref p, .int (n : Int)] ∧ PlainAt H p P ∧ P.t ≠ [] ∧ ModOk P.m ∧ ∀ H', Same H H' → Q (.int (bankI P.m (wtR P) n)) H'
theorem sc__law_bank : FnScope ["_law_plain_here", "_law_address", "_law_found", "_law_place", "_law_left"] ["_law_plain_here", "_law_address"] (defScope s_law_bank) := ⟨rfl, rfl, rfl, by decide +kernel, rfl, by decide +kernel, by decide +kernel⟩
theorem ok__law_bank (T : Tx K mg) : Fnc P w K mg base 3 "_law_bank" (He.ga K "_law_bank") ["_law_plain_here", "_law_address"] sp__law_bank := by
  have c__law_sum := ok__law_sum (P := P) (w := w) (base := base) T
  have c__law_weight := ok__law_weight (P := P) (w := w) (base := base) T
  refine fnc_of T.f_law_bank T.g__law_bank sc__law_bank (fun _ _ _ _ _ _ us hl => match us, hl with | [_, _], _ => rfl) (fun vs H Q E h => ?_) (fun cdv A outer s H vs Q E hr h => ?_)
  · obtain ⟨p, P, n, rfl, _⟩ := h
    rfl
  · obtain ⟨p, P, n, rfl, hP, ne, ok, k⟩ := h
    obtain ⟨m, a, t, hp, hm, _, _⟩ := id hP
    refine ⟨_, (pss_cons (ps_par3 (i := 2) (j := 3) (l := 4) (by rfl) sc__law_bank.nd rfl rfl rfl (by decide) (by decide) (by decide) rfl rfl rfl (pa_cons pe_int (pa_cons pe_int (pa_cons (pv 1) pa_nil))) (by rfl))
      (pss_cons (ps_while PassesOwn.never (pt_cmpR op_gt (pv 4) pe_int (nomark _)) (pss_cons (ps_if (pt_cmpR op_eq (pe_op op_mod (pe_callTy call_int1 (by rfl) T.b_int (by decide +kernel) (pa_cons (pv 4) pa_nil)) pe_int) pe_int (nomark _)) (pss_one (ps_set (i := 2) sc__law_bank.nd rfl (Or.inl rfl) (pe_f c__law_sum (hr.mono (by decide)) (pa_cons (pe_ix ix_I (pv 0) pe_int (fun _ _ => rfl)) (pa_cons (pv 2) (pa_cons (pe_f c__law_weight (hr.mono (by decide)) (pa_cons (pv 0) (pa_cons (pv 3) pa_nil))) (pa_cons pe_int pa_nil))))))) pss_nil)
      (pss_one (ps_par (i := 3) (j := 4) (by rfl) sc__law_bank.nd rfl rfl (by decide) rfl rfl (pa_cons (pe_op op_add (pv 3) pe_int) (pa_cons (pe_op op_fdiv (pv 4) pe_int) pa_nil)) (by rfl)))))
      (pss_one (ps_ret (pv 2))))), ?_⟩
    refine ⟨_, rfl, _, _, _, rfl, ?_⟩
    obtain ⟨W, hW⟩ : ∃ W : Nat → L2.St → Hp → Prop, W = fun mu σ H' => ∃ (f : Int) (pl left : Nat), σ = [some (.ref p), some (.int (n : Int)), some (.int f), some (.int (pl : Int)), some (.int (left : Int))] ∧ Same H H' ∧ mu = left ∧
      bankL P.m (wtR P) (revB left) pl f = bankI P.m (wtR P) n := ⟨_, rfl⟩
    refine ⟨W, ⟨n, by rw [hW]; exact ⟨0, 0, n, rfl, Same.refl _, rfl, rfl⟩⟩, ?_⟩
    intro mu σ H' hw
    rw [hW] at hw
    obtain ⟨f, pl, left, rfl, s1, rfl, inv⟩ := hw
    refine ⟨_, rfl, _, _, rfl, rfl, _, rfl, ite2 (fun h1 => ?_) (fun h1 => ?_)⟩
    · have h1 : 0 < mu := by
        have := of_decide_eq_true h1
        omega
      rw [bankL_step _ _ _ _ _ h1] at inv
      refine ⟨fun σ' H'' => ∃ mu', mu' < mu ∧ W mu' σ' H'', fun σ' H'' z => z, ?_⟩
      have ed : (mu : Int) / 2 = ((mu / 2 : Nat) : Int) := by omega
      refine ⟨_, rfl, .inl ⟨_, rfl, _, _, rfl, rfl, by show (0 : Int) < 2; decide, rfl, _, rfl, ite2 (fun h2 => ?_) (fun h2 => ?_)⟩⟩
      · have h2 : mu % 2 = 1 := by
          have h2 : V.int ((mu : Int) % 2) = V.int 1 := of_decide_eq_true h2
          have := V.int.inj h2
          omega
        rw [if_pos h2] at inv
        refine ⟨_, rfl, p, _, (0 : Int), _, rfl, rfl, .inr (s1 _ _ hp), rfl, _, rfl, _, rfl, _, rfl, p, P, pl, rfl, hP.same s1, ne, m, P.m, f, wtR P pl, rfl, s1 _ _ hm, ok, fun H2 s2 => ?_⟩
        refine ⟨_, rfl, _, _, rfl, rfl, _, rfl, _, _, rfl, rfl, ⟨by decide, by decide⟩, _, _, rfl, mu / 2, by omega, ?_⟩
        rw [hW]
        refine ⟨sumI P.m f (wtR P pl), pl + 1, mu / 2, ?_, s1.trans s2, rfl, inv⟩
        rw [← ed]
        rfl
      · have h2 : ¬ mu % 2 = 1 := by
          intro z
          exact h2 (decide_eq_true (by show V.int ((mu : Int) % 2) = _; rw [show (mu : Int) % 2 = 1 by omega]))
        rw [if_neg h2] at inv
        refine ⟨_, rfl, _, _, rfl, rfl, _, rfl, _, _, rfl, rfl, ⟨by decide, by decide⟩, _, _, rfl, mu / 2, by omega, ?_⟩
        rw [hW]
        refine ⟨f, pl + 1, mu / 2, ?_, s1, rfl, inv⟩
        rw [← ed]
        rfl
    · have h1 : mu = 0 := by
        have : ¬ ((0 : Int) < (mu : Int)) := fun z => h1 (decide_eq_true z)
        omega
      subst h1
      rw [bankL_zero] at inv
      refine ⟨_, rfl, ?_⟩
      rw [inv]
      exact k H' s1
end
end K70
-- K70L4
namespace K70
open L2 PySem PySem.Spec PyProof.Rows StX
structure NfP (P : PR) : Prop where
  ok : PlOk P
  wt : ∀ n, wtR P n = wtR (nfP P) n
theorem getT_none_of {t : Tab} {k : Int × Int} (h : ¬ (getT t k).isSome = true) : getT t k = none := by
  cases e : getT t k with
  | none => rfl
  | some v => rw [e] at h; exact absurd rfl h
theorem getT_app {f c : Tab} {k : Int × Int} (h : getT f k = none) : getT (f ++ c) k = getT c k := by
  unfold getT at h ⊢
  rw [List.find?_append, Option.map_eq_none_iff.mp h]
  rfl
theorem getT_app1 {f c : Tab} {k : Int × Int} (h : (getT f k).isSome = true) : (getT (f ++ c) k).isSome = true := by
  rw [getT_isSome] at h ⊢
  unfold keyIn at h ⊢
  rw [List.map_append]
  exact List.mem_append_left _ h
theorem putT_app {f c : Tab} {k : Int × Int} {v : Nat} (h : getT f k = none) : putT (f ++ c) k v = f ++ putT c k v := by
  have hk : ¬ keyIn f k := fun z => by
    have := getT_isSome.mpr z
    rw [h] at this
    cases this
  have hf : ∀ e ∈ f, ¬ e.1 = k := fun e he z => hk (by unfold keyIn; rw [← z]; exact List.mem_map_of_mem he)
  have h1 : f.any (fun e => decide (e.1 = k)) = false := List.any_eq_false.mpr fun e he => by simpa using hf e he
  have h2 : f.map (fun e => if e.1 = k then (e.1, v) else e) = f := by
    refine (List.map_congr_left (g := id) fun e he => ?_).trans (List.map_id f)
    rw [if_neg (hf e he)]
    rfl
  unfold putT
  rw [List.any_append, h1, Bool.false_or, List.map_append, h2]
  split
  · rfl
  · rw [List.append_assoc]
theorem putT_same {k : Int × Int} {v : Nat} {t : Tab} (nd : NdT t) (h : getT t k = some v) : putT t k v = t := by
  have m := getT_some h
  unfold putT
  rw [if_pos (List.any_eq_true.mpr ⟨(k, v), m, by simp⟩)]
  refine (List.map_congr_left (g := id) fun e he => ?_).trans (List.map_id t)
  by_cases c : e.1 = k
  · rw [if_pos c]
    have := getT_mem nd he
    rw [c, h] at this
    have := Option.some.inj this
    rw [this]
    rfl
  · rw [if_neg c]
    rfl
theorem movedGo_id {f : Tab} {mv : Int × Int → Int × Int} {b : Nat} : ∀ (t l : Tab), (∀ e ∈ t, (getT f (mv e.1)).isSome = true) → movedGo f mv b t l = l
  | [], _, _ => rfl
  | e :: t, l, h => by
    rw [movedGo_cons, if_pos (h e List.mem_cons_self)]
    exact movedGo_id t l fun x hx => h x (List.mem_cons_of_mem _ hx)
theorem movedT_go {r s : PR} (hr : ROk r) (hs : ROk s) {f : Tab} (n : Nat) (inT : InT r s f) (nd : NdT f) : movedGo f (moveK r s n) (2 ^ n) f [] = movedT r s f n := by
  unfold movedT
  split
  · rename_i h
    refine movedGo_id f [] fun e he => ?_
    obtain ⟨⟨a1, a2⟩, ⟨b1, b2⟩⟩ := inT e he
    have : moveK r s n e.1 = e.1 := by
      unfold moveK
      rw [h.1, h.2, sumI_zero r.m hr.m.each _ a1 a2, sumI_zero s.m hs.m.each _ b1 b2]
    rw [this, getT_mem nd he]
    rfl
  · rfl
def nxtT (f cur : Tab) (k : Int × Int) (a : Nat) : Tab := if (getT f k).isSome = true then cur else putT cur k (min a ((getT cur k).getD a))
theorem nxt_has {f cur : Tab} {k : Int × Int} {a : Nat} (h : (getT f k).isSome = true) : nxtT f cur k a = cur := if_pos h
theorem nxt_new {f cur : Tab} {k : Int × Int} {a : Nat} (h : getT f k = none) (h2 : ∀ v, getT cur k = some v → a < v) : nxtT f cur k a = putT cur k a := by
  unfold nxtT
  rw [h, if_neg (by decide)]
  congr 1
  cases e : getT cur k with
  | none => show min a a = a; omega
  | some v => have := h2 v e; show min a v = a; omega
theorem nxt_old {f cur : Tab} {k : Int × Int} {a v : Nat} (nd : NdT cur) (h : getT f k = none) (h2 : getT cur k = some v) (hv : v ≤ a) : nxtT f cur k a = cur := by
  unfold nxtT
  rw [h, if_neg (by decide), h2, show min a ((some v).getD a) = v by show min a v = v; omega]
  exact putT_same nd h2
theorem nxt_nd {f cur : Tab} {k : Int × Int} {a : Nat} (nd : NdT cur) : NdT (nxtT f cur k a) := by
  unfold nxtT
  split
  · exact nd
  · exact putT_nd nd
theorem nxt_len {f cur : Tab} {k : Int × Int} {a : Nat} : (nxtT f cur k a).length ≤ cur.length + 1 := by
  unfold nxtT
  split
  · omega
  · exact putT_len _ _ _
def muL (r s : PR) (N pl qu : Nat) : Nat := (N - (tabR r s pl).length) * 17 + (16 - qu)
theorem op_oneShlN {X : Cx} : OpR X (binaryOp .LShift) (fun x y H Q => ∃ k : Nat, x = .int 1 ∧ y = .int (k : Int) ∧ k ≤ 134217727 ∧ Q (.int ((2 ^ k : Nat) : Int)) H) := by
  intro pins s σ H x y v u Q Ik rx ry h
  (obtain ⟨k, rfl, rfl, c, q⟩ := h)
  rw [Int.natCast_pow] at q
  exact op_oneShl pins s σ H _ _ v u Q Ik rx ry ⟨k, rfl, rfl, c, q⟩
section
variable {K : PySem.W.Frag} {mg : Str → Option Value} {base : Heap} {P : Program} {w : World}
def sp__law_least : Sp := fun vs H Q _ => ∃ (p q : Addr) (P S : PR), vs = [.ref p, .ref q] ∧ PlainAt H p P ∧ PlainAt H q S ∧ NfP P ∧ NfP S ∧ SmallP (nfP P) (nfP S) ∧ ∀ H' d, Same H H' → H d = none → H' d = some (.dT (dtI (limT (nfP P) (nfP S)))) → Q (.ref d) H'
theorem sc__law_least : FnScope ["_law_one", "_law_other", "_law_found", "_law_quiet", "_law_place", "_law_more", "_law_later", "_law_pair", "_law_moved", "_law_address"] ["_law_one", "_law_other"] (defScope s_law_least) := ⟨rfl, rfl, rfl, by decide +kernel, rfl, by decide +kernel, by decide +kernel⟩
theorem ok__law_least (T : Tx K mg) : Fnc P w K mg base 4 "_law_least" (He.ga K "_law_least") ["_law_one", "_law_other"] sp__law_least := by
  have c__law_sum := ok__law_sum (P := P) (w := w) (base := base) T
  have c__law_weight := ok__law_weight (P := P) (w := w) (base := base) T
  refine fnc_of T.f_law_least T.g__law_least sc__law_least (fun _ _ _ _ _ _ us hl => match us, hl with | [_, _], _ => rfl) (fun vs H Q E h => ?_) (fun cdv A outer s H vs Q E hr h => ?_)
  · obtain ⟨p, q, P, S, rfl, _⟩ := h
    rfl
  · obtain ⟨p, q, P, S, rfl, hP, hS, nP, nS, sm, k⟩ := h
    refine ⟨_, (pss_cons (ps_par3 (i := 2) (j := 3) (l := 4) (by rfl) sc__law_least.nd rfl rfl rfl (by decide) (by decide) (by decide) rfl rfl rfl (pa_cons (pe_disp1T (hu_of hr) (pe_tup (pa_cons pe_int (pa_cons pe_int pa_nil))) pe_int) (pa_cons pe_int (pa_cons pe_int pa_nil))) (by rfl))
      (pss_cons (ps_while PassesOwn.never (pt_cmpR op_lt (pv 3) pe_int (nomark _)) (pss_cons (ps_set (i := 5) sc__law_least.nd rfl (Or.inl rfl) (pe_tup (pa_cons (pe_f c__law_weight (hr.mono (by decide)) (pa_cons (pv 0) (pa_cons (pv 4) pa_nil))) (pa_cons (pe_f c__law_weight (hr.mono (by decide)) (pa_cons (pv 1) (pa_cons (pv 4) pa_nil))) pa_nil))))
      (pss_cons (ps_set (i := 6) sc__law_least.nd rfl (Or.inl rfl) (pe_callTy (call_dictT (Nat.lt_of_le_of_lt (Nat.add_le_add_left (by decide : 2 ≤ 64) _) hr.units)) (by rfl) T.b_dict (by decide +kernel) (pa_cons (pv 2) pa_nil)))
      (pss_cons (ps_lock (ps_for PassesOwn.never rfl (pi_keys (pv 2)) (pg_name (i := 7) sc__law_least.nd rfl (Or.inl rfl))
        (pss_cons (ps_set (i := 8) sc__law_least.nd rfl (Or.inl rfl) (pe_tup (pa_cons (pe_f c__law_sum (hr.mono (by decide)) (pa_cons (pe_ix ix_I (pv 0) pe_int (fun _ _ => rfl)) (pa_cons (pe_ix ix_I (pv 7) pe_int (fun _ _ => rfl)) (pa_cons (pe_ix ix_I (pv 5) pe_int (fun _ _ => rfl)) (pa_cons pe_int pa_nil))))) (pa_cons (pe_f c__law_sum (hr.mono (by decide)) (pa_cons (pe_ix ix_I (pv 1) pe_int (fun _ _ => rfl)) (pa_cons (pe_ix ix_I (pv 7) pe_int (fun _ _ => rfl)) (pa_cons (pe_ix ix_I (pv 5) pe_int (fun _ _ => rfl)) (pa_cons pe_int pa_nil))))) pa_nil))))
      (pss_cons (ps_set (i := 9) sc__law_least.nd rfl (Or.inl rfl) (pe_op op_addN (pe_op op_oneShlN pe_int (pv 4)) (pe_dget (hu_of hr) (pv 2) (pv 7) (fun _ _ => rfl))))
      (pss_one (ps_if (PW.pt (pw_and (pt_cmp (pc_dnotin (hu_of hr) (pv 8) (pv 2))) (pw_and1 (PW.pt (pw_or (pt_cmp (pc_dnotin (hu_of hr) (pv 8) (pv 6))) (pw_or1 (pt_cmpR op_gt (pe_dget (hu_of hr) (pv 6) (pv 8) (fun _ _ => rfl)) (pv 9) (nomark _)))))))) (pss_one (ps_dput (hu_of hr) (pv 6) (pv 8) (pv 9) rfl)) pss_nil))))))
      (pss_cons (ps_set (i := 3) sc__law_least.nd rfl (Or.inl rfl) (pe_ifExp (pt_cmpR op_eq (pe_callB call_len_dT (by rfl) T.b_len (by decide +kernel) (pa_cons (pv 6) pa_nil)) (pe_callB call_len_dT (by rfl) T.b_len (by decide +kernel) (pa_cons (pv 2) pa_nil)) (nomark _)) (pe_op op_add (pv 3) pe_int) pe_int))
      (pss_one (ps_par (i := 2) (j := 4) (by rfl) sc__law_least.nd rfl rfl (by decide) rfl rfl (pa_cons (pv 6) (pa_cons (pe_op op_add (pv 4) pe_int) pa_nil)) (by rfl))))))))
      (pss_one (ps_ret (pv 2))))), ?_⟩
    have okr := sm.okr
    have oks := sm.oks
    have wP := nP.wt
    have wS := nS.wt
    have nep := nP.ok.ne
    have nes := nS.ok.ne
    have mP := nP.ok.m
    have mS := nS.ok.m
    obtain ⟨r, hr0⟩ : ∃ r, r = nfP P := ⟨_, rfl⟩
    obtain ⟨s', hs0⟩ : ∃ s', s' = nfP S := ⟨_, rfl⟩
    have rm : r.m = P.m := by rw [hr0]; rfl
    have sm' : s'.m = S.m := by rw [hs0]; rfl
    rw [← hr0, ← hs0] at sm k
    rw [← hr0] at okr wP
    rw [← hs0] at oks wS
    obtain ⟨m, a, t, hp, hm, ha, ht⟩ := id hP
    obtain ⟨m', a', t', hq, hm', ha', ht'⟩ := id hS
    refine fun d hd => ⟨by show 2 ≤ sizeLine; decide, fun z0 hz0 => ⟨z0, kT (0, 0), rfl, upd_same, (Same.put hz0) _ _ upd_same, _, _, _, rfl, ?_⟩⟩
    have s1 : Same H (upd (upd (upd H d (.dT [])) z0 (.tup [.int 0, .int 0])) d (.dT [(kT (0, 0), .int 0)])) := Same.set ((Same.put hd).put' hz0) hd
    generalize hH1 : upd (upd (upd H d (.dT [])) z0 (.tup [.int 0, .int 0])) d (.dT [(kT (0, 0), .int 0)]) = H1 at *
    have hD1 : H1 d = some (.dT (dtI (tabR r s' 0))) := by rw [← hH1]; exact upd_same
    have A16 := sm.quiet
    have mp := manyP_pos sm.okr sm.oks
    have N16 : (prodI r.m).toNat * (prodI s'.m).toNat ≤ 16 := Nat.mul_le_mul (show (prodI r.m).toNat ≤ 4 by have := sm.pr; omega) (show (prodI s'.m).toNat ≤ 4 by have := sm.ps; omega)
    generalize hN : (prodI r.m).toNat * (prodI s'.m).toNat = N at N16
    have lenN : ∀ p, (tabR r s' p).length ≤ N := fun p => by rw [← hN]; exact tab_len sm p
    obtain ⟨W, hW⟩ : ∃ W : Nat → L2.St → Hp → Prop, W = fun mu σ H' => ∃ (d : Addr) (n qu : Nat) (v1 v2 v3 v4 v5 : Option V), σ = [some (.ref p), some (.ref q), some (.ref d), some (.int (qu : Int)), some (.int ((n + qu : Nat) : Int)), v1, v2, v3, v4, v5] ∧
        Same H H' ∧ H d = none ∧ H' d = some (.dT (dtI (tabR r s' (n + qu)))) ∧ qu ≤ 16 ∧ (∀ i, i < qu → movedT r s' (tabR r s' (n + i)) (n + i) = []) ∧ mu = muL r s' N (n + qu) qu ∧ n + qu + mu ≤ 300 := ⟨_, rfl⟩
    refine ⟨W, ⟨_, by rw [hW]; exact ⟨d, 0, 0, none, none, none, none, none, rfl, s1, hd, hD1, Nat.zero_le _, fun i hi => absurd hi (Nat.not_lt_zero i), rfl, by unfold muL; omega⟩⟩, ?_⟩
    intro mu σ H' hWm
    rw [hW] at hWm
    obtain ⟨d1, n, qu, v1, v2, v3, v4, v5, rfl, s3, hd1, hD, hqu, hq0, emu, hb⟩ := hWm
    have small : n + qu ≤ 300 := by omega
    generalize hpl : n + qu = pl at hD hb small
    have okt := tabR_ok r s' pl
    have inT := tok_in okr oks okt
    have sm1 := inT_small inT sm.pr sm.ps
    have l1 := lenN pl
    have l2 := lenN (pl + 1)
    have l3 : (tabR r s' pl).length + (movedT r s' (tabR r s' pl) pl).length = (tabR r s' (pl + 1)).length := (List.length_append ..).symm
    have mg := movedT_go okr oks pl inT okt.nd
    refine ⟨_, rfl, _, _, rfl, rfl, _, rfl, ite2 (fun h1 => ?_) (fun h1 => ?_)⟩
    · have h1 : qu < 16 := by
        have : ((qu : Nat) : Int) < 16 := of_decide_eq_true h1
        omega
      refine ⟨fun σ' H'' => ∃ mu', mu' < mu ∧ W mu' σ' H'', fun σ' H'' z => z, ?_⟩
      refine ⟨_, rfl, _, rfl, p, P, pl, rfl, hP.same s3, nep, _, rfl, _, rfl, q, S, pl, rfl, hS.same s3, nes, by show 2 ≤ sizeLine; decide, fun w0 hw0 => ?_⟩
      rw [wP, wS]
      have s4 := s3.put' (o := .tup [.int (wtR r pl), .int (wtR s' pl)]) hw0
      have dw : d1 ≠ w0 := ne_of_none hD hw0
      refine ⟨_, rfl, d1, _, rfl, by rw [upd_ne dw]; exact hD, hash_nd okt.nd sm1, fun l hl => ?_⟩
      have hl0 : H l = none := by
        cases e : H l with
        | none => rfl
        | some o => rw [s4 _ _ e] at hl; cases hl
      have s5 := s4.put' (o := .dT (dtI (tabR r s' pl))) hl
      have hW0 : upd (upd H' w0 (.tup [.int (wtR r pl), .int (wtR s' pl)])) l (.dT (dtI (tabR r s' pl))) w0 = some (.tup [.int (wtR r pl), .int (wtR s' pl)]) := (Same.put hl) _ _ upd_same
      have nld : l ≠ d1 := fun z => by rw [z, upd_ne dw, hD] at hl; cases hl
      have hD4 : upd (upd H' w0 (.tup [.int (wtR r pl), .int (wtR s' pl)])) l (.dT (dtI (tabR r s' pl))) d1 = some (.dT (dtI (tabR r s' pl))) := by rw [upd_ne nld.symm, upd_ne dw]; exact hD
      have hL4 : upd (upd H' w0 (.tup [.int (wtR r pl), .int (wtR s' pl)])) l (.dT (dtI (tabR r s' pl))) l = some (.dT (dtI (tabR r s' pl))) := upd_same
      generalize upd (upd H' w0 (.tup [.int (wtR r pl), .int (wtR s' pl)])) l (.dT (dtI (tabR r s' pl))) = H4 at *
      refine ⟨d1, _, hD4, True.intro, fun od => ?_⟩
      have nwl : w0 ≠ l := ne_of hW0 hL4 (fun z => nomatch z)
      have nwd : w0 ≠ d1 := ne_of hW0 hD4 (fun z => nomatch z)
      have st5 : ∀ {b : Addr} {xs : List V}, H b = some (.tup xs) ∨ H b = some (.lst xs) → upd H4 d1 (.frz od (.dT (dtI (tabR r s' pl)))) b = H4 b ∧ b ≠ l := fun {b xs} e => by
        have hb : b ≠ d1 := fun z => by rw [z, hd1] at e; rcases e with e | e <;> cases e
        have hb2 : b ≠ l := fun z => by rw [z, hl0] at e; rcases e with e | e <;> cases e
        exact ⟨upd_ne hb, hb2⟩
      have hp5 : upd H4 d1 (.frz od (.dT (dtI (tabR r s' pl)))) p = some (.tup [.ref m, .ref a, .ref t]) := (st5 (.inl hp)).1.trans (s5 _ _ hp)
      have hq5 : upd H4 d1 (.frz od (.dT (dtI (tabR r s' pl)))) q = some (.tup [.ref m', .ref a', .ref t']) := (st5 (.inl hq)).1.trans (s5 _ _ hq)
      have hm5 : upd H4 d1 (.frz od (.dT (dtI (tabR r s' pl)))) m = some (.lst (IV P.m)) := (st5 (.inr hm)).1.trans (s5 _ _ hm)
      have hm5' : upd H4 d1 (.frz od (.dT (dtI (tabR r s' pl)))) m' = some (.lst (IV S.m)) := (st5 (.inr hm')).1.trans (s5 _ _ hm')
      have np := (st5 (.inl hp)).2
      have nq := (st5 (.inl hq)).2
      have nm := (st5 (.inr hm)).2
      have nm' := (st5 (.inr hm')).2
      have hW5 : upd H4 d1 (.frz od (.dT (dtI (tabR r s' pl)))) w0 = some (.tup [.int (wtR r pl), .int (wtR s' pl)]) := by rw [upd_ne nwd]; exact hW0
      have hL5 : upd H4 d1 (.frz od (.dT (dtI (tabR r s' pl)))) l = some (.dT (dtI (tabR r s' pl))) := by rw [upd_ne nld]; exact hL4
      have back : ∀ H6 : Hp, (∀ b o, b ≠ l → upd H4 d1 (.frz od (.dT (dtI (tabR r s' pl)))) b = some o → H6 b = some o) → Same H (upd H6 d1 (.dT (dtI (tabR r s' pl)))) := fun H6 st b o e => by
        have hb1 : b ≠ d1 := fun z => by rw [z, hd1] at e; cases e
        have hb2 : b ≠ l := fun z => by rw [z, hl0] at e; cases e
        rw [upd_ne hb1]
        exact st _ _ hb2 (by rw [upd_ne hb1]; exact s5 _ _ e)
      have hD5 : upd H4 d1 (.frz od (.dT (dtI (tabR r s' pl)))) d1 = some (.frz od (.dT (dtI (tabR r s' pl)))) := upd_same
      generalize upd H4 d1 (.frz od (.dT (dtI (tabR r s' pl)))) = H5 at *
      generalize hf : tabR r s' pl = f at *
      refine ⟨_, rfl, d1, od, rfl, .inr ⟨_, hD5, ?_⟩⟩
      refine for_keysT (d := d1) (od := od) (kvs := dtI f) (fun i σ H' => ∃ (cur : Tab) (u v w : Option V), σ = [some (.ref p), some (.ref q), some (.ref d1), some (.int (qu : Int)), some (.int (pl : Int)), some (.ref w0), some (.ref l), u, v, w] ∧
          (∀ b o, b ≠ l → H5 b = some o → H' b = some o) ∧ H' l = some (.dT (dtI (f ++ cur))) ∧ NdT cur ∧ cur.length ≤ i ∧ movedGo f (moveK r s' pl) (2 ^ pl) (f.drop i) cur = movedT r s' f pl)
        ⟨[], v3, v4, v5, rfl, fun b o _ e => e, by rw [List.append_nil]; exact hL5, List.nodup_nil, Nat.le_refl _, mg⟩ (fun i σ H' z => by obtain ⟨_, _, _, _, _, st, _⟩ := z; exact st _ _ nld.symm hD5) ?_ ?_
      · rintro i k0 v0 b σ H' hk hb ⟨cur, u1, u2, u3, rfl, st, hL, ndc, zc, e⟩
        obtain ⟨x, hx, rfl, rfl⟩ := dtI_at hk
        obtain ⟨hi, ex⟩ := List.getElem?_eq_some_iff.mp hx
        rw [drop_at hi, ex, movedGo_cons] at e
        have e : movedGo f (moveK r s' pl) (2 ^ pl) (f.drop (i + 1)) (nxtT f cur (moveK r s' pl x.1) (2 ^ pl + x.2)) = movedT r s' f pl := e
        have mem := List.mem_of_getElem? hx
        have hb' : H' b = some (.tup [.int x.1.1, .int x.1.2]) := hb
        have hp1 := st _ _ np hp5
        have hq1 := st _ _ nq hq5
        have hm1 := st _ _ nm hm5
        have hm1' := st _ _ nm' hm5'
        have hW1 := st _ _ nwl hW5
        refine ⟨_, rfl, p, _, (0 : Int), _, rfl, rfl, .inr hp1, rfl, _, rfl, b, _, 0, _, rfl, rfl, .inr hb', rfl, _, rfl, w0, _, 0, _, rfl, rfl, .inr hW1, rfl, m, P.m, x.1.1, wtR r pl, rfl, hm1, mP, fun H6 s6 => ?_⟩
        refine ⟨_, rfl, q, _, (0 : Int), _, rfl, rfl, .inr (s6 _ _ hq1), rfl, _, rfl, b, _, 1, _, rfl, rfl, .inr (s6 _ _ hb'), rfl, _, rfl, w0, _, 1, _, rfl, rfl, .inr (s6 _ _ hW1), rfl, m', S.m, x.1.2, wtR s' pl, rfl, s6 _ _ hm1', mS, fun H7 s7 => ?_⟩
        rw [← rm, ← sm']
        refine ⟨by show 2 ≤ sizeLine; decide, fun y0 hy0 => ?_⟩
        have s8 := (s6.trans s7).put' (o := .tup [.int (sumI r.m x.1.1 (wtR r pl)), .int (sumI s'.m x.1.2 (wtR s' pl))]) hy0
        have hY : upd H7 y0 (.tup [.int (sumI r.m x.1.1 (wtR r pl)), .int (sumI s'.m x.1.2 (wtR s' pl))]) y0 = some (.tup ((kT (moveK r s' pl x.1)).map kV)) := upd_same
        generalize upd H7 y0 (.tup [.int (sumI r.m x.1.1 (wtR r pl)), .int (sumI s'.m x.1.2 (wtR s' pl))]) = H8 at *
        have hD8 : H8 d1 = some (.frz od (.dT (dtI f))) := s8 _ _ (st _ _ nld.symm hD5)
        have hL8 := s8 _ _ hL
        have hb8 := s8 _ _ hb
        have st8 : ∀ b o, b ≠ l → H5 b = some o → H8 b = some o := fun b o hb e => s8 _ _ (st _ _ hb e)
        have vx : valV (dtI f) (kT x.1) = some (V.int (x.2 : Int)) := by
          rw [valV_dtI, getT_mem okt.nd mem]
          rfl
        refine ⟨_, rfl, pl, rfl, rfl, by omega, _, rfl, _, rfl, d1, _, rfl, .inr ⟨_, _, _, .inr ⟨_, hD8⟩, rfl, hb8, vx.symm⟩, 2 ^ pl, x.2, rfl, rfl, ?_⟩
        refine ⟨_, rfl, _, rfl, d1, _, rfl, .inr ⟨_, _, _, .inr ⟨_, hD8⟩, rfl, hY, rfl⟩, _, rfl, ?_⟩
        have hv : (valV (dtI f) (kT (moveK r s' pl x.1))).isSome = (getT f (moveK r s' pl x.1)).isSome := by rw [valV_dtI, Option.isSome_map]
        by_cases hg : (getT f (moveK r s' pl x.1)).isSome = true
        · rw [nxt_has hg] at e
          refine nbT (hv.trans hg) (iteF ?_)
          exact ⟨cur, _, _, _, rfl, st8, hL8, ndc, by omega, e⟩
        · have hg0 := getT_none_of hg
          have hv2 : valV (dtI (f ++ cur)) (kT (moveK r s' pl x.1)) = (getT cur (moveK r s' pl x.1)).map fun (n : Nat) => V.int (n : Int) := by rw [valV_dtI, getT_app hg0]
          have lim : cur.length ≤ 16 := by
            have := (List.getElem?_eq_some_iff.mp hx).1
            omega
          refine nbF (hv.trans (Bool.eq_false_iff.mpr hg)) ?_
          refine ⟨_, rfl, _, rfl, l, _, rfl, .inr ⟨_, _, _, .inl hL8, rfl, hY, rfl⟩, _, rfl, ?_⟩
          cases hc : getT cur (moveK r s' pl x.1) with
          | none =>
            rw [hc] at hv2
            refine nbF (by rw [hv2]; rfl) (iteT ?_)
            rw [nxt_new hg0 fun v e => by rw [hc] at e; cases e] at e
            refine ⟨_, rfl, _, rfl, _, rfl, l, _, rfl, .inr ⟨_, _, _, hL8, rfl, hY, by rw [dtI_len, List.length_append, sizeLine_eq]; omega, rfl⟩, ?_⟩
            rw [putK_dtI, putT_app hg0]
            refine ⟨_, _, _, _, rfl, fun b o hb e => ?_, upd_same, putT_nd ndc, ?_, e⟩
            · rw [upd_ne hb]
              exact st8 b o hb e
            · have := putT_len cur (moveK r s' pl x.1) (2 ^ pl + x.2)
              omega
          | some v =>
            rw [hc] at hv2
            refine nbT (by rw [hv2]; rfl) ?_
            refine ⟨_, rfl, _, rfl, l, V.int (v : Int), rfl, .inr ⟨_, _, _, .inl hL8, rfl, hY, hv2.symm⟩, _, rfl, _, _, rfl, rfl, _, rfl, ite2 (fun g => ?_) (fun g => ?_)⟩
            · have g : ((2 ^ pl + x.2 : Nat) : Int) < (v : Int) := of_decide_eq_true g
              rw [nxt_new hg0 fun u e => by rw [hc] at e; cases e; omega] at e
              refine ⟨_, rfl, _, rfl, _, rfl, l, _, rfl, .inr ⟨_, _, _, hL8, rfl, hY, by rw [dtI_len, List.length_append, sizeLine_eq]; omega, rfl⟩, ?_⟩
              rw [putK_dtI, putT_app hg0]
              refine ⟨_, _, _, _, rfl, fun b o hb e => ?_, upd_same, putT_nd ndc, ?_, e⟩
              · rw [upd_ne hb]
                exact st8 b o hb e
              · have := putT_len cur (moveK r s' pl x.1) (2 ^ pl + x.2)
                omega
            · have g : ¬ ((2 ^ pl + x.2 : Nat) : Int) < (v : Int) := fun z => g (decide_eq_true z)
              rw [nxt_old ndc hg0 hc (by omega)] at e
              exact ⟨cur, _, _, _, rfl, st8, hL8, ndc, by omega, e⟩
      · rintro σ H' ⟨cur, u1, u2, u3, rfl, st, hL, ndc, zc, e⟩
        rw [dtI_len, List.drop_of_length_le (Nat.le_refl _)] at e
        have e : cur = movedT r s' f pl := e
        subst e
        refine ⟨st _ _ nld.symm hD5, ?_⟩
        have sN := back H' st
        have hLN : upd H' d1 (.dT (dtI f)) l = some (.dT (dtI (tabR r s' (pl + 1)))) := by
          rw [upd_ne nld, hL, ← hf]
          rfl
        have hDN : upd H' d1 (.dT (dtI f)) d1 = some (.dT (dtI f)) := upd_same
        generalize upd H' d1 (.dT (dtI f)) = HN at *
        refine ⟨_, rfl, l, _, rfl, hLN, _, rfl, d1, _, rfl, hDN, rfl, _, rfl, ite2 (fun g => ?_) (fun g => ?_)⟩
        · have g : V.int (((dtI (tabR r s' (pl + 1))).length : Nat) : Int) = V.int (((dtI f).length : Nat) : Int) := of_decide_eq_true g
          have g := V.int.inj g
          rw [dtI_len, dtI_len] at g
          have e0 : movedT r s' f pl = [] := List.length_eq_zero_iff.mp (by omega)
          have eL : (tabR r s' (pl + 1)).length = f.length := by rw [← l3, e0]; rfl
          have lt : muL r s' N (pl + 1) (qu + 1) < mu := by
            rw [emu, hpl]
            unfold muL
            rw [eL, hf]
            omega
          refine ⟨_, rfl, _, _, rfl, rfl, _, rfl, _, rfl, _, _, rfl, rfl, _, _, rfl, muL r s' N (pl + 1) (qu + 1), lt, ?_⟩
          rw [hW]
          subst hpl
          refine ⟨l, n, qu + 1, _, _, _, _, _, rfl, sN, hl0, hLN, by omega, fun i hi => ?_, rfl, by omega⟩
          by_cases c : i < qu
          · exact hq0 i c
          · rw [show i = qu by omega, hf]
            exact e0
        · have g : ¬ V.int (((dtI (tabR r s' (pl + 1))).length : Nat) : Int) = V.int (((dtI f).length : Nat) : Int) := fun z => g (decide_eq_true z)
          have g : ¬ (tabR r s' (pl + 1)).length = f.length := fun z => g (by rw [dtI_len, dtI_len, z])
          have lt : muL r s' N (pl + 1) 0 < mu := by
            rw [emu, hpl]
            unfold muL
            rw [hf]
            omega
          refine ⟨_, rfl, _, rfl, _, _, rfl, rfl, _, _, rfl, muL r s' N (pl + 1) 0, lt, ?_⟩
          rw [hW]
          subst hpl
          exact ⟨l, n + qu + 1, 0, _, _, _, _, _, rfl, sN, hl0, hLN, by omega, fun i hi => absurd hi (Nat.not_lt_zero i), rfl, by omega⟩
    · have h1 : qu = 16 := by
        have : ¬ ((qu : Nat) : Int) < 16 := fun z => h1 (decide_eq_true z)
        omega
      have e : tabR r s' pl = limT r s' := by
        by_cases c : aheadP r s' ≤ n
        · rw [← hpl]
          exact quiet_lim sm c (by show manyP r s' ≤ _; unfold manyP; omega) hq0
        · have := quiet_lim sm (n := aheadP r s') (k := pl - aheadP r s') (Nat.le_refl _) (by unfold aheadP manyP at *; omega) (fun i hi => by
            have z := hq0 (aheadP r s' + i - n) (by omega)
            rw [show n + (aheadP r s' + i - n) = aheadP r s' + i by omega] at z
            exact z)
          rw [show aheadP r s' + (pl - aheadP r s') = pl by unfold aheadP at *; omega] at this
          exact this
      refine ⟨_, rfl, k H' d1 s3 hd1 ?_⟩
      rw [hD, e]
end
end K70
-- K70L5
namespace K70
open L2 PySem PySem.Spec PyProof.Rows StX
def TwosAt (H : Hp) (xs : List V) (cs : List (Nat × Nat)) : Prop := Paired (fun x (c : Nat × Nat) => ∃ p, x = V.ref p ∧ H p = some (.tup [.int (c.1 : Int), .int (c.2 : Int)])) xs cs
theorem TwosAt.same {H H' : Hp} {xs : List V} {cs : List (Nat × Nat)} (h : TwosAt H xs cs) (s : Same H H') : TwosAt H' xs cs := Paired.mapP h fun _ _ ⟨p, e, q⟩ => ⟨p, e, s _ _ q⟩
theorem TwosAt.len {H : Hp} : ∀ {xs : List V} {cs : List (Nat × Nat)}, TwosAt H xs cs → xs.length = cs.length
  | _, _, .nil => rfl
  | _, _, .cons _ t => congrArg (· + 1) (TwosAt.len t)
def nearP (sd : Bool) (p q : (Int × Int) × Nat) : Bool := decide (sk sd p.1 = sk sd q.1) && decide (q.2 < p.2)
def nearL (t : Tab) (sd : Bool) (p : (Int × Int) × Nat) : List (Nat × Nat) := (t.filter (nearP sd p)).map fun q => (p.2, q.2)
theorem splitT_eq (t : Tab) (sd : Bool) : splitT t sd = t.flatMap fun p => nearL t sd p := rfl
theorem near_snoc {t : Tab} {sd : Bool} {p q : (Int × Int) × Nat} : nearL (t ++ [q]) sd p = nearL t sd p ++ if nearP sd p q = true then [(p.2, q.2)] else [] := by
  unfold nearL
  rw [List.filter_append, List.map_append, List.filter_cons]
  cases nearP sd p q <;> rfl
theorem near_len (t : Tab) (sd : Bool) (p : (Int × Int) × Nat) : (nearL t sd p).length ≤ t.length := by
  unfold nearL
  rw [List.length_map]
  exact List.length_filter_le _ _
theorem flat_len (t u : Tab) (sd : Bool) : (u.flatMap fun p => nearL t sd p).length ≤ u.length * t.length := by
  induction u with
  | nil => exact Nat.zero_le _
  | cons p u ih =>
    rw [List.flatMap_cons, List.length_append, List.length_cons, Nat.add_mul, Nat.one_mul]
    have := near_len t sd p
    omega
section
variable {K : PySem.W.Frag} {mg : Str → Option Value} {base : Heap} {P : Program} {w : World}
def sp__law_split : Sp := fun vs H Q _ => ∃ (d : Addr) (t : Tab) (sd : Bool), vs = [.ref d, .int (if sd = true then 1 else 0)] ∧ H d = some (.dT (dtI t)) ∧ NdT t ∧ t.length ≤ 16 ∧
  ∀ H' D xs, Same H H' → H D = none → xs.length ≤ 256 → H' D = some (.lst xs) → TwosAt H' xs (splitT t sd) → Q (.ref D) H'
theorem sc__law_split : FnScope ["_law_found", "_law_side", "_law_some", "_law_pair", "_law_near"] ["_law_found", "_law_side"] (defScope s_law_split) := ⟨rfl, rfl, rfl, by decide +kernel, rfl, by decide +kernel, by decide +kernel⟩
theorem ok__law_split (T : Tx K mg) : Fnc P w K mg base 1 "_law_split" (He.ga K "_law_split") ["_law_found", "_law_side"] sp__law_split := by
  refine fnc_of T.f_law_split T.g__law_split sc__law_split (fun _ _ _ _ _ _ us hlk => match us, hlk with | [_, _], _ => rfl) (fun vs H Q E h => ?_) (fun cdv A outer s H vs Q E hr h => ?_)
  · obtain ⟨d, t, sd, rfl, _⟩ := h
    rfl
  · obtain ⟨d, t, sd, rfl, hD, nd, zt, k⟩ := h
    refine ⟨_, (pss_cons (ps_set (i := 2) sc__law_split.nd rfl (Or.inl rfl) (pe_lst pa_nil))
      (pss_cons (ps_lock (ps_for PassesOwn.never rfl (pi_keys (pv 0)) (pg_name (i := 3) sc__law_split.nd rfl (Or.inl rfl))
        (pss_one (ps_for PassesOwn.never rfl (pi_keys (pv 0)) (pg_name (i := 4) sc__law_split.nd rfl (Or.inl rfl))
        (pss_one (ps_if (PW.pt (pw_and (pt_cmpR op_eq (pe_ix ix_I (pv 3) (pv 1) (fun _ _ => rfl)) (pe_ix ix_I (pv 4) (pv 1) (fun _ _ => rfl)) (nomark _)) (pw_and1 (pt_cmpR op_lt (pe_dget (hu_of hr) (pv 0) (pv 4) (fun _ _ => rfl)) (pe_dget (hu_of hr) (pv 0) (pv 3) (fun _ _ => rfl)) (nomark _))))) (pss_one (ps_expr (pe_bm PySem.F.plainAttrs_list PySem.F.slot_list_append PySem.F.type_list_append mt_append (pv 2) (pa_cons (pe_tup (pa_cons (pe_dget (hu_of hr) (pv 0) (pv 3) (fun _ _ => rfl)) (pa_cons (pe_dget (hu_of hr) (pv 0) (pv 4) (fun _ _ => rfl)) pa_nil))) pa_nil)))) pss_nil))))))
      (pss_one (ps_ret (pv 2))))), ?_⟩
    refine ⟨Nat.zero_le _, fun l hlk => ?_⟩
    have hld : l ≠ d := fun z => by rw [z, hD] at hlk; cases hlk
    refine ⟨d, _, (Same.put hlk) _ _ hD, True.intro, fun od => ?_⟩
    have hD2 : upd (upd H l (.lst [])) d (.frz od (.dT (dtI t))) d = some (.frz od (.dT (dtI t))) := upd_same
    have hL2 : upd (upd H l (.lst [])) d (.frz od (.dT (dtI t))) l = some (.lst []) := by rw [upd_ne hld]; exact upd_same
    have old : ∀ b o, b ≠ d → H b = some o → upd (upd H l (.lst [])) d (.frz od (.dT (dtI t))) b = some o := fun b o hb e => by rw [upd_ne hb]; exact (Same.put hlk) _ _ e
    generalize upd (upd H l (.lst [])) d (.frz od (.dT (dtI t))) = H2 at *
    -- what the loops keep
    obtain ⟨PL, hPL⟩ : ∃ PL : Hp → List (Nat × Nat) → Prop, PL = fun H' cs => (∀ b o, b ≠ l → H2 b = some o → H' b = some o) ∧ ∃ xs, H' l = some (.lst xs) ∧ TwosAt H' xs cs := ⟨_, rfl⟩
    refine ⟨_, rfl, d, od, rfl, .inr ⟨_, hD2, for_keysT (d := d) (od := od) (kvs := dtI t) (fun i σ H' => ∃ (v4 v5 : Option V), σ = [some (.ref d), some (.int (if sd = true then 1 else 0)), some (.ref l), v4, v5] ∧ PL H' ((t.take i).flatMap fun p => nearL t sd p))
      ⟨none, none, rfl, by rw [hPL]; exact ⟨fun b o _ e => e, [], hL2, .nil⟩⟩ (fun i σ H' q => by obtain ⟨_, _, _, q⟩ := q; rw [hPL] at q; exact q.1 _ _ hld.symm hD2) ?_ ?_⟩⟩
    · rintro i k0 v0 q σ H' hk hb ⟨v4, v5, rfl, pl⟩
      obtain ⟨x, hx, rfl, rfl⟩ := dtI_at hk
      have mem := List.mem_of_getElem? hx
      have hi := (List.getElem?_eq_some_iff.mp hx).1
      have hdx : H' d = some (.frz od (.dT (dtI t))) := by rw [hPL] at pl; exact pl.1 _ _ hld.symm hD2
      refine ⟨_, rfl, d, od, rfl, .inr ⟨_, hdx, for_keysT (d := d) (od := od) (kvs := dtI t) (fun j σ H' => ∃ (v5 : Option V), σ = [some (.ref d), some (.int (if sd = true then 1 else 0)), some (.ref l), some (.ref q), v5] ∧ H' q = some (.tup ((kT x.1).map kV)) ∧ PL H' (((t.take i).flatMap fun p => nearL t sd p) ++ nearL (t.take j) sd x))
        ⟨v5, rfl, hb, by rw [show nearL (t.take 0) sd x = [] from rfl, List.append_nil]; exact pl⟩ (fun i σ H' q => by obtain ⟨_, _, _, q⟩ := q; rw [hPL] at q; exact q.1 _ _ hld.symm hD2) ?_ ?_⟩⟩
      · rintro j k1 v1 q1 σ H3 hk1 hb1 ⟨v5', rfl, hq3, pl3⟩
        obtain ⟨y, hy, rfl, rfl⟩ := dtI_at hk1
        have mem1 := List.mem_of_getElem? hy
        have hj := (List.getElem?_eq_some_iff.mp hy).1
        have pl4 := pl3
        rw [hPL] at pl4
        obtain ⟨st, xs, hL, tw⟩ := pl4
        have hD3 := st _ _ hld.symm hD2
        have len : xs.length ≤ 1000 := by
          rw [tw.len, List.length_append]
          have h1 := flat_len t (t.take i) sd
          have h2 := near_len (t.take j) sd x
          rw [List.length_take] at h1 h2
          have h3 : min i t.length * t.length ≤ 16 * 16 := Nat.mul_le_mul (by omega) zt
          omega
        have hqa : H3 q = some (.tup [.int x.1.1, .int x.1.2]) := hq3
        have hqb : H3 q1 = some (.tup [.int y.1.1, .int y.1.2]) := hb1
        have at1 : ∀ z : (Int × Int) × Nat, atI [V.int z.1.1, V.int z.1.2] (if sd = true then 1 else 0) = some (.int (sk sd z.1)) := fun z => by cases sd <;> rfl
        have gx : ∀ z ∈ t, valV (dtI t) (kT z.1) = some (V.int (z.2 : Int)) := fun z hz => by
          rw [valV_dtI, getT_mem nd hz]
          rfl
        have sn : nearL (t.take (j + 1)) sd x = nearL (t.take j) sd x ++ if nearP sd x y = true then [(x.2, y.2)] else [] := by rw [take_snoc hy, near_snoc]
        have skip : nearP sd x y = false → PL H3 (((t.take i).flatMap fun p => nearL t sd p) ++ nearL (t.take (j + 1)) sd x) := fun h => by
          rw [sn, h, if_neg (by decide), List.append_nil]
          exact pl3
        refine ⟨_, rfl, _, rfl, q, _, _, _, rfl, rfl, .inr hqa, at1 x, _, rfl, _, rfl, q1, _, _, _, rfl, rfl, .inr hqb, at1 y, rfl, _, rfl, ?_⟩
        by_cases c1 : sk sd x.1 = sk sd y.1
        · refine itT (by rw [c1]) ?_
          refine ⟨_, rfl, _, rfl, d, V.int (y.2 : Int), rfl, .inr ⟨_, _, _, .inr ⟨_, hD3⟩, rfl, hb1, (gx y mem1).symm⟩, _, rfl, _, rfl, d, V.int (x.2 : Int), rfl, .inr ⟨_, _, _, .inr ⟨_, hD3⟩, rfl, hq3, (gx x mem).symm⟩, _, _, rfl, rfl, _, rfl, ?_⟩
          by_cases c2 : y.2 < x.2
          · refine itT (by omega) ?_
            have np : nearP sd x y = true := by simp [nearP, c1, c2]
            refine ⟨_, rfl, .inl ⟨rfl, _, SqL.of hL⟩, _, rfl, _, rfl, d, V.int (x.2 : Int), rfl, .inr ⟨_, _, _, .inr ⟨_, hD3⟩, rfl, hq3, (gx x mem).symm⟩, _, rfl, _, rfl, d, V.int (y.2 : Int), rfl, .inr ⟨_, _, _, .inr ⟨_, hD3⟩, rfl, hb1, (gx y mem1).symm⟩, by show 2 ≤ sizeLine; decide, fun w hw => ?_⟩
            have sw : Same H3 (upd H3 w (.tup [.int (x.2 : Int), .int (y.2 : Int)])) := Same.put hw
            have hw1 : upd H3 w (.tup [.int (x.2 : Int), .int (y.2 : Int)]) w = some (.tup [.int (x.2 : Int), .int (y.2 : Int)]) := upd_same
            have tw' := tw.same sw
            have hL' := sw _ _ hL
            have hq' := sw _ _ hq3
            have st' : ∀ b o, b ≠ l → H2 b = some o → upd H3 w (.tup [.int (x.2 : Int), .int (y.2 : Int)]) b = some o := fun b o hb e => sw _ _ (st b o hb e)
            generalize upd H3 w (.tup [.int (x.2 : Int), .int (y.2 : Int)]) = H4 at *
            refine ⟨l, _, _, rfl, rfl, hL', by rw [sizeLine_eq]; omega, ?_⟩
            have nl : ∀ {b : Addr} {o : HO}, H4 b = some o → (∀ u, o ≠ .lst u) → b ≠ l := fun {b o} e z => ne_of e hL' (z _)
            refine ⟨_, rfl, by rw [upd_ne (nl hq' fun _ z => nomatch z)]; exact hq', ?_⟩
            rw [hPL, sn, np, if_pos rfl, ← List.append_assoc]
            refine ⟨fun b o hb e => by rw [upd_ne hb]; exact st' b o hb e, _, upd_same, paired_app (Paired.mapP tw' fun _ _ ⟨p, e, q⟩ => ⟨p, e, by rw [upd_ne (nl q fun _ z => nomatch z)]; exact q⟩) (.cons ⟨w, rfl, by rw [upd_ne (nl hw1 fun _ z => nomatch z)]; exact hw1⟩ .nil)⟩
          · refine itF (by omega) ?_
            exact ⟨_, rfl, hq3, skip (by simp [nearP, c2])⟩
        · refine itF (fun z => c1 (V.int.inj z)) (iteF ?_)
          exact ⟨_, rfl, hq3, skip (by simp [nearP, c1])⟩
      · rintro σ H3 ⟨v5', rfl, hq3, pl3⟩
        refine ⟨_, _, rfl, ?_⟩
        rw [dtI_len, List.take_length] at pl3
        rw [take_snoc hx, List.flatMap_append, List.flatMap_cons, List.flatMap_nil, List.append_nil]
        exact pl3
    · rintro σ H3 ⟨v4, v5, rfl, pl3⟩
      rw [dtI_len, List.take_length, hPL] at pl3
      obtain ⟨st, xs, hL, tw⟩ := pl3
      have hD3 := st _ _ hld.symm hD2
      refine ⟨hD3, _, rfl, ?_⟩
      refine k _ l xs (fun b o e => ?_) hlk ?_ (by rw [upd_ne hld]; exact hL) (Paired.mapP tw fun _ _ ⟨p, e, q⟩ => ⟨p, e, by rw [upd_ne (ne_of q hD3 fun z => nomatch z)]; exact q⟩)
      · by_cases hb : b = d
        · rw [hb, hD] at e
          cases e
          rw [hb, upd_same]
        · rw [upd_ne hb]
          exact st _ _ (ne_of_none e hlk) (old b o hb e)
      · rw [tw.len]
        have h1 := flat_len t t sd
        have h3 : t.length * t.length ≤ 16 * 16 := Nat.mul_le_mul zt zt
        omega
end
end K70
-- K70L6
namespace K70
open L2 PySem PySem.Spec PyProof.Rows StX
def PlainsIn (H : Hp) (ys : List V) (Ps : List PR) : Prop := Paired (fun y P => ∃ p, y = V.ref p ∧ PlainAt H p P) ys Ps
theorem PlainsIn.same {H H' : Hp} {ys : List V} {Ps : List PR} (h : PlainsIn H ys Ps) (s : Same H H') : PlainsIn H' ys Ps := Paired.mapP h fun _ _ ⟨p, e, q⟩ => ⟨p, e, q.same s⟩
theorem minP_of {es : List (Nat × Nat)} {a b : Nat} (m : (a, b) ∈ es) (h1 : ∀ c ∈ es, a ≤ c.1) (h2 : ∀ c ∈ es, c.1 = a → b ≤ c.2) : minP es = some (a, b) := by
  cases e : minP es with
  | none =>
    rw [minP_none e] at m
    cases m
  | some y =>
    obtain ⟨m2, le⟩ := minP_some e
    obtain ⟨y1, y2⟩ := y
    have q1 := h1 _ m2
    have q2 := le _ m
    simp only at q1 q2
    have e1 : y1 = a := by omega
    subst e1
    have q3 := h2 _ m2 rfl
    simp only at q3
    have e2 : y2 = b := by
      have := q2.2 rfl
      omega
    rw [e2]
section
variable {K : PySem.W.Frag} {mg : Str → Option Value} {base : Heap} {P : Program} {w : World}
def sp__law_first : Sp := fun vs H Q _ => ∃ (L : Addr) (zs : List V) (es : List (Nat × Nat)), vs = [.ref L] ∧ H L = some (.lst zs) ∧ TwosAt H zs es ∧ es ≠ [] ∧ es.length ≤ 1000 ∧ ∀ H' w a b, Same H H' → minP es = some (a, b) → H' w = some (.tup [.int (b : Int), .int (a : Int)]) → Q (.ref w) H'
theorem sc__law_first : FnScope ["_law_some", "_law_second", "_law_pair"] ["_law_some"] (defScope s_law_first) := ⟨rfl, rfl, rfl, by decide +kernel, rfl, by decide +kernel, by decide +kernel⟩
theorem ok__law_first (T : Tx K mg) : Fnc P w K mg base 2 "_law_first" (He.ga K "_law_first") ["_law_some"] sp__law_first := by
  refine fnc_of T.f_law_first T.g__law_first sc__law_first (fun _ _ _ _ _ _ us hl => match us, hl with | [_], _ => rfl) (fun vs H Q E h => ?_) (fun cdv A outer s H vs Q E hr h => ?_)
  · obtain ⟨L, zs, es, rfl, _⟩ := h
    rfl
  · obtain ⟨L, zs, es, rfl, hL5, pr5, c, zl, k⟩ := h
    refine ⟨_, (pss_cons (ps_set (i := 1) sc__law_first.nd rfl (Or.inr rfl) (pe_callB (cr_min rfl) (by rfl) T.b_min (by decide +kernel) (pa_cons (pe_lc (own := [("_law_pair", 2)]) (g := gName 2) (tt := tYes) (by rfl) sc__law_first.nd (pi_list (pv 0)) (blkOk_by (N := ["_law_some", "_law_second", "_law_pair"]) (sc := defScope s_law_first) (by decide +kernel)) (fun _ _ _ _ _ => (pg_name (i := 2) sc__law_first.nd rfl (Or.inl rfl))) (fun _ _ _ _ _ => pts_nil) (fun _ _ _ _ _ => (pe_callTy call_int1 (by rfl) T.b_int (by decide +kernel) (pa_cons (pe_ix ix_I (pv 2) pe_int (fun _ _ => rfl)) pa_nil)))) pa_nil)))
      (pss_one (ps_ret (pe_tup (pa_cons (pe_callB (cr_min rfl) (by rfl) T.b_min (by decide +kernel) (pa_cons (pe_lc (own := [("_law_pair", 2)]) (g := gName 2) (by rfl) sc__law_first.nd (pi_list (pv 0)) (blkOk_by (N := ["_law_some", "_law_second", "_law_pair"]) (sc := defScope s_law_first) (by decide +kernel)) (fun _ _ _ _ _ => (pg_name (i := 2) sc__law_first.nd rfl (Or.inl rfl))) (fun _ _ _ _ _ => pts_one (pt_cmpR op_eq (pe_ix ix_I (pv 2) pe_int (fun _ _ => rfl)) (pv 1) (nomark _))) (fun _ _ _ _ _ => (pe_callTy call_int1 (by rfl) T.b_int (by decide +kernel) (pa_cons (pe_ix ix_I (pv 2) pe_int (fun _ _ => rfl)) pa_nil)))) pa_nil)) (pa_cons (pv 1) pa_nil)))))), ?_⟩
    have lens := pr5.len
    have pos : 0 < es.length := List.length_pos_iff.mpr c
    refine ⟨_, rfl, L, rfl, ⟨_, SqL.of hL5⟩, fun D hDn => lc_listG (xs := zs) (fun i => V.int ((es.getD i (0, 0)).1 : Int)) hDn (SqL.of hL5) (by rw [sizeLine_eq]; omega) (fun i x H6 hx s6 Qk hq => ?_) fun H6 s6 e6 => ?_⟩
    · obtain ⟨c2, hc2, p1, rfl, h1⟩ := paired_at pr5 hx
      have eq : es.getD i (0, 0) = c2 := by rw [List.getD_eq_getElem?_getD, hc2]; rfl
      rw [eq] at hq
      exact ⟨rfl, _, rfl, p1, _, 0, _, rfl, rfl, .inr (s6 _ _ h1), rfl, .inl ⟨_, rfl, hq _ (Same.refl _)⟩⟩
    · have e6' : H6 D = some (.lst ((es.map fun c => ((c.1 : Nat) : Int)).map V.int)) := by
        rw [e6, lens]
        congr 2
        apply List.ext_getElem
        · simp
        · intro i h1 h2
          simp only [List.length_map, List.length_range] at h1
          rw [List.getElem_map, List.getElem_range, List.getD_eq_getElem?_getD, List.getElem?_eq_getElem h1, List.getElem_map, List.getElem_map]
          rfl
      refine ⟨D, es.map fun c => ((c.1 : Nat) : Int), rfl, SqL.of e6', by rw [List.length_map]; exact pos, fun m1 mem1 le1 => ?_⟩
      obtain ⟨cm, hcm, rfl⟩ := List.mem_map.mp mem1
      have le1 : ∀ c ∈ es, cm.1 ≤ c.1 := fun c hc => by
        have := le1 _ (List.mem_map_of_mem hc)
        omega
      have hL6 := s6 _ _ hL5
      refine ⟨_, rfl, L, rfl, ⟨_, SqL.of hL6⟩, fun D2 hD2 => lc_list (xs := zs) (fun i H7 => Same H6 H7 ∧ H7 D2 = some (.lst (((es.take i).filter fun c => decide (c.1 = cm.1)).map fun c => V.int (c.2 : Int))))
        ⟨Same.put hD2, upd_same⟩ (fun i H7 _ z => SqL.of (z.1 _ _ hL6)) (fun i x H7 hx z => ?_) fun H7 z => ?_⟩
      · obtain ⟨s7, e7⟩ := z
        obtain ⟨c2, hc2, p1, rfl, h1⟩ := paired_at pr5 hx
        have h1 := s7 _ _ (s6 _ _ h1)
        have hi : i < zs.length := (List.getElem?_eq_some_iff.mp hx).1
        refine ⟨rfl, _, rfl, p1, _, 0, _, rfl, rfl, .inr h1, rfl, _, rfl, rfl, _, rfl, ?_⟩
        have tk := take_snoc hc2
        by_cases cc : c2.1 = cm.1
        · refine itT (by rw [cc]) ?_
          refine ⟨_, rfl, p1, _, 1, _, rfl, rfl, .inr h1, rfl, .inl ⟨_, rfl, _, e7, ?_, ?_⟩⟩
          · rw [List.length_map]
            have := List.length_filter_le (fun c : Nat × Nat => decide (c.1 = cm.1)) (es.take i)
            rw [List.length_take] at this
            rw [sizeLine_eq]
            omega
          · refine ⟨Same.set s7 hD2, ?_⟩
            rw [upd_same, tk, List.filter_append, List.filter_cons_of_pos (by simpa using cc), List.map_append]
            rfl
        · refine itF (fun z => cc (by have := V.int.inj z; omega)) ?_
          refine ⟨s7, ?_⟩
          rw [tk, List.filter_append, List.filter_cons_of_neg (by simpa using cc), e7]
          show _ = some (HO.lst (((es.take i).filter _ ++ []).map _))
          rw [List.append_nil]
      · obtain ⟨s7, e7⟩ := z
        rw [lens, List.take_length] at e7
        have e7' : H7 D2 = some (.lst ((((es.filter fun c => decide (c.1 = cm.1))).map fun c => ((c.2 : Nat) : Int)).map V.int)) := by rw [e7, List.map_map]; rfl
        have mcm : cm ∈ es.filter fun c => decide (c.1 = cm.1) := List.mem_filter.mpr ⟨hcm, by simp⟩
        refine ⟨D2, _, rfl, SqL.of e7', by rw [List.length_map]; exact List.length_pos_of_mem mcm, fun m2 mem2 le2 => ?_⟩
        obtain ⟨c3, hc3, rfl⟩ := List.mem_map.mp mem2
        obtain ⟨hc3m, hc3e⟩ := List.mem_filter.mp hc3
        have hc3e := of_decide_eq_true hc3e
        have le2 : ∀ c ∈ es, c.1 = cm.1 → c3.2 ≤ c.2 := fun c hc e => by
          have := le2 _ (List.mem_map_of_mem (List.mem_filter.mpr ⟨hc, by simpa using e⟩))
          omega
        have fin : minP es = some (cm.1, c3.2) := minP_of (by rw [← hc3e]; exact hc3m) le1 le2
        refine ⟨_, rfl, by show 2 ≤ sizeLine; decide, fun w hw => ?_⟩
        exact k _ w cm.1 c3.2 ((s6.trans s7).put' hw) fin upd_same
def sp__law_parting : Sp := fun vs H Q _ => ∃ (L : Addr) (ys : List V) (Ps : List PR), vs = [.ref L] ∧ H L = some (.lst ys) ∧ PlainsIn H ys Ps ∧ (∀ P ∈ Ps, NfP P) ∧ (∀ P ∈ Ps, SmallP (nfP (Ps.headD ⟨[], [], []⟩)) (nfP P)) ∧ Ps.length ≤ 1000 ∧
  (∀ H', Same H H' → partR (nfP (Ps.headD ⟨[], [], []⟩)) (Ps.tail.map nfP) = none → Q .non H') ∧
  (∀ H' w a b, Same H H' → partR (nfP (Ps.headD ⟨[], [], []⟩)) (Ps.tail.map nfP) = some (a, b) → H' w = some (.tup [.int (b : Int), .int (a : Int)]) → Q (.ref w) H')
theorem sc__law_parting : FnScope ["_law_left", "_law_plain_here", "_law_found", "_law_some"] ["_law_left"] (defScope s_law_parting) := ⟨rfl, rfl, rfl, by decide +kernel, rfl, by decide +kernel, by decide +kernel⟩
theorem ok__law_parting (T : Tx K mg) : Fnc P w K mg base 5 "_law_parting" (He.ga K "_law_parting") ["_law_left"] sp__law_parting := by
  have c__law_least := ok__law_least (P := P) (w := w) (base := base) T
  have c__law_split := ok__law_split (P := P) (w := w) (base := base) T
  have c__law_first := ok__law_first (P := P) (w := w) (base := base) T
  refine fnc_of T.f_law_parting T.g__law_parting sc__law_parting (fun _ _ _ _ _ _ us hl => match us, hl with | [_], _ => rfl) (fun vs H Q E h => ?_) (fun cdv A outer s H vs Q E hr h => ?_)
  · obtain ⟨L, ys, Ps, rfl, _⟩ := h
    rfl
  · obtain ⟨L, ys, Ps, rfl, hL, hP, nf, sm, zl, k1, k2⟩ := h
    refine ⟨_, (pss_cons (ps_for PassesOwn.never rfl (pi_list (pe_slice sl_list (pv 0) (po_some pe_int) po_none)) (pg_name (i := 1) sc__law_parting.nd rfl (Or.inl rfl))
        (pss_cons (ps_set (i := 2) sc__law_parting.nd rfl (Or.inl rfl) (pe_f c__law_least (hr.mono (by decide)) (pa_cons (pe_ix ix_I (pv 0) pe_int (fun _ _ => rfl)) (pa_cons (pv 1) pa_nil))))
      (pss_cons (ps_set (i := 3) sc__law_parting.nd rfl (Or.inl rfl) (pe_op op_cat (pe_f c__law_split (hr.mono (by decide)) (pa_cons (pv 2) (pa_cons pe_int pa_nil))) (pe_f c__law_split (hr.mono (by decide)) (pa_cons (pv 2) (pa_cons pe_int pa_nil)))))
      (pss_one (ps_if (pt_cmpR (op_neD hr.units) (pv 3) (pe_lst pa_nil) (nomark _)) (pss_one (ps_ret (pe_f c__law_first (hr.mono (by decide)) (pa_cons (pv 3) pa_nil)))) pss_nil)))))
      (pss_one (ps_ret pe_non))), ?_⟩
    have lens : ys.length = Ps.length := Paired.length hP
    refine ⟨_, rfl, _, rfl, L, ys, rfl, SqL.of hL, fun p hp => ?_⟩
    have hp1 : upd H p (.lst (cutV ys (some (1 : Int)) none)) p = some (.lst (ys.drop 1)) := by
      rw [upd_same]
      exact congrArg (fun z => some (HO.lst z)) (cut_drop ys 1)
    have s0 : Same H (upd H p (.lst (cutV ys (some (1 : Int)) none))) := Same.put hp
    generalize hH1 : upd H p (.lst (cutV ys (some (1 : Int)) none)) = H1 at *
    obtain ⟨r0, hr0⟩ : ∃ r0, r0 = nfP (Ps.headD ⟨[], [], []⟩) := ⟨_, rfl⟩
    rw [← hr0] at sm k1 k2
    have hL1 := s0 _ _ hL
    have hP1 := hP.same s0
    refine ⟨p, rfl, ⟨_, SqL.of hp1⟩, for_list (K := K) (a := p) (xs := ys.drop 1) (fun i σ H' => Same H1 H' ∧ (∃ v1 v2 v3 : Option V, σ = [some (.ref L), v1, v2, v3]) ∧ partR r0 ((Ps.drop (i + 1)).map nfP) = partR r0 (Ps.tail.map nfP))
      ⟨Same.refl _, ⟨none, none, none, rfl⟩, by rw [List.drop_one]⟩ (fun i σ H' _ z => SqL.of (z.1 _ _ hp1)) ?_ ?_⟩
    · rintro i x σ H' hx ⟨s1, ⟨v1, v2, v3, rfl⟩, inv⟩
      rw [List.getElem?_drop] at hx
      obtain ⟨P, hPi, q, rfl, hq⟩ := paired_at hP1 (i := 1 + i) hx
      have hPi : Ps[i + 1]? = some P := by rw [Nat.add_comm]; exact hPi
      have memP := List.mem_of_getElem? hPi
      obtain ⟨hi, eP⟩ := List.getElem?_eq_some_iff.mp hPi
      obtain ⟨P0, Pt, rfl⟩ : ∃ a b, Ps = a :: b := by
        cases Ps with
        | nil => cases hPi
        | cons a b => exact ⟨a, b, rfl⟩
      obtain ⟨y0, yt, rfl⟩ : ∃ a b, ys = a :: b := by
        cases ys with
        | nil => cases lens
        | cons a b => exact ⟨a, b, rfl⟩
      obtain ⟨P0', h0, q0, rfl, hq0⟩ := paired_at hP1 (i := 0) (x := y0) rfl
      obtain rfl : P0 = P0' := by simpa using h0
      have hr0 : r0 = nfP P0 := hr0
      have n0 := nf P0 List.mem_cons_self
      have nP := nf P memP
      have smP := sm P memP
      rw [hr0] at smP inv
      have okt := tabR_ok (nfP P0) (nfP P) 64
      have z16 : (limT (nfP P0) (nfP P)).length ≤ 16 := by
        have h1 := tab_len smP 64
        have h2 : (prodI (nfP P0).m).toNat * (prodI (nfP P).m).toNat ≤ 4 * 4 := Nat.mul_le_mul (by have := smP.pr; omega) (by have := smP.ps; omega)
        unfold limT
        omega
      rw [List.drop_eq_getElem_cons hi, eP, List.map_cons, partR_cons] at inv
      have inv2 : (partP (nfP P0) (nfP P) = none → partR (nfP P0) (((P0 :: Pt).drop (i + 1 + 1)).map nfP) = partR (nfP P0) ((P0 :: Pt).tail.map nfP)) ∧ ∀ z, partP (nfP P0) (nfP P) = some z → partR (nfP P0) ((P0 :: Pt).tail.map nfP) = some z :=
        ⟨fun e => by rw [e] at inv; exact inv, fun z e => by rw [e] at inv; exact inv.symm⟩
      refine ⟨_, rfl, L, _, (0 : Int), .ref q0, rfl, rfl, .inl (s1 _ _ hL1), by unfold atI ixN; simp, _, rfl, q0, q, P0, P, rfl, hq0.same s1, hq.same s1, n0, nP, smP, fun H2 d s2 hd hD => ?_⟩
      have hpt : partP (nfP P0) (nfP P) = minP (splitP (limT (nfP P0) (nfP P))) := rfl
      have ndt := okt.nd
      have espl : splitP (limT (nfP P0) (nfP P)) = splitT (limT (nfP P0) (nfP P)) false ++ splitT (limT (nfP P0) (nfP P)) true := rfl
      change NdT (limT (nfP P0) (nfP P)) at ndt
      generalize limT (nfP P0) (nfP P) = t at *
      refine ⟨_, rfl, d, t, false, rfl, hD, ndt, z16, fun H3 D0 xs s3 n3 z0 hD0 tw0 => ⟨_, rfl, d, t, true, rfl, s3 _ _ hD, ndt, z16, fun H4 D1 xs1 s4 n4 z1 hD1 tw1 => ⟨D0, D1, xs, xs1, rfl, rfl, s4 _ _ hD0, hD1, by rw [sizeLine_eq]; omega, fun L1 hL1 => ?_⟩⟩⟩
      have s5 : Same H4 (upd H4 L1 (.lst (xs ++ xs1))) := Same.put hL1
      have tw : TwosAt (upd H4 L1 (.lst (xs ++ xs1))) (xs ++ xs1) (splitP t) := by
        rw [espl]
        exact paired_app ((tw0.same s4).same s5) (tw1.same s5)
      have hLL : upd H4 L1 (.lst (xs ++ xs1)) L1 = some (.lst (xs ++ xs1)) := upd_same
      have S5 := s1.trans (s2.trans (s3.trans (s4.trans s5)))
      have zlen : (xs ++ xs1).length ≤ 512 := by rw [List.length_append]; omega
      generalize upd H4 L1 (.lst (xs ++ xs1)) = H5 at *
      generalize xs ++ xs1 = zs at *
      generalize splitP t = es at *
      refine ⟨_, rfl, Nat.zero_le _, fun e0 he0 => ?_⟩
      have s6 : Same H5 (upd H5 e0 (.lst [])) := Same.put he0
      have dp : DpAll _ (upd H5 e0 (.lst [])) zs (tupsD (es.map fun c => [(c.1 : Int), (c.2 : Int)])) := Dp_tups (K := K) (paired_map (fun x c z => by
        obtain ⟨p1, e, h1⟩ := z
        exact ⟨p1, e, s6 _ _ h1⟩) tw)
      refine ⟨_, _, .lst (SqL.of (s6 _ _ hLL)) dp, .lst (SqL.of upd_same) .nil, shaped_tups _, shaped_tups [], _, rfl, ?_⟩
      rw [show PyData.eqv (.list (tupsD (es.map fun c => [(c.1 : Int), (c.2 : Int)]))) (.list []) = decide (es.map (fun c => [(c.1 : Int), (c.2 : Int)]) = []) from eqv_tups _ []]
      have hL6 := s6 _ _ hLL
      have tw6 := tw.same s6
      have S6 := S5.trans s6
      generalize upd H5 e0 (.lst []) = H6 at *
      by_cases c : es = []
      · refine niT (by rw [c]; rfl) ?_
        refine ⟨S6, ⟨_, _, _, rfl⟩, ?_⟩
        rw [hpt, c] at inv2
        rw [hr0]
        exact inv2.1 rfl
      · refine niF (fun z => c (List.map_eq_nil_iff.mp z)) ?_
        refine ⟨_, rfl, L1, zs, es, rfl, hL6, tw6, c, by rw [← tw6.len]; omega, fun H7 w a b s7 mn hw => ?_⟩
        refine k2 H7 w a b (s0.trans (S6.trans s7)) ?_ hw
        rw [hpt, mn] at inv2
        rw [hr0]
        exact inv2.2 _ rfl
    · rintro σ H' ⟨s1, ⟨v1, v2, v3, rfl⟩, inv⟩
      refine k1 H' (s0.trans s1) ?_
      rw [← inv]
      have e : Ps.drop ((ys.drop 1).length + 1) = [] := by
        refine List.drop_of_length_le ?_
        rw [List.length_drop]
        omega
      rw [e]
      rfl
end
end K70
-- K70L7
namespace K70
open L2 PySem PySem.Spec PyProof.Rows StX
theorem partR_mem {r0 : PR} {a b : Nat} {l : List PR} (h : partR r0 l = some (a, b)) : ∃ r ∈ l, SSS (limT r0 r) a b := by
  induction l with
  | nil => cases h
  | cons r l ih =>
    rw [partR_cons] at h
    cases e : partP r0 r with
    | none =>
      rw [e] at h
      obtain ⟨r', m, q⟩ := ih h
      exact ⟨r', List.mem_cons_of_mem _ m, q⟩
    | some z =>
      rw [e] at h
      have h : z = (a, b) := Option.some.inj h
      rw [h] at e
      exact ⟨r, List.mem_cons_self, splitP_mem.mp (minP_some (show minP (splitP (limT r0 r)) = some (a, b) from e)).1⟩
theorem nf_bank {P : PR} (h : NfP P) (n : Nat) : bankI P.m (wtR P) n = bankI (nfP P).m (wtR (nfP P)) n := by
  rw [show wtR P = wtR (nfP P) from funext h.wt]
  rfl
def TwoOk (H : Hp) (Pl : List PR) (v : V) : Prop := (v = .non ∧ partR (nfP (Pl.headD ⟨[], [], []⟩)) (Pl.tail.map nfP) = none) ∨
  ∃ w a b, v = V.ref w ∧ H w = some (.tup [.int ((b : Nat) : Int), .int ((a : Nat) : Int)]) ∧ partR (nfP (Pl.headD ⟨[], [], []⟩)) (Pl.tail.map nfP) = some (a, b)
theorem hdm {Ps : List PR} (ne : Ps ≠ []) : (Ps.map nfP).headD ⟨[], [], []⟩ = nfP (Ps.headD ⟨[], [], []⟩) ∧ (Ps.map nfP).tail = Ps.tail.map nfP := by
  cases Ps with
  | nil => exact absurd rfl ne
  | cons a b => exact ⟨rfl, rfl⟩
def keepP (hid : Nat → Nat → Bool) (Pl : List PR) (p : Nat × Nat) : List PR := Pl.filter fun P => meets (nfP P) p.2 p.1 == hid p.2 p.1
theorem keep_map (hid : Nat → Nat → Bool) (Pl : List PR) (p : Nat × Nat) : (keepP hid Pl p).map nfP = stepL hid (Pl.map nfP) p := by
  unfold keepP stepL
  rw [List.filter_map]
  rfl
theorem sp_pt1 {H : Hp} {Q : VK} {E : XK} (L : Addr) (ys : List V) (Ps : List PR) (hL : H L = some (.lst ys)) (hP : PlainsIn H ys Ps) (nf : ∀ P ∈ Ps, NfP P) (sm : ∀ P ∈ Ps, SmallP (nfP (Ps.headD ⟨[], [], []⟩)) (nfP P)) (zl : Ps.length ≤ 1000)
    (k : ∀ H' v, Same H H' → TwoOk H' Ps v → Q v H') : sp__law_parting [.ref L] H Q E :=
  ⟨L, ys, Ps, rfl, hL, hP, nf, sm, zl, fun H' s pt => k H' .non s (.inl ⟨rfl, pt⟩), fun H' w a b s pt hw => k H' _ s (.inr ⟨w, a, b, rfl, hw, pt⟩)⟩
section
variable {K : PySem.W.Frag} {mg : Str → Option Value} {base : Heap} {P : Program} {w : World}
def sp__law_due : Sp := fun vs H Q _ => ∃ (L hd : Addr) (ys : List V) (Ps : List PR) (Ph : PR), vs = [.ref L, .ref hd] ∧ H L = some (.lst ys) ∧ PlainsIn H ys Ps ∧ PlainAt H hd Ph ∧ Ph ∈ Ps ∧ (∀ P ∈ Ps, NfP P) ∧ (∀ P ∈ Ps, ∀ P' ∈ Ps, SmallP (nfP P) (nfP P')) ∧ Ps.length ≤ 1000 ∧
  ∀ H' w p0 n ws P0 es, Same H H' → H' w = some (.tup [.ref p0, .ref n]) → P0 ∈ Ps → PlainAt H' p0 P0 → H' n = some (.lst ws) → EntsAt H' ws es → es.length ≤ Ps.length → toldF (meets (nfP Ph)) Ps.length (Ps.map nfP) [] = (nfP P0, es) → Q (.ref w) H'
theorem sc__law_due : FnScope ["_law_plains_here", "_law_hidden", "_law_left", "_law_entries_here", "_law_two", "_law_met", "_law_one"] ["_law_plains_here", "_law_hidden"] (defScope s_law_due) := ⟨rfl, rfl, rfl, by decide +kernel, rfl, by decide +kernel, by decide +kernel⟩
theorem ok__law_due (T : Tx K mg) : Fnc P w K mg base 6 "_law_due" (He.ga K "_law_due") ["_law_plains_here", "_law_hidden"] sp__law_due := by
  have c__law_parting := ok__law_parting (P := P) (w := w) (base := base) T
  have c__law_bank := ok__law_bank (P := P) (w := w) (base := base) T
  refine fnc_of T.f_law_due T.g__law_due sc__law_due (fun _ _ _ _ _ _ us hl => match us, hl with | [_, _], _ => rfl) (fun vs H Q E h => ?_) (fun cdv A outer s H vs Q E hr h => ?_)
  · obtain ⟨L, hd, ys, Ps, Ph, rfl, _⟩ := h
    rfl
  · obtain ⟨L, hd, ys, Ps, Ph, rfl, hL, hP, hh, hmem, nf, sm, zl, k⟩ := h
    refine ⟨_, (pss_cons (ps_par (i := 2) (j := 3) (by rfl) sc__law_due.nd rfl rfl (by decide) rfl rfl (pa_cons (pv 0) (pa_cons (pe_lst pa_nil) pa_nil)) (by rfl))
      (pss_cons (ps_set (i := 4) sc__law_due.nd rfl (Or.inr rfl) (pe_f c__law_parting (hr.mono (by decide)) (pa_cons (pv 2) pa_nil)))
      (pss_cons (ps_while PassesOwn.never (pt_cmpR op_notN (pv 4) pe_non (nomark _)) (pss_cons (ps_set (i := 5) sc__law_due.nd rfl (Or.inr rfl) (pe_cmpR op_eq (pe_f c__law_bank (hr.mono (by decide)) (pa_cons (pv 1) (pa_cons (pe_ix ix_I (pv 4) pe_int (fun _ _ => rfl)) pa_nil))) (pe_f c__law_bank (hr.mono (by decide)) (pa_cons (pv 1) (pa_cons (pe_ix ix_I (pv 4) pe_int (fun _ _ => rfl)) pa_nil))) (nomark _)))
      (pss_cons (ps_expr (pe_bm PySem.F.plainAttrs_list PySem.F.slot_list_append PySem.F.type_list_append mt_append (pv 3) (pa_cons (pe_tup (pa_cons (pe_ix ix_I (pv 4) pe_int (fun _ _ => rfl)) (pa_cons (pe_ix ix_I (pv 4) pe_int (fun _ _ => rfl)) (pa_cons (pv 5) pa_nil)))) pa_nil)))
      (pss_cons (ps_setLc (i := 2) (own := [("_law_one", 6)]) (g := gName 6) (by rfl) sc__law_due.nd rfl rfl (sw_true rfl rfl rfl (by decide +kernel)) (pi_list (pv 2)) (blkOk_by (N := ["_law_plains_here", "_law_hidden", "_law_left", "_law_entries_here", "_law_two", "_law_met", "_law_one"]) (sc := defScope s_law_due) (by decide +kernel)) (fun _ _ _ _ _ => (pg_name (i := 6) sc__law_due.nd rfl (Or.inl rfl))) (fun _ _ _ _ _ => pts_one (pt_cmpR op_eq (pe_cmpR op_eq (pe_f c__law_bank (hr.mono (by decide)) (pa_cons (pv 6) (pa_cons (pe_ix ix_I (pv 4) pe_int (fun _ _ => rfl)) pa_nil))) (pe_f c__law_bank (hr.mono (by decide)) (pa_cons (pv 6) (pa_cons (pe_ix ix_I (pv 4) pe_int (fun _ _ => rfl)) pa_nil))) (nomark _)) (pv 5) (nomark _))) (fun _ _ _ _ _ => (pv 6)))
      (pss_one (ps_set (i := 4) sc__law_due.nd rfl (Or.inr rfl) (pe_f c__law_parting (hr.mono (by decide)) (pa_cons (pv 2) pa_nil))))))))
      (pss_one (ps_ret (pe_tup (pa_cons (pe_ix ix_I (pv 2) pe_int (fun _ _ => rfl)) (pa_cons (pv 3) pa_nil)))))))), ?_⟩
    have pne : Ps ≠ [] := fun e => by rw [e] at hmem; cases hmem
    have hd_mem : ∀ rs : List PR, rs ≠ [] → rs.headD ⟨[], [], []⟩ ∈ rs := fun rs ne => by
      cases rs with
      | nil => exact absurd rfl ne
      | cons a b => exact List.mem_cons_self
    have nfh := nf Ph hmem
    obtain ⟨hid, hhid⟩ : ∃ hid, hid = meets (nfP Ph) := ⟨_, rfl⟩
    rw [← hhid] at k
    refine ⟨_, rfl, Nat.zero_le _, fun n hn => ⟨_, _, rfl, ?_⟩⟩
    have s1 : Same H (upd H n (.lst [])) := Same.put hn
    have nln : L ≠ n := ne_of_none hL hn
    refine ⟨_, rfl, ?_⟩
    refine tN ?_
    show sp__law_parting [.ref L] _ _ _
    refine sp_pt1 L ys Ps (s1 _ _ hL) (hP.same s1) nf (fun P m => sm _ (hd_mem _ pne) P m) zl fun H3 two s3 ht => ?_
    have S3 := s1.trans s3
    obtain ⟨W, hW⟩ : ∃ W : Nat → L2.St → Hp → Prop, W = fun m σ H' => ∃ (Pl : List PR) (es : List Ent) (l' : Addr) (ys ws : List V) (two : V) (v5 v6 : Option V), σ = [some (.ref L), some (.ref hd), some (.ref l'), some (.ref n), some two, v5, v6] ∧ Same H H' ∧ l' ≠ n ∧ H' l' = some (.lst ys) ∧ PlainsIn H ys Pl ∧ H' n = some (.lst ws) ∧ EntsAt H' ws es ∧
      Pl ≠ [] ∧ Pl.length ≤ m ∧ toldF hid m (Pl.map nfP) es = toldF hid Ps.length (Ps.map nfP) [] ∧ (∀ P ∈ Pl, P ∈ Ps) ∧ Ph ∈ Pl ∧ es.length + Pl.length ≤ Ps.length ∧ TwoOk H' Pl two := ⟨_, rfl⟩
    refine ⟨W, ⟨Ps.length, by rw [hW]; exact ⟨Ps, [], L, ys, [], two, none, none, rfl, S3, nln, s3 _ _ (s1 _ _ hL), hP, s3 _ _ upd_same, .nil, pne, Nat.le_refl _, rfl, fun _ h => h, hmem, by simp, ht⟩⟩, ?_⟩
    intro m σ H' hWm
    rw [hW] at hWm
    obtain ⟨Pl, es, l', ys', ws, two', v5, v6, rfl, s4, nln', hl', hR, hn', hE, rne, rlen, ft, sub, hin, el, ho⟩ := hWm
    clear ht
    rcases ho with ⟨rfl, pt⟩ | ⟨w, a, b, rfl, hw, pt⟩
    · refine ⟨_, rfl, rfl, _, rfl, iteF ?_⟩
      obtain ⟨P0, Pt, rfl⟩ : ∃ a b, Pl = a :: b := by
        cases Pl with
        | nil => exact absurd rfl rne
        | cons a b => exact ⟨a, b, rfl⟩
      obtain ⟨p0, yt, rfl, hp0⟩ : ∃ p0 yt, ys' = V.ref p0 :: yt ∧ PlainAt H' p0 P0 := by
        cases hR with
        | cons a t =>
          obtain ⟨p0, e, h0⟩ := a
          exact ⟨p0, _, by rw [e], h0.same s4⟩
      have fin : toldF hid Ps.length (Ps.map nfP) [] = (nfP P0, es) := by
        rw [← ft]
        exact toldF_done pt
      refine ⟨_, rfl, l', _, (0 : Int), .ref p0, rfl, rfl, .inl hl', (by unfold atI ixN; simp), _, rfl, by show 2 ≤ sizeLine; decide, fun w hw => ?_⟩
      have sw : Same H' (upd H' w (.tup [.ref p0, .ref n])) := Same.put hw
      exact k _ w p0 n ws P0 es (s4.trans sw) upd_same (sub _ List.mem_cons_self) (hp0.same sw) (sw _ _ hn') (EntsAt.same hE sw) (by omega) fin
    · refine ⟨_, rfl, rfl, _, rfl, iteT ?_⟩
      obtain ⟨m, rfl⟩ : ∃ m', m = m' + 1 := ⟨m - 1, by have := List.length_pos_iff.mpr rne; omega⟩
      refine ⟨W m, fun σ' H'' h => ⟨m, Nat.lt_succ_self m, h⟩, ?_⟩
      have hh4 := hh.same s4
      obtain ⟨e1, e2⟩ := hdm rne
      have hpart : partR ((Pl.map nfP).headD ⟨[], [], []⟩) (Pl.map nfP).tail = some (a, b) := by rw [e1, e2]; exact pt
      refine ⟨_, rfl, _, rfl, w, _, (0 : Int), _, rfl, rfl, .inr hw, rfl, hd, Ph, b, rfl, hh4, nfh.ok.ne, nfh.ok.m, fun H5 s5 => ?_⟩
      refine ⟨_, rfl, _, rfl, w, _, (1 : Int), _, rfl, rfl, .inr (s5 _ _ hw), rfl, hd, Ph, a, rfl, hh4.same s5, nfh.ok.ne, nfh.ok.m, fun H6 s6 => ?_⟩
      have ev : ∀ {P : PR}, NfP P → decide (V.int (bankI P.m (wtR P) b) = V.int (bankI P.m (wtR P) a)) = meets (nfP P) b a := fun {P} h => by
        rw [dec_int, nf_bank h, nf_bank h]
        rfl
      have S6 := s5.trans s6
      refine ⟨rfl, ?_⟩
      rw [ev nfh, ← hhid]
      have hn6 := S6 _ _ hn'
      have hl6 := S6 _ _ hl'
      have hw6 := S6 _ _ hw
      have hE6 := EntsAt.same hE S6
      have lw : ws.length = es.length := Paired.length hE
      have lR : ys'.length = Pl.length := Paired.length hR
      have S46 := s4.trans S6
      refine ⟨_, rfl, .inl ⟨rfl, _, SqL.of hn6⟩, _, rfl, w, _, (0 : Int), _, rfl, rfl, .inr hw6, rfl, _, rfl, w, _, (1 : Int), _, rfl, rfl, .inr hw6, rfl, _, rfl, ?_⟩
      refine tN ⟨(by rw [sizeLine_eq]; show 3 ≤ _; decide), fun pe hpe => ?_⟩
      have s7 : Same H6 (upd H6 pe (.tup [.int (b : Int), .int (a : Int), .bl (hid b a)])) := Same.put hpe
      have hpe7 : upd H6 pe (.tup [.int (b : Int), .int (a : Int), .bl (hid b a)]) pe = some (.tup [.int (b : Int), .int (a : Int), .bl (hid b a)]) := upd_same
      refine tN ⟨n, ws, _, rfl, rfl, s7 _ _ hn6, (by rw [lw, sizeLine_eq]; omega), ?_⟩
      have hl7 := s7 _ _ hl6
      have hn7 := s7 _ _ hn6
      have hw7 := s7 _ _ hw6
      have hE7 := EntsAt.same hE6 s7
      have S7 := S46.trans s7
      generalize upd H6 pe (.tup [.int (b : Int), .int (a : Int), .bl (hid b a)]) = H7 at *
      have q8 : SameQ n H7 (upd H7 n (.lst (ws ++ [V.ref pe]))) := fun c o nc e => by rw [upd_ne nc]; exact e
      have hn8 : upd H7 n (.lst (ws ++ [V.ref pe])) n = some (.lst (ws ++ [V.ref pe])) := upd_same
      have hl8 := q8 _ _ nln' hl7
      have nwn : w ≠ n := ne_of hw7 hn7 (fun z => nomatch z)
      have hw8 := q8 _ _ nwn hw7
      have hE8 : EntsAt (upd H7 n (.lst (ws ++ [V.ref pe]))) (ws ++ [V.ref pe]) (es ++ [(b, a, hid b a)]) := q8.ents ⟨_, hn7⟩ (paired_app hE7 (.cons ⟨pe, rfl, hpe7⟩ .nil))
      have S8 : Same H (upd H7 n (.lst (ws ++ [V.ref pe]))) := S7.set hn
      generalize upd H7 n (.lst (ws ++ [V.ref pe])) = H8 at *
      have hR8 := hR.same S8
      refine ⟨_, rfl, l', rfl, ⟨_, SqL.of hl8⟩, fun D hD => lc_listF (xs := ys') (fun i => meets (nfP (Pl.getD i ⟨[], [], []⟩)) b a == hid b a) hD (SqL.of hl8) (by rw [sizeLine_eq]; omega) (fun i7 x H9 hx s9 Qk kt kf => ?_) fun H9 s9 e9 => ?_⟩
      · obtain ⟨P7, hP7, q7, rfl, h7⟩ := paired_at hR8 hx
        have eg : Pl.getD i7 ⟨[], [], []⟩ = P7 := by rw [List.getD_eq_getElem?_getD, hP7]; rfl
        rw [eg] at kt kf
        have nf7 := nf P7 (sub _ (List.mem_of_getElem? hP7))
        have h79 := h7.same s9
        refine ⟨rfl, _, rfl, _, rfl, w, _, (0 : Int), _, rfl, rfl, .inr (s9 _ _ hw8), rfl, q7, P7, b, rfl, h79, nf7.ok.ne, nf7.ok.m, fun H10 s10 => ?_⟩
        refine ⟨_, rfl, _, rfl, w, _, (1 : Int), _, rfl, rfl, .inr (s10 _ _ (s9 _ _ hw8)), rfl, q7, P7, a, rfl, h79.same s10, nf7.ok.ne, nf7.ok.m, fun H11 s11 => ?_⟩
        refine ⟨rfl, _, rfl, rfl, _, rfl, ?_⟩
        have ev2 : (decide (V.bl (decide (V.int (bankI P7.m (wtR P7) b) = V.int (bankI P7.m (wtR P7) a))) = V.bl (hid b a))) = (meets (nfP P7) b a == hid b a) := by
          rw [ev nf7, dec_bl]
        rw [ev2]
        cases hb : (meets (nfP P7) b a == hid b a) with
        | true => exact iteT ⟨_, rfl, kt H11 (s10.trans s11) hb⟩
        | false => exact iteF (kf H11 (s10.trans s11) hb)
      · have pf : PlainsIn H ((ys'.zipIdx.filter fun p => (meets (nfP (Pl.getD p.2 ⟨[], [], []⟩)) b a == hid b a)).map (·.1)) (keepP hid Pl (a, b)) :=
          paired_filter (fun P => meets (nfP P) b a == hid b a) hR 0 (fun i => meets (nfP (Pl.getD i ⟨[], [], []⟩)) b a == hid b a) fun i r hr => by
            rw [Nat.zero_add, List.getD_eq_getElem?_getD, hr]
            rfl
        generalize (ys'.zipIdx.filter fun p => (meets (nfP (Pl.getD p.2 ⟨[], [], []⟩)) b a == hid b a)).map (·.1) = ys6 at *
        have hDn : D ≠ n := fun zz => by rw [zz, hn8] at hD; cases hD
        have hin' : Ph ∈ keepP hid Pl (a, b) := List.mem_filter.mpr ⟨hin, by
          show (meets (nfP Ph) b a == hid b a) = true
          rw [hhid]
          simp⟩
        have ne' : keepP hid Pl (a, b) ≠ [] := fun e => by rw [e] at hin'; cases hin'
        have sub' : ∀ P ∈ keepP hid Pl (a, b), P ∈ Ps := fun P h => sub P (List.mem_filter.mp h).1
        have less : (keepP hid Pl (a, b)).length < Pl.length := by
          obtain ⟨r, hr, sss⟩ := partR_mem pt
          obtain ⟨Pi, hPi, rfl⟩ := List.mem_map.mp hr
          have df := sss_meets sss
          cases c1 : (meets (nfP (Pl.headD ⟨[], [], []⟩)) b a == hid b a) with
          | false => exact filter_less (x := Pl.headD ⟨[], [], []⟩) (hd_mem _ rne) c1
          | true =>
            refine filter_less (x := Pi) (List.mem_of_mem_tail hPi) ?_
            show (meets (nfP Pi) b a == hid b a) = false
            have := beq_iff_eq.mp c1
            rw [this] at df
            exact beq_false_of_ne (Ne.symm df)
        have S9 := S8.trans s9
        refine ⟨_, rfl, ?_⟩
        refine tN ?_
        show sp__law_parting [.ref D] _ _ _
        refine sp_pt1 D ys6 (keepP hid Pl (a, b)) e9 (pf.same S9) (fun P h => nf P (sub' P h)) (fun P h => sm _ (sub' _ (hd_mem _ ne')) P (sub' P h)) (Nat.le_trans (Nat.le_of_lt less) (by omega)) fun H10 two s10 ht => ?_
        rw [hW]
        refine ⟨keepP hid Pl (a, b), es ++ [(b, a, hid b a)], D, ys6, ws ++ [V.ref pe], two, _, _, rfl, S9.trans s10, hDn, s10 _ _ e9, pf, s10 _ _ (s9 _ _ hn8), EntsAt.same hE8 (s9.trans s10), ne', by omega, ?_, sub', hin', ?_, ht⟩
        · rw [keep_map, ← toldF_step hpart]
          exact ft
        · (rw [List.length_append, List.length_singleton])
          omega
end
end K70
-- K70L8
namespace K70
open L2 PySem PySem.Spec PyProof.Rows StX
/-! ### the shapes that the law draws -/
def shapesW : List (List Int × Nat × Nat) := [([2], 0, 1), ([2], 1, 1), ([2], 2, 1), ([2], 3, 1), ([2], 0, 2), ([2], 1, 2), ([2], 2, 2), ([2], 0, 3), ([2], 1, 3), ([2], 0, 4), ([3], 0, 1), ([3], 1, 1), ([3], 2, 1), ([3], 0, 2), ([3], 1, 2), ([3], 0, 3),
  ([4], 0, 1), ([4], 1, 1), ([4], 0, 2), ([2, 2], 0, 1), ([2, 2], 1, 1), ([2, 2], 0, 2)]
def mostW (M : List Int) : Nat := if M = [2] then 4 else if M = [3] then 3 else 2
theorem shapes_mem {M : List Int} (hM : M ∈ [[2], [3], [4], [2, 2]]) {a r : Nat} (h1 : r < mostW M) (h2 : a < mostW M - (1 + r) + 1) : (M, a, 1 + r) ∈ shapesW := by
  have key : ∀ M ∈ ([[2], [3], [4], [2, 2]] : List (List Int)), ∀ r ∈ List.range 4, ∀ a ∈ List.range 4, r < mostW M → a < mostW M - (1 + r) + 1 → (M, a, 1 + r) ∈ shapesW := by decide +kernel
  have mm : mostW M ≤ 4 := by
    unfold mostW
    split
    · exact Nat.le_refl _
    · split <;> decide
  exact key M hM r (List.mem_range.mpr (by omega)) a (List.mem_range.mpr (by omega)) h1 h2
theorem Dp_lsI {K : PySem.W.Frag} {H : Hp} {a : Addr} {l : List Int} (h : LsI H a l) : Dp K H (.ref a) (.list (l.map PyData.int)) := .lst (SqL.of h) (by
  clear h
  induction l with
  | nil => exact .nil
  | cons x l ih => exact .cons (.int x) ih)
section
variable {K : PySem.W.Frag} {mg : Str → Option Value} {base : Heap} {P : Program} {w : World}
def sp__law_shape : Sp := fun vs H Q _ => ∃ (p : Addr) (n : Nat), vs = [.ref p] ∧ PenAt H p n ∧ n ≤ 990 ∧ ∀ H' w m M a t, SameQ p H H' → PenAt H' p (n + 3) → H' w = some (.tup [.ref m, .int ((a : Nat) : Int), .int ((t : Nat) : Int)]) → LsI H' m M → m ≠ p → (M, a, t) ∈ shapesW → Q (.ref w) H'
theorem sc__law_shape : FnScope ["_law_pen_here", "_law_moduli", "_law_most", "_law_turn"] ["_law_pen_here"] (defScope s_law_shape) := ⟨rfl, rfl, rfl, by decide +kernel, rfl, by decide +kernel, by decide +kernel⟩
theorem ok__law_shape (T : Tx K mg) : Fnc P w K mg base 3 "_law_shape" (He.ga K "_law_shape") ["_law_pen_here"] sp__law_shape := by
  have c__law_pick := ok__law_pick (P := P) (w := w) (base := base) T
  have c__law_draw := ok__law_draw (P := P) (w := w) (base := base) T
  refine fnc_of T.f_law_shape T.g__law_shape sc__law_shape (fun _ _ _ _ _ _ us hl => match us, hl with | [_], _ => rfl) (fun vs H Q E h => ?_) (fun cdv A outer s H vs Q E hr h => ?_)
  · obtain ⟨p, n, rfl, _⟩ := h
    rfl
  · obtain ⟨p, n, rfl, hp, hn, k⟩ := h
    refine ⟨_, (pss_cons (ps_set (i := 1) sc__law_shape.nd rfl (Or.inl rfl) (pe_f c__law_pick (hr.mono (by decide)) (pa_cons (pv 0) (pa_cons (pe_lst (pa_cons (pe_lst (pa_cons pe_int pa_nil)) (pa_cons (pe_lst (pa_cons pe_int pa_nil)) (pa_cons (pe_lst (pa_cons pe_int pa_nil)) (pa_cons (pe_lst (pa_cons pe_int pa_nil)) (pa_cons (pe_lst (pa_cons pe_int (pa_cons pe_int pa_nil))) pa_nil)))))) pa_nil))))
      (pss_cons (ps_set (i := 2) sc__law_shape.nd rfl (Or.inl rfl) (pe_ifExp (pt_cmpR (op_eqD hr.units) (pv 1) (pe_lst (pa_cons pe_int pa_nil)) (nomark _)) pe_int (pe_ifExp (pt_cmpR (op_eqD hr.units) (pv 1) (pe_lst (pa_cons pe_int pa_nil)) (nomark _)) pe_int pe_int)))
      (pss_cons (ps_set (i := 3) sc__law_shape.nd rfl (Or.inl rfl) (pe_op op_add pe_int (pe_f c__law_draw (hr.mono (by decide)) (pa_cons (pv 0) (pa_cons (pv 2) pa_nil)))))
      (pss_one (ps_ret (pe_tup (pa_cons (pv 1) (pa_cons (pe_f c__law_draw (hr.mono (by decide)) (pa_cons (pv 0) (pa_cons (pe_op op_add (pe_op op_sub (pv 2) (pv 3)) pe_int) pa_nil))) (pa_cons (pv 3) pa_nil))))))))), ?_⟩
    obtain ⟨u0, hu0⟩ : ∃ u, H p = some (.lst u) := by
      obtain ⟨l, cs, i, lf, h, _⟩ := id hp
      exact ⟨_, h⟩
    have z1 : 1 ≤ sizeLine := by rw [sizeLine_eq]; decide
    have z5 : 5 ≤ sizeLine := by rw [sizeLine_eq]; decide
    refine ⟨_, rfl, ?_⟩
    refine ⟨by show 1 ≤ sizeLine; rw [sizeLine_eq]; decide, fun m1 h1 => ?_⟩
    have s1 : Same H (upd H m1 (.lst [.int 2])) := Same.put h1
    have f1 : upd H m1 (.lst [.int 2]) m1 = some (.lst [.int 2]) := upd_same
    have n1 : p ≠ m1 := ne_of_none hu0 h1
    have hu1 := s1 _ _ hu0
    generalize upd H m1 (.lst [.int 2]) = H1 at *
    refine ⟨by show 1 ≤ sizeLine; rw [sizeLine_eq]; decide, fun m2 h2 => ?_⟩
    have s2 : Same H1 (upd H1 m2 (.lst [.int 2])) := Same.put h2
    have f2 : upd H1 m2 (.lst [.int 2]) m2 = some (.lst [.int 2]) := upd_same
    have n2 : p ≠ m2 := ne_of_none hu1 h2
    have hu2 := s2 _ _ hu1
    have f1 := s2 _ _ f1
    generalize upd H1 m2 (.lst [.int 2]) = H2 at *
    refine ⟨by show 1 ≤ sizeLine; rw [sizeLine_eq]; decide, fun m3 h3 => ?_⟩
    have s3 : Same H2 (upd H2 m3 (.lst [.int 3])) := Same.put h3
    have f3 : upd H2 m3 (.lst [.int 3]) m3 = some (.lst [.int 3]) := upd_same
    have n3 : p ≠ m3 := ne_of_none hu2 h3
    have hu3 := s3 _ _ hu2
    have f1 := s3 _ _ f1
    have f2 := s3 _ _ f2
    generalize upd H2 m3 (.lst [.int 3]) = H3 at *
    refine ⟨by show 1 ≤ sizeLine; rw [sizeLine_eq]; decide, fun m4 h4 => ?_⟩
    have s4 : Same H3 (upd H3 m4 (.lst [.int 4])) := Same.put h4
    have f4 : upd H3 m4 (.lst [.int 4]) m4 = some (.lst [.int 4]) := upd_same
    have n4 : p ≠ m4 := ne_of_none hu3 h4
    have hu4 := s4 _ _ hu3
    have f1 := s4 _ _ f1
    have f2 := s4 _ _ f2
    have f3 := s4 _ _ f3
    generalize upd H3 m4 (.lst [.int 4]) = H4 at *
    refine ⟨by show 2 ≤ sizeLine; rw [sizeLine_eq]; decide, fun m5 h5 => ?_⟩
    have s5 : Same H4 (upd H4 m5 (.lst [.int 2, .int 2])) := Same.put h5
    have f5 : upd H4 m5 (.lst [.int 2, .int 2]) m5 = some (.lst [.int 2, .int 2]) := upd_same
    have n5 : p ≠ m5 := ne_of_none hu4 h5
    have hu5 := s5 _ _ hu4
    have f1 := s5 _ _ f1
    have f2 := s5 _ _ f2
    have f3 := s5 _ _ f3
    have f4 := s5 _ _ f4
    generalize upd H4 m5 (.lst [.int 2, .int 2]) = H5 at *
    refine ⟨z5, fun L hL => ?_⟩
    have s6 : Same H5 (upd H5 L (.lst [.ref m1, .ref m2, .ref m3, .ref m4, .ref m5])) := Same.put hL
    have fL : upd H5 L (.lst [.ref m1, .ref m2, .ref m3, .ref m4, .ref m5]) L = some (.lst [.ref m1, .ref m2, .ref m3, .ref m4, .ref m5]) := upd_same
    have nL : p ≠ L := ne_of_none hu5 hL
    have f1 := s6 _ _ f1
    have f2 := s6 _ _ f2
    have f3 := s6 _ _ f3
    have f4 := s6 _ _ f4
    have f5 := s6 _ _ f5
    generalize upd H5 L (.lst [.ref m1, .ref m2, .ref m3, .ref m4, .ref m5]) = H6 at *
    have S6 : Same H H6 := s1.trans (s2.trans (s3.trans (s4.trans (s5.trans s6))))
    refine ⟨p, L, _, n, rfl, .inl fL, by simp, by show 5 ≤ 1000; decide, nL.symm, hp.same S6, by omega, fun H7 i v sq7 pen7 hv => ?_⟩
    obtain ⟨m, M, rfl, hM, nm, inM⟩ : ∃ m M, v = V.ref m ∧ LsI H7 m M ∧ m ≠ p ∧ M ∈ ([[2], [3], [4], [2, 2]] : List (List Int)) := by
      rcases i with _ | _ | _ | _ | _ | i
      · exact ⟨m1, [2], by simpa using hv.symm, sq7 _ _ n1.symm f1, n1.symm, by decide⟩
      · exact ⟨m2, [2], by simpa using hv.symm, sq7 _ _ n2.symm f2, n2.symm, by decide⟩
      · exact ⟨m3, [3], by simpa using hv.symm, sq7 _ _ n3.symm f3, n3.symm, by decide⟩
      · exact ⟨m4, [4], by simpa using hv.symm, sq7 _ _ n4.symm f4, n4.symm, by decide⟩
      · exact ⟨m5, [2, 2], by simpa using hv.symm, sq7 _ _ n5.symm f5, n5.symm, by decide⟩
      · simp at hv
    have Sq7 : SameQ p H H7 := (SameQ.of S6).trans sq7
    refine ⟨_, rfl, z1, fun e0 he0 => ?_⟩
    have s8 : Same H7 (upd H7 e0 (.lst [.int 2])) := Same.put he0
    have hE : LsI (upd H7 e0 (.lst [.int 2])) e0 [2] := upd_same
    have hM8 := hM.same s8
    have pen8 := pen7.same s8
    generalize upd H7 e0 (.lst [.int 2]) = H8 at *
    refine ⟨.list (M.map PyData.int), .list (([2] : List Int).map PyData.int), Dp_lsI hM8, Dp_lsI hE, shaped_ints _, shaped_ints _, _, rfl, ?_⟩
    rw [eqv_ints]
    by_cases c2 : M = [2]
    · refine itT c2 ?_
      have SS := s8
      have Sq := Sq7.trans (.of SS)
      refine ⟨_, rfl, _, rfl, p, 4, n + 1, rfl, by decide, by decide, pen8, by omega, fun H10 r sq10 pen10 hr _ => ⟨_, _, rfl, rfl, ?_⟩⟩
      refine ⟨_, rfl, _, rfl, _, rfl, _, rfl, _, _, rfl, rfl, _, _, rfl, rfl, p, 4 - (1 + r) + 1, n + 2, ?_, by omega, by omega, pen10, by omega, fun H11 a sq11 pen11 ha _ => ?_⟩
      · show [V.ref p, V.int ((4 : Int) - (1 + (r : Int)) + 1)] = _
        rw [show (4 : Int) - (1 + (r : Int)) + 1 = ((4 - (1 + r) + 1 : Nat) : Int) by omega]
      · refine ⟨_, rfl, by show 3 ≤ sizeLine; rw [sizeLine_eq]; decide, fun w hw => ?_⟩
        have sw : Same H11 (upd H11 w (.tup [.ref m, .int ((a : Nat) : Int), .int ((1 + r : Nat) : Int)])) := Same.put hw
        have mo : mostW M = 4 := by rw [c2]; rfl
        exact k _ w m M a (1 + r) (Sq.trans (sq10.trans (sq11.trans (.of sw)))) (pen11.same sw) upd_same (sw _ _ (sq11 _ _ nm (sq10 _ _ nm hM8))) nm (shapes_mem inM (by rw [mo]; exact hr) (by rw [mo]; exact ha))
    · refine itF c2 ?_
      refine ⟨_, rfl, z1, fun e1 he1 => ?_⟩
      have s9 : Same H8 (upd H8 e1 (.lst [.int 3])) := Same.put he1
      have hE9 : LsI (upd H8 e1 (.lst [.int 3])) e1 [3] := upd_same
      have hM9 := hM8.same s9
      have pen9 := pen8.same s9
      generalize upd H8 e1 (.lst [.int 3]) = H9 at *
      refine ⟨.list (M.map PyData.int), .list (([3] : List Int).map PyData.int), Dp_lsI hM9, Dp_lsI hE9, shaped_ints _, shaped_ints _, _, rfl, ?_⟩
      rw [eqv_ints]
      have SS := s8.trans s9
      by_cases c3 : M = [3]
      · refine itT c3 ?_
        have Sq := Sq7.trans (.of SS)
        refine ⟨_, rfl, _, rfl, p, 3, n + 1, rfl, by decide, by decide, pen9, by omega, fun H10 r sq10 pen10 hr _ => ⟨_, _, rfl, rfl, ?_⟩⟩
        refine ⟨_, rfl, _, rfl, _, rfl, _, rfl, _, _, rfl, rfl, _, _, rfl, rfl, p, 3 - (1 + r) + 1, n + 2, ?_, by omega, by omega, pen10, by omega, fun H11 a sq11 pen11 ha _ => ?_⟩
        · show [V.ref p, V.int ((3 : Int) - (1 + (r : Int)) + 1)] = _
          rw [show (3 : Int) - (1 + (r : Int)) + 1 = ((3 - (1 + r) + 1 : Nat) : Int) by omega]
        · refine ⟨_, rfl, by show 3 ≤ sizeLine; rw [sizeLine_eq]; decide, fun w hw => ?_⟩
          have sw : Same H11 (upd H11 w (.tup [.ref m, .int ((a : Nat) : Int), .int ((1 + r : Nat) : Int)])) := Same.put hw
          have mo : mostW M = 3 := by rw [c3]; rfl
          exact k _ w m M a (1 + r) (Sq.trans (sq10.trans (sq11.trans (.of sw)))) (pen11.same sw) upd_same (sw _ _ (sq11 _ _ nm (sq10 _ _ nm hM9))) nm (shapes_mem inM (by rw [mo]; exact hr) (by rw [mo]; exact ha))
      · refine itF c3 ?_
        have Sq := Sq7.trans (.of SS)
        refine ⟨_, rfl, _, rfl, p, 2, n + 1, rfl, by decide, by decide, pen9, by omega, fun H10 r sq10 pen10 hr _ => ⟨_, _, rfl, rfl, ?_⟩⟩
        refine ⟨_, rfl, _, rfl, _, rfl, _, rfl, _, _, rfl, rfl, _, _, rfl, rfl, p, 2 - (1 + r) + 1, n + 2, ?_, by omega, by omega, pen10, by omega, fun H11 a sq11 pen11 ha _ => ?_⟩
        · show [V.ref p, V.int ((2 : Int) - (1 + (r : Int)) + 1)] = _
          rw [show (2 : Int) - (1 + (r : Int)) + 1 = ((2 - (1 + r) + 1 : Nat) : Int) by omega]
        · refine ⟨_, rfl, by show 3 ≤ sizeLine; rw [sizeLine_eq]; decide, fun w hw => ?_⟩
          have sw : Same H11 (upd H11 w (.tup [.ref m, .int ((a : Nat) : Int), .int ((1 + r : Nat) : Int)])) := Same.put hw
          have mo : mostW M = 2 := by unfold mostW; rw [if_neg c2, if_neg c3]
          exact k _ w m M a (1 + r) (Sq.trans (sq10.trans (sq11.trans (.of sw)))) (pen11.same sw) upd_same (sw _ _ (sq11 _ _ nm (sq10 _ _ nm hM9))) nm (shapes_mem inM (by rw [mo]; exact hr) (by rw [mo]; exact ha))
end
end K70
-- K70L9
namespace K70
open L2 PySem PySem.Spec PyProof.Rows StX
def plainsW (M : List Int) (a t : Nat) : List PR := (rowsW (prodI M).toNat (a + t)).map fun row => ⟨M, row.take a, row.drop a⟩
theorem shape_small : ∀ x ∈ shapesW, 2 ≤ prodI x.1 ∧ prodI x.1 ≤ 4 ∧ x.2.1 + x.2.2 ≤ 4 ∧ 1 ≤ x.2.2 ∧ (∀ q ∈ x.1, 2 ≤ q ∧ q ≤ 32) ∧ (prodI x.1).toNat ^ (x.2.1 + x.2.2) ≤ 27 := by decide +kernel
abbrev rIxI : R2 := fun x y H Q => ∃ p xs i v, x = .ref p ∧ y = .int i ∧ SqI H p xs ∧ atI xs i = some v ∧ Q v H
abbrev rLstI : List V → Hp → VK → Prop := fun xs H Q => ∃ a ys, xs = [.ref a] ∧ SqI H a ys ∧ ∀ p, H p = none → Q (.ref p) (upd H p (.lst ys))
theorem rows_part (b n k : Nat) (hb : 1 ≤ b) (l : List (List Int)) (h : l.length ≤ b ^ n) : (l.flatMap fun r => (List.range b).map fun (x : Nat) => r ++ [(x : Int)]).length ≤ b ^ (n + 1) := by
  rw [List.length_flatMap]
  have e : (l.map fun r => ((List.range b).map fun (x : Nat) => r ++ [(x : Int)]).length) = List.replicate l.length b := by
    rw [← List.map_const']
    refine List.map_congr_left fun r _ => ?_
    (rw [List.length_map, List.length_range])
  rw [e, List.sum_replicate_nat, Nat.pow_succ]
  exact Nat.mul_le_mul_right b h
/-- a plain rule apart from the list at D -/
def PlainOff (D : Addr) (H : Hp) (p : Addr) (r : PR) : Prop := ∃ m a t, H p = some (.tup [.ref m, .ref a, .ref t]) ∧ LsI H m r.m ∧ LsI H a r.a ∧ LsI H t r.t ∧ m ≠ D ∧ a ≠ D ∧ t ≠ D
def PlainsOff (D : Addr) (H : Hp) (ys : List V) (Ps : List PR) : Prop := Paired (fun y P => ∃ p, y = V.ref p ∧ PlainOff D H p P) ys Ps
theorem PlainsOff.same {D : Addr} {H H' : Hp} {ys : List V} {Ps : List PR} (h : PlainsOff D H ys Ps) (s : Same H H') : PlainsOff D H' ys Ps := Paired.mapP h fun _ _ ⟨p, e, m, a, t, h1, h2, h3, h4, ne⟩ => ⟨p, e, m, a, t, s _ _ h1, h2.same s, h3.same s, h4.same s, ne⟩
theorem PlainsOff.set {D : Addr} {H : Hp} {us vs : List V} {ys : List V} {Ps : List PR} (h : PlainsOff D H ys Ps) (hD : H D = some (.lst us)) : PlainsOff D (upd H D (.lst vs)) ys Ps :=
  Paired.mapP h fun _ _ ⟨p, e, m, a, t, h1, h2, h3, h4, n1, n2, n3⟩ => by
    have np : p ≠ D := ne_of h1 hD (fun z => nomatch z)
    refine ⟨p, e, m, a, t, (upd_ne np).trans h1, (upd_ne n1).trans h2, (upd_ne n2).trans h3, (upd_ne n3).trans h4, n1, n2, n3⟩
theorem PlainsOff.on {D : Addr} {H : Hp} {ys : List V} {Ps : List PR} (h : PlainsOff D H ys Ps) : PlainsIn H ys Ps := Paired.mapP h fun _ _ ⟨p, e, m, a, t, h1, h2, h3, h4, _⟩ => ⟨p, e, m, a, t, h1, h2, h3, h4⟩
section
variable {K : PySem.W.Frag} {mg : Str → Option Value} {base : Heap} {P : Program} {w : World}
def sp__law_plains (K : PySem.W.Frag) : Sp := fun vs H Q _ => ∃ (p m : Addr) (M : List Int) (a t : Nat), vs = [.ref p] ∧ H p = some (.tup [.ref m, .int (a : Int), .int (t : Int)]) ∧ LsI H m M ∧ (M, a, t) ∈ shapesW ∧
  ∀ H' D ys, Same H H' → H' D = some (.lst ys) → PlainsIn H' ys (plainsW M a t) → Q (.ref D) H'
theorem sc__law_plains : FnScope ["_law_shape_here", "_law_rows", "_law_place", "_law_longer", "_law_row", "_law_bank_here"] ["_law_shape_here"] (defScope s_law_plains) := ⟨rfl, rfl, rfl, by decide +kernel, rfl, by decide +kernel, by decide +kernel⟩
theorem ok__law_plains (T : Tx K mg) : Fnc P w K mg base 2 "_law_plains" (He.ga K "_law_plains") ["_law_shape_here"] (sp__law_plains K) := by
  have c__law_banks := ok__law_banks (P := P) (w := w) (base := base) T
  refine fnc_of T.f_law_plains T.g__law_plains sc__law_plains (fun _ _ _ _ _ _ us hl => match us, hl with | [_], _ => rfl) (fun vs H Q E h => ?_) (fun cdv A outer s H vs Q E hr h => ?_)
  · obtain ⟨p, m, M, a, t, rfl, _⟩ := h
    rfl
  · obtain ⟨p, m, M, a, t, rfl, hp, hm, ins, k⟩ := h
    refine ⟨_, (pss_cons (ps_set (i := 1) sc__law_plains.nd rfl (Or.inl rfl) (pe_lst (pa_cons (pe_tup pa_nil) pa_nil)))
      (pss_cons (ps_for PassesOwn.never rfl (pi_range1 (by rfl) T.b_range (pa_cons (pe_op op_add (pe_ix ix_I (pv 0) pe_int (fun _ _ => rfl)) (pe_ix ix_I (pv 0) pe_int (fun _ _ => rfl))) pa_nil)) (pg_name (i := 2) sc__law_plains.nd rfl (Or.inl rfl))
        (pss_cons (ps_set (i := 3) sc__law_plains.nd rfl (Or.inl rfl) (pe_lst pa_nil))
      (pss_cons (ps_for PassesOwn.never rfl (pi_list (pv 1)) (pg_name (i := 4) sc__law_plains.nd rfl (Or.inr rfl))
        (pss_one (ps_set (i := 3) sc__law_plains.nd rfl (Or.inl rfl) (pe_op op_cat (pv 3) (pe_lc (own := [("_law_bank_here", 5)]) (g := gName 5) (tt := tYes) (te := tOp (rCatA K) (tVar 4) (tTup (tCons (tVar 5) tNil))) (by rfl) sc__law_plains.nd (pi_range1 (by rfl) T.b_range (pa_cons (pe_f c__law_banks (hr.mono (by decide)) (pa_cons (pe_ix ix_I (pv 0) pe_int (fun _ _ => rfl)) pa_nil)) pa_nil)) (blkOk_by (N := ["_law_shape_here", "_law_rows", "_law_place", "_law_longer", "_law_row", "_law_bank_here"]) (sc := defScope s_law_plains) (by decide +kernel)) (fun _ _ _ _ _ => (pg_name (i := 5) sc__law_plains.nd rfl (Or.inl rfl))) (fun _ _ _ _ _ => pts_nil) (fun _ _ _ _ _ => (pe_op op_catA (pv 4) (pe_tup (pa_cons (pv 5) pa_nil)))))))))
      (pss_one (ps_set (i := 1) sc__law_plains.nd rfl (Or.inl rfl) (pv 3))))))
      (pss_one (ps_ret (pe_lc (own := [("_law_row", 4)]) (g := gName 4) (tt := tYes) (te := tTup (tCons (tOp rIxI (tVar 0) (tC (.int 0))) (tCons (tCB rLstI (tCons (tSl (rSlA K) (tVar 4) tNoPart (tPart (tOp rIxI (tVar 0) (tC (.int 1))))) tNil)) (tCons (tCB rLstI (tCons (tSl (rSlA K) (tVar 4) (tPart (tOp rIxI (tVar 0) (tC (.int 1)))) tNoPart) tNil)) tNil)))) (by rfl) sc__law_plains.nd (pi_list (pv 1)) (blkOk_by (N := ["_law_shape_here", "_law_rows", "_law_place", "_law_longer", "_law_row", "_law_bank_here"]) (sc := defScope s_law_plains) (by decide +kernel)) (fun _ _ _ _ _ => (pg_name (i := 4) sc__law_plains.nd rfl (Or.inl rfl))) (fun _ _ _ _ _ => pts_nil) (fun _ _ _ _ _ => (pe_tup (pa_cons (pe_ix ix_I (pv 0) pe_int (fun _ _ => rfl)) (pa_cons (pe_callTy call_lstI (by rfl) T.b_list (by decide +kernel) (pa_cons (pe_slice sl_tupA (pv 4) po_none (po_some (pe_ix ix_I (pv 0) pe_int (fun _ _ => rfl)))) pa_nil)) (pa_cons (pe_callTy call_lstI (by rfl) T.b_list (by decide +kernel) (pa_cons (pe_slice sl_tupA (pv 4) (po_some (pe_ix ix_I (pv 0) pe_int (fun _ _ => rfl))) po_none) pa_nil)) pa_nil)))))))))), ?_⟩
    obtain ⟨pl, pu, pat, pt, pe, pw⟩ := shape_small _ ins
    simp only [] at pl pu pat pt pe pw
    obtain ⟨b, hb⟩ : ∃ b, b = (prodI M).toNat := ⟨_, rfl⟩
    have hbi : prodI M = (b : Int) := by omega
    have b2 : 2 ≤ b := by omega
    have b4 : b ≤ 4 := by omega
    rw [← hb] at pw
    have ePl : plainsW M a t = (rowsW b (a + t)).map fun row => ⟨M, row.take a, row.drop a⟩ := by rw [hb]; rfl
    have z3 : 5000 ≤ sizeLine := by rw [sizeLine_eq]; decide
    refine ⟨Nat.zero_le _, fun q0 hq0 => ⟨by show 1 ≤ sizeLine; omega, fun p0 hp0 => ?_⟩⟩
    have s0 : Same H (upd (upd H q0 (.tup [])) p0 (.lst [.ref q0])) := (Same.put hq0).put' hp0
    have hq1 : upd (upd H q0 (.tup [])) p0 (.lst [.ref q0]) q0 = some (.tup []) := (Same.put hp0) _ _ upd_same
    have hP0 : upd (upd H q0 (.tup [])) p0 (.lst [.ref q0]) p0 = some (.lst [.ref q0]) := upd_same
    generalize upd (upd H q0 (.tup [])) p0 (.lst [.ref q0]) = H0 at *
    refine ⟨_, rfl, p, _, (1 : Int), _, rfl, rfl, .inr (s0 _ _ hp), rfl, _, rfl, p, _, (2 : Int), _, rfl, rfl, .inr (s0 _ _ hp), rfl, _, _, rfl, rfl, a + t, rfl, by omega, by omega, ?_⟩
    refine for_range (lo := 0) (n := a + t) (fun i σ H' => Same H H' ∧ ∃ (p1 : Addr) (ys : List V) (u v w x : Option V), σ = [some (.ref p), some (.ref p1), u, v, w, x] ∧ H' p1 = some (.lst ys) ∧ TpsAt H' ys (rowsW b i))
      ⟨s0, p0, _, none, none, none, none, rfl, hP0, .cons ⟨q0, rfl, hq1⟩ .nil⟩ ?_ ?_
    · rintro i σ H' hi ⟨s, p1, ys, u, v, w, x, rfl, hL, pr⟩
      have zy : ys.length = b ^ i := by rw [Paired.length pr, rowsW_len]
      have zb : b ^ (i + 1) ≤ 27 := Nat.le_trans (Nat.pow_le_pow_right (by omega) hi) pw
      refine ⟨Nat.zero_le _, fun l0 hl0 => ?_⟩
      have s1 : Same H' (upd H' l0 (.lst [])) := Same.put hl0
      have hl1 : upd H' l0 (.lst []) l0 = some (.lst []) := upd_same
      generalize upd H' l0 (.lst []) = H1 at *
      have S1 := s.trans s1
      have hL1 := s1 _ _ hL
      have pr1 := pr.same s1
      refine ⟨_, rfl, p1, rfl, ⟨_, SqL.of hL1⟩, for_list (K := K) (a := p1) (xs := ys) (fun j σ H2 => Same H1 H2 ∧ ∃ (l : Addr) (acc : List V) (w x : Option V), σ = [some (.ref p), some (.ref p1), some (.int (0 + (i : Int))), some (.ref l), w, x] ∧ H2 l = some (.lst acc) ∧ TpsAt H2 acc (((rowsW b i).take j).flatMap fun r => (List.range b).map fun (x : Nat) => r ++ [(x : Int)]))
        ⟨Same.refl _, l0, [], w, x, rfl, hl1, .nil⟩ (fun j σ H2 _ z => SqL.of (z.1 _ _ hL1)) ?_ ?_⟩
      · rintro j y σ H2 hy ⟨s2, l, acc, w, x, rfl, hA, pa⟩
        obtain ⟨row, hrow, qr, rfl, hqr⟩ := paired_at pr1 hy
        have S2 := S1.trans s2
        have hj := (List.getElem?_eq_some_iff.mp hrow).1
        have zacc : acc.length ≤ 27 := by
          rw [Paired.length pa]
          exact Nat.le_trans (rows_part b i 0 (by omega) _ (by rw [List.length_take, rowsW_len]; exact Nat.min_le_right _ _)) zb
        refine ⟨_, rfl, _, rfl, p, _, (0 : Int), _, rfl, rfl, .inr (S2 _ _ hp), rfl, m, M, rfl, hm.same S2, pe, ?_⟩
        refine ⟨b, by rw [hbi], by omega, by omega, fun D hD => ?_⟩
        have nlD : l ≠ D := ne_of_none hA hD
        have hDH : H D = none := by
          cases e : H D with
          | none => rfl
          | some o => rw [S2 _ _ e] at hD; cases hD
        have hqr2 := s2 _ _ hqr
        have hrl := (rowsW_each b i row (List.mem_of_getElem? hrow)).1
        refine lc_range (lo := 0) (n := b) (fun c H4 => Same H2 H4 ∧ ∃ acc2, H4 D = some (.lst acc2) ∧ acc2.length = c ∧ TpsAt H4 acc2 ((List.range c).map fun (x : Nat) => row ++ [(x : Int)]))
          ⟨Same.put hD, [], upd_same, rfl, .nil⟩ (fun c H4 hc ⟨s4, acc2, hA4, za, pa4⟩ => ?_) fun H4 ⟨s4, acc2, hA4, za, pa4⟩ => ?_
        · have fin : ∀ (H5 : Hp) (pe : Addr), Same H4 H5 → TpI H5 pe (row ++ [(c : Int)]) → ∃ acc, H5 D = some (.lst acc) ∧ acc.length < sizeLine ∧ Same H2 (upd H5 D (.lst (acc ++ [V.ref pe]))) ∧ ∃ acc2, upd H5 D (.lst (acc ++ [V.ref pe])) D = some (.lst acc2) ∧ acc2.length = c + 1 ∧ TpsAt (upd H5 D (.lst (acc ++ [V.ref pe]))) acc2 ((List.range (c + 1)).map fun (x : Nat) => row ++ [(x : Int)]) := fun H5 pe s5 hpe => by
            have hD5 := s5 _ _ hA4
            refine ⟨acc2, hD5, by omega, (s4.trans s5).set hD, _, upd_same, by rw [List.length_append, za]; rfl, ?_⟩
            rw [List.range_succ, List.map_append]
            refine paired_app ((pa4.same s5).set hD5) (.cons ⟨pe, rfl, ?_⟩ .nil)
            have ne : pe ≠ D := ne_of hpe hD5 (fun z => nomatch z)
            show upd _ D _ pe = _
            rw [upd_ne ne]
            exact hpe
          have hq4 := s4 _ _ hqr2
          refine ⟨rfl, _, rfl, _, rfl, by show 1 ≤ sizeLine; omega, fun p1 hp1 => ⟨qr, p1, IV row, [.int (c : Int)], rfl, rfl, SqT.of ((Same.put hp1) _ _ hq4), SqT.of ?_, ?_, fun e => ?_, fun _ e => (nomatch e), fun ne _ pN hpN => ?_⟩⟩
          · rw [upd_same, Int.zero_add]
          · rw [IV_len, hrl]
            show i + 1 ≤ sizeLine
            omega
          · refine fin _ p1 (Same.put hp1) ?_
            have er : row = [] := List.map_eq_nil_iff.mp e
            rw [er]
            show upd _ p1 _ p1 = _
            rw [upd_same, Int.zero_add]
            rfl
          · refine fin _ pN ((Same.put hp1).put' hpN) ?_
            show upd _ pN _ pN = _
            rw [upd_same, IV_app]
            rfl
        · have hA5 := s4 _ _ hA
          refine ⟨l, D, acc, acc2, rfl, rfl, hA5, hA4, by omega, fun p3 hp3 => ?_⟩
          have s6 := Same.put (o := .lst (acc ++ acc2)) hp3
          refine ⟨s2.trans (s4.trans s6), p3, acc ++ acc2, _, _, rfl, upd_same, ?_⟩
          rw [take_snoc hrow, List.flatMap_append, List.flatMap_cons, List.flatMap_nil, List.append_nil]
          exact paired_app ((pa.same s4).same s6) (pa4.same s6)
      · rintro σ H2 ⟨s2, l, acc, w, x, rfl, hA, pa⟩
        rw [show ys.length = (rowsW b i).length from Paired.length pr, List.take_length] at pa
        exact ⟨_, rfl, S1.trans s2, l, acc, _, _, _, _, rfl, hA, pa⟩
    · rintro σ H' ⟨s, p1, ys, u, v, w, x, rfl, hL, pr⟩
      have zy : ys.length = b ^ (a + t) := by rw [Paired.length pr, rowsW_len]
      have z27 : ys.length ≤ 27 := by omega
      refine ⟨_, rfl, p1, rfl, ⟨_, SqL.of hL⟩, fun D hD => ?_⟩
      refine lc_list (K := K) (a := p1) (xs := ys) (fun j H4 => Same H' H4 ∧ ∃ acc, H4 D = some (.lst acc) ∧ acc.length = j ∧ PlainsOff D H4 acc (((rowsW b (a + t)).take j).map fun row => ⟨M, row.take a, row.drop a⟩))
        ⟨Same.put hD, [], upd_same, rfl, .nil⟩ (fun j H4 _ z => SqL.of (z.1 _ _ hL)) (fun j y H4 hy ⟨s4, acc, hA, za, pa⟩ => ?_) fun H4 ⟨s4, acc, hA, za, pa⟩ => ?_
      · obtain ⟨row, hrow, qr, rfl, hqr⟩ := paired_at pr hy
        have hj := (List.getElem?_eq_some_iff.mp hy).1
        have S4 := s.trans s4
        have hp4 := S4 _ _ hp
        have hq4 := s4 _ _ hqr
        have hm4 := hm.same S4
        refine ⟨rfl, _, rfl, p, _, (0 : Int), _, rfl, rfl, .inr hp4, rfl, ?_⟩
        delta tNoPart
        refine ⟨_, rfl, _, rfl, p, _, (1 : Int), _, rfl, rfl, .inr hp4, rfl, _, rfl, slA_to hq4 fun H5 p5 s5 h5 => ?_⟩
        have mD : m ≠ D := fun z => by
          have := (s.trans (Same.refl H')) _ _ hm
          rw [z, hD] at this
          cases this
        refine ⟨p5, _, rfl, .inr h5, fun pl hpl => ?_⟩
        have plD : pl ≠ D := fun z => by
          have := s5 _ _ hA
          rw [← z, hpl] at this
          cases this
        have s6 : Same H5 (upd H5 pl (.lst ((IV row).take a))) := Same.put hpl
        have h6 : LsI (upd H5 pl (.lst ((IV row).take a))) pl (row.take a) := by
          show upd _ _ _ _ = _
          rw [upd_same, IV_take]
        have S6 := S4.trans (s5.trans s6)
        have hp6 := S6 _ _ hp
        have hq6 := s6 _ _ (s5 _ _ hq4)
        have t6 := s5.trans s6
        generalize upd H5 pl (.lst ((IV row).take a)) = H6 at *
        refine ⟨_, rfl, _, rfl, p, _, (1 : Int), _, rfl, rfl, .inr hp6, rfl, _, rfl, slA_from hq6 fun H7 p7 s7 h7 => ?_⟩
        refine ⟨p7, _, rfl, .inr h7, fun pt hpt => ?_⟩
        have ptD : pt ≠ D := fun z => by
          have := s7 _ _ (t6 _ _ hA)
          rw [← z, hpt] at this
          cases this
        have s8 : Same H7 (upd H7 pt (.lst ((IV row).drop a))) := Same.put hpt
        have h8 : LsI (upd H7 pt (.lst ((IV row).drop a))) pt (row.drop a) := by
          show upd _ _ _ _ = _
          rw [upd_same, IV_drop]
        have t8 := t6.trans (s7.trans s8)
        have h68 := h6.same (s7.trans s8)
        generalize upd H7 pt (.lst ((IV row).drop a)) = H8 at *
        refine ⟨by show 3 ≤ sizeLine; omega, fun pe hpe => ?_⟩
        have s9 : Same H8 (upd H8 pe (.tup [.ref m, .ref pl, .ref pt])) := Same.put hpe
        have t9 := t8.trans s9
        have hA9 := t9 _ _ hA
        have hPl : PlainOff D (upd H8 pe (.tup [.ref m, .ref pl, .ref pt])) pe ⟨M, row.take a, row.drop a⟩ := ⟨m, pl, pt, upd_same, (hm4.same t8).same s9, h68.same s9, h8.same s9, mD, plD, ptD⟩
        have pa9 := pa.same t9
        generalize upd H8 pe (.tup [.ref m, .ref pl, .ref pt]) = H9 at *
        refine ⟨acc, hA9, by omega, (s4.trans t9).set hD, _, upd_same, by rw [List.length_append, za]; rfl, ?_⟩
        rw [take_snoc hrow, List.map_append]
        exact PlainsOff.set (paired_app pa9 (.cons ⟨pe, rfl, hPl⟩ .nil)) hA9
      · rw [show ys.length = (rowsW b (a + t)).length from Paired.length pr, List.take_length] at pa
        refine k H4 D acc (s.trans s4) hA ?_
        rw [ePl]
        exact pa.on
end
end K70
-- K70L10
namespace K70
open L2 PySem PySem.Spec PyProof.Rows StX
theorem hu65 {k : Nat} {A : Around} (hr : Room k A) : A.units + 65 < cLine := by
  have := hr.un
  omega
theorem lc_rangeG {n : Nat} {g : TG} {te : TE} {vs : List Nat} {σ : L2.St} {H1k : Hp} {D : Addr} {Qd : Hp → Prop} (y : Nat → V) (hD : H1k D = none) (hz : n ≤ sizeLine)
    (hs : ∀ i H, i < n → Same H1k H → ∀ Qk : V → Hp → Prop, (∀ H4, Same H H4 → Qk (y i) H4) → g (.int (0 + (i : Int))) (wipe σ vs) H fun σ2 H2 => wipe σ2 vs = wipe σ vs ∧ te σ2 H2 Qk)
    (hd : ∀ H, Same H1k H → H D = some (.lst ((List.range n).map y)) → Qd H) :
    ∃ W : Nat → Nat → Hp → Prop, (∃ m, W 0 m (upd H1k D (.lst []))) ∧ ∀ i m H, W i m H →
      ((Itr 0 n).stop i H ∧ Qd H) ∨ ((Itr 0 n).go i H ∧ ∃ Nx : Hp → Prop, (∀ H', Nx H' → ∃ m', m' < m ∧ W (i + 1) m' H') ∧ ∀ x H', (Itr 0 n).yld i H x H' → g x (wipe σ vs) H' fun σ2 H2 => wipe σ2 vs = wipe σ vs ∧ tYes σ2 H2 fun b H3k =>
        if b = true then te σ2 H3k fun y H4 => ∃ acc, H4 D = some (.lst acc) ∧ acc.length < sizeLine ∧ Nx (upd H4 D (.lst (acc ++ [y]))) else Nx H3k) := by
  refine lc_range (lo := 0) (n := n) (fun i H => Same H1k H ∧ H D = some (.lst ((List.range i).map y))) ⟨Same.put hD, upd_same⟩ (fun i H hi p => ?_) fun H p => hd H p.1 p.2
  obtain ⟨s, e⟩ := p
  exact hs i H hi s (fun y0 H4 => ∃ acc, H4 D = some (.lst acc) ∧ acc.length < sizeLine ∧ (Same H1k (upd H4 D (.lst (acc ++ [y0]))) ∧ (upd H4 D (.lst (acc ++ [y0]))) D = some (.lst ((List.range (i + 1)).map y))))
    fun H4 s4 => ⟨_, s4 _ _ e, by rw [List.length_map, List.length_range]; omega, Same.set (s.trans s4) hD, by rw [upd_same, List.range_succ, List.map_append] <;> rfl⟩
def w24 (P : PR) : List Int := (List.range 24).map (wtR P)
def addU (acc : List PR) (P : PR) : List PR := if (acc.map w24).any (fun z => decide (z = w24 P)) = true then acc else acc ++ [P]
def unlikeP (Ps : List PR) : List PR := Ps.foldl addU []
def lsD (ls : List (List Int)) : List PyData := ls.map fun l => PyData.list (l.map PyData.int)
def LsOff (n m : Addr) (H : Hp) (xs : List V) (ls : List (List Int)) : Prop := Paired (fun x (l : List Int) => ∃ p, x = V.ref p ∧ LsI H p l ∧ p ≠ n ∧ p ≠ m) xs ls
theorem LsOff.same {n m : Addr} {H H' : Hp} {xs : List V} {ls : List (List Int)} (h : LsOff n m H xs ls) (s : Same H H') : LsOff n m H' xs ls := Paired.mapP h fun _ _ ⟨p, e, h1, h2⟩ => ⟨p, e, h1.same s, h2⟩
theorem LsOff.n {n m : Addr} {H : Hp} {o : HO} {xs : List V} {ls : List (List Int)} (h : LsOff n m H xs ls) : LsOff n m (upd H n o) xs ls := Paired.mapP h fun _ _ ⟨p, e, h1, h2⟩ => ⟨p, e, (upd_ne h2.1).trans h1, h2⟩
theorem LsOff.m {n m : Addr} {H : Hp} {o : HO} {xs : List V} {ls : List (List Int)} (h : LsOff n m H xs ls) : LsOff n m (upd H m o) xs ls := Paired.mapP h fun _ _ ⟨p, e, h1, h2⟩ => ⟨p, e, (upd_ne h2.2).trans h1, h2⟩
theorem LsOff.dp {K : PySem.W.Frag} {n m : Addr} {H : Hp} : ∀ {xs : List V} {ls : List (List Int)}, LsOff n m H xs ls → DpAll K H xs (lsD ls)
  | _, _, .nil => .nil
  | _, _, .cons ⟨_, e, h, _⟩ t => by
    subst e
    exact .cons (Dp_lsI h) (LsOff.dp t)
theorem shaped_lists (ls : List (List Int)) : SeqAt.shaped (.list (lsD ls)) = true := by
  have one : ∀ l : List Int, (PyData.list (l.map PyData.int)).canLay0 = true ∧ (PyData.list (l.map PyData.int)).depth ≤ 1 := fun l => by
    have h := shaped_tup l
    unfold SeqAt.shaped at h
    have h := Bool.and_eq_true_iff.mp h
    exact ⟨h.1, Nat.le_of_eq (depth_tup l)⟩
  have c : ∀ ls : List (List Int), PyData.canLayAll0 (lsD ls) = true ∧ PyData.depthAll (lsD ls) ≤ 1 := fun ls => by
    induction ls with
    | nil => exact ⟨rfl, Nat.zero_le _⟩
    | cons l r ih =>
      obtain ⟨h1, h2⟩ := one l
      refine ⟨?_, ?_⟩
      · show (PyData.canLay0 _ && PyData.canLayAll0 (lsD r)) = true
        rw [h1, ih.1]
        rfl
      · show max (PyData.depth _) (PyData.depthAll (lsD r)) ≤ 1
        exact Nat.max_le.mpr ⟨h2, ih.2⟩
  unfold SeqAt.shaped
  refine Bool.and_eq_true_iff.mpr ⟨(c ls).1, decide_eq_true ?_⟩
  show PyData.depthAll (lsD ls) + 1 ≤ 64
  have := (c ls).2
  omega
theorem any_lists (ls : List (List Int)) (w : List Int) : ((lsD ls).any fun z => PyData.eqv z (.list (w.map PyData.int))) = ls.any fun z => decide (z = w) := by
  induction ls with
  | nil => rfl
  | cons l r ih =>
    show (PyData.eqv (.list (l.map PyData.int)) (.list (w.map PyData.int)) || (lsD r).any _) = (decide (l = w) || r.any _)
    rw [eqv_ints, ih]
section
variable {K : PySem.W.Frag} {mg : Str → Option Value} {base : Heap} {P : Program} {w : World}
def sp__law_unlike : Sp := fun vs H Q _ => ∃ (L : Addr) (ys : List V) (Ps : List PR), vs = [.ref L] ∧ H L = some (.lst ys) ∧ PlainsIn H ys Ps ∧ (∀ P ∈ Ps, P.t ≠ []) ∧ Ps.length ≤ 1000 ∧
  ∀ H' n ys', Same H H' → H' n = some (.lst ys') → PlainsIn H' ys' (unlikeP Ps) → Q (.ref n) H'
theorem sc__law_unlike : FnScope ["_law_plains_here", "_law_found", "_law_seen", "_law_plain_here", "_law_weights", "_law_place"] ["_law_plains_here"] (defScope s_law_unlike) := ⟨rfl, rfl, rfl, by decide +kernel, rfl, by decide +kernel, by decide +kernel⟩
theorem ok__law_unlike (T : Tx K mg) : Fnc P w K mg base 2 "_law_unlike" (He.ga K "_law_unlike") ["_law_plains_here"] sp__law_unlike := by
  have c__law_weight := ok__law_weight (P := P) (w := w) (base := base) T
  refine fnc_of T.f_law_unlike T.g__law_unlike sc__law_unlike (fun _ _ _ _ _ _ us hl => match us, hl with | [_], _ => rfl) (fun vs H Q E h => ?_) (fun cdv A outer s H vs Q E hr h => ?_)
  · obtain ⟨L, ys, Ps, rfl, _⟩ := h
    rfl
  · obtain ⟨L, ys, Ps, rfl, hL, hP, nt, zl, k⟩ := h
    refine ⟨_, (pss_cons (ps_par (i := 1) (j := 2) (by rfl) sc__law_unlike.nd rfl rfl (by decide) rfl rfl (pa_cons (pe_lst pa_nil) (pa_cons (pe_lst pa_nil) pa_nil)) (by rfl))
      (pss_cons (ps_for PassesOwn.never rfl (pi_list (pv 0)) (pg_name (i := 3) sc__law_unlike.nd rfl (Or.inr rfl))
        (pss_cons (ps_setLc (i := 4) (own := [("_law_place", 5)]) (g := gName 5) (tt := tYes) (by rfl) sc__law_unlike.nd rfl rfl (sw_true rfl rfl rfl (by decide +kernel)) (pi_range1 (by rfl) T.b_range (pa_cons pe_int pa_nil)) (blkOk_by (N := ["_law_plains_here", "_law_found", "_law_seen", "_law_plain_here", "_law_weights", "_law_place"]) (sc := defScope s_law_unlike) (by decide +kernel)) (fun _ _ _ _ _ => (pg_name (i := 5) sc__law_unlike.nd rfl (Or.inl rfl))) (fun _ _ _ _ _ => pts_nil) (fun _ _ _ _ _ => (pe_f c__law_weight (hr.mono (by decide)) (pa_cons (pv 3) (pa_cons (pv 5) pa_nil)))))
      (pss_one (ps_if (pt_cmpR (op_notInD (hu65 hr)) (pv 4) (pv 2) rfl) (pss_cons (ps_expr (pe_bm PySem.F.plainAttrs_list PySem.F.slot_list_append PySem.F.type_list_append mt_append (pv 1) (pa_cons (pv 3) pa_nil)))
      (pss_one (ps_expr (pe_bm PySem.F.plainAttrs_list PySem.F.slot_list_append PySem.F.type_list_append mt_append (pv 2) (pa_cons (pv 4) pa_nil))))) pss_nil))))
      (pss_one (ps_ret (pv 1))))), ?_⟩
    refine ⟨Nat.zero_le _, fun n hn => ⟨Nat.zero_le _, fun m hm => ⟨_, _, rfl, ?_⟩⟩⟩
    have s0 : Same H (upd (upd H n (.lst [])) m (.lst [])) := (Same.put hn).put' hm
    have hnm : n ≠ m := fun z => by rw [z, upd_same] at hm; cases hm
    have hmH : H m = none := by rw [upd_ne hnm.symm] at hm; exact hm
    have lens : ys.length = Ps.length := Paired.length hP
    refine ⟨_, rfl, L, rfl, ⟨_, SqL.of (s0 _ _ hL)⟩, for_list (K := K) (a := L) (xs := ys) (fun i σ H' => Same H H' ∧ ∃ (ys' xs : List V) (u v w : Option V), σ = [some (.ref L), some (.ref n), some (.ref m), u, v, w] ∧
        H' n = some (.lst ys') ∧ H' m = some (.lst xs) ∧ PlainsIn H ys' ((Ps.take i).foldl addU []) ∧ LsOff n m H' xs (((Ps.take i).foldl addU []).map w24) ∧ ((Ps.take i).foldl addU []).length ≤ i)
      ⟨s0, [], [], none, none, none, rfl, by rw [upd_ne hnm]; exact upd_same, upd_same, .nil, .nil, Nat.le_refl _⟩ (fun i σ H' _ z => SqL.of (z.1 _ _ hL)) ?_ ?_⟩
    · rintro i x σ H' hx ⟨s1, ys', xs, u, v, w, rfl, hN, hM, pP, pL, zi⟩
      obtain ⟨P, hPi, q, rfl, hq⟩ := paired_at hP hx
      have hi := (List.getElem?_eq_some_iff.mp hPi).1
      have ntP := nt P (List.mem_of_getElem? hPi)
      have step : (Ps.take (i + 1)).foldl addU [] = addU ((Ps.take i).foldl addU []) P := by rw [take_snoc hPi, List.foldl_append]; rfl
      generalize (Ps.take i).foldl addU [] = acc at *
      refine ⟨24, rfl, by decide, by decide, fun D hD => lc_rangeG (n := 24) (fun i => V.int (wtR P i)) hD (by rw [sizeLine_eq]; decide) (fun j H2 hj s2 Qk kk => ?_) fun H2 s2 e2 => ?_⟩
      · refine ⟨rfl, _, rfl, _, rfl, q, P, j, ?_, hq.same (s1.trans s2), ntP, kk H2 (Same.refl _)⟩
        rw [Int.zero_add]
        rfl
      · have e2 : LsI H2 D (w24 P) := by
          show H2 D = _
          rw [e2]
          show _ = some (HO.lst (((List.range 24).map (wtR P)).map V.int))
          rw [List.map_map]
          rfl
        have S2 := s1.trans s2
        have hN2 := s2 _ _ hN
        have hM2 := s2 _ _ hM
        have pL2 := pL.same s2
        refine ⟨_, rfl, _, rfl, .list ((w24 P).map PyData.int), lsD (acc.map w24), Dp_lsI e2, .lst (SqL.of hM2) pL2.dp, shaped_ints _, shaped_lists _, _, rfl, ?_⟩
        rw [any_lists]
        have Dn : D ≠ n := fun z => by rw [z, hN] at hD; cases hD
        have Dm : D ≠ m := fun z => by rw [z, hM] at hD; cases hD
        have zy : ys'.length = acc.length := Paired.length pP
        have zx : xs.length = acc.length := by rw [Paired.length pL, List.length_map]
        by_cases c : (acc.map w24).any (fun z => decide (z = w24 P)) = true
        · refine nbT c ?_
          have e : addU acc P = acc := if_pos c
          refine ⟨S2, ys', xs, _, _, _, rfl, hN2, hM2, ?_, ?_, ?_⟩
          · rw [step, e]; exact pP
          · rw [step, e]; exact pL2
          · rw [step, e]; omega
        · refine nbF (Bool.eq_false_iff.mpr c) ?_
          have e : addU acc P = acc ++ [P] := if_neg c
          refine ⟨_, rfl, .inl ⟨rfl, _, SqL.of hN2⟩, _, rfl, n, ys', _, rfl, rfl, hN2, by rw [sizeLine_eq]; omega, ?_⟩
          have hM3 : upd H2 n (.lst (ys' ++ [V.ref q])) m = some (.lst xs) := (upd_ne hnm.symm).trans hM2
          refine ⟨_, rfl, .inl ⟨rfl, _, SqL.of hM3⟩, _, rfl, m, xs, _, rfl, rfl, hM3, by rw [sizeLine_eq]; omega, ?_⟩
          · refine ⟨(S2.set hn).set hmH, ys' ++ [V.ref q], xs ++ [V.ref D], _, _, _, rfl, ?_, upd_same, ?_, ?_, ?_⟩
            · rw [upd_ne hnm]; exact upd_same
            · rw [step, e]
              exact paired_app pP (.cons ⟨q, rfl, hq⟩ .nil)
            · rw [step, e, List.map_append]
              exact paired_app pL2.n.m (.cons ⟨D, rfl, (upd_ne Dm).trans ((upd_ne Dn).trans e2), Dn, Dm⟩ .nil)
            · rw [step, e, List.length_append]
              exact Nat.succ_le_succ zi
    · rintro σ H' ⟨s1, ys', xs, u, v, w, rfl, hN, hM, pP, pL, zi⟩
      rw [lens, List.take_length] at pP
      exact ⟨_, rfl, k H' n ys' s1 hN (pP.same s1)⟩
end
end K70
-- K70Eq
/-! == and != by an own __eq__ that answers True or False; in; lists of such -/
namespace K70
open L2 PySem PySem.Spec PyProof.Rows
/-- what == answers, by the abstract heap -/
abbrev EqD := V → V → Bool → Hp → Prop
def RcB (X : Cx) (n : Nat) (D : EqD) : Prop :=
  ∀ (A : Around) (pins : List (Addr × Obj)) (s : Shared) (σ : L2.St) (H : Hp) (x y : V) (b : Bool) (u v : Value), Sub X n A → Inv X pins σ H s → RelV x u → RelV y v → D x y b H →
    wpAny (model X.prog X.w) A (richCompare .Eq u v) (fun r s' => r = .bool b ∧ ∃ H', Inv X pins σ H' s' ∧ Same H H') X.xe s
def EqB (X : Cx) (n : Nat) (D : EqD) : Prop :=
  ∀ (A : Around) (pins : List (Addr × Obj)) (s : Shared) (σ : L2.St) (H : Hp) (x y : V) (b : Bool) (u v : Value), Sub X n A → Inv X pins σ H s → RelV x u → RelV y v → D x y b H →
    wpAny (model X.prog X.w) A (eqBool u v) (fun r s' => r = b ∧ ∃ H', Inv X pins σ H' s' ∧ Same H H') X.xe s
def RcN (X : Cx) (n : Nat) (D : EqD) : Prop :=
  ∀ (A : Around) (pins : List (Addr × Obj)) (s : Shared) (σ : L2.St) (H : Hp) (x y : V) (b : Bool) (u v : Value), Sub X n A → Inv X pins σ H s → RelV x u → RelV y v → D x y b H →
    wpAny (model X.prog X.w) A (richCompare .NotEq u v) (fun r s' => r = .bool (!b) ∧ ∃ H', Inv X pins σ H' s' ∧ Same H H') X.xe s
/-- two instances of the class at C, by what its own == says -/
def DOwn (C : Addr) (sp : Sp) : EqD := fun x y b H => ∃ a c dx dy fs gs, x = .ref a ∧ y = .ref c ∧ H a = some (.ins C dx fs) ∧ H c = some (.ins C dy gs) ∧ ∀ Q : VK, (∀ H', Same H H' → Q (.bl b) H') → sp [.ref a, .ref c] H Q E0
section
variable {X : Cx} {n : Nat} {C f : Addr} {sp : Sp}
theorem rcB_own (Mt : Meth X.K C "__eq__" f) (F : FnR X.prog X.w X.K X.mg X.base CX0 n f sp) : RcB X n (DOwn C sp) := by
  intro A pins s σ H x y b u v sb Ik rxk ry d
  obtain ⟨a, c, dx, dy, fs, gs, rfl, rfl, ha, hc, hsp⟩ := d
  obtain rfl : u = Value.ref a := rxk
  obtain rfl : v = Value.ref c := ry
  obtain ⟨mA, J, _⟩ := ins_get Ik.hok ha
  obtain ⟨mB, J'k, _⟩ := ins_get Ik.hok hc
  obtain ⟨od, J, _⟩ := J.look
  obtain ⟨od', J'k, _⟩ := J'k.look
  obtain ⟨m, hF⟩ := Ik.fr
  refine PySem.W.cmp_K (op := .Eq) (tb := .ref C) sb.room.units0 hF Ik.ok.mod.kin J J'k.type (by simp [PySem.W.notFirst]) Mt.at_ Mt.fn ?_
  refine own_run (us := [.ref a, .ref c]) (vs := [.ref a, .ref c]) (Q' := fun v H' => v = .bl b ∧ Same H H') sb F Ik (.cons rfl (.cons rfl .nil)) (hsp _ fun H' s' => ⟨rfl, s'⟩) fun w z s' H' I' rz q => ?_
  obtain ⟨rfl, sm⟩ := q
  obtain rfl : w = Value.bool b := rz
  exact ⟨rfl, H', I', sm⟩
/-- inside a container: the same object is equal to itself -/
theorem RcB.eqB {D : EqD} (h : RcB X n D) (hr : ∀ x y b H, D x y b H → ∃ a c, x = .ref a ∧ y = .ref c ∧ (a = c → b = true)) : EqB X n D := by
  intro A pins s σ H x y b u v sb I rxk ry d
  obtain ⟨a, c, rfl, rfl, hsame⟩ := hr _ _ _ _ d
  obtain rfl : u = Value.ref a := rxk
  obtain rfl : v = Value.ref c := ry
  by_cases hab : a = c
  · rw [hsame hab]
    subst hab
    exact SeqAt.EqAt.same (A := A) (s := s) (.ref a) X.prog X.w X.xe _ ⟨rfl, H, I, Same.refl _⟩
  · refine GQ.eqBool_refG hab (wpAny_mono (h A pins s σ H (.ref a) (.ref c) b _ _ sb I rfl rfl d) (fun r s' q => ?_) fun _ _ x => x)
    obtain ⟨hr', q⟩ := q
    exact ⟨b, hr', rfl, q⟩
/-- the expression x == y -/
def rEqB (D : EqD) : R2 := fun x y H Q => ∃ b, D x y b H ∧ ∀ H', Same H H' → Q (.bl b) H'
def rNeB (D : EqD) : R2 := fun x y H Q => ∃ b, D x y b H ∧ ∀ H', Same H H' → Q (.bl (!b)) H'
theorem op_eqB {D : EqD} (h : RcB X n D) (hr : Room n X.A) : OpR X (compareOp .Eq) (rEqB D) := by
  intro pins s σk H x y v u Q I rx ry hq
  obtain ⟨b, d, q⟩ := hq
  show wpAny (model X.prog X.w) X.A (richCompare .Eq v u) (EP X pins σk Q) X.xe s
  refine wpAny_mono (h X.A pins s σk H x y b v u ⟨hr, rfl⟩ I rx ry d) (fun r s' z => ?_) fun _ _ x => x
  obtain ⟨hr', H', I', e⟩ := z
  subst hr'
  exact ⟨.bl b, H', I', rfl, q H' e⟩
theorem op_neB {D : EqD} (h : RcN X n D) (hr : Room n X.A) : OpR X (compareOp .NotEq) (rNeB D) := by
  intro pins s σ H x y v u Q Ik rx ry hq
  obtain ⟨b, d, q⟩ := hq
  show wpAny (model X.prog X.w) X.A (richCompare .NotEq v u) (EP X pins σ Q) X.xe s
  refine wpAny_mono (h X.A pins s σ H x y b v u ⟨hr, rfl⟩ Ik rx ry d) (fun r s' z => ?_) fun _ _ x => x
  obtain ⟨hr', H', I', e⟩ := z
  subst hr'
  exact ⟨.bl (!b), H', I', rfl, q H' e⟩
end
/-! ### != by object.__ne__ -/
section
variable {M : Model} {prog : Program} {w : World} {A : Around} {E : Value → Shared → Prop} {s : Shared} {K : PySem.W.Frag} {x C f : Addr} {ox : Obj} {od : Option Obj}
theorem bound_objNe {args : List Value} {Q : Option Value → Shared → Prop} (X : K.In s.heap) (Ik : PySem.W.InstAt s.heap x ox C od) (hs : PySem.W.findIn K (.ref C) "__ne__" = some (some (.builtin "object.__ne__")))
    (h : wpAny M A (call (.builtin "object.__ne__") (.ref x :: args)) (fun v => Q (some v)) E s) : wpAny M A (callSpecialIfBound? (.ref x) "__ne__" args) Q E s := by
  (simp only [callSpecialIfBound?, bindSpecialIfBound?])
  refine wpAny_holding (wpAny_bind (wpAny_bind (wpAny_bind (Ik.type.here ((PySem.W.looks_findIn X hs).here ?_)))))
  (refine wpAny_bind (wpAny_askSetting (wpAny_ite ?_)))
  have last : wpAny M A (call (.builtin "object.__ne__") ([.ref x] ++ args) >>= fun v => pure (some v)) Q E s := wpAny_bind (wpAny_mono h (fun v s' q => wpAny_pure q) fun _ _ q => q)
  split
  · exact wpAny_bind (wpAny_of_eq (F.cmp_object.ne.bind _) (wpAny_pure (by exact last)))
  · exact wpAny_tryCatch (wpAny_bind (wpAny_of_eq (F.cmp_object.ne.bind _) (wpAny_pure (by exact last))))
theorem entry_ne {y : Value} {Q : Fin → Shared → Prop} (huk : A.units < cLine) (X : K.In s.heap) (I : PySem.W.InstAt s.heap x ox C od) (hs : PySem.W.findIn K (.ref C) "__eq__" = some (some (.ref f))) (hf : PySem.W.isFn K (.ref f) = true)
    (h : wpAny M A (call (.ref f) [.ref x, y]) (fun v s' => ∃ b, v = .bool b ∧ Q (.done (.ret (.bool (!b)))) s') E s) : wpAny M A (Builtin.«object.__ne__» ⟨[.ref x, y], []⟩) Q E s := by
  (unfold Builtin.«object.__ne__»)
  repeat (first
    | with_reducible refine wpAny_cRoomFor huk ?_
    | (refine wpAny_bind (m := callSpecialIfBound? (.ref x) (Str.ofString "__eq__") [y]) (PySem.W.ifBound_K X I hs hf (wpAny_mono h (fun r s' hr => by
          obtain ⟨b, rfl, hqk⟩ := hr
          repeat (first | exact hqk | exact wpAny_pure hqk | exact wpAny_truthy_bool hqk | (refine wpAny_bind (m := truthy (.bool _)) (wpAny_truthy_bool ?_)) | wp_step)) fun _ _ e => e)))
    | wp_step)
theorem ne_K {y : Value} {tb : Value} {Q : Value → Shared → Prop} (hu : A.units + 1 < cLine) (X : K.In s.heap) (Ik : PySem.W.InstAt s.heap x ox C od) (hb : PySem.W.Looks (model prog w) s.heap (typeOf y) (.ref C)) (hm : PySem.W.mroIn K C (.type "object") = some true)
    (hs : PySem.W.findIn K (.ref C) "__eq__" = some (some (.ref f))) (hf : PySem.W.isFn K (.ref f) = true) (hn : PySem.W.findIn K (.ref C) "__ne__" = some (some (.builtin "object.__ne__")))
    (h : wpAny (model prog w) A.in1 (call (.ref f) [.ref x, y]) (fun v s' => ∃ b, v = .bool b ∧ Q (.bool (!b)) s') E s) : wpAny (model prog w) A (richCompare .NotEq (.ref x) y) Q E s := by
  have onek : wpAny (model prog w) A (tryCompare (.ref x) (cmpInfo .NotEq).2.1 y) (fun r s' => ∃ v, r = some v ∧ Q v s') E s := by
    unfold tryCompare
    refine wpAny_bind (bound_objNe X Ik hn ?_)
    refine wpAny_call (codeAny_call_builtin F.cmp_object.ne.plain F.cmpEntry_ne (PySem.W.check_slot F.cmpKind_ne F.cmpSplit_ne (Ik.type.andThen (PySem.W.looks_mroIn X hm)) (F.cmpArgs_ne _ _) (entry_ne (A := A.in1) hu X Ik hs hf (wpAny_mono h (fun v s' z => ?_) fun _ _ z => z))))
    obtain ⟨b, rfl, q⟩ := z
    first | exact ⟨b, rfl, wpAny_pure ⟨_, rfl, q⟩⟩ | exact ⟨b, rfl, ⟨_, rfl, q⟩⟩ | exact ⟨b, rfl, wpAny_pure (wpAny_pure ⟨_, rfl, q⟩)⟩
  unfold richCompare
  simp only [oneThing_ref]
  refine wpAny_holding (wpAny_bind (wpAny_cRoomFor (Nat.lt_of_succ_lt hu) ?_))
  refine wpAny_bind (Ik.type.here (wpAny_bind (hb.here ?_)))
  (rw [show (Value.ref C != Value.ref C) = false from by simp])
  (simp only [Bool.false_eq_true, if_false])
  (refine wpAny_bind (wpAny_pure ?_))
  (simp only [Bool.false_eq_true, if_false])
  refine wpAny_bind (wpAny_mono onek (fun r s' z => ?_) fun _ _ e => e)
  obtain ⟨v, rfl, q⟩ := z
  first | exact wpAny_pure q | exact wpAny_pure (wpAny_pure q)
end
section
variable {X : Cx} {n : Nat} {C f : Addr} {sp : Sp}
theorem rcN_own (Mt : Meth X.K C "__eq__" f) (F : FnR X.prog X.w X.K X.mg X.base CX0 n f sp) (hm : PySem.W.mroIn X.K C (.type "object") = some true) (hn : PySem.W.findIn X.K (.ref C) "__ne__" = some (some (.builtin "object.__ne__"))) : RcN X (n + 1) (DOwn C sp) := by
  intro A pins s σ H x y b u v sb Ik rxk ry d
  obtain ⟨a, c, dx, dy, fs, gs, rfl, rfl, ha, hc, hsp⟩ := d
  obtain rfl : u = Value.ref a := rxk
  obtain rfl : v = Value.ref c := ry
  obtain ⟨mA, J, _⟩ := ins_get Ik.hok ha
  obtain ⟨mB, J'k, _⟩ := ins_get Ik.hok hc
  obtain ⟨od, J, _⟩ := J.look
  obtain ⟨od', J'k, _⟩ := J'k.look
  refine ne_K (tb := .ref C) sb.in1.room.units0 Ik.kIn J J'k.type hm Mt.at_ Mt.fn hn ?_
  refine own_run (us := [.ref a, .ref c]) (vs := [.ref a, .ref c]) (Q' := fun v H' => v = .bl b ∧ Same H H') sb.in1 F Ik (.cons rfl (.cons rfl .nil)) (hsp _ fun H' s' => ⟨rfl, s'⟩) fun w z s' H' I' rz q => ?_
  obtain ⟨rfl, sm⟩ := q
  obtain rfl : w = Value.bool b := rz
  exact ⟨b, rfl, rfl, H', I', sm⟩
end
end K70
-- K70Eq2
/-! == of data with a dict among it; entries of a log as data -/
namespace K70
open L2 PySem PySem.Spec PyProof.Rows PySem.SeqAt PySem.Builtin
def entsD (es : List Ent) : List PyData := es.map fun e => PyData.tuple [PyData.int (e.1 : Int), PyData.int (e.2.1 : Int), PyData.bool e.2.2]
theorem Dp_ents {K : PySem.W.Frag} {H : Hp} : ∀ {ys : List V} {es : List Ent}, EntsAt H ys es → DpAll K H ys (entsD es)
  | _, _, .nil => .nil
  | _, _, .cons ⟨_, e, h⟩ t => by
    subst e
    exact .cons (.tup (SqT.of h) (.cons (.int _) (.cons (.int _) (.cons (.bl _) .nil)))) (Dp_ents t)
theorem ents_lay (es : List Ent) : PyData.canLayAll0 (entsD es) = true ∧ PyData.depthAll (entsD es) ≤ 1 := by
  induction es with
  | nil => exact ⟨rfl, Nat.zero_le _⟩
  | cons e r ih => exact ⟨ih.1, Nat.max_le.mpr ⟨Nat.le_refl _, ih.2⟩⟩
theorem shaped_entsL (es : List Ent) : SeqAt.shaped (.list (entsD es)) = true := by
  unfold SeqAt.shaped
  refine Bool.and_eq_true_iff.mpr ⟨(ents_lay es).1, decide_eq_true ?_⟩
  show PyData.depthAll (entsD es) + 1 ≤ 64
  have := (ents_lay es).2
  omega
theorem shaped_entsT (es : List Ent) : SeqAt.shaped (.tuple (entsD es)) = true := by
  unfold SeqAt.shaped
  refine Bool.and_eq_true_iff.mpr ⟨(ents_lay es).1, decide_eq_true ?_⟩
  show PyData.depthAll (entsD es) + 1 ≤ 64
  have := (ents_lay es).2
  omega
theorem eqv_shaped {d : PyData} (h : SeqAt.shaped d = true) : PyData.eqv d d = true := PySem.SeqAt.eqv_refl d (SeqAt.canLay_of_shaped h)
/-! ### a text and a dict -/
theorem dict_eq_str (d : Addr) (es : Array DictEntry) (n : Nat) (x : Str) (t : Tok) :
    Meets (Builtin.«dict.__eq__» ⟨[.ref d, .str x t], []⟩) (fun _ R s => (∃ o, s.heap.get? d = some o ∧ o.cls = .type "dict" ∧ o.data = .dict es n) ∧ R (.ok (.ret .notImplemented)) s) :=
  .of_wp fun prog w A R s hy => by
    obtain ⟨hp, g, drk, tk, os⟩ := s
    obtain ⟨⟨⟨c, dd, da, sl⟩, ho, hc, hd⟩, h⟩ := hy
    simp only at hc hd
    subst hc hd
    have f1 := PySem.F.sub_str_dict
    wp_walk using wpAny_loadPart' ho, wpAny_load ho
    exact ⟨_, rfl, h⟩
theorem str_eq_dict (d : Addr) (es : Array DictEntry) (n : Nat) (x : Str) (t : Tok) :
    Meets (Builtin.«str.__eq__» ⟨[.str x t, .ref d], []⟩) (fun _ R s => (∃ o, s.heap.get? d = some o ∧ o.cls = .type "dict" ∧ o.data = .dict es n) ∧ R (.ok (.ret .notImplemented)) s) :=
  .of_wp fun prog w A R s hy => by
    obtain ⟨hp, g, drk, tk, os⟩ := s
    obtain ⟨⟨⟨c, dd, da, sl⟩, ho, hc, hd⟩, h⟩ := hy
    simp only at hc hd
    subst hc hd
    wp_walk using wpAny_loadPart' ho, wpAny_load ho
    exact ⟨_, rfl, h⟩
theorem rc_str_dict {A : Around} {s : Shared} {d : Addr} {es : Array DictEntry} {n : Nat} (x : Str) (t : Tok) (hu : A.units < cLine) (h0 : ∃ o, s.heap.get? d = some o ∧ o.cls = .type "dict" ∧ o.data = .dict es n) : RcAt A s (.str x t) (.ref d) false := fun prog w E Q h =>
  rc_eq_decline_or (k := false) (typeIs_str s x t) (let ⟨o, h1, h2, _⟩ := h0; ⟨o, h1, h2⟩) (by decide) PySem.F.sub_dict_str PySem.F.slot_str_eq PySem.F.slot_dict_eq_refl
    (fun _ hq => call_meets PySem.F.slot_str_eq (typeIs_str s x t) PySem.F.entry_str_eq (PySem.F.args_str_eq_2 _ _) (str_eq_dict d es n x t) ⟨h0, hq⟩)
    (fun _ hq => call_meets PySem.F.slot_dict_eq_refl (let ⟨o, h1, h2, _⟩ := h0; ⟨o, h1, h2⟩) PySem.F.entry_dict_eq (PySem.F.args_dict_eq_2 _ _) (dict_eq_str d es n x t) ⟨h0, hq⟩)
    (fun _ hq => wpAny_of_eq (rfl : isSame (.str x t) (.ref d) = pure false) hq) (.inr hu) h
section
variable {X : Cx}
def rStrDict : R2 := fun x y H Q => ∃ z d kvs, x = .str z ∧ y = .ref d ∧ H d = some (.dK kvs) ∧ Q (.bl false) H
theorem op_eqStrDict (hu : X.A.units < cLine) : OpR X (compareOp .Eq) rStrDict := by
  intro pins s σ H x y v u Q Ik rx ry h
  obtain ⟨z, d, kvs, rfl, rfl, hd, q⟩ := h
  obtain ⟨t, rfl⟩ := (show ∃ t, v = Value.str z t from rx)
  obtain rfl : u = Value.ref d := ry
  obtain ⟨_, _, vs, _, dd⟩ := dk_of Ik.hok hd
  obtain ⟨o, es, n, h1, h2, h3, _⟩ := dd
  exact rc_str_dict z t hu ⟨o, h1, h2.1, h3⟩ X.prog X.w X.xe _ ⟨.bl false, H, Ik, rfl, q⟩
theorem op_orR {op : Value → Value → Sem Value} {r1 r2 : R2} (h1 : OpR X op r1) (h2 : OpR X op r2) : OpR X op (fun x y H Q => r1 x y H Q ∨ r2 x y H Q) := by
  intro pins s σ H x y v u Q Ik rx ry h
  rcases h with h | h
  · exact h1 pins s σ H x y v u Q Ik rx ry h
  · exact h2 pins s σ H x y v u Q Ik rx ry h
end
end K70
-- K70Repr
/-! repr([x, y]) of data, a dict of one entry among it -/
namespace K70
open L2 PySem PySem.Spec PyProof.Rows PySem.SeqAt
theorem Dp_same {K : PySem.W.Frag} {H H' : Hp} (s : Same H H') {v : V} {d : PyData} (h : Dp K H v d) : Dp K H' v d :=
  Dp.rec (motive_1 := fun v d _ => Dp K H' v d) (motive_2 := fun vs ds _ => DpAll K H' vs ds) .non .bl .int .str (fun hs _ ih => .lst (s.seq hs) ih) (fun hs _ ih => .tup (s.seqT hs) ih) .nil (fun _ _ h1 h2 => .cons h1 h2) h
/-- data that may be the dict {'a': 2} -/
def Dt (K : PySem.W.Frag) (H : Hp) (v : V) (d : PyData) : Prop :=
  (Dp K H v d ∧ d.showable = true ∧ d.hasDict = false ∧ d.shown.length ≤ 1000 ∧ d.depth ≤ 8 ∧ SeqAt.shaped d = true) ∨ ∃ a, v = .ref a ∧ H a = some (.dK [(.inr (Str.ofString "a"), .int 2)]) ∧ d = .dict [(.str (Str.ofString "a"), .int 2)]
theorem Dt.same {K : PySem.W.Frag} {H H' : Hp} {v : V} {d : PyData} (h : Dt K H v d) (s : Same H H') : Dt K H' v d := by
  rcases h with h | ⟨a, e, h1, h2⟩
  · exact .inl ⟨Dp_same s h.1, h.2⟩
  · exact .inr ⟨a, e, s _ _ h1, h2⟩
section
variable {X : Cx} {σ : L2.St} {H : Hp} {s : Shared} {pins : List (Addr × Obj)}
theorem Dt.reads (I : Inv X pins σ H s) {v : V} {u : Value} {d : PyData} (h : Dt X.K H v d) (r : RelV v u) :
    ∃ as, Reads s.heap u d as ∧ d.showable = true ∧ (d.hasDict = true → sysModules ∉ as) ∧ d.shown.length ≤ 1000 ∧ d.depth ≤ 8 := by
  rcases h with ⟨hd, h1, h2, h3, h4, _⟩ | ⟨a, rfl, h1, rfl⟩
  · obtain ⟨as, q⟩ := Dp.reads I d v u hd r
    exact ⟨as, q, h1, (fun z => absurd z (by rw [h2]; exact Bool.false_ne_true)), h3, h4⟩
  · obtain rfl : u = Value.ref a := r
    obtain ⟨_, hs, vs, kv, o, es, n, e1, e2, e3, ko, pr, _⟩ := dk_of I.hok h1
    have e4 : ∃ e v, es.toList = [e] ∧ vs = [(Sum.inr (Str.ofString "a"), v)] ∧ keyIs (Sum.inr (Str.ofString "a")) e.key = true ∧ e.val = v ∧ RelV (.int 2) v := by
      obtain ⟨⟨qk, qv⟩, rfl⟩ : ∃ q, vs = [q] := by
        cases kv with
        | cons a t =>
          cases t
          exact ⟨_, rfl⟩
      have h0 : Sum.inr (Str.ofString "a") = qk ∧ RelV (.int 2) qv := by
        cases kv with
        | cons a t => exact a
      obtain ⟨e0, rv⟩ := h0
      subst e0
      cases hes : es.toList with
      | nil => rw [hes] at pr; cases pr
      | cons e r =>
        rw [hes] at pr
        cases pr with
        | cons b c t =>
          cases t
          exact ⟨e, qv, rfl, rfl, b, c, rv⟩
    obtain ⟨e, v2, hes, _, hk, hv, rv⟩ := e4
    rcases keyIs_shape hk with ⟨i, t, z, _⟩ | ⟨x, t, z, ek⟩
    · cases z
    · cases z
      obtain ⟨t2, ev⟩ := (show ∃ t2, v2 = Value.int 2 t2 from rv)
      refine ⟨_, Reads.dict (kvs := [(.str (Str.ofString "a"), .int 2)]) e1 e2.1 e3 (as := []) (bs := []) ?_ ?_, by decide +kernel, fun _ m => ?_, by decide +kernel, by decide +kernel⟩
      · rw [hes]
        show ReadsAll _ [e.key] [.str (Str.ofString "a")] []
        rw [ek]
        exact .cons (as := []) (bs := []) (.str _ _) .nil
      · rw [hes]
        show ReadsAll _ [e.val] [.int 2] []
        rw [hv, ev]
        exact .cons (as := []) (bs := []) (.int _ _) .nil
      · have m : sysModules ∈ [a] := m
        rw [List.mem_singleton.mp m] at hs
        simp at hs
theorem call_repr2 (hg : X.A.guards = some []) (hu : X.A.units + 64 < cLine) : CallR X (.builtin "repr") (fun xs H Q => ∃ L x y d1 d2, xs = [.ref L] ∧ H L = some (.lst [x, y]) ∧ Dt X.K H x d1 ∧ Dt X.K H y d2 ∧ Q (.str (listText [d1.shown, d2.shown])) H) := by
  intro pins s σ H xs us Q Ik r h
  obtain ⟨L, x, y, d1, d2, rfl, hL, h1, h2, q⟩ := h
  obtain ⟨u, rfl, ruk⟩ := vals1 r
  obtain rfl : u = Value.ref L := ruk
  obtain ⟨_, its, n, rv, ho⟩ := (show ObjOk X.prog X.w H s.heap L (.lst [x, y]) from Ik.hok L _ hL)
  obtain ⟨u1, u2, rfl, r1, r2⟩ : ∃ u1 u2, its = [u1, u2] ∧ RelV x u1 ∧ RelV y u2 := by
    cases rv with
    | cons a t => cases t with
      | cons b t => cases t; exact ⟨_, _, rfl, a, b⟩
  obtain ⟨a1, q1, sh1, sm1, z1, p1⟩ := h1.reads Ik r1
  obtain ⟨a2, q2, sh2, sm2, z2, p2⟩ := h2.reads Ik r2
  have sz := sizeLine_eq
  obtain ⟨b1, w1, k1⟩ := ReprK.of_reads (prog := X.prog) (w := X.w) q1 sh1 sm1 (by omega)
  obtain ⟨b2, w2, k2⟩ := ReprK.of_reads (prog := X.prog) (w := X.w) q2 sh2 sm2 (by omega)
  have rl : Reads s.heap (.ref L) (.list [d1, d2]) _ := Reads.list ho rfl rfl (show ReadsAll s.heap [u1, u2] [d1, d2] _ from .cons q1 (.cons q2 .nil))
  have dm : max d1.depth d2.depth ≤ 8 := Nat.max_le.mpr ⟨p1, p2⟩
  have bm : ReadAtMost s.heap (max d1.depth d2.depth) (b1 ++ b2) := (w1.mono (Nat.le_max_left _ _)).append (w2.mono (Nat.le_max_right _ _))
  have hna : L ∉ b1 ++ b2 := not_mem_of_deeper rl (by
    show max d1.depth d2.depth < PyData.depthAll [d1, d2] + 1
    have : PyData.depthAll [d1, d2] = max d1.depth (max d2.depth 0) := rfl
    omega) bm
  have ka : ReprAllK X.prog X.w (b1 ++ b2) s.heap (max d1.depth d2.depth) [u1, u2] [d1.shown, d2.shown] :=
    .cons ((k1.more fun b m => List.mem_append_left _ m).level_le (Nat.le_max_left _ _)) (.cons ((k2.more fun b m => List.mem_append_right _ m).level_le (Nat.le_max_right _ _)) .nil)
  refine call_repr_slot (by omega) ⟨_, ho, rfl⟩ PySem.F.slot_list_repr.toG ?_
  refine call_list_reprK (x := u1) (l := [u2]) ho rfl rfl hna (by simpa using ka.length_eq) (fun i y e => ka.item i y (by simpa using e)) (g := []) hg (fun b _ => Clear.nil b) (by show X.A.units + 1 + (max d1.depth d2.depth + 1) < cLine; omega) (fun _ _ e => e) (fun h' t tk hk => ?_) ?_
  · exact ⟨_, _, rfl, .str _, H, Ik.kept hk, ⟨_, rfl⟩, q⟩
  · have z := listText_len_le [d1.shown, d2.shown]
    simp only [List.map_cons, List.map_nil, List.sum_cons, List.sum_nil, List.length_cons, List.length_nil] at z
    omega
end
end K70
-- K70Refl
/-! a tuple or None == an instance with an own __eq__ -/
namespace K70
open L2 PySem PySem.Spec PyProof.Rows PySem.W PySem.Builtin
section
variable {A : Around} {s : Shared} {prog : Program} {w : World} {E : Value → Shared → Prop} {K : PySem.W.Frag} {y C f : Addr} {oy : Obj} {od : Option Obj} {a : Value} {T id : String}
theorem refl_K {Q : Value → Shared → Prop} (huk : A.units < cLine) (X : K.In s.heap) (Ik : InstAt s.heap y oy C od) (hak : s.TypeIs a T) (hsub : subIn K (.ref C) (.type T) = some false) (slot : Slot T (cmpInfo .Eq).2.1 id)
    (hd : ∀ Q' : Value → Shared → Prop, Q' .notImplemented s → wpAny (model prog w) A (call (.builtin id) [a, .ref y]) Q' E s) (hs : findIn K (.ref C) (cmpInfo .Eq).2.2 = some (some (.ref f))) (hf : isFn K (.ref f) = true)
    (h : wpAny (model prog w) A (call (.ref f) [.ref y, a]) (PySem.W.CmpBack Q) E s) : wpAny (model prog w) A (richCompare .Eq a (.ref y)) Q E s := by
  have one : wpAny (model prog w) A (tryCompare a (cmpInfo .Eq).2.1 (.ref y)) (fun r s' => r = none ∧ s' = s) E s :=
    wpAny_tryCompare_declines hak slot (hd _ ⟨rfl, rfl, rfl⟩)
  have two : wpAny (model prog w) A (tryCompare (.ref y) (cmpInfo .Eq).2.2 a) (fun r s' => ∃ v, r = some v ∧ Q v s') E s := by
    unfold tryCompare
    refine wpAny_bind (ifBound_K X Ik hs hf (wpAny_mono h (fun v s' hvk => ?_) fun _ _ e => e))
    cases v <;> first | exact hvk.elim | exact wpAny_pure ⟨_, rfl, hvk⟩
  simp only [richCompare, hak.oneThing_none]
  refine wpAny_holding (wpAny_bind (wpAny_cRoomFor huk ?_))
  refine wpAny_bind (wpAny_typeOf hak ?_)
  refine wpAny_bind (Ik.type.here ?_)
  rw [show (Value.type T != Value.ref C) = true from by simp [bne]]
  simp only [if_true]
  refine wpAny_bind ((looks_subIn X hsub).here ?_)
  (simp only [Bool.false_eq_true, if_false, Bool.not_false, if_true])
  refine wpAny_bind (m := tryCompare a _ (.ref y)) (wpAny_mono one (fun r s1 z => ?_) fun _ _ e => e)
  obtain ⟨z1, z2⟩ := z
  subst z1
  subst z2
  refine wpAny_bind (m := tryCompare (.ref y) _ a) (wpAny_mono two (fun r s2 z => ?_) fun _ _ e => e)
  obtain ⟨v, rfl, q⟩ := z
  exact wpAny_pure q
theorem tup_declines {t : Addr} {items : Array Value} {n : Nat} {dd : Option Addr} {sl : Array (Option Value)} {Q : Fin → Shared → Prop} (LI : Looks (model prog w) s.heap (isInstance (.ref y) (.type "tuple")) false)
    (ht : s.heap.get? t = some { cls := .type "tuple", dict := dd, data := .seq items n, slots := sl }) (hq : Q (.done (.ret .notImplemented)) s) : wpAny (model prog w) A (Builtin.«tuple.__eq__» ⟨[.ref t, .ref y], []⟩) Q E s := by
  obtain ⟨hpk, g, d, tk, os⟩ := s
  have LI' := LI
  wp_walk using wpAny_loadPart' ht, wpAny_load ht, LI'.here
  exact hq
end
end K70
-- K70L11
namespace K70
open L2 PySem PySem.Spec PyProof.Rows StX
theorem op_addOwn {X : Cx} {n : Nat} {C f : Addr} {sp : Sp} (Mt : Meth X.K C "__add__" f) (F : FnR X.prog X.w X.K X.mg X.base CX0 n f sp) (sf : PySem.W.selfFirst X.K C = true) (hr : Room n X.A) :
    OpR X (binaryOp .Add) (fun x y H Q => ∃ a c dx dy fs gs, x = .ref a ∧ y = .ref c ∧ H a = some (.ins C dx fs) ∧ H c = some (.ins C dy gs) ∧ sp [.ref a, .ref c] H (fun v H' => ∃ p, v = .ref p ∧ Q v H') E0) := by
  intro pins s σ H x y v u Q Ik rxk ry h
  obtain ⟨a, c, dx, dy, fs, gs, rfl, rfl, ha, hc, hsp⟩ := h
  obtain rfl : v = Value.ref a := rxk
  obtain rfl : u = Value.ref c := ry
  obtain ⟨mA, J, _⟩ := ins_get Ik.hok ha
  obtain ⟨mB, J'k, _⟩ := ins_get Ik.hok hc
  obtain ⟨od, J, _⟩ := J.look
  obtain ⟨od', J'k, _⟩ := J'k.look
  obtain ⟨m, hF⟩ := Ik.fr
  refine PySem.W.binop_K hF Ik.ok.mod.kin J J'k.type sf Mt.at_ Mt.fn ?_
  refine own_run (A := X.A) (us := [.ref a, .ref c]) (vs := [.ref a, .ref c]) ⟨hr, rfl⟩ F Ik (.cons rfl (.cons rfl .nil)) hsp fun w z s' H' I' rz q => ?_
  obtain ⟨p, rfl, q⟩ := q
  obtain rfl : w = Value.ref p := rz
  exact ⟨.ref p, H', I', rfl, q⟩
section
variable {K : PySem.W.Frag} {mg : Str → Option Value} {base : Heap} {P : Program} {w : World}
def sp__law_log (K : PySem.W.Frag) : Sp := fun vs H Q _ => ∃ (L : Addr) (ws : List V) (es : List Ent), vs = [.ref L] ∧ H L = some (.lst ws) ∧ EntsAt H ws es ∧ (∀ e ∈ es, EntOk e) ∧ es.length ≤ 1000 ∧ ∀ H' p, Same H H' → LogAt K H' p es → Q (.ref p) H'
theorem sc__law_log : FnScope ["_law_entries_here", "_law_found", "_law_entry"] ["_law_entries_here"] (defScope s_law_log) := ⟨rfl, rfl, rfl, by decide +kernel, rfl, by decide +kernel, by decide +kernel⟩
theorem ok__law_log (T : Tx K mg) : Fnc P w K mg base 7 "_law_log" (He.ga K "_law_log") ["_law_entries_here"] (sp__law_log K) := by
  have c_Log := ok_Log_init (P := P) (w := w) (base := base) T
  refine fnc_of T.f_law_log T.g__law_log sc__law_log (fun _ _ _ _ _ _ us hl => match us, hl with | [_], _ => rfl) (fun vs H Q E h => ?_) (fun cdv A outer s H vs Q E hr h => ?_)
  · obtain ⟨L, ws, es, rfl, _⟩ := h
    rfl
  · obtain ⟨L, ws, es, rfl, hL, hE, eok, zl, k⟩ := h
    refine ⟨_, (pss_cons (ps_set (i := 1) sc__law_log.nd rfl (Or.inl rfl) (pe_mkR0 c_Log (hr.mono (by decide))))
      (pss_cons (ps_for PassesOwn.never rfl (pi_list (pv 0)) (pg_name (i := 2) sc__law_log.nd rfl (Or.inl rfl))
        (pss_one (ps_set (i := 1) sc__law_log.nd rfl (Or.inl rfl) (pe_op (op_addOwn T.m_Log_add (mtd_run (ok_Log_add T)) T.x_Log__first (hr.mono (by decide))) (pv 1) (pe_mkR c_Log (hr.mono (by decide)) (pa_cons (pv 2) pa_nil))))))
      (pss_one (ps_ret (pv 1))))), ?_⟩
    refine fun x dx hx hd ne => log_made (es := []) hx hd ne (Nat.zero_le _) .nil (fun e h => nomatch h) fun H1 s1 h1 => ⟨rfl, ?_⟩
    refine ⟨_, rfl, L, rfl, ⟨_, SqL.of (s1 _ _ hL)⟩, for_list (K := K) (a := L) (xs := ws) (fun i σ H' => Same H H' ∧ ∃ (p : Addr) (v : Option V), σ = [some (.ref L), some (.ref p), v] ∧ LogAt K H' p (es.take i)) ⟨s1, x, none, rfl, h1⟩ (fun i σ H' _ z => SqL.of (z.1 _ _ hL)) ?_ ?_⟩
    · rintro i y σ H' hy ⟨s2, p, v, rfl, hp⟩
      obtain ⟨e, he, q, rfl, hq⟩ := paired_at hE hy
      have hi := (List.getElem?_eq_some_iff.mp he).1
      refine ⟨_, rfl, _, rfl, fun x2 dx2 hx2 hd2 ne2 => log_made (es := [e]) hx2 hd2 ne2 (by show 1 ≤ 100000; decide) (.cons ⟨q, rfl, s2 _ _ hq⟩ .nil) (fun e' h => by rw [List.mem_singleton.mp h]; exact eok e (List.mem_of_getElem? he)) fun H3 s3 h3 => ⟨rfl, ?_⟩⟩
      obtain ⟨d1, t1, y1, i1, _⟩ := id (hp.same s3)
      obtain ⟨d2, t2, y2, i2, _⟩ := id h3
      refine ⟨p, x2, d1, d2, _, _, rfl, rfl, i1, i2, p, x2, es.take i, [e], rfl, hp.same s3, h3, fun e' h => ?_, ?_, fun H4 v s4 _ h4 => ⟨v, rfl, (s2.trans s3).trans s4, v, _, rfl, ?_⟩⟩
      · (rcases List.mem_append.mp h with h | h)
        · exact eok e' (List.mem_of_mem_take h)
        · rw [List.mem_singleton.mp h]; exact eok e (List.mem_of_getElem? he)
      · rw [List.length_append, List.length_take]
        show min i es.length + 1 ≤ _
        omega
      · rw [take_snoc he]
        exact h4
    · rintro σ H' ⟨s2, p, v, rfl, hp⟩
      rw [show ws.length = es.length from Paired.length hE, List.take_length] at hp
      exact ⟨_, rfl, k H' p s2 hp⟩
def sp_Log_eq (K : PySem.W.Frag) : Sp := fun vs H Q _ => ∃ (p q : Addr) (es : List Ent), vs = [.ref p, .ref q] ∧ LogAt K H p es ∧ LogAt K H q es ∧ Q (.bl true) H
theorem sc_Log_eq : FnScope ["self", "other"] ["self", "other"] (defScope sLog_eq) := ⟨rfl, rfl, rfl, by decide +kernel, rfl, by decide +kernel, by decide +kernel⟩
theorem ok_Log_eq (T : Tx K mg) : Mtd P w K mg base 1 (He.ga K "Log") "__eq__" (He.ma K (He.ga K "Log") "__eq__") ["self", "other"] (sp_Log_eq K) := by
  refine mtd_of T.fLog_eq T.m_Log_eq T.c_Log sc_Log_eq (fun _ _ _ _ _ _ us hl => match us, hl with | [_, _], _ => rfl) (fun vs H Q E h => ?_) (fun cdv A outer s H vs Q E hr h => ?_)
  · obtain ⟨p, q, es, rfl, _⟩ := h
    rfl
  · obtain ⟨p, q, es, rfl, ⟨dx, t, ys, hp, ht, h1⟩, ⟨dy, u, zs, hq, hu, h2⟩, k⟩ := h
    refine ⟨_, (pss_one (ps_ret (pe_and (pe_callB call_isi (by rfl) T.b_isinstance (by decide +kernel) (pa_cons (pv 1) (pa_cons (pe_glob (v := .ref (He.ga K "Log")) (by rfl) T.g_Log rfl) pa_nil))) (pe_one (pe_cmpR (op_eqD hr.units) (pe_fld (pv 0) rfl) (pe_fld (pv 1) rfl) (nomark _)))))), ?_⟩
    refine ⟨_, rfl, _, _, _, _, _, rfl, .own _, T.ty_Log hq, kit_same, true, rfl, ?_⟩
    refine ⟨_, rfl, p, _, dx, _, _, rfl, hp, T.c_Log, T.n_Log_entries, rfl, _, rfl, q, _, dy, _, _, rfl, hq, T.c_Log, T.n_Log_entries, rfl, .tuple (entsD es), .tuple (entsD es), .tup (SqT.of ht) (Dp_ents h1), .tup (SqT.of hu) (Dp_ents h2), shaped_entsT es, shaped_entsT es, ?_⟩
    rw [eqv_shaped (shaped_entsT es)]
    exact k
end
end K70
-- K70L12
namespace K70
open L2 PySem PySem.Spec PyProof.Rows StX
theorem RcB.or {X : Cx} {n : Nat} {D1 D2 : EqD} (h1 : RcB X n D1) (h2 : RcB X n D2) : RcB X n (fun x y b H => D1 x y b H ∨ D2 x y b H) := fun A pins s σ H x y b u v sb I rx ry d => d.elim (h1 A pins s σ H x y b u v sb I rx ry) (h2 A pins s σ H x y b u v sb I rx ry)
/-- a tuple, or None, before an instance of the class at C -/
def DBefore (K : PySem.W.Frag) (C : Addr) (sp : Sp) : EqD := fun x y b H => ∃ c dx fs, y = .ref c ∧ H c = some (.ins C dx fs) ∧ ((∃ t xs, x = .ref t ∧ SqT K H t xs) ∨ x = .non) ∧ ∀ Q : VK, (∀ H', Same H H' → Q (.bl b) H') → sp [.ref c, x] H Q E0
section
variable {X : Cx} {n : Nat} {C f : Addr} {sp : Sp}
theorem rcB_before (Mt : Meth X.K C "__eq__" f) (F : FnR X.prog X.w X.K X.mg X.base CX0 n f sp) (st : PySem.W.subIn X.K (.ref C) (.type "tuple") = some false) (sn : PySem.W.subIn X.K (.ref C) (.type "NoneType") = some false) : RcB X n (DBefore X.K C sp) := by
  intro A pins s σ H x y b u v sb I rx ry d
  obtain ⟨c, dx, fs, rfl, hc, hx, hsp⟩ := d
  obtain rfl : v = Value.ref c := ry
  obtain ⟨mB, J, _⟩ := ins_get I.hok hc
  obtain ⟨od, J, _⟩ := J.look
  have fin : wpAny (model X.prog X.w) A (call (.ref f) [.ref c, u]) (PySem.W.CmpBack fun r s' => r = .bool b ∧ ∃ H', Inv X pins σ H' s' ∧ Same H H') X.xe s := by
    refine own_run (us := [.ref c, u]) (vs := [.ref c, x]) (Q' := fun v H' => v = .bl b ∧ Same H H') sb F I (.cons rfl (.cons rx .nil)) (hsp _ fun H' s' => ⟨rfl, s'⟩) fun w z s' H' I' rz q => ?_
    obtain ⟨rfl, sm⟩ := q
    obtain rfl : w = Value.bool b := rz
    exact ⟨rfl, H', I', sm⟩
  rcases hx with ⟨t, xs, rfl, ht⟩ | rfl
  · obtain rfl : u = Value.ref t := rx
    obtain ⟨its, rv, ⟨⟨cls, dd, da, sl⟩, ho, hcl, n, hd⟩, _⟩ := I.tuple ht
    simp only at hcl hd
    subst hcl hd
    refine refl_K sb.room.units0 I.kIn J ⟨_, ho, rfl⟩ st PySem.F.slot_tuple_eq (fun Q' hq => GQ.call_here PySem.F.slot_tuple_eq ⟨_, ho, rfl⟩ PySem.F.entry_tuple_eq (PySem.F.args_tuple_eq_2 _ _) ?_) Mt.at_ Mt.fn fin
    exact tup_declines (J.type.andThen (PySem.W.looks_subIn I.kIn st)) ho hq
  · obtain rfl : u = Value.none := rx
    exact refl_K sb.room.units0 I.kIn J rfl sn PySem.F.slot_NoneType_eq (fun Q' hq => call_gives PySem.F.slot_NoneType_eq rfl PySem.F.entry_NoneType_eq (PySem.F.args_NoneType_eq_2 _ _) (PySem.SeqAt.NoneType___eq___none_ref_0 c) hq) Mt.at_ Mt.fn fin
end
/-- == of what a Found holds -/
abbrev rAny (K : PySem.W.Frag) : R2 := fun x y H Q => rEqB (DOwn (He.ga K "Rule") (sp_Rule_eq K)) x y H Q ∨ rEqB (DOwn (He.ga K "Log") (sp_Log_eq K)) x y H Q ∨ rEqD K x y H Q ∨ rEqDA x y H Q ∨ rStrDict x y H Q
theorem rAny_mono {K : PySem.W.Frag} {x y : V} {H : Hp} {Q Q' : VK} (h : rAny K x y H Q) (k : ∀ v H', Same H H' → Q v H' → Q' v H') : rAny K x y H Q' := by
  rcases h with ⟨b, d, q⟩ | ⟨b, d, q⟩ | ⟨d, e, h1, h2, h3, h4, q⟩ | ⟨a, b, ks, ls, h1, h2, h3, h4, h5, h6, q⟩ | ⟨z, d, kvs, h1, h2, h3, q⟩
  · exact .inl ⟨b, d, fun H' s => k _ _ s (q H' s)⟩
  · exact .inr (.inl ⟨b, d, fun H' s => k _ _ s (q H' s)⟩)
  · exact .inr (.inr (.inl ⟨d, e, h1, h2, h3, h4, k _ _ (Same.refl _) q⟩))
  · exact .inr (.inr (.inr (.inl ⟨a, b, ks, ls, h1, h2, h3, h4, h5, h6, k _ _ (Same.refl _) q⟩)))
  · exact .inr (.inr (.inr (.inr ⟨z, d, kvs, h1, h2, h3, k _ _ (Same.refl _) q⟩)))
section
variable {K : PySem.W.Frag} {mg : Str → Option Value} {base : Heap} {P : Program} {w : World}
theorem op_any {X : Cx} (T : Tx K mg) (h1 : X.prog = P) (h2 : X.w = w) (h3 : X.K = K) (h4 : X.mg = mg) (h5 : X.base = base) (hr : Room 1 X.A) : OpR X (compareOp .Eq) (rAny K) := by
  subst h1 h2 h3 h4 h5
  exact op_orR (op_eqB (rcB_own T.m_Rule_eq (mtd_run (ok_Rule_eq T))) hr) (op_orR (op_eqB (rcB_own T.m_Log_eq (mtd_run (ok_Log_eq T))) hr) (op_orR (op_eqD hr.units) (op_orR (op_eq_dictA hr.units0) (op_eqStrDict hr.units0))))
def fof (r l : V) : List (Str × V) := [("rule", r), ("log", l)]
def sp_Found_eq (K : PySem.W.Frag) : Sp := fun vs H Q _ => ∃ (p dx : Addr) (r1 l1 y : V), vs = [.ref p, y] ∧ H p = some (.ins (He.ga K "Found") dx (fof r1 l1)) ∧
  ((∃ tb, TyX K H y tb ∧ PySem.W.kitOne K tb (.ref (He.ga K "Found")) = some false ∧ Q (.bl false) H) ∨
   ∃ q dy r2 l2, y = .ref q ∧ H q = some (.ins (He.ga K "Found") dy (fof r2 l2)) ∧ rAny K r1 r2 H (fun v H' => ∃ b, v = .bl b ∧ if b = true then rAny K l1 l2 H' (fun v' H'' => ∃ c, v' = .bl c ∧ Q (.bl c) H'') else Q (.bl false) H'))
theorem sc_Found_eq : FnScope ["self", "other"] ["self", "other"] (defScope sFound_eq) := ⟨rfl, rfl, rfl, by decide +kernel, rfl, by decide +kernel, by decide +kernel⟩
theorem ok_Found_eq (T : Tx K mg) : Mtd P w K mg base 2 (He.ga K "Found") "__eq__" (He.ma K (He.ga K "Found") "__eq__") ["self", "other"] (sp_Found_eq K) := by
  refine mtd_of T.fFound_eq T.m_Found_eq T.c_Found sc_Found_eq (fun _ _ _ _ _ _ us hl => match us, hl with | [_, _], _ => rfl) (fun vs H Q E h => ?_) (fun cdv A outer s H vs Q E hr h => ?_)
  · obtain ⟨p, dx, r1, l1, y, rfl, _⟩ := h
    rfl
  · obtain ⟨p, dx, r1, l1, y, rfl, hp, h⟩ := h
    refine ⟨_, (pss_one (ps_ret (pe_and (pe_callB call_isi (by rfl) T.b_isinstance (by decide +kernel) (pa_cons (pv 1) (pa_cons (pe_glob (v := .ref (He.ga K "Found")) (by rfl) T.g_Found rfl) pa_nil))) (pe_and (pe_cmpR (op_any T rfl rfl rfl rfl rfl (hr.mono (by decide))) (pe_fld (pv 0) rfl) (pe_fld (pv 1) rfl) (nomark _)) (pe_one (pe_cmpR (op_any T rfl rfl rfl rfl rfl (hr.mono (by decide))) (pe_fld (pv 0) rfl) (pe_fld (pv 1) rfl) (nomark _))))))), ?_⟩
    rcases h with ⟨tb, ty, kt, k⟩ | ⟨q, dy, r2, l2, rfl, hq, k⟩
    · exact ⟨_, rfl, _, _, _, _, _, rfl, .own _, ty, kt, false, rfl, k⟩
    · refine ⟨_, rfl, _, _, _, _, _, rfl, .own _, T.ty_Found hq, kit_same, true, rfl, ?_⟩
      refine ⟨_, rfl, p, _, dx, _, _, rfl, hp, T.c_Found, T.n_Found_rule, rfl, _, rfl, q, _, dy, _, _, rfl, hq, T.c_Found, T.n_Found_rule, rfl, rAny_mono k fun v H1 s1 z => ?_⟩
      obtain ⟨b, rfl, z⟩ := z
      refine ⟨b, rfl, ?_⟩
      cases b with
      | false => exact z
      | true =>
        refine ⟨_, rfl, p, _, dx, _, _, rfl, s1 _ _ hp, T.c_Found, T.n_Found_log, rfl, _, rfl, q, _, dy, _, _, rfl, s1 _ _ hq, T.c_Found, T.n_Found_log, rfl, rAny_mono z fun v H2 s2 z2 => ?_⟩
        obtain ⟨c, rfl, z2⟩ := z2
        exact z2
end
end K70
-- K70Eq3
/-! lists whose items answer == by themselves: !=, in -/
namespace K70
open L2 PySem PySem.Spec PyProof.Rows PySem.SeqAt PySem.MeetsSeq PySem.MeetsSeq2 PySem.MeetsSeq3 PySem.SeqRoads2 PySem.Builtin
open PySem.AutoSeq1 (wpAny_loadPart' )
section
variable {prog : Program} {w : World} {A : Around} {R : Result → Shared → Prop} {E : Value → Shared → Prop}
theorem ne_turns (l b : Addr) (N : Nat) (J : Nat → Shared → Prop) (hl : GQ.ListI prog w A (fun e s' => R (.error e) s') l b N J) (fin : ∀ s, J N s → R (.ok (.ret (.bool false))) s) (k : Nat) :
    ∀ i : Nat, N - i = k → i ≤ N → ∀ s, J i s → wpAny (model prog w) A.in1 (Builtin.«list.__eq__.loop» ⟨[.ref l, .ref b, rawInt i, rawInt 3], []⟩) (GQ.FinOf prog w A R) (fun e s' => R (.error e) s') s := by
  induction k with
  | zero =>
    intro i hk hi s h
    obtain ⟨xs, ys, n, m, e1, e2, z1, z2, _⟩ := hl _ _ h
    obtain rfl : i = N := by omega
    have last : R (.ok (.ret (.bool false))) s := fin s h
    obtain ⟨hpk, g, d, tk, os⟩ := s
    wp_walk using wpAny_loadPart' e1, wpAny_loadPart' e2
    have h1 : xs[((i : Nat) : Int).toNat]? = none := by simp; omega
    have h2 : ys[((i : Nat) : Int).toNat]? = none := by simp; omega
    rw [h1, h2]
    wp_walk using wpAny_loadPart' e1, wpAny_loadPart' e2
    show R (.ok (.ret (.bool (xs.size != ys.size)))) _
    rw [z1, z2]
    simpa using last
  | succ k ih =>
    intro i hk hi s h
    obtain ⟨xs, ys, n, m, e1, e2, z1, z2, turn⟩ := hl _ _ h
    have l1 : i < xs.size := by omega
    have l2 : i < ys.size := by omega
    have ht := turn l1 l2
    obtain ⟨hpk, g, d, tk, os⟩ := s
    wp_walk using wpAny_loadPart' e1, wpAny_loadPart' e2
    have h1 : xs[((i : Nat) : Int).toNat]? = some xs[i] := by simp [l1]
    have h2 : ys[((i : Nat) : Int).toNat]? = some ys[i] := by simp [l2]
    have hck : ((i : Int) + 1) = ((i + 1 : Nat) : Int) := by omega
    rw [h1, h2]
    refine wpAny_bind (wpAny_mono ht (fun r s2 q => ?_) fun _ _ x => x)
    obtain ⟨rfl, q⟩ := q
    have more := ih (i + 1) (by omega) (by omega) s2 q
    obtain ⟨hp2, g2, d2k, tk2, os2⟩ := s2
    wp_walk
    rw [hck]
    exact ⟨(plainId_quiet plain_eq_loop _), codeAny_builtin entry_eq_loop (by
      (rw [Around.under_plainId plain_eq_loop _])
      exact more)⟩
theorem list_neG (l b : Addr) (N : Nat) (J : Nat → Shared → Prop) (hl : GQ.ListI prog w A (fun e s' => R (.error e) s') l b N J) (fin : ∀ s, J N s → R (.ok (.ret (.bool false))) s) {s : Shared} (h : J 0 s) :
    wpAny (model prog w) A.in1 (Builtin.«list.__ne__» ⟨[.ref l, .ref b], []⟩) (GQ.FinOf prog w A R) (fun e s' => R (.error e) s') s := by
  obtain ⟨xs, ys, n, m, e1, e2, z1, z2, _⟩ := hl _ _ h
  have go := ne_turns (A := A) (R := R) l b N J hl fin _ 0 rfl (Nat.zero_le _) s h
  obtain ⟨hpk, g, d, tk, os⟩ := s
  have f3 := PySem.AutoSeq1.sub_list_list
  have hne : ¬ (xs.size != ys.size) = true := by simp [z1, z2]
  wp_walk using wpAny_loadPart' e1, wpAny_loadPart' e2
  exact ⟨(plainId_quiet plain_eq_loop _), codeAny_builtin entry_eq_loop (by
    (rw [Around.under_plainId plain_eq_loop _])
    exact go)⟩
theorem rc_neG {s : Shared} {l b : Addr} {N : Nat} {Q : Value → Shared → Prop} (hu : A.units < cLine) (J : Nat → Shared → Prop) (hl : GQ.ListI prog w A E l b N J) (fin : ∀ s, J N s → Q (.bool false) s) (h : J 0 s) :
    wpAny (model prog w) A (richCompare .NotEq (.ref l) (.ref b)) Q E s := by
  obtain ⟨xs, ys, n, m, e1, e2, _, _, _⟩ := hl _ _ h
  refine wpAny_richCompare_same_room (op := .NotEq) ⟨_, e1, rfl⟩ ⟨_, e2, rfl⟩ PySem.F.slot_list_ne (GQ.call_here PySem.F.slot_list_ne ⟨_, e1, rfl⟩ PySem.F.entry_list_ne (PySem.F.args_list_ne_2 _ _) ?_) hu
  exact list_neG (R := wants (fun v s' => v ≠ .notImplemented ∧ Q v s') E) l b N J hl (fun s' q => ⟨(fun x => nomatch x), fin s' q⟩) h
/-! ### in -/
def ListC (prog : Program) (w : World) (A : Around) (E : Value → Shared → Prop) (l : Addr) (x : Value) (e : Nat → Bool) (N : Nat) (J : Shared → Prop) : Prop :=
  ∀ s, J s → ∃ (xs : Array Value) (n : Nat), s.heap.get? l = some { cls := .type "list", data := .seq xs n } ∧ xs.size = N ∧ ∀ (i : Nat) (h : i < xs.size), wpAny (model prog w) A.in1 (eqBool xs[i] x) (fun r s' => r = e i ∧ J s') E s
theorem in_turns (l : Addr) (x : Value) (e : Nat → Bool) (N : Nat) (J : Shared → Prop) (hl : ListC prog w A (fun e s' => R (.error e) s') l x e N J) (hex : ∃ j, j < N ∧ e j = true) (fin : ∀ s, J s → R (.ok (.ret (.bool true))) s) (k : Nat) :
    ∀ i : Nat, N - i = k → (∀ j, j < i → e j = false) → ∀ s, J s → wpAny (model prog w) A.in1 (Builtin.«list.__contains__.loop» ⟨[.ref l, x, rawInt i], []⟩) (GQ.FinOf prog w A R) (fun e s' => R (.error e) s') s := by
  induction k with
  | zero =>
    intro i hk hp0 s h
    obtain ⟨j, hj, ej⟩ := hex
    have := hp0 j (by omega)
    rw [ej] at this
    cases this
  | succ k ih =>
    intro i hk hp0 s h
    obtain ⟨xs, n, e1, z1, turn⟩ := hl _ h
    have l1 : i < xs.size := by omega
    have ht := turn i l1
    obtain ⟨hpk, g, d, tk, os⟩ := s
    wp_walk using wpAny_loadPart' e1
    have h1 : xs[((i : Nat) : Int).toNat]? = some xs[i] := by simp [l1]
    have hck : ((i : Int) + 1) = ((i + 1 : Nat) : Int) := by omega
    rw [h1]
    refine wpAny_bind (wpAny_mono ht (fun r s2 q => ?_) fun _ _ x => x)
    obtain ⟨rfl, q⟩ := q
    cases he : e i with
    | true =>
      have := fin s2 q
      obtain ⟨hp2, g2, d2k, tk2, os2⟩ := s2
      wp_walk
      exact this
    | false =>
      have more := ih (i + 1) (by omega) (fun j hj => by
        by_cases c : j < i
        · exact hp0 j c
        · rw [show j = i by omega]
          exact he) s2 q
      obtain ⟨hp2, g2, d2k, tk2, os2⟩ := s2
      wp_walk
      rw [hck]
      exact ⟨(plainId_quiet plain_contains_loop _), codeAny_builtin entry_contains_loop (by
        (rw [Around.under_plainId plain_contains_loop _])
        exact more)⟩
theorem list_inG (l : Addr) (x : Value) (e : Nat → Bool) (N : Nat) (J : Shared → Prop) (hl : ListC prog w A (fun e s' => R (.error e) s') l x e N J) (hex : ∃ j, j < N ∧ e j = true) (fin : ∀ s, J s → R (.ok (.ret (.bool true))) s) {s : Shared} (h : J s) :
    wpAny (model prog w) A.in1 (Builtin.«list.__contains__» ⟨[.ref l, x], []⟩) (GQ.FinOf prog w A R) (fun e s' => R (.error e) s') s := by
  have go := in_turns (A := A) (R := R) l x e N J hl hex fin _ 0 rfl (fun j hj => absurd hj (Nat.not_lt_zero j)) s h
  obtain ⟨xs, n, e1, _, _⟩ := hl _ h
  obtain ⟨hpk, g, d, tk, os⟩ := s
  wp_walk using wpAny_loadPart' e1
  exact ⟨(plainId_quiet plain_contains_loop _), codeAny_builtin entry_contains_loop (by
    (rw [Around.under_plainId plain_contains_loop _])
    exact go)⟩
end
/-! ### the operators -/
section
variable {X : Cx} {n : Nat} {D : EqD}
def MonB (D : EqD) : Prop := ∀ x y b H H', Same H H' → D x y b H → D x y b H'
/-- lists of items that are equal one by one -/
def rNeL (D : EqD) : R2 := fun x y H Q => ∃ l c xs ys, x = .ref l ∧ y = .ref c ∧ H l = some (.lst xs) ∧ H c = some (.lst ys) ∧ xs.length = ys.length ∧ (∀ (i : Nat) u v, xs[i]? = some u → ys[i]? = some v → D u v true H) ∧ ∀ H', Same H H' → Q (.bl false) H'
theorem op_neL (h : EqB X n D) (mon : MonB D) (hr : Room (n + 1) X.A) : OpR X (compareOp .NotEq) (rNeL D) := by
  intro pins s σ H x y v u Q Ik rx ry hq
  obtain ⟨l, c, xs, ys, rfl, rfl, hl, hc, len, all, q⟩ := hq
  obtain rfl : v = Value.ref l := rx
  obtain rfl : u = Value.ref c := ry
  show wpAny (model X.prog X.w) X.A (richCompare .NotEq (.ref l) (.ref c)) (EP X pins σ Q) X.xe s
  have sb : Sub X n X.A.in1 := ⟨hr.in1, rfl⟩
  refine rc_neG (N := xs.length) hr.units0 (fun _ s' => ∃ H', Inv X pins σ H' s' ∧ Same H H') (fun i s' z => ?_) (fun s' z => ?_) ⟨H, Ik, Same.refl _⟩
  · obtain ⟨H1, I1, s1⟩ := id z
    obtain ⟨_, its, k, r, e⟩ := I1.hok l _ (s1 _ _ hl)
    obtain ⟨_, its2, k2, r2, e2⟩ := I1.hok c _ (s1 _ _ hc)
    have n1 : xs.length = its.length := r.length
    have n2 : ys.length = its2.length := r2.length
    refine ⟨its.toArray, its2.toArray, k, k2, e, e2, by rw [List.size_toArray, ← n1], by rw [List.size_toArray, ← n2, len], fun h1 h2 => ?_⟩
    have i1 : i < its.length := by simpa using h1
    have i2 : i < its2.length := by simpa using h2
    obtain ⟨w1, g1, r1⟩ := r.get (List.getElem?_eq_getElem (show i < xs.length by omega))
    obtain ⟨w2, g2, r3⟩ := r2.get (List.getElem?_eq_getElem (show i < ys.length by omega))
    rw [List.getElem?_eq_getElem i1] at g1
    rw [List.getElem?_eq_getElem i2] at g2
    have e1 : its.toArray[i] = w1 := by simpa using Option.some.inj g1
    have e2 : its2.toArray[i] = w2 := by simpa using Option.some.inj g2
    rw [e1, e2]
    refine wpAny_mono (h X.A.in1 pins s' σ H1 _ _ true w1 w2 sb I1 r1 r3 (mon _ _ _ _ _ s1 (all i _ _ (List.getElem?_eq_getElem (by omega)) (List.getElem?_eq_getElem (by omega))))) (fun r s2 q => ?_) fun _ _ x => x
    obtain ⟨hr, H2, I2, s2⟩ := q
    exact ⟨hr, H2, I2, s1.trans s2⟩
  · obtain ⟨H1, I1, s1⟩ := z
    exact ⟨.bl false, H1, I1, rfl, q H1 s1⟩
/-- x in a list of items, an equal one among them -/
def rInL (D : EqD) : R2 := fun x y H Q => ∃ (l : Addr) (xs : List V) (e : Nat → Bool), y = .ref l ∧ H l = some (.lst xs) ∧ (∀ (i : Nat) u, xs[i]? = some u → D u x (e i) H) ∧ (∃ j, j < xs.length ∧ e j = true) ∧ ∀ H', Same H H' → Q (.bl true) H'
theorem op_inL (h : EqB X n D) (mon : MonB D) (hr : Room (n + 1) X.A) : OpR X (compareOp .In) (rInL D) := by
  intro pins s σ H x y v u Q Ik rx ry hq
  obtain ⟨l, xs, e, rfl, hl, all, hex, q⟩ := hq
  obtain rfl : u = Value.ref l := ry
  have sb : Sub X n X.A.in1 := ⟨hr.in1, rfl⟩
  obtain ⟨_, its0, k0, r0, e0⟩ := Ik.hok l _ hl
  show wpAny (model X.prog X.w) X.A (contains (.ref l) v >>= fun r => pure (Value.bool r)) (EP X pins σ Q) X.xe s
  refine wpAny_bind (wpAny_contains_slot ⟨_, e0, rfl⟩ PySem.F.slot_list_contains (wpAny_mono (Q := fun (v : Value) (s' : Shared) => ∃ b, v = .bool b ∧ b = true ∧ ∃ H', Inv X pins σ H' s' ∧ Same H H') (GQ.call_here PySem.F.slot_list_contains ⟨_, e0, rfl⟩ PySem.F.entry_list_contains (PySem.F.args_list_contains_2 _ _) ?_) (fun z s' hv => ?_) fun _ _ e => e))
  · refine list_inG (R := wants _ _) l v e xs.length (fun s' => ∃ H', Inv X pins σ H' s' ∧ Same H H') (fun s' z => ?_) hex (fun s' z => ?_) ⟨H, Ik, Same.refl _⟩
    · obtain ⟨H1, I1, s1⟩ := id z
      obtain ⟨_, its, k, r, e1⟩ := I1.hok l _ (s1 _ _ hl)
      have n1 : xs.length = its.length := r.length
      refine ⟨its.toArray, k, e1, by rw [List.size_toArray, ← n1], fun i h1 => ?_⟩
      have i1 : i < its.length := by simpa using h1
      obtain ⟨w1, g1, r1⟩ := r.get (List.getElem?_eq_getElem (show i < xs.length by omega))
      rw [List.getElem?_eq_getElem i1] at g1
      have ew : its.toArray[i] = w1 := by simpa using Option.some.inj g1
      rw [ew]
      refine wpAny_mono (h X.A.in1 pins s' σ H1 _ _ (e i) w1 v sb I1 r1 rx (mon _ _ _ _ _ s1 (all i _ (List.getElem?_eq_getElem (by omega))))) (fun r s2 q => ?_) fun _ _ x => x
      obtain ⟨hr, H2, I2, s2⟩ := q
      exact ⟨hr, H2, I2, s1.trans s2⟩
    · first | exact ⟨true, rfl, rfl, z⟩ | exact ⟨(fun x => nomatch x), true, rfl, rfl, z⟩
  · obtain ⟨b, rfl, rfl, H1, I1, s1⟩ := hv
    exact wpAny_truthy_bool (wpAny_pure ⟨.bl true, H1, I1, rfl, q H1 s1⟩)
end
end K70
-- K70Call
/-! a call of a def whose promise sees the state; keywords for plain parameters -/
namespace K70
open L2 PySem PySem.Spec PyProof.Rows
def tFnS (X : Cx) (sp : List Env → Shared → Sp) (t : TA) : TE := fun σ H Q => t σ H fun vs H1 => ∀ pins s, Inv X pins σ H1 s → sp X.stack s vs H1 Q E0
/-- .. by two keywords in the other order -/
def tFnS2 (X : Cx) (sp : List Env → Shared → Sp) (t : TA) : TE := fun σ H Q => t σ H fun zs H1 => ∃ a b, zs = [b, a] ∧ ∀ pins s, Inv X pins σ H1 s → sp X.stack s [a, b] H1 Q E0
section
variable {X : Cx} {k : Nat} {f : Addr} {fd : FuncData} {sp : List Env → Shared → Sp} {x a b : Str} {p pos : Pos} {e : Expr} {es : List Expr} {kws : List Keyword} {t tk : TA}
theorem pe_fnS (F : FnS X.prog X.w X.K X.mg X.base k f sp) (hr : Room k X.A) (hm : X.mg x = some (.ref f)) (kp : PySem.W.keepIn X.K (.ref f) = true) (ha : PA X (e :: es) t) (hg : Gl X x := by rfl) (hdb : (x == ("__debug__" : Str)) = false := by decide)
    (he : starEach (e :: es) X.env = (false, eval e X.env) :: starEach es X.env := by rfl) (hpl : (backTo pos (starEach es X.env)).any (·.1) = false := by rfl) : PE X (.Call (.Name x p) (e :: es) [] pos) (tFnS X sp t) := by
  refine ⟨fun pins s σ H Q Ik h => ?_⟩
  refine wpAny_Call_Name_kw (ld_glob Ik hg hm ?_ hdb)
  refine PySem.W.callWith_K (first := []) Ik.ok.mod.kin kp (thn (ha.run pos pins s σ H _ Ik h) fun us s1 ⟨vs, H1, I1, r, q⟩ => ⟨I1.kIn, ?_⟩) he hpl
  (show wpAny _ _ (call (.ref f) us) _ _ _)
  refine wpAny_call (codeAny_mono (F X.A X.stack s1 H1 us vs Q E0 hr I1.env0 r (q pins s1 I1)) fun r s' hq => ?_)
  cases r with
  | error e => exact pass0 pins σ H1 s1 e s' I1 hq
  | ok fl =>
    cases fl with
    | ret u => exact I1.after hq
    | next => exact False.elim hq
    | brk => exact False.elim hq
    | cont => exact False.elim hq
theorem pe_fnS2 (F : FnSB X.prog X.w X.K X.mg X.base k f fd [a, b] sp) (hB : ∀ (s : Shared) (u v : Value), BindsTo s fd ⟨[], [(b, v), (a, u)]⟩ [(a, u), (b, v)]) (hr : Room k X.A) (hm : X.mg x = some (.ref f)) (kp : PySem.W.keepIn X.K (.ref f) = true)
    (hkw : PK X kws tk) (hg : Gl X x := by rfl) (hdb : (x == ("__debug__" : Str)) = false := by decide)
    (hall : (backToKw pos (keywordEach kws X.env)).all (·.1.isSome) = true := by rfl) (hks : (backToKw pos (keywordEach kws X.env)).filterMap (·.1) = [b, a] := by rfl)
    (hpl : ((backTo pos (starEach [] X.env)).any (·.1) || (backToKw pos (keywordEach kws X.env)).any (·.1.isNone)) = false := by rfl) : PE X (.Call (.Name x p) [] kws pos) (tFnS2 X sp tk) := by
  refine ⟨fun pins s σ H Q Ik h => ?_⟩
  refine wpAny_Call_Name_kw (ld_glob Ik hg hm ?_ hdb)
  refine PySem.W.callWith_KW0 (h₀ := X.base) Ik.ok.mod.kin kp hall ?_ hpl
  refine thn (hkw.run pos pins s σ H _ Ik h) fun ws s1 ⟨zs, H1, I1, rz, va, vb, ez, q⟩ => ⟨I1.kIn, ?_⟩
  subst ez
  rw [hks]
  obtain ⟨wb, wa, rfl, rb, ra⟩ : ∃ wb wa, ws = [wb, wa] ∧ RelV vb wb ∧ RelV va wa := by
    cases rz with
    | cons h1 t => cases t with
      | cons h2 t => cases t; exact ⟨_, _, rfl, h1, h2⟩
  show wpAny _ _ (call (.ref f) [] [(b, wb), (a, wa)]) _ _ _
  refine wpAny_call (codeAny_mono (F X.A X.stack s1 H1 ⟨[], [(b, wb), (a, wa)]⟩ [wa, wb] [va, vb] Q E0 hr I1.env0 (hB s1 wa wb) (.cons ra (.cons rb .nil)) (q pins s1 I1)) fun r s' hq => ?_)
  cases r with
  | error e => exact pass0 pins σ H1 s1 e s' I1 hq
  | ok fl =>
    cases fl with
    | ret u => exact I1.after hq
    | next => exact False.elim hq
    | brk => exact False.elim hq
    | cont => exact False.elim hq
end
end K70
-- K70Pap
/-! functions that run while no repr is under way; truth of a plain instance -/
namespace K70
open L2 PySem PySem.Spec PyProof.Rows
theorem tru_plain {X : Cx} {C : Addr} (nb : PySem.W.findIn X.K (.ref C) "__bool__" = some none) (nl : PySem.W.findIn X.K (.ref C) "__len__" = some none) : TruR X (fun x H Q => ∃ a dx fs, x = .ref a ∧ H a = some (.ins C dx fs) ∧ Q true H) := by
  intro pins s σ H x v Q I r h
  obtain ⟨a, dx, fs, rfl, hak, q⟩ := h
  obtain rfl : v = Value.ref a := r
  obtain ⟨mA, J, _⟩ := ins_get I.hok hak
  obtain ⟨od, J, _⟩ := J.look
  have hspk : ∀ {Q' : Option Value → Shared → Prop}, Q' none s → wpAny (model X.prog X.w) X.A (specialOf (.ref a) "__len__") Q' X.xe s := fun q => by
    unfold specialOf
    exact wpAny_bind (J.type.here ((PySem.W.looks_findIn I.kIn nl).here q))
  unfold truthy
  first
    | refine wpAny_bind (DSub.special_no (name := Str.ofString "__bool__") I.kIn J nb ?_)
    | refine wpAny_bind (wpAny_pure (wpAny_bind (DSub.special_no (name := Str.ofString "__bool__") I.kIn J nb ?_)))
  first
    | refine wpAny_bind (hspk ?_)
    | refine wpAny_bind (wpAny_pure (wpAny_bind (hspk ?_)))
  first
    | exact wpAny_pure ⟨H, I, q⟩
    | exact wpAny_bind (wpAny_pure (wpAny_pure ⟨H, I, q⟩))
/-- a promise for calls below which no repr is under way -/
def FnG (P : Program) (w : World) (K : PySem.W.Frag) (mg : Str → Option Value) (base : Heap) (k : Nat) (f : Addr) (sp : List Env → Shared → Sp) : Prop :=
  ∀ (A : Around) (outer : List Env) (s : Shared) (H : Hp) (us : List Value) (vs : List V) (Q : VK) (E : XK), Room k A → A.guards = some [] → Env0 P w K mg base A outer s H → Vals vs us → sp outer s vs H Q E →
    codeAny (model P w) A (.call (.ref f) ⟨us, []⟩) (CR CX0 outer P w H s Q E) s
section
variable {K : PySem.W.Frag} {mg : Str → Option Value} {base : Heap} {P : Program} {w : World}
theorem fnG_of {x : Str} {st : Stmt} {N ps : List Str} {k : Nat} {sp : List Env → Shared → Sp} (F : ∃ fd, FunD K x x (defArgs st) (defBody st) (defScope st) [] [] (He.ga K x) fd) (S : FnScope N ps (defScope st)) (B : BindsAs x x st ps)
    (len : ∀ outer s vs H Q E, sp outer s vs H Q E → vs.length = ps.length)
    (body : ∀ (A : Around) (outer : List Env) (s : Shared) (H : Hp) (vs : List V) (Q : VK) (E : XK), Room k (A.deeper (envOfC x (defScope st) s.heap.objs.size (He.ga K x) (.ref (ct1 K x)))) → A.guards = some [] → Env0 P w K mg base A outer s H → sp outer s vs H Q E →
      ∃ t, PSs (cxOf CX0 P w K mg base N x (defScope st) (He.ga K x) (.ref (ct1 K x)) A outer s H E).nox (defBody st) t ∧ t { nx := fun _ H'k => Q .non H'k, rt := Q } (start N vs) H) : FnG P w K mg base (k + 1) (He.ga K x) sp := by
  obtain ⟨fd, F⟩ := F
  obtain ⟨oc, od, dV, kV, doc, pm, ank, cdv, ct, osl, rfl, lk, hcd, _, _⟩ := F.ex
  obtain ⟨c, rfl⟩ := He.codeIn_ref hcd
  have ec : ct1 K x = c := He.codeOf_eq (p := (x, none)) lk rfl
  subst ec
  intro A outer s H us vs Q E hr hg e0 rel hsp
  have lenU : us.length = ps.length := by rw [← rel.length]; exact len _ _ _ _ _ _ hsp
  have kin : K.In s.heap := e0.mod.kin.keeps fun b o e => (e0.bs b o e).1
  have nolim : s.heap.NoLimit := e0.mod.nolimit.keeps fun b o e => (e0.bs b o e).1
  have kinds : ∀ y ∈ ps.zip us, (defScope st).names.lookup y.1 = some .local ∨ ((defScope st).names.lookup y.1 = some .cell ∧ ((cellsFrom (s.heap.objs.size + 1) (defScope st).names []).lookup y.1).isSome = true) := fun ⟨n, v⟩ hyk => by
    rcases S.par n (List.of_mem_zip hyk).1 with q | q
    · exact .inl q
    · (exact .inr ⟨q, PySem.W.cellsFrom_some _ _ _ (.inl q)⟩)
  have bound : BindsTo s (PySem.W.fnOf x x (defArgs st) (defBody st) (defScope st) dV kV doc pm ank (.ref (ct1 K x)) ct) ⟨us, []⟩ (ps.zip us) := by
    have b := FunD.bindsN (ps := ps) F B s us kin (by simpa using lenU)
    simpa using b
  refine codeAny_call_function hr.depth (kin _ _ lk) rfl S.co S.gen rfl (PySem.W.codeRec_of kin hcd) (bound _ _ _ _ ?_)
  refine wpAny_newFunctionEnv_cells S.kind kinds fun env he s1 laid => ?_
  subst he
  refine ⟨nolim.keeps laid.toInCall.keep, codeAny_func ?_⟩
  obtain ⟨t, ht, hq⟩ := body A outer s H vs Q E (hr.deeper _) hg e0 hsp
  have ht := ht.nox
  have I : Inv (cxOf CX0 P w K mg base N x (defScope st) (He.ga K x) (.ref (ct1 K x)) A outer s H E) [] (start N vs) H s1 := inv_start S hr.hd e0 (len _ _ _ _ _ _ hsp) rel laid
  refine wpAny_mono (ht.run [] s1 (start N vs) H _ I hq) (fun fl s' hsk => ?_) fun e s' hsk => hsk
  have ends : ∀ {σ' : L2.St} {H'k : Hp} {v : V} {u : Value}, Inv (cxOf CX0 P w K mg base N x (defScope st) (He.ga K x) (.ref (ct1 K x)) A outer s H E) [] σ' H'k s' → RelV v u → Q v H'k → CE outer P w H s Q u s' :=
    fun {σ' H'k v u} J rv q => ⟨v, H'k, J.os, J.bare, J.base, J.hok, rv, q⟩
  cases fl with
  | ret u => obtain ⟨v, σ', H'k, J, rv, q⟩ := hsk; exact ends J rv q
  | next => obtain ⟨σ', H'k, J, q⟩ := hsk; exact ends (v := V.non) (u := Value.none) J rfl q
  | brk => obtain ⟨_, _, _, q⟩ := hsk; exact False.elim q
  | cont => obtain ⟨_, _, _, q⟩ := hsk; exact False.elim q
end
section
variable {X : Cx} {k : Nat} {f : Addr} {sp : List Env → Shared → Sp} {x : Str} {p pos : Pos} {e : Expr} {es : List Expr} {t : TA}
theorem pe_fnG (F : FnG X.prog X.w X.K X.mg X.base k f sp) (hr : Room k X.A) (gd : X.A.guards = some []) (hm : X.mg x = some (.ref f)) (kp : PySem.W.keepIn X.K (.ref f) = true) (ha : PA X (e :: es) t) (hg : Gl X x := by rfl) (hdb : (x == ("__debug__" : Str)) = false := by decide)
    (he : starEach (e :: es) X.env = (false, eval e X.env) :: starEach es X.env := by rfl) (hpl : (backTo pos (starEach es X.env)).any (·.1) = false := by rfl) : PE X (.Call (.Name x p) (e :: es) [] pos) (tFnS X sp t) := by
  refine ⟨fun pins s σ H Q Ik h => ?_⟩
  refine wpAny_Call_Name_kw (ld_glob Ik hg hm ?_ hdb)
  refine PySem.W.callWith_K (first := []) Ik.ok.mod.kin kp (thn (ha.run pos pins s σ H _ Ik h) fun us s1 ⟨vs, H1, I1, r, q⟩ => ⟨I1.kIn, ?_⟩) he hpl
  (show wpAny _ _ (call (.ref f) us) _ _ _)
  refine wpAny_call (codeAny_mono (F X.A X.stack s1 H1 us vs Q E0 hr gd I1.env0 r (q pins s1 I1)) fun r s' hq => ?_)
  cases r with
  | error e => exact pass0 pins σ H1 s1 e s' I1 hq
  | ok fl =>
    cases fl with
    | ret u => exact I1.after hq
    | next => exact False.elim hq
    | brk => exact False.elim hq
    | cont => exact False.elim hq
end
theorem vals_rev : ∀ {zs : List V} {ws : List Value}, Vals zs ws → Vals zs.reverse ws.reverse
  | _, _, .nil => .nil
  | _, _, .cons a t => by
    (rw [List.reverse_cons, List.reverse_cons])
    exact paired_app (vals_rev t) (.cons a .nil)
/-! ### Found(log = .., rule = ..) -/
section
variable {K : PySem.W.Frag} {mg : Str → Option Value} {base : Heap} {P : Program} {w : World}
theorem found_kw (T : Tx K mg) : ∃ fd, FnOk P w K mg base CX0 1 (He.ma K (He.ga K "Found") "__init__") fd ["self", "rule", "log"] (sp_Found_init K) ∧
    KBn K fd ["self", "rule", "log"] 1 ["log", "rule"] (fun us ws => us ++ ws.reverse) (fun vs zs => vs ++ zs.reverse) := by
  obtain ⟨fd, F⟩ := T.fFound_init
  obtain ⟨oc, od, dV, kV, doc, pm, an, cdv, ct, osl, rfl, lk, hcd, hd1, hk1⟩ := F.ex
  have dn : dV = .none := by
    rcases hd1 with ⟨_, e⟩ | ⟨e, _⟩
    · exact e
    · exact absurd rfl e
  subst dn
  refine ⟨_, fn_of lk hcd sc_Found_init (fun vs H Q E h => ?_) fun A outer s H vs Q E hr h => ?_, ⟨fun s us ws kin l1 l2 => ?_, fun r1 r2 => r1.append ?_⟩⟩
  · obtain ⟨p, dx, v, u, rfl, _⟩ := h
    rfl
  · obtain ⟨p, dx, v, u, rfl, hp, k⟩ := h
    refine ⟨_, PSs.nox ((pss_cons (ps_fld (pv 0) (pv 1) rfl) (pss_one (ps_fld (pv 0) (pv 2) rfl)))), ?_⟩
    refine ⟨_, rfl, _, rfl, p, _, dx, _, rfl, hp, T.c_Found, T.n_Found_rule, by decide, ?_⟩
    refine ⟨_, rfl, _, rfl, p, _, dx, _, rfl, upd_same, T.c_Found, T.n_Found_log, (show (1 : Nat) < 1000 by decide), ?_⟩
    refine k _ (fun b o hb e => ?_) upd_same
    rw [upd_ne hb, upd_ne hb]
    exact e
  · obtain ⟨u, rfl⟩ := List.length_eq_one_iff.mp l1
    obtain ⟨a, b, rfl⟩ : ∃ a b, ws = [a, b] := by
      match ws, l2 with
      | [a, b], _ => exact ⟨a, b, rfl⟩
    exact BindsTo.of_looks fun M => PySem.W.Looks.of_pure rfl
  · exact vals_rev r2
end
end K70
-- K70L13
namespace K70
open L2 PySem PySem.Spec PyProof.Rows StX
def ya : Str := Str.ofString "y"
def PVal (K : PySem.W.Frag) (H : Hp) (v : V) (d : PyData) : Prop := Dt K H v d ∧ ((Dp K H v d ∧ SeqAt.shaped d = true ∧ PyData.eqv (.str ya) d = false) ∨ ∃ a, v = .ref a ∧ H a = some (.dK [(.inr (Str.ofString "a"), .int 2)]))
theorem PVal.same {K : PySem.W.Frag} {H H' : Hp} {v : V} {d : PyData} (h : PVal K H v d) (s : Same H H') : PVal K H' v d :=
  ⟨h.1.same s, h.2.elim (fun z => .inl ⟨Dp_same s z.1, z.2⟩) fun ⟨a, e, z⟩ => .inr ⟨a, e, s _ _ z⟩⟩
theorem PVal.of {K : PySem.W.Frag} {H : Hp} {v : V} {d : PyData} (h : Dp K H v d) (b : (d.showable && !d.hasDict && decide (d.shown.length ≤ 1000) && decide (d.depth ≤ 8) && SeqAt.shaped d && !PyData.eqv (.str ya) d) = true) : PVal K H v d := by
  simp only [Bool.and_eq_true, Bool.not_eq_true', decide_eq_true_eq] at b
  obtain ⟨⟨⟨⟨⟨b1, b2⟩, b3⟩, b4⟩, b5⟩, b6⟩ := b
  exact ⟨.inl ⟨h, b1, b2, b3, b4, b5⟩, .inl ⟨h, b5, b6⟩⟩
theorem rAny_self {K : PySem.W.Frag} {H : Hp} {v : V} {d : PyData} {Q : VK} (h : PVal K H v d) (k : Q (.bl true) H) : rAny K v v H Q := by
  rcases h.2 with ⟨h1, h2, _⟩ | ⟨a, rfl, h1⟩
  · refine .inr (.inr (.inl ⟨d, d, h1, h1, h2, h2, ?_⟩))
    rw [eqv_shaped h2]
    exact k
  · refine .inr (.inr (.inr (.inl ⟨a, a, _, _, rfl, rfl, h1, h1, rfl, fun p hp => ?_, k⟩)))
    rw [List.mem_singleton.mp hp]
    exact ⟨rfl, rfl⟩
theorem rAny_y {K : PySem.W.Frag} {H : Hp} {v : V} {d : PyData} {Q : VK} (h : PVal K H v d) (k : Q (.bl false) H) : rAny K (.str ya) v H Q := by
  rcases h.2 with ⟨h1, h2, h3⟩ | ⟨a, rfl, h1⟩
  · refine .inr (.inr (.inl ⟨.str ya, d, .str ya, h1, by decide +kernel, h2, ?_⟩))
    rw [h3]
    exact k
  · exact .inr (.inr (.inr (.inr ⟨ya, a, _, rfl, rfl, h1, k⟩)))
def offQ (p : Addr) (H : Hp) : Hp := fun b => if b = p then none else H b
theorem offQ_on {p : Addr} {H : Hp} : Same (offQ p H) H := fun b o e => by
  unfold offQ at e
  split at e
  · cases e
  · exact e
theorem offQ_to {p : Addr} {H H' : Hp} (s : SameQ p H H') : Same (offQ p H) H' := fun b o e => by
  unfold offQ at e
  split at e
  · cases e
  · rename_i n
    exact s b o n e
theorem offQ_at {p b : Addr} {H : Hp} {o : HO} (n : b ≠ p) (e : H b = some o) : offQ p H b = some o := (if_neg n).trans e
section
variable {K : PySem.W.Frag} {mg : Str → Option Value} {base : Heap} {P : Program} {w : World}
def sp__law_papers_right : List Env → Shared → Sp := fun _ _ vs H Q _ => ∃ (p : Addr) (n : Nat), vs = [.ref p] ∧ PenAt H p n ∧ n ≤ 900 ∧ ∀ H', SameQ p H H' → PenAt H' p (n + 2) → Q (.bl true) H'
theorem sc__law_papers_right : FnScope ["_law_pen_here", "_law_some", "_law_a", "_law_b", "_law_found", "_law_thing"] ["_law_pen_here"] (defScope s_law_papers_right) := ⟨rfl, rfl, rfl, by decide +kernel, rfl, by decide +kernel, by decide +kernel⟩
theorem ok__law_papers_right (T : Tx K mg) : FnG P w K mg base 8 (He.ga K "_law_papers_right") sp__law_papers_right := by
  have c__law_pick := ok__law_pick (P := P) (w := w) (base := base) T
  have c_Found := ok_Found_init (P := P) (w := w) (base := base) T
  obtain ⟨fdF, okF, kbF⟩ := found_kw (P := P) (w := w) (base := base) T
  refine fnG_of T.f_law_papers_right sc__law_papers_right (fun _ _ _ _ _ _ us hl => match us, hl with | [_], _ => rfl) (fun outer s vs H Q E h => ?_) (fun A outer s H vs Q E hr gd e0 h => ?_)
  · obtain ⟨p, n, rfl, _⟩ := h
    rfl
  · obtain ⟨p, n, rfl, hp, hn, k⟩ := h
    refine ⟨_, (pss_cons (ps_set (i := 1) sc__law_papers_right.nd rfl (Or.inl rfl) (pe_lst (pa_cons pe_non (pa_cons pe_int (pa_cons pe_str (pa_cons (pe_tup pa_nil) (pa_cons (pe_tup (pa_cons pe_str pa_nil)) (pa_cons (pe_lst (pa_cons pe_int pa_nil)) (pa_cons (pe_disp (pps_cons pe_str pe_int pps_nil) rfl rfl (by simp) (by decide)) (pa_cons (pe_op op_pow pe_int pe_int) pa_nil))))))))))
      (pss_cons (ps_par (i := 2) (j := 3) (by rfl) sc__law_papers_right.nd rfl rfl (by decide) rfl rfl (pa_cons (pe_f c__law_pick (hr.mono (by decide)) (pa_cons (pv 0) (pa_cons (pv 1) pa_nil))) (pa_cons (pe_f c__law_pick (hr.mono (by decide)) (pa_cons (pv 0) (pa_cons (pv 1) pa_nil))) pa_nil)) (by rfl))
      (pss_cons (ps_set (i := 4) sc__law_papers_right.nd rfl (Or.inr rfl) (pe_makeK0 T.mk_Found okF (hr.mono (by decide)) (by rfl) T.g_Found kbF pass0 (pk_cons (pv 3) (pk_cons (pv 2) pk_nil))))
      (pss_cons (ps_if (PW.pt (pw_or (pt_cmpR op_ne (pe_callB (call_repr2 gd hr.units) (by rfl) T.b_repr (by decide +kernel) (pa_cons (pe_lst (pa_cons (pe_fld (pv 4) rfl) (pa_cons (pe_fld (pv 4) rfl) pa_nil))) pa_nil)) (pe_callB (call_repr2 gd hr.units) (by rfl) T.b_repr (by decide +kernel) (pa_cons (pe_lst (pa_cons (pv 2) (pa_cons (pv 3) pa_nil))) pa_nil)) (nomark _)) (pw_or (pt_cmpR (op_neB (rcN_own T.m_Found_eq (mtd_run (ok_Found_eq T)) T.x_Found_object T.x_Found__ne) (hr.mono (by decide))) (pv 4) (pe_mk' c_Found (hr.mono (by decide)) (pa_cons (pv 2) (pa_cons (pv 3) pa_nil))) (nomark _)) (pw_or1 (pt_not (pt_truthR (pv 4) (tru_plain T.x_Found__bool T.x_Found__len) (fun _ => rfl))))))) (pss_one (ps_ret pe_bl)) pss_nil)
      (pss_one (ps_ret (pe_cmpR (op_eqD hr.units) (pe_lc (own := [("_law_thing", 5)]) (g := gName 5) (tt := tTest (tOp (rEqB fun x y b H => DOwn (He.ga K "Found") (sp_Found_eq K) x y b H ∨ DBefore K (He.ga K "Found") (sp_Found_eq K) x y b H) (tVar 5) (tVar 4))) (by rfl) sc__law_papers_right.nd (pi_list (pe_lst (pa_cons (pe_mk' c_Found (hr.mono (by decide)) (pa_cons pe_str (pa_cons (pv 3) pa_nil))) (pa_cons (pe_mk' c_Found (hr.mono (by decide)) (pa_cons (pv 2) (pa_cons pe_str pa_nil))) (pa_cons (pe_tup (pa_cons (pv 2) (pa_cons (pv 3) pa_nil))) (pa_cons pe_non pa_nil)))))) (blkOk_by (N := ["_law_pen_here", "_law_some", "_law_a", "_law_b", "_law_found", "_law_thing"]) (sc := defScope s_law_papers_right) (by decide +kernel)) (fun _ _ _ _ _ => (pg_name (i := 5) sc__law_papers_right.nd rfl (Or.inl rfl))) (fun _ _ _ _ _ => pts_one (pt_cmpR (op_eqB (RcB.or (rcB_own T.m_Found_eq (mtd_run (ok_Found_eq T))) (rcB_before T.m_Found_eq (mtd_run (ok_Found_eq T)) T.x_Found__tuple T.x_Found__NoneType)) (hr.mono (by decide))) (pv 5) (pv 4) (nomark _))) (fun _ _ _ _ _ => (pv 5))) (pe_lst pa_nil) (nomark _)))))))), ?_⟩
    have z8 : 100 ≤ sizeLine := by rw [sizeLine_eq]; decide
    obtain ⟨u0, hu0⟩ : ∃ u, H p = some (.lst u) := by
      obtain ⟨l, cs, i, lf, h, _⟩ := id hp
      exact ⟨_, h⟩
    refine ⟨by show 0 ≤ sizeLine; omega, fun t0 h0 => ?_⟩
    have s1 : Same H (upd H t0 (.tup [])) := Same.put h0
    have f0 : upd H t0 (.tup []) t0 = some (.tup []) := upd_same
    have n0 := ne_of_none hu0 h0
    have hu1 := s1 _ _ hu0
    generalize upd H t0 (.tup []) = H1 at *
    refine ⟨by show 1 ≤ sizeLine; omega, fun t1 h1 => ?_⟩
    have s2 : Same H1 (upd H1 t1 (.tup [.str (Str.ofString "a")])) := Same.put h1
    have f1 : upd H1 t1 (.tup [.str (Str.ofString "a")]) t1 = some (.tup [.str (Str.ofString "a")]) := upd_same
    have n1 := ne_of_none hu1 h1
    have hu2 := s2 _ _ hu1
    have f0 := s2 _ _ f0
    generalize upd H1 t1 (.tup [.str (Str.ofString "a")]) = H2 at *
    refine ⟨by show 1 ≤ sizeLine; omega, fun l1 h2 => ?_⟩
    have s3 : Same H2 (upd H2 l1 (.lst [.int 1])) := Same.put h2
    have f2 : upd H2 l1 (.lst [.int 1]) l1 = some (.lst [.int 1]) := upd_same
    have n2 := ne_of_none hu2 h2
    have hu3 := s3 _ _ hu2
    have f0 := s3 _ _ f0
    have f1 := s3 _ _ f1
    generalize upd H2 l1 (.lst [.int 1]) = H3 at *
    refine fun d1 h3 => ⟨upd_same, [(.inr (Str.ofString "a"), .int 2)], rfl, by decide, ?_⟩
    have s4 : Same H3 (upd (upd H3 d1 (.dK [])) d1 (.dK (mergeK [] [(.inr (Str.ofString "a"), .int 2)]))) := fun b o e => by
      have nb := ne_of_none e h3
      rw [upd_ne nb, upd_ne nb]
      exact e
    have f3 : upd (upd H3 d1 (.dK [])) d1 (.dK (mergeK [] [(.inr (Str.ofString "a"), .int 2)])) d1 = some (.dK [(.inr (Str.ofString "a"), .int 2)]) := upd_same
    have n3 := ne_of_none hu3 h3
    have hu4 := s4 _ _ hu3
    have f0 := s4 _ _ f0
    have f1 := s4 _ _ f1
    have f2 := s4 _ _ f2
    generalize upd (upd H3 d1 (.dK [])) d1 (.dK (mergeK [] [(.inr (Str.ofString "a"), .int 2)])) = H4 at *
    refine ⟨_, _, rfl, rfl, ⟨by decide, by decide, by decide⟩, by show 8 ≤ sizeLine; omega, fun L hL => ?_⟩
    rw [show upd H4 L (.lst [.non, .int 0, .str (Str.ofString "x"), .ref t0, .ref t1, .ref l1, .ref d1, (fun i j : Int => V.int (i ^ j.toNat)) 10 30]) = upd H4 L (.lst [.non, .int 0, .str (Str.ofString "x"), .ref t0, .ref t1, .ref l1, .ref d1, .int (10 ^ 30)]) from rfl]
    have s5 : Same H4 (upd H4 L (.lst [.non, .int 0, .str (Str.ofString "x"), .ref t0, .ref t1, .ref l1, .ref d1, .int (10 ^ 30)])) := Same.put hL
    have fL : upd H4 L (.lst [.non, .int 0, .str (Str.ofString "x"), .ref t0, .ref t1, .ref l1, .ref d1, .int (10 ^ 30)]) L = some (.lst [.non, .int 0, .str (Str.ofString "x"), .ref t0, .ref t1, .ref l1, .ref d1, .int (10 ^ 30)]) := upd_same
    have nL := ne_of_none hu4 hL
    have f0 := s5 _ _ f0
    have f1 := s5 _ _ f1
    have f2 := s5 _ _ f2
    have f3 := s5 _ _ f3
    have S5 : Same H (upd H4 L (.lst [.non, .int 0, .str (Str.ofString "x"), .ref t0, .ref t1, .ref l1, .ref d1, .int (10 ^ 30)])) := s1.trans (s2.trans (s3.trans (s4.trans s5)))
    change Same H (upd H4 L (.lst [.non, .int 0, .str (Str.ofString "x"), .ref t0, .ref t1, .ref l1, .ref d1, .int (10 ^ 30)])) at S5
    generalize hH5 : upd H4 L (.lst [.non, .int 0, .str (Str.ofString "x"), .ref t0, .ref t1, .ref l1, .ref d1, .int (10 ^ 30)]) = H5 at *
    have hp5 := hp.same S5
    have vals : ∀ (i : Nat) v, ([.non, .int 0, .str (Str.ofString "x"), .ref t0, .ref t1, .ref l1, .ref d1, .int (10 ^ 30)] : List V)[i]? = some v → ∃ d, PVal K (offQ p H5) v d := fun i v hv => by
      rcases i with _ | _ | _ | _ | _ | _ | _ | _ | i
      · obtain rfl : V.non = v := by simpa using hv
        exact ⟨_, PVal.of .non (by decide +kernel)⟩
      · obtain rfl : V.int 0 = v := by simpa using hv
        exact ⟨_, PVal.of (.int 0) (by decide +kernel)⟩
      · obtain rfl : V.str (Str.ofString "x") = v := by simpa using hv
        exact ⟨_, PVal.of (.str _) (by decide +kernel)⟩
      · obtain rfl : V.ref t0 = v := by simpa using hv
        exact ⟨_, PVal.of (.tup (SqT.of (offQ_at n0.symm f0)) .nil) (by decide +kernel)⟩
      · obtain rfl : V.ref t1 = v := by simpa using hv
        exact ⟨_, PVal.of (.tup (SqT.of (offQ_at n1.symm f1)) (.cons (.str _) .nil)) (by decide +kernel)⟩
      · obtain rfl : V.ref l1 = v := by simpa using hv
        exact ⟨_, PVal.of (.lst (SqL.of (offQ_at n2.symm f2)) (.cons (.int 1) .nil)) (by decide +kernel)⟩
      · obtain rfl : V.ref d1 = v := by simpa using hv
        exact ⟨_, .inr ⟨d1, rfl, offQ_at n3.symm f3, rfl⟩, .inr ⟨d1, rfl, offQ_at n3.symm f3⟩⟩
      · obtain rfl : V.int (10 ^ 30) = v := by simpa using hv
        exact ⟨_, PVal.of (.int _) (by decide +kernel)⟩
      · simp at hv
    generalize hxs : ([.non, .int 0, .str (Str.ofString "x"), .ref t0, .ref t1, .ref l1, .ref d1, .int (10 ^ 30)] : List V) = xs at *
    have xne : xs ≠ [] := by rw [← hxs]; simp
    have xlen : xs.length ≤ 1000 := by rw [← hxs]; show 8 ≤ 1000; decide
    refine ⟨_, rfl, _, rfl, p, L, xs, n, rfl, .inl fL, xne, xlen, nL.symm, hp5, by omega, fun H6 i va sq6 pen6 hva => ?_⟩
    obtain ⟨da, pa⟩ := vals i va hva
    refine ⟨_, rfl, _, rfl, p, L, xs, n + 1, rfl, .inl (sq6 _ _ nL.symm fL), xne, xlen, nL.symm, pen6, by omega, fun H7 j vb sq7 pen7 hvb => ⟨_, _, rfl, ?_⟩⟩
    obtain ⟨db, pb⟩ := vals j vb hvb
    have Sq := (SameQ.of S5).trans (sq6.trans sq7)
    have pa := pa.same (offQ_to (sq6.trans sq7))
    have pb := pb.same (offQ_to (sq6.trans sq7))
    refine ⟨_, rfl, _, rfl, rfl, rfl, fun x dx hx hd ne => ?_⟩
    show sp_Found_init K [.ref x, va, vb] _ _ _
    refine found_made hx hd ne fun H8 s8 hF => ⟨rfl, ?_⟩
    have pa8 := pa.same s8
    have pb8 := pb.same s8
    have pen8 := pen7.same s8
    have Sq8 := Sq.trans (.of s8)
    -- repr
    refine ⟨_, rfl, x, _, dx, _, _, rfl, hF, T.c_Found, T.n_Found_rule, rfl, _, rfl, x, _, dx, _, _, rfl, hF, T.c_Found, T.n_Found_log, rfl, by show 2 ≤ sizeLine; omega, fun L1 hL1 => ⟨L1, va, vb, da, db, rfl, upd_same, (pa8.same (Same.put hL1)).1, (pb8.same (Same.put hL1)).1, ?_⟩⟩
    have s9 : Same H8 (upd H8 L1 (.lst [va, vb])) := Same.put hL1
    generalize upd H8 L1 (.lst [va, vb]) = H9 at *
    refine ⟨_, rfl, _, rfl, by show 2 ≤ sizeLine; omega, fun L2 hL2 => ⟨L2, va, vb, da, db, rfl, upd_same, ((pa8.same s9).same (Same.put hL2)).1, ((pb8.same s9).same (Same.put hL2)).1, ?_⟩⟩
    have s10 := s9.trans (Same.put (o := .lst [va, vb]) hL2)
    have hF10 := s10 _ _ hF
    have pa10 := pa8.same s10
    have pb10 := pb8.same s10
    generalize upd H9 L2 (.lst [va, vb]) = H10 at *
    refine ⟨rfl, _, rfl, niT rfl ?_⟩
    refine ⟨_, rfl, _, rfl, _, rfl, fun x2 dx2 hx2 hd2 ne2 => found_made hx2 hd2 ne2 fun H11 s11 hF2 => ⟨rfl, ?_⟩⟩
    have hF11 := s11 _ _ hF10
    have pa11 := pa10.same s11
    have pb11 := pb10.same s11
    have S11 := s10.trans s11
    refine ⟨true, ⟨x, x2, dx, dx2, _, _, rfl, rfl, hF11, hF2, fun Q0 k0 => ⟨x, dx, va, vb, _, rfl, hF11, .inr ⟨x2, dx2, va, vb, rfl, hF2, rAny_self pa11 ⟨true, rfl, iteT (rAny_self pb11 ⟨true, rfl, k0 _ (Same.refl _)⟩)⟩⟩⟩⟩, fun H12 s12 => ?_⟩
    have S12 := S11.trans s12
    have hF12 := s12 _ _ hF11
    refine ⟨_, rfl, iteF ⟨_, rfl, x, dx, _, rfl, hF12, iteF ?_⟩⟩
    have pa12 := pa11.same s12
    have pb12 := pb11.same s12
    refine ⟨_, rfl, fun x3 dx3 hx3 hd3 ne3 => found_made hx3 hd3 ne3 fun H13 s13 hF3 => ⟨rfl, ?_⟩⟩
    refine ⟨_, rfl, fun x4 dx4 hx4 hd4 ne4 => found_made hx4 hd4 ne4 fun H14 s14 hF4 => ⟨rfl, ?_⟩⟩
    refine ⟨_, rfl, _, rfl, by show 2 ≤ sizeLine; omega, fun tp htp => ?_⟩
    have s15 : Same H14 (upd H14 tp (.tup [va, vb])) := Same.put htp
    have hT15 : upd H14 tp (.tup [va, vb]) tp = some (.tup [va, vb]) := upd_same
    have t15 := s13.trans (s14.trans s15)
    have hF3 := (s14.trans s15) _ _ hF3
    have hF4 := s15 _ _ hF4
    generalize upd H14 tp (.tup [va, vb]) = H15 at *
    refine ⟨by show 4 ≤ sizeLine; omega, fun L4 hL4 => ?_⟩
    have s16 : Same H15 (upd H15 L4 (.lst [.ref x3, .ref x4, .ref tp, .non])) := Same.put hL4
    have fL4 : upd H15 L4 (.lst [.ref x3, .ref x4, .ref tp, .non]) L4 = some (.lst [.ref x3, .ref x4, .ref tp, .non]) := upd_same
    have t16 := t15.trans s16
    have hF3 := s16 _ _ hF3
    have hF4 := s16 _ _ hF4
    have hT16 := s16 _ _ hT15
    generalize upd H15 L4 (.lst [.ref x3, .ref x4, .ref tp, .non]) = H16 at *
    have hF16 := t16 _ _ hF12
    have pa16 := pa12.same t16
    have pb16 := pb12.same t16
    have dall : ∀ (i : Nat) y, ([.ref x3, .ref x4, .ref tp, .non] : List V)[i]? = some y → ∀ Hq, Same H16 Hq → DOwn (He.ga K "Found") (sp_Found_eq K) y (.ref x) false Hq ∨ DBefore K (He.ga K "Found") (sp_Found_eq K) y (.ref x) false Hq := fun i y hy Hq sq => by
      have fx := sq _ _ hF16
      rcases i with _ | _ | _ | _ | i
      · obtain rfl : V.ref x3 = y := by simpa using hy
        exact .inl ⟨x3, x, dx3, dx, _, _, rfl, rfl, sq _ _ hF3, fx, fun Q0 k0 => ⟨x3, dx3, _, _, _, rfl, sq _ _ hF3, .inr ⟨x, dx, va, vb, rfl, fx, rAny_y (pa16.same sq) ⟨false, rfl, iteF (k0 _ (Same.refl _))⟩⟩⟩⟩
      · obtain rfl : V.ref x4 = y := by simpa using hy
        exact .inl ⟨x4, x, dx4, dx, _, _, rfl, rfl, sq _ _ hF4, fx, fun Q0 k0 => ⟨x4, dx4, _, _, _, rfl, sq _ _ hF4, .inr ⟨x, dx, va, vb, rfl, fx, rAny_self (pa16.same sq) ⟨true, rfl, iteT (rAny_y (pb16.same sq) ⟨false, rfl, k0 _ (Same.refl _)⟩)⟩⟩⟩⟩
      · obtain rfl : V.ref tp = y := by simpa using hy
        exact .inr ⟨x, dx, _, rfl, fx, .inl ⟨tp, _, rfl, SqT.of (sq _ _ hT16)⟩, fun Q0 k0 => ⟨x, dx, va, vb, _, rfl, fx, .inl ⟨_, SqT.tyx (SqT.of (sq _ _ hT16)), T.x_Found__ktuple, k0 _ (Same.refl _)⟩⟩⟩
      · obtain rfl : V.non = y := by simpa using hy
        exact .inr ⟨x, dx, _, rfl, fx, .inr rfl, fun Q0 k0 => ⟨x, dx, va, vb, _, rfl, fx, .inl ⟨_, .base .non, T.x_Found__kNone, k0 _ (Same.refl _)⟩⟩⟩
      · simp at hy
    refine ⟨L4, rfl, ⟨_, SqL.of fL4⟩, fun D hD => lc_listF (xs := [.ref x3, .ref x4, .ref tp, .non]) (fun _ => false) hD (SqL.of fL4) (by show 4 ≤ sizeLine; omega) (fun i y H17 hy s17 Qk kt kf => ?_) fun H17 s17 e17 => ?_⟩
    · exact ⟨rfl, _, rfl, _, rfl, false, dall i y hy H17 s17, fun H18 s18 => ⟨_, rfl, iteF (kf H18 s18 rfl)⟩⟩
    · have e17 : H17 D = some (.lst []) := e17
      refine ⟨Nat.zero_le _, fun E0' hE0 => ?_⟩
      have s18 : Same H17 (upd H17 E0' (.lst [])) := Same.put hE0
      refine ⟨.list [], .list [], .lst (SqL.of (s18 _ _ e17)) .nil, .lst (SqL.of upd_same) .nil, by decide +kernel, by decide +kernel, ?_⟩
      have t18 := S12.trans (t16.trans (s17.trans s18))
      exact k _ (Sq8.trans (.of t18)) (pen8.same t18)
end
end K70
-- K70M1
/-! the shapes that the law draws, by computation -/
namespace K70
open L2 PySem PySem.Spec PyProof.Rows
def plOfS (x : List Int × Nat × Nat) : List PR := unlikeP (plainsW x.1 x.2.1 x.2.2)
theorem rules_are : ∀ x ∈ shapesW, (plOfS x).map nfP = rulesW x.1 x.2.1 x.2.2 := by decide +kernel
def nfOkB (x : List Int × Nat × Nat) (P : PR) : Bool := decide ((nfP P).a.length ≤ x.2.1) && decide (x.2.2 % (nfP P).t.length = 0) && decide (1 ≤ (nfP P).t.length) && (List.range 8).all fun n => decide (wtR P n = wtR (nfP P) n)
theorem nf_are : ∀ x ∈ shapesW, (plainsW x.1 x.2.1 x.2.2).all (nfOkB x) = true := by decide +kernel
end K70
-- K70M2
/-! what told_back finds fits and is alike; the shapes' rules -/
namespace K70
open L2 PySem PySem.Spec PyProof.Rows
theorem alike_self (r : PR) : alikeB r r = true := alikeB_iff.mpr fun a b h => sss_meets h rfl
theorem partR_all {r0 : PR} {l : List PR} (h : partR r0 l = none) : ∀ r ∈ l, alikeB r0 r = true := by
  induction l with
  | nil => intro r hr; cases hr
  | cons s l ih =>
    rw [partR_cons] at h
    cases e : partP r0 s with
    | some z => (rw [e] at h; cases h)
    | none =>
      rw [e] at h
      intro r hr
      rcases List.mem_cons.mp hr with hr | hr
      · rw [hr]
        exact List.isEmpty_iff.mpr (minP_none (show minP (splitP (limT r0 s)) = none from e))
      · exact ih h r hr
theorem partR_in {r0 : PR} {a b : Nat} {l : List PR} (h : partR r0 l = some (a, b)) : ∃ r ∈ l, SSS (limT r0 r) a b := by
  induction l with
  | nil => cases h
  | cons r l ih =>
    rw [partR_cons] at h
    cases e : partP r0 r with
    | none =>
      rw [e] at h
      obtain ⟨r', m, q⟩ := ih h
      exact ⟨r', List.mem_cons_of_mem _ m, q⟩
    | some z =>
      rw [e] at h
      have h : z = (a, b) := Option.some.inj h
      rw [h] at e
      exact ⟨r, List.mem_cons_self, splitP_mem.mp (minP_some (show minP (splitP (limT r0 r)) = some (a, b) from e)).1⟩
structure ToldOk (h : PR) (rs : List PR) (r0 : PR) (new : List Ent) : Prop where
  mem : r0 ∈ rs
  fit0 : new.all (entIs r0) = true
  fith : new.all (entIs h) = true
  rest : ∀ r ∈ rs, new.all (entIs r) = true → alikeB r0 r = true
  few : new.length ≤ rs.length
  ok : ∀ e ∈ new, EntOk e
theorem told_spec (h : PR) : ∀ (n : Nat) (rs : List PR) (es : List Ent), rs.length ≤ n → h ∈ rs → ∃ r0 new, toldF (meets h) n rs es = (r0, es ++ new) ∧ ToldOk h rs r0 new := by
  intro n
  induction n with
  | zero =>
    intro rs es hl hm
    have : rs = [] := List.length_eq_zero_iff.mp (by omega)
    rw [this] at hm
    cases hm
  | succ n ih =>
    intro rs es hl hm
    obtain ⟨r0, rt, rfl⟩ : ∃ a b, rs = a :: b := by
      cases rs with
      | nil => cases hm
      | cons a b => exact ⟨a, b, rfl⟩
    cases e : partR r0 rt with
    | none =>
      refine ⟨r0, [], ?_, List.mem_cons_self, rfl, rfl, fun r hr _ => ?_, Nat.zero_le _, fun e h => nomatch h⟩
      · rw [List.append_nil]
        exact toldF_done (rs := r0 :: rt) e
      · rcases List.mem_cons.mp hr with hr | hr
        · rw [hr]; exact alike_self r0
        · exact partR_all e r hr
    | some p =>
      obtain ⟨a, b⟩ := p
      obtain ⟨r1, hr1, sss⟩ := partR_in e
      obtain ⟨lab, la⟩ := sss_lt sss
      have df := sss_meets sss
      have hin : h ∈ stepL (meets h) (r0 :: rt) (a, b) := List.mem_filter.mpr ⟨hm, by simp⟩
      have less : (stepL (meets h) (r0 :: rt) (a, b)).length < (r0 :: rt).length := by
        cases c1 : (meets r0 b a == meets h b a) with
        | false => exact filter_less (x := r0) List.mem_cons_self c1
        | true =>
          refine filter_less (x := r1) (List.mem_cons_of_mem _ hr1) ?_
          show (meets r1 b a == meets h b a) = false
          have := beq_iff_eq.mp c1
          rw [this] at df
          exact beq_false_of_ne (Ne.symm df)
      obtain ⟨q0, new, hq, ok⟩ := ih (stepL (meets h) (r0 :: rt) (a, b)) (es ++ [(b, a, meets h b a)]) (by omega) hin
      have fit : ∀ r, entIs r (b, a, meets h b a) = (meets r b a == meets h b a) := fun r => rfl
      have big : ∀ c : Nat, c < 2 ^ 64 → c ≤ 10 ^ 30 := fun c h => Nat.le_of_lt (Nat.lt_of_lt_of_le h (by decide))
      refine ⟨q0, (b, a, meets h b a) :: new, ?_, (List.mem_filter.mp ok.mem).1, ?_, ?_, fun r hr hall => ?_, ?_, fun e he => ?_⟩
      · rw [toldF_step (rs := r0 :: rt) e, hq, List.append_assoc]
        rfl
      · rw [List.all_cons, fit, ok.fit0, Bool.and_true]
        exact (List.mem_filter.mp ok.mem).2
      · rw [List.all_cons, fit, ok.fith, Bool.and_true]
        simp
      · rw [List.all_cons, fit] at hall
        have hall := Bool.and_eq_true_iff.mp hall
        exact ok.rest r (List.mem_filter.mpr ⟨hr, hall.1⟩) hall.2
      · have := ok.few
        rw [List.length_cons]
        omega
      · rcases List.mem_cons.mp he with he | he
        · rw [he]
          exact ⟨big _ (by omega), big _ la⟩
        · exact ok.ok e he
end K70
-- K70M3
/-! the plain rules of a shape: what the walks want of them -/
namespace K70
open L2 PySem PySem.Spec PyProof.Rows
theorem shape_ok : ∀ x ∈ shapesW, (1 ≤ x.1.length ∧ x.1.length ≤ 5 ∧ (∀ q ∈ x.1, 2 ≤ q ∧ q ≤ 32) ∧ prodI x.1 ≤ 4 ∧ 2 ≤ prodI x.1) ∧ 1 ≤ x.2.2 ∧ x.2.1 + x.2.2 ≤ 4 ∧ x.2.1 + x.2.2 * ((prodI x.1).toNat * (prodI x.1).toNat) ≤ 64 ∧ (prodI x.1).toNat ^ (x.2.1 + x.2.2) ≤ 27 := by decide +kernel
theorem shape_mod {x : List Int × Nat × Nat} (h : x ∈ shapesW) : ModOk x.1 := by
  obtain ⟨⟨h1, h2, h3, h4, _⟩, _⟩ := shape_ok x h
  exact ⟨h1, h2, h3, by omega⟩
theorem addU_sub {acc : List PR} {P : PR} : ∀ Q ∈ addU acc P, Q ∈ acc ∨ Q = P := fun Q h => by
  unfold addU at h
  split at h
  · exact .inl h
  · (rcases List.mem_append.mp h with h | h)
    · exact .inl h
    · (exact .inr (List.mem_singleton.mp h))
theorem unlike_sub {Ps : List PR} : ∀ Q ∈ unlikeP Ps, Q ∈ Ps := by
  have go : ∀ (l acc : List PR), ∀ Q ∈ l.foldl addU acc, Q ∈ acc ∨ Q ∈ l := by
    intro l
    induction l with
    | nil => exact fun acc Q h => .inl h
    | cons P l ih =>
      intro acc Q h
      rcases ih _ Q h with h | h
      · rcases addU_sub Q h with h | h
        · exact .inl h
        · exact .inr (h ▸ List.mem_cons_self)
      · exact .inr (List.mem_cons_of_mem _ h)
  intro Q h
  rcases go Ps [] Q h with h | h
  · cases h
  · exact h
theorem plains_each {x : List Int × Nat × Nat} (hx : x ∈ shapesW) {P : PR} (h : P ∈ plainsW x.1 x.2.1 x.2.2) : P.m = x.1 ∧ P.a.length = x.2.1 ∧ P.t.length = x.2.2 ∧ PlOk P := by
  obtain ⟨⟨h1, h2, h3, h4, h5⟩, h6, h7, _⟩ := shape_ok x hx
  unfold plainsW at h
  obtain ⟨row, hr, rfl⟩ := List.mem_map.mp h
  obtain ⟨len, each⟩ := rowsW_each _ _ row hr
  have b0 : ((prodI x.1).toNat : Int) = prodI x.1 := by omega
  rw [b0] at each
  have la : (row.take x.2.1).length = x.2.1 := by rw [List.length_take]; omega
  have lt : (row.drop x.2.1).length = x.2.2 := by rw [List.length_drop]; omega
  refine ⟨rfl, la, lt, ⟨shape_mod hx, fun b hb => each b (List.mem_of_mem_take hb), fun b hb => each b (List.mem_of_mem_drop hb), fun z => ?_, ?_⟩⟩
  · have z : row.drop x.2.1 = [] := z
    rw [z] at lt
    simp at lt
    omega
  · show (row.take x.2.1).length + (row.drop x.2.1).length ≤ 24
    omega
theorem nf_of {x : List Int × Nat × Nat} (hx : x ∈ shapesW) {P : PR} (h : P ∈ plainsW x.1 x.2.1 x.2.2) : (nfP P).a.length ≤ x.2.1 ∧ (nfP P).t.length ∣ x.2.2 ∧ NfP P := by
  obtain ⟨_, h6, h7, _⟩ := shape_ok x hx
  obtain ⟨e1, la, lt, ok⟩ := plains_each hx h
  have b := List.all_eq_true.mp (nf_are x hx) P h
  unfold nfOkB at b
  simp only [Bool.and_eq_true, decide_eq_true_eq, List.all_eq_true, List.mem_range] at b
  obtain ⟨⟨⟨b1, b2⟩, b3⟩, b4⟩ := b
  have dv : (nfP P).t.length ∣ x.2.2 := Nat.dvd_of_mod_eq_zero b2
  refine ⟨b1, dv, ok, fun n => ?_⟩
  by_cases c : n < 8
  · exact b4 n c
  · have en : n = x.2.1 + (n - x.2.1) % x.2.2 + x.2.2 * ((n - x.2.1) / x.2.2) := by
      have := Nat.mod_add_div (n - x.2.1) x.2.2
      omega
    have lo : (n - x.2.1) % x.2.2 < x.2.2 := Nat.mod_lt _ (by omega)
    rw [en, wtR_pers (r := P) (n := x.2.1 + (n - x.2.1) % x.2.2) (M := x.2.2) (by omega) (by rw [lt]; exact Nat.dvd_refl _), wtR_pers (r := nfP P) (n := x.2.1 + (n - x.2.1) % x.2.2) (M := x.2.2) (by omega) dv]
    exact b4 _ (by omega)
theorem small_of {x : List Int × Nat × Nat} (hx : x ∈ shapesW) {P P' : PR} (h : P ∈ plainsW x.1 x.2.1 x.2.2) (h' : P' ∈ plainsW x.1 x.2.1 x.2.2) : SmallP (nfP P) (nfP P') := by
  obtain ⟨⟨_, _, _, p4, p2⟩, h6, h7, h8, _⟩ := shape_ok x hx
  obtain ⟨e1, la, lt, ok⟩ := plains_each hx h
  obtain ⟨e1', la', lt', ok'⟩ := plains_each hx h'
  obtain ⟨a1, d1, _⟩ := nf_of hx h
  obtain ⟨a2, d2, _⟩ := nf_of hx h'
  have m1 : (nfP P).m = x.1 := e1
  have m2 : (nfP P').m = x.1 := e1'
  have lc : Nat.lcm (nfP P).t.length (nfP P').t.length ≤ x.2.2 := Nat.le_of_dvd (by omega) (Nat.lcm_dvd d1 d2)
  have mx : max (nfP P).a.length (nfP P').a.length ≤ x.2.1 := Nat.max_le.mpr ⟨a1, a2⟩
  refine ⟨mkR_ok ok.m ok.a ok.t ok.ne ok.few, mkR_ok ok'.m ok'.a ok'.t ok'.ne ok'.few, by rw [m1]; exact p4, by rw [m2]; exact p4, ?_, by omega⟩
  rw [m1, m2]
  have := Nat.mul_le_mul_right ((prodI x.1).toNat * (prodI x.1).toNat) lc
  omega
/-- the shape's rules are those of the plain rules that are unlike -/
theorem rules_of_shape {x : List Int × Nat × Nat} (hx : x ∈ shapesW) {r : PR} (h : r ∈ rulesW x.1 x.2.1 x.2.2) : ∃ P ∈ unlikeP (plainsW x.1 x.2.1 x.2.2), r = nfP P := by
  rw [← rules_are x hx] at h
  obtain ⟨P, hP, e⟩ := List.mem_map.mp h
  exact ⟨P, hP, e.symm⟩
theorem in_shape {x : List Int × Nat × Nat} (hx : x ∈ shapesW) {P : PR} (h : P ∈ plainsW x.1 x.2.1 x.2.2) : inSh ⟨x.1, x.2.1, x.2.2, rulesW x.1 x.2.1 x.2.2⟩ (nfP P) = true := by
  obtain ⟨e1, _⟩ := plains_each hx h
  obtain ⟨a1, d1, _⟩ := nf_of hx h
  unfold inSh
  (simp only [Bool.and_eq_true, decide_eq_true_eq])
  exact ⟨⟨e1, a1⟩, Nat.mod_eq_zero_of_dvd d1⟩
theorem plains_len {x : List Int × Nat × Nat} (hx : x ∈ shapesW) : (plainsW x.1 x.2.1 x.2.2).length ≤ 27 := by
  obtain ⟨_, _, _, _, h9⟩ := shape_ok x hx
  unfold plainsW
  rw [List.length_map, rowsW_len]
  exact h9
theorem unlike_len (Ps : List PR) : (unlikeP Ps).length ≤ Ps.length := by
  have go : ∀ (l acc : List PR), (l.foldl addU acc).length ≤ acc.length + l.length := by
    intro l
    induction l with
    | nil => exact fun acc => Nat.le_refl _
    | cons P l ih =>
      intro acc
      have h1 := ih (addU acc P)
      have h2 : (addU acc P).length ≤ acc.length + 1 := by
        unfold addU
        split
        · omega
        · rw [List.length_append]; exact Nat.le_refl _
      show (l.foldl addU (addU acc P)).length ≤ acc.length + (l.length + 1)
      omega
  have := go Ps []
  simpa [unlikeP] using this
theorem unlike_ne {x : List Int × Nat × Nat} (hx : x ∈ shapesW) : unlikeP (plainsW x.1 x.2.1 x.2.2) ≠ [] := by
  have key : ∀ x ∈ shapesW, (unlikeP (plainsW x.1 x.2.1 x.2.2)).length ≠ 0 := by decide +kernel
  intro z
  exact key x hx (by rw [z]; rfl)
/-! ### the law's own example -/
theorem odd_told : toldF (meets (mkR [2] [] [1])) 4 (rulesW [2] 1 1) [] = (mkR [2] [] [1], [(0, 2, false), (0, 1, false)]) := by decide +kernel
theorem odd_in : mkR [2] [] [1] ∈ rulesW [2] 1 1 := by decide +kernel
theorem odd_len : (rulesW [2] 1 1).length = 4 := by decide +kernel
end K70
-- K70End
/-! the end: the law is called from the top, one code table is tracked by what is true of it -/
namespace K70
open L2 PySem PySem.Spec PyProof.Rows
/-- how a table is tracked -/
def tabO (t1 : Addr) (b : Addr) : HO := if b = t1 then TabX t1 else .tbl #[]
theorem tabX_empty {P : Program} {w : World} {H : Hp} {h : Heap} {t : Addr} (e : h.get? t = some { cls := .none, data := .fields #[] }) : ObjOk P w H h t (TabX t) := tabX_ok e True.intro
theorem law_end {P : Program} {w : World} {K : PySem.W.Frag} {mg mb : Str → Option Value} {k : Nat} {fa a t1 : Addr} {cs : List (Addr × Addr)} {sp : List Env → Shared → Sp} {s₁k : Shared} {vs : List Value} {ns : List Int}
    (KX : K.In s₁k.heap) (hns : s₁k.heap.Ns mainGlobals mg) (hb : s₁k.heap.Ns builtinsNs mb) (hbb : ∀ x : Str, x ≠ "__name__" → mb x = bootBuiltins x) (hlim : s₁k.heap.NoLimit) (hg : s₁k.gens = #[])
    (hT : ∀ p ∈ cs, s₁k.heap.get? p.2 = some { cls := .none, data := .fields #[] }) (nT : ∀ p ∈ cs, K.lookup p.2 = none) (C : ∀ p ∈ cs, PySem.W.CodeHd s₁k.heap p.1 p.2)
    (hbm : ∃ (bmk : Addr) (ob : Obj), mg "__builtins__" = some (.ref bmk) ∧ bmk ≠ builtinsNs ∧ s₁k.heap.get? bmk = some ob ∧ ob.cls = .type "module" ∧ ob.dict = some builtinsNs ∧ ob.data = .plain)
    (ha : s₁k.heap.get? a = some { cls := .type "list", data := .seq vs.toArray }) (hi : IntsAre vs ns) (hl : ns.length ≤ sizeLine) (hr : Room k callerA)
    (F : ∀ base : Heap, K.In base → base.Ns mainGlobals mg → (∀ p ∈ cs, LamX.TabB base mg p.1 p.2) → FnG P w K mg base k fa sp)
    (hsp : ∀ H : Hp, (∀ p ∈ cs, H p.2 = some (tabO t1 p.2)) → SqL K H a (ns.map V.int) → sp [] s₁k [.ref a] H (fun v H' => v = .bl true ∧ ∀ p ∈ cs, p.2 = t1 → H' t1 = some (TabX t1)) E0) :
    codeAny (model P w) callerA (.call (.ref fa) ⟨[.ref a], []⟩) (fun r s' => r = .ok (.ret (.bool true)) ∧ OldK s₁k.heap s'.heap ∧ s'.os = s₁k.os ∧ AllBare s'.gens) s₁k := by
  have vals0 := vals_ints hi
  have cnt := hi.length
  have tabAt : ∀ b : Addr, b ∈ cs.map (·.2) → s₁k.heap.get? b = some { cls := .none, data := .fields #[] } := fun b m => by
    obtain ⟨p, hpk, rfl⟩ := List.mem_map.mp m
    exact hT p hpk
  have notT : a ∉ cs.map (·.2) := fun m => by
    have e := (tabAt a m).symm.trans ha
    cases e
  have inT : ∀ p ∈ cs, p.2 ∈ cs.map (·.2) := fun p hpk => List.mem_map_of_mem hpk
  have core : ∀ H : Hp, (∀ p ∈ cs, H p.2 = some (tabO t1 p.2)) → (∀ b, H b = none ∨ b ∈ cs.map (·.2) ∨ ∃ o xs, H b = some (.frz o (.lst xs))) → SqL K H a (ns.map V.int) → HOk P w H s₁k.heap → (∀ b, H b ≠ none → b = a ∨ b ∈ cs.map (·.2)) → (H a ≠ none → K.lookup a = none) →
      codeAny (model P w) callerA (.call (.ref fa) ⟨[.ref a], []⟩) (fun r s' => r = .ok (.ret (.bool true)) ∧ OldK s₁k.heap s'.heap ∧ s'.os = s₁k.os ∧ AllBare s'.gens) s₁k := by
    intro H hH hOk hS hok hA hKk
    have keep : ∀ {b : Addr} {o : Obj}, s₁k.heap.get? b = some o → H b = none → (hidT s₁k.heap H).get? b = some o := fun e n => hidT_get e n
    have offD : ∀ {b : Addr} {o : Obj}, s₁k.heap.get? b = some o → (∀ us n, o.data ≠ .seq us n) → o.data ≠ .fields #[] → H b = none := fun {b o} e h1 h2 => by
      cases q : H b with
      | none => rfl
      | some u =>
        exfalso
        rcases hA b (by rw [q]; simp) with z | z
        · subst z
          rw [ha] at e
          cases e
          exact h1 _ _ rfl
        · rw [tabAt b z] at e
          cases e
          exact h2 rfl
    have offA : ∀ {b : Addr} {o : Obj} {es : Array DictEntry} {ep : Nat}, s₁k.heap.get? b = some o → o.data = .dict es ep → H b = none := fun {b o es ep} e d =>
      offD e (fun us n z => by rw [d] at z; cases z) (fun z => by rw [d] at z; cases z)
    have nsK : ∀ {b : Addr} {m : Str → Option Value}, s₁k.heap.Ns b m → (hidT s₁k.heap H).Ns b m := fun {b m} ⟨o, es, ep, e, d, r⟩ => ⟨o, es, ep, keep e (offA e d), d, r⟩
    have kin : K.In (hidT s₁k.heap H) := fun b o e => keep (KX b o e) (by
      cases q : H b with
      | none => rfl
      | some u =>
        exfalso
        rcases hA b (by rw [q]; simp) with z | z
        · subst z
          rw [hKk (by rw [q]; simp)] at e
          cases e
        · obtain ⟨p, hpk, ep⟩ := List.mem_map.mp z
          subst ep
          rw [nT p hpk] at e
          cases e)
    have md : L2.Mod K mg (hidT s₁k.heap H) := ⟨kin, nsK hns, ⟨mb, nsK hb, hbb⟩, let ⟨mc, h1, h2⟩ := hlim; ⟨mc, nsK h1, h2⟩⟩
    have tb : ∀ p ∈ cs, LamX.TabB (hidT s₁k.heap H) mg p.1 p.2 := fun p hpk => by
      have t0 := hT p hpk
      refine ⟨?_, ?_, fun z => ?_⟩
      · obtain ⟨o, us, file, tf, flags, tg, inF, text, tt, e1, r1, r2, r3, r4, r5, r6, r7, r8, hne⟩ := C p hpk
        refine ⟨o, us, file, tf, flags, tg, inF, text, tt, keep e1 (offD e1 (fun us n z => by rw [r2] at z; cases z) (fun z => by
          rw [r2] at z
          cases z
          simp at r3)), r1, r2, r3, r4, r5, r6, r7, r8, hne⟩
      · obtain ⟨bmk, ob, b1, b2, b3, b4, b5, b6⟩ := hbm
        have nG : bmk ≠ mainGlobals := fun q => by
          subst q
          obtain ⟨o, es, ep, e, hdk, _⟩ := hns
          rw [e] at b3
          cases b3
          rw [hdk] at b6
          cases b6
        have nP : bmk ≠ p.2 := fun q => by
          subst q
          rw [t0] at b3
          cases b3
          cases b6
        exact ⟨bmk, ob, b1, b2, nG, nP, keep b3 (offD b3 (fun us n z => by rw [b6] at z; cases z) (fun z => by rw [b6] at z; cases z)), b4, b5, b6⟩
      · obtain ⟨o, es, ep, e, hdk, _⟩ := hns
        rw [z, t0] at e
        cases e
        cases hdk
    have e0 : Env0 P w K mg (hidT s₁k.heap H) callerA [] s₁k H := ⟨rfl, md, fun b o e => of_hidT e, Nat.le_of_eq (hidT_size _ _), trivial, fun b hb => absurd (show b ∈ ([] : List Addr) from hb) (by simp), hok, .of_eq hg⟩
    refine codeAny_mono ((F _ kin (nsK hns) tb) callerA [] s₁k H [.ref a] [.ref a] _ _ hr rfl e0 (.cons rfl .nil) (hsp H hH hS)) fun r s' h => ?_
    cases r with
    | error e => exact False.elim h
    | ok fl =>
      cases fl with
      | next => exact False.elim h
      | brk => exact False.elim h
      | cont => exact False.elim h
      | ret u =>
        obtain ⟨v, H', os, barek, un, hok', r'k, qv, qt⟩ := h
        subst qv
        obtain rfl : u = Value.bool true := r'k
        have key : ∀ b o, b ∉ cs.map (·.2) → s₁k.heap.get? b = some o → s'.heap.get? b = some o := fun b o nb e => by
          cases q : H b with
          | none => exact un.keep b o e q (fun z => absurd (show b ∈ ([] : List Addr) from z) (by simp)) (by simp)
          | some u =>
            rcases hOk b with z | z | ⟨ob, xs, z⟩
            · rw [q] at z; cases z
            · exact absurd z nb
            · obtain ⟨e1, _⟩ := hok b _ z
              obtain ⟨e2, _⟩ := hok' b _ (un.frzs b ob _ z)
              rw [e] at e1
              cases e1
              exact e2
        have grown : ∀ p ∈ cs, ∃ more : Array Value, s'.heap.get? p.2 = some { cls := .none, data := .fields more } := fun p hpk => by
          have hp2 := hH p hpk
          by_cases c : p.2 = t1
          · obtain ⟨⟨ps, e, _⟩, _⟩ := hok' t1 _ (qt p hpk c)
            rw [c]
            exact ⟨ps, e⟩
          · rw [show tabO t1 p.2 = .tbl #[] from if_neg c] at hp2
            obtain ⟨more, z⟩ := un.tbls p.2 #[] hp2
            exact ⟨_, hok' p.2 _ z⟩
        refine ⟨rfl, ⟨fun b o e => ?_, fun b o e => ?_⟩, os, barek⟩
        · by_cases m : b ∈ cs.map (·.2)
          · obtain ⟨p, hpk, ep⟩ := List.mem_map.mp m
            subst ep
            obtain ⟨more, hm⟩ := grown p hpk
            rw [hT p hpk] at e
            cases e
            exact .inr (.inl ⟨((C p hpk).tab (hT p hpk)).isCodeTable, rfl, #[], more, rfl, by rw [Array.empty_append]; exact hm⟩)
          · exact .inl (key b o m e)
        · by_cases m : b ∈ cs.map (·.2)
          · obtain ⟨p, hpk, ep⟩ := List.mem_map.mp m
            subst ep
            obtain ⟨more, hm⟩ := grown p hpk
            exact ⟨_, hm⟩
          · exact ⟨o, key b o m e⟩
  have tabOk : ∀ {H : Hp} (b : Addr), b ∈ cs.map (·.2) → ObjOk P w H s₁k.heap b (tabO t1 b) := fun {H} b m => by
    unfold tabO
    split
    · rename_i c
      subst c
      exact tabX_empty (tabAt b m)
    · exact tabAt b m
  cases hk : K.lookup a with
  | some o =>
    have e := KX a o hk
    rw [ha] at e
    cases e
    have pos : ∀ b, b ∈ cs.map (·.2) → (if b ∈ cs.map (·.2) then some (tabO t1 b) else none) = some (tabO t1 b) := fun b m => if_pos m
    have neg : ∀ b, b ∉ cs.map (·.2) → (if b ∈ cs.map (·.2) then some (tabO t1 b) else none) = none := fun b m => if_neg m
    refine core (fun b => if b ∈ cs.map (·.2) then some (tabO t1 b) else none) (fun p hpk => pos _ (inT p hpk)) (fun b => ?_) (.inr ⟨_, vs.toArray, _, hk, rfl, rfl, rfl, by rw [List.size_toArray, cnt]; exact hl, by simpa using vals0⟩) (fun b u z => ?_) (fun b z => ?_) fun z => absurd (neg a notT) z
    · by_cases m : b ∈ cs.map (·.2)
      · exact .inr (.inl m)
      · exact .inl (neg b m)
    · by_cases m : b ∈ cs.map (·.2)
      · obtain rfl := Option.some.inj ((pos b m).symm.trans z)
        exact tabOk b m
      · cases (neg b m).symm.trans z
    · by_cases m : b ∈ cs.map (·.2)
      · exact .inr m
      · exact absurd (neg b m) z
  | none =>
    obtain ⟨H0, at_, pos, neg⟩ : ∃ H0 : Hp, H0 a = some (.frz { cls := .type "list", data := .seq vs.toArray } (.lst (ns.map V.int))) ∧ (∀ b, b ∈ cs.map (·.2) → H0 b = some (tabO t1 b)) ∧ ∀ b, b ≠ a → b ∉ cs.map (·.2) → H0 b = none :=
      ⟨fun b => if b = a then some (.frz { cls := .type "list", data := .seq vs.toArray } (.lst (ns.map V.int))) else if b ∈ cs.map (·.2) then some (tabO t1 b) else none, if_pos rfl, fun b m => (if_neg (fun z => notT (by rw [← z]; exact m))).trans (if_pos m), fun b n m => (if_neg n).trans (if_neg m)⟩
    refine core H0 (fun p hpk => pos _ (inT p hpk)) (fun b => ?_) (.inl (.inr ⟨_, at_⟩)) (fun b u z => ?_) (fun b z => ?_) fun _ => hk
    · by_cases m : b ∈ cs.map (·.2)
      · exact .inr (.inl m)
      · by_cases n : b = a
        · subst n
          exact .inr (.inr ⟨_, _, at_⟩)
        · exact .inl (neg b n m)
    · by_cases n : b = a
      · subst n
        obtain rfl := Option.some.inj (at_.symm.trans z)
        exact ⟨ha, by rw [List.length_map]; exact hl, vs, _, vals0, ha⟩
      · by_cases m : b ∈ cs.map (·.2)
        · obtain rfl := Option.some.inj ((pos b m).symm.trans z)
          exact tabOk b m
        · cases (neg b n m).symm.trans z
    · by_cases n : b = a
      · exact .inl n
      · by_cases m : b ∈ cs.map (·.2)
        · exact .inr m
        · exact absurd (neg b n m) z
def LawG (l : PySem.W.OpenLaw) (w : World) (K : PySem.W.Frag) (k n : Nat) (mg : Str → Option Value) (fa : Addr) (h : Heap) : Prop :=
  ∃ (cs : List (Addr × Addr)) (t1 : Addr) (sp : List Env → Shared → Sp), (∀ p ∈ cs, h.get? p.2 = some { cls := .none, data := .fields #[] }) ∧ (∀ p ∈ cs, K.lookup p.2 = none) ∧ (∀ p ∈ cs, PySem.W.CodeHd h p.1 p.2) ∧
    (∀ (H : Hp) (a : Addr) (ns : List Int) (s₁ : Shared), ns.length ≤ n → (∀ p ∈ cs, H p.2 = some (tabO t1 p.2)) → SqL K H a (ns.map V.int) → sp [] s₁ [.ref a] H (fun v H' => v = .bl true ∧ ∀ p ∈ cs, p.2 = t1 → H' t1 = some (TabX t1)) E0) ∧
    ∀ base : Heap, K.In base → base.Ns mainGlobals mg → (∀ p ∈ cs, LamX.TabB base mg p.1 p.2) → FnG l.prog w K mg base k fa sp
theorem walk_k70 {l : PySem.W.OpenLaw} {n k : Nat} {q : Program} {loose : List Str} {XPk : (Str → Option Value) → Heap → Prop} {YP : World → Heap → Prop} {d : DefRec}
    (hn : l.most = some n) (hn2 : n ≤ sizeLine) (hdfk : d.params.defaults = []) (hr : Room k callerA)
    (F : ∀ (w : World) (mg : Str → Option Value) (fa : Addr) (h : Heap), YP w h → h.Ns mainGlobals mg → mg d.name = some (.ref fa) → ∃ K : PySem.W.Frag, K.In h ∧ LawG l w K k n mg fa h) :
    PySem.W.WalkO q loose XPk YP l.row.toRowW d [] (fun f vs => PySem.call f vs) := by
  refine Att.attach_callB hn hdfk fun w s₀ s₁ mg mb fa o pm cd doc a vs ns G Y ho hd hcd hmg hobj hints hlen hbits hg => ?_
  obtain ⟨K, KX, cs, t1, sp, hT, nT, C, hsp, hF⟩ := F w mg fa _ Y G.T.g hmg
  exact law_end KX G.T.g G.T.b G.T.builtins G.T.nolimit hg hT nT C G.T.bmain hobj hints (Nat.le_trans hlen hn2) hr hF (fun H hH hS => hsp H a ns s₁ hlen hH hS)
end K70
-- K70Nask
namespace K70
open L2 PySem PySem.Spec PyProof.Rows StX
open NdefX LamX
abbrev s_ask : Stmt := ((defBody s_law_right)[4]?).getD (.Pass default)
abbrev NA : List Str := ["_law_first_here", "_law_second", "_law_asked", "_law_rule_here"]
theorem nsc_ask : NScope NA ["_law_first_here", "_law_second"] ["_law_asked", "_law_rule_here"] (C8.fnScope s_ask) := nscope_by (by decide +kernel)
/-- what the asked function does -/
def spAsk (K : PySem.W.Frag) : List (Option V) → Sp := fun ws vs H Q _ => ∃ (q ry : Addr) (us : List V) (rh : PR) (a b : Nat), ws = [some (.ref q), some (.ref ry)] ∧ vs = [.int (a : Int), .int (b : Int)] ∧ H q = some (.lst us) ∧ us.length ≤ 100000 ∧ RuleAt K H ry rh ∧ ROk rh ∧ a ≤ 10 ^ 30 ∧ b ≤ 10 ^ 30 ∧
  ∀ H' t, SameQ q H H' → H' q = some (.lst (us ++ [.ref t])) → H' t = some (.tup [.int (a : Int), .int (b : Int)]) → Q (.bl (meets rh a b)) H'
section
variable {K : PySem.W.Frag} {mg : Str → Option Value} {base : Heap} {P : Program} {w : World}
theorem ask_body (T : Tx K mg) (F : NF) (f : Addr) (hsc : F.scope = C8.fnScope s_ask) (hbd : F.body = C8.fnBody s_ask) (hpar : F.params = C8.fnArgs s_ask) : NOk P w K mg base CX0 7 f F ["_law_first_here", "_law_second"] ["_law_asked", "_law_rule_here"] (spAsk K) := by
  obtain ⟨name, qual, params, body, scope, cl, c⟩ := F
  simp only at hsc hbd hpar
  subst hsc hbd hpar
  refine nok_of nsc_ask (fun doc pm ctv us hl => ?_) (fun ws vs H Q E h => ?_) fun A outer s H vs ws Q E hr hf hc hw h => ?_
  · match us, hl with
    | [_, _], _ => rfl
  · obtain ⟨q, ry, us, rh, a, b, rfl, rfl, _⟩ := h
    rfl
  · obtain ⟨q, ry, us, rh, a, b, rfl, rfl, hq, zu, hR, ok, la, lb, k⟩ := h
    have c_call := ok_Rule_call (P := P) (w := w) (base := base) T
    refine ⟨_, (pss_cons (ps_expr (pe_bm PySem.F.plainAttrs_list PySem.F.slot_list_append PySem.F.type_list_append mt_append (pv 2) (pa_cons (pe_tup (pa_cons (pv 0) (pa_cons (pv 1) pa_nil))) pa_nil)))
      (pss_one (ps_ret (pe_cmpR op_eq (pe_callI (pv 3) (rule_callO T) (mtd_run c_call) (hr.mono (by decide)) (pa_cons (pv 0) pa_nil)) (pe_callI (pv 3) (rule_callO T) (mtd_run c_call) (hr.mono (by decide)) (pa_cons (pv 1) pa_nil)) (nomark _))))), ?_⟩
    obtain ⟨dx, m, a1, t1, i1, _⟩ := id hR
    have big : ∀ c : Nat, c ≤ 10 ^ 30 → c < 2 ^ 1000 := fun c h => Nat.lt_of_le_of_lt h (by decide +kernel)
    refine ⟨_, rfl, .inl ⟨rfl, _, SqL.of hq⟩, _, rfl, _, rfl, by show 2 ≤ sizeLine; decide, fun t ht => ?_⟩
    have s1 : Same H (upd H t (.tup [.int (a : Int), .int (b : Int)])) := Same.put ht
    have h1 : upd H t (.tup [.int (a : Int), .int (b : Int)]) t = some (.tup [.int (a : Int), .int (b : Int)]) := upd_same
    have hq1 := s1 _ _ hq
    have hR1 := hR.same s1
    have i1 := s1 _ _ i1
    generalize upd H t (.tup [.int (a : Int), .int (b : Int)]) = H1 at *
    refine ⟨q, us, _, rfl, rfl, hq1, by rw [sizeLine_eq]; omega, ?_⟩
    have sq : SameQ q H1 (upd H1 q (.lst (us ++ [.ref t]))) := fun c o n e => (upd_ne n).trans e
    have nt : t ≠ q := ne_of h1 hq1 (fun z => nomatch z)
    have ht2 := sq _ _ nt h1
    have hq2 : upd H1 q (.lst (us ++ [.ref t])) q = some (.lst (us ++ [.ref t])) := upd_same
    have hR2 : RuleAt K (upd H1 q (.lst (us ++ [.ref t]))) ry rh := sq.rule ⟨_, hq1⟩ hR1
    have i2 := sq _ _ (ne_of i1 hq1 (fun z => nomatch z)) i1
    have SQ := (SameQ.of s1).trans sq
    generalize upd H1 q (.lst (us ++ [.ref t])) = H2 at *
    refine ⟨_, rfl, ry, rfl, _, rfl, ⟨dx, _, i2⟩, ry, rh, a, rfl, hR2, ok, big a la, fun H3 s3 => ?_⟩
    refine ⟨_, rfl, ry, rfl, _, rfl, ⟨dx, _, s3 _ _ i2⟩, ry, rh, b, rfl, hR2.same s3, ok, big b lb, fun H4 s4 => ⟨rfl, ?_⟩⟩
    have S := s3.trans s4
    have ev : decide (V.int (bankI rh.m (wtR rh) a) = V.int (bankI rh.m (wtR rh) b)) = meets rh a b := by
      rw [dec_int]
      rfl
    rw [ev]
    exact k H4 t (SQ.trans (.of S)) (S _ _ hq2) (S _ _ ht2)
end
end K70
-- K70AskOk
/-! the nested function as one that told_back may ask -/
namespace K70
open L2 PySem PySem.Spec PyProof.Rows NdefX LamX
theorem cells_off {X : Cx} {pins : List (Addr × Obj)} {σ : L2.St} {H : Hp} {s : Shared} (Ik : Inv X pins σ H s) (hs : X.stack = X.env :: X.outer) (hf : X.env.frame = some X.env.locals) (hfn : ∀ x, X.fn x = true) {y : Str} {c : Addr} (e : X.env.cells.lookup y = some c) : c ∉ frs X.stack := by
  intro m
  rw [hs] at m
  have m : c ∈ (X.env :: X.outer).filterMap (·.frame) := m
  rw [List.filterMap_cons_some hf] at m
  rcases List.mem_cons.mp m with z | z
  · obtain ⟨v, o, ho, hd⟩ := Ik.cell y c e
    obtain ⟨mm, ⟨o2, es, ep, e2, d2, _⟩, _⟩ := Ik.loc
    rw [z] at ho
    rw [ho] at e2
    cases e2
    rw [hd] at d2
    cases d2
  · obtain ⟨_, o, ho, _⟩ := Ik.ok.funs.mem z
    have h1 := Ik.ok.cab y c (hfn y) e
    have h2 := Heap.lt_size ho
    exact absurd h1 (Nat.not_le_of_lt h2)
theorem cellsAt_un {cl : List (Str × Addr)} {fr : List Str} {ws : List (Option V)} {fs : List Addr} {H H' : Hp} {h h' : Heap} (C : CellsAt cl fr ws h H) (nf : ∀ y c, cl.lookup y = some c → c ∉ fs) (u : Un fs [] H H' h h') : CellsAt cl fr ws h' H' := by
  have kp : ∀ y c, cl.lookup y = some c → ∀ v, h.IsCell c v → h'.IsCell c v := fun y c e v ⟨o, ho, hd⟩ => ⟨o, u.keep c o ho (C.all y c e).1 (nf y c e) (by simp), hd⟩
  (refine ⟨C.len, fun y c e => ?_, C.inj, fun i y e => ?_⟩)
  · (obtain ⟨n, v, z⟩ := C.all y c e)
    obtain ⟨o, ho, _⟩ := id z
    exact ⟨u.free c o ho n (by simp), v, kp y c e v z⟩
  · obtain ⟨c, hck, hv⟩ := C.has i y e
    refine ⟨c, hck, fun v ev => ?_⟩
    obtain ⟨w, r, z⟩ := hv v ev
    exact ⟨w, r, kp y c hck _ z⟩
/-- what is known while the function is asked -/
def AskJ (K : PySem.W.Frag) (f q ry : Addr) (F : NF) (rh : PR) : List (Nat × Nat) → Hp → Prop := fun l H => H f = some (FnO f F) ∧ H F.c = some (CodeO F.c F.qual) ∧ RuleAt K H ry rh ∧ ∃ us, H q = some (.lst us) ∧ TwosAt H us l
theorem code_ne {c : Addr} {q : Str} {us : List V} : CodeO c q ≠ .lst us := fun z => by
  unfold CodeO at z
  cases z
theorem fno_ne {f : Addr} {F : NF} {us : List V} : FnO f F ≠ .lst us := fun z => by
  unfold FnO at z
  cases z
theorem ask_ok {X : Cx} {pins : List (Addr × Obj)} {σ : L2.St} {H : Hp} {s : Shared} {f q ry : Addr} {F : NF} {rh : PR} (I : Inv X pins σ H s) (N : NOk X.prog X.w X.K X.mg X.base CX0 8 f F ["_law_first_here", "_law_second"] ["_law_asked", "_law_rule_here"] (spAsk X.K))
    (C : CellsAt F.cl ["_law_asked", "_law_rule_here"] [some (.ref q), some (.ref ry)] s.heap H) (nf : ∀ y c, F.cl.lookup y = some c → c ∉ frs X.stack) (hf : H f = some (FnO f F)) (hc : H F.c = some (CodeO F.c F.qual)) (hq : H q = some (.lst [])) (hR : RuleAt X.K H ry rh) (ok : ROk rh) :
    AskOk X.prog X.w X.K X.mg X.base 8 f q (AskJ X.K f q ry F rh) (meets rh) X.stack s H ∧ AskJ X.K f q ry F rh [] H := by
  refine ⟨⟨?_, ?_, ?_, ?_⟩, hf, hc, hR, [], hq, .nil⟩
  · intro A outer s' H' a b t1 t2 es Q hr e0 un j zl la lb k
    obtain ⟨jf, jc, jR, us, jq, tw⟩ := j
    refine N.run A outer s' H' [.int a t1, .int b t2] [.int (a : Int), .int (b : Int)] [some (.ref q), some (.ref ry)] Q E0 hr e0 jf jc (cellsAt_un C nf un) (.cons ⟨_, rfl⟩ (.cons ⟨_, rfl⟩ .nil)) ?_
    refine ⟨q, ry, us, rh, a, b, rfl, rfl, jq, by rw [tw.len]; omega, jR, ok, la, lb, fun H2 t sq hq2 ht => ?_⟩
    refine k H2 sq ⟨sq _ _ (ne_of jf jq fno_ne) jf, sq _ _ (ne_of jc jq code_ne) jc, sq.rule ⟨_, jq⟩ jR, _, hq2, paired_app (Paired.mapP tw fun _ _ ⟨p, e, z⟩ => ⟨p, e, sq _ _ (ne_of z jq fun z => nomatch z) z⟩) (.cons ⟨t, rfl, ht⟩ .nil)⟩
  · intro es s' H' j hok
    obtain ⟨od, sl, doc, pm, ctv, ho⟩ := fnO_at hok j.1
    exact ⟨_, od, _, sl, ho⟩
  · intro es H1 H2 j keep tups
    obtain ⟨jf, jc, ⟨dx, m, a, t, j1, j2, j3, j4⟩, us, jq, tw⟩ := j
    have on : ∀ {b : Addr} {o : HO}, H b = some o → H b ≠ none := fun e z => by rw [e] at z; cases z
    obtain ⟨d0, m0, a0, t0, i1, _⟩ := id hR
    exact ⟨keep _ _ (on hf) jf, keep _ _ (on hc) jc, ⟨dx, m, a, t, keep _ _ (on i1) j1, tups _ _ j2, tups _ _ j3, tups _ _ j4⟩, us, keep _ _ (on hq) jq, Paired.mapP tw fun _ _ ⟨p, e, z⟩ => ⟨p, e, tups _ _ z⟩⟩
  · intro es H1 j
    obtain ⟨_, _, _, us, jq, _⟩ := j
    exact ⟨us, jq⟩
end K70
-- K70R0
/-! words for the law's own check -/
namespace K70
open L2 PySem PySem.Spec PyProof.Rows
theorem shape_made {K : PySem.W.Frag} {H : Hp} {x dx m : Addr} {M : List Int} {a t : Nat} {Q : VK} {E : XK} (hx : H x = none) (hd : H dx = none) (ne : dx ≠ x) (hm : TpI H m M) (ok : ModOk M) (t1 : 1 ≤ t) (few : a + t ≤ 24) (pw : (prodI M).toNat ^ (a + t) ≤ 5000)
    (k : ∀ H', Same H H' → ShapeAt K H' x ⟨M, a, t, rulesW M a t⟩ → Q .non H') : sp_Shape_init K [V.ref x, .ref m, .int (a : Int), .int (t : Int)] (upd (upd H dx (.own x)) x (.ins (He.ga K "Shape") dx [])) Q E := by
  have s1 : Same H (upd (upd H dx (.own x)) x (.ins (He.ga K "Shape") dx [])) := made_same (C := 0) hx hd
  refine ⟨x, dx, m, M, a, t, rfl, upd_same, hm.same s1, ok, t1, few, pw, fun H' st hp => k H' (fun b o e => st b o (ne_of_none e hx) (s1 _ _ e)) hp⟩
theorem pen_off {H : Hp} {p : Addr} {n : Nat} (h : PenAt H p n) {b : Addr} {l : List Int} (e : LsI H b l) : b ≠ p := by
  obtain ⟨q, cs, i, lf, hp, _⟩ := h
  intro z
  have e : H b = some (.lst (IV l)) := e
  rw [z, hp] at e
  have e2 : [V.ref q, V.int (i : Int), V.int lf] = IV l := by injection (Option.some.inj e)
  cases l with
  | nil => cases e2
  | cons x r =>
    have e3 : V.ref q = V.int x := (List.cons.inj e2).1
    cases e3
theorem PlainAt.pen {H H' : Hp} {p q : Addr} {n : Nat} {P : PR} (h : PenAt H p n) (s : SameQ p H H') (e : PlainAt H q P) : PlainAt H' q P := by
  obtain ⟨m, a, t, h1, h2, h3, h4⟩ := e
  have nq : q ≠ p := by
    obtain ⟨_, _, _, _, hp, _⟩ := h
    exact ne_of h1 hp (fun z => nomatch z)
  exact ⟨m, a, t, s _ _ nq h1, s _ _ (pen_off h h2) h2, s _ _ (pen_off h h3) h3, s _ _ (pen_off h h4) h4⟩
theorem PlainsIn.pen {H H' : Hp} {p : Addr} {n : Nat} {ys : List V} {Ps : List PR} (h : PenAt H p n) (s : SameQ p H H') (e : PlainsIn H ys Ps) : PlainsIn H' ys Ps := Paired.mapP e fun _ _ ⟨q, e, z⟩ => ⟨q, e, z.pen h s⟩
theorem pen_offL {H : Hp} {p L : Addr} {n : Nat} {ys : List V} {Ps : List PR} (h : PenAt H p n) (e : H L = some (.lst ys)) (hP : PlainsIn H ys Ps) : L ≠ p := by
  obtain ⟨q, cs, i, lf, hp, _⟩ := h
  intro z
  rw [z, hp] at e
  have e2 : [V.ref q, V.int (i : Int), V.int lf] = ys := by injection (Option.some.inj e)
  subst e2
  cases hP with
  | cons a t => cases t with
    | cons b t =>
      obtain ⟨_, e, _⟩ := b
      cases e
theorem IV_inj {a b : List Int} (h : IV a = IV b) : a = b := by
  have : a.map V.int = b.map V.int := h
  exact (List.map_inj_right fun x y e => V.int.inj e).mp this
theorem RuleAt.uniq {K : PySem.W.Frag} {H : Hp} {p : Addr} {r s : PR} (h : RuleAt K H p r) (h' : RuleAt K H p s) : r = s := by
  obtain ⟨dx, m, a, t, h1, h2, h3, h4⟩ := h
  obtain ⟨dy, m', a', t', g1, g2, g3, g4⟩ := h'
  rw [h1] at g1
  have e := Option.some.inj g1
  injection e with _ _ e
  unfold rf at e
  injection e with e1 e
  injection e with e2 e
  injection e with e3 _
  have e1 : V.ref m = V.ref m' := (Prod.mk.inj e1).2
  have e2 : V.ref a = V.ref a' := (Prod.mk.inj e2).2
  have e3 : V.ref t = V.ref t' := (Prod.mk.inj e3).2
  cases e1
  cases e2
  cases e3
  have tp : ∀ {b : Addr} {l l' : List Int}, TpI H b l → TpI H b l' → l = l' := fun {b l l'} u v => by
    have u : H b = some (.tup (IV l)) := u
    have v : H b = some (.tup (IV l')) := v
    rw [u] at v
    have w := Option.some.inj v
    injection w with w
    exact IV_inj w
  cases r
  cases s
  have w1 := tp h2 g2
  have w2 := tp h3 g3
  have w3 := tp h4 g4
  simp only at w1 w2 w3
  rw [w1, w2, w3]
def DRule (K : PySem.W.Frag) : EqD := fun x y b H => ∃ a c r s, x = .ref a ∧ y = .ref c ∧ RuleAt K H a r ∧ RuleAt K H c s ∧ b = decide (r = s)
theorem mon_rule {K : PySem.W.Frag} : MonB (DRule K) := fun x y b H H' s ⟨a, c, r, r', e1, e2, h1, h2, e3⟩ => ⟨a, c, r, r', e1, e2, h1.same s, h2.same s, e3⟩
theorem rule_own {K : PySem.W.Frag} {x y : V} {b : Bool} {H : Hp} (h : DRule K x y b H) : DOwn (He.ga K "Rule") (sp_Rule_eq K) x y b H := by
  obtain ⟨a, c, r, s, rfl, rfl, h1, h2, rfl⟩ := h
  obtain ⟨dx, _, _, _, i1, _⟩ := id h1
  obtain ⟨dy, _, _, _, i2, _⟩ := id h2
  exact ⟨a, c, dx, dy, _, _, rfl, rfl, i1, i2, fun Q k => ⟨a, c, r, s, rfl, h1, h2, k _ (Same.refl _)⟩⟩
section
variable {K : PySem.W.Frag} {mg : Str → Option Value} {base : Heap} {P : Program} {w : World}
theorem eqB_rule {X : Cx} (T : Tx K mg) (h1 : X.prog = P) (h2 : X.w = w) (h3 : X.K = K) (h4 : X.mg = mg) (h5 : X.base = base) : EqB X 1 (DRule K) := by
  subst h1 h2 h3 h4 h5
  have rc : RcB X 1 (DRule X.K) := fun A pins s σ H x y b u v sb I rx ry d => rcB_own T.m_Rule_eq (mtd_run (ok_Rule_eq T)) A pins s σ H x y b u v sb I rx ry (rule_own d)
  refine rc.eqB fun x y b H d => ?_
  obtain ⟨a, c, r, s, rfl, rfl, h1, h2, rfl⟩ := d
  refine ⟨a, c, rfl, rfl, fun e => ?_⟩
  subst e
  exact decide_eq_true (h1.uniq h2)
end
theorem rAny_rule {K : PySem.W.Frag} {H : Hp} {a c : Addr} {r : PR} {Q : VK} (h1 : RuleAt K H a r) (h2 : RuleAt K H c r) (k : ∀ H', Same H H' → Q (.bl true) H') : rAny K (.ref a) (.ref c) H Q := .inl ⟨true, rule_own ⟨a, c, r, r, rfl, rfl, h1, h2, by simp⟩, k⟩
theorem rAny_log {K : PySem.W.Frag} {H : Hp} {a c : Addr} {es : List Ent} {Q : VK} (h1 : LogAt K H a es) (h2 : LogAt K H c es) (k : ∀ H', Same H H' → Q (.bl true) H') : rAny K (.ref a) (.ref c) H Q := by
  obtain ⟨dx, _, _, i1, _⟩ := id h1
  obtain ⟨dy, _, _, i2, _⟩ := id h2
  exact .inr (.inl ⟨true, ⟨a, c, dx, dy, _, _, rfl, rfl, i1, i2, fun Q0 k0 => ⟨a, c, es, rfl, h1, h2, k0 _ (Same.refl _)⟩⟩, k⟩)
/-- two Founds that hold the same -/
theorem found_same {K : PySem.W.Frag} {H : Hp} {p q : Addr} {r : PR} {es : List Ent} (h1 : FoundAt K H p r es) (h2 : FoundAt K H q r es) : DOwn (He.ga K "Found") (sp_Found_eq K) (.ref p) (.ref q) true H := by
  obtain ⟨dx, y, l, i1, hy, hl⟩ := h1
  obtain ⟨dy, y', l', i2, hy', hl'⟩ := h2
  exact ⟨p, q, dx, dy, _, _, rfl, rfl, i1, i2, fun Q k => ⟨p, dx, _, _, _, rfl, i1, .inr ⟨q, dy, _, _, rfl, i2, rAny_rule hy hy' fun H' s => ⟨true, rfl, iteT (rAny_log (hl.same s) (hl'.same s) fun H'' s2 => ⟨true, rfl, k _ (s.trans s2)⟩)⟩⟩⟩⟩
end K70
-- K70R1
/-! words for _law_right -/
namespace K70
open L2 PySem PySem.Spec PyProof.Rows NdefX LamX
/-- a list made anew of items that are made anew, each with what holds of it -/
theorem lc_listP {K : PySem.W.Frag} {a : Addr} {xs : List V} {g : TG} {te : TE} {vs : List Nat} {σ : L2.St} {H1k : Hp} {D : Addr} {Qd : Hp → Prop} (Rl : Nat → V → Hp → Prop) (mono : ∀ i v H H', (∃ l, H D = some (.lst l)) → SameQ D H H' → Rl i v H → Rl i v H')
    (hD : H1k D = none) (ha : SqL K H1k a xs) (hz : xs.length ≤ sizeLine)
    (hs : ∀ i x H, xs[i]? = some x → Same H1k H → ∀ Qk : V → Hp → Prop, (∀ v H4, Same H H4 → Rl i v H4 → Qk v H4) → g x (wipe σ vs) H fun σ2 H2 => wipe σ2 vs = wipe σ vs ∧ te σ2 H2 Qk)
    (hd : ∀ H acc, Same H1k H → H D = some (.lst acc) → acc.length = xs.length → (∀ i v, acc[i]? = some v → Rl i v H) → Qd H) :
    ∃ W : Nat → Nat → Hp → Prop, (∃ m, W 0 m (upd H1k D (.lst []))) ∧ ∀ i m H, W i m H →
      ((Itl K a).stop i H ∧ Qd H) ∨ ((Itl K a).go i H ∧ ∃ Nx : Hp → Prop, (∀ H', Nx H' → ∃ m', m' < m ∧ W (i + 1) m' H') ∧ ∀ x H', (Itl K a).yld i H x H' → g x (wipe σ vs) H' fun σ2 H2 => wipe σ2 vs = wipe σ vs ∧ tYes σ2 H2 fun b H3k =>
        if b = true then te σ2 H3k fun y H4 => ∃ acc, H4 D = some (.lst acc) ∧ acc.length < sizeLine ∧ Nx (upd H4 D (.lst (acc ++ [y]))) else Nx H3k) := by
  refine lc_list (fun i H => Same H1k H ∧ ∃ acc, H D = some (.lst acc) ∧ acc.length = i ∧ ∀ j v, acc[j]? = some v → Rl j v H) ⟨Same.put hD, [], upd_same, rfl, fun j v e => by cases e⟩ (fun i H _ p => p.1.seq ha) (fun i x H hx p => ?_) fun H p => ?_
  · obtain ⟨s, acc, e, ln, each⟩ := p
    have hi : i < xs.length := (List.getElem?_eq_some_iff.mp hx).1
    refine hs i x H hx s (fun y H4 => ∃ acc, H4 D = some (.lst acc) ∧ acc.length < sizeLine ∧ (Same H1k (upd H4 D (.lst (acc ++ [y]))) ∧ ∃ acc', (upd H4 D (.lst (acc ++ [y]))) D = some (.lst acc') ∧ acc'.length = i + 1 ∧ ∀ j v, acc'[j]? = some v → Rl j v (upd H4 D (.lst (acc ++ [y]))))) fun v H4 s4 r4 => ?_
    have sq : SameQ D H4 (upd H4 D (.lst (acc ++ [v]))) := fun b o n e => (upd_ne n).trans e
    refine ⟨acc, s4 _ _ e, by omega, Same.set (s.trans s4) hD, _, upd_same, by rw [List.length_append, ln]; rfl, fun j u hj => ?_⟩
    by_cases c : j < acc.length
    · rw [List.getElem?_append_left c] at hj
      exact mono _ _ _ _ ⟨_, e⟩ ((SameQ.of s4).trans sq) (each j u hj)
    · rw [List.getElem?_append_right (by omega)] at hj
      have l1 := (List.getElem?_eq_some_iff.mp hj).1
      have l2 : j - acc.length < 1 := l1
      obtain rfl : j = i := by omega
      rw [show j - acc.length = 0 by omega] at hj
      obtain rfl := Option.some.inj hj
      exact mono _ _ _ _ ⟨_, s4 _ _ e⟩ sq r4
  · obtain ⟨s, acc, e, ln, each⟩ := p
    exact hd H acc s e ln each
theorem paired_of {α β : Type} {F : α → β → Prop} : ∀ {a : List α} {b : List β}, a.length = b.length → (∀ (i : Nat) x y, a[i]? = some x → b[i]? = some y → F x y) → Paired F a b
  | [], [], _, _ => .nil
  | [], _ :: _, hl, _ => nomatch hl
  | _ :: _, [], hl, _ => nomatch hl
  | x :: a, y :: b, h, f => .cons (f 0 x y rfl rfl) (paired_of (by simpa using h) fun i u v hu hv => f (i + 1) u v (by simpa using hu) (by simpa using hv))
theorem LsI.extN {H H' : Hp} {b : Addr} {l : List Int} (h : LsI H b l) (e : ExtN H H') : LsI H' b l := e _ _ h (fun ps z => nomatch z)
theorem TpI.extN {H H' : Hp} {b : Addr} {l : List Int} (h : TpI H b l) (e : ExtN H H') : TpI H' b l := e _ _ h (fun ps z => nomatch z)
theorem PlainAt.extN {H H' : Hp} {p : Addr} {r : PR} (h : PlainAt H p r) (e : ExtN H H') : PlainAt H' p r := by
  obtain ⟨m, a, t, h1, h2, h3, h4⟩ := h
  exact ⟨m, a, t, e _ _ h1 (fun ps z => nomatch z), h2.extN e, h3.extN e, h4.extN e⟩
theorem PlainsIn.extN {H H' : Hp} {ys : List V} {Ps : List PR} (h : PlainsIn H ys Ps) (e : ExtN H H') : PlainsIn H' ys Ps := Paired.mapP h fun _ _ ⟨q, z, w⟩ => ⟨q, z, w.extN e⟩
theorem PenAt.extN {H H' : Hp} {p : Addr} {n : Nat} (h : PenAt H p n) (e : ExtN H H') : PenAt H' p n := by
  obtain ⟨l, cs, i, left, h1, h2, h3⟩ := h
  exact ⟨l, cs, i, left, e _ _ h1 (fun ps z => nomatch z), h2.extN e, h3⟩
theorem RuleAt.extN {K : PySem.W.Frag} {H H' : Hp} {p : Addr} {r : PR} (h : RuleAt K H p r) (e : ExtN H H') : RuleAt K H' p r := by
  obtain ⟨dx, m, a, t, h1, h2, h3, h4⟩ := h
  exact ⟨dx, m, a, t, e _ _ h1 (fun ps z => nomatch z), h2.extN e, h3.extN e, h4.extN e⟩
theorem RulesIn.extN {K : PySem.W.Frag} {H H' : Hp} {ys : List V} {rs : List PR} (h : RulesIn K H ys rs) (e : ExtN H H') : RulesIn K H' ys rs := Paired.mapP h fun _ _ ⟨q, z, w⟩ => ⟨q, z, w.extN e⟩
theorem ShapeAt.extN {K : PySem.W.Frag} {H H' : Hp} {p : Addr} {z : Sh} (h : ShapeAt K H p z) (e : ExtN H H') : ShapeAt K H' p z := by
  obtain ⟨dx, m, o, ys, h1, h2, h3, h4⟩ := h
  exact ⟨dx, m, o, ys, e _ _ h1 (fun ps z => nomatch z), h2.extN e, e _ _ h3 (fun ps z => nomatch z), RulesIn.extN h4 e⟩
theorem pen_lst {H : Hp} {p : Addr} {n : Nat} (h : PenAt H p n) : ∃ us, H p = some (.lst us) := by
  obtain ⟨l, cs, i, left, h1, _⟩ := h
  exact ⟨_, h1⟩
theorem SameQ.shape {K : PySem.W.Frag} {q : Addr} {H H' : Hp} {p : Addr} {z : Sh} (s : SameQ q H H') (hq : ∃ us, H q = some (.lst us)) (h : ShapeAt K H p z) : ShapeAt K H' p z := by
  obtain ⟨us, hq'⟩ := hq
  obtain ⟨dx, m, o, ys, h1, h2, h3, h4⟩ := h
  exact ⟨dx, m, o, ys, s _ _ (ne_of h1 hq' (fun z => nomatch z)) h1, s _ _ (ne_of h2 hq' (fun z => nomatch z)) h2, s _ _ (ne_of h3 hq' (fun z => nomatch z)) h3, Paired.mapP h4 fun _ _ ⟨b, e, w⟩ => ⟨b, e, s.rule ⟨_, hq'⟩ w⟩⟩
theorem FoundAt.same {K : PySem.W.Frag} {H H' : Hp} {p : Addr} {r : PR} {es : List Ent} (h : FoundAt K H p r es) (s : Same H H') : FoundAt K H' p r es := by
  obtain ⟨dx, y, l, h1, h2, h3⟩ := h
  exact ⟨dx, y, l, s _ _ h1, h2.same s, h3.same s⟩
theorem TabsN.off {T : List NTab} {H H' : Hp} {q : Addr} {us : List V} (hq : H q = some (.lst us)) (s : SameQ q H H') (t : TabsN T H) : TabsN T H' := fun p hp => by
  obtain ⟨ps, h1, h2, h3⟩ := t p hp
  refine ⟨ps, s _ _ (ne_of h1 hq (fun z => nomatch z)) h1, h2, fun pos cv hc => ?_⟩
  obtain ⟨c, e, hc⟩ := h3 pos cv hc
  exact ⟨c, e, s _ _ (ne_of hc hq (fun z => by unfold CodeO at z; cases z)) hc⟩
/-- the rules that fit are those of the filter -/
theorem fitL_rules {K : PySem.W.Frag} {H : Hp} {ys : List V} {rs : List PR} {es : List Ent} (h : RulesIn K H ys rs) : RulesIn K H (fitL ys rs es ys.length) (rs.filter fun r => es.all (entIs r)) := by
  unfold fitL
  rw [List.take_of_length_le (by rw [List.length_zip]; omega)]
  induction h with
  | nil => exact .nil
  | @cons y r ys rs hy t ih =>
    show RulesIn K H ((((y, r) :: ys.zip rs).filter fun p => es.all (entIs p.2)).map (·.1)) ((r :: rs).filter fun r => es.all (entIs r))
    (rw [List.filter_cons, List.filter_cons])
    by_cases c : es.all (entIs r) = true
    · rw [if_pos c, if_pos c]
      exact .cons hy ih
    · rw [if_neg c, if_neg c]
      exact ih
def nmR : Nat → Nat → Str := fun _ _ => (Str.ofString "_law_right" ++ Str.ofString ".<locals>.") ++ Str.ofString "_law_ask"
def nmL : Nat → Nat → Str := fun _ _ => (Str.ofString "law" ++ Str.ofString ".<locals>.") ++ Str.ofString "<lambda>"
/-- the code tables of the two that hold nested code -/
def lawT (K : PySem.W.Frag) : List NTab := [(ct2 K "_law_right", nmR), (ct2 K "law", nmL)]
/-- all is kept but the pen and the tables -/
def Off (p : Addr) (H H' : Hp) : Prop := ∀ b o, b ≠ p → (∀ ps, o ≠ .tbl ps) → H b = some o → H' b = some o
theorem Off.trans {p : Addr} {H H1 H2 : Hp} (a : Off p H H1) (b : Off p H1 H2) : Off p H H2 := fun c o n t e => b c o n t (a c o n t e)
theorem Off.of {p : Addr} {H H' : Hp} (s : Same H H') : Off p H H' := fun b o _ _ e => s b o e
theorem Off.pen {p : Addr} {H H' : Hp} (s : SameQ p H H') : Off p H H' := fun b o n _ e => s b o n e
theorem Off.extN {p : Addr} {H H' : Hp} (s : ExtN H H') : Off p H H' := fun b o _ t e => s b o e t
theorem Off.new {p q : Addr} {H0 H H' : Hp} (a : Off p H0 H) (nq : H0 q = none) (s : SameQ q H H') : Off p H0 H' := fun b o n t e => s b o (ne_of_none e nq) (a b o n t e)
theorem PlainAt.off {H H' : Hp} {p q : Addr} {n : Nat} {P : PR} (h : PenAt H p n) (s : Off p H H') (e : PlainAt H q P) : PlainAt H' q P := by
  obtain ⟨m, a, t, h1, h2, h3, h4⟩ := e
  have nq : q ≠ p := by
    obtain ⟨_, _, _, _, hp, _⟩ := h
    exact ne_of h1 hp (fun z => nomatch z)
  exact ⟨m, a, t, s _ _ nq (fun _ z => nomatch z) h1, s _ _ (pen_off h h2) (fun _ z => nomatch z) h2, s _ _ (pen_off h h3) (fun _ z => nomatch z) h3, s _ _ (pen_off h h4) (fun _ z => nomatch z) h4⟩
theorem PlainsIn.off {H H' : Hp} {p : Addr} {n : Nat} {ys : List V} {Ps : List PR} (h : PenAt H p n) (s : Off p H H') (e : PlainsIn H ys Ps) : PlainsIn H' ys Ps := Paired.mapP e fun _ _ ⟨q, z, w⟩ => ⟨q, z, w.off h s⟩
theorem RuleAt.off {K : PySem.W.Frag} {H H' : Hp} {p q : Addr} {us : List V} {r : PR} (hp : H p = some (.lst us)) (s : Off p H H') (h : RuleAt K H q r) : RuleAt K H' q r := by
  obtain ⟨dx, m, a, t, h1, h2, h3, h4⟩ := h
  have k : ∀ b o, H b = some o → o ≠ .lst us → (∀ ps, o ≠ .tbl ps) → H' b = some o := fun b o e n1 n2 => s b o (ne_of e hp n1) n2 e
  exact ⟨dx, m, a, t, k _ _ h1 (fun z => nomatch z) (fun _ z => nomatch z), k _ _ h2 (fun z => nomatch z) (fun _ z => nomatch z), k _ _ h3 (fun z => nomatch z) (fun _ z => nomatch z), k _ _ h4 (fun z => nomatch z) (fun _ z => nomatch z)⟩
theorem ShapeAt.off {K : PySem.W.Frag} {H H' : Hp} {p q : Addr} {us : List V} {z : Sh} (hp : H p = some (.lst us)) (s : Off p H H') (h : ShapeAt K H q z) : ShapeAt K H' q z := by
  obtain ⟨dx, m, o, ys, h1, h2, h3, h4⟩ := h
  have k : ∀ b o, H b = some o → o ≠ .lst us → (∀ ps, o ≠ .tbl ps) → H' b = some o := fun b o e n1 n2 => s b o (ne_of e hp n1) n2 e
  exact ⟨dx, m, o, ys, k _ _ h1 (fun z => nomatch z) (fun _ z => nomatch z), k _ _ h2 (fun z => nomatch z) (fun _ z => nomatch z), k _ _ h3 (fun z => nomatch z) (fun _ z => nomatch z), Paired.mapP h4 fun _ _ ⟨b, e, w⟩ => ⟨b, e, w.off hp s⟩⟩
end K70
-- K70L14
namespace K70
open L2 PySem PySem.Spec PyProof.Rows StX
open NdefX LamX
theorem nd_ask : ndefB (defScope s_law_right) (C8.fnScope s_ask) ["_law_asked", "_law_rule_here"] = true := by decide +kernel
def sp__law_right (K : PySem.W.Frag) : List Env → Shared → Sp := fun _ _ vs H Q _ => ∃ (p : Addr) (n : Nat), vs = [.ref p] ∧ PenAt H p n ∧ n ≤ 900 ∧ H (ct2 K "first_other") = some (TabX (ct2 K "first_other")) ∧ TabsN (lawT K) H ∧
  ∀ H', Off p H H' → PenAt H' p (n + 5) → TabsN (lawT K) H' → Q (.bl true) H'
theorem tab_one {K : PySem.W.Frag} {mg : Str → Option Value} (T : Tx K mg) : ∀ p ∈ lawT K, p.1 = ct2 K "_law_right" → p.2 = nmR := fun p hp e => by
  rcases List.mem_cons.mp hp with z | z
  · rw [z]
  · rw [List.mem_singleton.mp z] at e
    exact absurd e (of_decide_eq_false T.x_tab_lr)
/-- told_back called in either way -/
theorem both_told {X : Cx} {sp : List Env → Shared → Sp} {σ : L2.St} {H : Hp} {Q : VK} {i j : Nat} {u v : V} (h1 : σ[i]? = some (some u)) (h2 : σ[j]? = some (some v)) (h : ∀ pins s, Inv X pins σ H s → sp X.stack s [u, v] H Q E0) :
    tFnS X sp (tCons (tVar i) (tCons (tVar j) tNil)) σ H Q ∧ tFnS2 X sp (tCons (tVar j) (tCons (tVar i) tNil)) σ H Q := ⟨⟨u, h1, v, h2, h⟩, ⟨v, h2, u, h1, u, v, rfl, h⟩⟩
theorem ite_both {c A B : Prop} [Decidable c] (h : A ∧ B) : if c then A else B := by
  split
  · exact h.1
  · exact h.2
section
variable {K : PySem.W.Frag} {mg : Str → Option Value} {base : Heap} {P : Program} {w : World}
theorem sc__law_right : FnScope ["_law_pen_here", "_law_plain_here", "_law_shape_here", "_law_plains_here", "_law_hidden", "_law_rule_here", "_law_asked", "_law_ask", "_law_told", "_law_due_here", "_law_entries_here", "_law_entry", "_law_one"] ["_law_pen_here"] (defScope s_law_right) := ⟨rfl, rfl, rfl, by decide +kernel, rfl, by decide +kernel, by decide +kernel⟩
theorem ok__law_right (T : Tx K mg) (B : TabF K mg base "first_other") (BR : TabF K mg base "_law_right") : FnG P w K mg base 17 (He.ga K "_law_right") (sp__law_right K) := by
  have c__law_pick := ok__law_pick (P := P) (w := w) (base := base) T
  have c__law_shape := ok__law_shape (P := P) (w := w) (base := base) T
  have c__law_plains := ok__law_plains (P := P) (w := w) (base := base) T
  have c__law_unlike := ok__law_unlike (P := P) (w := w) (base := base) T
  have c__law_rule := ok__law_rule (P := P) (w := w) (base := base) T
  have c__law_draw := ok__law_draw (P := P) (w := w) (base := base) T
  have c__law_due := ok__law_due (P := P) (w := w) (base := base) T
  have c__law_log := ok__law_log (P := P) (w := w) (base := base) T
  have c_Shape := ok_Shape_init (P := P) (w := w) (base := base) T
  have c_Found := ok_Found_init (P := P) (w := w) (base := base) T
  have c_same_banks := ok_same_banks (P := P) (w := w) (base := base) T
  have c_shows_found := ok_shows_found (P := P) (w := w) (base := base) T
  have tb := ok_told_back (P := P) (w := w) T B
  obtain ⟨fdT, FT⟩ := T.ftold_back
  have tbB := okB_told_back (P := P) (w := w) T B FT
  have bindT : ∀ (s : Shared) (u v : Value), BindsTo s fdT ⟨[], [("ask", v), ("shape", u)]⟩ [("shape", u), ("ask", v)] := by
    obtain ⟨oc, od, dV, kV, doc, pm, an, cdv, ct, osl, rfl, lk, hcd, hd1, hk1⟩ := FT.ex
    have dn : dV = .none := by
      rcases hd1 with ⟨_, e⟩ | ⟨e, _⟩
      · exact e
      · exact absurd rfl e
    subst dn
    exact fun s u v => BindsTo.of_looks fun M => PySem.W.Looks.of_pure rfl
  refine fnG_of T.f_law_right sc__law_right (fun _ _ _ _ _ _ us hl => match us, hl with | [_], _ => rfl) (fun outer s vs H Q E h => ?_) (fun A outer s H vs Q E hr gd e0 h => ?_)
  · obtain ⟨p, n, rfl, _⟩ := h
    rfl
  · obtain ⟨p, n, rfl, hp, hn, hX, hT, k⟩ := h
    refine ⟨_, (pss_cons (ps_set (i := 1) sc__law_right.nd rfl (Or.inl rfl) (pe_f c__law_shape (hr.mono (by decide)) (pa_cons (pv 0) pa_nil)))
      (pss_cons (ps_par (i := 2) (j := 3) (by rfl) sc__law_right.nd rfl rfl (by decide) rfl rfl (pa_cons (pe_mk' c_Shape (hr.mono (by decide)) (pa_cons (pe_callTy call_tupI (by rfl) T.b_tuple (by decide +kernel) (pa_cons (pe_ix ix_I (pv 1) pe_int (fun _ _ => rfl)) pa_nil)) (pa_cons (pe_ix ix_I (pv 1) pe_int (fun _ _ => rfl)) (pa_cons (pe_ix ix_I (pv 1) pe_int (fun _ _ => rfl)) pa_nil)))) (pa_cons (pe_f c__law_unlike (hr.mono (by decide)) (pa_cons (pe_f c__law_plains (hr.mono (by decide)) (pa_cons (pv 1) pa_nil)) pa_nil)) pa_nil)) (by rfl))
      (pss_cons (ps_set (i := 4) sc__law_right.nd rfl (Or.inl rfl) (pe_f c__law_pick (hr.mono (by decide)) (pa_cons (pv 0) (pa_cons (pv 3) pa_nil))))
      (pss_cons (ps_asg (pe_tup (pa_cons (pe_f c__law_rule (hr.mono (by decide)) (pa_cons (pv 4) pa_nil)) (pa_cons (pe_lst pa_nil) pa_nil))) (pg_tup rfl (pgs_cons (pg_name (i := 5) sc__law_right.nd rfl (Or.inr rfl)) (pgs_cons (pg_name (i := 6) sc__law_right.nd rfl (Or.inr rfl)) pgs_nil))))
      (pss_cons (ps_ndefMS (st := s_ask) (T := lawT K) (nm := nmR) (c := ct1 K "_law_right") (P := ct2 K "_law_right") (name := "_law_ask") (i := 7) rfl BR rfl List.mem_cons_self rfl (fun p hp ep => tab_one T p hp ep) (ndef_free (sc := defScope s_law_right) nd_ask) rfl rfl rfl sc__law_right.nd rfl (Or.inl rfl) (Or.inl rfl))
      (pss_cons (ps_set (i := 8) sc__law_right.nd rfl (Or.inl rfl) (pe_ifExp (pt_cmpR op_eq (pe_f c__law_draw (hr.mono (by decide)) (pa_cons (pv 0) (pa_cons pe_int pa_nil))) pe_int (nomark _)) (pe_fnS tb (hr.mono (by decide)) T.g_told_back FT.kp (pa_cons (pv 2) (pa_cons (pv 7) pa_nil))) (pe_fnS2 tbB bindT (hr.mono (by decide)) T.g_told_back FT.kp (pk_cons (pv 7) (pk_cons (pv 2) pk_nil)))))
      (pss_cons (ps_asg (pe_f c__law_due (hr.mono (by decide)) (pa_cons (pv 3) (pa_cons (pv 4) pa_nil))) (pg_tup rfl (pgs_cons (pg_name (i := 9) sc__law_right.nd rfl (Or.inl rfl)) (pgs_cons (pg_name (i := 10) sc__law_right.nd rfl (Or.inl rfl)) pgs_nil))))
      (pss_cons (ps_if (pt_cmpR (op_neD hr.units) (pv 6) (pe_lc (own := [("_law_entry", 11)]) (g := gName 11) (tt := tYes) (by rfl) sc__law_right.nd (pi_list (pv 10)) (blkOk_by (N := ["_law_pen_here", "_law_plain_here", "_law_shape_here", "_law_plains_here", "_law_hidden", "_law_rule_here", "_law_asked", "_law_ask", "_law_told", "_law_due_here", "_law_entries_here", "_law_entry", "_law_one"]) (sc := defScope s_law_right) (by decide +kernel)) (fun _ _ _ _ _ => (pg_name (i := 11) sc__law_right.nd rfl (Or.inl rfl))) (fun _ _ _ _ _ => pts_nil) (fun _ _ _ _ _ => (pe_tup (pa_cons (pe_ix ix_I (pv 11) pe_int (fun _ _ => rfl)) (pa_cons (pe_ix ix_I (pv 11) pe_int (fun _ _ => rfl)) pa_nil))))) (nomark _)) (pss_one (ps_ret pe_bl)) pss_nil)
      (pss_cons (ps_if (PW.pt (pw_or (pt_cmpR (op_neB (rcN_own T.m_Found_eq (mtd_run (ok_Found_eq T)) T.x_Found_object T.x_Found__ne) (hr.mono (by decide))) (pv 8) (pe_mk' c_Found (hr.mono (by decide)) (pa_cons (pe_f c__law_rule (hr.mono (by decide)) (pa_cons (pv 9) pa_nil)) (pa_cons (pe_f c__law_log (hr.mono (by decide)) (pa_cons (pv 10) pa_nil)) pa_nil))) (nomark _)) (pw_or1 (pt_cmpR (op_neD hr.units) (pe_callTy (call_listOwnT T.m_Log_iter ((ok_Log_iter T).mono (by decide)) (hint_len T.m_Log_len (mtd_run (ok_Log_len T))) hr.hd (hr.mono (by decide))) (by rfl) T.b_list (by decide +kernel) (pa_cons (pe_fld (pv 8) rfl) pa_nil)) (pv 10) (nomark _))))) (pss_one (ps_ret pe_bl)) pss_nil)
      (pss_cons (ps_if (pt_cmpR (op_neL (eqB_rule (P := P) (w := w) (base := base) T rfl rfl rfl rfl rfl) mon_rule (hr.mono (by decide))) (pe_callTy (call_listOwnT T.m_Shape_iter (ok_Shape_iter T) (hint_no T.x_Shape__len T.x_Shape__length_hint) hr.hd (hr.mono (by decide))) (by rfl) T.b_list (by decide +kernel) (pa_cons (pv 2) pa_nil)) (pe_lc (own := [("_law_one", 12)]) (g := gName 12) (tt := tYes) (te := tCall (sp__law_rule K) [] E0 (tCons (tVar 12) tNil)) (by rfl) sc__law_right.nd (pi_list (pv 3)) (blkOk_by (N := ["_law_pen_here", "_law_plain_here", "_law_shape_here", "_law_plains_here", "_law_hidden", "_law_rule_here", "_law_asked", "_law_ask", "_law_told", "_law_due_here", "_law_entries_here", "_law_entry", "_law_one"]) (sc := defScope s_law_right) (by decide +kernel)) (fun _ _ _ _ _ => (pg_name (i := 12) sc__law_right.nd rfl (Or.inl rfl))) (fun _ _ _ _ _ => pts_nil) (fun _ _ _ _ _ => (pe_f c__law_rule (hr.mono (by decide)) (pa_cons (pv 12) pa_nil)))) (nomark _)) (pss_one (ps_ret pe_bl)) pss_nil)
      (pss_one (ps_ret (pe_and (pe_callTy (call_boolTwo (two_of T rfl rfl rfl rfl rfl) (hr.mono (by decide))) (by rfl) T.b_bool (by decide +kernel) (pa_cons (pe_f c_same_banks (hr.mono (by decide)) (pa_cons (pe_fld (pv 8) rfl) (pa_cons (pv 5) pa_nil))) pa_nil)) (pe_and (pe_f c_shows_found (hr.mono (by decide)) (pa_cons (pv 2) (pa_cons (pv 8) pa_nil))) (pe_one (pe_cmpR (op_inL (eqB_rule (P := P) (w := w) (base := base) T rfl rfl rfl rfl rfl) mon_rule (hr.mono (by decide))) (pv 5) (pe_listFit T rfl (hr.mono (by decide)) (pa_cons (pv 2) (pa_cons (pe_fld (pv 8) rfl) pa_nil))) rfl)))))))))))))))), ?_⟩
    have nlTab : ∀ {b : Addr} {us : List V}, TabX b ≠ .lst us := fun z => by
      unfold TabX at z
      cases z
    obtain ⟨us0, hp0⟩ := pen_lst hp
    refine ⟨_, rfl, ?_⟩
    refine tN ?_
    show sp__law_shape [.ref p] _ _ _
    refine ⟨p, n, rfl, hp, by omega, fun H1 w0 m M a t sq1 pen1 hw hm nmp hx => ?_⟩
    have hX1 := sq1 _ _ (ne_of hX hp0 nlTab) hX
    have hT1 := TabsN.off hp0 sq1 hT
    have off1 : Off p H H1 := .pen sq1
    obtain ⟨⟨l1, l5, q32, pl, pu⟩, ht1, hat, h64, h27⟩ := shape_ok _ hx
    simp only at l1 l5 q32 pl pu ht1 hat h64 h27
    have okM : ModOk M := shape_mod hx
    refine ⟨_, rfl, w0, _, (0 : Int), .ref m, rfl, rfl, .inr hw, rfl, m, _, rfl, .inl hm, fun pm H2 s2 hpm => ?_⟩
    refine ⟨_, rfl, w0, _, (1 : Int), _, rfl, rfl, .inr (s2 _ _ hw), rfl, _, rfl, w0, _, (2 : Int), _, rfl, rfl, .inr (s2 _ _ hw), rfl, fun x dx hx' hd ne => shape_made (K := K) hx' hd ne hpm okM ht1 (by omega) (by omega) fun H3 s3 hS => ⟨rfl, ?_⟩⟩
    have s13 := s2.trans s3
    refine ⟨_, rfl, w0, m, M, a, t, rfl, s13 _ _ hw, hm.same s13, hx, fun H4 D ys0 s4 hD hPl => ?_⟩
    refine ⟨D, ys0, plainsW M a t, rfl, hD, hPl, fun P hP => (plains_each hx hP).2.2.2.ne, Nat.le_trans (plains_len hx) (by decide), fun H5 L ys s5 hL hPs => ⟨_, _, rfl, ?_⟩⟩
    have s15 := s13.trans (s4.trans s5)
    have off5 := off1.trans (.of s15)
    have pen5 := pen1.same s15
    have hX5 := s15 _ _ hX1
    have hT5 := TabsN.ext hT1 s15
    have hS5 := hS.same (s4.trans s5)
    clear hS hPl hD hX1 hT1
    obtain ⟨Ps, ePs⟩ : ∃ Ps, Ps = unlikeP (plainsW M a t) := ⟨_, rfl⟩
    rw [← ePs] at hPs
    have few : Ps.length ≤ 27 := by
      rw [ePs]
      exact Nat.le_trans (unlike_len _) (plains_len hx)
    have pne : Ps ≠ [] := by
      rw [ePs]
      exact unlike_ne hx
    have psub : ∀ P ∈ Ps, P ∈ plainsW M a t := fun P h => by
      rw [ePs] at h
      exact unlike_sub P h
    have nf : ∀ P ∈ Ps, NfP P := fun P h => (nf_of hx (psub P h)).2.2
    have sm : ∀ P ∈ Ps, ∀ P' ∈ Ps, SmallP (nfP P) (nfP P') := fun P h P' h' => small_of hx (psub P h) (psub P' h')
    have rare : Ps.map nfP = rulesW M a t := by
      rw [ePs]
      exact rules_are _ hx
    obtain ⟨rs, ers⟩ : ∃ rs, rs = rulesW M a t := ⟨_, rfl⟩
    rw [← ers] at hS5 rare
    have ylen : ys.length = Ps.length := Paired.length hPs
    have rlen : rs.length = Ps.length := by rw [← rare, List.length_map]
    have yne : ys ≠ [] := fun e => pne (List.length_eq_zero_iff.mp (by rw [← ylen, e]; rfl))
    have nLp : L ≠ p := pen_offL pen5 hL hPs
    -- the hidden one
    refine ⟨_, rfl, _, rfl, ?_⟩
    refine tN ?_
    show sp__law_pick [.ref p, .ref L] _ _ _
    refine ⟨p, L, ys, n + 3, rfl, .inl hL, yne, by omega, nLp, pen5, by omega, fun H6 i v sq6 pen6 hv => ?_⟩
    obtain ⟨Ph, hPh, ph, rfl, hph5⟩ := paired_at hPs hv
    have hmem : Ph ∈ Ps := List.mem_of_getElem? hPh
    have hph := hph5.pen pen5 sq6
    obtain ⟨us5, hp5⟩ := pen_lst pen5
    have hL6 := sq6 _ _ nLp hL
    have hPs6 := hPs.pen pen5 sq6
    have hS6 := sq6.shape ⟨_, hp5⟩ hS5
    have hX6 := sq6 _ _ (ne_of hX5 hp5 nlTab) hX5
    have hT6 := TabsN.off hp5 sq6 hT5
    have off6 := off5.trans (.pen sq6)
    clear hL hPs hS5 hX5 hT5
    have sqp6 : SameQ p H H6 := sq1.trans ((SameQ.of s15).trans sq6)
    obtain ⟨us6, hp6⟩ := pen_lst pen6
    -- its rule, the list of what is asked
    refine ⟨_, rfl, ph, Ph, rfl, hph, (nf Ph hmem).ok, fun H7 ry s7 hR => ⟨Nat.zero_le _, fun q hq => ⟨by show 2 ≤ sizeLine; rw [sizeLine_eq]; decide, fun tp htp => ⟨tp, _, rfl, SqT.of upd_same, rfl, _, _, rfl, _, _, rfl, rfl, ?_⟩⟩⟩⟩
    have nqp : q ≠ p := fun z => by
      have e := s7 _ _ hp6
      rw [z, e] at hq
      cases hq
    have nqH : H q = none := by
      cases e : H q with
      | none => rfl
      | some o =>
        have e7 := s7 _ _ (sqp6 _ _ nqp e)
        rw [e7] at hq
        cases hq
    have s78 : Same H7 (upd (upd H7 q (.lst [])) tp (.tup [.ref ry, .ref q])) := (Same.put hq).put' htp
    have hq8 : upd (upd H7 q (.lst [])) tp (.tup [.ref ry, .ref q]) q = some (.lst []) := (Same.put htp) _ _ upd_same
    have penq : ∀ l, PenAtL H7 p l (n + 4) → l ≠ q := fun l h z => by
      obtain ⟨_, _, _, _, h2, _⟩ := h
      have h2 : H7 l = some (.lst _) := h2
      rw [z, hq] at h2
      cases h2
    have pen7 : PenAt H7 p (n + 4) := pen6.same s7
    have penZ := pen7
    have hp7 := s7 _ _ hp6
    have hL7 := s7 _ _ hL6
    have nLq : L ≠ q := ne_of_none hL7 hq
    have hPs7 := hPs6.same s7
    have hph7 := hph.same s7
    have hS7 := hS6.same s7
    have hX7 := s7 _ _ hX6
    generalize upd (upd H7 q (.lst [])) tp (.tup [.ref ry, .ref q]) = H8 at *
    obtain ⟨lp, penL7⟩ := pen7
    have nlq : lp ≠ q := penq lp penL7
    have penL8 : PenAtL H8 p lp (n + 4) := by
      obtain ⟨cs, i, lf, h1, h2, h3⟩ := penL7
      exact ⟨cs, i, lf, s78 _ _ h1, h2.same s78, h3⟩
    have s68 := s7.trans s78
    have hR8 := hR.same s78
    have hL8 := s68 _ _ hL6
    have hPs8 := hPs6.same s68
    have hph8 := hph.same s68
    have hS8 := hS6.same s68
    have hX8 := s68 _ _ hX6
    have hT8 := TabsN.ext hT6 s68
    have sqp8 : SameQ p H H8 := sqp6.trans (.of s68)
    clear hL6 hPs6 hph hS6 hX6 hT6 hR penL7 penq
    -- the function that is asked
    refine ⟨hT8, fun f c' H9 ext9 back9 tab9 hfN hf hc => ?_⟩
    have ntx : ∀ {b : Addr} (ps : Array Value), TabX b ≠ .tbl ps := fun ps z => by
      unfold TabX at z
      cases z
    have hq9 := ext9 _ _ hq8 (fun ps z => nomatch z)
    have hR9 := hR8.extN ext9
    have hL9 := ext9 _ _ hL8 (fun ps z => nomatch z)
    have hPs9 := hPs8.extN ext9
    have hph9 := hph8.extN ext9
    have hS9 := hS8.extN ext9
    have hX9 := ext9 _ _ hX8 ntx
    have penL9 : PenAtL H9 p lp (n + 4) := by
      obtain ⟨cs, i, lf, h1, h2, h3⟩ := penL8
      exact ⟨cs, i, lf, ext9 _ _ h1 (fun ps z => nomatch z), h2.extN ext9, h3⟩
    have pen9 : PenAt H9 p (n + 4) := ⟨lp, penL9⟩
    obtain ⟨us9, hp9⟩ := pen_lst pen9
    have off9 : Off p H H9 := (Off.pen sqp8).trans (.extN ext9)
    clear hq8 hR8 hL8 hPs8 hph8 hS8 hX8 hT8 penL8
    -- a draw
    refine ⟨_, rfl, p, 2, n + 4, rfl, by decide, by decide, pen9, by omega, fun H10 r sq10 pen10 hr2 penK => ?_⟩
    have penL10 := penK lp penL9
    have off10 := off9.trans (.pen sq10)
    have hq10 := sq10 _ _ nqp hq9
    have hR10 := sq10.rule ⟨_, hp9⟩ hR9
    have hL10 := sq10 _ _ nLp hL9
    have hPs10 := hPs9.pen pen9 sq10
    have hph10 := hph9.pen pen9 sq10
    have hS10 := sq10.shape ⟨_, hp9⟩ hS9
    have hX10 := sq10 _ _ (ne_of hX9 hp9 nlTab) hX9
    have tab10 := TabsN.off hp9 sq10 tab9
    have hf10 := sq10 _ _ (ne_of hf hp9 fno_ne) hf
    have hc10 := sq10 _ _ (ne_of hc hp9 code_ne) hc
    have ro : ROk (nfP Ph) := (sm Ph hmem Ph hmem).oks
    have rmem : nfP Ph ∈ rs := by
      rw [← rare]
      exact List.mem_map_of_mem hmem
    have rsm : ∀ r ∈ rs, ∀ r' ∈ rs, SmallP r r' := fun r h r' h' => by
      rw [← rare] at h h'
      obtain ⟨P, hP, rfl⟩ := List.mem_map.mp h
      obtain ⟨P', hP', rfl⟩ := List.mem_map.mp h'
      exact sm P hP P' hP'
    obtain ⟨r0, es, ft, ok⟩ := told_spec (nfP Ph) rs.length rs [] (Nat.le_refl _) rmem
    rw [List.nil_append] at ft
    refine ⟨rfl, _, rfl, ite_both (both_told rfl rfl fun pins s' I => ?_)⟩
    have cps := Caps.made I.ok (ndef_free nd_ask) (ndef_fr nd_ask) (js := [6, 5]) (by rfl)
    have cel := cells_of I cps
    have aj := ask_ok (f := f) (q := q) (ry := ry) (rh := nfP Ph) I ((ask_body (P := P) (w := w) (base := base) T _ f rfl rfl rfl).mono (by decide)) cel (fun y c e => cells_off I rfl rfl (fun _ => rfl) (cps.sub y c e)) hf10 hc10 hq10 hR10 ro
    refine ⟨x, f, q, ⟨M, a, t, rs⟩, _, meets (nfP Ph), rfl, hS10, by show rs.length ≤ 1000; omega, rsm, ⟨_, rmem, fun _ _ => rfl⟩, aj.1, aj.2, hX10, fun H11 fo sq11 j11 hF11 => ?_⟩
    rw [show toldF (meets (nfP Ph)) (Sh.mk M a t rs).rs.length (Sh.mk M a t rs).rs [] = (r0, es) from ft] at j11 hF11
    clear aj cel cps I
    have off7 : Off p H7 H11 := (((Off.of s78).trans (.extN ext9)).trans (.pen sq10)).new hq sq11
    have off11 : Off p H H11 := off10.new nqH sq11
    have pen11 : PenAt H11 p (n + 5) := by
      obtain ⟨cs, i, lf, h1, h2, h3⟩ := penL10
      exact ⟨lp, cs, i, lf, sq11 _ _ nqp.symm h1, sq11 _ _ nlq h2, h3⟩
    have hL11 : H11 L = some (.lst ys) := off7 L (.lst ys) nLp (fun _ z => nomatch z) hL7
    have hPs11 := hPs7.off penZ off7
    have hph11 := hph7.off penZ off7
    have hS11 := hS7.off hp7 off7
    have tab11 := TabsN.off hq10 sq11 tab10
    obtain ⟨_, _, hR11, us, hq11, htw⟩ := j11
    clear hL7 hPs7 hph7 hS7 hX7 hL10 hPs10 hph10 hS10 hX10 tab10 hf10 hc10 hq10 hR10 hL9 hPs9 hph9 hS9 hX9 tab9 hf hc hq9 hR9 hp9 pen9 hp7 penZ off7 sq11 sq10 ext9 back9 s78 sqp8
    -- what was due
    refine ⟨_, rfl, _, rfl, L, ph, ys, Ps, Ph, rfl, hL11, hPs11, hph11, hmem, nf, sm, by omega, fun H12 w1 p0 nn ws P0 es' s12 hw12 hP0 hp0 hn hE lE ft' => ⟨w1, _, rfl, SqT.of hw12, rfl, _, _, rfl, _, _, rfl, rfl, ?_⟩⟩
    rw [rare, ← rlen, ft] at ft'
    obtain ⟨e1, e2⟩ := Prod.mk.inj ft'
    subst e1 e2
    have hq12 := s12 _ _ hq11
    have htw12 : TwosAt H12 us (es.map fun e => (e.1, e.2.1)) := Paired.mapP htw fun _ _ ⟨b, e, z⟩ => ⟨b, e, s12 _ _ z⟩
    have hR12 := hR11.same s12
    have hF12 := hF11.same s12
    have hS12 := hS11.same s12
    have hL12 := s12 _ _ hL11
    have hPs12 := hPs11.same s12
    have wlen : ws.length = es.length := Paired.length hE
    have zl : ∀ k : Nat, k ≤ 100 → k ≤ sizeLine := fun k h => Nat.le_trans h (by rw [sizeLine_eq]; decide)
    -- what was asked
    refine ⟨_, rfl, _, rfl, nn, rfl, ⟨_, SqL.of hn⟩, fun D hD => lc_listP (xs := ws) (fun i v H => ∀ e, es[i]? = some e → ∃ tp, v = V.ref tp ∧ H tp = some (.tup (IV [(e.1 : Int), (e.2.1 : Int)]))) (fun i v H H' ⟨l, hl⟩ sq h e he => ?_) hD (SqL.of hn) (zl _ (by omega)) (fun i v H13 hv s13 Qk hk => ?_) fun H13 acc s13 hacc alen each => ?_⟩
    · obtain ⟨tp, e1, e2⟩ := h e he
      exact ⟨tp, e1, sq _ _ (ne_of e2 hl (fun z => nomatch z)) e2⟩
    · obtain ⟨e, he, pe, rfl, hpe⟩ := paired_at hE hv
      have hpe13 := s13 _ _ hpe
      refine ⟨rfl, _, rfl, pe, _, (0 : Int), _, rfl, rfl, .inr hpe13, rfl, _, rfl, pe, _, (1 : Int), _, rfl, rfl, .inr hpe13, rfl, zl 2 (by decide), fun tp htp => hk (.ref tp) _ (Same.put htp) fun e' he' => ⟨tp, rfl, ?_⟩⟩
      rw [he] at he'
      cases he'
      exact upd_same
    have pa : Paired (fun x (c : Nat × Nat) => ∃ b, x = V.ref b ∧ H13 b = some (.tup (IV [(c.1 : Int), (c.2 : Int)]))) us (es.map fun e => (e.1, e.2.1)) := Paired.mapP htw12 fun _ _ ⟨b, e, z⟩ => ⟨b, e, s13 _ _ z⟩
    have pb : Paired (fun x (c : Nat × Nat) => ∃ b, x = V.ref b ∧ H13 b = some (.tup (IV [(c.1 : Int), (c.2 : Int)]))) acc (es.map fun e => (e.1, e.2.1)) := paired_of (by rw [List.length_map]; omega) fun i x c hx hc => by
      rw [List.getElem?_map] at hc
      cases he : es[i]? with
      | none =>
        rw [he] at hc
        cases hc
      | some e =>
        rw [he] at hc
        obtain ⟨b, z1, z2⟩ := each i x hx e he
        obtain rfl := Option.some.inj hc
        exact ⟨b, z1, z2⟩
    obtain ⟨ls, hls⟩ : ∃ ls : List (List Int), ls = (es.map fun e => (e.1, e.2.1)).map fun c => [(c.1 : Int), (c.2 : Int)] := ⟨_, rfl⟩
    have da : DpAll K H13 us (tupsD ls) := by
      rw [hls]
      exact Dp_tups (paired_map (G := fun x (l : List Int) => ∃ b, x = V.ref b ∧ H13 b = some (.tup (IV l))) (m := fun (c : Nat × Nat) => [(c.1 : Int), (c.2 : Int)]) (fun _ _ z => z) pa)
    have db : DpAll K H13 acc (tupsD ls) := by
      rw [hls]
      exact Dp_tups (paired_map (G := fun x (l : List Int) => ∃ b, x = V.ref b ∧ H13 b = some (.tup (IV l))) (m := fun (c : Nat × Nat) => [(c.1 : Int), (c.2 : Int)]) (fun _ _ z => z) pb)
    refine ⟨_, _, .lst (SqL.of (s13 _ _ hq12)) da, .lst (SqL.of hacc) db, shaped_tups ls, shaped_tups ls, _, rfl, ?_⟩
    rw [eqv_shaped (shaped_tups ls)]
    refine iteF ?_
    clear da db pa pb each hacc
    -- what was found
    have hR13 := hR12.same s13
    have hF13 := hF12.same s13
    have hS13 := hS12.same s13
    have hL13 := s13 _ _ hL12
    have hPs13 := hPs12.same s13
    have hn13 := s13 _ _ hn
    have hE13 := hE.same s13
    refine ⟨_, rfl, _, rfl, p0, P0, rfl, hp0.same s13, (nf P0 hP0).ok, fun H14 rx s14 hrx => ?_⟩
    refine ⟨_, rfl, nn, ws, es, rfl, s14 _ _ hn13, hE13.same s14, ok.ok, by omega, fun H15 lx s15' hlx => ?_⟩
    refine fun x2 dx2 hx2 hd2 ne2 => found_made hx2 hd2 ne2 fun H16 s16 hF16 => ⟨rfl, ?_⟩
    have s36 := s14.trans (s15'.trans s16)
    refine ⟨true, found_same (hF13.same s36) ⟨dx2, rx, lx, hF16, hrx.same (s15'.trans s16), hlx.same s16⟩, fun H17 s17 => ?_⟩
    have s37 := s36.trans s17
    have hF17 := hF13.same s37
    have hR17 := hR13.same s37
    have hS17 := hS13.same s37
    have hL17 := s37 _ _ hL13
    have hPs17 := hPs13.same s37
    have hn17 := s37 _ _ hn13
    have hE17 := hE13.same s37
    have S17 : Same H11 H17 := s12.trans (s13.trans s37)
    clear hR13 hF13 hS13 hL13 hPs13 hn13 hE13 hF16 hrx hlx
    obtain ⟨dfo, fy, fl, hfo, hfy, hfl⟩ := id hF17
    obtain ⟨dlg, lt, lys, hlg, hlt, hly⟩ := id hfl
    refine ⟨_, rfl, iteF ⟨_, rfl, fo, _, dfo, _, _, rfl, hfo, T.c_Found, T.n_Found_log, rfl, fl, dlg, _, lt, lys, rfl, hlg, rfl, hlt, fun l2 hl2 => ⟨⟨es.length, by omega, fun Q' z => ⟨fl, es, rfl, hfl.same (Same.put hl2), z⟩⟩, ?_⟩⟩⟩
    have s18 : Same H17 (upd H17 l2 (.lst lys)) := Same.put hl2
    have hl18 : upd H17 l2 (.lst lys) l2 = some (.lst lys) := upd_same
    generalize upd H17 l2 (.lst lys) = H18 at *
    refine ⟨_, rfl, _, _, .lst (SqL.of hl18) (Dp_ents (EntsAt.same hly s18)), .lst (SqL.of (s18 _ _ hn17)) (Dp_ents (EntsAt.same hE17 s18)), shaped_entsL es, shaped_entsL es, _, rfl, ?_⟩
    rw [eqv_shaped (shaped_entsL es)]
    refine iteF ?_
    -- the shape's own rules
    have hS18 := hS17.same s18
    have hL18 := s18 _ _ hL17
    have hPs18 := hPs17.same s18
    obtain ⟨dz, mz, oz, yz, hpz, hmz, hoz, hRz⟩ := id hS18
    have yzl : yz.length = rs.length := Paired.length hRz
    refine ⟨_, rfl, x, dz, _, oz, yz, rfl, hpz, rfl, hoz, fun l3 hl3 => ⟨True.intro, ?_⟩⟩
    have s19 : Same H18 (upd H18 l3 (.lst yz)) := Same.put hl3
    have hl19 : upd H18 l3 (.lst yz) l3 = some (.lst yz) := upd_same
    generalize upd H18 l3 (.lst yz) = H19 at *
    have hL19 := s19 _ _ hL18
    have hPs19 := hPs18.same s19
    have hRz19 := RulesIn.same hRz s19
    refine ⟨_, rfl, L, rfl, ⟨_, SqL.of hL19⟩, fun D2 hD2 => lc_listP (xs := ys) (fun i v H => ∀ r, rs[i]? = some r → ∃ b, v = V.ref b ∧ RuleAt K H b r) (fun i v H H' ⟨l, hl⟩ sq h r hr => ?_) hD2 (SqL.of hL19) (zl _ (by omega)) (fun i v H20 hv s20 Qk hk => ?_) fun H20 acc2 s20 hacc2 alen2 each2 => ?_⟩
    · obtain ⟨b, e1, e2⟩ := h r hr
      exact ⟨b, e1, sq.rule ⟨l, hl⟩ e2⟩
    · obtain ⟨P, hP, pq, rfl, hpq⟩ := paired_at hPs19 hv
      refine ⟨rfl, _, rfl, pq, P, rfl, hpq.same s20, (nf P (List.mem_of_getElem? hP)).ok, fun H21 b s21 hb => hk (.ref b) H21 s21 fun r hr => ⟨b, rfl, ?_⟩⟩
      rw [← rare, List.getElem?_map, hP] at hr
      obtain rfl := Option.some.inj hr
      exact hb
    have hl20 := s20 _ _ hl19
    have hRz20 := RulesIn.same hRz19 s20
    refine ⟨l3, D2, yz, acc2, rfl, rfl, hl20, hacc2, by omega, fun i u v hu hv => ?_, fun H21 s21 => ⟨_, rfl, iteF ?_⟩⟩
    · obtain ⟨r1, hr1, qa, rfl, hqa⟩ := paired_at hRz20 hu
      obtain ⟨b, rfl, hb⟩ := each2 i v hv r1 hr1
      exact ⟨qa, b, r1, r1, rfl, rfl, hqa, hb, by simp⟩
    -- the last three
    have T21 : Same H17 H21 := s18.trans (s19.trans (s20.trans s21))
    have hfo21 := T21 _ _ hfo
    have hfy21 := hfy.same T21
    have hR21 := hR17.same T21
    have hS21 := hS17.same T21
    have hF21 := hF17.same T21
    have hfl21 := hfl.same T21
    have al : alikeB (nfP P0) (nfP Ph) = true := ok.rest _ rmem ok.fith
    refine ⟨_, rfl, fo, _, dfo, _, _, rfl, hfo21, T.c_Found, T.n_Found_rule, rfl, _, rfl, fy, ry, nfP P0, nfP Ph, rfl, hfy21, hR21, sm P0 hP0 Ph hmem, fun H22 v dv fs s22 _ hv => ⟨v, true, rfl, ⟨dv, fs, hv⟩, true, rfl, iteT ?_⟩, fun H22 v dv a b s22 pt hv => ?_⟩
    · have ok0 : ROk (nfP P0) := (sm P0 hP0 P0 hP0).oks
      have few0 := ok0.few
      refine ⟨_, rfl, _, rfl, x, fo, ⟨M, a, t, rs⟩, nfP P0, es, rfl, hS21.same s22, hF21.same s22, ok0, by omega, rsm _ ok.mem, ok.ok, by omega, by show rs.length ≤ 1000; omega, by rw [ers]; exact in_shape hx (psub P0 hP0), ok.fit0, fun H23 s23 => ⟨_, rfl, ?_⟩⟩
      have all : (((Sh.mk M a t rs).rs.filter fun r' => es.all (entIs r')).all (alikeB (nfP P0))) = true := List.all_eq_true.mpr fun r hr => ok.rest r (List.mem_filter.mp hr).1 (List.mem_filter.mp hr).2
      rw [all]
      refine iteT ?_
      have T23 := T21.trans (s22.trans s23)
      have hfo23 := T23 _ _ hfo
      have hR23 := hR17.same T23
      have hfl23 := hfl.same T23
      obtain ⟨dz, mz, oz, yz, hpz, hmz, hoz, hRz⟩ := hS17.same T23
      have yzl : yz.length = rs.length := Paired.length hRz
      refine ⟨_, rfl, _, rfl, _, rfl, fo, _, dfo, _, _, rfl, hfo23, T.c_Found, T.n_Found_log, rfl, x, fl, oz, yz, rs, es, rfl, ⟨⟨dz, _, hpz, rfl⟩, hoz, hRz, fun r hr => (rsm r hr r hr).oks, hfl23, ok.ok, by omega⟩, by omega, yzl, fun S H24 hS sqS hS24 => ?_⟩
      have sS : Same H23 H24 := fun b o e => sqS b o (ne_of_none e hS) e
      have fr := (fitL_rules (es := es) hRz).same sS
      refine ⟨S, _, fun i => decide ((rs.filter fun r => es.all (entIs r)).getD i ⟨[], [], []⟩ = nfP Ph), rfl, hS24, fun i u hu => ?_, ?_, fun H25 s25 => ?_⟩
      · obtain ⟨r1, hr1, qa, rfl, hqa⟩ := paired_at fr hu
        have g1 : (rs.filter fun r => es.all (entIs r)).getD i ⟨[], [], []⟩ = r1 := by
          rw [List.getD_eq_getElem?_getD, hr1]
          rfl
        exact ⟨qa, ry, r1, nfP Ph, rfl, rfl, hqa, hR23.same sS, congrArg (fun z => decide (z = nfP Ph)) g1⟩
      · obtain ⟨j, hj⟩ := List.mem_iff_getElem?.mp (List.mem_filter.mpr ⟨rmem, ok.fith⟩ : nfP Ph ∈ rs.filter fun r => es.all (entIs r))
        refine ⟨j, ?_, decide_eq_true ?_⟩
        · rw [Paired.length fr]
          exact (List.getElem?_eq_some_iff.mp hj).1
        · rw [List.getD_eq_getElem?_getD, hj]
          rfl
      · have TT := S17.trans (T23.trans (sS.trans s25))
        exact k H25 (off11.trans (.of TT)) (pen11.same TT) (TabsN.ext tab11 TT)
    · have no := parts_not_alike pt
      rw [al] at no
      cases no
end
end K70
-- K70Lam
/-! a lambda with parameters that is handed on -/
namespace K70
open L2 PySem PySem.Spec PyProof.Rows NdefX LamX
abbrev lamFd (F : NF) (e : Expr) (pm ctv : Value) : FuncData := PySem.W.kla_fn F.name F.qual F.params e F.scope F.cl pm (.ref F.c) ctv
/-- at f lies the lambda F, e is its body -/
def FnE (f : Addr) (F : NF) (e : Expr) : HO := .ext fun h => ∃ (od : Option Addr) (sl : Array (Option Value)) (pm ctv : Value), h.get? f = some (⟨.type "function", od, .func (lamFd F e pm ctv), sl⟩ : Obj)
theorem fnE_at {P : Program} {w : World} {H : Hp} {h : Heap} {f : Addr} {F : NF} {e : Expr} (hok : HOk P w H h) (z : H f = some (FnE f F e)) : ∃ (od : Option Addr) (sl : Array (Option Value)) (pm ctv : Value), h.get? f = some (⟨.type "function", od, .func (lamFd F e pm ctv), sl⟩ : Obj) := by
  obtain ⟨q, _, _⟩ := hok f _ z
  exact q
theorem fnE_nt {f : Addr} {F : NF} {e : Expr} (ps : Array Value) : FnE f F e ≠ .tbl ps := fun z => by
  unfold FnE at z
  cases z
theorem fnE_nl {f : Addr} {F : NF} {e : Expr} {us : List V} : FnE f F e ≠ .lst us := fun z => by
  unfold FnE at z
  cases z
section
variable {X : Cx} {σ : L2.St} {H : Hp} {s : Shared} {pins : List (Addr × Obj)}
theorem inv_fnE {F : NF} {e : Expr} {o : Obj} {t' : Nat} {pm ctv : Value} (I : Inv X pins σ H s) (ho : o = { cls := .type "function", data := .func (lamFd F e pm ctv) }) :
    Inv X pins σ (upd H s.heap.objs.size (FnE s.heap.objs.size F e)) { s with heap := s.heap.push o, toks := t' } := by
  subst ho
  refine I.laid (a := s.heap.objs.size) (fun b u z => Heap.get?_push_of_some _ z) (Nat.le_refl _) ?_
  have z : (s.heap.push ({ cls := .type "function", data := .func (lamFd F e pm ctv) } : Obj)).get? s.heap.objs.size = some ({ cls := .type "function", data := .func (lamFd F e pm ctv) } : Obj) := Heap.get?_push_size _ rfl
  exact ⟨⟨_, _, pm, ctv, z⟩, ⟨_, z⟩, fun h1 h2 ⟨od, sl, p, t, q⟩ st => ⟨od, sl, p, t, st _ q⟩⟩
abbrev lamNF (X : Cx) (params : Arguments) (scope : Scope) (c' : Addr) : NF := ⟨"<lambda>", X.env.qual ++ "<lambda>", params, [], scope, cloFrom X.env.cells scope.names [], c'⟩
theorem lamF_make {T : List NTab} {nm : Nat → Nat → Str} {c P : Addr} {params : Arguments} {body : Expr} {scope : Scope} {pos : Pos} {Ek : Value → Shared → Prop} {Q : Value → Shared → Prop} (Ik : Inv X pins σ H s) (TB : TabB X.base X.mg c P) (hcode : X.env.code = .ref c)
    (hm : (P, nm) ∈ T) (hn : nm pos.line pos.col = X.env.qual ++ "<lambda>") (hu : ∀ p ∈ T, p.1 = P → p.2 = nm) (hT : TabsN T H) (hdefk : defaultsOf params X.env = ([], [])) (hfree : ∀ y ∈ scope.names, y.2 = .free → ∃ c, X.env.cells.lookup y.1 = some c)
    (h : ∀ (f c' : Addr) (H1 : Hp) (s' : Shared), Inv X pins σ H1 s' → ExtN H H1 → TabsN T H1 → H f = none → H1 f = some (FnE f (lamNF X params scope c') body) → H1 c' = some (CodeO c' (X.env.qual ++ "<lambda>")) → Q (.ref f) s') :
    wpAny (model X.prog X.w) X.A (eval (.Lambda params body scope pos) X.env) Q Ek s := by
  obtain ⟨ps, hP, htk, ha⟩ := (show TabN H P nm from hT _ hm)
  refine PySem.W.kla_eval hdefk ?_
  have bP : s.heap.BuiltinsAt X.mg P := TB.bm.keeps Ik.bk
  have hP' : s.heap.get? P = some { cls := .none, data := .fields ps } := Ik.hok P _ hP
  cases hc : (codeAmong pos ps.toList) with
  | none =>
    refine PySem.W.kla_makeFunction (mg := X.mg) (c := c) (P := P) (ps := ps) (closure_ok hfree) Ik.ok.glob (Ik.mod.glob.keeps Ik.bk) hcode (TB.code.keeps Ik.bk) hP' htk hc TB.gP bP fun c' ctv h' tk hx hge hlt hrec htb => ?_
    obtain ⟨c2, oc, vs, t, e2k, hoc, hd, hv⟩ := hrec
    cases e2k
    have nC : H c' = none := Ik.hok.fresh hge
    obtain ⟨more, hmore⟩ : ∃ more : Array Value, more = #[rawInt pos.line, rawInt pos.col, .ref c'] := ⟨_, rfl⟩
    rw [← hmore] at htb
    have I1 := inv_table (t' := tk) (more := more) (h' := h') Ik hP (fun b o hb e => hx b o hb e) htb hge ⟨oc, vs, t, hoc, hd, hv⟩
    obtain ⟨H2, hH2⟩ : ∃ H2, H2 = upd (upd H P (.tbl (ps ++ more))) c' (CodeO c' (X.env.qual ++ "<lambda>")) := ⟨_, rfl⟩
    rw [← hH2] at I1
    have hE : ExtN H H2 := fun b o e n => by
      rw [hH2, upd_ne (ne_of_none e nC), upd_ne (fun z => n ps (Option.some.inj (e.symm.trans (by rw [z]; exact hP))))]
      exact e
    have atC : H2 c' = some (CodeO c' (X.env.qual ++ "<lambda>")) := by
      rw [hH2]
      exact upd_same
    have T1 : TabsN T H2 := fun p hp => by
      by_cases hb : p.1 = P
      · rw [hu p hp hb, hb]
        have eL : (ps ++ more).toList = ps.toList ++ [rawInt pos.line, rawInt pos.col, .ref c'] := by rw [hmore]; simp
        refine ⟨ps ++ more, by rw [hH2, upd_ne (ne_of_none hP nC), upd_same], by rw [eL]; exact PySem.TriplesOk_snoc _ _ _ _ htk, fun p' cvk hcv => ?_⟩
        rw [eL] at hcv
        rcases among_app2 _ htk hcv with z | ⟨z, z1, z2⟩
        · obtain ⟨c0, e1, e2k⟩ := ha p' cvk z
          exact ⟨c0, e1, hE _ _ e2k codeO_ne⟩
        · refine ⟨c', z, ?_⟩
          rw [← z1, ← z2, hn]
          exact atC
      · obtain ⟨ps', a1k, a2, a3⟩ := hT p hp
        refine ⟨ps', by rw [hH2, upd_ne (ne_of_none a1k nC), upd_ne hb]; exact a1k, a2, fun p' cvk hcv => ?_⟩
        obtain ⟨c0, e1, e2k⟩ := a3 p' cvk hcv
        exact ⟨c0, e1, hE _ _ e2k codeO_ne⟩
    have nFk := I1.hok.fresh (Nat.le_refl _)
    have I2 := inv_fnE (F := lamNF X params scope c') (e := body) (t' := tk) (pm := (X.mg "__name__").getD .none) (ctv := ctv) I1 rfl
    refine h h'.objs.size c' _ _ I2 (fun b o e n => ?_) (T1.ext fun b o e => ?_) (Ik.hok.fresh (Nat.le_trans hge (Nat.le_of_lt hlt))) upd_same ?_
    · have e1 := hE b o e n
      exact (upd_ne (ne_of_none e1 nFk)).trans e1
    · exact (upd_ne (ne_of_none e nFk)).trans e
    · exact (upd_ne (Nat.ne_of_lt hlt)).trans atC
  | some cvk =>
    obtain ⟨c', e, hco⟩ := ha pos cvk hc
    subst e
    rw [hn] at hco
    refine PySem.W.kla_makeFunctionHit (mg := X.mg) (c := c) (P := P) (ps := ps) (closure_ok hfree) Ik.ok.glob (Ik.mod.glob.keeps Ik.bk) hcode (TB.code.keeps Ik.bk) hP' htk hc bP fun ctv h' tk hx hsz => ?_
    have I1 : Inv X pins σ H { s with heap := h', toks := tk } := Ik.kept hx
    have nFk : H h'.objs.size = none := I1.hok.fresh (Nat.le_refl _)
    have I2 := inv_fnE (F := lamNF X params scope c') (e := body) (t' := tk) (pm := (X.mg "__name__").getD .none) (ctv := ctv) I1 rfl
    refine h h'.objs.size c' _ _ I2 (fun b o e n => ?_) (hT.ext fun b o e => ?_) nFk upd_same ?_
    · exact (upd_ne (ne_of_none e nFk)).trans e
    · exact (upd_ne (ne_of_none e nFk)).trans e
    · exact (upd_ne (ne_of_none hco nFk)).trans hco
end
/-- the reading of a lambda's expression: a new function -/
def tLamF (T : List NTab) (mk : Addr → NF) (e : Expr) : TE := fun σ H Q => TabsN T H ∧ ∀ (f c' : Addr) (H1 : Hp), ExtN H H1 → TabsN T H1 → H f = none → H1 f = some (FnE f (mk c') e) → H1 c' = some (CodeO c' (mk c').qual) → Q (.ref f) H1
theorem pe_lamF {X : Cx} {T : List NTab} {nm : Nat → Nat → Str} {c P : Addr} {params : Arguments} {body : Expr} {scope : Scope} {pos : Pos} (TB : TabB X.base X.mg c P) (hcode : X.env.code = .ref c) (hm : (P, nm) ∈ T) (hn : nm pos.line pos.col = X.env.qual ++ "<lambda>") (hu : ∀ p ∈ T, p.1 = P → p.2 = nm)
    (hfree : ∀ y ∈ scope.names, y.2 = .free → X.env.scope.names.lookup y.1 = some .cell ∨ X.env.scope.names.lookup y.1 = some .free) (hdef : defaultsOf params X.env = ([], [])) : PE X (.Lambda params body scope pos) (tLamF T (lamNF X params scope) body) := by
  refine ⟨fun pins s σ H Q Ik h => ?_⟩
  obtain ⟨hT, h⟩ := h
  have hfr : ∀ y ∈ scope.names, y.2 = .free → ∃ c, X.env.cells.lookup y.1 = some c := fun y hy e => (hfree y hy e).elim (fun z => Ik.ok.has _ (.inl z)) fun z => Ik.ok.has _ (.inr z)
  exact lamF_make Ik TB hcode hm hn hu hT hdef hfr fun f c' H1 s' I1 eN T1 f0 f1 c1 => ⟨.ref f, H1, I1, rfl, h f c' H1 eN T1 f0 f1 c1⟩
/-- a lambda's promise -/
structure NOkE (P : Program) (w : World) (K : PySem.W.Frag) (mg : Str → Option Value) (base : Heap) (CXk : CXT) (k : Nat) (f : Addr) (F : NF) (e : Expr) (ps fr : List Str) (sp : List (Option V) → Sp) : Prop where
  run : ∀ (A : Around) (outer : List Env) (s : Shared) (H : Hp) (us : List Value) (vs : List V) (ws : List (Option V)) (Q : VK) (E : XK), Room k A → Env0 P w K mg base A outer s H → H f = some (FnE f F e) → H F.c = some (CodeO F.c F.qual) →
    CellsAt F.cl fr ws s.heap H → Vals vs us → sp ws vs H Q E → codeAny (model P w) A (.call (.ref f) ⟨us, []⟩) (CR CXk outer P w H s Q E) s
theorem nokE_of {CX : CXT} {P : Program} {w : World} {K : PySem.W.Frag} {mg : Str → Option Value} {base : Heap} {N ps fr : List Str} {F : NF} {e : Expr} {f : Addr} {k : Nat} {sp : List (Option V) → Sp} (S : NScope N ps fr F.scope)
    (hb : ∀ (pm ctv : Value) (us : List Value), us.length = ps.length → bindArgs (lamFd F e pm ctv) ⟨us, []⟩ = pure (ps.zip us)) (len : ∀ ws vs H Q E, sp ws vs H Q E → vs.length = ps.length)
    (hbody : ∀ (A : Around) (outer : List Env) (s : Shared) (H : Hp) (vs : List V) (ws : List (Option V)) (Q : VK) (E : XK), Room k (A.deeper (envF F f s.heap.objs.size)) → sp ws vs H Q E →
      ∃ t, PE (ncx CX P w K mg base N F f A outer s H E) e t ∧ t (startF N vs ws) H Q) :
    NOkE P w K mg base CX (k + 1) f F e ps fr sp := by
  refine ⟨fun A outer s H us vs ws Q E hr e0k hf hc C r hsp => ?_⟩
  have hl := len _ _ _ _ _ hsp
  have lim : s.heap.NoLimit := e0k.mod.nolimit.keeps fun b o e => (e0k.bs b o e).1
  obtain ⟨od, sl, pm, ctv, ho⟩ := fnE_at e0k.hok hf
  refine PySem.W.kla_callFunE hr.depth ho rfl S.co S.gen rfl (codeO_at e0k.hok hc) ?_
  rw [hb pm ctv us (by rw [← r.length]; exact hl)]
  refine wpAny_pure (wpAny_newFunctionEnv S.nocell (fun ⟨n, _⟩ hy => S.par n (List.of_mem_zip hy).1) (fun h₁ hns hsbk => ⟨lim.fresh _ hsbk, ?_⟩) S.kind)
  show codeAny _ _ (.expr e (envF F f s.heap.objs.size)) _ _
  have kp : ∀ b o, s.heap.get? b = some o → h₁.get? b = some o := fun b o e => hsbk.extBut b o (Nat.ne_of_lt (Heap.lt_size e)) (Heap.get?_push_of_some _ e)
  obtain ⟨t, ht, hq⟩ := hbody A outer s H vs ws Q E (hr.deeper _) hsp
  have I : Inv (ncx CX P w K mg base N F f A outer s H E) [] (startF N vs ws) H { s with heap := h₁, toks := s.toks + (ps.zip us).length } := inv_startN S hr.hd e0k hl r C hns kp
  refine PySem.W.kla_codeExpr (wpAny_mono (ht.run [] _ (startF N vs ws) H Q I hq) (fun v s' hs => ?_) fun e s' hs => hs)
  obtain ⟨w', H'k, J', rv, q⟩ := hs
  exact ⟨w', H'k, J'.os, J'.bare, J'.base, J'.hok, rv, q⟩
/-! ### the law's own lambda -/
/-- what it does: two banks, one of them asked after the other -/
def spOdd (K : PySem.W.Frag) : List (Option V) → Sp := fun ws vs H Q _ => ∃ (ry : Addr) (rh : PR) (a b : Nat), ws = [some (.ref ry)] ∧ vs = [.int (a : Int), .int (b : Int)] ∧ RuleAt K H ry rh ∧ ROk rh ∧ a ≤ 10 ^ 30 ∧ b ≤ 10 ^ 30 ∧
  ∀ H', Same H H' → Q (.bl (meets rh a b)) H'
def lamParts : Stmt → Option (Arguments × Expr × Scope)
  | .Assign _ (.Call _ [_, .Lambda p b sc _] _ _) _ => some (p, b, sc)
  | _ => none
abbrev oddL : Arguments × Expr × Scope := (lamParts (((defBody slaw)[3]?).getD (.Pass default))).getD (defArgs (.Pass default), .Name "" default, defScope (.Pass default))
abbrev NO : List Str := ["_law_first_here", "_law_second", "_law_odd"]
theorem nsc_odd : NScope NO ["_law_first_here", "_law_second"] ["_law_odd"] oddL.2.2 := nscope_by (by decide +kernel)
theorem nd_odd : ndefB (defScope slaw) oddL.2.2 ["_law_odd"] = true := by decide +kernel
section
variable {K : PySem.W.Frag} {mg : Str → Option Value} {base : Heap} {P : Program} {w : World}
theorem odd_body (T : Tx K mg) (F : NF) (e : Expr) (f : Addr) (hsc : F.scope = oddL.2.2) (hbd : e = oddL.2.1) (hpar : F.params = oddL.1) : NOkE P w K mg base CX0 8 f F e ["_law_first_here", "_law_second"] ["_law_odd"] (spOdd K) := by
  obtain ⟨name, qual, params, body, scope, cl, c⟩ := F
  simp only at hsc hbd hpar
  subst hsc hbd hpar
  refine nokE_of nsc_odd (fun pm ctv us hl => ?_) (fun ws vs H Q E h => ?_) fun A outer s H vs ws Q E hr h => ?_
  · match us, hl with
    | [_, _], _ => rfl
  · obtain ⟨ry, rh, a, b, rfl, rfl, _⟩ := h
    rfl
  · obtain ⟨ry, rh, a, b, rfl, rfl, hR, ok, la, lb, k⟩ := h
    have c_call := ok_Rule_call (P := P) (w := w) (base := base) T
    refine ⟨_, (pe_cmpR op_eq (pe_callI (pv 2) (rule_callO T) (mtd_run c_call) (hr.mono (by decide)) (pa_cons (pv 0) pa_nil)) (pe_callI (pv 2) (rule_callO T) (mtd_run c_call) (hr.mono (by decide)) (pa_cons (pv 1) pa_nil)) (nomark _)), ?_⟩
    obtain ⟨dx, m, a1, t1, i1, _⟩ := id hR
    have big : ∀ c : Nat, c ≤ 10 ^ 30 → c < 2 ^ 1000 := fun c h => Nat.lt_of_le_of_lt h (by decide +kernel)
    refine ⟨_, rfl, ry, rfl, _, rfl, ⟨dx, _, i1⟩, ry, rh, a, rfl, hR, ok, big a la, fun H3 s3 => ?_⟩
    refine ⟨_, rfl, ry, rfl, _, rfl, ⟨dx, _, s3 _ _ i1⟩, ry, rh, b, rfl, hR.same s3, ok, big b lb, fun H4 s4 => ⟨rfl, ?_⟩⟩
    have ev : decide (V.int (bankI rh.m (wtR rh) a) = V.int (bankI rh.m (wtR rh) b)) = meets rh a b := by
      rw [dec_int]
      rfl
    rw [ev]
    exact k H4 (s3.trans s4)
end
/-- what is known while it is asked -/
def OddJ (K : PySem.W.Frag) (f q ry : Addr) (F : NF) (e : Expr) (rh : PR) : List (Nat × Nat) → Hp → Prop := fun _ H => H f = some (FnE f F e) ∧ H F.c = some (CodeO F.c F.qual) ∧ RuleAt K H ry rh ∧ ∃ us, H q = some (.lst us)
theorem odd_ok {X : Cx} {pins : List (Addr × Obj)} {σ : L2.St} {H : Hp} {s : Shared} {f q ry : Addr} {F : NF} {e : Expr} {rh : PR} (I : Inv X pins σ H s) (N : NOkE X.prog X.w X.K X.mg X.base CX0 8 f F e ["_law_first_here", "_law_second"] ["_law_odd"] (spOdd X.K))
    (C : CellsAt F.cl ["_law_odd"] [some (.ref ry)] s.heap H) (nf : ∀ y c, F.cl.lookup y = some c → c ∉ frs X.stack) (hf : H f = some (FnE f F e)) (hc : H F.c = some (CodeO F.c F.qual)) (hq : ∃ us, H q = some (.lst us)) (hR : RuleAt X.K H ry rh) (ok : ROk rh) :
    AskOk X.prog X.w X.K X.mg X.base 8 f q (OddJ X.K f q ry F e rh) (meets rh) X.stack s H ∧ OddJ X.K f q ry F e rh [] H := by
  refine ⟨⟨?_, ?_, ?_, ?_⟩, hf, hc, hR, hq⟩
  · intro A outer s' H' a b t1 t2 es Q hr e0 un j zl la lb k
    obtain ⟨jf, jc, jR, us, jq⟩ := j
    refine N.run A outer s' H' [.int a t1, .int b t2] [.int (a : Int), .int (b : Int)] [some (.ref ry)] Q E0 hr e0 jf jc (cellsAt_un C nf un) (.cons ⟨_, rfl⟩ (.cons ⟨_, rfl⟩ .nil)) ?_
    exact ⟨ry, rh, a, b, rfl, rfl, jR, ok, la, lb, fun H2 s2 => k H2 (.of s2) ⟨s2 _ _ jf, s2 _ _ jc, jR.same s2, us, s2 _ _ jq⟩⟩
  · intro es s' H' j hok
    obtain ⟨od, sl, pm, ctv, ho⟩ := fnE_at hok j.1
    exact ⟨_, od, _, sl, ho⟩
  · intro es H1 H2 j keep tups
    obtain ⟨jf, jc, ⟨dx, m, a, t, j1, j2, j3, j4⟩, us, jq⟩ := j
    have on : ∀ {b : Addr} {o : HO}, H b = some o → H b ≠ none := fun e z => by rw [e] at z; cases z
    obtain ⟨d0, m0, a0, t0, i1, _⟩ := id hR
    obtain ⟨us0, hq0⟩ := hq
    exact ⟨keep _ _ (on hf) jf, keep _ _ (on hc) jc, ⟨dx, m, a, t, keep _ _ (on i1) j1, tups _ _ j2, tups _ _ j3, tups _ _ j4⟩, us, keep _ _ (on hq0) jq⟩
  · intro es H1 j
    exact j.2.2.2
end K70
-- K70L15
namespace K70
open L2 PySem PySem.Spec PyProof.Rows StX
open NdefX LamX
/-- the law itself -/
def sp_law (K : PySem.W.Frag) : List Env → Shared → Sp := fun _ _ vs H Q _ => ∃ (a : Addr) (ns : List Int), vs = [.ref a] ∧ SqL K H a (IV ns) ∧ H (ct2 K "first_other") = some (TabX (ct2 K "first_other")) ∧ TabsN (lawT K) H ∧
  ∀ H', H' (ct2 K "first_other") = some (TabX (ct2 K "first_other")) → Q (.bl true) H'
theorem tab_two {K : PySem.W.Frag} {mg : Str → Option Value} (T : Tx K mg) : ∀ p ∈ lawT K, p.1 = ct2 K "law" → p.2 = nmL := fun p hp e => by
  rcases List.mem_cons.mp hp with z | z
  · rw [z] at e
    exact absurd e.symm (of_decide_eq_false T.x_tab_lr)
  · (rw [List.mem_singleton.mp z])
section
variable {K : PySem.W.Frag} {mg : Str → Option Value} {base : Heap} {P : Program} {w : World}
theorem sc_law : FnScope ["_law_script", "_law_pen_here", "_law_turn", "_law_odd", "_law_told"] ["_law_script"] (defScope slaw) := ⟨rfl, rfl, rfl, by decide +kernel, rfl, by decide +kernel, by decide +kernel⟩
theorem ok_law (T : Tx K mg) (B : TabF K mg base "first_other") (BR : TabF K mg base "_law_right") (BL : TabF K mg base "law") : FnG P w K mg base 18 (He.ga K "law") (sp_law K) := by
  have c__law_pen := ok__law_pen (P := P) (w := w) (base := base) T
  have c__law_right := ok__law_right (P := P) (w := w) T B BR
  have c__law_papers_right := ok__law_papers_right (P := P) (w := w) (base := base) T
  have c_Rule := ok_Rule_init (P := P) (w := w) (base := base) T
  have c_Shape := ok_Shape_init (P := P) (w := w) (base := base) T
  have c_Found := ok_Found_init (P := P) (w := w) (base := base) T
  have c_Log := ok_Log_init (P := P) (w := w) (base := base) T
  have tb := ok_told_back (P := P) (w := w) T B
  obtain ⟨fdT, FT⟩ := T.ftold_back
  obtain ⟨fdR, FR⟩ := T.f_law_right
  obtain ⟨fdP, FP⟩ := T.f_law_papers_right
  refine fnG_of T.flaw sc_law (fun _ _ _ _ _ _ us hl => match us, hl with | [_], _ => rfl) (fun outer s vs H Q E h => ?_) (fun A outer s H vs Q E hr gd e0 h => ?_)
  · obtain ⟨a, ns, rfl, _⟩ := h
    rfl
  · obtain ⟨a, ns, rfl, ha, hX, hT, k⟩ := h
    refine ⟨_, (pss_cons (ps_set (i := 1) sc_law.nd rfl (Or.inl rfl) (pe_f c__law_pen (hr.mono (by decide)) (pa_cons (pv 0) pa_nil)))
      (pss_cons (ps_for PassesOwn.never rfl (pi_range1 (by rfl) T.b_range (pa_cons pe_int pa_nil)) (pg_name (i := 2) sc_law.nd rfl (Or.inl rfl))
        (pss_one (ps_if (PW.pt (pw_or (pt_not (pt_val (pe_fnG c__law_right (hr.mono (by decide)) gd T.g__law_right FR.kp (pa_cons (pv 1) pa_nil)))) (pw_or1 (pt_not (pt_val (pe_fnG c__law_papers_right (hr.mono (by decide)) gd T.g__law_papers_right FP.kp (pa_cons (pv 1) pa_nil))))))) (pss_one (ps_ret pe_bl)) pss_nil)))
      (pss_cons (ps_set (i := 3) sc_law.nd rfl (Or.inr rfl) (pe_mk' c_Rule (hr.mono (by decide)) (pa_cons (pe_tup (pa_cons pe_int pa_nil)) (pa_cons (pe_tup pa_nil) (pa_cons (pe_tup (pa_cons pe_int pa_nil)) pa_nil)))))
      (pss_cons (ps_set (i := 4) sc_law.nd rfl (Or.inl rfl) (pe_fnS tb (hr.mono (by decide)) T.g_told_back FT.kp (pa_cons (pe_mk' c_Shape (hr.mono (by decide)) (pa_cons (pe_tup (pa_cons pe_int pa_nil)) (pa_cons pe_int (pa_cons pe_int pa_nil)))) (pa_cons (pe_lamF (T := lawT K) (nm := nmL) (c := ct1 K "law") (P := ct2 K "law") BL rfl (List.mem_cons_of_mem _ List.mem_cons_self) rfl (fun p hp ep => tab_two T p hp ep) (ndef_free (sc := defScope slaw) nd_odd) rfl) pa_nil))))
      (pss_one (ps_ret (pe_cmpR (op_eqB (rcB_own T.m_Found_eq (mtd_run (ok_Found_eq T))) (hr.mono (by decide))) (pv 4) (pe_mk' c_Found (hr.mono (by decide)) (pa_cons (pv 3) (pa_cons (pe_mkR c_Log (hr.mono (by decide)) (pa_cons (pe_tup (pa_cons pe_int (pa_cons pe_int (pa_cons pe_bl pa_nil)))) (pa_cons (pe_tup (pa_cons pe_int (pa_cons pe_int (pa_cons pe_bl pa_nil)))) pa_nil))) pa_nil))) (nomark _)))))))), ?_⟩
    have nlTab : ∀ {b : Addr} {us : List V}, TabX b ≠ .lst us := fun z => by
      unfold TabX at z
      cases z
    have ntx : ∀ {b : Addr} (ps : Array Value), TabX b ≠ .tbl ps := fun ps z => by
      unfold TabX at z
      cases z
    refine ⟨_, rfl, ?_⟩
    refine tN ?_
    show sp__law_pen K [.ref a] _ _ _
    refine ⟨a, ns, rfl, ha, fun H1 p s1 pen1 => ?_⟩
    have hX1 := s1 _ _ hX
    have hT1 := TabsN.ext hT s1
    refine ⟨2, rfl, by decide, by decide, for_range (lo := 0) (n := 2) (fun i σ H' => (∃ v2 : Option V, σ = [some (.ref a), some (.ref p), v2, none, none]) ∧ PenAt H' p (7 * i) ∧ H' (ct2 K "first_other") = some (TabX (ct2 K "first_other")) ∧ TabsN (lawT K) H') ⟨⟨none, rfl⟩, pen1, hX1, hT1⟩ ?_ ?_⟩
    · rintro i σ H' hi ⟨⟨v2, rfl⟩, pen, hX', hT'⟩
      obtain ⟨us, hp⟩ := pen_lst pen
      refine ⟨_, rfl, fun pins s' I => ⟨p, 7 * i, rfl, pen, by omega, hX', hT', fun H2 off2 pen2 tab2 => ⟨_, rfl, iteF ?_⟩⟩⟩
      obtain ⟨us2, hp2⟩ := pen_lst pen2
      have hX2 := off2 _ _ (ne_of hX' hp nlTab) ntx hX'
      refine ⟨_, rfl, fun pins2 s2 I2 => ⟨p, 7 * i + 5, rfl, pen2, by omega, fun H3 sq3 pen3 => ⟨_, rfl, iteF ?_⟩⟩⟩
      have e7 : 7 * i + 5 + 2 = 7 * (i + 1) := by omega
      rw [e7] at pen3
      exact ⟨⟨_, rfl⟩, pen3, sq3 _ _ (ne_of hX2 hp2 nlTab) hX2, TabsN.off hp2 sq3 tab2⟩
    · rintro σ H4 ⟨⟨v2, rfl⟩, pen4, hX4, hT4⟩
      obtain ⟨us4, hp4⟩ := pen_lst pen4
      have zl : ∀ k : Nat, k ≤ 100 → k ≤ sizeLine := fun k h => Nat.le_trans h (by rw [sizeLine_eq]; decide)
      have hxs : (([2] : List Int), 1, 1) ∈ shapesW := by decide
      have okM : ModOk [2] := shape_mod hxs
      -- the odd rule
      refine ⟨zl 1 (by decide), fun t1 h1 => ⟨zl 0 (by decide), fun t2 h2 => ⟨zl 1 (by decide), fun t3 h3 => fun x dx hx hd ne => ?_⟩⟩⟩
      have f1 : upd H4 t1 (.tup [.int 2]) t1 = some (.tup [.int 2]) := upd_same
      have f1 := (Same.put (o := .tup [.int 1]) h3) _ _ ((Same.put (o := .tup []) h2) _ _ f1)
      have f2 : upd (upd H4 t1 (.tup [.int 2])) t2 (.tup []) t2 = some (.tup []) := upd_same
      have f2 := (Same.put (o := .tup [.int 1]) h3) _ _ f2
      have f3 : upd (upd (upd H4 t1 (.tup [.int 2])) t2 (.tup [])) t3 (.tup [.int 1]) t3 = some (.tup [.int 1]) := upd_same
      have s5 : Same H4 (upd (upd (upd H4 t1 (.tup [.int 2])) t2 (.tup [])) t3 (.tup [.int 1])) := ((Same.put h1).put' h2).put' h3
      generalize upd (upd (upd H4 t1 (.tup [.int 2])) t2 (.tup [])) t3 (.tup [.int 1]) = H5 at *
      refine rule_made (K := K) (m := t1) (u := t2) (t := t3) (M := [2]) (U := []) (W := [1]) hx hd ne f1 okM (.inr f2) (.inr f3) (fun b h => nomatch h) (fun b h => by rw [List.mem_singleton.mp h]; decide) (by decide) (by decide) fun H6 s6 hR6 => ⟨rfl, ?_⟩
      have s46 := s5.trans s6
      obtain ⟨rh, erh⟩ : ∃ rh, rh = mkR [2] [] [1] := ⟨_, rfl⟩
      rw [← erh] at hR6
      -- the shape
      refine ⟨zl 1 (by decide), fun t4 h7 => fun y dy hy hdy ney => ?_⟩
      have s7 : Same H6 (upd H6 t4 (.tup [.int 2])) := Same.put h7
      have f7 : upd H6 t4 (.tup [.int 2]) t4 = some (.tup [.int 2]) := upd_same
      generalize upd H6 t4 (.tup [.int 2]) = H7 at *
      refine shape_made (K := K) (m := t4) (M := [2]) (a := 1) (t := 1) hy hdy ney f7 okM (by decide) (by decide) (by decide) fun H8 s8 hS8 => ⟨rfl, ?_⟩
      have s68 := s7.trans s8
      have s48 := s46.trans s68
      have hR8 := hR6.same s68
      have hX8 := s48 _ _ hX4
      have hp8 := s48 _ _ hp4
      refine ⟨TabsN.ext hT4 s48, fun f c' H9 ext9 tab9 hfN hf hc pins s' I => ?_⟩
      have hR9 := hR8.extN ext9
      have hS9 := hS8.extN ext9
      have hX9 := ext9 _ _ hX8 ntx
      have hp9 := ext9 _ _ hp8 (fun ps z => nomatch z)
      obtain ⟨rs, ers⟩ : ∃ rs, rs = rulesW [2] 1 1 := ⟨_, rfl⟩
      rw [← ers] at hS9
      have rlen : rs.length = 4 := by
        rw [ers]
        exact odd_len
      have rmem : rh ∈ rs := by
        rw [ers, erh]
        exact odd_in
      have rsm : ∀ r ∈ rs, ∀ r' ∈ rs, SmallP r r' := fun r h r' h' => by
        rw [ers] at h h'
        obtain ⟨P, hP, rfl⟩ := rules_of_shape hxs h
        obtain ⟨P', hP', rfl⟩ := rules_of_shape hxs h'
        exact small_of hxs (unlike_sub P hP) (unlike_sub P' hP')
      have ft : toldF (meets rh) rs.length rs [] = (rh, [(0, 2, false), (0, 1, false)]) := by
        rw [rlen, ers, erh]
        exact odd_told
      have ro : ROk rh := (rsm rh rmem rh rmem).oks
      have cps := Caps.made I.ok (ndef_free nd_odd) (ndef_fr nd_odd) (js := [3]) (by rfl)
      have cel := cells_of I cps
      have aj := odd_ok (f := f) (q := p) (ry := x) (rh := rh) I (odd_body (P := P) (w := w) (base := base) T _ _ f rfl rfl rfl) cel (fun z c e => cells_off I rfl rfl (fun _ => rfl) (cps.sub z c e)) hf hc ⟨_, hp9⟩ hR9 ro
      refine ⟨y, f, p, ⟨[2], 1, 1, rs⟩, _, meets rh, rfl, hS9, by show rs.length ≤ 1000; omega, rsm, ⟨_, rmem, fun _ _ => rfl⟩, aj.1, aj.2, hX9, fun H10 fo sq10 j10 hF10 => ?_⟩
      rw [show toldF (meets rh) (Sh.mk [2] 1 1 rs).rs.length (Sh.mk [2] 1 1 rs).rs [] = (rh, [(0, 2, false), (0, 1, false)]) from ft] at hF10
      have hR10 := j10.2.2.1
      have hX10 := sq10 _ _ (ne_of hX9 hp9 nlTab) hX9
      clear aj cel cps I
      -- the answer
      refine ⟨_, rfl, _, rfl, zl 3 (by decide), fun t5 h5 => ⟨zl 3 (by decide), fun t6 h6 => fun lx dlx hlx hdlx nel => ?_⟩⟩
      have e5 : upd H10 t5 (.tup [.int 0, .int 2, .bl false]) t5 = some (.tup [.int 0, .int 2, .bl false]) := upd_same
      have e5 := (Same.put (o := .tup [.int 0, .int 1, .bl false]) h6) _ _ e5
      have e6 : upd (upd H10 t5 (.tup [.int 0, .int 2, .bl false])) t6 (.tup [.int 0, .int 1, .bl false]) t6 = some (.tup [.int 0, .int 1, .bl false]) := upd_same
      have s11 : Same H10 (upd (upd H10 t5 (.tup [.int 0, .int 2, .bl false])) t6 (.tup [.int 0, .int 1, .bl false])) := (Same.put h5).put' h6
      generalize upd (upd H10 t5 (.tup [.int 0, .int 2, .bl false])) t6 (.tup [.int 0, .int 1, .bl false]) = H11 at *
      refine log_made (es := [(0, 2, false), (0, 1, false)]) hlx hdlx nel (by show 2 ≤ 100000; decide) (.cons ⟨t5, rfl, e5⟩ (.cons ⟨t6, rfl, e6⟩ .nil)) (fun e h => ?_) fun H12 s12 hL12 => ⟨rfl, ?_⟩
      · have : e = (0, 2, false) ∨ e = (0, 1, false) := by simpa using h
        rcases this with rfl | rfl
        · exact ⟨by decide, by decide⟩
        · exact ⟨by decide, by decide⟩
      · refine fun x2 dx2 hx2 hd2 ne2 => found_made hx2 hd2 ne2 fun H13 s13 hF13 => ⟨rfl, ?_⟩
        have t13 := s11.trans (s12.trans s13)
        refine ⟨true, found_same (hF10.same t13) ⟨dx2, x, lx, hF13, hR10.same t13, hL12.same s13⟩, fun H14 s14 => ?_⟩
        exact k H14 (s14 _ _ (t13 _ _ hX10))
end
end K70
-- K70Fin
/-! the end: the head's facts, the law's promise, the row -/
namespace K70
open L2 PySem PySem.Spec PyProof.Rows NdefX LamX
abbrev Lw : PySem.W.OpenLaw := PySem.Challenge.rw_lanebanks_k70_whole_rules_told_back_by_a
theorem mem_fo : (("first_other", Option.none) : He.Defn) ∈ tf := List.mem_cons_self
theorem mem_lr : (("_law_right", Option.none) : He.Defn) ∈ tf := List.mem_cons_of_mem _ List.mem_cons_self
theorem mem_lw : (("law", Option.none) : He.Defn) ∈ tf := List.mem_cons_of_mem _ (List.mem_cons_of_mem _ List.mem_cons_self)
theorem law_facts {w : World} {K : PySem.W.Frag} {h : Heap} {mg : Str → Option Value} {f : Addr} (X : K.In h) (G : h.Ns mainGlobals mg) (hf : mg ("law" : Str) = some (.ref f)) (c : He.SaysX fa fn [] tf exB w h K) : LawG Lw w K 18 63 mg f h := by
  have T : Tx K mg := Tx.of X G c.t.d c.more
  have ef : f = He.ga K "law" := by
    have e := hf.symm.trans T.g_law
    cases e
    rfl
  subst ef
  refine ⟨tf.map (He.cT K), ct2 K "first_other", sp_law K, fun p hpk => ?_, fun p hpk => ?_, fun p hpk => ?_, fun H a ns s₁ hl hH hS => ?_, fun base _ _ hB => ?_⟩
  · obtain ⟨q, hq, rfl⟩ := List.mem_map.mp hpk
    exact c.empty q hq
  · obtain ⟨q, hq, rfl⟩ := List.mem_map.mp hpk
    exact c.out q hq
  · obtain ⟨q, hq, rfl⟩ := List.mem_map.mp hpk
    exact PySem.W.codeHd_of_K X (c.hd q hq)
  · have h1 := hH _ (List.mem_map_of_mem mem_fo)
    have h2 := hH _ (List.mem_map_of_mem mem_lr)
    have h3 := hH _ (List.mem_map_of_mem mem_lw)
    have n2 : ct2 K "_law_right" ≠ ct2 K "first_other" := fun e => absurd e.symm (of_decide_eq_false T.x_tab_fr)
    have n3 : ct2 K "law" ≠ ct2 K "first_other" := fun e => absurd e.symm (of_decide_eq_false T.x_tab_fl)
    refine ⟨a, ns, rfl, hS, ?_, fun p hpk => ?_, fun H' z => ⟨rfl, fun _ _ _ => z⟩⟩
    · rw [h1]
      unfold tabO
      rw [if_pos rfl]
    · refine TabN.nil ?_
      rcases List.mem_cons.mp hpk with e | e
      · rw [e]
        refine h2.trans ?_
        unfold tabO
        rw [if_neg n2]
      · (rw [List.mem_singleton.mp e])
        refine h3.trans ?_
        unfold tabO
        rw [if_neg n3]
  · exact ok_law T (hB _ (List.mem_map_of_mem mem_fo)) (hB _ (List.mem_map_of_mem mem_lr)) (hB _ (List.mem_map_of_mem mem_lw))
end K70
open PyProof.Rows PySem PySem.W PySem.Calls
theorem PySem.Challenge.cw_lanebanks_k70_whole_rules_told_back_by_a_holds : PySem.Challenge.rw_lanebanks_k70_whole_rules_told_back_by_a.Holds := by
  w_on; o_law
  refine HandSHeadRun.head_any (r := K70.R) (q := view K70.R.prog [86]) (H := K70.hk) (ob := K70.ob) (M := 7000) (loose := K70.nms) (d := HandSHeadRun.topDef K70.R.prog 86) (kwd := []) K70.ob_eq
    (by kernel_rfl) (fun s => by kernel_rfl) K70.run (by kernel_rfl) (by kernel_rfl) (by kernel_rfl) (by rfl) (by first | assumption | decide +kernel) (by decide +kernel) ⟨rfl, rfl, rfl, rfl, rfl, by decide +kernel⟩ ?hw ?hc
  case hw => w_witness2
  case hc =>
    refine K70.walk_k70 (l := K70.Lw) (n := 63) (k := 18) rfl (by decide) (by kernel_rfl) ⟨rfl, by decide, by decide⟩ ?F
    intro w mg fak h Y G hmg0
    obtain ⟨K, KX, c⟩ := Y
    have hmg : mg ("law" : PySem.Str) = some (.ref fak) := by
      have e : (HandSHeadRun.topDef K70.R.prog 86).name = ("law" : PySem.Str) := by kernel_rfl
      rw [← e]
      exact hmg0
    exact ⟨K, KX, K70.law_facts KX G hmg c⟩
