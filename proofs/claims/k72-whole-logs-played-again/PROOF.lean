import PyProof.Rows.All
import Wide.All
import OpenK.AllK
import Wide.FinOn
import KE.KStateDown
import Lean
import HandS.ForMost
import HandS.ForExc
import HandS.More
import HandS.Defaults
import HandS.Star
import HandS.MethStar
import HandS.ClsMeth
import HandS.Property
import HandS.OwnEq
import HandS.IsInst
import HandS.FStr
import HandS.TryMany
import HandS.ExcInit
import HandS.ExcIs
import HandS.ExcField
import HandS.ExcSuper
import HandS.Evl
import HandS.Steps
import HandS.Wide
import HandS.WideBits
import HandS.Style
import HandS.Flow
import HandS.Codes
import HandS.Zip
import HandS.Rev
import HandS.TupAny
import HandS.TupLe
import HandS.TupMul
import HandS.Small
import HandS.Replace
import HandS.Conv
import HandS.NoneIn
import HandS.StrMore
import HandS.WrittenGet
import HandS.Walk
import HandS.Head0
import HandS.Head1
import HandS.Head2
import HandS.HeadEnd
import HandS.HeadHook1
import HandS.HeadHook2
import HandS.HeadHook3
import HandS.HeadNt
import KE.KExcSuper
import KE.GoesEnum
import KE.GoesEnumKw
import PyProof.RulesMatch
import PySem.Challenge.RW_wayround_k72_whole_logs_played_again
import HandS.ReplaceDef
import HandS.ReplaceLit
set_option Elab.async false
set_option linter.all false
set_option maxRecDepth 100000
set_option maxHeartbeats 0
namespace Wy
open PySem PySem.Spec PyProof.Rows L2
def top (i : Nat) : Stmt := PySem.Challenge.pw_wayround_k72_whole_logs_played_again.main.body.getD i (.Pass ⟨0, 0, 0, 0⟩)
/-- what a property's or a classmethod's record holds -/
abbrev s_InvalidSpan_init : Stmt := inClass (top 3) 0
def d_InvalidSpan_init : He5.DefA := ⟨fun K => He.ma K (He.ga K "InvalidSpan") "__init__", "__init__", "InvalidSpan.__init__", defArgs s_InvalidSpan_init, defBody s_InvalidSpan_init, defScope s_InvalidSpan_init, [], []⟩
abbrev s_InvalidWeb_init : Stmt := inClass (top 6) 0
def d_InvalidWeb_init : He5.DefA := ⟨fun K => He.ma K (He.ga K "InvalidWeb") "__init__", "__init__", "InvalidWeb.__init__", defArgs s_InvalidWeb_init, defBody s_InvalidWeb_init, defScope s_InvalidWeb_init, [], []⟩
abbrev s_Rejected_init : Stmt := inClass (top 11) 0
def d_Rejected_init : He5.DefA := ⟨fun K => He.ma K (He.ga K "Rejected") "__init__", "__init__", "Rejected.__init__", defArgs s_Rejected_init, defBody s_Rejected_init, defScope s_Rejected_init, [], []⟩
abbrev s_UnknownTie_init : Stmt := inClass (top 14) 0
def d_UnknownTie_init : He5.DefA := ⟨fun K => He.ma K (He.ga K "UnknownTie") "__init__", "__init__", "UnknownTie.__init__", defArgs s_UnknownTie_init, defBody s_UnknownTie_init, defScope s_UnknownTie_init, [], []⟩
abbrev s_is_whole : Stmt := top 33
def d_is_whole : He5.DefA := ⟨fun K => He.ga K "is_whole", "is_whole", "is_whole", defArgs s_is_whole, defBody s_is_whole, defScope s_is_whole, [], []⟩
abbrev s_is_name : Stmt := top 34
def d_is_name : He5.DefA := ⟨fun K => He.ga K "is_name", "is_name", "is_name", defArgs s_is_name, defBody s_is_name, defScope s_is_name, [], []⟩
abbrev s_number_of : Stmt := top 35
def d_number_of : He5.DefA := ⟨fun K => He.ga K "number_of", "number_of", "number_of", defArgs s_number_of, defBody s_number_of, defScope s_number_of, [], []⟩
abbrev s_Span_init : Stmt := inClass (top 47) 0
def d_Span_init : He5.DefA := ⟨fun K => He.ma K (He.ga K "Span") "__init__", "__init__", "Span.__init__", defArgs s_Span_init, defBody s_Span_init, defScope s_Span_init, [], []⟩
abbrev s_Span_read : Stmt := inClass (top 47) 3
def d_Span_read : He5.DefA := ⟨fun K => He5.wf K (He.ga K "Span") "classmethod" "read", "read", "Span.read", defArgs s_Span_read, defBody s_Span_read, defScope s_Span_read, [], []⟩
abbrev s_Span_least : Stmt := inClass (top 47) 4
def d_Span_least : He5.DefA := ⟨fun K => He5.wf K (He.ga K "Span") "property" "least", "least", "Span.least", defArgs s_Span_least, defBody s_Span_least, defScope s_Span_least, [], []⟩
abbrev s_Span_greatest : Stmt := inClass (top 47) 5
def d_Span_greatest : He5.DefA := ⟨fun K => He5.wf K (He.ga K "Span") "property" "greatest", "greatest", "Span.greatest", defArgs s_Span_greatest, defBody s_Span_greatest, defScope s_Span_greatest, [], []⟩
abbrev s_Span_str : Stmt := inClass (top 47) 15
def d_Span_str : He5.DefA := ⟨fun K => He.ma K (He.ga K "Span") "__str__", "__str__", "Span.__str__", defArgs s_Span_str, defBody s_Span_str, defScope s_Span_str, [], []⟩
abbrev s_is_tie : Stmt := top 56
def d_is_tie : He5.DefA := ⟨fun K => He.ga K "is_tie", "is_tie", "is_tie", defArgs s_is_tie, defBody s_is_tie, defScope s_is_tie, [], []⟩
abbrev s_has_form : Stmt := top 57
def d_has_form : He5.DefA := ⟨fun K => He.ga K "has_form", "has_form", "has_form", defArgs s_has_form, defBody s_has_form, defScope s_has_form, [], []⟩
abbrev s_check_names : Stmt := top 58
def d_check_names : He5.DefA := ⟨fun K => He.ga K "check_names", "check_names", "check_names", defArgs s_check_names, defBody s_check_names, defScope s_check_names, [], []⟩
abbrev s_check_tie : Stmt := top 59
def d_check_tie : He5.DefA := ⟨fun K => He.ga K "check_tie", "check_tie", "check_tie", defArgs s_check_tie, defBody s_check_tie, defScope s_check_tie, [], []⟩
abbrev s_check_web : Stmt := top 60
def d_check_web : He5.DefA := ⟨fun K => He.ga K "check_web", "check_web", "check_web", defArgs s_check_web, defBody s_check_web, defScope s_check_web, [], []⟩
abbrev s_span_of : Stmt := top 61
def d_span_of : He5.DefA := ⟨fun K => He.ga K "span_of", "span_of", "span_of", defArgs s_span_of, defBody s_span_of, defScope s_span_of, [], []⟩
abbrev s_read_tie : Stmt := top 62
def d_read_tie : He5.DefA := ⟨fun K => He.ga K "read_tie", "read_tie", "read_tie", defArgs s_read_tie, defBody s_read_tie, defScope s_read_tie, [], []⟩
abbrev s_Web_init : Stmt := inClass (top 63) 0
def d_Web_init : He5.DefA := ⟨fun K => He.ma K (He.ga K "Web") "__init__", "__init__", "Web.__init__", defArgs s_Web_init, defBody s_Web_init, defScope s_Web_init, [], []⟩
abbrev s_Web_read : Stmt := inClass (top 63) 1
def d_Web_read : He5.DefA := ⟨fun K => He5.wf K (He.ga K "Web") "classmethod" "read", "read", "Web.read", defArgs s_Web_read, defBody s_Web_read, defScope s_Web_read, [], []⟩
abbrev s_Web_posts : Stmt := inClass (top 63) 3
def d_Web_posts : He5.DefA := ⟨fun K => He5.wf K (He.ga K "Web") "property" "posts", "posts", "Web.posts", defArgs s_Web_posts, defBody s_Web_posts, defScope s_Web_posts, [], []⟩
abbrev s_Web_ties : Stmt := inClass (top 63) 4
def d_Web_ties : He5.DefA := ⟨fun K => He5.wf K (He.ga K "Web") "property" "ties", "ties", "Web.ties", defArgs s_Web_ties, defBody s_Web_ties, defScope s_Web_ties, [], []⟩
abbrev s_Web_len : Stmt := inClass (top 63) 5
def d_Web_len : He5.DefA := ⟨fun K => He.ma K (He.ga K "Web") "__len__", "__len__", "Web.__len__", defArgs s_Web_len, defBody s_Web_len, defScope s_Web_len, [], []⟩
abbrev s_Web_eq : Stmt := inClass (top 63) 6
def d_Web_eq : He5.DefA := ⟨fun K => He.ma K (He.ga K "Web") "__eq__", "__eq__", "Web.__eq__", defArgs s_Web_eq, defBody s_Web_eq, defScope s_Web_eq, [], []⟩
abbrev s_Web_str : Stmt := inClass (top 63) 7
def d_Web_str : He5.DefA := ⟨fun K => He.ma K (He.ga K "Web") "__str__", "__str__", "Web.__str__", defArgs s_Web_str, defBody s_Web_str, defScope s_Web_str, [], []⟩
abbrev s_Web_tie : Stmt := inClass (top 63) 11
def d_Web_tie : He5.DefA := ⟨fun K => He.ma K (He.ga K "Web") "tie", "tie", "Web.tie", defArgs s_Web_tie, defBody s_Web_tie, defScope s_Web_tie, [], []⟩
abbrev s_Web_tied : Stmt := inClass (top 63) 12
def d_Web_tied : He5.DefA := ⟨fun K => He.ma K (He.ga K "Web") "tied", "tied", "Web.tied", defArgs s_Web_tied, defBody s_Web_tied, defScope s_Web_tied, [], []⟩
abbrev s_Web_without : Stmt := inClass (top 63) 13
def d_Web_without : He5.DefA := ⟨fun K => He.ma K (He.ga K "Web") "without", "without", "Web.without", defArgs s_Web_without, defBody s_Web_without, defScope s_Web_without, [], []⟩
abbrev s_Web_changed : Stmt := inClass (top 63) 14
def d_Web_changed : He5.DefA := ⟨fun K => He.ma K (He.ga K "Web") "changed", "changed", "Web.changed", defArgs s_Web_changed, defBody s_Web_changed, defScope s_Web_changed, [], []⟩
abbrev s_Keeper_init : Stmt := inClass (top 66) 0
def d_Keeper_init : He5.DefA := ⟨fun K => He.ma K (He.ga K "Keeper") "__init__", "__init__", "Keeper.__init__", defArgs s_Keeper_init, defBody s_Keeper_init, defScope s_Keeper_init, [], []⟩
abbrev s_Keeper_len : Stmt := inClass (top 66) 1
def d_Keeper_len : He5.DefA := ⟨fun K => He.ma K (He.ga K "Keeper") "__len__", "__len__", "Keeper.__len__", defArgs s_Keeper_len, defBody s_Keeper_len, defScope s_Keeper_len, [], []⟩
abbrev s_Keeper_eq : Stmt := inClass (top 66) 2
def d_Keeper_eq : He5.DefA := ⟨fun K => He.ma K (He.ga K "Keeper") "__eq__", "__eq__", "Keeper.__eq__", defArgs s_Keeper_eq, defBody s_Keeper_eq, defScope s_Keeper_eq, [], []⟩
abbrev s_Keeper_repr : Stmt := inClass (top 66) 3
def d_Keeper_repr : He5.DefA := ⟨fun K => He.ma K (He.ga K "Keeper") "__repr__", "__repr__", "Keeper.__repr__", defArgs s_Keeper_repr, defBody s_Keeper_repr, defScope s_Keeper_repr, [], []⟩
abbrev s_Keeper_web : Stmt := inClass (top 66) 4
def d_Keeper_web : He5.DefA := ⟨fun K => He.ma K (He.ga K "Keeper") "web", "web", "Keeper.web", defArgs s_Keeper_web, defBody s_Keeper_web, defScope s_Keeper_web, [], []⟩
abbrev s_Keeper_log : Stmt := inClass (top 66) 6
def d_Keeper_log : He5.DefA := ⟨fun K => He.ma K (He.ga K "Keeper") "log", "log", "Keeper.log", defArgs s_Keeper_log, defBody s_Keeper_log, defScope s_Keeper_log, [], []⟩
abbrev s_Keeper_need_free : Stmt := inClass (top 66) 7
def d_Keeper_need_free : He5.DefA := ⟨fun K => He.ma K (He.ga K "Keeper") "need_free", "need_free", "Keeper.need_free", defArgs s_Keeper_need_free, defBody s_Keeper_need_free, defScope s_Keeper_need_free, [], []⟩
abbrev s_Keeper_move : Stmt := inClass (top 66) 8
def d_Keeper_move : He5.DefA := ⟨fun K => He.ma K (He.ga K "Keeper") "move", "move", "Keeper.move", defArgs s_Keeper_move, defBody s_Keeper_move, defScope s_Keeper_move, [], []⟩
abbrev s_Keeper_tie : Stmt := inClass (top 66) 9
def d_Keeper_tie : He5.DefA := ⟨fun K => He.ma K (He.ga K "Keeper") "tie", "tie", "Keeper.tie", defArgs s_Keeper_tie, defBody s_Keeper_tie, defScope s_Keeper_tie, [], []⟩
abbrev s_Keeper_cut : Stmt := inClass (top 66) 10
def d_Keeper_cut : He5.DefA := ⟨fun K => He.ma K (He.ga K "Keeper") "cut", "cut", "Keeper.cut", defArgs s_Keeper_cut, defBody s_Keeper_cut, defScope s_Keeper_cut, [], []⟩
abbrev s_Keeper_change : Stmt := inClass (top 66) 11
def d_Keeper_change : He5.DefA := ⟨fun K => He.ma K (He.ga K "Keeper") "change", "change", "Keeper.change", defArgs s_Keeper_change, defBody s_Keeper_change, defScope s_Keeper_change, [], []⟩
abbrev s_Keeper_post : Stmt := inClass (top 66) 12
def d_Keeper_post : He5.DefA := ⟨fun K => He.ma K (He.ga K "Keeper") "post", "post", "Keeper.post", defArgs s_Keeper_post, defBody s_Keeper_post, defScope s_Keeper_post, [], []⟩
abbrev s_Keeper_undo : Stmt := inClass (top 66) 13
def d_Keeper_undo : He5.DefA := ⟨fun K => He.ma K (He.ga K "Keeper") "undo", "undo", "Keeper.undo", defArgs s_Keeper_undo, defBody s_Keeper_undo, defScope s_Keeper_undo, [], []⟩
abbrev s_Keeper_make : Stmt := inClass (top 66) 14
def d_Keeper_make : He5.DefA := ⟨fun K => He.ma K (He.ga K "Keeper") "make", "make", "Keeper.make", defArgs s_Keeper_make, defBody s_Keeper_make, defScope s_Keeper_make, [], []⟩
abbrev s_Keeper_make_word : Stmt := inClass (top 66) 15
def d_Keeper_make_word : He5.DefA := ⟨fun K => He.ma K (He.ga K "Keeper") "make_word", "make_word", "Keeper.make_word", defArgs s_Keeper_make_word, defBody s_Keeper_make_word, defScope s_Keeper_make_word, [], []⟩
abbrev s_Keeper_several : Stmt := inClass (top 66) 16
def d_Keeper_several : He5.DefA := ⟨fun K => He.ma K (He.ga K "Keeper") "several", "several", "Keeper.several", defArgs s_Keeper_several, defBody s_Keeper_several, defScope s_Keeper_several, [], [("whole", .bl true)]⟩
abbrev s_bounds_of : Stmt := top 80
def d_bounds_of : He5.DefA := ⟨fun K => He.ga K "bounds_of", "bounds_of", "bounds_of", defArgs s_bounds_of, defBody s_bounds_of, defScope s_bounds_of, [], []⟩
abbrev s_parts_of : Stmt := top 81
def d_parts_of : He5.DefA := ⟨fun K => He.ga K "parts_of", "parts_of", "parts_of", defArgs s_parts_of, defBody s_parts_of, defScope s_parts_of, [], []⟩
abbrev s_names_of : Stmt := top 82
def d_names_of : He5.DefA := ⟨fun K => He.ga K "names_of", "names_of", "names_of", defArgs s_names_of, defBody s_names_of, defScope s_names_of, [], []⟩
abbrev s_joined : Stmt := top 84
def d_joined : He5.DefA := ⟨fun K => He.ga K "joined", "joined", "joined", defArgs s_joined, defBody s_joined, defScope s_joined, [], []⟩
abbrev s_Desk_init : Stmt := inClass (top 86) 0
def d_Desk_init : He5.DefA := ⟨fun K => He.ma K (He.ga K "Desk") "__init__", "__init__", "Desk.__init__", defArgs s_Desk_init, defBody s_Desk_init, defScope s_Desk_init, [], []⟩
abbrev s_Desk_len : Stmt := inClass (top 86) 1
def d_Desk_len : He5.DefA := ⟨fun K => He.ma K (He.ga K "Desk") "__len__", "__len__", "Desk.__len__", defArgs s_Desk_len, defBody s_Desk_len, defScope s_Desk_len, [], []⟩
abbrev s_Desk_say : Stmt := inClass (top 86) 2
def d_Desk_say : He5.DefA := ⟨fun K => He.ma K (He.ga K "Desk") "say", "say", "Desk.say", defArgs s_Desk_say, defBody s_Desk_say, defScope s_Desk_say, [], []⟩
abbrev s_Desk_answer : Stmt := inClass (top 86) 3
def d_Desk_answer : He5.DefA := ⟨fun K => He.ma K (He.ga K "Desk") "answer", "answer", "Desk.answer", defArgs s_Desk_answer, defBody s_Desk_answer, defScope s_Desk_answer, [], []⟩
abbrev s_Desk_reply : Stmt := inClass (top 86) 4
def d_Desk_reply : He5.DefA := ⟨fun K => He.ma K (He.ga K "Desk") "reply", "reply", "Desk.reply", defArgs s_Desk_reply, defBody s_Desk_reply, defScope s_Desk_reply, [], []⟩
abbrev s_L_mixed : Stmt := top 88
def d_L_mixed : He5.DefA := ⟨fun K => He.ga K "_law_mixed", "_law_mixed", "_law_mixed", defArgs s_L_mixed, defBody s_L_mixed, defScope s_L_mixed, [], []⟩
abbrev s_L_bounds : Stmt := top 89
def d_L_bounds : He5.DefA := ⟨fun K => He.ga K "_law_bounds", "_law_bounds", "_law_bounds", defArgs s_L_bounds, defBody s_L_bounds, defScope s_L_bounds, [], []⟩
abbrev s_L_joints : Stmt := top 90
def d_L_joints : He5.DefA := ⟨fun K => He.ga K "_law_joints", "_law_joints", "_law_joints", defArgs s_L_joints, defBody s_L_joints, defScope s_L_joints, [], []⟩
abbrev s_L_changed_by : Stmt := top 91
def d_L_changed_by : He5.DefA := ⟨fun K => He.ga K "_law_changed_by", "_law_changed_by", "_law_changed_by", defArgs s_L_changed_by, defBody s_L_changed_by, defScope s_L_changed_by, [], []⟩
abbrev s_L_feed : Stmt := top 92
def d_L_feed : He5.DefA := ⟨fun K => He.ga K "_law_feed", "_law_feed", "_law_feed", defArgs s_L_feed, defBody s_L_feed, defScope s_L_feed, [], []⟩
abbrev s_L_take : Stmt := top 93
def d_L_take : He5.DefA := ⟨fun K => He.ga K "_law_take", "_law_take", "_law_take", defArgs s_L_take, defBody s_L_take, defScope s_L_take, [], []⟩
abbrev s_L_words : Stmt := top 94
def d_L_words : He5.DefA := ⟨fun K => He.ga K "_law_words", "_law_words", "_law_words", defArgs s_L_words, defBody s_L_words, defScope s_L_words, [], []⟩
abbrev s_L_web : Stmt := top 95
def d_L_web : He5.DefA := ⟨fun K => He.ga K "_law_web", "_law_web", "_law_web", defArgs s_L_web, defBody s_L_web, defScope s_L_web, [], []⟩
abbrev s_L_change : Stmt := top 96
def d_L_change : He5.DefA := ⟨fun K => He.ga K "_law_change", "_law_change", "_law_change", defArgs s_L_change, defBody s_L_change, defScope s_L_change, [], []⟩
abbrev s_L_done : Stmt := top 97
def d_L_done : He5.DefA := ⟨fun K => He.ga K "_law_done", "_law_done", "_law_done", defArgs s_L_done, defBody s_L_done, defScope s_L_done, [], []⟩
abbrev s_L_at_once : Stmt := top 98
def d_L_at_once : He5.DefA := ⟨fun K => He.ga K "_law_at_once", "_law_at_once", "_law_at_once", defArgs s_L_at_once, defBody s_L_at_once, defScope s_L_at_once, [], []⟩
abbrev s_L_webs_of : Stmt := top 99
def d_L_webs_of : He5.DefA := ⟨fun K => He.ga K "_law_webs_of", "_law_webs_of", "_law_webs_of", defArgs s_L_webs_of, defBody s_L_webs_of, defScope s_L_webs_of, [], []⟩
abbrev s_L_by_log : Stmt := top 100
def d_L_by_log : He5.DefA := ⟨fun K => He.ga K "_law_by_log", "_law_by_log", "_law_by_log", defArgs s_L_by_log, defBody s_L_by_log, defScope s_L_by_log, [], []⟩
abbrev s_L_stands_right : Stmt := top 101
def d_L_stands_right : He5.DefA := ⟨fun K => He.ga K "_law_stands_right", "_law_stands_right", "_law_stands_right", defArgs s_L_stands_right, defBody s_L_stands_right, defScope s_L_stands_right, [], []⟩
abbrev s_L_some : Stmt := top 102
def d_L_some : He5.DefA := ⟨fun K => He.ga K "_law_some", "_law_some", "_law_some", defArgs s_L_some, defBody s_L_some, defScope s_L_some, [], []⟩
abbrev s_law : Stmt := top 103
def d_law : He5.DefA := ⟨fun K => He.ga K "law", "law", "law", defArgs s_law, defBody s_law, defScope s_law, [], []⟩
def fn : List He5.DefA := [d_is_whole, d_is_name, d_number_of, d_Span_init, d_Span_read, d_Span_least, d_Span_greatest, d_Span_str, d_is_tie, d_has_form, d_check_names, d_check_tie, d_check_web, d_span_of, d_read_tie, d_Web_init, d_Web_read, d_Web_posts, d_Web_ties, d_Web_len, d_Web_eq, d_Web_str, d_Web_tie, d_Web_tied, d_Web_without, d_Web_changed, d_Keeper_init, d_Keeper_len, d_Keeper_eq, d_Keeper_repr, d_Keeper_web, d_Keeper_log, d_Keeper_need_free, d_Keeper_move, d_Keeper_tie, d_Keeper_cut, d_Keeper_change, d_Keeper_post, d_Keeper_undo, d_Keeper_make, d_Keeper_make_word, d_Keeper_several, d_bounds_of, d_parts_of, d_names_of, d_joined, d_Desk_init, d_Desk_len, d_Desk_say, d_Desk_answer, d_Desk_reply, d_L_mixed, d_L_bounds, d_L_joints, d_L_changed_by, d_L_feed, d_L_take, d_L_words, d_L_web, d_L_change, d_L_done, d_L_at_once, d_L_webs_of, d_L_by_log, d_L_stands_right, d_L_some, d_law]
def fa : List He.Fa := [.glo "is_whole", .glo "is_name", .glo "number_of", .glo "is_tie", .glo "has_form", .glo "check_names", .glo "check_tie", .glo "check_web", .glo "span_of", .glo "read_tie", .glo "bounds_of", .glo "parts_of", .glo "names_of", .glo "joined", .glo "_law_mixed", .glo "_law_bounds", .glo "_law_joints", .glo "_law_changed_by", .glo "_law_feed", .glo "_law_take", .glo "_law_words", .glo "_law_web", .glo "_law_change", .glo "_law_done", .glo "_law_at_once", .glo "_law_webs_of", .glo "_law_by_log", .glo "_law_stands_right", .glo "_law_some", .glo "law", .glo "WayroundError", .glo "InvalidSpan", .glo "InvalidText", .glo "InvalidWeb", .glo "Rejected", .glo "InvalidCommand", .glo "UnknownPost", .glo "UnknownTie", .glo "Span", .glo "Web", .glo "Keeper", .glo "Desk", .glo "SIZES", .glo "FORMS", .free "len", .free "isinstance", .free "all", .free "enumerate", .free "range", .free "tuple", .free "list", .free "str", .free "int", .free "bool", .free "max", .free "min", .free "abs", .free "zip", .free "repr", .free "super", .int "LONGEST" 6, .int "MOST_DIGITS_names" 9, .str "LETTERS" "abcdefghijklmnopqrstuvwxyz", .str "DIGITS" "0123456789", .str "DOTS" "..", .str "POSTS" "posts", .str "TIE" "tie", .cls "Span", .mkr "Span", .cls "Web", .mkr "Web", .cls "Keeper", .mkr "Keeper", .cls "Desk", .mkr "Desk", .noat "Span" "low", .noat "Span" "high", .noat "Web" "places", .noat "Web" "bonds", .noat "Keeper" "kept", .noat "Keeper" "rods", .noat "Keeper" "past", .noat "Desk" "keeper", .meth "Span" "__str__", .meth "Web" "__len__", .meth "Web" "__eq__", .meth "Web" "__str__", .meth "Web" "tie", .meth "Web" "tied", .meth "Web" "without", .meth "Web" "changed", .meth "Keeper" "__len__", .meth "Keeper" "__eq__", .meth "Keeper" "__repr__", .meth "Keeper" "web", .meth "Keeper" "log", .meth "Keeper" "need_free", .meth "Keeper" "move", .meth "Keeper" "tie", .meth "Keeper" "cut", .meth "Keeper" "change", .meth "Keeper" "post", .meth "Keeper" "undo", .meth "Keeper" "make", .meth "Keeper" "make_word", .meth "Keeper" "several", .meth "Desk" "__len__", .meth "Desk" "say", .meth "Desk" "answer", .meth "Desk" "reply"]
def loose0 : List Str := ["_wall", "WayroundError", "InvalidSpan", "Snapped", "InvalidText", "InvalidWeb", "SamePost", "Unclosed", "Apart", "Outside", "Rejected", "InvalidCommand", "UnknownPost", "UnknownTie", "need_posts", "need_pair", "pairs_of", "steps_of", "tree_from", "lengths_from", "all_lengths", "way_between", "obstacle_of", "need_closed", "least_between", "bounds_between", "LETTERS", "DIGITS", "LONGEST", "MOST_DIGITS_names"]
def loose1 : List Str := ["is_whole", "is_name", "number_of", "Way", "way_of", "Obstacle", "ordered", "Table", "obstacle", "greatest_table", "DOTS", "Span", "span_between", "need_parts", "held_ties", "span_with", "POSTS", "TIE", "is_tie", "has_form", "check_names", "check_tie", "check_web", "span_of", "read_tie", "Web", "SIZES", "Keeper", "check_posts", "core_of"]
def loose2 : List Str := ["core", "near_pairs", "near_posts", "take_away", "order_of", "is_flat", "FORMS", "MOST_DIGITS_desk", "bounds_of", "parts_of", "names_of", "asked_pairs", "joined", "told_closing", "Desk", "_law_mixed", "_law_bounds", "_law_joints", "_law_changed_by", "_law_feed", "_law_take", "_law_words", "_law_web", "_law_change", "_law_done", "_law_at_once", "_law_webs_of", "_law_by_log", "_law_stands_right", "_law_some"]
def clsNames : List Str := ["WayroundError", "InvalidSpan", "InvalidText", "InvalidWeb", "Rejected", "InvalidCommand", "UnknownPost", "UnknownTie", "Span", "Web", "Keeper", "Desk"]
def recNames : List (Str × Str) := [("Span", "read"), ("Span", "least"), ("Span", "greatest"), ("Web", "read"), ("Web", "posts"), ("Web", "ties")]
def loose : List Str := loose0 ++ loose1 ++ loose2
end Wy
set_option Elab.async false
set_option linter.all false
set_option maxRecDepth 100000
set_option maxHeartbeats 0
namespace Wy
open PySem PySem.Spec PyProof.Rows L2 StX

/-- all that is tracked outside S stands -/
def Bt (S : Addr → Prop) (H H' : Hp) : Prop := ∀ b o, H b = some o → ¬ S b → H' b = some o
theorem Same.bt {H H' : Hp} {S : Addr → Prop} (h : Same H H') : Bt S H H' := fun b o e _ => h b o e
theorem Bt.refl (S : Addr → Prop) (H : Hp) : Bt S H H := fun _ _ e _ => e
theorem Bt.trans {S : Addr → Prop} {H H1 H2 : Hp} (a : Bt S H H1) (b : Bt S H1 H2) : Bt S H H2 := fun c o e n => b c o (a c o e n) n
theorem Bt.mono {S T : Addr → Prop} {H H1 : Hp} (a : Bt S H H1) (h : ∀ b, S b → T b) : Bt T H H1 := fun c o e n => a c o e fun z => n (h c z)
/-- what was not tracked ahead may be changed -/
theorem Bt.fresh {S T : Addr → Prop} {H H1 : Hp} (a : Bt T H H1) (h : ∀ b, T b → S b ∨ H b = none) : Bt S H H1 := fun c o e n => a c o e fun z => by
  rcases h c z with h | h
  · exact n h
  · rw [h] at e; cases e
theorem Bt.same {H H' : Hp} (h : Bt (fun _ => False) H H') : Same H H' := fun b o e => h b o e fun z => z
theorem Bt.at {S : Addr → Prop} {H H1 : Hp} (a : Bt S H H1) {b : Addr} {o : HO} (e : H b = some o) (n : ¬ S b) : H1 b = some o := a b o e n
theorem same_upd {H : Hp} {p : Addr} {o : HO} (h : H p = none) : Same H (upd H p o) := fun a u e => by
  rw [upd_ne (ne_of_none e h)]
  exact e
theorem bt_upd {H : Hp} {p : Addr} {o : HO} : Bt (fun b => b = p) H (upd H p o) := fun a u e n => by
  rw [upd_ne n]
  exact e
theorem Same.none {H H' : Hp} (e : Same H H') {l : Addr} (h : H' l = none) : H l = none := Same.free e h
theorem Bt.none {S : Addr → Prop} {H H' : Hp} (e : Bt S H H') {l : Addr} (h : H' l = none) (n : ¬ S l) : H l = none := by
  cases q : H l with
  | none => rfl
  | some o => rw [e l o q n] at h; cases h

section
variable (P : Program) (w : World) (K : PySem.W.Frag) (mg : Str → Option Value) (base : Heap)
abbrev FR (k : Nat) (f : Addr) (sp : Sp) : Prop := FnR P w K mg base (L2.CX P w) k f sp
structure GFn (k : Nat) (x : Str) (sp : Sp) : Prop where
  mgx : mg x = some (.ref (He.ga K x))
  kp : PySem.W.keepIn K (.ref (He.ga K x)) = true
  run : FR P w K mg base k (He.ga K x) sp
structure MFn (k : Nat) (C m : Str) (sp : Sp) : Prop where
  me : Meth K (He.ga K C) m (He.ma K (He.ga K C) m)
  run : FR P w K mg base k (He.ma K (He.ga K C) m) sp
/-- making an instance: its __init__ keeps sp -/
structure IFn (k : Nat) (C : Str) (sp : Sp) : Prop where
  mgx : mg C = some (.ref (He.ga K C))
  mkr : Mk K (He.ga K C) (He.ma K (He.ga K C) "__init__")
  run : FR P w K mg base k (He.ma K (He.ga K C) "__init__") sp
end
section
variable {P : Program} {w : World} {K : PySem.W.Frag} {mg : Str → Option Value} {base : Heap}
theorem GFn.imp {k : Nat} {x : Str} {sp sp' : Sp} (G : GFn P w K mg base k x sp) (h : ∀ vs H Q E, sp' vs H Q E → sp vs H Q E) : GFn P w K mg base k x sp' := ⟨G.mgx, G.kp, G.run.imp h⟩
theorem MFn.imp {k : Nat} {x m : Str} {sp sp' : Sp} (G : MFn P w K mg base k x m sp) (h : ∀ vs H Q E, sp' vs H Q E → sp vs H Q E) : MFn P w K mg base k x m sp' := ⟨G.me, G.run.imp h⟩
end

section
variable {X : Cx} {k : Nat} {sp : Sp} {E : XK} {x C m : Str} {e o : Expr} {es : List Expr} {t : TA} {ta te : TE} {p pos apos : Pos}
def tG (sp : Sp) (E : XK) (t : TA) : TE := fun σ H Q => t σ H fun vs H1 => sp vs H1 Q E
theorem eCall (G : GFn X.prog X.w X.K X.mg X.base k x sp) (hr : Room k X.A) (hx : Passes (L2.CX X.prog X.w) X E) (hg : Gl X x) (ha : PA X (e :: es) t) (hd : (x == ("__debug__" : Str)) = false := by decide)
    (he : starEach (e :: es) X.env = (false, eval e X.env) :: starEach es X.env := by rfl) (hpl : (backTo pos (starEach es X.env)).any (·.1) = false := by rfl) :
    PE X (.Call (.Name x p) (e :: es) [] pos) (tG sp E t) := by
  refine ⟨fun pins s σ H Q I h => ?_⟩
  refine wpAny_Call_Name_kw (ld_glob I hg G.mgx ?_ hd)
  refine PySem.W.callWith_K (h₀ := X.base) I.ok.mod.kin G.kp (thn (ha.run pos pins s σ H _ I h) fun us s1 ⟨vs, H1, I1, r, q⟩ => ⟨I1.kIn, ?_⟩) he hpl
  exact wpAny_call (run_fnR G.run hr hx I1 r q)
/-- o.m(e, ..): the attribute is no own one of the object -/
def tM (C : Addr) (m : Str) (sp : Sp) (E : XK) (ta : TE) (t : TA) : TE := fun σ H Q => ta σ H fun x H1 => ∃ a dx fs, x = .ref a ∧ H1 a = some (.ins C dx fs) ∧ fs.lookup m = none ∧ t σ H1 fun vs H2 => sp (x :: vs) H2 Q E
theorem eMeth {pl : Sem Bool} (G : MFn X.prog X.w X.K X.mg X.base k C m sp) (c : Cls X.K (He.ga X.K C)) (hr : Room k X.A) (hx : Passes (L2.CX X.prog X.w) X E) (he : PE X o ta) (ha : PA X (e :: es) t)
    (hst : starEach (e :: es) X.env = (false, eval e X.env) :: starEach es X.env := by rfl) (hpl : (backTo pos (starEach es X.env)).any (·.1) = false := by rfl)
    (ht : eval (.Call (.Attribute o m apos) (e :: es) [] pos) X.env = (do
      let ov ← eval o X.env; standAt apos.atName; let (f, first) ← holding [ov] (getMethod ov m pl)
      callWith pos f first (backTo pos (starEach (e :: es) X.env)) (backToKw pos (keywordEach [] X.env))) := by rfl) :
    PE X (.Call (.Attribute o m apos) (e :: es) [] pos) (tM (He.ga X.K C) m sp E ta t) := pe_methR he c G.me G.run hr hx ha hst hpl ht
theorem eMeth0 {pl : Sem Bool} (G : MFn X.prog X.w X.K X.mg X.base k C m sp) (c : Cls X.K (He.ga X.K C)) (hr : Room k X.A) (hx : Passes (L2.CX X.prog X.w) X E) (he : PE X o ta)
    (ht : eval (.Call (.Attribute o m apos) [] [] pos) X.env = (do
      let ov ← eval o X.env; standAt apos.atName; let (f, first) ← holding [ov] (getMethod ov m pl)
      callWith pos f first (backTo pos (starEach [] X.env)) (backToKw pos (keywordEach [] X.env))) := by rfl) :
    PE X (.Call (.Attribute o m apos) [] [] pos) (tM (He.ga X.K C) m sp E ta tNil) := by
  refine ⟨fun pins s σ H Q I h => ?_⟩
  refine PySem.W.methodCall_KW (pl := pl) (thn (he.run pins s σ H _ I h) fun u s1 ⟨x, H1, I1, rx, a, dx, fs, ex, ea, l, q⟩ => ?_) ht
  subst ex
  obtain rfl : u = Value.ref a := rx
  refine getmeth_ok I1 ea c G.me l ?_
  exact PySem.W.callWith_K0 (first := [.ref a]) I1.kIn G.me.kp (wpAny_call (run_fnR (us := [.ref a]) (vs := [.ref a]) G.run hr hx I1 (.cons rfl .nil) q))
/-- C(e, ..) -/
theorem eMake (G : IFn X.prog X.w X.K X.mg X.base k C sp) (hr : Room (k + 1) X.A) (hx : Passes (L2.CX X.prog X.w) X E) (hg : Gl X C) (ha : PA X (e :: es) t) (hd : (C == ("__debug__" : Str)) = false := by decide)
    (he : starEach (e :: es) X.env = (false, eval e X.env) :: starEach es X.env := by rfl) (hpl : (backTo pos (starEach es X.env)).any (·.1) = false := by rfl) :
    PE X (.Call (.Name C p) (e :: es) [] pos) (tMakeR (He.ga X.K C) sp E t) := pe_makeR G.mkr G.run hr hg G.mgx hx ha hd he hpl
theorem eMake0 (G : IFn X.prog X.w X.K X.mg X.base k C sp) (hr : Room (k + 1) X.A) (hx : Passes (L2.CX X.prog X.w) X E) (hg : Gl X C) (hd : (C == ("__debug__" : Str)) = false := by decide) :
    PE X (.Call (.Name C p) [] [] pos) (tMakeR (He.ga X.K C) sp E tNil) := by
  refine ⟨fun pins s σ H Q I h => ?_⟩
  refine wpAny_Call_Name_kw (ld_glob I hg G.mgx ?_ hd)
  exact PySem.W.callWith_K0 I.kIn G.mkr.kp (run_makeR (us := []) G.mkr G.run hr hx I .nil h)
/-- o.f, a field: the class's facts are given at the rule -/
def tF (C : Addr) (f : Str) (ta : TE) : TE := fun σ H Q => ta σ H fun x H1 => ∃ a dx fs v, x = .ref a ∧ H1 a = some (.ins C dx fs) ∧ fs.lookup f = some v ∧ Q v H1
theorem eFld {C : Addr} {f : Str} (c : Cls X.K C) (n : NoAttr X.K C f) (he : PE X e ta) (hb : attributeBase e f X.env (eval e X.env) = eval e X.env := by rfl) : PE X (.Attribute e f pos) (tF C f ta) := by
  refine ⟨fun pins s σ H Q I h => ?_⟩
  refine attr_of hb (thn (he.run pins s σ H _ I h) fun u s1 ⟨x, H1, I1, rx, a, dx, fs, v, ex, ea, l, q⟩ => ?_)
  subst ex
  obtain rfl : u = Value.ref a := rx
  exact getattr_ok I1 ea c n l fun u' s2 I2 ru => ⟨v, H1, I2, ru, q⟩
/-- o.f = e -/
def sF (C : Addr) (f : Str) (ta tv : TE) : TS := fun D σ H => tv σ H fun y H1 => ta σ H1 fun x H2 => ∃ a dx fs, x = .ref a ∧ H2 a = some (.ins C dx fs) ∧ fs.length < 1000 ∧ D.nx σ (upd H2 a (.ins C dx (putF f y fs)))
theorem eSet {C : Addr} {f : Str} {tpos : Pos} (c : Cls X.K C) (n : NoAttr X.K C f) (ho : PE X o ta) (he : PE X e te) (hs : swapsWith e (some (.Attribute o f tpos)) pos.line X.env = pure false := by rfl) :
    PS X (.Assign [.Attribute o f tpos] e pos) (sF C f ta te) := by
  refine ⟨fun pins s σ H D I h => ?_⟩
  refine plainObj_wpAny_Assign_Attribute (thn (he.run pins s σ H _ I h) fun u s1 ⟨y, H1, I1, ry, q⟩ => thn (ho.run pins s1 σ H1 _ I1 q) fun ov s2 ⟨x, H2, I2, rx, a, dx, fs, ex, ea, l, q2⟩ => ?_) hs
  subst ex
  obtain rfl : ov = Value.ref a := rx
  exact setattr_ok I2 ea c n l ry fun s3 I3 => ⟨σ, _, I3, q2⟩
/-- o.f, a property whose getter hands back the field g of o -/
def tP (C : Addr) (g : Str) (ta : TE) : TE := fun σ H Q => ta σ H fun x H1 => ∃ a dx fs v, x = .ref a ∧ H1 a = some (.ins C dx fs) ∧ fs.lookup g = some v ∧ Q v H1
structure PFn (P : Program) (w : World) (K : PySem.W.Frag) (mg : Str → Option Value) (base : Heap) (k : Nat) (C : Addr) (f g : Str) : Prop where
  at_ : ∃ p a, PropOf K C f p a ∧ FR P w K mg base k a (getSp C g)
theorem eProp {C : Addr} {f g : Str} (c : Cls X.K C) (G : PFn X.prog X.w X.K X.mg X.base k C f g) (hr : Room (k + 1) X.A) (he : PE X e ta) (hb : attributeBase e f X.env (eval e X.env) = eval e X.env := by rfl) : PE X (.Attribute e f pos) (tP C g ta) := by
  obtain ⟨p, ga, hp, F⟩ := G.at_
  refine ⟨fun pins s σ H Q I h => ?_⟩
  refine attr_of hb (thn (he.run pins s σ H _ I h) fun u s1 ⟨x, H1, I1, rx, a, dx, fs, v, ex, ea, l, q⟩ => ?_)
  subst ex
  obtain rfl : u = Value.ref a := rx
  obtain ⟨mA, O, _, _, _, _⟩ := ins_get I1.hok ea
  obtain ⟨od, J, _⟩ := O.look
  obtain ⟨rest, hrec⟩ := hp.rec_
  have I2 := I1.tok (s1.toks + 1)
  have hc : (PySem.W.clsIn X.K C).isSome = true := by
    obtain ⟨cd, hc, _⟩ := PySem.W.any_some c.hd
    rw [hc]
    rfl
  refine PySem.W.get_bind I1.kIn J (PySem.W.plainGet_of (c.get f)).1 (PySem.W.findObj_data hc hp.at_ hp.get hp.tak) (PySem.W.plainGet_of (c.get f)).2 (wpAny_call (PySem.W.prop_get (s := { s1 with toks := s1.toks + 1 }) I1.kIn hrec ?_))
  refine codeAny_mono (F X.A.in1 X.stack { s1 with toks := s1.toks + 1 } H1 [.ref a] [.ref a] Q (fun _ _ _ => False) hr.in1 I2.env0.in1 (.cons rfl .nil) ⟨a, dx, fs, v, rfl, ea, l, q⟩) fun r s' hq => ?_
  cases r with
  | error er =>
    obtain ⟨_, _, _, _, _, _, _, _, _, _, _, _, z⟩ := (show L2.CX X.prog X.w X.stack H1 _ _ er s' from hq)
    exact z.elim
  | ok fl =>
    cases fl with
    | ret u =>
      obtain ⟨v', H', I3, rv, q3⟩ := I2.after hq
      show wpAny _ _ (handedOut u) _ _ _
      rw [PySem.W.handedOut_of (handed_of rv)]
      exact wpAny_pure ⟨v', H', I3, rv, q3⟩
    | next => exact False.elim hq
    | brk => exact False.elim hq
    | cont => exact False.elim hq
end

section
variable {X : Cx} {k : Nat} {sp : Sp} {E : XK} {C m : Str}
theorem Meth.sub {K : PySem.W.Frag} {C f : Addr} {m : Str} (h : Meth K C m f) : PySem.W.findIn K (.ref C) m = some (some (.ref f)) ∧ PySem.W.isFn K (.ref f) = true := by
  obtain ⟨a, b, c⟩ := h
  exact ⟨a, b⟩
/-- the callee below the running body -/
theorem runAt {pins : List (Addr × Obj)} {σ : L2.St} {H : Hp} {s : Shared} {g : Addr} {A : Around} {Q : VK} {us : List Value} {ws : List V} (F : FR X.prog X.w X.K X.mg X.base k g sp) (hr : Room k A) (e0 : Env0 X.prog X.w X.K X.mg X.base A X.stack s H)
    (hx : Passes (L2.CX X.prog X.w) X E) (I : Inv X pins σ H s) (r : Vals ws us) (h : sp ws H Q E) : wpAny (model X.prog X.w) A (call (.ref g) us) (EP X pins σ Q) X.xe s := by
  refine wpAny_call (codeAny_mono (F A X.stack s H us ws Q E hr e0 r h) fun r s' hq => ?_)
  cases r with
  | error e => exact hx pins σ H s e s' I hq
  | ok fl =>
    cases fl with
    | ret u => exact I.after hq
    | next => exact False.elim hq
    | brk => exact False.elim hq
    | cont => exact False.elim hq
/-- len(o) -/
def rLenO (C : Addr) (sp : Sp) (E : XK) : List V → Hp → VK → Prop := fun xs H Q => ∃ a dx fs, xs = [V.ref a] ∧ H a = some (.ins C dx fs) ∧ sp [.ref a] H (fun z H' => ∃ n : Nat, z = .int n ∧ n < 2 ^ 62 ∧ Q z H') E
theorem cLenO (G : MFn X.prog X.w X.K X.mg X.base k C "__len__" sp) (hr : Room (k + 1) X.A) (hx : Passes (L2.CX X.prog X.w) X E) : CallR X (.builtin "len") (rLenO (He.ga X.K C) sp E) := by
  intro pins s σ H xs us Q I r h
  obtain ⟨a, dx, fs, rfl, ea, q⟩ := h
  obtain ⟨u, rfl, ru⟩ := r.one
  cases (show u = Value.ref a from ru)
  obtain ⟨mA, O, _⟩ := ins_get I.hok ea
  obtain ⟨od, J, _⟩ := O.look
  obtain ⟨mm, hF⟩ := I.fr
  obtain ⟨h1, h2⟩ := Meth.sub G.me
  refine PySem.W.len_K hF I.ok.mod.kin J h1 h2 (wpAny_mono (runAt (us := [.ref a]) (ws := [.ref a]) G.run hr.in1 I.env0.in1 hx I (.cons rfl .nil) q) (fun v s' z => ?_) fun _ _ x => x)
  obtain ⟨z', H', I', rz, n, en, hn, qz⟩ := z
  subst en
  obtain ⟨t, e⟩ := (show ∃ t, v = Value.int n t from rz)
  cases e
  exact ⟨⟨Int.natCast_nonneg n, by omega⟩, ⟨.int n, H', I'.tok _, ⟨_, rfl⟩, qz⟩⟩
/-- repr(o) -/
def rStrO (C : Addr) (sp : Sp) (E : XK) : List V → Hp → VK → Prop := fun xs H Q => ∃ a dx fs, xs = [V.ref a] ∧ H a = some (.ins C dx fs) ∧ sp [.ref a] H (fun z H' => ∃ y : Str, z = .str y ∧ Q z H') E
theorem strBack {pins : List (Addr × Obj)} {σ : L2.St} {Q : VK} {v : Value} {s' : Shared} (z : EP X pins σ (fun z H' => ∃ y : Str, z = .str y ∧ Q z H') v s') : PySem.W.StrBack (EP X pins σ Q) v s' := by
  obtain ⟨z', H', I', rz, y, ey, qz⟩ := z
  subst ey
  obtain ⟨t, e⟩ := (show ∃ t, v = Value.str y t from rz)
  cases e
  exact ⟨.str y, H', I', ⟨_, rfl⟩, qz⟩
theorem cReprO (G : MFn X.prog X.w X.K X.mg X.base k C "__repr__" sp) (hr : Room (k + 1) X.A) (hx : Passes (L2.CX X.prog X.w) X E) : CallR X (.builtin "repr") (rStrO (He.ga X.K C) sp E) := by
  intro pins s σ H xs us Q I r h
  obtain ⟨a, dx, fs, rfl, ea, q⟩ := h
  obtain ⟨u, rfl, ru⟩ := r.one
  cases (show u = Value.ref a from ru)
  obtain ⟨mA, O, _⟩ := ins_get I.hok ea
  obtain ⟨od, J, _⟩ := O.look
  obtain ⟨mm, hF⟩ := I.fr
  obtain ⟨h1, h2⟩ := Meth.sub G.me
  exact PySem.W.repr_K hr.in1.units0 hF I.ok.mod.kin J h1 h2 (wpAny_mono (runAt (us := [.ref a]) (ws := [.ref a]) G.run hr.in1 I.env0.in1 hx I (.cons rfl .nil) q) (fun v s' z => strBack z) fun _ _ x => x)
theorem cStrO (G : MFn X.prog X.w X.K X.mg X.base k C "__str__" sp) (hr : Room (k + 2) X.A) (hx : Passes (L2.CX X.prog X.w) X E) : CallR X (.type "str") (rStrO (He.ga X.K C) sp E) := by
  intro pins s σ H xs us Q I r h
  obtain ⟨a, dx, fs, rfl, ea, q⟩ := h
  obtain ⟨u, rfl, ru⟩ := r.one
  cases (show u = Value.ref a from ru)
  obtain ⟨mA, O, _⟩ := ins_get I.hok ea
  obtain ⟨od, J, _⟩ := O.look
  obtain ⟨h1, h2⟩ := Meth.sub G.me
  have hr1 : Room (k + 1) X.A.in1 := Room.in1 hr
  exact PySem.W.kso_call hr1.in1.units0 I.kIn J h1 h2 (wpAny_mono (runAt (us := [.ref a]) (ws := [.ref a]) G.run hr1.in1 I.env0.in1.in1 hx I (.cons rfl .nil) q) (fun v s' z => strBack z) fun _ _ x => x)
/-- {o} in an f-string -/
def tFmtO (C : Addr) (sp : Sp) (E : XK) (te : TE) : TE := fun σ H Q => te σ H fun x H1 => ∃ a dx fs, x = .ref a ∧ H1 a = some (.ins C dx fs) ∧ sp [.ref a] H1 (fun z H' => ∃ y : Str, z = .str y ∧ Q z H') E
structure FmtC (K : PySem.W.Frag) (C : Addr) : Prop where
  fm : PySem.W.findIn K (.ref C) "__format__" = some (some (.builtin "object.__format__"))
  ob : PySem.W.mroIn K C (.type "object") = some true
theorem eFmtO {e : Expr} {te : TE} {pos : Pos} (G : MFn X.prog X.w X.K X.mg X.base k C "__str__" sp) (T : FmtC X.K (He.ga X.K C)) (hr : Room (k + 1) X.A) (hx : Passes (L2.CX X.prog X.w) X E) (he : PE X e te) : PE X (.FormattedValue e (-1) none pos) (tFmtO (He.ga X.K C) sp E te) := by
  refine ⟨fun pins s σ H Q I h => ?_⟩
  refine wpAny_FormattedValue_plain (thn (he.run pins s σ H _ I h) fun v s1 hv => ?_)
  obtain ⟨x, H1, I1, r1, a, dx, fs, rfl, ea, q⟩ := hv
  cases (show v = Value.ref a from r1)
  obtain ⟨mA, O, _⟩ := ins_get I1.hok ea
  obtain ⟨od, J, _⟩ := O.look
  obtain ⟨h1, h2⟩ := Meth.sub G.me
  have I2 : Inv X pins σ H1 { s1 with toks := s1.toks + 1 } := I1.tok _
  refine PySem.W.kfo_fieldS hr.in1.units0 I1.kIn J T.fm T.ob h1 h2 (wpAny_mono (runAt (us := [.ref a]) (ws := [.ref a]) G.run hr.in1 I2.env0.in1 hx I2 (.cons rfl .nil) q) (fun v s' z => strBack z) fun _ _ x => x)
/-- o == p, two instances of C -/
def rEqO (C : Addr) (sp : Sp) (E : XK) : R2 := fun x y H Q => ∃ a dx fs b dy gs, x = .ref a ∧ y = .ref b ∧ H a = some (.ins C dx fs) ∧ H b = some (.ins C dy gs) ∧ sp [x, y] H (fun z H' => ∃ c : Bool, z = .bl c ∧ Q z H') E
theorem oEqO (G : MFn X.prog X.w X.K X.mg X.base k C "__eq__" sp) (hr : Room k X.A) (hx : Passes (L2.CX X.prog X.w) X E) (hnf : PySem.W.notFirst X.K (He.ga X.K C) (.ref (He.ga X.K C)) = true) : OpR X (compareOp .Eq) (rEqO (He.ga X.K C) sp E) := by
  intro pins s σ H x y v u Q I rx ry h
  obtain ⟨a, dx, fs, b, dy, gs, rfl, rfl, ea, eb, q⟩ := h
  cases (show v = Value.ref a from rx)
  cases (show u = Value.ref b from ry)
  obtain ⟨mA, O, _⟩ := ins_get I.hok ea
  obtain ⟨od, J, _⟩ := O.look
  obtain ⟨mB, O', _⟩ := ins_get I.hok eb
  obtain ⟨od', J', _⟩ := O'.look
  obtain ⟨mm, hF⟩ := I.fr
  obtain ⟨h1, h2⟩ := Meth.sub G.me
  show wpAny _ _ (richCompare .Eq (.ref a) (.ref b)) _ _ _
  refine PySem.W.cmp_K (op := .Eq) (tb := .ref (He.ga X.K C)) hr.units0 hF I.ok.mod.kin J J'.type hnf h1 h2 ?_
  refine wpAny_mono (runAt (us := [.ref a, .ref b]) (ws := [.ref a, .ref b]) G.run hr I.env0 hx I (.cons rfl (.cons rfl .nil)) q) (fun v s' z => ?_) fun _ _ x => x
  obtain ⟨z', H', I', rz, c, ec, qz⟩ := z
  subst ec
  cases (show v = Value.bool c from rz)
  exact ⟨.bl c, H', I', rfl, qz⟩
end
end Wy
set_option Elab.async false
set_option linter.all false
set_option maxRecDepth 100000
set_option maxHeartbeats 0
namespace Wy
open PySem PySem.Spec PyProof.Rows L2 StX PySem.F

/-- a built-in exception class B as a base, its order of look-up tl; its making is Bn's -/
structure Bs (B ini Bn nw : String) (tl : List Value) : Prop where
  fb : ∃ i0 t0, ExcBaseFacts Bn nw i0 t0
  hB : tl.contains (.type Bn) = true
  hA : tl.contains (.type "AttributeError") = false
  hN : tl.contains (.type "NameError") = false
  kf : PySem.W.KxsFacts B ini
  kind : builtinKind ini = some .slot
  row : Manifest.signature? ini = some ⟨.positional, "*", B, .self, [⟨"args", .varPos, false⟩]⟩
  ent : entryFor table ini = some Builtin.«BaseException.__init__»
  pln : plainId ini = true
  star : (B != "*") = true
  pass : ∀ self, refuseLoop self "__setattr__" tl = pure ()
  obj : tl.contains (.type "object") = true
  has : tl.contains (.type B) = true
  ne : tl.isEmpty = false
def vTl : List Value := [.type "ValueError", .type "Exception", .type "BaseException", .type "object"]
def kTl : List Value := [.type "KeyError", .type "LookupError", .type "Exception", .type "BaseException", .type "object"]
theorem kSup : PySem.W.KxsFacts "KeyError" "KeyError.__init__" := ⟨by show builtinType _ = _; rw [builtinType_eq_fast]; kernel_rfl, by kernel_rfl⟩
theorem bsV : Bs "ValueError" "ValueError.__init__" "ValueError" "ValueError.__new__" vTl :=
  ⟨⟨_, _, F.excBase_ValueError⟩, by decide +kernel, by decide +kernel, by decide +kernel, PySem.W.kxs_ValueError, F.excBase_ValueError.initKind, F.excBase_ValueError.initRow, F.excBase_ValueError.initEntry, F.excBase_ValueError.init.plain, by decide, fun s => F.store_ValueError.passes s, by decide +kernel, by decide +kernel, rfl⟩
theorem bsK : Bs "KeyError" "KeyError.__init__" "LookupError" "LookupError.__new__" kTl :=
  ⟨⟨_, _, F.excBase_LookupError⟩, by decide +kernel, by decide +kernel, by decide +kernel, kSup, by kernel_rfl, by kernel_rfl,
    entryFor_alias (id' := "BaseException.__init__") (by rw [fastTable_eq_tree]; kernel_rfl) (by first | rfl | decide +kernel) (by decide +kernel) (by rw [fastTable_eq_tree]; kernel_rfl), by decide +kernel, by decide,
    fun s => by show refuseLoop s "__setattr__" [.type "KeyError", .type "LookupError", .type "Exception", .type "BaseException", .type "object"] = pure (); kernel_rfl, by decide +kernel, by decide +kernel, rfl⟩

/-- own classes (their addresses cs), then the base's order -/
def own (cs : List Addr) (tl : List Value) : List Value := cs.map Value.ref ++ tl
theorem own_pass {tl : List Value} (b : ∀ self, refuseLoop self "__setattr__" tl = pure ()) (self : Value) : ∀ cs : List Addr, refuseLoop self "__setattr__" (own cs tl) = pure ()
  | [] => b self
  | c :: cs => by
    show refuseLoop self "__setattr__" (Value.ref c :: own cs tl) = pure ()
    rw [refuseLoop_ref]
    exact own_pass b self cs
theorem own_contains (X : String) (tl : List Value) : ∀ cs : List Addr, (own cs tl).contains (.type X) = tl.contains (.type X)
  | [] => rfl
  | c :: cs => by
    show (Value.ref c :: own cs tl).contains (.type X) = _
    rw [List.contains_cons, own_contains X tl cs]
    rfl

section
variable {M : Model} {A : Around} {E : Value → Shared → Prop} {h : Heap} {g : Array GenState} {d : Drawn} {t : Nat} {os : OsState}
variable {nm q : Str} {C N : Addr} {bs bm bmB : List Value} {hdct : Bool} {sn : List Str} {sub : List Value} {ab : Bool} {col : Option Bool} {dd : Option Addr} {k0 k1 k2 k3 k5 : Option Value} {B newId initId : String}
theorem nwCheck (F : ExcBaseFacts B newId initId bmB) (hB : bm.contains (.type B) = true) {rest : List Value} {Q : Unit → Shared → Prop}
    (hC : h.get? C = some (excClassObj nm q C N bs bm hdct sn sub ab col dd k0 k1 k2 k3 k5 newId)) (hq : Q () ⟨h, g, d, t, os⟩) : wpAny M A (checkBuiltinCall newId ⟨.ref C :: rest, []⟩) Q E ⟨h, g, d, t, os⟩ := by
  have c1 : (Value.ref C :: bm).contains (.type B) = true := by rw [List.contains_cons, hB, Bool.or_true]
  have st := F.noStar
  simp only [checkBuiltinCall, F.newKind, F.newSplit, F.newRow]
  repeat (first | refine wpAny_loadPart_at hC ?_ | (refine wpAny_isSubtype_exc hC ?_; rw [c1]) | refine wpAny_staticBase_exc hC ?_ | refine wpAny_madeBy_exc hC ?_ | simp only [bne_self_eq_false, Bool.false_eq_true, if_false] | wp_step)
  exact hq
/-- the wrapper's check: initId of an object of C -/
theorem biCheck {ini : String} (star : (B != "*") = true) (kind : builtinKind ini = some .slot) (row : Manifest.signature? ini = some ⟨.positional, "*", B, .self, [⟨"args", .varPos, false⟩]⟩) {e : Addr} {oe : Obj} {rest : List Value} {Q : Unit → Shared → Prop}
    (hC : h.get? C = some (excClassObj nm q C N bs bm hdct sn sub ab col dd k0 k1 k2 k3 k5 newId)) (he : h.get? e = some oe) (hcls : oe.cls = .ref C) (hq : Q () ⟨h, g, d, t, os⟩) :
    wpAny M A (checkBoundCall ini ⟨.ref e :: rest, []⟩) Q E ⟨h, g, d, t, os⟩ := by
  have st := star
  simp only [checkBoundCall, kind, row]
  repeat (first | (with_reducible refine wpAny_loadPart_at he ?_; rw [hcls]) | with_reducible refine wpAny_loadPart_at hC ?_ | wp_step)
  refine wpAny_onRaise ?_
  have z : ∀ (a b : String) (n : Nat), Bind.check ⟨.positional, "*", B, .self, [⟨"args", .varPos, false⟩]⟩ a b n (List.map (fun x => x.fst) ({ pos := Value.ref e :: rest } : Args).kw) = pure () := fun a b n => check_star_args _ _ _ _ _ _
  rw [z]
  exact wpAny_pure hq
end
section
variable {prog : Program} {w : World} {A : Around} {E : Value → Shared → Prop} {R : Result → Shared → Prop} {h : Heap} {g : Array GenState} {d : Drawn} {t : Nat} {os : OsState}
variable {nm q : Str} {C N : Addr} {bs bm bmB : List Value} {hdct : Bool} {sn : List Str} {sub : List Value} {ab : Bool} {col : Option Bool} {dd : Option Addr} {k0 k1 k2 k3 k5 : Option Value} {B newId initId : String}
open HandSPX
theorem nwNew (F : ExcBaseFacts B newId initId bmB) (hB : bm.contains (.type B) = true) (hA : bm.contains (.type "AttributeError") = false) (hN : bm.contains (.type "NameError") = false) {rest : List Value}
    (hC : h.get? C = some (excClassObj nm q C N bs bm hdct sn sub ab col dd k0 k1 k2 k3 k5 newId))
    (hq : R (.ok (.ret (.ref (h.objs.size + 1)))) ⟨(h.push (W.kdv_tup rest)).push (excO C h.objs.size), g, d, t, os⟩) (hrest : rest.length ≤ sizeLine) :
    codeAny (model prog w) A (.builtin newId ⟨.ref C :: rest, []⟩) R ⟨h, g, d, t, os⟩ := by
  have en := F.ends
  have c1 : (Value.ref C :: bm).contains (.type B) = true := by rw [List.contains_cons, hB, Bool.or_true]
  have c2 : (Value.ref C :: bm).contains (.type "AttributeError") = false := by rw [List.contains_cons, hA]; rfl
  have c3 : (Value.ref C :: bm).contains (.type "NameError") = false := by rw [List.contains_cons, hN]; rfl
  refine codeAny_builtinAt F.entry ?_
  unfold Builtin.«BaseException.__new__»
  refine _root_.PySem.wpAt_bind ?_
  show _root_.PySem.wpAt _ _ _ (stack >>= _) _ _ _
  refine _root_.PySem.wpAt_bind (_root_.PySem.wpAt_stack fun p below => _root_.PySem.wpAt_of_wpAny ?_)
  wp_walk
  refine _root_.PySem.wpAt_of_wpAny ?_
  rw [F.owner]
  repeat (first | with_reducible refine wpAny_madeHere_exc F.canon hC ?_ | with_reducible refine wpAny_loadPart_at hC ?_ | (with_reducible refine wpAny_isSubtype_exc hC ?_; first | rw [c1] | rw [c2] | rw [c3]) | wp_step)
  show R _ _
  rw [Heap.size_push]
  exact hq
theorem nwType (F : ExcBaseFacts B newId initId bmB) (hB : bm.contains (.type B) = true) (hA : bm.contains (.type "AttributeError") = false) (hN : bm.contains (.type "NameError") = false) {rest : List Value} {fI : Addr} {Q : Fin → Shared → Prop}
    (hC : h.get? C = some (excClassObj nm q C N bs bm hdct sn sub ab col dd k0 k1 k2 k3 k5 newId))
    (hi : W.Looks (model prog w) h (typeLookup (.ref C) "__init__") (some (.ref fI))) (hb : ∀ self, W.Looks (model prog w) h (bindSpecial (.ref fI) self) (.ref fI, [self])) (hrest : rest.length ≤ sizeLine)
    (hq : codeAny (model prog w) A (.call (.ref fI) ⟨.ref (h.objs.size + 1) :: rest, []⟩)
      (fun r s' => match r with | .ok (.ret v) => v = .none ∧ Q (.done (.ret (.ref (h.objs.size + 1)))) s' | .ok _ => False | .error e => E e s')
      ⟨(h.push (W.kdv_tup rest)).push (excO C h.objs.size), g, d, t, os⟩) :
    wpAny (model prog w) A (Builtin.«type.__call__» ⟨.ref C :: rest, []⟩) Q E ⟨h, g, d, t, os⟩ := by
  repeat (first | with_reducible refine wpAny_loadPart_at hC ?_ | with_reducible refine wpAny_madeBy_exc hC ?_ | wp_step)
  refine codeAny_call_builtin_code (Code.quiet_builtin _ F.quiet) (nwCheck F hB hC ?_)
  refine nwNew F hB hA hN hC ?_ hrest
  show wpAny _ _ _ _ _ _
  have up : ∀ b o, h.get? b = some o → ((h.push (W.kdv_tup rest)).push (excO C h.objs.size)).get? b = some o := fun b o e => Heap.get?_push_of_some _ (Heap.get?_push_of_some _ e)
  have hC2 := up _ _ hC
  have at2 : ((h.push (W.kdv_tup rest)).push (excO C h.objs.size)).get? (h.objs.size + 1) = some (excO C h.objs.size) := by heap_get
  have self : (Value.ref C :: bm).contains (.ref C) = true := by simp
  have i1 := hi.keeps up
  have b1 := (hb (.ref (h.objs.size + 1))).keeps up
  unfold isInstance
  repeat (first | with_reducible refine wpAny_loadPart_at at2 ?_ | (with_reducible refine wpAny_isSubtype_exc hC2 ?_; rw [self]) | wp_step)
  show wpAny _ _ (typeLookup (.ref C) _) _ _ _
  refine i1.at ?_
  refine wpAny_holding (wpAny_bind (b1.at ?_))
  refine wpAny_bind (wpAny_call (codeAny_mono hq fun r s' z => ?_))
  rcases r with e | (v | _ | _ | _) <;> first | exact z | exact z.elim | skip
  obtain ⟨rfl, z⟩ := z
  first
    | exact wpAny_pure (wpAny_pure z)
    | (wp_walk; exact z)
theorem nwCall (F : ExcBaseFacts B newId initId bmB) (hB : bm.contains (.type B) = true) (hA : bm.contains (.type "AttributeError") = false) (hN : bm.contains (.type "NameError") = false) {rest : List Value} {fI : Addr}
    (hC : h.get? C = some (excClassObj nm q C N bs bm hdct sn sub ab col dd k0 k1 k2 k3 k5 newId))
    (hi : W.Looks (model prog w) h (typeLookup (.ref C) "__init__") (some (.ref fI))) (hb : ∀ self, W.Looks (model prog w) h (bindSpecial (.ref fI) self) (.ref fI, [self])) (hrest : rest.length ≤ sizeLine)
    (hq : codeAny (model prog w) (A.under (.builtin "type.__call__" ⟨.ref C :: rest, []⟩)) (.call (.ref fI) ⟨.ref (h.objs.size + 1) :: rest, []⟩) (W.InitBack (h.objs.size + 1) R)
      ⟨(h.push (W.kdv_tup rest)).push (excO C h.objs.size), g, d, t, os⟩) :
    codeAny (model prog w) A (.call (.ref C) ⟨rest, []⟩) R ⟨h, g, d, t, os⟩ := by
  have f1 := tc_lookup
  have f2 := tc_bind (.ref C)
  have ty : (⟨h, g, d, t, os⟩ : Shared).TypeIs (.ref C) "type" := ⟨_, hC, rfl⟩
  refine codeAny_of_tree ?_
  show wpAny _ _ (callAny (.ref C) _) _ _ _
  repeat (any_goals (first | assumption | with_reducible refine wpAny_loadPart_at hC ?_ | wp_step))
  refine ⟨rfl, ?_⟩
  refine codeAny_call_builtin_at (Code.quiet_builtin _ (by decide +kernel)) entry_typeCall (wpAny_check_type_call_sub hC (nwType F hB hA hN hC hi hb hrest ?_))
  refine codeAny_mono hq fun r s' z => ?_
  rcases r with e | (v | _ | _ | _) <;> exact z
end
end Wy
set_option Elab.async false
set_option linter.all false
set_option maxRecDepth 100000
set_option maxHeartbeats 0
namespace PySem
namespace WyE
open PySem.W PySem.Calls PyProof.Rows PySem.HandSPX Wy
section
open Builtin Builtin.ObjectAttr
variable {prog : Program} {w : World} {A : Around} {E : Value → Shared → Prop} {R : Result → Shared → Prop} {hp : Heap} {g : Array GenState} {d : Drawn} {t : Nat} {os : OsState}
theorem putOld {M : Model} {dx : Addr} {name : Str} {tk : Tok} {v : Value} {m0 : Str → Option Value} {ns : List Str} {Q : Fin → Shared → Prop} (hn : hp.Ns1 dx m0) (hw : Within m0 ns) (hz : ns.length ≤ 1000)
    (hq : ∀ h' tk', h'.Ns1 dx (fun y => if y = name then some v else m0 y) → Heap.SameBut dx hp h' → Q (.done (.ret .none)) ⟨h', g, d, tk', os⟩) :
    wpAny M A (storeInDict dx (.str name tk) name v) Q E ⟨hp, g, d, t, os⟩ := PySem.OEX.store_in_old hn hw hz hq
/-- o.name = v ahead of the own dict: the class lets it through -/
theorem setPass {K : W.Frag} {name : Str} {tk : Tok} {v : Value} {x C : Addr} {ox : Obj} {od : Option Obj} {cd : ClassData} {cs : List Addr} {tl : List Value} (pass : ∀ self, refuseLoop self "__setattr__" tl = pure ()) (obj : tl.contains (.type "object") = true)
    (X : K.In hp) (I : W.InstAt hp x ox C od) (hcd : W.clsIn K C = some cd) (hm : cd.mro = own (C :: cs) tl) (ha : W.findIn K (.ref C) name = some none)
    (hq : wpAny (model prog w) A.in1 (storeInOwnDict (.ref x) (.ref C) (.str name tk) name v false)
      (fun fin s' => match fin with | .done f => R (.ok f) s' | .again c' => c'.quiet = true ∧ codeAny (model prog w) A c' R s') (fun e s' => R (.error e) s') ⟨hp, g, d, t, os⟩) :
    codeAny (model prog w) A (.call (.builtin "object.__setattr__") ⟨[.ref x, .str name tk, v], []⟩) R ⟨hp, g, d, t, os⟩ := by
  have SF := F.store_object
  have ob : cd.mro.contains (.type "object") = true := by rw [hm, own_contains, obj]
  have ne : cd.mro.isEmpty = false := by rw [hm]; rfl
  have sub : W.Looks (model prog w) hp (isInstance (.ref x) (.type "object")) true := I.type.andThen (W.looks_mroIn X (by unfold W.mroIn; rw [hcd, Option.bind_some, if_neg (by rw [ne]; decide), ob]))
  refine codeAny_call_builtin SF.slot.plain SF.entry (@W.check_slot (model prog w) _ _ ⟨hp, g, d, t, os⟩ "object.__setattr__" "object" "__setattr__" (.ref x) [.str name tk, v] [] _ SF.kind SF.split sub (SF.args (.ref x) (.str name tk) v) ?_)
  have mr : W.Looks (model prog w) hp (mroOf (.ref C)) cd.mro := (W.looks_clsIn X hcd).andThen .now
  have L3 : W.Looks (model prog w) hp (storeTaker? none) none := .now
  rw [W.osa_eq, refuse_eq]
  refine wpAny_bind (wpAny_bind (I.type.at (wpAny_bind (mr.at ?_))))
  rw [hm, own_pass pass]
  refine wpAny_pure (wpAny_bind (I.type.at (wpAny_bind ((W.looks_findIn X ha).at (wpAny_bind (L3.at ?_))))))
  exact hq
theorem setNew {K : W.Frag} {name : Str} {tk : Tok} {v : Value} {x C : Addr} {fv : Array Value} {cd : ClassData} {cs : List Addr} {tl : List Value} (pass : ∀ self, refuseLoop self "__setattr__" tl = pure ()) (obj : tl.contains (.type "object") = true)
    (X : K.In hp) (hx : hp.get? x = some { cls := .ref C, data := .fields fv }) (hcd : W.clsIn K C = some cd) (hm : cd.mro = own (C :: cs) tl) (hh : cd.hasDict = true) (ha : W.findIn K (.ref C) name = some none)
    (hq : ∀ h' tk' dx, (∀ b o, b ≠ x → hp.get? b = some o → h'.get? b = some o) → hp.objs.size ≤ dx → dx ≠ x → h'.get? x = some { cls := .ref C, dict := some dx, data := .fields fv } →
      h'.Ns1 dx (fun y => if y = name then some v else none) → R (.ok (.ret .none)) ⟨h', g, d, tk', os⟩) :
    codeAny (model prog w) A (.call (.builtin "object.__setattr__") ⟨[.ref x, .str name tk, v], []⟩) R ⟨hp, g, d, t, os⟩ := by
  have xs : x ≠ hp.objs.size := Nat.ne_of_lt (Heap.lt_size hx)
  refine setPass pass obj X (ox := { cls := .ref C, data := .fields fv }) (od := none) ⟨hx, rfl, rfl, trivial⟩ hcd hm ha ?_
  have hcls : W.Looks (model prog w) hp (classData C) cd := W.looks_clsIn X hcd
  obtain ⟨nm, bs, mro, ns, qn, hd, sn, sb, ab, col, del⟩ := cd
  dsimp only at hh
  subst hh
  unfold storeInOwnDict ownDictForStores
  repeat (first | with_reducible refine store_in_new ?_ ?_ | with_reducible refine wpAny_loadPart_at hx ?_ | with_reducible refine hcls.at ?_ | wp_step)
  · exact ⟨_, #[], _, (Heap.get?_update_ne _ _ _ _ xs.symm).trans (Heap.get?_push_at rfl rfl), rfl, fun e he => absurd he (by simp), fun _ => rfl⟩
  · intro h' tk' hn' hs
    have hx2 : (hp.push { cls := .type "dict", data := .dict #[] }).get? x = some { cls := .ref C, data := .fields fv } := Heap.get?_push_of_some _ hx
    refine hq h' tk' hp.objs.size (fun b o hb ho => ?_) (Nat.le_refl _) xs.symm ?_ hn'
    · exact (hs.2 b (Nat.ne_of_lt (Heap.lt_size ho))).trans ((Heap.get?_update_ne _ _ _ _ hb).trans (Heap.get?_push_of_some _ ho))
    · exact (hs.2 x xs).trans (Heap.get?_update_self _ hx2 rfl)
theorem setOld {K : W.Frag} {name : Str} {tk : Tok} {v : Value} {x C dx : Addr} {fv : Array Value} {cd : ClassData} {m0 : Str → Option Value} {nl : List Str} {cs : List Addr} {tl : List Value} (pass : ∀ self, refuseLoop self "__setattr__" tl = pure ()) (obj : tl.contains (.type "object") = true)
    (X : K.In hp) (hx : hp.get? x = some { cls := .ref C, dict := some dx, data := .fields fv }) (hns : hp.Ns1 dx m0) (hw : Within m0 nl) (hz : nl.length ≤ 1000) (hcd : W.clsIn K C = some cd) (hm : cd.mro = own (C :: cs) tl) (hh : cd.hasDict = true)
    (ha : W.findIn K (.ref C) name = some none)
    (hq : ∀ h' tk', (∀ b o, b ≠ dx → hp.get? b = some o → h'.get? b = some o) → h'.Ns1 dx (fun y => if y = name then some v else m0 y) → R (.ok (.ret .none)) ⟨h', g, d, tk', os⟩) :
    codeAny (model prog w) A (.call (.builtin "object.__setattr__") ⟨[.ref x, .str name tk, v], []⟩) R ⟨hp, g, d, t, os⟩ := by
  obtain ⟨oD, esD, epD, hoD, hdD, _⟩ := hns.count hw
  refine setPass pass obj X (ox := { cls := .ref C, dict := some dx, data := .fields fv }) (od := some oD) ⟨hx, rfl, rfl, hoD⟩ hcd hm ha ?_
  have hcls : W.Looks (model prog w) hp (classData C) cd := W.looks_clsIn X hcd
  obtain ⟨nm, bs, mro, ns, qn, hd, sn, sb, ab, col, del⟩ := cd
  dsimp only at hh
  subst hh
  unfold storeInOwnDict ownDictForStores
  repeat (first | with_reducible refine putOld hns hw hz ?_ | with_reducible refine wpAny_loadPart_at hx ?_ | with_reducible refine hcls.at ?_ | wp_step)
  intro h' tk' hn' hs
  exact hq h' tk' (fun b o hb ho => (hs.2 b hb).trans ho) hn'
end
end WyE
end PySem

namespace Wy
open PySem PySem.Spec PyProof.Rows L2 StX

/-- what the written part says of an own exception class: its own classes above it cs, the built-in ones tl -/
structure ExC (K : PySem.W.Frag) (C : Addr) (B ini Bn nw : String) (tl : List Value) : Prop where
  bs : Bs B ini Bn nw tl
  cls : ∃ (nm q : Str) (N : Addr) (b : List Value) (cs : List Addr) (sn : List Str) (sub : List Value) (ab : Bool) (col : Option Bool) (dd : Option Addr) (k0 k1 k2 k3 k5 : Option Value),
    K.lookup C = some (excClassObj nm q C N b (own cs tl) true sn sub ab col dd k0 k1 k2 k3 k5 nw) ∧ PySem.W.alongIn K "__init__" (own cs tl) = some (some (.builtin ini))
  sa : PySem.W.findIn K (.ref C) "__setattr__" = some (some (.builtin "object.__setattr__"))
  exC : PySem.W.subIn K (.ref C) (.type "BaseException") = some true
  exB : PySem.W.subIn K (.ref C) (.type B) = some true
  exS : PySem.W.mroIn K C (.ref C) = some true
  tyC : PySem.W.typeIn K (.ref C) = some (.type "type")
  kC : PySem.W.keepIn K (.ref C) = true
theorem ExC.data {K : PySem.W.Frag} {C : Addr} {B ini Bn nw : String} {tl : List Value} (T : ExC K C B ini Bn nw tl) : ∃ cd cs, PySem.W.clsIn K C = some cd ∧ cd.mro = own (C :: cs) tl ∧ cd.hasDict = true ∧ PySem.W.alongIn K "__init__" (own cs tl) = some (some (.builtin ini)) := by
  obtain ⟨nm, q, N, b, cs, sn, sub, ab, col, dd, k0, k1, k2, k3, k5, hC, hi⟩ := T.cls
  exact ⟨{ name := nm, bases := b, mro := .ref C :: own cs tl, ns := N, qualname := q, hasDict := true, slotNames := sn, subclasses := sub, abstract := ab, collection := col, hasDel := false }, cs, by unfold PySem.W.clsIn; rw [hC], rfl, rfl, hi⟩
section
variable {X : Cx} {pins : List (Addr × Obj)} {σ : L2.St} {H : Hp} {s : Shared} {a C dx : Addr} {f : Str} {y : V} {u : Value} {fs : List (Str × V)} {Q : Unit → Shared → Prop} {E : Value → Shared → Prop} {A : Around} {B ini Bn nw : String} {tl : List Value}
theorem exSet1 (T : ExC X.K C B ini Bn nw tl) (I : Inv X pins σ H s) (e : H a = some (exo a C none)) (hno : PySem.W.findIn X.K (.ref C) f = some none) (ry : RelV y u)
    (h : ∀ dx s', H dx = none → dx ≠ a → Inv X pins σ (upd (upd H dx (exd dx [(f, y)])) a (exo a C (some dx))) s' → Q () s') : wpAny (model X.prog X.w) A (setAttr (.ref a) f u) Q E s := by
  obtain ⟨cd, cs, hcl, hm, hh, _⟩ := T.data
  obtain ⟨t1, ho⟩ := exo_at I.hok e
  obtain ⟨hp, g, d, t, os⟩ := s
  refine PySem.W.set_plain I.kIn (ox := { cls := .ref C, dict := none, data := .fields #[.ref t1, .none, .none, .none, .bool false, .none] }) (od := none) ⟨ho, rfl, rfl, trivial⟩ T.sa ?_
  refine PySem.WyE.setNew T.bs.pass T.bs.obj I.kIn ho hcl hm hh hno (fun h' tk' dx k dn dne hx hn => ?_)
  have hnd : H dx = none := I.hok.fresh dn
  have nd : ∀ {b : Addr} {o : Obj}, hp.get? b = some o → b ≠ dx := fun {b o} q => Nat.ne_of_lt (Nat.lt_of_lt_of_le (Heap.lt_size q) dn)
  have na : ∀ {b : Addr}, H b = none → b ≠ a := fun {b} n z => by
    rw [z, e] at n
    cases n
  have U : Un X.fs [] H (upd (upd H dx (exd dx [(f, y)])) a (exo a C (some dx))) hp h' := {
    keep := fun b o q n _ _ => k b o (na n) q
    slot := fun b o q n _ _ => ⟨o.slots, k b o (na n) q⟩
    free := fun b o q n _ => by rw [upd_ne (na n), upd_ne (nd q)]; exact n
    there := fun b o q _ => by
      by_cases hb : b = a
      · exact ⟨_, by rw [hb]; exact hx⟩
      · exact ⟨o, k b o hb q⟩
    tups := fun b xs q => by rw [upd_ne (at_ne e q exo_tup), upd_ne (ne_of_none q hnd)]; exact q
    frzs := fun b o v q => by rw [upd_ne (at_ne e q exo_frz), upd_ne (ne_of_none q hnd)]; exact q
    tbls := fun b ps q => ⟨#[], by rw [upd_ne (at_ne e q exo_tbl), upd_ne (ne_of_none q hnd), q]; simp⟩ }
  refine h dx _ hnd dne (I.un (t' := tk') U fun b o q => ?_)
  by_cases hb : b = a
  · subst hb
    rw [upd_same] at q
    cases q
    exact exo_ok hx
  · rw [upd_ne hb] at q
    by_cases hd : b = dx
    · subst hd
      rw [upd_same] at q
      cases q
      exact exd_ok hn (relO_put (fs := []) ry fun g => True.intro)
    · rw [upd_ne hd] at q
      exact (I.hok b o q).stay (fun c v hc z => k c v (by
          rcases hc with hc | hc
          · rw [hc]
            exact hb
          · exact at_ne e hc exo_own) z)
        (fun c hc => by rw [upd_ne (at_ne e hc exo_own), upd_ne (ne_of_none hc hnd)]; exact hc) (fun c xs hc => by rw [upd_ne (at_ne e hc exo_tup), upd_ne (ne_of_none hc hnd)]; exact hc)
theorem exSet2 (T : ExC X.K C B ini Bn nw tl) (I : Inv X pins σ H s) (e : H a = some (exo a C (some dx))) (ed : H dx = some (exd dx fs)) (hl : fs.length ≤ 900) (hno : PySem.W.findIn X.K (.ref C) f = some none) (ry : RelV y u)
    (h : ∀ s', Inv X pins σ (upd H dx (exd dx ((f, y) :: fs))) s' → Q () s') : wpAny (model X.prog X.w) A (setAttr (.ref a) f u) Q E s := by
  obtain ⟨cd, cs, hcl, hm, hh, _⟩ := T.data
  obtain ⟨t1, ho⟩ := exo_at I.hok e
  obtain ⟨mA, hns, rel⟩ := exd_at I.hok ed
  have hw := within_of rel
  obtain ⟨hp, g, d, t, os⟩ := s
  obtain ⟨oD, _, _, hoD, _, _⟩ := hns.count hw
  refine PySem.W.set_plain I.kIn (ox := { cls := .ref C, dict := some dx, data := .fields #[.ref t1, .none, .none, .none, .bool false, .none] }) (od := some oD) ⟨ho, rfl, rfl, hoD⟩ T.sa ?_
  refine PySem.WyE.setOld T.bs.pass T.bs.obj I.kIn ho hns hw (by rw [List.length_map]; omega) hcl hm hh hno (fun h' tk' k hn => ?_)
  have hd : ∃ o, h'.get? dx = some o := by
    obtain ⟨o, _, _, e', _⟩ := hn
    exact ⟨o, e'⟩
  exact h _ (I.write (t' := tk') (x := dx) (e := dx) (o := exd dx ((f, y) :: fs)) (by rw [ed]; exact True.intro) (.inl rfl) k hd (exd_ok hn (relO_put ry rel)))
end
end Wy
set_option Elab.async false
set_option linter.all false
set_option maxRecDepth 100000
set_option maxHeartbeats 0
namespace Wy
open PySem PySem.Spec PyProof.Rows L2 StX ClX

structure ExScope (N ps : List Str) (sc : Scope) : Prop where
  kind : sc.kind = .function
  co : sc.isCoroutine = false
  gen : sc.isGenerator = false
  nd : N.Nodup
  pre : N.take ps.length = ps
  loc : ∀ x ∈ ps, sc.names.lookup x = some .local
  cells : ∀ x ∈ sc.names, x.2 ≠ .cell
  free : ∀ x ∈ sc.names, x.2 = .free → x.1 = "__class__"
  sup : sc.names.lookup ("super" : Str) = some .globalImplicit
  cla : sc.names.lookup ("__class__" : Str) = some .free
theorem lookup_last {α : Type} (x : Str) (v : α) : ∀ l : List (Str × α), (l ++ [(x, v)]).lookup x = some (((l.lookup x).getD v))
  | [] => by simp [List.lookup]
  | (y, u) :: r => by
    by_cases e : x = y
    · subst e; simp [List.lookup]
    · have h : (x == y) = false := by simpa using e
      show List.lookup x ((y, u) :: (r ++ [(x, v)])) = _
      rw [List.lookup_cons, h, List.lookup_cons, h]
      exact lookup_last x v r
theorem lookup_ne {α : Type} (x y : Str) (v : α) (n : x ≠ y) : ∀ l : List (Str × α), (l ++ [(y, v)]).lookup x = l.lookup x
  | [] => by
    have h : (x == y) = false := by simpa using n
    simp [List.lookup, h]
  | (z, u) :: r => by
    show List.lookup x ((z, u) :: (r ++ [(y, v)])) = _
    rw [List.lookup_cons, List.lookup_cons, lookup_ne x y v n r]
theorem lookup_no {α : Type} (x : Str) : ∀ l : List (Str × α), (∀ p ∈ l, p.1 ≠ x) → l.lookup x = none
  | [], _ => rfl
  | (z, u) :: r, h => by
    have e : (x == z) = false := by simpa using fun q : x = z => h (z, u) List.mem_cons_self q.symm
    rw [List.lookup_cons, e]
    exact lookup_no x r fun p hp => h p (List.mem_cons_of_mem _ hp)
theorem rev_look : ∀ {ps : List Str} {us : List Value} {i : Nat} {x : Str} {u : Value}, ps.Nodup → ps[i]? = some x → us[i]? = some u → (ps.zip us).reverse.lookup x = some u
  | [], _, _, _, _, _, h, _ => by simp at h
  | _ :: _, [], _, _, _, _, _, h => by simp at h
  | p :: ps, w :: us, 0, x, u, nd, h1, h2 => by
    have e1 : p = x := by simpa using h1
    have e2 : w = u := by simpa using h2
    subst e1 e2
    show ((p, w) :: ps.zip us).reverse.lookup p = some w
    rw [List.reverse_cons, lookup_last, lookup_no p _ fun q hq e => ?_]
    · rfl
    · rw [← e] at nd
      exact (List.nodup_cons.mp nd).1 (List.of_mem_zip (List.mem_reverse.mp hq)).1
  | p :: ps, w :: us, i + 1, x, u, nd, h1, h2 => by
    have h1' : ps[i]? = some x := by simpa using h1
    have h2' : us[i]? = some u := by simpa using h2
    show ((p, w) :: ps.zip us).reverse.lookup x = some u
    have n : x ≠ p := fun e => (List.nodup_cons.mp nd).1 (e ▸ List.mem_of_getElem? h1')
    rw [List.reverse_cons, lookup_ne x p w n]
    exact rev_look (List.nodup_cons.mp nd).2 h1' h2'

abbrev exEnv (qual : Str) (scope : Scope) (L f cda cc : Addr) : Env := PySem.W.ksEnv qual scope L f (.ref cda) cc
abbrev exFn (name qual : Str) (params : Arguments) (body : List Stmt) (scope : Scope) (dV kV doc pm : Value) (an : Option Addr) (cda : Addr) (ct : Value) (cc : Addr) : FuncData := PySem.W.ksFn name qual params body scope dV kV doc pm an (.ref cda) ct cc
def cxE (P : Program) (w : World) (K : PySem.W.Frag) (mg : Str → Option Value) (base : Heap) (N : List Str) (qual : Str) (scope : Scope) (f cda cc : Addr) (A : Around) (outer : List Env) (s : Shared) (H : Hp) (E : XK) : Cx where
  prog := P
  w := w
  K := K
  mg := mg
  base := base
  A := A.deeper (exEnv qual scope s.heap.objs.size f cda cc)
  N := N
  s_0 := s
  H_0 := H
  env := exEnv qual scope s.heap.objs.size f cda cc
  outer := outer
  stack := exEnv qual scope s.heap.objs.size f cda cc :: outer
  ex := []
  calm := true
  fn := fun _ => false
  pn := []
  xe := fun e s' => wpAny (model P w) (A.deeper (exEnv qual scope s.heap.objs.size f cda cc)) (leaving (exEnv qual scope s.heap.objs.size f cda cc) e) (fun _ s'' => L2.CX P w outer H s E e s'') (fun e' s'' => L2.CX P w outer H s E e' s'') s'

section
variable {P : Program} {w : World} {K : PySem.W.Frag} {mg : Str → Option Value} {base : Heap} {N ps : List Str} {qual : Str} {scope : Scope} {f cda cc C : Addr} {A : Around} {outer : List Env} {s : Shared} {H : Hp} {E : XK} {us : List Value} {vs : List V}
theorem exStart {h0 : Heap} {tk : Nat} {cl : Value} {cld : Option Addr} {csl : Array (Option Value)} (S : ExScope N ps scope) (hd : A.handled = none) (e0 : Env0 P w K mg base A outer s H) (hl : vs.length = ps.length) (r : Vals vs us) (hc : K.lookup cc = some ⟨cl, cld, .cell (some (.ref C)), csl⟩)
    (ns : h0.Ns s.heap.objs.size fun x => (ps.zip us).reverse.lookup x) (hk : ∀ b o, s.heap.get? b = some o → h0.get? b = some o) :
    Inv (cxE P w K mg base N qual scope f cda cc A outer s H E) [] (L2.start N vs) H { s with heap := h0, toks := tk } := by
  have hpl : ps.length ≤ N.length := by have := congrArg List.length S.pre; rw [List.length_take] at this; omega
  have bcc : base.get? cc = some ⟨cl, cld, .cell (some (.ref C)), csl⟩ := e0.mod.kin _ _ hc
  have noA : ∀ b : Addr, b ∉ (cxE P w K mg base N qual scope f cda cc A outer s H E).ex := fun b z => absurd (show b ∈ ([] : List Addr) from z) (by simp)
  have cel : ∀ x c, (cxE P w K mg base N qual scope f cda cc A outer s H E).env.cells.lookup x = some c → c = cc ∧ x = "__class__" := fun x c h => by
    have h2 : List.lookup x [(("__class__" : Str), cc)] = some c := h
    rw [List.lookup_cons] at h2
    by_cases e : x = "__class__"
    · subst e
      simp at h2
      exact ⟨h2.symm, rfl⟩
    · have e2 : (x == ("__class__" : Str)) = false := by simpa using e
      rw [e2] at h2
      simp [List.lookup] at h2
  refine ⟨⟨e0.mod, S.kind, rfl, rfl, Nat.le_refl _, fun y z c h1 h2 => (cel y c h1).2.trans (cel z c h2).2.symm, fun y hy => ?_, fun y c z _ => absurd z (by show ¬ (false = true); decide), fun _ => hd, Around.frames_deeper e0.frames, .inr ⟨rfl, rfl⟩,
    fun b z => absurd z (noA b), e0.bs, e0.bsz, fun b _ _ => noA b, fun b z => absurd z (noA b), e0.funs, e0.frf⟩,
    rfl, e0.bare, Un.kept hk, ⟨_, ns, fun i y v h1 h2 h3 => ?_⟩, fun y c h => ?_, e0.hok.fresh (Nat.le_refl _), fun y c h => ?_, fun p hp => absurd (show p ∈ ([] : List (Addr × Obj)) from hp) (by simp), e0.hok.kept hk, ?_⟩
  · have hy2 : scope.names.lookup y = some .cell ∨ scope.names.lookup y = some .free := hy
    have ey : y = "__class__" := by
      rcases hy2 with hy2 | hy2
      · exact absurd rfl (S.cells _ (PySem.mem_of_lookup hy2))
      · exact S.free _ (PySem.mem_of_lookup hy2) rfl
    subst ey
    exact ⟨cc, by show List.lookup ("__class__" : Str) [(("__class__" : Str), cc)] = some cc; simp [List.lookup]⟩
  · have hi : i < vs.length := by
      unfold L2.start at h2
      by_cases hi : i < vs.length
      · exact hi
      · rw [List.getElem?_append_right (by simpa using hi), List.getElem?_replicate] at h2
        split at h2 <;> cases h2
    have hv : vs[i]? = some v := by
      unfold L2.start at h2
      rw [List.getElem?_append_left (by simpa using hi), List.getElem?_map] at h2
      cases e : vs[i]? with
      | none => rw [e] at h2; cases h2
      | some a => rw [e] at h2; cases h2; rfl
    obtain ⟨u, hu, rv⟩ := r.get hv
    have hp : ps[i]? = some y := by
      rw [← S.pre, List.getElem?_take_of_lt (by omega)]; exact h1
    have nd : ps.Nodup := by rw [← S.pre]; exact S.nd.sublist (List.take_sublist _ _)
    exact ⟨u, rv, .inl ⟨S.loc y (List.mem_of_getElem? hp), rev_look nd hp hu⟩⟩
  · obtain ⟨ec, _⟩ := cel y c h
    subst ec
    exact ⟨_, _, hk _ _ (e0.bs _ _ bcc).1, rfl⟩
  · obtain ⟨ec, _⟩ := cel y c h
    subst ec
    exact (e0.bs _ _ bcc).2
  · unfold L2.start
    show _ = N.length
    rw [List.length_append, List.length_map, List.length_replicate]
    omega
end

/-- what the written part says of the __init__ at f of the class at C -/
structure ExF (P : Program) (K : PySem.W.Frag) (C f : Addr) (qual : Str) (params : Arguments) (body : List Stmt) (scope : Scope) : Prop where
  ex : ∃ (oc : Value) (od : Option Addr) (dV kV doc pm : Value) (an : Option Addr) (cda : Addr) (ct : Value) (cc : Addr) (osl : Array (Option Value)) (ccl : Value) (cdd : Option Addr) (cvs : Array Value) (ccs : Array (Option Value)) (file : Str) (tf : Tok)
    (cl : Value) (cld : Option Addr) (csl : Array (Option Value)),
    K.lookup f = some ⟨oc, od, .func (exFn "__init__" qual params body scope dV kV doc pm an cda ct cc), osl⟩ ∧ PySem.W.codeIn K (.ref cda) qual = true ∧ K.lookup cda = some ⟨ccl, cdd, .fields cvs, ccs⟩ ∧ cvs[2]? = some (.str file tf) ∧
      ((P.main.file : Str) == file) = true ∧ K.lookup cc = some ⟨cl, cld, .cell (some (.ref C)), csl⟩ ∧ dV = .none
  sup : PySem.W.nsIn K mainGlobals "super" = some none
  top : (P.main.scope.names.lookup ("super" : Str)).isSome = false
  third : PySem.W.nsIn K cStatics "thirdparty.any" = some none
section
variable {P : Program} {w : World} {K : PySem.W.Frag} {mg : Str → Option Value} {base : Heap} {N ps : List Str} {qual : Str} {params : Arguments} {scope : Scope} {f C : Addr} {B ini Bn nw : String} {tl : List Value}
theorem exInit {k : Nat} {sp : Sp} {body rest : List Stmt} {msg : Str} {j : Nat} {p0 p1 p2 p3 p4 p5 : Pos} {ar : Arg} (T : ExC K C B ini Bn nw tl) (F : ExF P K C f qual params body scope) (S : ExScope N ps scope)
    (hbe : body = .Expr (.Call (.Attribute (.Call (.Name "super" p0) [] [] p1) "__init__" p2) [.Constant (.str msg) j p3] [] p4) p5 :: rest)
    (hp : (params.posonlyargs ++ params.args).head? = some ar) (h0 : ps[0]? = some ar.arg)
    {pl : Env → Sem Bool} (he : ∀ env : Env, eval (.Call (.Attribute (.Call (.Name "super" p0) [] [] p1) "__init__" p2) [.Constant (.str msg) j p3] [] p4) env = (do
      let ov ← attributeBase (.Call (.Name "super" p0) [] [] p1) "__init__" env (eval (.Call (.Name "super" p0) [] [] p1) env)
      standAt p2.atName
      let (f, first) ← holding [ov] (getMethod ov "__init__" (pl env))
      callWith p4 f first (backTo p4 (starEach [.Constant (.str msg) j p3] env)) []))
    (hb : ∀ (kV doc pm : Value) (an : Option Addr) (cda : Addr) (ct : Value) (cc : Addr) (us : List Value), us.length = ps.length → bindArgs (exFn "__init__" qual params body scope .none kV doc pm an cda ct cc) ⟨us, []⟩ = pure (ps.zip us))
    (hbody : ∀ (cda cc : Addr) (A : Around) (outer : List Env) (s : Shared) (H : Hp) (vs : List V) (Q : VK) (E : XK), sp vs H Q E →
      ∃ t, PSs (cxE P w K mg base N qual scope f cda cc A outer s H E) rest t ∧ t { nx := fun _ H' => Q .non H', rt := Q } (L2.start N vs) H) :
    FR P w K mg base (k + 1) f (fun vs H Q E => ∃ a ws, vs = .ref a :: ws ∧ vs.length = ps.length ∧ H a = some (exo a C none) ∧ sp vs H Q E) := by
  obtain ⟨oc, od, dV, kV, doc, pm, an, cda, ct, cc, osl, ccl, cdd, cvs, ccs, file, tf, cl, cld, csl, lk, hcd, hcode, hvs, hfile, hcell, rfl⟩ := F.ex
  obtain ⟨nm, q, NN, b, cs, sn, sub, ab, col, dd, k0, k1, k2, k3, k5, hC, hal⟩ := T.cls
  intro A outer s H us vs Q E hr e0 r hsp
  obtain ⟨a, ws, ev, hl, ha, hsp⟩ := hsp
  have KX : K.In s.heap := e0.mod.kin.keeps fun b o e => (e0.bs b o e).1
  have lim : s.heap.NoLimit := e0.mod.nolimit.keeps fun b o e => (e0.bs b o e).1
  refine PySem.ks_codeAny_call_defAt (fd := exFn "__init__" qual params body scope .none kV doc pm an cda ct cc) (body := body) (binds := ps.zip us) hr.depth (KX _ _ lk) rfl lim (PySem.W.codeRec_of KX hcd) rfl
    (.of_eq (hb kV doc pm an cda ct cc us (r.length.symm.trans hl))) S.cells (fun x hx => S.loc x.1 (List.of_mem_zip hx).1) (fun h1 ns hk => ?_) S.co S.gen S.kind
  have I : Inv (cxE P w K mg base N qual scope f cda cc A outer s H E) [] (L2.start N vs) H { s with heap := h1, toks := s.toks + (ps.zip us).length } := exStart S hr.hd e0 hl r hcell ns hk
  obtain ⟨t, ht, hq⟩ := hbody cda cc A outer s H vs Q E hsp
  have KX1 : K.In h1 := KX.keeps hk
  have fin : ∀ s', Inv (cxE P w K mg base N qual scope f cda cc A outer s H E) [] (L2.start N vs) H s' → wpAny (model P w) (A.deeper (exEnv qual scope s.heap.objs.size f cda cc)) (execs rest (exEnv qual scope s.heap.objs.size f cda cc))
      (fun fl s' => CR (L2.CX P w) outer P w H s Q E (.ok (.ret (match fl with | .ret v => v | _ => .none))) s') (cxE P w K mg base N qual scope f cda cc A outer s H E).xe s' := fun s' J => by
    refine wpAny_mono (ht.run [] s' (L2.start N vs) H _ J hq) (fun fl s2 hs => ?_) fun e s2 hs => hs
    have fin2 : ∀ {σ' : L2.St} {H' : Hp} {v : V} {u : Value}, Inv (cxE P w K mg base N qual scope f cda cc A outer s H E) [] σ' H' s2 → RelV v u → Q v H' → CE outer P w H s Q u s2 :=
      fun {σ' H' v u} J rv q => ⟨v, H', J.os, J.bare, J.base, J.hok, rv, q⟩
    cases fl with
    | ret u =>
      obtain ⟨v, σ', H', J, rv, q⟩ := hs
      exact fin2 J rv q
    | next =>
      obtain ⟨σ', H', J, q⟩ := hs
      exact fin2 (v := V.non) (u := Value.none) J rfl q
    | brk =>
      obtain ⟨_, _, _, q⟩ := hs
      exact False.elim q
    | cont =>
      obtain ⟨_, _, _, q⟩ := hs
      exact False.elim q
  subst hbe
  obtain ⟨t1, ho⟩ := exo_at I.hok ha
  have hcl : PySem.W.clsIn K C = some { name := nm, bases := b, mro := .ref C :: own cs tl, ns := NN, qualname := q, hasDict := true, slotNames := sn, subclasses := sub, abstract := ab, collection := col, hasDel := false } := by unfold PySem.W.clsIn; rw [hC]
  have ix : interactive (exEnv qual scope s.heap.objs.size f cda cc) = false := by simp [interactive, S.kind]
  refine PySem.ks_wpAt_execs_cons (PySem.ks_wpAt_Expr_any (PySem.ks_wpAt_MethodCall (pl := pl _) ?_ (he _)) ix rfl)
  have g1 : h1.get? f = some ⟨oc, od, .func (exFn "__init__" qual params (.Expr (.Call (.Attribute (.Call (.Name "super" p0) [] [] p1) "__init__" p2) [.Constant (.str msg) j p3] [] p4) p5 :: rest) scope .none kV doc pm an cda ct cc), osl⟩ := KX1 _ _ lk
  have g2 : h1.get? cda = some ⟨ccl, cdd, .fields cvs, ccs⟩ := KX1 _ _ hcode
  have g3 : h1.get? C = some (excClassObj nm q C NN b (own cs tl) true sn sub ab col dd k0 k1 k2 k3 k5 nw) := KX1 _ _ hC
  refine PySem.ks_wpAt_super_base (env := exEnv qual scope s.heap.objs.size f cda cc) S.sup S.cla rfl rfl g1 rfl hp rfl g2 rfl hvs hfile F.top ?_
  obtain ⟨mb, hb1, hb2⟩ := e0.mod.blt
  have up : ∀ x o, base.get? x = some o → h1.get? x = some o := fun x o e => hk x o (e0.bs x o e).1
  refine PySem.W.ks_loadName_global S.kind S.sup (Calls.loadGlobal_builtin (env := exEnv qual scope s.heap.objs.size f cda cc) (e0.mod.glob.keeps up) (PySem.W.mg_none_of e0.mod.kin e0.mod.glob F.sup) (hb1.keeps up) ((hb2 _ (by decide +kernel)).trans (by decide +kernel : bootBuiltins "super" = some (.type "super"))) ⟨rfl, ?_⟩)
  refine wpAny_loadName_free S.kind S.cla rfl ⟨_, KX1 _ _ hcell, rfl⟩ ?_
  obtain ⟨u0, ur, eu, ru, rr⟩ : ∃ u0 ur, us = u0 :: ur ∧ RelV (.ref a) u0 ∧ Vals ws ur := by
    subst ev
    cases r with
    | cons x y => exact ⟨_, _, rfl, x, y⟩
  obtain rfl : u0 = Value.ref a := ru
  have hpos : ps.Nodup := by rw [← S.pre]; exact S.nd.sublist (List.take_sublist _ _)
  refine wpAny_loadName_local S.kind (S.loc _ (List.mem_of_getElem? h0)) ns (rev_look hpos h0 (by rw [eu]; rfl)) ?_
  refine PySem.ks_wpAny_isType_cls g3 rfl ⟨rfl, ?_⟩
  refine PySem.ks_wpAny_call_super g3 rfl ho rfl (fun c e => by cases e) (PySem.W.looks_mroIn KX1 T.exS) (fun h2 e2 up2 => ?_)
  have I2 := pin_new (t' := s.toks + (ps.zip us).length) I up2 (Nat.le_refl _) e2 (fun v z => by cases z)
  have KX2 : K.In h2 := KX1.keeps up2
  have ho2 := up2 _ _ ho
  have inst : PySem.W.InstAt h2 a { cls := .ref C, data := .fields #[.ref t1, .none, .none, .none, .bool false, .none] } C none := ⟨ho2, rfl, rfl, trivial⟩
  have hI : PySem.W.Looks (model P w) h2 (isInstance (.ref a) (.type B)) true := inst.type.andThen (PySem.W.looks_subIn KX2 T.exB)
  have hmr : PySem.W.Looks (model P w) h2 (mroOf (.ref C)) (.ref C :: own cs tl) := (PySem.W.looks_clsIn KX2 hcl).andThen .now
  refine PySem.W.kxs_getMethod T.bs.kf e2 (PySem.W.looks_opaque KX2 F.third) hmr (l := own cs tl) (by simp [List.dropWhile_cons]) KX2 hal hI (PySem.W.ks_ne KX2 inst hcl) rfl ?_
  have I3 := pin_new (t' := s.toks + (ps.zip us).length + 1) I2 (h' := h2.push (PySem.W.kxs_mw ini a)) (fun _ _ z => Heap.get?_push_of_some _ z) (Nat.le_refl _) (Heap.get?_push_size _ rfl) (fun v z => by cases z)
  refine PySem.W.kxs_callWith (i := ini) (x := a) rfl (PySem.Calls.evalArgs_plain ?_)
  refine thn ((pa_cons pe_str pa_nil).run p4 _ _ _ _ (fun ys H' => ys = [V.str msg] ∧ H = H') I3 ⟨rfl, rfl⟩) fun ys s4 ⟨vs4, H4, I4, r4, ev4, eH4⟩ => ?_
  subst ev4 eH4
  have pu := pin_at I4
  refine ⟨pu, ?_⟩
  obtain ⟨m4, r5, er5⟩ : ∃ m4 tk, ys = [Value.str m4 tk] := by
    cases r4 with
    | cons x y =>
      cases y
      obtain ⟨t5, e5⟩ := x
      exact ⟨msg, t5, by rw [e5]⟩
  subst er5
  obtain ⟨t4, ho4⟩ := exo_at I4.hok ha
  have hC4 : s4.heap.get? C = some (excClassObj nm q C NN b (own cs tl) true sn sub ab col dd k0 k1 k2 k3 k5 nw) := I4.kIn _ _ hC
  have pu' : s4.heap.get? h2.objs.size = some (PySem.W.kxs_mw ini a) := pu
  have goOn : ∀ s', Inv (cxE P w K mg base N qual scope f cda cc A outer s H E) [] (L2.start N vs) H s' → (match Flow.next with
      | .next => _root_.PySem.wpAt (model P w) (A.deeper (exEnv qual scope s.heap.objs.size f cda cc)) (.func (.Expr (.Call (.Attribute (.Call (.Name "super" p0) [] [] p1) "__init__" p2) [.Constant (.str msg) j p3] [] p4) p5 :: rest) (exEnv qual scope s.heap.objs.size f cda cc)) (execs rest (exEnv qual scope s.heap.objs.size f cda cc))
        (fun fl s' => CR (L2.CX P w) outer P w H s Q E (.ok (.ret (match fl with | .ret v => v | _ => .none))) s') (cxE P w K mg base N qual scope f cda cc A outer s H E).xe s'
      | fl => CR (L2.CX P w) outer P w H s Q E (.ok (.ret (match fl with | .ret v => v | _ => .none))) s') := fun s' J => _root_.PySem.wpAt_of_wpAny (fin s' J)
  obtain ⟨h4, g4, d4, tk4, os4⟩ := s4
  refine wpAny_call (codeAny_of_tree ?_)
  show wpAny _ (A.deeper (exEnv qual scope s.heap.objs.size f cda cc)).in1 (callAny (.ref h2.objs.size) ⟨[] ++ [Value.str m4 r5], []⟩) _ _ _
  simp only [callAny]
  refine wpAny_bind (wpAny_load pu' ?_)
  simp only [PySem.W.kxs_mw, show (Value.type "method-wrapper" == Value.type "method" || Value.type "method-wrapper" == Value.type "builtin_function_or_method" || Value.type "method-wrapper" == Value.type "method-wrapper") = true by decide, if_true]
  refine PySem.W.KFB.if_so (by decide) ?_
  refine wpAny_bind (biCheck T.bs.star T.bs.kind T.bs.row hC4 ho4 rfl ?_)
  refine wpAny_bind (wpAny_pure (wpAny_pure ?_))
  refine ⟨plainId_quiet T.bs.pln _, codeAny_builtin T.bs.ent ?_⟩
  refine PySem.W.exc_init_tree (cls := .ref C) (t0 := t4) (dv := none) (c2 := .none) (c3 := .none) (b4 := .bool false) ho4 (by show 1 ≤ sizeLine; decide) fun h5 k5 e5 f5 => ?_
  have J := I4.write (t' := tk4) (x := a) (e := a) (o := exo a C none) (by rw [ha]; exact True.intro) (.inl rfl) k5 ⟨_, e5⟩ (exo_ok e5)
  have eu : upd H a (exo a C none) = H := by
    funext x
    by_cases hx : x = a
    · rw [hx, upd_same, ha]
    · rw [upd_ne hx]
  rw [eu] at J
  exact goOn _ (unpin (unpin J))
end
end Wy
set_option Elab.async false
set_option linter.all false
set_option maxRecDepth 100000
set_option maxHeartbeats 0
namespace Wy
open PySem PySem.Spec PyProof.Rows L2 StX ClX

section
variable {X : Cx} {C : Addr} {B ini Bn nw : String} {tl : List Value} {f : Str} {o e : Expr} {to te : TE} {p' pos : Pos}
def sX1 (C : Addr) (f : Str) (to te : TE) : TS := fun D σ H => te σ H fun y H1 => to σ H1 fun x H2 => ∃ a, x = .ref a ∧ H2 a = some (exo a C none) ∧ ∀ dx, H2 dx = none → dx ≠ a → D.nx σ (upd (upd H2 dx (exd dx [(f, y)])) a (exo a C (some dx)))
def sX2 (C : Addr) (f : Str) (to te : TE) : TS := fun D σ H => te σ H fun y H1 => to σ H1 fun x H2 => ∃ a dx fs, x = .ref a ∧ H2 a = some (exo a C (some dx)) ∧ H2 dx = some (exd dx fs) ∧ fs.length ≤ 900 ∧ D.nx σ (upd H2 dx (exd dx ((f, y) :: fs)))
theorem eX1 (T : ExC X.K C B ini Bn nw tl) (hno : PySem.W.findIn X.K (.ref C) f = some none) (ho : PE X o to) (he : PE X e te) (hs : swapsWith e (some (.Attribute o f p')) pos.line X.env = pure false := by rfl) : PS X (.Assign [.Attribute o f p'] e pos) (sX1 C f to te) := by
  refine ⟨fun pins s σ H D I h => ?_⟩
  refine plainObj_wpAny_Assign_Attribute (thn (he.run pins s σ H _ I h) fun v s1 ⟨y, H1, I1, r1, q1⟩ => thn (ho.run pins s1 σ H1 _ I1 q1) fun u s2 ⟨x, H2, I2, r2, a, ex, ea, q⟩ => ?_) hs
  subst ex
  obtain rfl : u = Value.ref a := r2
  exact exSet1 T I2 ea hno r1 fun dx s' n ne J => ⟨σ, _, J, q dx n ne⟩
theorem eX2 (T : ExC X.K C B ini Bn nw tl) (hno : PySem.W.findIn X.K (.ref C) f = some none) (ho : PE X o to) (he : PE X e te) (hs : swapsWith e (some (.Attribute o f p')) pos.line X.env = pure false := by rfl) : PS X (.Assign [.Attribute o f p'] e pos) (sX2 C f to te) := by
  refine ⟨fun pins s σ H D I h => ?_⟩
  refine plainObj_wpAny_Assign_Attribute (thn (he.run pins s σ H _ I h) fun v s1 ⟨y, H1, I1, r1, q1⟩ => thn (ho.run pins s1 σ H1 _ I1 q1) fun u s2 ⟨x, H2, I2, r2, a, dx, fs, ex, ea, ed, hl, q⟩ => ?_) hs
  subst ex
  obtain rfl : u = Value.ref a := r2
  exact exSet2 T I2 ea ed hl hno r1 fun s' J => ⟨σ, _, J, q⟩
end

/-- the promise of such an __init__: the fields, in the order of their storing -/
def spEx (C : Addr) (fs : List Str) : Sp := fun vs H Q _ => ∃ (a : Addr) (ws : List V), vs = .ref a :: ws ∧ ws.length = fs.length ∧ H a = some (exo a C none) ∧
  ∀ (H2 : Hp) (d : Addr), H2 a = some (exo a C (some d)) → H2 d = some (exd d (fs.zip ws).reverse) → H d = none → d ≠ a → (∀ b o, b ≠ a → H b = some o → H2 b = some o) → Q .non H2
/-- what stands behind C(e, ..) -/
def tX (C : Addr) (fs : List Str) (ta : TA) : L2.St → Hp → XK → Prop := fun σ H Q => ta σ H fun ws H1 => ws.length = fs.length ∧ ∀ (d : Addr) (H2 : Hp), H1 d = none → Same H1 H2 → H2 d = some (.xd (fs.zip ws).reverse) → Q (.ref C) (some d) H2
structure XFn (P : Program) (w : World) (K : PySem.W.Frag) (mg : Str → Option Value) (base : Heap) (k : Nat) (C : Str) (fs : List Str) : Prop where
  mgx : mg C = some (.ref (He.ga K C))
  cls : ∃ B ini Bn nw tl, ExC K (He.ga K C) B ini Bn nw tl
  ini : PySem.W.findIn K (.ref (He.ga K C)) "__init__" = some (some (.ref (He.ma K (He.ga K C) "__init__")))
  fnc : PySem.W.typeIn K (.ref (He.ma K (He.ga K C) "__init__")) = some (.type "function")
  run : FR P w K mg base k (He.ma K (He.ga K C) "__init__") (spEx (He.ga K C) fs)
section
variable {X : Cx} {k : Nat} {C : Str} {fs : List Str} {e : Expr} {es : List Expr} {ta : TA} {p pos : Pos} {W : WX}
theorem eMk (G : XFn X.prog X.w X.K X.mg X.base k C fs) (hr : Room (k + 1) X.A) (hg : Gl X C) (hz : fs.length ≤ 100) (ha : PA X (e :: es) ta) (hd : (C == ("__debug__" : Str)) = false := by decide)
    (he : starEach (e :: es) X.env = (false, eval e X.env) :: starEach es X.env := by rfl) (hpl : (backTo pos (starEach es X.env)).any (·.1) = false := by rfl) : PMk X (.Call (.Name C p) (e :: es) [] pos) (tX (He.ga X.K C) fs ta) := by
  intro pins s σ H Q I h
  obtain ⟨B, ini, Bn, nw, tl, T⟩ := G.cls
  obtain ⟨nm, q, N, b, cs, sn, sub, ab, col, dd, k0, k1, k2, k3, k5, hC, _⟩ := T.cls
  obtain ⟨i0, t0, FB⟩ := T.bs.fb
  refine wpAny_Call_Name_kw (ld_glob I hg G.mgx ?_ hd)
  refine PySem.W.callWith_K (h₀ := X.base) I.ok.mod.kin T.kC (thn (ha.run pos pins s σ H _ I h) fun us s1 ⟨ws, H1, I1, r1, hl, q1⟩ => ⟨I1.kIn, ?_⟩) he hpl
  show wpAny _ _ (call (.ref (He.ga X.K C)) us) _ _ _
  obtain ⟨hp, g, dr, tk, os⟩ := s1
  have hsz : hp.objs.size ≤ hp.objs.size + 1 := Nat.le_succ _
  have hn : H1 (hp.objs.size + 1) = none := I1.hok.fresh hsz
  have up : ∀ b o, hp.get? b = some o → ((hp.push (PySem.W.kdv_tup us)).push (PySem.HandSPX.excO (He.ga X.K C) hp.objs.size)).get? b = some o := fun b o e => Heap.get?_push_of_some _ (Heap.get?_push_of_some _ e)
  have at1 : ((hp.push (PySem.W.kdv_tup us)).push (PySem.HandSPX.excO (He.ga X.K C) hp.objs.size)).get? (hp.objs.size + 1) = some (PySem.HandSPX.excO (He.ga X.K C) hp.objs.size) := by heap_get
  have I2 : Inv X pins σ (upd H1 (hp.objs.size + 1) (exo (hp.objs.size + 1) (He.ga X.K C) none)) ⟨(hp.push (PySem.W.kdv_tup us)).push (PySem.HandSPX.excO (He.ga X.K C) hp.objs.size), g, dr, tk, os⟩ :=
    I1.laid (t' := tk) (a := hp.objs.size + 1) (o := exo (hp.objs.size + 1) (He.ga X.K C) none) (h' := (hp.push (PySem.W.kdv_tup us)).push (PySem.HandSPX.excO (He.ga X.K C) hp.objs.size)) up hsz (exo_ok at1)
  have hus : us.length ≤ sizeLine := by
    rw [← Paired.length r1, hl, sizeLine_eq]
    omega
  have hq : spEx (He.ga X.K C) fs (V.ref (hp.objs.size + 1) :: ws) (upd H1 (hp.objs.size + 1) (exo (hp.objs.size + 1) (He.ga X.K C) none))
      (fun v H2 => v = .non ∧ ∃ (d : Addr) (gs : List (Str × V)), H2 (hp.objs.size + 1) = some (exo (hp.objs.size + 1) (He.ga X.K C) (some d)) ∧ H2 d = some (exd d gs) ∧ H1 d = none ∧ Q (.ref (He.ga X.K C)) (some d) (upd (del H2 (hp.objs.size + 1)) d (.xd gs))) (fun _ _ _ => False) := by
    refine ⟨_, ws, rfl, hl, upd_same, fun H2 d e1 e2 e3 e4 e5 => ⟨rfl, d, _, e1, e2, ?_, ?_⟩⟩
    · rw [upd_ne e4] at e3
      exact e3
    · have e3' : H1 d = none := by
        rw [upd_ne e4] at e3
        exact e3
      refine q1 d _ e3' (fun b o hb => ?_) upd_same
      have nb : b ≠ hp.objs.size + 1 := ne_of_none hb hn
      rw [upd_ne (ne_of_none hb e3'), del_ne nb]
      exact e5 b o nb (by rw [upd_ne nb]; exact hb)
  have r2 : Vals (V.ref (hp.objs.size + 1) :: ws) (Value.ref (hp.objs.size + 1) :: us) := .cons rfl r1
  refine wpAny_call (nwCall FB (by rw [own_contains]; exact T.bs.hB) (by rw [own_contains]; exact T.bs.hA) (by rw [own_contains]; exact T.bs.hN) (I1.kIn _ _ hC) (PySem.W.looks_findIn I1.kIn G.ini) (fun self => PySem.W.bind_fn I1.kIn self G.fnc) hus
    (codeAny_mono (G.run _ X.stack _ _ (Value.ref (hp.objs.size + 1) :: us) (V.ref (hp.objs.size + 1) :: ws) _ (fun _ _ _ => False) (hr.make _ us []) (I2.env0.make _ us []) r2 hq) fun r s' hq' => ?_))
  cases r with
  | error er =>
    obtain ⟨_, _, _, _, _, _, _, _, _, _, _, _, z⟩ := (show L2.CX X.prog X.w X.stack _ _ _ er s' from hq')
    exact z.elim
  | ok fl =>
    cases fl with
    | ret u =>
      obtain ⟨v, H2, os2, bare2, un2, hok2, rv, ev, d, gs, ea, ed, hd1, q2⟩ := hq'
      subst ev
      obtain ⟨h2, g2, d2, t2, os'⟩ := s'
      exact ⟨rv, mk_end (raises_own T.exC T.tyC) I1 hsz up un2 hok2 os2 bare2 ea ed hd1 q2⟩
    | next => exact False.elim hq'
    | brk => exact False.elim hq'
    | cont => exact False.elim hq'
/-- raise C(e, ..) -/
def sRaise (W : WX) (C : Addr) (fs : List Str) (ta : TA) : TS := fun _ σ H => tX C fs ta σ H fun cls d H' => W cls d σ H'
theorem eRaise {p1 : Pos} (G : XFn X.prog X.w X.K X.mg X.base k C fs) (hr : Room (k + 1) X.A) (hc : X.calm = true) (tk : Takes X W) (hg : Gl X C) (hz : fs.length ≤ 100) (ha : PA X (e :: es) ta) (hd : (C == ("__debug__" : Str)) = false := by decide)
    (he : starEach (e :: es) X.env = (false, eval e X.env) :: starEach es X.env := by rfl) (hpl : (backTo pos (starEach es X.env)).any (·.1) = false := by rfl) :
    PS X (.Raise (some (.Call (.Name C p) (e :: es) [] pos)) none p1) (sRaise W (He.ga X.K C) fs ta) := ps_raise hc tk (eMk G hr hg hz ha hd he hpl)
end

def ownB (tl : List Value) : List Value → Bool
  | .ref _ :: r => ownB tl r
  | l => l == tl
theorem ownB_ok (tl : List Value) : ∀ l : List Value, ownB tl l = true → ∃ cs, l = own cs tl
  | .ref c :: r, h => by
    obtain ⟨cs, e⟩ := ownB_ok tl r h
    exact ⟨c :: cs, by rw [e]; rfl⟩
  | [], h => ⟨[], beq_iff_eq.mp h⟩
  | .none :: _, h => ⟨[], beq_iff_eq.mp h⟩
  | .ellipsis :: _, h => ⟨[], beq_iff_eq.mp h⟩
  | .notImplemented :: _, h => ⟨[], beq_iff_eq.mp h⟩
  | .bool _ :: _, h => ⟨[], beq_iff_eq.mp h⟩
  | .int _ _ :: _, h => ⟨[], beq_iff_eq.mp h⟩
  | .float _ _ :: _, h => ⟨[], beq_iff_eq.mp h⟩
  | .str _ _ :: _, h => ⟨[], beq_iff_eq.mp h⟩
  | .bytes _ _ :: _, h => ⟨[], beq_iff_eq.mp h⟩
  | .type _ :: _, h => ⟨[], beq_iff_eq.mp h⟩
  | .builtin _ :: _, h => ⟨[], beq_iff_eq.mp h⟩
def exClsB (K : PySem.W.Frag) (C : Addr) (ini nw : String) (tl : List Value) : Bool := match K.lookup C with
  | some ⟨.type "type", _, .cls cd, sl⟩ => (match cd.mro, sl.toList with
    | .ref C' :: bm, [_, _, _, _, some (.builtin n), _] => C' == C && (n == nw && (!cd.hasDel && (cd.hasDict && (ownB tl bm && He.eqO (PySem.W.alongIn K "__init__" bm) (some (some (.builtin ini)))))))
    | _, _ => false)
  | _ => false
theorem exClsB_ok {K : PySem.W.Frag} {C : Addr} {ini nw : String} {tl : List Value} (h : exClsB K C ini nw tl = true) :
    ∃ (nm q : Str) (N : Addr) (b : List Value) (cs : List Addr) (sn : List Str) (sub : List Value) (ab : Bool) (col : Option Bool) (dd : Option Addr) (k0 k1 k2 k3 k5 : Option Value),
      K.lookup C = some (excClassObj nm q C N b (own cs tl) true sn sub ab col dd k0 k1 k2 k3 k5 nw) ∧ PySem.W.alongIn K "__init__" (own cs tl) = some (some (.builtin ini)) := by
  unfold exClsB at h
  split at h
  · rename_i dd cd sl ho
    split at h
    · rename_i C' bm k0 k1 k2 k3 n k5 hm hs
      simp only [Bool.and_eq_true, beq_iff_eq, Bool.not_eq_true'] at h
      obtain ⟨rfl, rfl, hdel, hdi, ht, hal⟩ := h
      obtain ⟨cs, ecs⟩ := ownB_ok tl bm ht
      obtain ⟨nm, bs, mro, ns, qn, hd, sn, sub, ab, col, del⟩ := cd
      dsimp only at hm hdel hdi
      subst hm hdel hdi
      have hsl : sl = #[k0, k1, k2, k3, some (.builtin n), k5] := by
        obtain ⟨l⟩ := sl
        simp only at hs
        rw [hs]
      subst hsl ecs
      exact ⟨nm, qn, ns, bs, cs, sn, sub, ab, col, dd, k0, k1, k2, k3, k5, ho, He.eqO_ok hal⟩
    · cases h
  · cases h
def exB (K : PySem.W.Frag) (C : Addr) (B ini nw : String) (tl : List Value) : Bool := exClsB K C ini nw tl && (He.eqO (PySem.W.findIn K (.ref C) "__setattr__") (some (some (.builtin "object.__setattr__"))) && (decide (PySem.W.subIn K (.ref C) (.type "BaseException") = some true) &&
  (decide (PySem.W.subIn K (.ref C) (.type B) = some true) && (decide (PySem.W.mroIn K C (.ref C) = some true) && (decide (PySem.W.typeIn K (.ref C) = some (.type "type")) && PySem.W.keepIn K (.ref C))))))
theorem exB_ok {K : PySem.W.Frag} {C : Addr} {B ini Bn nw : String} {tl : List Value} (b : Bs B ini Bn nw tl) (h : exB K C B ini nw tl = true) : ExC K C B ini Bn nw tl := by
  obtain ⟨h1, h⟩ := He.ba h
  obtain ⟨h2, h⟩ := He.ba h
  obtain ⟨h3, h⟩ := He.ba h
  obtain ⟨h4, h⟩ := He.ba h
  obtain ⟨h5, h⟩ := He.ba h
  obtain ⟨h6, h7⟩ := He.ba h
  exact ⟨b, exClsB_ok h1, He.eqO_ok h2, of_decide_eq_true h3, of_decide_eq_true h4, of_decide_eq_true h5, of_decide_eq_true h6, h7⟩
def exFnObs (K : PySem.W.Frag) (f C : Addr) (qual : Str) : Option (Str × Str × Arguments × FuncBody × Scope × Addr × Value × Addr) := match K.lookup f with
  | some ⟨_, _, .func fd, _⟩ => (match fd.closure with
    | [(x, cc)] => (match decide (x = ("__class__" : Str)), K.lookup cc, fd.code with
      | true, some ⟨_, _, .cell (some (.ref D)), _⟩, .ref cda => (match decide (D = C), K.lookup cda with
        | true, some ⟨_, _, .fields vs, _⟩ => (match (vs[2]? : Option Value) with
          | some (Value.str file _) => (match decide (file = ("/claim/cut.py" : Str)) && PySem.W.codeIn K (.ref cda) qual with
            | true => some (fd.name, fd.qualname, fd.params, fd.body, fd.scope, fd.globals, fd.defaults, fd.builtins)
            | false => none)
          | _ => none)
        | _, _ => none)
      | _, _, _ => none)
    | _ => none)
  | _ => none
def exFnVal (qual : Str) (st : Stmt) : Option (Str × Str × Arguments × FuncBody × Scope × Addr × Value × Addr) := some ("__init__", qual, defArgs st, .stmts (defBody st), defScope st, mainGlobals, .none, builtinsNs)
theorem exFn_ok {P : Program} {K : PySem.W.Frag} {f C : Addr} {qual : Str} {st : Stmt} (hP : P.main.file = ("/claim/cut.py" : String)) (h : exFnObs K f C qual = exFnVal qual st) (sup : PySem.W.nsIn K mainGlobals "super" = some none) (top : (P.main.scope.names.lookup ("super" : Str)).isSome = false)
    (third : PySem.W.nsIn K cStatics "thirdparty.any" = some none) : ExF P K C f qual (defArgs st) (defBody st) (defScope st) := by
  refine ⟨?_, sup, top, third⟩
  unfold exFnObs exFnVal at h
  split at h
  · rename_i oc od fd osl lk
    split at h
    · rename_i x cc hcl
      split at h
      · rename_i ccl ccd D csl cda hx hcc hcode
        split at h
        · rename_i c1 c2 vs c3 hD hcda
          split at h
          · rename_i file tf hvs
            split at h
            · rename_i hb
              obtain ⟨b1, b2⟩ := He.ba hb
              have hx2 := of_decide_eq_true hx
              have hD2 := of_decide_eq_true hD
              have b3 := of_decide_eq_true b1
              subst hx2 hD2 b3
              obtain ⟨n1, n2, n3, n4, n5, n6, n7, n8, n9, n10, n11, n12, n13, n14, n15⟩ := fd
              dsimp only at hcl hcode
              subst hcl hcode
              simp only [Option.some.injEq, Prod.mk.injEq] at h
              obtain ⟨e1, e2, e3, e4, e5, e6, e7, e8⟩ := h
              subst e1 e2 e3 e4 e5 e6 e7 e8
              exact ⟨oc, od, _, n9, n10, n11, n12, cda, n14, cc, osl, c1, c2, vs, c3, _, tf, ccl, ccd, csl, lk, b2, hcda, hvs, by rw [hP]; exact beq_self_eq_true _, hcc, rfl⟩
            · cases h
          · cases h
        · cases h
      · cases h
    · cases h
  · cases h
end Wy
set_option Elab.async false
set_option linter.all false
set_option maxRecDepth 100000
set_option maxHeartbeats 0
namespace Wy
open PySem PySem.Spec PyProof.Rows L2 StX

/-- one clause: whom it takes, the slot of its name, its suite -/
structure Cl where
  hit : Value → Bool → Prop
  slot : Option Nat
  ts : Addr → Value → Option Addr → TS
def gone (σ : L2.St) : Option Nat → L2.St
  | none => σ
  | some i => σ.set i none
def came (a : Addr) (σ : L2.St) : Option Nat → L2.St
  | none => σ
  | some i => σ.set i (some (.ref a))
def endsC (D : Ends) (sl : Option Nat) : Ends := ⟨fun σ H => D.nx (gone σ sl) H, D.rt, fun σ H => D.bk (gone σ sl) H, fun σ H => D.ct (gone σ sl) H⟩
def wCl (Wout : WX) (D : Ends) : List Cl → WX
  | [] => Wout
  | c :: r => fun cls d σ H => ∃ b, c.hit cls b ∧ (b = true → ∀ a, H a = none → c.ts a cls d (endsC D c.slot) (came a σ c.slot) H) ∧ (b = false → wCl Wout D r cls d σ H)

/-- what the clause's class expression does -/
def ClTest (X : Cx) (t : Expr) (hit : Value → Bool → Prop) : Prop :=
  ∀ (a : Addr) (oe : Obj) (pn : List (Addr × Obj)) (σ : L2.St) (H : Hp) (s : Shared) (cls : Value) (b : Bool) (Q : Bool → Shared → Prop) (E : Value → Shared → Prop),
    Inv (X.suite a ((a, oe) :: pn)) [] σ H s → s.heap.get? a = some oe → oe.cls = cls → hit cls b → (∀ h', (∀ q o, s.heap.get? q = some o → h'.get? q = some o) → Q b { s with heap := h' }) →
    wpAny (model X.prog X.w) (X.A.mark (some (.ref a))) (eval t X.env) (fun c s1 => wpAny (model X.prog X.w) (X.A.mark (some (.ref a))) (excMatches (.ref a) c) Q E s1) E s
section
variable {X : Cx}
theorem typ_of {a : Addr} {oe : Obj} {h : Heap} {cls : Value} (e : h.get? a = some oe) (hc : oe.cls = cls) : PySem.W.Looks (model X.prog X.w) h (typeOf (.ref a)) cls := fun A Q E s k q => wpAny_typeOf_ref (k _ _ e) (by rw [hc]; exact q)
theorem name_in {a : Addr} {oe : Obj} {pn : List (Addr × Obj)} {σ : L2.St} {H : Hp} {s : Shared} {x : Str} {c : Value} {np : Pos} {Q : Value → Shared → Prop} {E : Value → Shared → Prop} (hn : Names X x c) (I : Inv (X.suite a ((a, oe) :: pn)) [] σ H s) (q : Q c s) :
    wpAny (model X.prog X.w) (X.A.mark (some (.ref a))) (eval (.Name x np) X.env) Q E s := by
  obtain ⟨g1, g2, g3⟩ := hn
  rcases g3 with g3 | ⟨g3, g4, g5⟩
  · exact ld_glob (X := X.suite a ((a, oe) :: pn)) I g1 g3 q g2
  · exact ld_blt (X := X.suite a ((a, oe) :: pn)) I g1 g3 g4 q g5 g2
theorem clt_name {x : Str} {c : Value} {np : Pos} (hn : Names X x c) : ClTest X (.Name x np) (fun cls b => PySem.W.exmOne X.K cls c = some b) := fun a oe pn σ H s cls b Q E I ha hc hb hq =>
  name_in hn I ((PySem.W.exm_one (M := model X.prog X.w) I.kIn (typ_of ha hc) hb).here (hq s.heap fun _ _ z => z))
theorem clt_tup3 {x1 x2 x3 : Str} {c1 c2 c3 : Value} {p1 p2 p3 tp : Pos} {kk : Nat} (n1 : Names X x1 c1) (n2 : Names X x2 c2) (n3 : Names X x3 c3) :
    ClTest X (.Tuple [.Name x1 p1, .Name x2 p2, .Name x3 p3] kk tp) (fun cls b => PySem.W.exmAny X.K cls [c1, c2, c3] = some b) := fun a oe pn σ H s cls b Q E I ha hc hb hq => by
  refine wpAny_Tuple ?_
  refine wpAny_items_cons (name_in n1 I ?_)
  refine wpAny_items_cons (name_in n2 I ?_)
  refine wpAny_items_cons (name_in n3 I ?_)
  refine wpAny_items_nil ⟨by show 3 ≤ sizeLine; rw [sizeLine_eq]; decide, ?_⟩
  have kp : ∀ q o, s.heap.get? q = some o → (s.heap.push { cls := .type "tuple", data := .seq [c1, c2, c3].toArray }).get? q = some o := fun _ _ z => Heap.get?_push_of_some _ z
  exact (PySem.W.exm_tup3 (I.kIn.keeps kp) ((typ_of ha hc).keeps kp) (Heap.get?_push_size s.heap rfl) hb).here (hq _ kp)
end

inductive ClsOk (X : Cx) : List ExceptHandler → List Cl → Prop
  | nil : ClsOk X [] []
  | plain {t : Expr} {hit : Value → Bool → Prop} {ts : Addr → Value → Option Addr → TS} {b0 : Stmt} {su : List Stmt} {hp : Pos} {hds : List ExceptHandler} {l : List Cl} (ht : ClTest X t hit)
      (hsu : ∀ (a : Addr) (oe : Obj) (cls : Value) (d : Option Addr) (pn : List (Addr × Obj)), Zc cls d oe → (∃ vs, oe.data = .fields vs) → PSs (X.suite a ((a, oe) :: pn)) (b0 :: su) (ts a cls d)) (r : ClsOk X hds l) :
      ClsOk X (.ExceptHandler (some t) none (b0 :: su) hp :: hds) (⟨hit, none, ts⟩ :: l)
  | named {t : Expr} {hit : Value → Bool → Prop} {i : Nat} {n : Str} {ts : Addr → Value → Option Addr → TS} {b0 : Stmt} {su : List Stmt} {hp : Pos} {hds : List ExceptHandler} {l : List Cl} (ht : ClTest X t hit) (hi : X.N[i]? = some n) (hl : X.env.kindOf n = some .local)
      (hsu : ∀ (a : Addr) (oe : Obj) (cls : Value) (d : Option Addr) (pn : List (Addr × Obj)), Zc cls d oe → (∃ vs, oe.data = .fields vs) → PSs (X.suite a ((a, oe) :: pn)) (b0 :: su) (ts a cls d)) (r : ClsOk X hds l) :
      ClsOk X (.ExceptHandler (some t) (some n) (b0 :: su) hp :: hds) (⟨hit, some i, ts⟩ :: l)

theorem flyUp {B h h' : Heap} {l : List Env} {a : Addr} {Z : Obj → Prop} (f : HandSPX.FlyingZ B l a Z h) (k : ∀ b o, h.get? b = some o → h'.get? b = some o) : HandSPX.FlyingZ B l a Z h' := by
  obtain ⟨f1, f2, f3, oe, vs, T, oT, us, z1, z2, z3, z4, z5, z6, z7, z8, z9⟩ := f
  exact ⟨fun b o e => k b o (f1 b o e), f2, Heap.FunFrames.of_keeps (fun b o e _ => ⟨o, k b o e, rfl⟩) f3, oe, vs, T, oT, us, k _ _ z1, z2, z3, z4, z5, z6, k _ _ z7, z8, z9⟩

section
variable {X : Cx} {body : List Stmt} {h0 : ExceptHandler} {hds : List ExceptHandler} {l : List Cl} {pos : Pos} {tb : WX → TS} {Wout : WX}
/-- the rule -/
theorem eTry (hs : X.stack = X.env :: X.outer) (hf : X.env.frame = some X.env.locals) (hN : X.N.Nodup) (tk : Takes X Wout)
    (hb : ∀ (W : WX) (pn : List (Addr × Obj)) (xe : Value → Shared → Prop), Takes (X.tr pn xe) W → PassesOwn (model X.prog X.w) X.A X.env xe → PSs (X.tr pn xe) body (tb W))
    (hh : ClsOk X (h0 :: hds) l) : PS X (.Try body (h0 :: hds) [] [] pos) (fun D σ H => tb (wCl Wout D l) D σ H) := by
  refine ⟨fun pins st0 σ H D I0 hw => ?_⟩
  have okX := I0.ok
  have hfr : X.A.frames = some (X.env :: X.outer) := by rw [okX.frames, hs]
  refine wpAny_Try_except (wpAny_mono ((hb (wCl Wout D l) (X.pn ++ pins) (fun x t1 => wpAny (model X.prog X.w) X.A (noteFrame x X.env) (fun _ t2 => wpAny (model X.prog X.w) X.A (setFlight x none) (fun _ t3 =>
    wpAny (model X.prog X.w) X.A (handleBy x X.env (h0 :: hds)) (SP X pins D) X.xe t3) X.xe t2) X.xe t1) (fun u w1 xx => ?_) PassesOwn.looking).run [] st0 σ H D (I0.toTry _) hw) (fun fl w1 hsp => ?_) (fun _ _ hz => hz))
  · obtain ⟨a, B, sB, pl, τ, G, cls, d, eu, JJ, grd, upA, sk, na, os1, bare1, wx⟩ := xx
    subst eu
    have J : Inv X pins τ G sB := JJ.ofTry okX
    have sk2 : Sky B (X.env :: X.outer) a (Zc cls d) X.env.locals w1.heap := by rw [← hs]; exact sk
    show wpAny (model X.prog X.w) X.A (noteFrame (.ref a) X.env) _ _ _
    refine Sky.land Zc.steady hfr hf sk2 fun g3 fly3 upB => ?_
    have up3 := upA.trans upB
    have off : ∀ {g : Heap} {o : Obj} {vs : Array Value}, g.FunFrames B (X.env :: X.outer) → g.get? a = some o → o.data = .fields vs → a ∉ frs (X.env :: X.outer) := fun {g o vs} ff ge gd hm => by
      obtain ⟨_, o2, ge2, nf⟩ := ff.mem hm
      rw [ge] at ge2
      cases ge2
      exact nf _ gd
    obtain ⟨oe3, vs3, ge3, gz3, gd3⟩ := fly3.there
    have offA := off fly3.2.2.1 ge3 gd3
    have aL : a ≠ X.env.locals := fun z => offA (List.mem_filterMap.mpr ⟨X.env, List.mem_cons_self, by rw [hf, z]⟩)
    have aF : a ∉ X.fs := fun hm => by
      obtain ⟨en, m1, m2⟩ := List.mem_filterMap.mp hm
      exact offA (List.mem_filterMap.mpr ⟨en, List.mem_cons_of_mem _ m1, m2⟩)
    -- one clause after another, from a heap g in which the exception flies
    have go : ∀ {hs' : List ExceptHandler} {l' : List Cl}, ClsOk X hs' l' → ∀ g : Heap, HandSPX.FlyingZ B (X.env :: X.outer) a (Zc cls d) g → sB.heap.UpToSlots g → wCl Wout D l' cls d τ G →
        wpAny (model X.prog X.w) X.A (handleBy (.ref a) X.env hs') (SP X pins D) X.xe { w1 with heap := g } := by
      intro hs' l' hk
      have suite_at : ∀ {g : Heap}, HandSPX.FlyingZ B (X.env :: X.outer) a (Zc cls d) g → sB.heap.UpToSlots g → ∃ oe, g.get? a = some oe ∧ Zc cls d oe ∧ (∃ vs, oe.data = .fields vs) ∧ Inv (X.suite a ((a, oe) :: (X.pn ++ pins))) [] τ G { w1 with heap := g } := fun {g} fl up => by
        obtain ⟨oe, vs, e1, e2, e3⟩ := fl.there
        exact ⟨oe, e1, e2, ⟨vs, e3⟩, (J.landed (s' := { w1 with heap := g }) grd fl.1 up os1 bare1).suite e1 e3 na aL aF⟩
      induction hk with
      | nil =>
        intro g fl up wx
        refine wpAny_handleBy_nil ?_
        obtain ⟨_, _, _, oe, vs, T, _, _, e1, _, e3, e4, _⟩ := id fl
        unfold PySem.passOn
        refine wpAny_bind (wpAny_field e1 e3 e4 ?_)
        rw [if_neg (show ¬ ((Value.ref T == Value.none) = true) from by simp)]
        have out : wpAny (model X.prog X.w) X.A (setFlight (.ref a) X.env.frame) (fun _ w4 => wpAny (model X.prog X.w) X.A (throw (.ref a) : Sem Flow) (SP X pins D) X.xe w4) X.xe { w1 with heap := g } := by
          rw [hf]
          refine HandSPX.setFlight_upZ fl fun g4 held up4 => wpAny_throw (tk _ _ ⟨a, B, sB, pins, τ, G, cls, d, rfl, J, grd, up.trans up4, .inr (.inr (by rw [hs]; exact held)), na, os1, bare1, wx⟩)
        first
          | exact wpAny_bind (wpAny_pure (wpAny_bind out))
          | exact wpAny_bind out
      | @plain t hit ts b0 su hp hds2 l2 ht hsu r ih =>
        intro g fl up wx
        obtain ⟨b, hb1, hyes, hno⟩ := wx
        refine wpAny_handleBy_cons (codeAny_handlers_test ?_) (by intro q; cases q)
        obtain ⟨oe, e1, e2, _, SI⟩ := suite_at fl up
        refine ht a oe _ τ G _ cls b _ _ SI e1 e2.1 hb1 fun g2 kp => ?_
        have fl2 := flyUp fl kp
        have up2 := up.trans (Heap.UpToSlots.of_keeps kp)
        cases b with
        | false =>
          show wpAny _ X.A (handleBy (.ref a) X.env hds2) _ _ _
          exact ih g2 fl2 up2 (hno rfl)
        | true =>
          refine codeAny_handlers_suite (HandSPX.lands_againZ fl2 fun g4 fl4 up4 => ?_)
          obtain ⟨oe4, e4, e5, e6, SI4⟩ := suite_at fl4 (up2.trans up4)
          refine wpAny_mono ((hsu a oe4 cls d (X.pn ++ pins) e5 e6).run [] _ _ G _ SI4 (hyes rfl a na)) (fun fl6 w6 h6 => ?_) (fun _ _ z => z.elim)
          cases fl6 with
          | next =>
            obtain ⟨τ6, G6, S6, q6⟩ := h6
            exact ⟨τ6, G6, S6.unsuite okX, q6⟩
          | brk =>
            obtain ⟨τ6, G6, S6, q6⟩ := h6
            exact ⟨τ6, G6, S6.unsuite okX, q6⟩
          | cont =>
            obtain ⟨τ6, G6, S6, q6⟩ := h6
            exact ⟨τ6, G6, S6.unsuite okX, q6⟩
          | ret u =>
            obtain ⟨v6, τ6, G6, S6, r6, q6⟩ := h6
            exact ⟨v6, τ6, G6, S6.unsuite okX, r6, q6⟩
      | @named t hit i n ts b0 su hp hds2 l2 ht hi hl hsu r ih =>
        intro g fl up wx
        obtain ⟨b, hb1, hyes, hno⟩ := wx
        refine wpAny_handleBy_cons (codeAny_handlers_test ?_) (by intro q; cases q)
        obtain ⟨oe, e1, e2, _, SI⟩ := suite_at fl up
        refine ht a oe _ τ G _ cls b _ _ SI e1 e2.1 hb1 fun g2 kp => ?_
        have fl2 := flyUp fl kp
        have up2 := up.trans (Heap.UpToSlots.of_keeps kp)
        cases b with
        | false =>
          show wpAny _ X.A (handleBy (.ref a) X.env hds2) _ _ _
          exact ih g2 fl2 up2 (hno rfl)
        | true =>
          refine codeAny_handlers_suite_as (HandSPX.lands_againZ fl2 fun g4 fl4 up4 => ?_)
          obtain ⟨oe4, e4, e5, e6, SI4⟩ := suite_at fl4 (up2.trans up4)
          refine store_ok (X := X.suite a ((a, oe4) :: (X.pn ++ pins))) (v := .ref a) SI4 hN hi (.inl hl) rfl (fun w5 S5 => ?_) (.inr hl)
          refine wpAny_mono ((hsu a oe4 cls d (X.pn ++ pins) e5 e6).run [] w5 _ G _ S5 (hyes rfl a na)) (fun fl6 w6 h6 => ?_) (fun _ _ z => z.elim)
          have bye : ∀ {τ6 : L2.St} {G6 : Hp} {R : Shared → Prop}, Inv (X.suite a ((a, oe4) :: (X.pn ++ pins))) [] τ6 G6 w6 → (∀ w7, Inv X pins (τ6.set i none) G6 w7 → R w7) →
              wpAny (model X.prog X.w) X.A (do bindName X.env n .none; unbindBehindTheSuite X.env n hp) (fun _ w7 => R w7) X.xe w6 := fun {τ6 G6 R} S6 hq => gone_ok (S6.unsuite okX) hN hi hl hq
          cases fl6 with
          | next =>
            obtain ⟨τ6, G6, S6, q6⟩ := h6
            exact bye S6 fun w7 J7 => ⟨_, G6, J7, q6⟩
          | brk =>
            obtain ⟨τ6, G6, S6, q6⟩ := h6
            exact bye S6 fun w7 J7 => ⟨_, G6, J7, q6⟩
          | cont =>
            obtain ⟨τ6, G6, S6, q6⟩ := h6
            exact bye S6 fun w7 J7 => ⟨_, G6, J7, q6⟩
          | ret u =>
            obtain ⟨v6, τ6, G6, S6, r6, q6⟩ := h6
            exact bye S6 fun w7 J7 => ⟨v6, _, G6, J7, r6, q6⟩
    exact go hh g3 fly3 up3 wx
  · cases fl with
    | next =>
      obtain ⟨τ, G, JJ, q⟩ := hsp
      exact wpAny_execs_nil ⟨τ, G, JJ.ofTry okX, q⟩
    | brk =>
      obtain ⟨τ, G, JJ, q⟩ := hsp
      exact ⟨τ, G, JJ.ofTry okX, q⟩
    | cont =>
      obtain ⟨τ, G, JJ, q⟩ := hsp
      exact ⟨τ, G, JJ.ofTry okX, q⟩
    | ret u =>
      obtain ⟨v, τ, G, JJ, rv, q⟩ := hsp
      exact ⟨v, τ, G, JJ.ofTry okX, rv, q⟩
end
end Wy
set_option Elab.async false
set_option linter.all false
set_option maxRecDepth 100000
set_option maxHeartbeats 0
namespace PySem
open Sem (wp)
/-- enumerate(v), v whatever begins -/
theorem wy_enumerate_new1 {v : Value} {o : Obj} {G : Heap → Prop} (hB : Begins v o G) :
    Meets (Builtin.«enumerate.__new__» ⟨[.type "enumerate", v], []⟩) (fun _ R s => G s.heap ∧
      R (.ok (.ret (.ref (s.heap.push o).objs.size))) { s with heap := (s.heap.push o).push { cls := .type "enumerate", data := .fields #[.none, .bool false, .ref s.heap.objs.size, rawInt 0, .none, .none] } }) :=
  .of_wp fun prog w A R s hyp => by
    obtain ⟨h0, g0, d0, t0, o0⟩ := s
    obtain ⟨hG, hyp⟩ := hyp
    have hsub := sub_enumerate
    have q1 : ∀ {A2 : Around} {E : Value → Shared → Prop} {Q : Value → Shared → Prop}, Q (.ref h0.objs.size) ⟨h0.push o, g0, d0, t0, o0⟩ → wpAny (model prog w) A2 (pyIter v) Q E ⟨h0, g0, d0, t0, o0⟩ :=
      fun z => hB.iter prog w _ _ ⟨h0, g0, d0, t0, o0⟩ _ hG z
    wp_walk using q1
    refine wpAny_stack_any fun stk => wpAny_pure ?_
    split
    · rename_i c _ _ _ _ _
      cases (c == Value.type "enumerate") <;> (wp_walk using q1; exact ⟨_, rfl, hyp⟩)
    · wp_walk using q1
      exact ⟨_, rfl, hyp⟩
theorem wy_enumerate_1 {prog : Program} {w : World} {A : Around} {E : Value → Shared → Prop} {s : Shared} {v : Value} {o : Obj} {G : Heap → Prop} {Q : Value → Shared → Prop} (hB : Begins v o G) (hG : G s.heap)
    (hQ : ∀ g, IsEnum g (s.heap.objs.size + 1) s.heap.objs.size 0 .none → g.get? s.heap.objs.size = some o → (∀ b u, s.heap.get? b = some u → g.get? b = some u) → Q (.ref (s.heap.objs.size + 1)) { s with heap := g }) :
    wpAny (model prog w) A (call (.type "enumerate") [v]) Q E s := by
  refine callType_new F.called_enumerate (by decide) (F.typeCall_enumerate_1 _) (F.newCall_enumerate_1 _) (fun obj => F.args_object_init_2 obj _) F.entry_enumerate_new (wy_enumerate_new1 hB) ⟨hG, ?_⟩
  have sz : (s.heap.push o).objs.size = s.heap.objs.size + 1 := Heap.size_push ..
  show _ ∧ _
  rw [sz]
  have hE : IsEnum ((s.heap.push o).push { cls := .type "enumerate", data := .fields #[.none, .bool false, .ref s.heap.objs.size, rawInt 0, .none, .none] }) (s.heap.objs.size + 1) s.heap.objs.size 0 .none := by
    have z := Heap.get?_push_size (s.heap.push o) (o := { cls := .type "enumerate", data := .fields #[.none, .bool false, .ref s.heap.objs.size, rawInt 0, .none, .none] }) rfl
    rw [sz] at z
    exact z
  exact ⟨⟨_, hE, rfl⟩, hQ _ hE (Heap.get?_push_of_some _ (Heap.get?_push_size _ hB.free)) fun b u z => Heap.get?_push_of_some _ (Heap.get?_push_of_some _ z)⟩
end PySem
namespace Wy
open PySem PySem.Spec PyProof.Rows L2 StX

/-- a list or a tuple that stands in H -/
def sqO : Bool → List V → HO
  | true, xs => .tup xs
  | false, xs => .lst xs
def itO (h : Heap) : Bool → Addr → Addr → Nat → Prop
  | true, it, a, i => h.IsTupleIter it a i
  | false, it, a, i => h.IsListIter it a i
/-- the items of the list or tuple at a, each in a new pair with its number from k on -/
def ItE (b : Bool) (a : Addr) (k : Int) : It :=
  ⟨fun i H => ∃ xs x, H a = some (sqO b xs) ∧ xs[i]? = some x, fun i H v H' => ∃ T x, v = .ref T ∧ H T = none ∧ H' = upd H T (.tup [.int (k + i), x]) ∧ ∀ xs, H a = some (sqO b xs) → xs[i]? = some x,
   fun i H => ∃ xs, H a = some (sqO b xs) ∧ xs.length = i⟩
/-- what its inner iterator draws -/
theorem draws_sq {X : Cx} {pins : List (Addr × Obj)} {σ : L2.St} {H : Hp} {s : Shared} {b : Bool} {a it : Addr} {xs : List V} (I : Inv X pins σ H s) (hc : X.A.handled = none) (h : H a = some (sqO b xs)) (hn : H it = none) :
    ∃ (us : Array Value) (fp : List Addr), Vals xs us.toList ∧ us.size = xs.length ∧ it ∈ fp ∧ (∀ e, H e = none → e ≠ it → e ∉ fp) ∧ ∃ St : Nat → Heap → Prop, Draws X.prog X.w X.A.in1 it fp us.size (fun i v => us[i]? = some v) St ∧ (∀ i g, St i g → itO g b it a i) ∧ ∀ i, itO s.heap b it a i → St i s.heap := by
  have ne : a ≠ it := ne_of_none h hn
  have mem : ∀ e, H e = none → e ≠ it → e ∉ [it, a] := fun e h1 h2 hm => by
    rcases List.mem_cons.mp hm with z | hm
    · exact h2 z
    · have z := List.mem_singleton.mp hm
      rw [z, h] at h1
      cases h1
  cases b with
  | true =>
    obtain ⟨its, r, p, _⟩ := I.tuple (SqT.of (K := X.K) h)
    exact ⟨its.toArray, [it, a], by simpa using r, by simp [r.length], by simp, mem, _, Draws.tuple (A := X.A.in1) hc it a ne its.toArray, fun i g st => st.1, fun i z => ⟨z, p⟩⟩
  | false =>
    obtain ⟨its, r, p, _⟩ := I.list (SqL.of (K := X.K) h)
    exact ⟨its.toArray, [it, a], by simpa using r, by simp [r.length], by simp, mem, _, Draws.list (A := X.A.in1) hc it a ne its.toArray, fun i g st => st.1, fun i z => ⟨z, p.isList⟩⟩
theorem itO_at {h g : Heap} {b : Bool} {it a : Addr} {i : Nat} (x : itO h b it a i) (k : ∀ o, h.get? it = some o → g.get? it = some o) : itO g b it a i := by
  cases b with
  | true => exact Heap.IsTupleIter.at x k
  | false => exact Heap.IsListIter.at x k
theorem itO_obj {h : Heap} {b : Bool} {it a : Addr} {i : Nat} (x : itO h b it a i) : ∃ o, h.get? it = some o ∧ ∀ v, o.data ≠ .cell v := by
  cases b with
  | true =>
    obtain ⟨o, e, _, d⟩ := x
    exact ⟨o, e, fun v z => by rw [d] at z; cases z⟩
  | false =>
    obtain ⟨o, e, _, d⟩ := x
    exact ⟨o, e, fun v z => by rw [d] at z; cases z⟩
theorem turnE {P : Program} {w : World} {K : PySem.W.Frag} {elts : List Expr} {kk : Nat} {tpos : Pos} (b : Bool) (k : Int) (a e it : Addr) :
    Turn P w K (.Tuple elts kk tpos) (ItE b a k) [e, it] e (fun i h => (∃ old, IsEnum h e it (k + (i : Nat)) old) ∧ itO h b it a i ∧ e ≠ it) where
  mem := by simp
  obj := fun i h st c hc => by
    obtain ⟨⟨old, he⟩, hi, _⟩ := st
    have z : c = e ∨ c = it := by simpa using hc
    rcases z with z | z
    · rw [z]
      exact ⟨_, he, fun v q => nomatch q⟩
    · rw [z]
      exact itO_obj hi
  keep := fun i h h' st kp => let ⟨⟨old, he⟩, hi, ne⟩ := st; ⟨⟨old, kp e (by simp) _ he⟩, itO_at hi fun o q => kp it (by simp) o q, ne⟩
  item := by
    intro X hP hw hK hc i pins s σ H E I hf st hg
    subst hP hw hK
    obtain ⟨⟨old, he⟩, hit, ne⟩ := st
    obtain ⟨xs, x, hq, hx⟩ := hg
    have fe := hf e (by simp)
    have fi := hf it (by simp)
    obtain ⟨us, fp, rv, hsz, m1, m2, St, hD, st1, st2⟩ := draws_sq I (I.ok.hd hc) hq fi.1
    obtain ⟨u, hu, ru⟩ := rv.get hx
    have hlt : i < us.size := by
      have z := (List.getElem?_eq_some_iff.mp hx).1
      omega
    have hel : e < s.heap.objs.size := Heap.lt_size he
    have hil : it < s.heap.objs.size := by
      obtain ⟨o, q, _⟩ := itO_obj hit
      exact Heap.lt_size q
    refine wpAny_pyNext_enum_itemC hD he (st2 i hit) hlt ne (m2 e fe.1 ne) fun y g tk hy ho hs2 hT hszz hkp => ?_
    have ey : y = u := by
      have z : us[i]? = some u := by simpa using hu
      rw [z] at hy
      exact (Option.some.inj hy).symm
    subst ey
    refine ⟨_, rfl, wpAny_letOwnedTupleGo_enum (s := { s with heap := g, toks := tk + 1 }) ho fun g2 he2 sb => ?_⟩
    have hT2 : g2.get? s.heap.objs.size = some { cls := .type "tuple", data := .seq #[.int (k + (i : Nat)) tk, y] } := (sb.2 _ (Nat.ne_of_gt hel)).trans hT
    have new : ObjOk X.prog X.w (upd H s.heap.objs.size (.tup [.int (k + (i : Nat)), x])) g2 s.heap.objs.size (.tup [.int (k + (i : Nat)), x]) :=
      ⟨by show 2 ≤ sizeLine; decide, [.int (k + (i : Nat)) tk, y], .cons ⟨_, rfl⟩ (.cons ru .nil), ⟨_, hT2, rfl, _, rfl⟩⟩
    have I1 : Inv X pins σ (upd H s.heap.objs.size (.tup [.int (k + (i : Nat)), x])) { s with heap := g2, toks := tk + 1 } :=
      I.turnedNew (ch := [e, it]) (fun c ob hcm q => (sb.2 c (fun z => hcm (by simp [z]))).trans (hkp c ob (fun z => hcm (by simp [z])) (fun z => hcm (by simp [z])) q)) hf (Nat.le_refl _) new
    refine ⟨.ref s.heap.objs.size, _, I1, rfl, ⟨_, x, rfl, I.hok.fresh (Nat.le_refl _), rfl, fun ys hy2 => ?_⟩, ⟨⟨y, ?_⟩, itO_at (st1 _ _ hs2) fun o q => (sb.2 it (Ne.symm ne)).trans q, ne⟩, fun c hcm => ?_⟩
    · have z : sqO b ys = sqO b xs := Option.some.inj (hy2.symm.trans hq)
      have z2 : ys = xs := by
        cases b <;> injection z
      rw [z2]
      exact hx
    · have z : k + ((i + 1 : Nat) : Int) = k + (i : Nat) + 1 := by omega
      rw [z]
      exact he2
    · have hcl : c < s.heap.objs.size := by
        have z : c = e ∨ c = it := by simpa using hcm
        rcases z with z | z
        · rw [z]; exact hel
        · rw [z]; exact hil
      rw [upd_ne (Nat.ne_of_lt hcl)]
      exact (hf c hcm).1
  done := by
    intro X hP hw hK hc i pins s σ H E I hf st hg
    subst hP hw hK
    obtain ⟨⟨old, he⟩, hit, ne⟩ := st
    obtain ⟨xs, hq, hx⟩ := hg
    have fe := hf e (by simp)
    obtain ⟨f0, f1, f2, f3, f4, f5⟩ := hf it (by simp)
    obtain ⟨us, fp, rv, hsz, m1, m2, St, hD, st1, st2⟩ := draws_sq I (I.ok.hd hc) hq f0
    have z : i = us.size := by omega
    subst z
    exact wpAny_pyNext_enum_endD hD he (st2 _ hit) fun g eb => ⟨rfl, I.turned (t' := s.toks) (fun c o hcn q => eb c o hcn q) f0 f1 f3 f4 f5⟩
  self := fun A i s Q E st h => let ⟨⟨_, he⟩, _⟩ := st; wpAny_pyIter_enum he h
def iEn (b : Bool) (k : Int) (ta : TA) : TI := fun σ H R => ta σ H fun vs H1 => ∃ a xs, vs = [.ref a] ∧ H1 a = some (sqO b xs) ∧ R (ItE b a k) H1
section
variable {X : Cx} {ex : Expr} {ta : TA} {p pos tpos : Pos} {elts : List Expr} {kk : Nat}
theorem itE_in {pins : List (Addr × Obj)} {σ : L2.St} {H : Hp} {s : Shared} {b : Bool} {a : Addr} {k : Int} {R : It → Hp → Prop} {E : Value → Shared → Prop} {tk : Nat} {g : Heap} (I : Inv X pins σ H s) (q : R (ItE b a k) H)
    (he : IsEnum g (s.heap.objs.size + 1) s.heap.objs.size k .none) (hit : itO g b s.heap.objs.size a 0) (hk : ∀ c u, s.heap.get? c = some u → g.get? c = some u) :
    wpAny (model X.prog X.w) X.A (pyIter (.ref (s.heap.objs.size + 1))) (PIE X pins σ (.Tuple elts kk tpos) R) E { s with heap := g, toks := tk } := by
  refine wpAny_pyIter_enum he ?_
  have I2 : Inv X pins σ H { s with heap := g, toks := tk } := I.kept (t' := tk) hk
  refine ⟨s.heap.objs.size + 1, [s.heap.objs.size + 1, s.heap.objs.size], _, _, H, rfl, I2, turnE b k a (s.heap.objs.size + 1) s.heap.objs.size, ⟨⟨.none, ?_⟩, hit, Nat.succ_ne_self _⟩, fun c hcm => ?_, q⟩
  · have z : k + ((0 : Nat) : Int) = k := by omega
    rw [z]
    exact he
  · have z : c = s.heap.objs.size + 1 ∨ c = s.heap.objs.size := by simpa using hcm
    have hle : s.heap.objs.size ≤ c := by
      rcases z with z | z
      · rw [z]; exact Nat.le_add_right _ _
      · rw [z]; exact Nat.le_refl _
    exact I.fpOk hle (I.hok.fresh hle)
/-- enumerate(e) -/
theorem iEnum1 (b : Bool) (hg : Gl X "enumerate") (hm : X.mg "enumerate" = none) (ha : PA X [ex] ta) (hs : starEach [ex] X.env = [(false, eval ex X.env)] := by rfl) : PI X (.Tuple elts kk tpos) (.Call (.Name "enumerate" p) [ex] [] pos) (iEn b 0 ta) := by
  refine ⟨fun pins s σ H R I h => ?_⟩
  refine Call_ (ld_blt I hg hm boot_enumerate (PyProof.Rows.callWith_type1 (thn (ha.run pos pins s σ H _ I h) fun us s1 ⟨vs, H1, I1, r1, a, xs, ev, hq, q⟩ => ?_) hs rfl))
  subst ev
  obtain ⟨u, eu, ru⟩ := r1.one
  subst eu
  cases (show u = Value.ref a from ru)
  cases b with
  | true =>
    obtain ⟨its, r, pt, _⟩ := I1.tuple (SqT.of (K := X.K) hq)
    exact wy_enumerate_1 (begins_tuple a its.toArray) pt fun g he ho hk => itE_in (tk := s1.toks) I1 q he ⟨_, ho, rfl, rfl⟩ hk
  | false =>
    obtain ⟨its, r, pt, _⟩ := I1.list (SqL.of (K := X.K) hq)
    exact wy_enumerate_1 (begins_list a its.toArray) pt.isList fun g he ho hk => itE_in (tk := s1.toks) I1 q he ⟨_, ho, rfl, rfl⟩ hk
theorem callWithT {M : Model} {A : Around} {E : Value → Shared → Prop} {s : Shared} {cp : Pos} {T : String} {args : List (Bool × Sem Value)} {kws : List (Option Str × Sem Value)} {Q : Value → Shared → Prop} (hno : (args.any (·.1) || kws.any (·.1.isNone)) = false)
    (h : wpAny M A (evalArgs (.type T) true args kws) (fun z s1 => wpAny M A (call (.type T) z.pos z.kw) Q E s1) E s) : wpAny M A (callWith cp (.type T) [] args kws) Q E s := by
  unfold callWith
  refine wpAny_bind (wpAny_holding (wpAny_mono h (fun z s1 h1 => wpAny_bind (wpAny_standAt ?_)) fun _ _ y => y))
  simp only [hno]
  refine wpAny_bind (wpAny_pure (wpAny_bind (wpAny_mono ?_ (fun r s2 hr => wpAny_bind (wpAny_holding (wpAny_point (wpAny_pure hr)))) fun _ _ y => y)))
  exact h1
/-- enumerate(e, start=1): e a list -/
theorem iEnumK {j : Nat} {kpos cpos : Pos} {k : Int} (h1 : -(2 ^ 63) ≤ k) (h2 : k < 2 ^ 63) (hg : Gl X "enumerate") (hm : X.mg "enumerate" = none) (ha : PA X [ex] ta) (hs : starEach [ex] X.env = [(false, eval ex X.env)] := by rfl) :
    PI X (.Tuple elts kk tpos) (.Call (.Name "enumerate" p) [ex] [⟨some "start", .Constant (.int k) j cpos, kpos⟩] pos) (iEn false k ta) := by
  refine ⟨fun pins s σ H R I h => ?_⟩
  refine wpAny_Call_Name_kw (ld_blt I hg hm boot_enumerate ?_)
  refine callWithT (by rw [hs]; rfl) (PyProof.Rows.evalArgs_kw2 (by rfl) (thn (ha.run pos pins s σ H _ I h) fun us s1 ⟨vs, H1, I1, r1, a, xs, ev, hq, q⟩ => ?_) hs)
  subst ev
  obtain ⟨u, eu, ru⟩ := r1.one
  subst eu
  cases (show u = Value.ref a from ru)
  refine wpAny_evalAll_cons (wpAny_bind (wpAny_Constant_int (wpAny_bind (wpAny_standAt (wpAny_pure (wpAny_evalAll_nil ?_))))))
  have I2 := I1.tok (s1.toks + 1)
  obtain ⟨its, r, pt, _⟩ := I2.list (SqL.of (K := X.K) hq)
  exact enum_begins_start (begins_list a its.toArray) pt.isList h1 h2 fun g he ho _ hk => itE_in (tk := s1.toks + 1) I2 q he ⟨_, ho, rfl, rfl⟩ hk
end
/-- for x in enumerate(..), the thing at a stays as it is -/
theorem for_en {b : Bool} {a : Addr} {k : Int} {xs : List V} {g : TG} {tb : TS} {D : Ends} {σ : L2.St} {H : Hp} (Pv : Nat → L2.St → Hp → Prop) (h0 : Pv 0 σ H) (hl : ∀ i σ H, i ≤ xs.length → Pv i σ H → H a = some (sqO b xs))
    (hs : ∀ i x T σ H, xs[i]? = some x → Pv i σ H → H T = none → g (.ref T) σ (upd H T (.tup [.int (k + i), x])) fun σ2 H2 => tb { D with nx := Pv (i + 1), ct := Pv (i + 1), bk := D.nx } σ2 H2) (hd : ∀ σ H, Pv xs.length σ H → D.nx σ H) :
    ∃ W : Nat → Nat → L2.St → Hp → Prop, (∃ m, W 0 m σ H) ∧ ∀ i m σ H, W i m σ H →
      ((ItE b a k).stop i H ∧ D.nx σ H) ∨ ((ItE b a k).go i H ∧ ∃ N : L2.St → Hp → Prop, (∀ σ' H', N σ' H' → ∃ m', m' < m ∧ W (i + 1) m' σ' H') ∧ ∀ x H', (ItE b a k).yld i H x H' → g x σ H' fun σ2 H2 => tb { D with nx := N, ct := N, bk := D.nx } σ2 H2) := by
  refine ⟨fun i m σ H => m = xs.length - i ∧ i ≤ xs.length ∧ Pv i σ H, ⟨xs.length, rfl, Nat.zero_le _, h0⟩, ?_⟩
  rintro i m τ G ⟨rfl, hi, pv⟩
  have q := hl i τ G hi pv
  by_cases hlt : i < xs.length
  · refine .inr ⟨⟨xs, xs[i], q, by simp [hlt]⟩, Pv (i + 1), fun σ' H' p2 => ⟨xs.length - (i + 1), by omega, rfl, hlt, p2⟩, fun x H' y => ?_⟩
    obtain ⟨T, v, e1, e2, e3, e4⟩ := y
    subst e1 e3
    exact hs i v T τ G (e4 xs q) pv e2
  · have z : i = xs.length := by omega
    subst z
    exact .inl ⟨⟨xs, q, rfl⟩, hd τ G pv⟩
end Wy
set_option Elab.async false
set_option linter.all false
set_option maxRecDepth 100000
set_option maxHeartbeats 0
namespace Wy
open PySem PySem.Spec PyProof.Rows L2 StX

section
variable {prog : Program} {w : World} {A : Around} {E : Value → Shared → Prop} {s : Shared}
theorem starL {l : Addr} {v : Value} {vs : List Value} {Q : List Value → Shared → Prop} (hA : A.handled = none) (hl : s.heap.IsList l (v :: vs).toArray) (hz : (v :: vs).length ≤ sizeLine)
    (hQ : ∀ (g : Heap) (t : Nat), (∀ b o, s.heap.get? b = some o → g.get? b = some o) → Q [v, .ref g.objs.size] { s with heap := g.push { cls := .type "list", data := .seq vs.toArray }, toks := t }) :
    wpAny (model prog w) A (unpackItems (.ref l) 2 (some 1)) Q E s := by
  have lne : l ≠ s.heap.objs.size := by
    obtain ⟨o, ho, _⟩ := hl
    exact Nat.ne_of_lt (Heap.lt_size ho)
  unfold unpackItems
  refine wpAny_bind ?_
  unfold notIterableAtAll
  refine wpAny_bind (wpAny_specialOf hl.typeIs slot_list_iter.lookup (wpAny_pure ?_))
  simp only [Bool.false_eq_true, if_false]
  refine wpAny_bind (wpAny_holding (wpAny_pyIter_list hl (wpAny_bind (wpAny_holding (PySem.W.kun_draw lne 1 0 _ _ ⟨_, Heap.get?_push_size _ rfl, rfl, rfl⟩ (hl.push _) (by simp) fun g1 it1 sb1 => ?_)))))
  have hl1 : g1.IsList l (v :: vs).toArray := (hl.push _).extBut sb1.extBut lne
  rw [Nat.zero_add] at it1
  have p1 := it1
  obtain ⟨o1, e1, _⟩ := p1
  have p2 := hl1
  obtain ⟨o2, e2, _⟩ := p2
  rw [List.drop_zero]
  have one : List.take 1 (v :: vs).toArray.toList = [v] := by simp
  rw [one]
  rw [if_neg (show ¬ ([v].length < 1) by simp)]
  refine wpAny_bind (wpAny_holding (PySem.W.kun_collect (s := { s with heap := g1 }) (T := "list_iterator") (.inr (.inr (.inl rfl))) (Walks.list (A := A.in1) hA s.heap.objs.size l lne (v :: vs).toArray) (fun j u st => st.1.typeIs) (k := 1) (by simp) ⟨it1, hl1⟩ (Heap.lt_size e1) (Heap.lt_size e2) (fun g2 t2 k2 => ?_) (by simpa using hz)))
  have two : List.drop 1 (v :: vs).toArray.toList = vs := by simp
  rw [two]
  show wpAny _ _ (if vs.length < 0 then _ else _) _ _ _
  rw [if_neg (by omega)]
  show wpAny _ _ (newList (vs.take (vs.length - 0)) >>= fun d => pure ([v] ++ [d] ++ vs.drop (vs.length - 0))) _ _ _
  rw [Nat.sub_zero, List.take_length, List.drop_length]
  refine wpAny_bind (wpAny_newList (s := { s with heap := g2, toks := t2 }) (wpAny_pure ?_) (by have := hz; simp at this; omega))
  have kp : ∀ b o, s.heap.get? b = some o → g2.get? b = some o := fun b o e => k2 b o (Nat.ne_of_lt (Heap.lt_size e)) (sb1.extBut b o (Nat.ne_of_lt (Heap.lt_size e)) (Heap.get?_push_of_some _ e))
  exact hQ g2 t2 kp
theorem starT {l : Addr} {v : Value} {vs : List Value} {Q : List Value → Shared → Prop} (hA : A.handled = none) (hl : IsTup s.heap l (v :: vs).toArray) (hz : (v :: vs).length ≤ sizeLine)
    (hQ : ∀ (g : Heap) (t : Nat), (∀ b o, s.heap.get? b = some o → g.get? b = some o) → Q [v, .ref g.objs.size] { s with heap := g.push { cls := .type "list", data := .seq vs.toArray }, toks := t }) :
    wpAny (model prog w) A (unpackItems (.ref l) 2 (some 1)) Q E s := by
  have lne : l ≠ s.heap.objs.size := by
    obtain ⟨o, ho, _⟩ := hl
    exact Nat.ne_of_lt (Heap.lt_size ho)
  unfold unpackItems
  refine wpAny_bind ?_
  unfold notIterableAtAll
  refine wpAny_bind (wpAny_specialOf hl.typeIs slot_tuple_iter.lookup (wpAny_pure ?_))
  simp only [Bool.false_eq_true, if_false]
  refine wpAny_bind (wpAny_holding (iter_tuple hl (wpAny_bind (wpAny_holding (draw_tuple lne 1 0 _ _ ⟨_, Heap.get?_push_size _ rfl, rfl, rfl⟩ (hl.push _) (by simp) fun g1 it1 sb1 => ?_)))))
  have hl1 : IsTup g1 l (v :: vs).toArray := (hl.push _).extBut sb1.extBut lne
  rw [Nat.zero_add] at it1
  have p1 := it1
  obtain ⟨o1, e1, _⟩ := p1
  have p2 := hl1
  obtain ⟨o2, e2, _⟩ := p2
  rw [List.drop_zero]
  have one : List.take 1 (v :: vs).toArray.toList = [v] := by simp
  rw [one]
  rw [if_neg (show ¬ ([v].length < 1) by simp)]
  refine wpAny_bind (wpAny_holding (PySem.W.kun_collect (s := { s with heap := g1 }) (T := "tuple_iterator") (.inr (.inr (.inr rfl))) (Walks.tuple (A := A.in1) hA s.heap.objs.size l lne (v :: vs).toArray) (fun j u st => st.1.typeIs) (k := 1) (by simp) ⟨it1, hl1⟩ (Heap.lt_size e1) (Heap.lt_size e2) (fun g2 t2 k2 => ?_) (by simpa using hz)))
  have two : List.drop 1 (v :: vs).toArray.toList = vs := by simp
  rw [two]
  show wpAny _ _ (if vs.length < 0 then _ else _) _ _ _
  rw [if_neg (by omega)]
  show wpAny _ _ (newList (vs.take (vs.length - 0)) >>= fun d => pure ([v] ++ [d] ++ vs.drop (vs.length - 0))) _ _ _
  rw [Nat.sub_zero, List.take_length, List.drop_length]
  refine wpAny_bind (wpAny_newList (s := { s with heap := g2, toks := t2 }) (wpAny_pure ?_) (by have := hz; simp at this; omega))
  exact hQ g2 t2 fun b o e => k2 b o (Nat.ne_of_lt (Heap.lt_size e)) (sb1.extBut b o (Nat.ne_of_lt (Heap.lt_size e)) (Heap.get?_push_of_some _ e))
end
section
variable {X : Cx} {pos : Pos}
/-- a, *b = a list or tuple of at least one item: b is a new list -/
def gStar (b : Bool) (t : TGs) : TG := fun v σ H Q => ∃ a x xs, v = .ref a ∧ H a = some (sqO b (x :: xs)) ∧ ∀ p, H p = none → t [x, .ref p] σ (upd H p (.lst xs)) Q
theorem pg_star (b : Bool) {e1 e2 : Expr} {k : Nat} {t : TGs} {sp : Pos} (hc : X.calm = true) (h : PGs X [e1, e2] t) (hs : assignEach [e1, .Starred e2 sp] X.env = [(false, assign e1 X.env), (true, assign e2 X.env)] := by rfl)
    (h2 : (assignEach [e1, e2] X.env).map (·.2) = [assign e1 X.env, assign e2 X.env] := by rfl) : PG X (.Tuple [e1, .Starred e2 sp] k pos) (gStar b t) := by
  refine ⟨fun pins s σ H v u Q I r hw => ?_⟩
  obtain ⟨a, x, xs, e, hq, hw⟩ := hw
  subst e
  cases (show u = Value.ref a from r)
  rw [PyProof.Rows.assign_Tuple]
  refine wpAny_bind (wpAny_standAt ?_)
  unfold unpack
  rw [hs]
  have go : ∀ (y : Value) (ys : List Value) (g : Heap) (t : Nat), RelV x y → Vals xs ys → (x :: xs).length ≤ sizeLine → (∀ b o, s.heap.get? b = some o → g.get? b = some o) →
      wpAny (model X.prog X.w) X.A (assignInOrder [assign e1 X.env, assign e2 X.env] [y, .ref g.objs.size]) (fun _ s' => ∃ σ' H', Inv X pins σ' H' s' ∧ Q σ' H') X.xe { s with heap := g.push { cls := .type "list", data := .seq ys.toArray }, toks := t } := fun y ys g t ry rys hz kp => by
    have I1 : Inv X pins σ H { s with heap := g, toks := t } := I.kept kp
    have hn : H g.objs.size = none := I1.hok.fresh (Nat.le_refl _)
    have new : ObjOk X.prog X.w (upd H g.objs.size (.lst xs)) (g.push { cls := .type "list", data := .seq ys.toArray }) g.objs.size (.lst xs) :=
      ⟨by simp at hz; omega, ys, 0, rys, Heap.get?_push_size _ rfl⟩
    have I2 : Inv X pins σ (upd H g.objs.size (.lst xs)) { s with heap := g.push { cls := .type "list", data := .seq ys.toArray }, toks := t } := I1.laid (t' := t) (fun b o z => Heap.get?_push_of_some _ z) (Nat.le_refl _) new
    rw [← h2]
    exact h.run pins _ σ _ [x, .ref g.objs.size] [y, .ref g.objs.size] Q I2 (.cons ry (.cons rfl .nil)) (hw _ hn)
  cases b with
  | true =>
    obtain ⟨its, rv, pt, hz⟩ := I.tuple (SqT.of (K := X.K) hq)
    cases rv with
    | @cons _ y _ ys ry rys => exact wpAny_bind (wpAny_holding (starT (I.ok.hd hc) pt (by have := Vals.length rys; simp at hz ⊢; omega) fun g t kp => go y ys g t ry rys hz kp))
  | false =>
    obtain ⟨its, rv, pt, hz⟩ := I.list (SqL.of (K := X.K) hq)
    cases rv with
    | @cons _ y _ ys ry rys => exact wpAny_bind (wpAny_holding (starL (I.ok.hd hc) pt.isList (by have := Vals.length rys; simp at hz ⊢; omega) fun g t kp => go y ys g t ry rys hz kp))
end

structure PMc (X : Cx) (cs : List MatchCase) (t : V → TS) : Prop where
  run : ∀ (fst : Bool) (pins : List (Addr × Obj)) (s : Shared) (σ : L2.St) (H : Hp) (D : Ends) (v : V) (u : Value), Inv X pins σ H s → RelV v u → t v D σ H → wpAny (model X.prog X.w) X.A (matchCases cs X.env u fst) (SP X pins D) X.xe s
def cNil : V → TS := fun _ D σ H => D.nx σ H
def cVal (z : Str) (t : TS) (r : V → TS) : V → TS := fun v D σ H => ∃ y, v = .str y ∧ if y = z then t D σ H else r v D σ H
def cAny (t : TS) : V → TS := fun _ D σ H => t D σ H
section
variable {X : Cx} {rest : List MatchCase} {body : List Stmt} {t : TS} {r : V → TS} {pos p1 : Pos}
theorem mc_nil : PMc X [] cNil := ⟨fun _ _ _ σ H _ _ _ I _ h => wpAny_matchCases_nil ⟨σ, H, I, h⟩⟩
theorem mc_any (hb : PSs X body t) : PMc X (⟨.MatchAs none none pos, none, body⟩ :: rest) (cAny t) := ⟨fun _ pins s σ H D v u I ru h =>
  wpAny_matchCases_cons (wpAny_matchPattern_Capture (wpAny_assignInOrder_none (hb.run pins s σ H D I h)))⟩
theorem mc_val {z : Str} {j : Nat} (hb : PSs X body t) (hr : PMc X rest r) : PMc X (⟨.MatchValue (.Constant (.str z) j p1) pos, none, body⟩ :: rest) (cVal z t r) := by
  refine ⟨fun _ pins s σ H D v u I ru h => ?_⟩
  obtain ⟨y, e, h⟩ := h
  subst e
  obtain ⟨tk, eu⟩ := ru
  subst eu
  refine wpAny_matchCases_cons (wpAny_matchPattern_Value (Calls.Constant_str ?_))
  have I2 := I.tok (s.toks + 1)
  refine thn (op_eq pins _ σ H (.str y) (.str z) _ _ (fun c H' => c = .bl (decide (V.str y = V.str z)) ∧ H' = H) I2 ⟨_, rfl⟩ ⟨_, rfl⟩ ⟨rfl, rfl, rfl⟩) fun w s2 ⟨c, H', I3, rc, ec, eH⟩ => ?_
  subst ec eH
  cases rc
  refine wpAny_truthy_bool ?_
  by_cases e : y = z
  · subst e
    simp only [if_true, decide_true]
    rw [if_pos rfl] at h
    exact wpAny_assignInOrder_none (hb.run pins s2 σ _ D I3 h)
  · have e2 : decide (V.str y = V.str z) = false := decide_eq_false fun q => e (V.str.inj q)
    rw [e2]
    rw [if_neg e] at h
    simp only [Bool.false_eq_true, if_false]
    exact hr.run false pins s2 σ _ D (.str y) _ I3 ⟨_, rfl⟩ h
/-- match e: .. -/
theorem ps_match {e : Expr} {te : TE} {cs : List MatchCase} {t : V → TS} (he : PE X e te) (hc : PMc X cs t) : PS X (.Match e cs pos) (fun D σ H => te σ H fun v H1 => t v D σ H1) := by
  refine ⟨fun pins s σ H D I h => ?_⟩
  exact wpAny_Match (thn (he.run pins s σ H _ I h) fun u s1 ⟨v, H1, I1, r, q⟩ => hc.run true pins s1 σ H1 D v u I1 r q)
end

def gFld (C : Addr) (f : Str) (to : TE) : TG := fun v σ H Q => to σ H fun x H1 => ∃ a dx fs, x = .ref a ∧ H1 a = some (.ins C dx fs) ∧ fs.length < 1000 ∧ Q σ (upd H1 a (.ins C dx (putF f v fs)))
theorem pg_fld {X : Cx} {C : Addr} {f : Str} {o : Expr} {to : TE} {pos : Pos} (c : Cls X.K C) (n : NoAttr X.K C f) (ho : PE X o to)
    (ha : ∀ v, assign (.Attribute o f pos) X.env v = (do
      let ov ← holding [v] (eval o X.env)
      standAt pos.atName
      holding [v, ov] (setAttr ov f v)
      release [v, ov] []) := by intro _; rfl) : PG X (.Attribute o f pos) (gFld C f to) := by
  refine ⟨fun pins s σ H v u Q I r h => ?_⟩
  rw [ha]
  refine wpAny_bind (wpAny_holding (thn (ho.run pins s σ H _ I h) fun ov s1 ⟨x, H1, I1, rx, a, dx, fs, ex, ea, l, q⟩ => ?_))
  subst ex
  obtain rfl : ov = Value.ref a := rx
  refine wpAny_bind (wpAny_standAt (wpAny_bind (wpAny_holding (setattr_ok I1 ea c n l r fun s3 I3 => ?_))))
  exact wpAny_release ⟨σ, _, I3, q⟩
/-- the reading of a comprehension over enumerate(..) -/
theorem lc_en {b : Bool} {a : Addr} {k : Int} {xs : List V} {g : TG} {tt : TT} {te : TE} {vs : List Nat} {σ : L2.St} {H1 : Hp} {D : Addr} {Qd : Hp → Prop} (Pv : Nat → Hp → Prop) (h0 : Pv 0 (upd H1 D (.lst []))) (hl : ∀ i H, i ≤ xs.length → Pv i H → H a = some (sqO b xs))
    (hs : ∀ i x T H, xs[i]? = some x → Pv i H → H T = none → g (.ref T) (wipe σ vs) (upd H T (.tup [.int (k + i), x])) fun σ2 H2 => wipe σ2 vs = wipe σ vs ∧ tt σ2 H2 fun c H3 =>
      if c = true then te σ2 H3 fun y H4 => ∃ acc, H4 D = some (.lst acc) ∧ acc.length < sizeLine ∧ Pv (i + 1) (upd H4 D (.lst (acc ++ [y]))) else Pv (i + 1) H3) (hd : ∀ H, Pv xs.length H → Qd H) :
    ∃ W : Nat → Nat → Hp → Prop, (∃ m, W 0 m (upd H1 D (.lst []))) ∧ ∀ i m H, W i m H →
      ((ItE b a k).stop i H ∧ Qd H) ∨ ((ItE b a k).go i H ∧ ∃ Nx : Hp → Prop, (∀ H', Nx H' → ∃ m', m' < m ∧ W (i + 1) m' H') ∧ ∀ x H', (ItE b a k).yld i H x H' → g x (wipe σ vs) H' fun σ2 H2 => wipe σ2 vs = wipe σ vs ∧ tt σ2 H2 fun c H3 =>
        if c = true then te σ2 H3 fun y H4 => ∃ acc, H4 D = some (.lst acc) ∧ acc.length < sizeLine ∧ Nx (upd H4 D (.lst (acc ++ [y]))) else Nx H3) := by
  refine ⟨fun i m H => m = xs.length - i ∧ i ≤ xs.length ∧ Pv i H, ⟨xs.length, rfl, Nat.zero_le _, h0⟩, ?_⟩
  rintro i m G ⟨rfl, hi, pv⟩
  have q := hl i G hi pv
  by_cases hlt : i < xs.length
  · refine .inr ⟨⟨xs, xs[i], q, by simp [hlt]⟩, Pv (i + 1), fun H' p2 => ⟨xs.length - (i + 1), by omega, rfl, hlt, p2⟩, fun x H' y => ?_⟩
    obtain ⟨T, v, e1, e2, e3, e4⟩ := y
    subst e1 e3
    exact hs i v T G (e4 xs q) pv e2
  · have z : i = xs.length := by omega
    subst z
    exact .inl ⟨⟨xs, q, rfl⟩, hd G pv⟩
end Wy
set_option Elab.async false
set_option linter.all false
set_option maxRecDepth 100000
set_option maxHeartbeats 0
namespace PySem.W
open PySem PySem.Spec PySem.Calls PyProof.Rows
section
variable {prog : Program} {w : World} {M : Model} {A : Around} {E : Value → Shared → Prop} {s : Shared} {K : Frag} {x C f : Addr} {ox : Obj} {od : Option Obj}
/-- object.__ne__ found for an instance: its own __eq__ is asked -/
theorem wy_bound {name : Str} {id : String} {args : List Value} {Q : Option Value → Shared → Prop} (X : K.In s.heap) (I : InstAt s.heap x ox C od) (hs : findIn K (.ref C) name = some (some (.builtin id)))
    (hb : ∀ self, bindSpecial (.builtin id) self = pure (.builtin id, [self])) (h : wpAny M A (call (.builtin id) (.ref x :: args)) (fun v => Q (some v)) E s) : wpAny M A (callSpecialIfBound? (.ref x) name args) Q E s := by
  simp only [callSpecialIfBound?, bindSpecialIfBound?]
  refine wpAny_holding (wpAny_bind (wpAny_bind (wpAny_bind (I.type.here ((looks_findIn X hs).here ?_)))))
  refine wpAny_bind (wpAny_askSetting (wpAny_ite ?_))
  have last : wpAny M A (call (.builtin id) ([.ref x] ++ args) >>= fun v => pure (some v)) Q E s := wpAny_bind (wpAny_mono h (fun v s1 h1 => wpAny_pure h1) fun _ _ y => y)
  split
  · exact wpAny_bind ((Looks.of_pure (hb _)).here (wpAny_pure (by exact last)))
  · exact wpAny_tryCatch (wpAny_bind ((Looks.of_pure (hb _)).here (wpAny_pure (by exact last))))
open Builtin in
theorem wy_objNe {b : Value} {Q : Value → Shared → Prop} (hu : A.in1.units < cLine) (X : K.In s.heap) (I : InstAt s.heap x ox C od) (hm : mroIn K C (.type "object") = some true) (he : findIn K (.ref C) "__eq__" = some (some (.ref f))) (hf : isFn K (.ref f) = true)
    (h : wpAny (model prog w) A.in1 (call (.ref f) [.ref x, b]) (fun v s1 => ∃ c, v = .bool c ∧ Q (.bool (!c)) s1) E s) : wpAny (model prog w) A (call (.builtin "object.__ne__") [.ref x, b]) Q E s := by
  refine wpAny_call (codeAny_call_builtin (by decide +kernel) PySem.F.cmpEntry_ne (check_slot (i := "object.__ne__") (owner := "object") (n := "__ne__") (by decide +kernel) (by decide +kernel) (I.type.andThen (looks_mroIn X hm)) (PySem.F.cmpArgs_ne _ _) ?_))
  unfold Builtin.«object.__ne__»
  refine wpAny_bind (m := slotArgs "__ne__" 1 _) (wpAny_pure ?_)
  refine wpAny_bind (m := cRoomFor _ _) (wpAny_cRoomFor hu ?_)
  refine wpAny_bind (m := callSpecialIfBound? (.ref x) (Str.ofString "__eq__") _) (ifBound_K X I he hf (wpAny_mono h (fun r s1 hr => ?_) fun _ _ y => y))
  obtain ⟨c, ec, q⟩ := hr
  subst ec
  exact wpAny_bind (wpAny_truthy_bool (wpAny_pure q))
theorem wy_cmpNe {b tb : Value} {Q : Value → Shared → Prop} (hu : A.units < cLine) (hu1 : A.in1.units < cLine) (X : K.In s.heap) (I : InstAt s.heap x ox C od) (hb : Looks (model prog w) s.heap (typeOf b) tb) (hn : notFirst K C tb = true)
    (hs : findIn K (.ref C) "__ne__" = some (some (.builtin "object.__ne__"))) (hbd : ∀ self, bindSpecial (.builtin "object.__ne__") self = pure (.builtin "object.__ne__", [self])) (hm : mroIn K C (.type "object") = some true) (he : findIn K (.ref C) "__eq__" = some (some (.ref f))) (hf : isFn K (.ref f) = true)
    (h : wpAny (model prog w) A.in1 (call (.ref f) [.ref x, b]) (fun v s1 => ∃ c, v = .bool c ∧ Q (.bool (!c)) s1) E s) : wpAny (model prog w) A (richCompare .NotEq (.ref x) b) Q E s := by
  have one : wpAny (model prog w) A (tryCompare (.ref x) "__ne__" b) (fun r s1 => ∃ v, r = some v ∧ Q v s1) E s := by
    unfold tryCompare
    refine wpAny_bind (wy_bound X I hs hbd (wy_objNe hu1 X I hm he hf (wpAny_mono h (fun v s1 hv => ?_) fun _ _ y => y)))
    obtain ⟨c, ec, q⟩ := hv
    exact ⟨c, ec, wpAny_pure ⟨_, rfl, q⟩⟩
  unfold richCompare
  simp only [oneThing_ref]
  refine wpAny_holding (wpAny_bind (wpAny_cRoomFor hu ?_))
  refine wpAny_bind (I.type.here (wpAny_bind (hb.here ?_)))
  have e3 : (cmpInfo .NotEq).2.1 = ("__ne__" : Str) := rfl
  split
  · rename_i q
    have e : subIn K tb (.ref C) = some false := by
      rcases Bool.or_eq_true_iff.mp hn with e | e
      · rw [beq_iff_eq.mp e] at q
        simp at q
      · exact beq_iff_eq.mp e
    refine wpAny_bind ((looks_subIn X e).here ?_)
    simp only [Bool.false_eq_true, if_false]
    refine wpAny_bind (wpAny_mono one (fun r s1 z => ?_) fun _ _ y => y)
    obtain ⟨v, ev, hq⟩ := z
    subst ev
    exact wpAny_pure hq
  · refine wpAny_bind (wpAny_pure ?_)
    simp only [Bool.false_eq_true, if_false]
    refine wpAny_bind (wpAny_mono one (fun r s1 z => ?_) fun _ _ y => y)
    obtain ⟨v, ev, hq⟩ := z
    subst ev
    exact wpAny_pure hq
end
end PySem.W
namespace PySem.AutoSeq1
open MeetsSeq MeetsSeq2 MeetsSeq3 SeqRoads2
theorem wy_extend (l : Addr) (xs : Array Value) (n : Nat) (b : Addr) (ys : Array Value) (n2 : Nat) (dct : Option Addr) (sl : Array (Option Value)) (h0 : ¬(!xs.isEmpty && Builtin.List.listTooLong (xs.size + ys.size)) = true) (h1 : xs.size ≤ sizeLine) (h2 : xs.size + ys.size ≤ sizeLine + 1) :
    Meets (Builtin.«list.extend» ⟨[.ref l, .ref b], []⟩) (fun _ R s => s.heap.get? l = some { cls := .type "list", dict := none, data := .seq xs n, slots := #[] } ∧ s.heap.get? b = some { cls := .type "tuple", dict := dct, data := .seq ys n2, slots := sl } ∧
      R (.ok (.ret Value.none)) { s with heap := s.heap.update l (Obj.mapSeq fun x => x ++ ys), toks := s.toks }) :=
  .of_wp fun prog w A R s hyp => by
    obtain ⟨g0, g1, g2, g3, g4⟩ := s
    obtain ⟨hl, hb, hyp⟩ := hyp
    have f1 := idx_int
    have f2 := sub_tuple_tuple
    have f3 := sub_list_list
    have f4 := sub_tuple_list
    have f5 := sub_list_tuple
    have h3 : (xs ++ ys).size ≤ sizeLine + 1 := by
      rw [Array.size_append]
      exact h2
    wp_walk using (wpAny_updateSeq hl rfl (hz := h1) (_hz' := h3)), wpAny_loadPart' hl, wpAny_loadPart' hb
    exact ⟨_, rfl, hyp⟩
end PySem.AutoSeq1
namespace Wy
open PySem PySem.Spec PyProof.Rows L2 StX

structure NeC (K : PySem.W.Frag) (C : Addr) : Prop where
  ne : PySem.W.findIn K (.ref C) "__ne__" = some (some (.builtin "object.__ne__"))
  ob : PySem.W.mroIn K C (.type "object") = some true
  nf : PySem.W.notFirst K C (.ref C) = true
def rNeO (C : Addr) (sp : Sp) (E : XK) : R2 := fun x y H Q => ∃ a dx fs b dy gs, x = .ref a ∧ y = .ref b ∧ H a = some (.ins C dx fs) ∧ H b = some (.ins C dy gs) ∧ sp [x, y] H (fun z H' => ∃ c : Bool, z = .bl c ∧ Q (.bl (!c)) H') E
section
variable {X : Cx} {k : Nat} {sp : Sp} {E : XK} {C m : Str}
theorem oNeO (G : MFn X.prog X.w X.K X.mg X.base k C "__eq__" sp) (N : NeC X.K (He.ga X.K C)) (hr : Room (k + 1) X.A) (hx : Passes (L2.CX X.prog X.w) X E) : OpR X (compareOp .NotEq) (rNeO (He.ga X.K C) sp E) := by
  intro pins s σ H x y v u Q I rx ry h
  obtain ⟨a, dx, fs, b, dy, gs, rfl, rfl, ea, eb, q⟩ := h
  cases (show v = Value.ref a from rx)
  cases (show u = Value.ref b from ry)
  obtain ⟨mA, O, _⟩ := ins_get I.hok ea
  obtain ⟨od, J, _⟩ := O.look
  obtain ⟨mB, O', _⟩ := ins_get I.hok eb
  obtain ⟨od', J', _⟩ := O'.look
  obtain ⟨h1, h2⟩ := Meth.sub G.me
  show wpAny _ _ (richCompare .NotEq (.ref a) (.ref b)) _ _ _
  refine PySem.W.wy_cmpNe (tb := .ref (He.ga X.K C)) hr.units0 hr.in1.units0 I.kIn J J'.type N.nf N.ne PySem.F.cmp_object.ne.bind N.ob h1 h2 ?_
  refine wpAny_mono (runAt (us := [.ref a, .ref b]) (ws := [.ref a, .ref b]) G.run hr.in1 I.env0.in1 hx I (.cons rfl (.cons rfl .nil)) q) (fun v s' z => ?_) fun _ _ x => x
  obtain ⟨z', H', I', rz, c, ec, qz⟩ := z
  subst ec
  cases (show v = Value.bool c from rz)
  exact ⟨c, rfl, .bl (!c), H', I', rfl, qz⟩
def rNeNil : R2 := fun x y H Q => ∃ a b xs, x = .ref a ∧ y = .ref b ∧ H a = some (.lst xs) ∧ H b = some (.lst []) ∧ Q (.bl (!xs.isEmpty)) H
theorem oNeNil (hu : X.A.units < cLine) : OpR X (compareOp .NotEq) rNeNil := by
  intro pins s σ H x y v u Q I rx ry h
  obtain ⟨a, b, xs, rfl, rfl, ea, eb, q⟩ := h
  cases (show v = Value.ref a from rx)
  cases (show u = Value.ref b from ry)
  obtain ⟨its, r1, p1, _⟩ := I.list (SqL.of (K := X.K) ea)
  obtain ⟨its2, r2, p2, _⟩ := I.list (SqL.of (K := X.K) eb)
  cases r2
  show wpAny _ _ (richCompare .NotEq (.ref a) (.ref b)) _ _ _
  cases r1 with
  | nil => exact SeqAt.RcNeAt.lists (e := fun _ => true) p1.isList p2.isList rfl hu (fun j h1 _ => absurd h1 (Nat.not_lt_zero _)) X.prog X.w X.xe _ ⟨.bl false, H, I, rfl, q⟩
  | cons r rr => exact SeqAt.RcNeAt.lists_lengths p1.isList p2.isList (by simp) hu X.prog X.w X.xe _ ⟨.bl true, H, I, rfl, q⟩
end

def tMakeV (i : Nat) (C : Addr) (sp : Sp) (E : XK) (t : TA) : TE := fun σ H Q => σ[i]? = some (some (.ref C)) ∧ tMakeR C sp E t σ H Q
section
variable {X : Cx} {k i : Nat} {sp : Sp} {E : XK} {C m x : Str} {e o : Expr} {es : List Expr} {t : TA} {ta te : TE} {p pos apos : Pos}
theorem eMakeV (G : IFn X.prog X.w X.K X.mg X.base k C sp) (hr : Room (k + 1) X.A) (hx : Passes (L2.CX X.prog X.w) X E) (hN : X.N[i]? = some x) (hv : Vis X.env.scope x) (ha : PA X (e :: es) t)
    (hd : (x == ("__debug__" : Str)) = false := by decide) (hcd : (x == ("__classdict__" : Str)) = false := by decide)
    (he : starEach (e :: es) X.env = (false, eval e X.env) :: starEach es X.env := by rfl) (hpl : (backTo pos (starEach es X.env)).any (·.1) = false := by rfl) : PE X (.Call (.Name x p) (e :: es) [] pos) (tMakeV i (He.ga X.K C) sp E t) := by
  refine ⟨fun pins s σ H Q I h => ?_⟩
  obtain ⟨hs, h⟩ := h
  refine wpAny_Call_Name_kw (thn ((pe_var (pos := p) (i := i) hN hv hd hcd).run pins s σ H (fun v H1 => v = .ref (He.ga X.K C) ∧ H1 = H) I ⟨.ref _, hs, rfl, rfl⟩) fun u s1 ⟨v, H1, I1, r1, ev, eH⟩ => ?_)
  subst ev
  rw [eH] at I1
  cases r1
  refine PySem.W.callWith_K (h₀ := X.base) I.ok.mod.kin G.mkr.kp (thn (ha.run pos pins s1 σ H _ I1 h) fun us s2 ⟨vs, H2, I2, r, q⟩ => ⟨I2.kIn, ?_⟩) he hpl
  exact run_makeR G.mkr G.run hr hx I2 r q

def tMStar (C : Addr) (m : Str) (g : Addr) (sp : Sp) (E : XK) (ta te : TE) : TE := fun σ H Q => ta σ H fun x H1 => ∃ a dx fs, x = .ref a ∧ H1 a = some (.ins C dx fs) ∧ fs.lookup m = none ∧
  ∀ q, H1 q = none → te σ (upd H1 q (.met g a)) fun y H2 => ∃ b sq vs, y = .ref b ∧ H2 b = some (sqO sq vs) ∧ H2 q = some (.met g a) ∧ sp (.ref a :: vs) H2 Q E
theorem eMStar {sp_ : Pos} (G : MFn X.prog X.w X.K X.mg X.base k C m sp) (c : Cls X.K (He.ga X.K C)) (b : BMeth X.K (He.ga X.K C) m (He.ma X.K (He.ga X.K C) m)) (hr : Room k X.A) (hx : Passes (L2.CX X.prog X.w) X E) (he : PE X o ta) (ha : PE X e te)
    (hb : attributeBase o m X.env (eval o X.env) = eval o X.env := by rfl) : PE X (.Call (.Attribute o m apos) [.Starred e sp_] [] pos) (tMStar (He.ga X.K C) m (He.ma X.K (He.ga X.K C) m) sp E ta te) := by
  refine ⟨fun pins s σ H Q I h => ?_⟩
  refine starcall_of hb (thn (he.run pins s σ H _ I h) fun u s1 ⟨x, H1, I1, rx, a, dx, fs, ex, ea, l, q⟩ => ?_)
  subst ex
  obtain rfl : u = Value.ref a := rx
  refine getbound_ok I1 ea c b l fun q1 s2 hq1 I2 => ?_
  refine PySem.W.ks_call (P := PySem.W.MethP X.K q1 (He.ma X.K (He.ga X.K C) m) (.ref a)) rfl (PySem.W.keeps_M b.fi) (PySem.W.ks_lone ?_)
  refine thn (ha.run pins s2 σ _ _ I2 (q q1 hq1)) fun v s3 ⟨y, H2, I3, ry, t, sq, vs, ey, ht, hm, hsp⟩ => ?_
  subst ey
  obtain rfl : v = Value.ref t := ry
  have sq' : SqT X.K H2 t vs ∨ SqL X.K H2 t vs := by
    cases sq with
    | true => exact .inl (SqT.of ht)
    | false => exact .inr (SqL.of ht)
  refine star_any I3 sq' fun us s4 I4 rv => ⟨met_P I4 hm, ?_⟩
  exact wpAny_call (PySem.W.method_call (met_P I4 hm).1 (run_fnR (us := Value.ref a :: us) (vs := V.ref a :: vs) G.run hr hx I4 (.cons rfl rv) hsp))
end

section
variable {X : Cx}
def rExtT : V → List V → Hp → VK → Prop := fun x vs H Q => ∃ l b xs zs, x = .ref l ∧ vs = [.ref b] ∧ H l = some (.lst xs) ∧ H b = some (.tup zs) ∧ xs.length + zs.length ≤ sizeLine ∧ Q .non (upd H l (.lst (xs ++ zs)))
theorem mExtT : MtM X "list.extend" rExtT := by
  intro pins s σ H x vs v us Q I rx rv h
  obtain ⟨l, b, xs, zs, rfl, rfl, hH, hB, hz, q⟩ := h
  cases (show v = Value.ref l from rx)
  obtain ⟨u, rfl, ru⟩ := rv.one
  cases (show u = Value.ref b from ru)
  obtain ⟨_, its, n, r, hl, e⟩ := I.lstM hH
  obtain ⟨its2, r2, ⟨o2, e2, c2, n2, d2⟩, _⟩ := I.tuple (SqT.of (K := X.K) hB)
  have hl2 := r2.length
  have hsz : its.toArray.size + its2.toArray.size ≤ sizeLine := by rw [List.size_toArray, List.size_toArray]; omega
  have hlong : ¬ (!its.toArray.isEmpty && Builtin.List.listTooLong (its.toArray.size + its2.toArray.size)) = true := by
    rw [notLongL hsz, Bool.and_false]
    exact Bool.false_ne_true
  obtain ⟨cc, dd, dt, sl⟩ := o2
  dsimp only at c2 d2
  subst c2 d2
  refine call_meets F.slot_list_extend ⟨_, e, rfl⟩ F.entry_list_extend (F.args_list_extend_2 _ _) (AutoSeq1.wy_extend l its.toArray n b its2.toArray n2 dd sl hlong (by rw [List.size_toArray]; omega) (by omega)) ⟨e, e2, ?_⟩
  refine ⟨.non, _, I.lset (its' := its ++ its2) hH e (by simp) (r.append r2) ?_, rfl, q⟩
  rw [List.length_append]
  omega
/-- z * 0, z * 1 -/
def rMulS : R2 := fun x y H Q => ∃ z n, x = .str z ∧ y = .int n ∧ (n = 0 ∨ n = 1) ∧ Q (.str (if n = 0 then Str.empty else z)) H
theorem oMulS : OpR X (binaryOp .Mult) rMulS := by
  intro pins s σ H x y v u Q I rx ry h
  obtain ⟨z, n, rfl, rfl, h01, q⟩ := h
  obtain ⟨t, rfl⟩ := rx
  obtain ⟨t', rfl⟩ := ry
  rcases h01 with rfl | rfl
  · rw [if_pos rfl] at q
    exact PySem.P.mul_str_none (by decide) (by decide) ⟨.str Str.empty, H, I.tok _, ⟨_, rfl⟩, q⟩
  · rw [if_neg (by decide)] at q
    exact PySem.P.mul_str (by decide) (fun _ h => by simp at h) (fun _ h => by simp at h) (by simp only [Int.lt_irrefl, if_false]; exact ⟨.str z, H, I, ⟨_, rfl⟩, q⟩)
end

theorem eKGet {X : Cx} {o e : Expr} {ty : TE} {apos cpos : Pos} {d : Addr} {es : Array DictEntry} {n : Nat} (D : KDict X.K X.w d es n) (ho : PE X o (tC (.ref d))) (he : PE X e ty) (m : M1 X o "get" apos e cpos) :
    PE X (.Call (.Attribute o "get" apos) [e] [] cpos) (fun σ H Q => ty σ H fun y H2 => ∃ z u v, y = .str z ∧ PySem.W.nsIn X.K d z = some (some u) ∧ RelV v u ∧ Q v H2) := by
  refine ⟨fun pins s σ H Q I h => ?_⟩
  refine wpAny_Call_method m.base m.few m.line PySem.F.plainAttrs_dict PySem.F.slot_dict_get PySem.F.type_dict_get (thn (ho.run pins s σ H (fun v H1 => v = .ref d ∧ H1 = H) I ⟨rfl, rfl⟩) fun u s1 ⟨x, H1, I1, rx, ex, eH⟩ => ?_)
  subst ex eH
  obtain rfl : u = Value.ref d := rx
  refine ⟨kd_type D I1, fun b q => ?_, ?_⟩
  · cases q
    exact ⟨_, I1.kIn _ _ D.at_, rfl⟩
  · rw [m.trees]
    refine Calls.callWith_builtin rfl (Calls.evalArgs_plain (Calls.spliced_cons (thn (he.run pins s1 σ _ _ I1 h) fun iv s2 ⟨y, H2, I2, ry, z, u0, v, ey, hn, rv, q2⟩ => Calls.spliced_nil ?_)))
    subst ey
    obtain ⟨t, rfl⟩ := ry
    have mo := PySem.W.mapOf_K (prog := X.prog) (w := X.w) I2.kIn D.at_ D.lit
    refine PySem.call_meetsIn PySem.F.slot_dict_get mo.typeIs PySem.F.entry_dict_get (PySem.F.args_dict_get_2 _ _) (PySem.meets_dict_get (strKind X.prog X.w) d (strKind_is X.prog X.w z t) D.low) ⟨_, mo, ?_⟩
    rw [PySem.W.find_K D.at_ hn]
    exact ⟨v, H2, I2.tok _, rv, q2⟩
end Wy
set_option Elab.async false
set_option linter.all false
set_option maxRecDepth 100000
set_option maxHeartbeats 0
namespace Wy
open PySem PySem.Spec PyProof.Rows L2 StX
section
def ItZ (K : PySem.W.Frag) (a b : Addr) : It :=
  ⟨fun i H => ∃ xs ys x y, SqT K H a xs ∧ H b = some (.lst ys) ∧ xs[i]? = some x ∧ ys[i]? = some y,
   fun i H v H' => ∃ T x y, v = .ref T ∧ H T = none ∧ H' = upd H T (.tup [x, y]) ∧ (∀ xs, SqT K H a xs → xs[i]? = some x) ∧ ∀ ys, H b = some (.lst ys) → ys[i]? = some y,
   fun i H => ∃ xs ys, SqT K H a xs ∧ H b = some (.lst ys) ∧ xs.length = i ∧ ys.length = i⟩
theorem turnZ {P : Program} {w : World} {K : PySem.W.Frag} {elts : List Expr} {kk : Nat} {tpos : Pos} {a b z TI TO i1 i2 : Addr} (S : ZipSep2 z TI TO i1 i2 [i1, a] [i2, b]) (na : a ≠ i1) (nb : b ≠ i2) :
    Turn P w K (.Tuple elts kk tpos) (ItZ K a b) [z, TI, TO, i1, i2] z (fun i h => IsZip h z TI TO .none ∧ IsTupOf2 h TI (.ref i1) (.ref i2) ∧ (∃ x y, IsTupOf2 h TO x y) ∧ h.IsTupleIter i1 a i ∧ h.IsListIter i2 b i) where
  mem := by simp
  obj := fun i h st c hc => by
    obtain ⟨hz, hTI, ⟨x, y, hTO⟩, h1, h2⟩ := st
    have q : c = z ∨ c = TI ∨ c = TO ∨ c = i1 ∨ c = i2 := by simpa using hc
    rcases q with q | q | q | q | q
    · subst q
      exact ⟨_, hz, fun v y => nomatch y⟩
    · subst q
      exact ⟨_, hTI, fun v y => nomatch y⟩
    · subst q
      exact ⟨_, hTO, fun v y => nomatch y⟩
    · exact q ▸ itO_obj (b := true) h1
    · exact q ▸ itO_obj (b := false) h2
  keep := fun i h h' st kp => by
    obtain ⟨hz, hTI, ⟨x, y, hTO⟩, h1, h2⟩ := st
    exact ⟨kp z (by simp) _ hz, kp TI (by simp) _ hTI, ⟨x, y, kp TO (by simp) _ hTO⟩, itO_at (b := true) h1 fun o q => kp i1 (by simp) o q, itO_at (b := false) h2 fun o q => kp i2 (by simp) o q⟩
  item := by
    intro X hP hw hK hc i pins s σ H E I hf st hg
    subst hP hw hK
    obtain ⟨hz, hTI, ⟨x0, y0, hTO⟩, h1, h2⟩ := st
    obtain ⟨xs, ys, x, y, qa, qb, hx, hy⟩ := hg
    obtain ⟨ua, ra, pa, _⟩ := I.tuple qa
    obtain ⟨ub, rb, pb, _⟩ := I.list (SqL.of (K := X.K) qb)
    obtain ⟨u, hu, ru⟩ := ra.get hx
    obtain ⟨v, hv, rv⟩ := rb.get hy
    have zl : z < s.heap.objs.size := Heap.lt_size hz
    have la : i < ua.toArray.size := by
      have := (List.getElem?_eq_some_iff.mp hu).1
      simpa using this
    have lb : i < ub.toArray.size := by
      have := (List.getElem?_eq_some_iff.mp hv).1
      simpa using this
    refine wpAny_pyNext_zipD2_item S (Draws.tuple (A := X.A.in1) (I.ok.hd hc) i1 a na ua.toArray) (Draws.list (A := X.A.in1) (I.ok.hd hc) i2 b nb ub.toArray) hz hTI hTO ⟨h1, pa⟩ ⟨h2, pb.isList⟩ la lb fun x1 x2 g tk e1 e2 nz nO n1 n2 nT nsz nk => ?_
    have ex1 : x1 = u := by
      have w1 : ua.toArray[i]? = some u := by simpa using hu
      exact Option.some.inj (e1.symm.trans w1)
    have ex2 : x2 = v := by
      have w2 : ub.toArray[i]? = some v := by simpa using hv
      exact Option.some.inj (e2.symm.trans w2)
    subst ex1 ex2
    refine ⟨_, rfl, wpAny_letOwnedTupleGo_zip (s := { s with heap := g, toks := tk }) nz fun g2 z2 sb => ?_⟩
    have gT : g2.get? s.heap.objs.size = some { cls := .type "tuple", data := .seq #[x1, x2] } := (sb.2 _ (Nat.ne_of_gt zl)).trans nT
    have new : ObjOk X.prog X.w (upd H s.heap.objs.size (.tup [x, y])) g2 s.heap.objs.size (.tup [x, y]) :=
      ⟨by show 2 ≤ sizeLine; decide, [x1, x2], .cons ru (.cons rv .nil), ⟨_, gT, rfl, _, rfl⟩⟩
    have J : Inv X pins σ (upd H s.heap.objs.size (.tup [x, y])) { s with heap := g2, toks := tk } :=
      I.turnedNew (ch := [z, TI, TO, i1, i2]) (fun c o hb q => (sb.2 c (fun e => hb (by simp [e]))).trans (nk c o (fun e => hb (by simp [e])) (fun e => hb (by simp [e])) (fun e => hb (by simp [e])) (fun e => hb (by simp [e])) q)) hf (Nat.le_refl _) new
    refine ⟨.ref s.heap.objs.size, _, J, rfl, ⟨_, x, y, rfl, I.hok.fresh (Nat.le_refl _), rfl, fun l hl => by rw [I.tuple_inj hl qa]; exact hx, fun l hl => ?_⟩, ⟨z2, ?_, ⟨x1, x2, ?_⟩, ?_, ?_⟩, fun c hcm => ?_⟩
    · have e : l = ys := by
        have q := hl.symm.trans qb
        cases q
        rfl
      rw [e]
      exact hy
    · exact (sb.2 _ S.TIz).trans (nk _ _ S.TIz S.TITO S.TIi1 S.TIi2 hTI)
    · exact (sb.2 _ S.TOz).trans nO
    · exact itO_at (b := true) n1.1 fun o q => (sb.2 i1 (Ne.symm S.zi1)).trans q
    · exact itO_at (b := false) n2.1 fun o q => (sb.2 i2 (Ne.symm S.zi2)).trans q
    · have lt : c < s.heap.objs.size := by
        have q : c = z ∨ c = TI ∨ c = TO ∨ c = i1 ∨ c = i2 := by simpa using hcm
        rcases q with q | q | q | q | q
        · exact q ▸ zl
        · exact q ▸ Heap.lt_size hTI
        · exact q ▸ Heap.lt_size hTO
        · obtain ⟨_, e, _⟩ := h1; exact q ▸ Heap.lt_size e
        · obtain ⟨_, e, _⟩ := h2; exact q ▸ Heap.lt_size e
      rw [upd_ne (Nat.ne_of_lt lt)]
      exact (hf c hcm).1
  done := by
    intro X hP hw hK hc i pins s σ H E I hf st hg
    subst hP hw hK
    obtain ⟨hz, hTI, ⟨x0, y0, hTO⟩, h1, h2⟩ := st
    obtain ⟨xs, ys, qa, qb, l1, l2⟩ := hg
    obtain ⟨ua, ra, pa, _⟩ := I.tuple qa
    obtain ⟨ub, rb, pb, _⟩ := I.list (SqL.of (K := X.K) qb)
    have e1 : i = ua.toArray.size := by
      have := ra.length
      simp
      omega
    have e2 : i = ub.toArray.size := by
      have := rb.length
      simp
      omega
    exact wpAny_pyNext_zipD2_end S (Draws.tuple (A := X.A.in1) (I.ok.hd hc) i1 a na ua.toArray) (Draws.list (A := X.A.in1) (I.ok.hd hc) i2 b nb ub.toArray) hz hTI hTO ⟨h1, pa⟩ ⟨h2, pb.isList⟩ (Nat.le_of_eq e1) (Nat.le_of_eq e2) (.inl e1) fun g tk nk => ⟨rfl, I.turnedL (ch := [z, TI, TO, i1, i2]) (fun c o hb q =>
      nk c o (fun e => hb (by simp [e])) (fun e => hb (by simp [e])) (fun e => hb (by simp [e])) (fun e => hb (by simp [e])) q) hf⟩
  self := fun A i s Q E st h => wpAny_pyIter_zip st.1 h
theorem zsep (n a b : Nat) (la : a < n) (lb : b < n) : ZipSep2 (n + 4) (n + 2) (n + 3) n (n + 1) [n, a] [n + 1, b] := by
  have u : ∀ x y : Nat, y < x → ¬ x = y := fun x y h e => by omega
  constructor <;> first | omega | (simp; done) | (simp; exact u _ _ (by omega)) | (simp; exact fun e => u _ _ (by omega) (Eq.symm e))
theorem zmem (n c : Nat) (h : c ∈ [n + 4, n + 2, n + 3, n, n + 1]) : n ≤ c := by
  simp only [List.mem_cons, List.not_mem_nil, or_false] at h
  omega
def iZp (K : PySem.W.Frag) (ta : TA) : TI := fun σ H R => ta σ H fun vs H1 => ∃ a b xs ys, vs = [.ref a, .ref b] ∧ SqT K H1 a xs ∧ H1 b = some (.lst ys) ∧ R (ItZ K a b) H1
theorem piZip {X : Cx} {e e2 : Expr} {ta : TA} {p pos tpos : Pos} {elts : List Expr} {kk : Nat} (hg : Gl X "zip") (hm : X.mg "zip" = none) (ha : PA X [e, e2] ta)
    (hs : starEach [e, e2] X.env = (false, eval e X.env) :: starEach [e2] X.env := by rfl) (hpl : (backTo pos (starEach [e2] X.env)).any (·.1) = false := by rfl) :
    PI X (.Tuple elts kk tpos) (.Call (.Name "zip" p) [e, e2] [] pos) (iZp X.K ta) := by
  refine ⟨fun pins s σ H R I h => ?_⟩
  refine Call_ (ld_blt I hg hm PyProof.Rows.boot_zip (PyProof.Rows.callWith_type1 (thn (ha.run pos pins s σ H _ I h) fun us s1 ⟨vs, H1, I1, r1, a, b, xs, ys, ev, qa, qb, q⟩ => ?_) hs hpl))
  subst ev
  cases r1 with
  | cons r rr =>
    cases rr with
    | cons r' rr =>
      cases rr
      cases r
      cases r'
      obtain ⟨ua, ra, pa, _⟩ := I1.tuple qa
      obtain ⟨ub, rb, pb, _⟩ := I1.list (SqL.of (K := X.K) qb)
      have la : a < s1.heap.objs.size := by
        obtain ⟨o, e, _⟩ := id pa
        exact Heap.lt_size e
      have lb : b < s1.heap.objs.size := pb.lt
      refine zip_begins2 (begins_tuple a ua.toArray) (begins_list b ub.toArray) pa pb.isList fun g hz hTI hTO o1 o2 _ hk => wpAny_pyIter_zip hz ?_
      have J : Inv X pins σ H1 { s1 with heap := g } := I1.kept (t' := s1.toks) hk
      generalize hn : s1.heap.objs.size = n at la lb hz hTI hTO o1 o2 ⊢
      have S := zsep n a b la lb
      refine ⟨n + 4, [n + 4, n + 2, n + 3, n, n + 1], _, _, H1, rfl, J,
        turnZ S (Nat.ne_of_lt la) (Nat.ne_of_lt (Nat.lt_succ_of_lt lb)), ⟨hz, hTI, ⟨_, _, hTO⟩, ⟨_, o1, rfl, rfl⟩, ⟨_, o2, rfl, rfl⟩⟩, fun c hcm => ?_, q⟩
      have z : s1.heap.objs.size ≤ c := by
        rw [hn]
        exact zmem n c hcm
      exact I1.fpOk z (I1.hok.fresh z)
/-- for x, y in zip(..) of one length -/
theorem for_zp {K : PySem.W.Frag} {a b : Addr} {xs ys : List V} {g : TG} {tb : TS} {D : Ends} {σ : L2.St} {H : Hp} (hl : xs.length = ys.length) (Pv : Nat → L2.St → Hp → Prop) (h0 : Pv 0 σ H) (hq : ∀ i σ H, i ≤ xs.length → Pv i σ H → SqT K H a xs ∧ H b = some (.lst ys))
    (hs : ∀ i x y T σ H, xs[i]? = some x → ys[i]? = some y → Pv i σ H → H T = none → g (.ref T) σ (upd H T (.tup [x, y])) fun σ2 H2 => tb { D with nx := Pv (i + 1), ct := Pv (i + 1), bk := D.nx } σ2 H2) (hd : ∀ σ H, Pv xs.length σ H → D.nx σ H) :
    ∃ W : Nat → Nat → L2.St → Hp → Prop, (∃ m, W 0 m σ H) ∧ ∀ i m σ H, W i m σ H →
      ((ItZ K a b).stop i H ∧ D.nx σ H) ∨ ((ItZ K a b).go i H ∧ ∃ N : L2.St → Hp → Prop, (∀ σ' H', N σ' H' → ∃ m', m' < m ∧ W (i + 1) m' σ' H') ∧ ∀ x H', (ItZ K a b).yld i H x H' → g x σ H' fun σ2 H2 => tb { D with nx := N, ct := N, bk := D.nx } σ2 H2) := by
  refine ⟨fun i m σ H => m = xs.length - i ∧ i ≤ xs.length ∧ Pv i σ H, ⟨xs.length, rfl, Nat.zero_le _, h0⟩, ?_⟩
  rintro i m τ G ⟨rfl, hi, pv⟩
  obtain ⟨qa, qb⟩ := hq i τ G hi pv
  by_cases hlt : i < xs.length
  · have lt2 : i < ys.length := by omega
    refine .inr ⟨⟨xs, ys, xs[i], ys[i], qa, qb, by simp [hlt], by simp [lt2]⟩, Pv (i + 1), fun σ' H' p2 => ⟨xs.length - (i + 1), by omega, rfl, hlt, p2⟩, fun x H' y => ?_⟩
    obtain ⟨T, u, v, e1, e2, e3, e4, e5⟩ := y
    subst e1 e3
    exact hs i u v T τ G (e4 xs qa) (e5 ys qb) pv e2
  · have z : i = xs.length := by omega
    subst z
    exact .inl ⟨⟨xs, ys, qa, qb, rfl, hl.symm⟩, hd τ G pv⟩
end

theorem _root_.L2.FunD.frT {P : Program} {w : World} {K : PySem.W.Frag} {mg : Str → Option Value} {base : Heap} {x qual : Str} {params : Arguments} {body : List Stmt} {scope : Scope} {kws : List (Str × V)} {f : Addr} {fd : FuncData} {N ps : List Str} {k : Nat} {sp : Sp}
    (F : FunD K x qual params body scope [] kws f fd) (S : FnScope N ps scope) (hnc : ∀ y ∈ scope.names, y.2 ≠ .cell) (hps : 1 ≤ ps.length)
    (hb : ∀ (kV doc pm : Value) (an : Option Addr) (cdv ct : Value) (us : List Value), us.length = ps.length → bindArgs (PySem.W.fnOf x qual params body scope .none kV doc pm an cdv ct) ⟨us, []⟩ = pure (ps.zip us)) (len : ∀ vs H Q E, sp vs H Q E → vs.length = ps.length)
    (hbody : ∀ (cdv : Value) (A : Around) (outer : List Env) (s : Shared) (H : Hp) (vs : List V) (Q : VK) (E : XK), Room k (A.deeper (envOfC qual scope s.heap.objs.size f cdv)) → sp vs H Q E →
      ∃ t, PSsT (cxOf (L2.CX P w) P w K mg base N qual scope f cdv A outer s H E) body t ∧ t { nx := fun _ H' => Q .non H', rt := Q } (L2.start N vs) H) : FR P w K mg base (k + 1) f sp := by
  have F2 := F
  obtain ⟨oc, od, dV, kV, doc, pm, an, cdv, ct, osl, e1, lk, hcd, _, _⟩ := F2.ex
  subst e1
  refine FnR.imp (FnOk.raw (fn_ofT lk hcd S hnc hps len fun A outer s H vs Q E hr h => hbody cdv A outer s H vs Q E hr h) (F.bindsN hb) .nil) fun vs H Q E h => ?_
  rw [List.append_nil]
  exact h
/-- a cut, one token out -/
theorem psst_cut {X : Cx} {st : Stmt} {rest : List Stmt} {t u : TS} (h1 : PST X st t) (h2 : PSsT X rest u) : PSsT X (st :: rest) (C8.tCut t u) := by
  intro pins s σ H D h0 I h
  obtain ⟨Mid, hm, hu⟩ := h
  refine wpAny_execs_cons (wpAny_mono (PySem.wpAny_toks (h1 pins s σ H { D with nx := Mid } h0 I hm)) (fun f s1 q => ?_) fun _ _ x => x.2)
  obtain ⟨hk, q⟩ := q
  cases f with
  | next =>
    obtain ⟨σ', H', J, q⟩ := q
    exact h2 pins s1 σ' H' D (Nat.le_trans h0 hk) J (hu σ' H' q)
  | ret v => exact q
  | brk => exact q
  | cont => exact q
section
variable {X : Cx} {a b : Expr} {ta tb : TE} {pos : Pos}
theorem pet_cmp {op : CmpOp} {r : R2} (ho : OpR X (compareOp op) r) (ha : PE X a ta) (hb : PET X b tb) (hm : behindInMarks op b = false) : PET X (.Compare a [op] [b] pos) (tOp r ta tb) := by
  intro pins s σ H Q h0 I h
  refine wpAny_Compare1 (wpAny_mono (PySem.wpAny_toks (ha.run pins s σ H _ I h)) (fun v s1 q => ?_) fun _ _ z => z.2) hm
  obtain ⟨hk, x, H1, I1, r1, q1⟩ := q
  exact thn (hb pins s1 σ H1 _ (Nat.le_trans h0 hk) I1 q1) fun u s2 ⟨y, H2, I2, r2, q2⟩ => ho pins s2 σ H2 x y v u Q I2 r1 r2 q2
theorem pet_and {rest : List Expr} (ha : PET X a ta) (hb : PE X (.BoolOp .And (b :: rest) pos) tb) : PET X (.BoolOp .And (a :: b :: rest) pos) (tAndV ta tb) := by
  intro pins s σ H Q h0 I h
  refine BoolOp_and (thn (ha pins s σ H _ h0 I h) fun v s1 ⟨x, H1, I1, r1, q1⟩ => ?_)
  obtain ⟨c, rfl, q1⟩ := q1
  cases r1
  refine wpAny_truthy_bool ?_
  cases c with
  | true => exact hb.run pins s1 σ H1 Q I1 q1
  | false => exact ⟨.bl false, H1, I1, rfl, q1⟩
end
end Wy
set_option Elab.async false
set_option linter.all false
set_option maxRecDepth 100000
set_option maxHeartbeats 0
namespace Wy
open PySem PySem.Spec PyProof.Rows L2 StX

def propB (K : PySem.W.Frag) (C : Addr) (f : Str) : Bool := He.eqO (PySem.W.findIn K (.ref C) f) (some (some (.ref (He.ma K C f)))) && (He.eqO (PySem.W.specialIn K (.ref (He.ma K C f)) "__get__") (some (some (.builtin "property.__get__"))) &&
  (decide (PySem.W.takesIn K (.ref (He.ma K C f)) = some true) && (match PySem.W.recIn K (He.ma K C f) "property" with
    | some (.ref _ :: _) => true
    | _ => false)))
theorem propB_ok {K : PySem.W.Frag} {C : Addr} {f : Str} (h : propB K C f = true) : PropOf K C f (He.ma K C f) (He5.wf K C "property" f) := by
  obtain ⟨h1, h⟩ := He.ba h
  obtain ⟨h2, h⟩ := He.ba h
  obtain ⟨h3, h4⟩ := He.ba h
  refine ⟨He.eqO_ok h1, He.eqO_ok h2, of_decide_eq_true h3, ?_⟩
  unfold He5.wf
  split at h4
  · rename_i f r e
    exact ⟨r, by rw [e]⟩
  · cases h4
def bmB (K : PySem.W.Frag) (C : Addr) (m : Str) : Bool := He.eqO (PySem.W.specialIn K (.ref (He.ma K C m)) "__get__") (some (some (.builtin "function.__get__"))) && (decide (PySem.W.takesIn K (.ref (He.ma K C m)) = some false) &&
  (decide (PySem.W.copiedNames.contains m = false) && PySem.W.fnIn K (He.ma K C m)))
theorem bmB_ok {K : PySem.W.Frag} {C : Addr} {m : Str} (hm : Meth K C m (He.ma K C m)) (h : bmB K C m = true) : BMeth K C m (He.ma K C m) := by
  obtain ⟨h1, h⟩ := He.ba h
  obtain ⟨h2, h⟩ := He.ba h
  obtain ⟨h3, h4⟩ := He.ba h
  exact ⟨hm, He.eqO_ok h1, of_decide_eq_true h2, of_decide_eq_true h3, h4⟩
def neB (K : PySem.W.Frag) (C : Addr) : Bool := He.eqO (PySem.W.findIn K (.ref C) "__ne__") (some (some (.builtin "object.__ne__"))) && (decide (PySem.W.mroIn K C (.type "object") = some true) && PySem.W.notFirst K C (.ref C))
theorem neB_ok {K : PySem.W.Frag} {C : Addr} (h : neB K C = true) : NeC K C := by
  obtain ⟨h1, h⟩ := He.ba h
  obtain ⟨h2, h3⟩ := He.ba h
  exact ⟨He.eqO_ok h1, of_decide_eq_true h2, h3⟩
def fmtB (K : PySem.W.Frag) (C : Addr) : Bool := He.eqO (PySem.W.findIn K (.ref C) "__format__") (some (some (.builtin "object.__format__"))) && decide (PySem.W.mroIn K C (.type "object") = some true)
theorem fmtB_ok {K : PySem.W.Frag} {C : Addr} (h : fmtB K C = true) : FmtC K C := by
  obtain ⟨h1, h2⟩ := He.ba h
  exact ⟨He.eqO_ok h1, of_decide_eq_true h2⟩
structure InC (K : PySem.W.Frag) (C : Addr) : Prop where
  ha : PySem.W.findIn K (.ref C) "__class__" = some (some (.builtin "object.__class__"))
  hn : PySem.W.specialIn K (.builtin "object.__class__") "__get__" = some (some (.builtin "getset_descriptor.__get__"))
  htk : PySem.W.takesIn K (.builtin "object.__class__") = some true
  hm : PySem.W.mroIn K C (.type "object") = some true
def inB (K : PySem.W.Frag) (C : Addr) : Bool := He.eqO (PySem.W.findIn K (.ref C) "__class__") (some (some (.builtin "object.__class__"))) && (He.eqO (PySem.W.specialIn K (.builtin "object.__class__") "__get__") (some (some (.builtin "getset_descriptor.__get__"))) &&
  (decide (PySem.W.takesIn K (.builtin "object.__class__") = some true) && decide (PySem.W.mroIn K C (.type "object") = some true)))
theorem inB_ok {K : PySem.W.Frag} {C : Addr} (h : inB K C = true) : InC K C := by
  obtain ⟨h1, h⟩ := He.ba h
  obtain ⟨h2, h⟩ := He.ba h
  obtain ⟨h3, h4⟩ := He.ba h
  exact ⟨He.eqO_ok h1, He.eqO_ok h2, of_decide_eq_true h3, of_decide_eq_true h4⟩
def crB (K : PySem.W.Frag) (C : Addr) : Bool := PySem.W.readsIn K C (.type "type") && He.eqO (PySem.W.specialIn K (.ref C) "__getattribute__") (some (some (.builtin "type.__getattribute__")))
theorem crB_ok {K : PySem.W.Frag} {C : Addr} (h : crB K C = true) : ClX.CRead K C (.type "type") := by
  obtain ⟨h1, h2⟩ := He.ba h
  exact ⟨h1, He.eqO_ok h2⟩
def cmB (K : PySem.W.Frag) (C : Addr) (m : Str) : Bool := He5.wrapB K C "classmethod" "classmethod.__get__" m && PySem.W.fnIn K (He5.wf K C "classmethod" m)
theorem cmB_ok {K : PySem.W.Frag} {C : Addr} {m : Str} (h : cmB K C m = true) : ClX.CMet K C (.type "type") m (He.ma K C m) (He5.wf K C "classmethod" m) := by
  obtain ⟨h1, h2⟩ := He.ba h
  exact He5.cmet_of h1 h2
/-- FORMS[x] is a tuple of these texts -/
def formA (K : PySem.W.Frag) (x : Str) : Addr := match PySem.W.nsIn K (He.ga K "FORMS") x with
  | some (some (.ref a)) => a
  | _ => 0
def formB (K : PySem.W.Frag) (x : Str) (ts : List Str) : Bool := He.eqO (PySem.W.nsIn K (He.ga K "FORMS") x) (some (some (.ref (formA K x)))) && (match K.lookup (formA K x) with
  | some ⟨.type c, _, .seq its _, _⟩ => decide (c = "tuple") && (decide (its.size ≤ sizeLine) && He.relAll (ts.map V.str) its.toList)
  | _ => false)
theorem formB_ok {K : PySem.W.Frag} {x : Str} {ts : List Str} (h : formB K x ts = true) : PySem.W.nsIn K (He.ga K "FORMS") x = some (some (.ref (formA K x))) ∧ ∀ H : Hp, SqT K H (formA K x) (ts.map V.str) := by
  obtain ⟨h1, h2⟩ := He.ba h
  refine ⟨He.eqO_ok h1, fun H => ?_⟩
  split at h2
  · rename_i c od its n sl e
    obtain ⟨k1, k⟩ := He.ba h2
    obtain ⟨k2, k3⟩ := He.ba k
    have z := of_decide_eq_true k1
    subst z
    exact .inr ⟨_, its, n, e, rfl, rfl, of_decide_eq_true k2, He.relAll_ok k3⟩
  · cases h2
def sizeB (K : PySem.W.Frag) (x : Str) (i : Int) : Bool := match PySem.W.nsIn K (He.ga K "SIZES") x with
  | some (some (.int j _)) => decide (j = i)
  | _ => false
theorem sizeB_ok {K : PySem.W.Frag} {x : Str} {i : Int} (h : sizeB K x i = true) : ∃ t, PySem.W.nsIn K (He.ga K "SIZES") x = some (some (.int i t)) := by
  unfold sizeB at h
  split at h
  · rename_i j t e
    have z := of_decide_eq_true h
    subst z
    exact ⟨t, e⟩
  · cases h
def xfOk (K : PySem.W.Frag) (x : Str) (fs : List Str) : Bool := xfB K (He.ga K x) && fs.all fun f => decide (PySem.W.findIn K (.ref (He.ga K x)) f = some none)
theorem xfOk_ok {K : PySem.W.Frag} {x : Str} {fs : List Str} (h : xfOk K x fs = true) : XfC K (He.ga K x) ∧ ∀ f ∈ fs, PySem.W.findIn K (.ref (He.ga K x)) f = some none := by
  obtain ⟨h1, h2⟩ := He.ba h
  exact ⟨xfB_ok h1, fun f hf => of_decide_eq_true (List.all_eq_true.mp h2 f hf)⟩
def exm (K : PySem.W.Frag) (x y : Str) (b : Bool) : Bool := decide (PySem.W.exmOne K (.ref (He.ga K x)) (.ref (He.ga K y)) = some b)
def exm3 (K : PySem.W.Frag) (x : Str) : Bool := decide (PySem.W.exmAny K (.ref (He.ga K x)) [.ref (He.ga K "WayroundError"), .ref (He.ga K "UnknownPost"), .ref (He.ga K "UnknownTie")] = some true)
def exL : List (PySem.W.Frag → Bool) := [
  fun K => propB K (He.ga K "Span") "least",
  fun K => propB K (He.ga K "Span") "greatest",
  fun K => propB K (He.ga K "Web") "posts",
  fun K => propB K (He.ga K "Web") "ties",
  fun K => bmB K (He.ga K "Keeper") "make_word",
  fun K => bmB K (He.ga K "Keeper") "tie",
  fun K => bmB K (He.ga K "Keeper") "cut",
  fun K => bmB K (He.ga K "Keeper") "change",
  fun K => bmB K (He.ga K "Keeper") "post",
  fun K => bmB K (He.ga K "Keeper") "several",
  fun K => neB K (He.ga K "Web"),
  fun K => neB K (He.ga K "Keeper"),
  fun K => fmtB K (He.ga K "Span"),
  fun K => inB K (He.ga K "Web"),
  fun K => inB K (He.ga K "Keeper"),
  fun K => crB K (He.ga K "Span"),
  fun K => cmB K (He.ga K "Span") "read",
  fun K => crB K (He.ga K "Web"),
  fun K => cmB K (He.ga K "Web") "read",
  fun K => formB K "tie" ["name", "name", "name", "span"],
  fun K => formB K "show" [],
  fun K => sizeB K "tie" 6,
  fun K => sizeB K "cut" 2,
  fun K => sizeB K "change" 4,
  fun K => sizeB K "post" 2,
  fun K => exB K (He.ga K "InvalidSpan") "ValueError" "ValueError.__init__" "ValueError.__new__" vTl,
  fun K => xfOk K "InvalidSpan" ["low", "high"],
  fun K => He.eqO (PySem.W.findIn K (.ref (He.ga K "InvalidSpan")) "__init__") (some (some (.ref (He.ma K (He.ga K "InvalidSpan") "__init__")))) && decide (PySem.W.typeIn K (.ref (He.ma K (He.ga K "InvalidSpan") "__init__")) = some (.type "function")),
  fun K => exB K (He.ga K "InvalidWeb") "ValueError" "ValueError.__init__" "ValueError.__new__" vTl,
  fun K => xfOk K "InvalidWeb" ["reason", "index"],
  fun K => He.eqO (PySem.W.findIn K (.ref (He.ga K "InvalidWeb")) "__init__") (some (some (.ref (He.ma K (He.ga K "InvalidWeb") "__init__")))) && decide (PySem.W.typeIn K (.ref (He.ma K (He.ga K "InvalidWeb") "__init__")) = some (.type "function")),
  fun K => exB K (He.ga K "Rejected") "ValueError" "ValueError.__init__" "ValueError.__new__" vTl,
  fun K => xfOk K "Rejected" ["index"],
  fun K => He.eqO (PySem.W.findIn K (.ref (He.ga K "Rejected")) "__init__") (some (some (.ref (He.ma K (He.ga K "Rejected") "__init__")))) && decide (PySem.W.typeIn K (.ref (He.ma K (He.ga K "Rejected") "__init__")) = some (.type "function")),
  fun K => exB K (He.ga K "UnknownTie") "KeyError" "KeyError.__init__" "LookupError.__new__" kTl,
  fun K => xfOk K "UnknownTie" ["name"],
  fun K => He.eqO (PySem.W.findIn K (.ref (He.ga K "UnknownTie")) "__init__") (some (some (.ref (He.ma K (He.ga K "UnknownTie") "__init__")))) && decide (PySem.W.typeIn K (.ref (He.ma K (He.ga K "UnknownTie") "__init__")) = some (.type "function")),
  fun K => exm K "InvalidSpan" "InvalidSpan" true,
  fun K => exm K "InvalidSpan" "InvalidWeb" false,
  fun K => exm K "InvalidSpan" "Rejected" false,
  fun K => exm K "InvalidSpan" "UnknownTie" false,
  fun K => exm K "InvalidWeb" "InvalidSpan" false,
  fun K => exm K "InvalidWeb" "InvalidWeb" true,
  fun K => exm K "InvalidWeb" "Rejected" false,
  fun K => exm K "InvalidWeb" "UnknownTie" false,
  fun K => exm K "Rejected" "InvalidSpan" false,
  fun K => exm K "Rejected" "InvalidWeb" false,
  fun K => exm K "Rejected" "Rejected" true,
  fun K => exm K "Rejected" "UnknownTie" false,
  fun K => exm K "UnknownTie" "InvalidSpan" false,
  fun K => exm K "UnknownTie" "InvalidWeb" false,
  fun K => exm K "UnknownTie" "Rejected" false,
  fun K => exm K "UnknownTie" "UnknownTie" true,
  fun K => exm3 K "InvalidSpan",
  fun K => exm3 K "InvalidWeb",
  fun K => exm3 K "UnknownTie",
  fun K => He.eqO (PySem.W.nsIn K mainGlobals "super") (some none) && He.eqO (PySem.W.nsIn K cStatics "thirdparty.any") (some none),
  fun K => decide (He.ga K "Keeper" ≠ He.ga K "Web") && decide (He.ga K "Desk" ≠ He.ga K "Web")]
/-- the exceptions' own inits -/
def exD : List (Str × Str × Stmt) := [("InvalidSpan", "InvalidSpan.__init__", s_InvalidSpan_init), ("InvalidWeb", "InvalidWeb.__init__", s_InvalidWeb_init), ("Rejected", "Rejected.__init__", s_Rejected_init), ("UnknownTie", "UnknownTie.__init__", s_UnknownTie_init)]
def exO (K : PySem.W.Frag) (q : Str × Str × Stmt) : Option (Str × Str × Arguments × FuncBody × Scope × Addr × Value × Addr) := exFnObs K (He.ma K (He.ga K q.1) "__init__") (He.ga K q.1) q.2.1
def exV (q : Str × Str × Stmt) : Option (Str × Str × Arguments × FuncBody × Scope × Addr × Value × Addr) := exFnVal q.2.1 q.2.2
def exW (K : PySem.W.Frag) : Bool := exL.all fun f => f K
def ts : List He.Tab := [(fun K => He.ga K "SIZES", ["tie", "cut", "change", "post"]), (fun K => He.ga K "FORMS", ["tie", "cut", "change", "undo", "closes", "flat", "table", "show"])]
abbrev AlW : Type := (He.AlD × List (Option (List (Option (Str × Int))))) × List (Option (Str × Str × Arguments × FuncBody × Scope × Addr × Value × Addr))
def obsW (ex : PySem.W.Frag → Bool) (K : PySem.W.Frag) : AlW :=
  (((((fa.all fun f => f.ok K) && (fn.all fun d => d.ok K)) && ex K, fn.map fun d => He5.fnA K (d.at_ K)), ts.map fun t => He.dicW K (t.1 K)), exD.map (exO K))
def valW (w : World) : AlW := (((true, fn.map He5.DefA.val), ts.map fun t => some (He.keysIn w.params t.2)), exD.map exV)
def outN {α : Type} (n : Nat) (k : Nat → α) : α := match n with
  | 0 => k 0
  | m + 1 => k (m + 1)
def outL {α : Type} : List Nat → (List Nat → α) → α
  | [], k => k []
  | a :: r, k => outN a fun a => outL r fun r => k (a :: r)
def nsA (K : PySem.W.Frag) (C : Addr) : Addr := match K.lookup C with
  | some ⟨_, _, .cls cd, _⟩ => cd.ns
  | _ => 0
def codeA (K : PySem.W.Frag) (f : Addr) : List Addr := match K.lookup f with
  | some ⟨_, _, .func fd, _⟩ => He.refV fd.code ++ He.refV fd.kwdefaults ++ fd.closure.map (·.2)
  | _ => []
def dictA (K : PySem.W.Frag) (d : Addr) : List Addr := match K.lookup d with
  | some ⟨_, _, .dict es _, _⟩ => es.toList.flatMap fun e => He.refV e.val
  | _ => []
def addrs (g : Addr → Option Obj) : List Addr :=
  outL (([("SIZES" : Str), "FORMS"] ++ clsNames).map (He.ga (He.frG g [mainGlobals, cStatics]))) fun cs =>
  outL (cs.map (nsA (He.frG g cs))) fun ns =>
  outL (recNames.map fun q => He.ma (He.frG g ([mainGlobals] ++ cs ++ ns)) (He.ga (He.frG g [mainGlobals]) q.1) q.2) fun rs =>
  outL ((fn.map fun d => d.at_ (He.frG g ([mainGlobals] ++ cs ++ ns ++ rs))) ++ exD.map fun q => He.ma (He.frG g ([mainGlobals] ++ cs ++ ns)) (He.ga (He.frG g [mainGlobals]) q.1) "__init__") fun fs =>
  outL (fs.flatMap (codeA (He.frG g fs)) ++ cs.flatMap (dictA (He.frG g cs))) fun os =>
  [mainGlobals, cStatics] ++ cs ++ ns ++ rs ++ fs ++ os
def obsWG (ex : PySem.W.Frag → Bool) (g : Addr → Option Obj) : AlW := obsW ex (He.frG g (addrs g))
/-- what the head tells of the written part -/
def SaysW (ex : PySem.W.Frag → Bool) (w : World) (K : PySem.W.Frag) : Prop := obsW ex K = valW w
def hookW (ex : PySem.W.Frag → Bool) : PySem.W.Hook where
  α := AlW
  obs := fun s => obsWG ex s.heap.get?
  val := valW
  says := fun w h => ∃ K : PySem.W.Frag, K.In h ∧ SaysW ex w K
  of := fun _ _ e => ⟨_, He.frG_in, e⟩
  keeps := fun _ _ _ ⟨K, hK, c⟩ k => ⟨K, PySem.W.Frag.In.keeps hK k, c⟩
theorem obsWG_eq {ex : PySem.W.Frag → Bool} {g : Addr → Option Obj} {s : Shared} (h : ∀ a, g a = s.heap.get? a) : obsWG ex g = (hookW ex).obs s := by
  have e : g = s.heap.get? := funext h
  rw [e]
  rfl

structure W0 (P : Program) (w : World) (K : PySem.W.Frag) (mg : Str → Option Value) : Prop where
  says : SaysW exW w K
  file : P.main.file = ("/claim/cut.py" : String)
  ptop : (P.main.scope.names.lookup ("super" : Str)).isSome = false
  mgs : ∃ h : Heap, K.In h ∧ h.Ns mainGlobals mg
section
variable {P : Program} {w : World} {K : PySem.W.Frag} {mg : Str → Option Value}
theorem W0.bits (T : W0 P w K mg) : ((fa.all fun f => f.ok K) = true ∧ (fn.all fun d => d.ok K) = true) ∧ exW K = true := by
  have e : ((((fa.all fun f => f.ok K) && (fn.all fun d => d.ok K)) && exW K) = true) := congrArg (fun z : AlW => z.1.1.1) T.says
  obtain ⟨h1, h2⟩ := He.ba e
  exact ⟨He.ba h1, h2⟩
theorem W0.fact (T : W0 P w K mg) (i : Nat) {f : He.Fa} (h : fa[i]? = some f := by rfl) : f.ok K = true := List.all_eq_true.mp T.bits.1.1 f (List.mem_of_getElem? h)
theorem W0.ex (T : W0 P w K mg) (i : Nat) {f : PySem.W.Frag → Bool} (h : exL[i]? = some f := by rfl) : f K = true := List.all_eq_true.mp T.bits.2 f (List.mem_of_getElem? h)
theorem W0.def_ (T : W0 P w K mg) (i : Nat) {d : He5.DefA} (h : fn[i]? = some d := by rfl) : ∃ fd, FunD K d.name d.qual d.params d.body d.scope (d.dvs K) (d.kws K) (d.at_ K) fd := by
  have e : fn.map (fun d => He5.fnA K (d.at_ K)) = fn.map He5.DefA.val := congrArg (fun z : AlW => z.1.1.2) T.says
  have e2 : (fn.map fun d => He5.fnA K (d.at_ K))[i]? = (fn.map He5.DefA.val)[i]? := by rw [e]
  rw [List.getElem?_map, List.getElem?_map, h] at e2
  exact He5.DefA.funD (Option.some.inj e2) (List.all_eq_true.mp T.bits.1.2 d (List.mem_of_getElem? h))
theorem W0.tab (T : W0 P w K mg) (i : Nat) {t : He.Tab} (h : ts[i]? = some t := by rfl) : ∃ es n, KDict K w (t.1 K) es n := by
  have e : (ts.map fun t => He.dicW K (t.1 K)) = ts.map fun t => some (He.keysIn w.params t.2) := congrArg (fun z : AlW => z.1.2) T.says
  have e2 : (ts.map fun t => He.dicW K (t.1 K))[i]? = (ts.map fun t => some (He.keysIn w.params t.2))[i]? := by rw [e]
  rw [List.getElem?_map, List.getElem?_map, h] at e2
  exact He.dicW_ok (Option.some.inj e2)
theorem W0.xini (T : W0 P w K mg) (i : Nat) {q : Str × Str × Stmt} (h : exD[i]? = some q := by rfl) : exFnObs K (He.ma K (He.ga K q.1) "__init__") (He.ga K q.1) q.2.1 = exFnVal q.2.1 q.2.2 := by
  have e : exD.map (exO K) = exD.map exV := congrArg (fun z : AlW => z.2) T.says
  have e2 : (exD.map (exO K))[i]? = (exD.map exV)[i]? := by rw [e]
  rw [List.getElem?_map, List.getElem?_map, h] at e2
  exact Option.some.inj e2
theorem W0.glo_ (T : W0 P w K mg) {x : Str} (c : (He.Fa.glo x).ok K = true) : mg x = some (.ref (He.ga K x)) := by
  obtain ⟨h, X, G⟩ := T.mgs
  exact He.glo_ok X G c
theorem W0.free_ (T : W0 P w K mg) {x : Str} (c : (He.Fa.free x).ok K = true) : mg x = none := by
  obtain ⟨h, X, G⟩ := T.mgs
  exact He.free_ok X G c
theorem W0.int_ (T : W0 P w K mg) {x : Str} {i : Int} (c : (He.Fa.int x i).ok K = true) : ∃ t, mg x = some (.int i t) := by
  obtain ⟨h, X, G⟩ := T.mgs
  exact He.int_ok X G c
theorem W0.str_ (T : W0 P w K mg) {x z : Str} (c : (He.Fa.str x z).ok K = true) : ∃ t, mg x = some (.str z t) := by
  obtain ⟨h, X, G⟩ := T.mgs
  exact He.str_ok X G c
theorem W0.g_is_whole (T : W0 P w K mg) : mg "is_whole" = some (.ref (He.ga K "is_whole")) := T.glo_ (T.fact 0)
theorem W0.g_is_name (T : W0 P w K mg) : mg "is_name" = some (.ref (He.ga K "is_name")) := T.glo_ (T.fact 1)
theorem W0.g_number_of (T : W0 P w K mg) : mg "number_of" = some (.ref (He.ga K "number_of")) := T.glo_ (T.fact 2)
theorem W0.g_is_tie (T : W0 P w K mg) : mg "is_tie" = some (.ref (He.ga K "is_tie")) := T.glo_ (T.fact 3)
theorem W0.g_has_form (T : W0 P w K mg) : mg "has_form" = some (.ref (He.ga K "has_form")) := T.glo_ (T.fact 4)
theorem W0.g_check_names (T : W0 P w K mg) : mg "check_names" = some (.ref (He.ga K "check_names")) := T.glo_ (T.fact 5)
theorem W0.g_check_tie (T : W0 P w K mg) : mg "check_tie" = some (.ref (He.ga K "check_tie")) := T.glo_ (T.fact 6)
theorem W0.g_check_web (T : W0 P w K mg) : mg "check_web" = some (.ref (He.ga K "check_web")) := T.glo_ (T.fact 7)
theorem W0.g_span_of (T : W0 P w K mg) : mg "span_of" = some (.ref (He.ga K "span_of")) := T.glo_ (T.fact 8)
theorem W0.g_read_tie (T : W0 P w K mg) : mg "read_tie" = some (.ref (He.ga K "read_tie")) := T.glo_ (T.fact 9)
theorem W0.g_bounds_of (T : W0 P w K mg) : mg "bounds_of" = some (.ref (He.ga K "bounds_of")) := T.glo_ (T.fact 10)
theorem W0.g_parts_of (T : W0 P w K mg) : mg "parts_of" = some (.ref (He.ga K "parts_of")) := T.glo_ (T.fact 11)
theorem W0.g_names_of (T : W0 P w K mg) : mg "names_of" = some (.ref (He.ga K "names_of")) := T.glo_ (T.fact 12)
theorem W0.g_joined (T : W0 P w K mg) : mg "joined" = some (.ref (He.ga K "joined")) := T.glo_ (T.fact 13)
theorem W0.g_L_mixed (T : W0 P w K mg) : mg "_law_mixed" = some (.ref (He.ga K "_law_mixed")) := T.glo_ (T.fact 14)
theorem W0.g_L_bounds (T : W0 P w K mg) : mg "_law_bounds" = some (.ref (He.ga K "_law_bounds")) := T.glo_ (T.fact 15)
theorem W0.g_L_joints (T : W0 P w K mg) : mg "_law_joints" = some (.ref (He.ga K "_law_joints")) := T.glo_ (T.fact 16)
theorem W0.g_L_changed_by (T : W0 P w K mg) : mg "_law_changed_by" = some (.ref (He.ga K "_law_changed_by")) := T.glo_ (T.fact 17)
theorem W0.g_L_feed (T : W0 P w K mg) : mg "_law_feed" = some (.ref (He.ga K "_law_feed")) := T.glo_ (T.fact 18)
theorem W0.g_L_take (T : W0 P w K mg) : mg "_law_take" = some (.ref (He.ga K "_law_take")) := T.glo_ (T.fact 19)
theorem W0.g_L_words (T : W0 P w K mg) : mg "_law_words" = some (.ref (He.ga K "_law_words")) := T.glo_ (T.fact 20)
theorem W0.g_L_web (T : W0 P w K mg) : mg "_law_web" = some (.ref (He.ga K "_law_web")) := T.glo_ (T.fact 21)
theorem W0.g_L_change (T : W0 P w K mg) : mg "_law_change" = some (.ref (He.ga K "_law_change")) := T.glo_ (T.fact 22)
theorem W0.g_L_done (T : W0 P w K mg) : mg "_law_done" = some (.ref (He.ga K "_law_done")) := T.glo_ (T.fact 23)
theorem W0.g_L_at_once (T : W0 P w K mg) : mg "_law_at_once" = some (.ref (He.ga K "_law_at_once")) := T.glo_ (T.fact 24)
theorem W0.g_L_webs_of (T : W0 P w K mg) : mg "_law_webs_of" = some (.ref (He.ga K "_law_webs_of")) := T.glo_ (T.fact 25)
theorem W0.g_L_by_log (T : W0 P w K mg) : mg "_law_by_log" = some (.ref (He.ga K "_law_by_log")) := T.glo_ (T.fact 26)
theorem W0.g_L_stands_right (T : W0 P w K mg) : mg "_law_stands_right" = some (.ref (He.ga K "_law_stands_right")) := T.glo_ (T.fact 27)
theorem W0.g_L_some (T : W0 P w K mg) : mg "_law_some" = some (.ref (He.ga K "_law_some")) := T.glo_ (T.fact 28)
theorem W0.g_law (T : W0 P w K mg) : mg "law" = some (.ref (He.ga K "law")) := T.glo_ (T.fact 29)
theorem W0.g_WayroundError (T : W0 P w K mg) : mg "WayroundError" = some (.ref (He.ga K "WayroundError")) := T.glo_ (T.fact 30)
theorem W0.g_InvalidSpan (T : W0 P w K mg) : mg "InvalidSpan" = some (.ref (He.ga K "InvalidSpan")) := T.glo_ (T.fact 31)
theorem W0.g_InvalidText (T : W0 P w K mg) : mg "InvalidText" = some (.ref (He.ga K "InvalidText")) := T.glo_ (T.fact 32)
theorem W0.g_InvalidWeb (T : W0 P w K mg) : mg "InvalidWeb" = some (.ref (He.ga K "InvalidWeb")) := T.glo_ (T.fact 33)
theorem W0.g_Rejected (T : W0 P w K mg) : mg "Rejected" = some (.ref (He.ga K "Rejected")) := T.glo_ (T.fact 34)
theorem W0.g_InvalidCommand (T : W0 P w K mg) : mg "InvalidCommand" = some (.ref (He.ga K "InvalidCommand")) := T.glo_ (T.fact 35)
theorem W0.g_UnknownPost (T : W0 P w K mg) : mg "UnknownPost" = some (.ref (He.ga K "UnknownPost")) := T.glo_ (T.fact 36)
theorem W0.g_UnknownTie (T : W0 P w K mg) : mg "UnknownTie" = some (.ref (He.ga K "UnknownTie")) := T.glo_ (T.fact 37)
theorem W0.g_Span (T : W0 P w K mg) : mg "Span" = some (.ref (He.ga K "Span")) := T.glo_ (T.fact 38)
theorem W0.g_Web (T : W0 P w K mg) : mg "Web" = some (.ref (He.ga K "Web")) := T.glo_ (T.fact 39)
theorem W0.g_Keeper (T : W0 P w K mg) : mg "Keeper" = some (.ref (He.ga K "Keeper")) := T.glo_ (T.fact 40)
theorem W0.g_Desk (T : W0 P w K mg) : mg "Desk" = some (.ref (He.ga K "Desk")) := T.glo_ (T.fact 41)
theorem W0.g_SIZES (T : W0 P w K mg) : mg "SIZES" = some (.ref (He.ga K "SIZES")) := T.glo_ (T.fact 42)
theorem W0.g_FORMS (T : W0 P w K mg) : mg "FORMS" = some (.ref (He.ga K "FORMS")) := T.glo_ (T.fact 43)
theorem W0.f_len (T : W0 P w K mg) : mg "len" = none := T.free_ (T.fact 44)
theorem W0.f_isinstance (T : W0 P w K mg) : mg "isinstance" = none := T.free_ (T.fact 45)
theorem W0.f_all (T : W0 P w K mg) : mg "all" = none := T.free_ (T.fact 46)
theorem W0.f_enumerate (T : W0 P w K mg) : mg "enumerate" = none := T.free_ (T.fact 47)
theorem W0.f_range (T : W0 P w K mg) : mg "range" = none := T.free_ (T.fact 48)
theorem W0.f_tuple (T : W0 P w K mg) : mg "tuple" = none := T.free_ (T.fact 49)
theorem W0.f_list (T : W0 P w K mg) : mg "list" = none := T.free_ (T.fact 50)
theorem W0.f_str (T : W0 P w K mg) : mg "str" = none := T.free_ (T.fact 51)
theorem W0.f_int (T : W0 P w K mg) : mg "int" = none := T.free_ (T.fact 52)
theorem W0.f_bool (T : W0 P w K mg) : mg "bool" = none := T.free_ (T.fact 53)
theorem W0.f_max (T : W0 P w K mg) : mg "max" = none := T.free_ (T.fact 54)
theorem W0.f_min (T : W0 P w K mg) : mg "min" = none := T.free_ (T.fact 55)
theorem W0.f_abs (T : W0 P w K mg) : mg "abs" = none := T.free_ (T.fact 56)
theorem W0.f_zip (T : W0 P w K mg) : mg "zip" = none := T.free_ (T.fact 57)
theorem W0.f_repr (T : W0 P w K mg) : mg "repr" = none := T.free_ (T.fact 58)
theorem W0.f_super (T : W0 P w K mg) : mg "super" = none := T.free_ (T.fact 59)
theorem W0.i_LONGEST (T : W0 P w K mg) : ∃ t, mg "LONGEST" = some (.int 6 t) := T.int_ (T.fact 60)
theorem W0.i_MOST_DIGITS_names (T : W0 P w K mg) : ∃ t, mg "MOST_DIGITS_names" = some (.int 9 t) := T.int_ (T.fact 61)
theorem W0.s_LETTERS (T : W0 P w K mg) : ∃ t, mg "LETTERS" = some (.str "abcdefghijklmnopqrstuvwxyz" t) := T.str_ (T.fact 62)
theorem W0.s_DIGITS (T : W0 P w K mg) : ∃ t, mg "DIGITS" = some (.str "0123456789" t) := T.str_ (T.fact 63)
theorem W0.s_DOTS (T : W0 P w K mg) : ∃ t, mg "DOTS" = some (.str ".." t) := T.str_ (T.fact 64)
theorem W0.s_POSTS (T : W0 P w K mg) : ∃ t, mg "POSTS" = some (.str "posts" t) := T.str_ (T.fact 65)
theorem W0.s_TIE (T : W0 P w K mg) : ∃ t, mg "TIE" = some (.str "tie" t) := T.str_ (T.fact 66)
theorem W0.c_Span (T : W0 P w K mg) : Cls K (He.ga K "Span") := He.cls_ok (T.fact 67)
theorem W0.mk_Span (T : W0 P w K mg) : Mk K (He.ga K "Span") (He.ma K (He.ga K "Span") "__init__") := He.mkr_ok (T.fact 68)
theorem W0.c_Web (T : W0 P w K mg) : Cls K (He.ga K "Web") := He.cls_ok (T.fact 69)
theorem W0.mk_Web (T : W0 P w K mg) : Mk K (He.ga K "Web") (He.ma K (He.ga K "Web") "__init__") := He.mkr_ok (T.fact 70)
theorem W0.c_Keeper (T : W0 P w K mg) : Cls K (He.ga K "Keeper") := He.cls_ok (T.fact 71)
theorem W0.mk_Keeper (T : W0 P w K mg) : Mk K (He.ga K "Keeper") (He.ma K (He.ga K "Keeper") "__init__") := He.mkr_ok (T.fact 72)
theorem W0.c_Desk (T : W0 P w K mg) : Cls K (He.ga K "Desk") := He.cls_ok (T.fact 73)
theorem W0.mk_Desk (T : W0 P w K mg) : Mk K (He.ga K "Desk") (He.ma K (He.ga K "Desk") "__init__") := He.mkr_ok (T.fact 74)
theorem W0.n_Span_low (T : W0 P w K mg) : NoAttr K (He.ga K "Span") "low" := He.noat_ok (T.fact 75)
theorem W0.n_Span_high (T : W0 P w K mg) : NoAttr K (He.ga K "Span") "high" := He.noat_ok (T.fact 76)
theorem W0.n_Web_places (T : W0 P w K mg) : NoAttr K (He.ga K "Web") "places" := He.noat_ok (T.fact 77)
theorem W0.n_Web_bonds (T : W0 P w K mg) : NoAttr K (He.ga K "Web") "bonds" := He.noat_ok (T.fact 78)
theorem W0.n_Keeper_kept (T : W0 P w K mg) : NoAttr K (He.ga K "Keeper") "kept" := He.noat_ok (T.fact 79)
theorem W0.n_Keeper_rods (T : W0 P w K mg) : NoAttr K (He.ga K "Keeper") "rods" := He.noat_ok (T.fact 80)
theorem W0.n_Keeper_past (T : W0 P w K mg) : NoAttr K (He.ga K "Keeper") "past" := He.noat_ok (T.fact 81)
theorem W0.n_Desk_keeper (T : W0 P w K mg) : NoAttr K (He.ga K "Desk") "keeper" := He.noat_ok (T.fact 82)
theorem W0.m_Span_str (T : W0 P w K mg) : Meth K (He.ga K "Span") "__str__" (He.ma K (He.ga K "Span") "__str__") := He.meth_ok (T.fact 83)
theorem W0.m_Web_len (T : W0 P w K mg) : Meth K (He.ga K "Web") "__len__" (He.ma K (He.ga K "Web") "__len__") := He.meth_ok (T.fact 84)
theorem W0.m_Web_eq (T : W0 P w K mg) : Meth K (He.ga K "Web") "__eq__" (He.ma K (He.ga K "Web") "__eq__") := He.meth_ok (T.fact 85)
theorem W0.m_Web_str (T : W0 P w K mg) : Meth K (He.ga K "Web") "__str__" (He.ma K (He.ga K "Web") "__str__") := He.meth_ok (T.fact 86)
theorem W0.m_Web_tie (T : W0 P w K mg) : Meth K (He.ga K "Web") "tie" (He.ma K (He.ga K "Web") "tie") := He.meth_ok (T.fact 87)
theorem W0.m_Web_tied (T : W0 P w K mg) : Meth K (He.ga K "Web") "tied" (He.ma K (He.ga K "Web") "tied") := He.meth_ok (T.fact 88)
theorem W0.m_Web_without (T : W0 P w K mg) : Meth K (He.ga K "Web") "without" (He.ma K (He.ga K "Web") "without") := He.meth_ok (T.fact 89)
theorem W0.m_Web_changed (T : W0 P w K mg) : Meth K (He.ga K "Web") "changed" (He.ma K (He.ga K "Web") "changed") := He.meth_ok (T.fact 90)
theorem W0.m_Keeper_len (T : W0 P w K mg) : Meth K (He.ga K "Keeper") "__len__" (He.ma K (He.ga K "Keeper") "__len__") := He.meth_ok (T.fact 91)
theorem W0.m_Keeper_eq (T : W0 P w K mg) : Meth K (He.ga K "Keeper") "__eq__" (He.ma K (He.ga K "Keeper") "__eq__") := He.meth_ok (T.fact 92)
theorem W0.m_Keeper_repr (T : W0 P w K mg) : Meth K (He.ga K "Keeper") "__repr__" (He.ma K (He.ga K "Keeper") "__repr__") := He.meth_ok (T.fact 93)
theorem W0.m_Keeper_web (T : W0 P w K mg) : Meth K (He.ga K "Keeper") "web" (He.ma K (He.ga K "Keeper") "web") := He.meth_ok (T.fact 94)
theorem W0.m_Keeper_log (T : W0 P w K mg) : Meth K (He.ga K "Keeper") "log" (He.ma K (He.ga K "Keeper") "log") := He.meth_ok (T.fact 95)
theorem W0.m_Keeper_need_free (T : W0 P w K mg) : Meth K (He.ga K "Keeper") "need_free" (He.ma K (He.ga K "Keeper") "need_free") := He.meth_ok (T.fact 96)
theorem W0.m_Keeper_move (T : W0 P w K mg) : Meth K (He.ga K "Keeper") "move" (He.ma K (He.ga K "Keeper") "move") := He.meth_ok (T.fact 97)
theorem W0.m_Keeper_tie (T : W0 P w K mg) : Meth K (He.ga K "Keeper") "tie" (He.ma K (He.ga K "Keeper") "tie") := He.meth_ok (T.fact 98)
theorem W0.m_Keeper_cut (T : W0 P w K mg) : Meth K (He.ga K "Keeper") "cut" (He.ma K (He.ga K "Keeper") "cut") := He.meth_ok (T.fact 99)
theorem W0.m_Keeper_change (T : W0 P w K mg) : Meth K (He.ga K "Keeper") "change" (He.ma K (He.ga K "Keeper") "change") := He.meth_ok (T.fact 100)
theorem W0.m_Keeper_post (T : W0 P w K mg) : Meth K (He.ga K "Keeper") "post" (He.ma K (He.ga K "Keeper") "post") := He.meth_ok (T.fact 101)
theorem W0.m_Keeper_undo (T : W0 P w K mg) : Meth K (He.ga K "Keeper") "undo" (He.ma K (He.ga K "Keeper") "undo") := He.meth_ok (T.fact 102)
theorem W0.m_Keeper_make (T : W0 P w K mg) : Meth K (He.ga K "Keeper") "make" (He.ma K (He.ga K "Keeper") "make") := He.meth_ok (T.fact 103)
theorem W0.m_Keeper_make_word (T : W0 P w K mg) : Meth K (He.ga K "Keeper") "make_word" (He.ma K (He.ga K "Keeper") "make_word") := He.meth_ok (T.fact 104)
theorem W0.m_Keeper_several (T : W0 P w K mg) : Meth K (He.ga K "Keeper") "several" (He.ma K (He.ga K "Keeper") "several") := He.meth_ok (T.fact 105)
theorem W0.m_Desk_len (T : W0 P w K mg) : Meth K (He.ga K "Desk") "__len__" (He.ma K (He.ga K "Desk") "__len__") := He.meth_ok (T.fact 106)
theorem W0.m_Desk_say (T : W0 P w K mg) : Meth K (He.ga K "Desk") "say" (He.ma K (He.ga K "Desk") "say") := He.meth_ok (T.fact 107)
theorem W0.m_Desk_answer (T : W0 P w K mg) : Meth K (He.ga K "Desk") "answer" (He.ma K (He.ga K "Desk") "answer") := He.meth_ok (T.fact 108)
theorem W0.m_Desk_reply (T : W0 P w K mg) : Meth K (He.ga K "Desk") "reply" (He.ma K (He.ga K "Desk") "reply") := He.meth_ok (T.fact 109)
theorem W0.p_Span_least (T : W0 P w K mg) : PropOf K (He.ga K "Span") "least" (He.ma K (He.ga K "Span") "least") (He5.wf K (He.ga K "Span") "property" "least") := propB_ok (T.ex 0)
theorem W0.p_Span_greatest (T : W0 P w K mg) : PropOf K (He.ga K "Span") "greatest" (He.ma K (He.ga K "Span") "greatest") (He5.wf K (He.ga K "Span") "property" "greatest") := propB_ok (T.ex 1)
theorem W0.p_Web_posts (T : W0 P w K mg) : PropOf K (He.ga K "Web") "posts" (He.ma K (He.ga K "Web") "posts") (He5.wf K (He.ga K "Web") "property" "posts") := propB_ok (T.ex 2)
theorem W0.p_Web_ties (T : W0 P w K mg) : PropOf K (He.ga K "Web") "ties" (He.ma K (He.ga K "Web") "ties") (He5.wf K (He.ga K "Web") "property" "ties") := propB_ok (T.ex 3)
theorem W0.b_make_word (T : W0 P w K mg) : BMeth K (He.ga K "Keeper") "make_word" (He.ma K (He.ga K "Keeper") "make_word") := bmB_ok T.m_Keeper_make_word (T.ex 4)
theorem W0.b_tie (T : W0 P w K mg) : BMeth K (He.ga K "Keeper") "tie" (He.ma K (He.ga K "Keeper") "tie") := bmB_ok T.m_Keeper_tie (T.ex 5)
theorem W0.b_cut (T : W0 P w K mg) : BMeth K (He.ga K "Keeper") "cut" (He.ma K (He.ga K "Keeper") "cut") := bmB_ok T.m_Keeper_cut (T.ex 6)
theorem W0.b_change (T : W0 P w K mg) : BMeth K (He.ga K "Keeper") "change" (He.ma K (He.ga K "Keeper") "change") := bmB_ok T.m_Keeper_change (T.ex 7)
theorem W0.b_post (T : W0 P w K mg) : BMeth K (He.ga K "Keeper") "post" (He.ma K (He.ga K "Keeper") "post") := bmB_ok T.m_Keeper_post (T.ex 8)
theorem W0.b_several (T : W0 P w K mg) : BMeth K (He.ga K "Keeper") "several" (He.ma K (He.ga K "Keeper") "several") := bmB_ok T.m_Keeper_several (T.ex 9)
theorem W0.ne_Web (T : W0 P w K mg) : NeC K (He.ga K "Web") := neB_ok (T.ex 10)
theorem W0.in_Web (T : W0 P w K mg) : InC K (He.ga K "Web") := inB_ok (T.ex 13)
theorem W0.ne_Keeper (T : W0 P w K mg) : NeC K (He.ga K "Keeper") := neB_ok (T.ex 11)
theorem W0.in_Keeper (T : W0 P w K mg) : InC K (He.ga K "Keeper") := inB_ok (T.ex 14)
theorem W0.fmt_Span (T : W0 P w K mg) : FmtC K (He.ga K "Span") := fmtB_ok (T.ex 12)
theorem W0.cr_Span (T : W0 P w K mg) : ClX.CRead K (He.ga K "Span") (.type "type") := crB_ok (T.ex 15)
theorem W0.cm_Span (T : W0 P w K mg) : ClX.CMet K (He.ga K "Span") (.type "type") "read" (He.ma K (He.ga K "Span") "read") (He5.wf K (He.ga K "Span") "classmethod" "read") := cmB_ok (T.ex 16)
theorem W0.cr_Web (T : W0 P w K mg) : ClX.CRead K (He.ga K "Web") (.type "type") := crB_ok (T.ex 17)
theorem W0.cm_Web (T : W0 P w K mg) : ClX.CMet K (He.ga K "Web") (.type "type") "read" (He.ma K (He.ga K "Web") "read") (He5.wf K (He.ga K "Web") "classmethod" "read") := cmB_ok (T.ex 18)
theorem W0.form_tie (T : W0 P w K mg) : PySem.W.nsIn K (He.ga K "FORMS") "tie" = some (some (.ref (formA K "tie"))) ∧ ∀ H : Hp, SqT K H (formA K "tie") ((["name", "name", "name", "span"] : List Str).map V.str) := formB_ok (T.ex 19)
theorem W0.form_show (T : W0 P w K mg) : PySem.W.nsIn K (He.ga K "FORMS") "show" = some (some (.ref (formA K "show"))) ∧ ∀ H : Hp, SqT K H (formA K "show") (([] : List Str).map V.str) := formB_ok (T.ex 20)
theorem W0.size_tie (T : W0 P w K mg) : ∃ t, PySem.W.nsIn K (He.ga K "SIZES") "tie" = some (some (.int 6 t)) := sizeB_ok (T.ex 21)
theorem W0.size_cut (T : W0 P w K mg) : ∃ t, PySem.W.nsIn K (He.ga K "SIZES") "cut" = some (some (.int 2 t)) := sizeB_ok (T.ex 22)
theorem W0.size_change (T : W0 P w K mg) : ∃ t, PySem.W.nsIn K (He.ga K "SIZES") "change" = some (some (.int 4 t)) := sizeB_ok (T.ex 23)
theorem W0.size_post (T : W0 P w K mg) : ∃ t, PySem.W.nsIn K (He.ga K "SIZES") "post" = some (some (.int 2 t)) := sizeB_ok (T.ex 24)
theorem W0.x_InvalidSpan (T : W0 P w K mg) : ExC K (He.ga K "InvalidSpan") "ValueError" "ValueError.__init__" "ValueError" "ValueError.__new__" vTl := exB_ok bsV (T.ex 25)
theorem W0.xf_InvalidSpan (T : W0 P w K mg) : XfC K (He.ga K "InvalidSpan") ∧ ∀ f ∈ (["low", "high"] : List Str), PySem.W.findIn K (.ref (He.ga K "InvalidSpan")) f = some none := xfOk_ok (T.ex 26)
theorem W0.xi_InvalidSpan (T : W0 P w K mg) : PySem.W.findIn K (.ref (He.ga K "InvalidSpan")) "__init__" = some (some (.ref (He.ma K (He.ga K "InvalidSpan") "__init__"))) ∧ PySem.W.typeIn K (.ref (He.ma K (He.ga K "InvalidSpan") "__init__")) = some (.type "function") := by
  obtain ⟨h1, h2⟩ := He.ba (T.ex 27)
  exact ⟨He.eqO_ok h1, of_decide_eq_true h2⟩
theorem W0.x_InvalidWeb (T : W0 P w K mg) : ExC K (He.ga K "InvalidWeb") "ValueError" "ValueError.__init__" "ValueError" "ValueError.__new__" vTl := exB_ok bsV (T.ex 28)
theorem W0.xf_InvalidWeb (T : W0 P w K mg) : XfC K (He.ga K "InvalidWeb") ∧ ∀ f ∈ (["reason", "index"] : List Str), PySem.W.findIn K (.ref (He.ga K "InvalidWeb")) f = some none := xfOk_ok (T.ex 29)
theorem W0.xi_InvalidWeb (T : W0 P w K mg) : PySem.W.findIn K (.ref (He.ga K "InvalidWeb")) "__init__" = some (some (.ref (He.ma K (He.ga K "InvalidWeb") "__init__"))) ∧ PySem.W.typeIn K (.ref (He.ma K (He.ga K "InvalidWeb") "__init__")) = some (.type "function") := by
  obtain ⟨h1, h2⟩ := He.ba (T.ex 30)
  exact ⟨He.eqO_ok h1, of_decide_eq_true h2⟩
theorem W0.x_Rejected (T : W0 P w K mg) : ExC K (He.ga K "Rejected") "ValueError" "ValueError.__init__" "ValueError" "ValueError.__new__" vTl := exB_ok bsV (T.ex 31)
theorem W0.xf_Rejected (T : W0 P w K mg) : XfC K (He.ga K "Rejected") ∧ ∀ f ∈ (["index"] : List Str), PySem.W.findIn K (.ref (He.ga K "Rejected")) f = some none := xfOk_ok (T.ex 32)
theorem W0.xi_Rejected (T : W0 P w K mg) : PySem.W.findIn K (.ref (He.ga K "Rejected")) "__init__" = some (some (.ref (He.ma K (He.ga K "Rejected") "__init__"))) ∧ PySem.W.typeIn K (.ref (He.ma K (He.ga K "Rejected") "__init__")) = some (.type "function") := by
  obtain ⟨h1, h2⟩ := He.ba (T.ex 33)
  exact ⟨He.eqO_ok h1, of_decide_eq_true h2⟩
theorem W0.x_UnknownTie (T : W0 P w K mg) : ExC K (He.ga K "UnknownTie") "KeyError" "KeyError.__init__" "LookupError" "LookupError.__new__" kTl := exB_ok bsK (T.ex 34)
theorem W0.xf_UnknownTie (T : W0 P w K mg) : XfC K (He.ga K "UnknownTie") ∧ ∀ f ∈ (["name"] : List Str), PySem.W.findIn K (.ref (He.ga K "UnknownTie")) f = some none := xfOk_ok (T.ex 35)
theorem W0.xi_UnknownTie (T : W0 P w K mg) : PySem.W.findIn K (.ref (He.ga K "UnknownTie")) "__init__" = some (some (.ref (He.ma K (He.ga K "UnknownTie") "__init__"))) ∧ PySem.W.typeIn K (.ref (He.ma K (He.ga K "UnknownTie") "__init__")) = some (.type "function") := by
  obtain ⟨h1, h2⟩ := He.ba (T.ex 36)
  exact ⟨He.eqO_ok h1, of_decide_eq_true h2⟩
theorem W0.e_InvalidSpan_InvalidSpan (T : W0 P w K mg) : PySem.W.exmOne K (.ref (He.ga K "InvalidSpan")) (.ref (He.ga K "InvalidSpan")) = some true := of_decide_eq_true (T.ex 37)
theorem W0.e_InvalidSpan_InvalidWeb (T : W0 P w K mg) : PySem.W.exmOne K (.ref (He.ga K "InvalidSpan")) (.ref (He.ga K "InvalidWeb")) = some false := of_decide_eq_true (T.ex 38)
theorem W0.e_InvalidSpan_Rejected (T : W0 P w K mg) : PySem.W.exmOne K (.ref (He.ga K "InvalidSpan")) (.ref (He.ga K "Rejected")) = some false := of_decide_eq_true (T.ex 39)
theorem W0.e_InvalidSpan_UnknownTie (T : W0 P w K mg) : PySem.W.exmOne K (.ref (He.ga K "InvalidSpan")) (.ref (He.ga K "UnknownTie")) = some false := of_decide_eq_true (T.ex 40)
theorem W0.e_InvalidWeb_InvalidSpan (T : W0 P w K mg) : PySem.W.exmOne K (.ref (He.ga K "InvalidWeb")) (.ref (He.ga K "InvalidSpan")) = some false := of_decide_eq_true (T.ex 41)
theorem W0.e_InvalidWeb_InvalidWeb (T : W0 P w K mg) : PySem.W.exmOne K (.ref (He.ga K "InvalidWeb")) (.ref (He.ga K "InvalidWeb")) = some true := of_decide_eq_true (T.ex 42)
theorem W0.e_InvalidWeb_Rejected (T : W0 P w K mg) : PySem.W.exmOne K (.ref (He.ga K "InvalidWeb")) (.ref (He.ga K "Rejected")) = some false := of_decide_eq_true (T.ex 43)
theorem W0.e_InvalidWeb_UnknownTie (T : W0 P w K mg) : PySem.W.exmOne K (.ref (He.ga K "InvalidWeb")) (.ref (He.ga K "UnknownTie")) = some false := of_decide_eq_true (T.ex 44)
theorem W0.e_Rejected_InvalidSpan (T : W0 P w K mg) : PySem.W.exmOne K (.ref (He.ga K "Rejected")) (.ref (He.ga K "InvalidSpan")) = some false := of_decide_eq_true (T.ex 45)
theorem W0.e_Rejected_InvalidWeb (T : W0 P w K mg) : PySem.W.exmOne K (.ref (He.ga K "Rejected")) (.ref (He.ga K "InvalidWeb")) = some false := of_decide_eq_true (T.ex 46)
theorem W0.e_Rejected_Rejected (T : W0 P w K mg) : PySem.W.exmOne K (.ref (He.ga K "Rejected")) (.ref (He.ga K "Rejected")) = some true := of_decide_eq_true (T.ex 47)
theorem W0.e_Rejected_UnknownTie (T : W0 P w K mg) : PySem.W.exmOne K (.ref (He.ga K "Rejected")) (.ref (He.ga K "UnknownTie")) = some false := of_decide_eq_true (T.ex 48)
theorem W0.e_UnknownTie_InvalidSpan (T : W0 P w K mg) : PySem.W.exmOne K (.ref (He.ga K "UnknownTie")) (.ref (He.ga K "InvalidSpan")) = some false := of_decide_eq_true (T.ex 49)
theorem W0.e_UnknownTie_InvalidWeb (T : W0 P w K mg) : PySem.W.exmOne K (.ref (He.ga K "UnknownTie")) (.ref (He.ga K "InvalidWeb")) = some false := of_decide_eq_true (T.ex 50)
theorem W0.e_UnknownTie_Rejected (T : W0 P w K mg) : PySem.W.exmOne K (.ref (He.ga K "UnknownTie")) (.ref (He.ga K "Rejected")) = some false := of_decide_eq_true (T.ex 51)
theorem W0.e_UnknownTie_UnknownTie (T : W0 P w K mg) : PySem.W.exmOne K (.ref (He.ga K "UnknownTie")) (.ref (He.ga K "UnknownTie")) = some true := of_decide_eq_true (T.ex 52)
theorem W0.e3_InvalidSpan (T : W0 P w K mg) : PySem.W.exmAny K (.ref (He.ga K "InvalidSpan")) [.ref (He.ga K "WayroundError"), .ref (He.ga K "UnknownPost"), .ref (He.ga K "UnknownTie")] = some true := of_decide_eq_true (T.ex 53)
theorem W0.e3_InvalidWeb (T : W0 P w K mg) : PySem.W.exmAny K (.ref (He.ga K "InvalidWeb")) [.ref (He.ga K "WayroundError"), .ref (He.ga K "UnknownPost"), .ref (He.ga K "UnknownTie")] = some true := of_decide_eq_true (T.ex 54)
theorem W0.e3_UnknownTie (T : W0 P w K mg) : PySem.W.exmAny K (.ref (He.ga K "UnknownTie")) [.ref (He.ga K "WayroundError"), .ref (He.ga K "UnknownPost"), .ref (He.ga K "UnknownTie")] = some true := of_decide_eq_true (T.ex 55)
theorem W0.kw (T : W0 P w K mg) : He.ga K "Keeper" ≠ He.ga K "Web" := of_decide_eq_true (He.ba (T.ex 57)).1 /- kwX -/
theorem W0.dw (T : W0 P w K mg) : He.ga K "Desk" ≠ He.ga K "Web" := of_decide_eq_true (He.ba (T.ex 57)).2
theorem W0.super_ (T : W0 P w K mg) : PySem.W.nsIn K mainGlobals "super" = some none ∧ PySem.W.nsIn K cStatics "thirdparty.any" = some none := by
  obtain ⟨h1, h2⟩ := He.ba (T.ex 56)
  exact ⟨He.eqO_ok h1, He.eqO_ok h2⟩
theorem W0.d_is_whole (T : W0 P w K mg) : ∃ fd, FunD K d_is_whole.name d_is_whole.qual d_is_whole.params d_is_whole.body d_is_whole.scope (d_is_whole.dvs K) (d_is_whole.kws K) (d_is_whole.at_ K) fd := T.def_ 0
theorem W0.d_is_name (T : W0 P w K mg) : ∃ fd, FunD K d_is_name.name d_is_name.qual d_is_name.params d_is_name.body d_is_name.scope (d_is_name.dvs K) (d_is_name.kws K) (d_is_name.at_ K) fd := T.def_ 1
theorem W0.d_number_of (T : W0 P w K mg) : ∃ fd, FunD K d_number_of.name d_number_of.qual d_number_of.params d_number_of.body d_number_of.scope (d_number_of.dvs K) (d_number_of.kws K) (d_number_of.at_ K) fd := T.def_ 2
theorem W0.d_Span_init (T : W0 P w K mg) : ∃ fd, FunD K d_Span_init.name d_Span_init.qual d_Span_init.params d_Span_init.body d_Span_init.scope (d_Span_init.dvs K) (d_Span_init.kws K) (d_Span_init.at_ K) fd := T.def_ 3
theorem W0.d_Span_read (T : W0 P w K mg) : ∃ fd, FunD K d_Span_read.name d_Span_read.qual d_Span_read.params d_Span_read.body d_Span_read.scope (d_Span_read.dvs K) (d_Span_read.kws K) (d_Span_read.at_ K) fd := T.def_ 4
theorem W0.d_Span_least (T : W0 P w K mg) : ∃ fd, FunD K d_Span_least.name d_Span_least.qual d_Span_least.params d_Span_least.body d_Span_least.scope (d_Span_least.dvs K) (d_Span_least.kws K) (d_Span_least.at_ K) fd := T.def_ 5
theorem W0.d_Span_greatest (T : W0 P w K mg) : ∃ fd, FunD K d_Span_greatest.name d_Span_greatest.qual d_Span_greatest.params d_Span_greatest.body d_Span_greatest.scope (d_Span_greatest.dvs K) (d_Span_greatest.kws K) (d_Span_greatest.at_ K) fd := T.def_ 6
theorem W0.d_Span_str (T : W0 P w K mg) : ∃ fd, FunD K d_Span_str.name d_Span_str.qual d_Span_str.params d_Span_str.body d_Span_str.scope (d_Span_str.dvs K) (d_Span_str.kws K) (d_Span_str.at_ K) fd := T.def_ 7
theorem W0.d_is_tie (T : W0 P w K mg) : ∃ fd, FunD K d_is_tie.name d_is_tie.qual d_is_tie.params d_is_tie.body d_is_tie.scope (d_is_tie.dvs K) (d_is_tie.kws K) (d_is_tie.at_ K) fd := T.def_ 8
theorem W0.d_has_form (T : W0 P w K mg) : ∃ fd, FunD K d_has_form.name d_has_form.qual d_has_form.params d_has_form.body d_has_form.scope (d_has_form.dvs K) (d_has_form.kws K) (d_has_form.at_ K) fd := T.def_ 9
theorem W0.d_check_names (T : W0 P w K mg) : ∃ fd, FunD K d_check_names.name d_check_names.qual d_check_names.params d_check_names.body d_check_names.scope (d_check_names.dvs K) (d_check_names.kws K) (d_check_names.at_ K) fd := T.def_ 10
theorem W0.d_check_tie (T : W0 P w K mg) : ∃ fd, FunD K d_check_tie.name d_check_tie.qual d_check_tie.params d_check_tie.body d_check_tie.scope (d_check_tie.dvs K) (d_check_tie.kws K) (d_check_tie.at_ K) fd := T.def_ 11
theorem W0.d_check_web (T : W0 P w K mg) : ∃ fd, FunD K d_check_web.name d_check_web.qual d_check_web.params d_check_web.body d_check_web.scope (d_check_web.dvs K) (d_check_web.kws K) (d_check_web.at_ K) fd := T.def_ 12
theorem W0.d_span_of (T : W0 P w K mg) : ∃ fd, FunD K d_span_of.name d_span_of.qual d_span_of.params d_span_of.body d_span_of.scope (d_span_of.dvs K) (d_span_of.kws K) (d_span_of.at_ K) fd := T.def_ 13
theorem W0.d_read_tie (T : W0 P w K mg) : ∃ fd, FunD K d_read_tie.name d_read_tie.qual d_read_tie.params d_read_tie.body d_read_tie.scope (d_read_tie.dvs K) (d_read_tie.kws K) (d_read_tie.at_ K) fd := T.def_ 14
theorem W0.d_Web_init (T : W0 P w K mg) : ∃ fd, FunD K d_Web_init.name d_Web_init.qual d_Web_init.params d_Web_init.body d_Web_init.scope (d_Web_init.dvs K) (d_Web_init.kws K) (d_Web_init.at_ K) fd := T.def_ 15
theorem W0.d_Web_read (T : W0 P w K mg) : ∃ fd, FunD K d_Web_read.name d_Web_read.qual d_Web_read.params d_Web_read.body d_Web_read.scope (d_Web_read.dvs K) (d_Web_read.kws K) (d_Web_read.at_ K) fd := T.def_ 16
theorem W0.d_Web_posts (T : W0 P w K mg) : ∃ fd, FunD K d_Web_posts.name d_Web_posts.qual d_Web_posts.params d_Web_posts.body d_Web_posts.scope (d_Web_posts.dvs K) (d_Web_posts.kws K) (d_Web_posts.at_ K) fd := T.def_ 17
theorem W0.d_Web_ties (T : W0 P w K mg) : ∃ fd, FunD K d_Web_ties.name d_Web_ties.qual d_Web_ties.params d_Web_ties.body d_Web_ties.scope (d_Web_ties.dvs K) (d_Web_ties.kws K) (d_Web_ties.at_ K) fd := T.def_ 18
theorem W0.d_Web_len (T : W0 P w K mg) : ∃ fd, FunD K d_Web_len.name d_Web_len.qual d_Web_len.params d_Web_len.body d_Web_len.scope (d_Web_len.dvs K) (d_Web_len.kws K) (d_Web_len.at_ K) fd := T.def_ 19
theorem W0.d_Web_eq (T : W0 P w K mg) : ∃ fd, FunD K d_Web_eq.name d_Web_eq.qual d_Web_eq.params d_Web_eq.body d_Web_eq.scope (d_Web_eq.dvs K) (d_Web_eq.kws K) (d_Web_eq.at_ K) fd := T.def_ 20
theorem W0.d_Web_str (T : W0 P w K mg) : ∃ fd, FunD K d_Web_str.name d_Web_str.qual d_Web_str.params d_Web_str.body d_Web_str.scope (d_Web_str.dvs K) (d_Web_str.kws K) (d_Web_str.at_ K) fd := T.def_ 21
theorem W0.d_Web_tie (T : W0 P w K mg) : ∃ fd, FunD K d_Web_tie.name d_Web_tie.qual d_Web_tie.params d_Web_tie.body d_Web_tie.scope (d_Web_tie.dvs K) (d_Web_tie.kws K) (d_Web_tie.at_ K) fd := T.def_ 22
theorem W0.d_Web_tied (T : W0 P w K mg) : ∃ fd, FunD K d_Web_tied.name d_Web_tied.qual d_Web_tied.params d_Web_tied.body d_Web_tied.scope (d_Web_tied.dvs K) (d_Web_tied.kws K) (d_Web_tied.at_ K) fd := T.def_ 23
theorem W0.d_Web_without (T : W0 P w K mg) : ∃ fd, FunD K d_Web_without.name d_Web_without.qual d_Web_without.params d_Web_without.body d_Web_without.scope (d_Web_without.dvs K) (d_Web_without.kws K) (d_Web_without.at_ K) fd := T.def_ 24
theorem W0.d_Web_changed (T : W0 P w K mg) : ∃ fd, FunD K d_Web_changed.name d_Web_changed.qual d_Web_changed.params d_Web_changed.body d_Web_changed.scope (d_Web_changed.dvs K) (d_Web_changed.kws K) (d_Web_changed.at_ K) fd := T.def_ 25
theorem W0.d_Keeper_init (T : W0 P w K mg) : ∃ fd, FunD K d_Keeper_init.name d_Keeper_init.qual d_Keeper_init.params d_Keeper_init.body d_Keeper_init.scope (d_Keeper_init.dvs K) (d_Keeper_init.kws K) (d_Keeper_init.at_ K) fd := T.def_ 26
theorem W0.d_Keeper_len (T : W0 P w K mg) : ∃ fd, FunD K d_Keeper_len.name d_Keeper_len.qual d_Keeper_len.params d_Keeper_len.body d_Keeper_len.scope (d_Keeper_len.dvs K) (d_Keeper_len.kws K) (d_Keeper_len.at_ K) fd := T.def_ 27
theorem W0.d_Keeper_eq (T : W0 P w K mg) : ∃ fd, FunD K d_Keeper_eq.name d_Keeper_eq.qual d_Keeper_eq.params d_Keeper_eq.body d_Keeper_eq.scope (d_Keeper_eq.dvs K) (d_Keeper_eq.kws K) (d_Keeper_eq.at_ K) fd := T.def_ 28
theorem W0.d_Keeper_repr (T : W0 P w K mg) : ∃ fd, FunD K d_Keeper_repr.name d_Keeper_repr.qual d_Keeper_repr.params d_Keeper_repr.body d_Keeper_repr.scope (d_Keeper_repr.dvs K) (d_Keeper_repr.kws K) (d_Keeper_repr.at_ K) fd := T.def_ 29
theorem W0.d_Keeper_web (T : W0 P w K mg) : ∃ fd, FunD K d_Keeper_web.name d_Keeper_web.qual d_Keeper_web.params d_Keeper_web.body d_Keeper_web.scope (d_Keeper_web.dvs K) (d_Keeper_web.kws K) (d_Keeper_web.at_ K) fd := T.def_ 30
theorem W0.d_Keeper_log (T : W0 P w K mg) : ∃ fd, FunD K d_Keeper_log.name d_Keeper_log.qual d_Keeper_log.params d_Keeper_log.body d_Keeper_log.scope (d_Keeper_log.dvs K) (d_Keeper_log.kws K) (d_Keeper_log.at_ K) fd := T.def_ 31
theorem W0.d_Keeper_need_free (T : W0 P w K mg) : ∃ fd, FunD K d_Keeper_need_free.name d_Keeper_need_free.qual d_Keeper_need_free.params d_Keeper_need_free.body d_Keeper_need_free.scope (d_Keeper_need_free.dvs K) (d_Keeper_need_free.kws K) (d_Keeper_need_free.at_ K) fd := T.def_ 32
theorem W0.d_Keeper_move (T : W0 P w K mg) : ∃ fd, FunD K d_Keeper_move.name d_Keeper_move.qual d_Keeper_move.params d_Keeper_move.body d_Keeper_move.scope (d_Keeper_move.dvs K) (d_Keeper_move.kws K) (d_Keeper_move.at_ K) fd := T.def_ 33
theorem W0.d_Keeper_tie (T : W0 P w K mg) : ∃ fd, FunD K d_Keeper_tie.name d_Keeper_tie.qual d_Keeper_tie.params d_Keeper_tie.body d_Keeper_tie.scope (d_Keeper_tie.dvs K) (d_Keeper_tie.kws K) (d_Keeper_tie.at_ K) fd := T.def_ 34
theorem W0.d_Keeper_cut (T : W0 P w K mg) : ∃ fd, FunD K d_Keeper_cut.name d_Keeper_cut.qual d_Keeper_cut.params d_Keeper_cut.body d_Keeper_cut.scope (d_Keeper_cut.dvs K) (d_Keeper_cut.kws K) (d_Keeper_cut.at_ K) fd := T.def_ 35
theorem W0.d_Keeper_change (T : W0 P w K mg) : ∃ fd, FunD K d_Keeper_change.name d_Keeper_change.qual d_Keeper_change.params d_Keeper_change.body d_Keeper_change.scope (d_Keeper_change.dvs K) (d_Keeper_change.kws K) (d_Keeper_change.at_ K) fd := T.def_ 36
theorem W0.d_Keeper_post (T : W0 P w K mg) : ∃ fd, FunD K d_Keeper_post.name d_Keeper_post.qual d_Keeper_post.params d_Keeper_post.body d_Keeper_post.scope (d_Keeper_post.dvs K) (d_Keeper_post.kws K) (d_Keeper_post.at_ K) fd := T.def_ 37
theorem W0.d_Keeper_undo (T : W0 P w K mg) : ∃ fd, FunD K d_Keeper_undo.name d_Keeper_undo.qual d_Keeper_undo.params d_Keeper_undo.body d_Keeper_undo.scope (d_Keeper_undo.dvs K) (d_Keeper_undo.kws K) (d_Keeper_undo.at_ K) fd := T.def_ 38
theorem W0.d_Keeper_make (T : W0 P w K mg) : ∃ fd, FunD K d_Keeper_make.name d_Keeper_make.qual d_Keeper_make.params d_Keeper_make.body d_Keeper_make.scope (d_Keeper_make.dvs K) (d_Keeper_make.kws K) (d_Keeper_make.at_ K) fd := T.def_ 39
theorem W0.d_Keeper_make_word (T : W0 P w K mg) : ∃ fd, FunD K d_Keeper_make_word.name d_Keeper_make_word.qual d_Keeper_make_word.params d_Keeper_make_word.body d_Keeper_make_word.scope (d_Keeper_make_word.dvs K) (d_Keeper_make_word.kws K) (d_Keeper_make_word.at_ K) fd := T.def_ 40
theorem W0.d_Keeper_several (T : W0 P w K mg) : ∃ fd, FunD K d_Keeper_several.name d_Keeper_several.qual d_Keeper_several.params d_Keeper_several.body d_Keeper_several.scope (d_Keeper_several.dvs K) (d_Keeper_several.kws K) (d_Keeper_several.at_ K) fd := T.def_ 41
theorem W0.d_bounds_of (T : W0 P w K mg) : ∃ fd, FunD K d_bounds_of.name d_bounds_of.qual d_bounds_of.params d_bounds_of.body d_bounds_of.scope (d_bounds_of.dvs K) (d_bounds_of.kws K) (d_bounds_of.at_ K) fd := T.def_ 42
theorem W0.d_parts_of (T : W0 P w K mg) : ∃ fd, FunD K d_parts_of.name d_parts_of.qual d_parts_of.params d_parts_of.body d_parts_of.scope (d_parts_of.dvs K) (d_parts_of.kws K) (d_parts_of.at_ K) fd := T.def_ 43
theorem W0.d_names_of (T : W0 P w K mg) : ∃ fd, FunD K d_names_of.name d_names_of.qual d_names_of.params d_names_of.body d_names_of.scope (d_names_of.dvs K) (d_names_of.kws K) (d_names_of.at_ K) fd := T.def_ 44
theorem W0.d_joined (T : W0 P w K mg) : ∃ fd, FunD K d_joined.name d_joined.qual d_joined.params d_joined.body d_joined.scope (d_joined.dvs K) (d_joined.kws K) (d_joined.at_ K) fd := T.def_ 45
theorem W0.d_Desk_init (T : W0 P w K mg) : ∃ fd, FunD K d_Desk_init.name d_Desk_init.qual d_Desk_init.params d_Desk_init.body d_Desk_init.scope (d_Desk_init.dvs K) (d_Desk_init.kws K) (d_Desk_init.at_ K) fd := T.def_ 46
theorem W0.d_Desk_len (T : W0 P w K mg) : ∃ fd, FunD K d_Desk_len.name d_Desk_len.qual d_Desk_len.params d_Desk_len.body d_Desk_len.scope (d_Desk_len.dvs K) (d_Desk_len.kws K) (d_Desk_len.at_ K) fd := T.def_ 47
theorem W0.d_Desk_say (T : W0 P w K mg) : ∃ fd, FunD K d_Desk_say.name d_Desk_say.qual d_Desk_say.params d_Desk_say.body d_Desk_say.scope (d_Desk_say.dvs K) (d_Desk_say.kws K) (d_Desk_say.at_ K) fd := T.def_ 48
theorem W0.d_Desk_answer (T : W0 P w K mg) : ∃ fd, FunD K d_Desk_answer.name d_Desk_answer.qual d_Desk_answer.params d_Desk_answer.body d_Desk_answer.scope (d_Desk_answer.dvs K) (d_Desk_answer.kws K) (d_Desk_answer.at_ K) fd := T.def_ 49
theorem W0.d_Desk_reply (T : W0 P w K mg) : ∃ fd, FunD K d_Desk_reply.name d_Desk_reply.qual d_Desk_reply.params d_Desk_reply.body d_Desk_reply.scope (d_Desk_reply.dvs K) (d_Desk_reply.kws K) (d_Desk_reply.at_ K) fd := T.def_ 50
theorem W0.d_L_mixed (T : W0 P w K mg) : ∃ fd, FunD K d_L_mixed.name d_L_mixed.qual d_L_mixed.params d_L_mixed.body d_L_mixed.scope (d_L_mixed.dvs K) (d_L_mixed.kws K) (d_L_mixed.at_ K) fd := T.def_ 51
theorem W0.d_L_bounds (T : W0 P w K mg) : ∃ fd, FunD K d_L_bounds.name d_L_bounds.qual d_L_bounds.params d_L_bounds.body d_L_bounds.scope (d_L_bounds.dvs K) (d_L_bounds.kws K) (d_L_bounds.at_ K) fd := T.def_ 52
theorem W0.d_L_joints (T : W0 P w K mg) : ∃ fd, FunD K d_L_joints.name d_L_joints.qual d_L_joints.params d_L_joints.body d_L_joints.scope (d_L_joints.dvs K) (d_L_joints.kws K) (d_L_joints.at_ K) fd := T.def_ 53
theorem W0.d_L_changed_by (T : W0 P w K mg) : ∃ fd, FunD K d_L_changed_by.name d_L_changed_by.qual d_L_changed_by.params d_L_changed_by.body d_L_changed_by.scope (d_L_changed_by.dvs K) (d_L_changed_by.kws K) (d_L_changed_by.at_ K) fd := T.def_ 54
theorem W0.d_L_feed (T : W0 P w K mg) : ∃ fd, FunD K d_L_feed.name d_L_feed.qual d_L_feed.params d_L_feed.body d_L_feed.scope (d_L_feed.dvs K) (d_L_feed.kws K) (d_L_feed.at_ K) fd := T.def_ 55
theorem W0.d_L_take (T : W0 P w K mg) : ∃ fd, FunD K d_L_take.name d_L_take.qual d_L_take.params d_L_take.body d_L_take.scope (d_L_take.dvs K) (d_L_take.kws K) (d_L_take.at_ K) fd := T.def_ 56
theorem W0.d_L_words (T : W0 P w K mg) : ∃ fd, FunD K d_L_words.name d_L_words.qual d_L_words.params d_L_words.body d_L_words.scope (d_L_words.dvs K) (d_L_words.kws K) (d_L_words.at_ K) fd := T.def_ 57
theorem W0.d_L_web (T : W0 P w K mg) : ∃ fd, FunD K d_L_web.name d_L_web.qual d_L_web.params d_L_web.body d_L_web.scope (d_L_web.dvs K) (d_L_web.kws K) (d_L_web.at_ K) fd := T.def_ 58
theorem W0.d_L_change (T : W0 P w K mg) : ∃ fd, FunD K d_L_change.name d_L_change.qual d_L_change.params d_L_change.body d_L_change.scope (d_L_change.dvs K) (d_L_change.kws K) (d_L_change.at_ K) fd := T.def_ 59
theorem W0.d_L_done (T : W0 P w K mg) : ∃ fd, FunD K d_L_done.name d_L_done.qual d_L_done.params d_L_done.body d_L_done.scope (d_L_done.dvs K) (d_L_done.kws K) (d_L_done.at_ K) fd := T.def_ 60
theorem W0.d_L_at_once (T : W0 P w K mg) : ∃ fd, FunD K d_L_at_once.name d_L_at_once.qual d_L_at_once.params d_L_at_once.body d_L_at_once.scope (d_L_at_once.dvs K) (d_L_at_once.kws K) (d_L_at_once.at_ K) fd := T.def_ 61
theorem W0.d_L_webs_of (T : W0 P w K mg) : ∃ fd, FunD K d_L_webs_of.name d_L_webs_of.qual d_L_webs_of.params d_L_webs_of.body d_L_webs_of.scope (d_L_webs_of.dvs K) (d_L_webs_of.kws K) (d_L_webs_of.at_ K) fd := T.def_ 62
theorem W0.d_L_by_log (T : W0 P w K mg) : ∃ fd, FunD K d_L_by_log.name d_L_by_log.qual d_L_by_log.params d_L_by_log.body d_L_by_log.scope (d_L_by_log.dvs K) (d_L_by_log.kws K) (d_L_by_log.at_ K) fd := T.def_ 63
theorem W0.d_L_stands_right (T : W0 P w K mg) : ∃ fd, FunD K d_L_stands_right.name d_L_stands_right.qual d_L_stands_right.params d_L_stands_right.body d_L_stands_right.scope (d_L_stands_right.dvs K) (d_L_stands_right.kws K) (d_L_stands_right.at_ K) fd := T.def_ 64
theorem W0.d_L_some (T : W0 P w K mg) : ∃ fd, FunD K d_L_some.name d_L_some.qual d_L_some.params d_L_some.body d_L_some.scope (d_L_some.dvs K) (d_L_some.kws K) (d_L_some.at_ K) fd := T.def_ 65
theorem W0.d_law (T : W0 P w K mg) : ∃ fd, FunD K d_law.name d_law.qual d_law.params d_law.body d_law.scope (d_law.dvs K) (d_law.kws K) (d_law.at_ K) fd := T.def_ 66
theorem W0.xF_InvalidSpan (T : W0 P w K mg) : ExF P K (He.ga K "InvalidSpan") (He.ma K (He.ga K "InvalidSpan") "__init__") "InvalidSpan.__init__" (defArgs s_InvalidSpan_init) (defBody s_InvalidSpan_init) (defScope s_InvalidSpan_init) := exFn_ok T.file (T.xini 0) T.super_.1 T.ptop T.super_.2
theorem W0.xF_InvalidWeb (T : W0 P w K mg) : ExF P K (He.ga K "InvalidWeb") (He.ma K (He.ga K "InvalidWeb") "__init__") "InvalidWeb.__init__" (defArgs s_InvalidWeb_init) (defBody s_InvalidWeb_init) (defScope s_InvalidWeb_init) := exFn_ok T.file (T.xini 1) T.super_.1 T.ptop T.super_.2
theorem W0.xF_Rejected (T : W0 P w K mg) : ExF P K (He.ga K "Rejected") (He.ma K (He.ga K "Rejected") "__init__") "Rejected.__init__" (defArgs s_Rejected_init) (defBody s_Rejected_init) (defScope s_Rejected_init) := exFn_ok T.file (T.xini 2) T.super_.1 T.ptop T.super_.2
theorem W0.xF_UnknownTie (T : W0 P w K mg) : ExF P K (He.ga K "UnknownTie") (He.ma K (He.ga K "UnknownTie") "__init__") "UnknownTie.__init__" (defArgs s_UnknownTie_init) (defBody s_UnknownTie_init) (defScope s_UnknownTie_init) := exFn_ok T.file (T.xini 3) T.super_.1 T.ptop T.super_.2
end
end Wy
set_option Elab.async false
set_option linter.all false
set_option maxRecDepth 100000
set_option maxHeartbeats 0
namespace Wy
open PySem PySem.Spec PyProof.Rows L2
abbrev R : PySem.W.OpenRow := PySem.W.OpenLaw.row PySem.Challenge.rw_wayround_k72_whole_logs_played_again
abbrev hk : PySem.W.Hook := hookW exW
def ob (s : PySem.W.SharedT) : AlW := obsWG exW (HandSHeadRun.getT s)
theorem ob_eq (s : PySem.W.SharedT) : ob s = hk.obs s.abs := obsWG_eq (HandSHeadRun.getT_eq s)
/-- the first look: names and defs -/
abbrev Al1 : Type := He.AlD
def obs1 (K : PySem.W.Frag) : Al1 := ((fa.all fun f => f.ok K) && (fn.all fun d => d.ok K), fn.map fun d => He5.fnA K (d.at_ K))
/-- the second: the rest -/
abbrev Al2 : Type := (Bool × List (Option (List (Option (Str × Int))))) × List (Option (Str × Str × Arguments × FuncBody × Scope × Addr × Value × Addr))
def obs2 (K : PySem.W.Frag) : Al2 := ((exW K, ts.map fun t => He.dicW K (t.1 K)), exD.map (exO K))
def both (a : Al1) (b : Al2) : AlW := (((a.1 && b.1.1, a.2), b.1.2), b.2)
theorem both_obs (K : PySem.W.Frag) : obsW exW K = both (obs1 K) (obs2 K) := rfl
def ob1 (s : PySem.W.SharedT) : Al1 := obs1 (He.frG (HandSHeadRun.getT s) (addrs (HandSHeadRun.getT s)))
def ob2 (s : PySem.W.SharedT) : Al2 := obs2 (He.frG (HandSHeadRun.getT s) (addrs (HandSHeadRun.getT s)))
def val1 : Al1 := (true, fn.map He5.DefA.val)
def val2 (w : World) : Al2 := ((true, ts.map fun t => some (He.keysIn w.params t.2)), exD.map exV)
def hk0 : PySem.W.Hook where
  α := Unit
  obs := fun _ => ()
  val := fun _ => ()
  says := fun _ _ => True
  of := fun _ _ _ => trivial
  keeps := fun _ _ _ _ _ => trivial
noncomputable abbrev endR (w : World) (os : OsState) : Option PySem.W.SharedT := HandSHeadRun.endF (HandSHeadRun.stepQ (HandSHeadRun.denQ HandSHeadRun.tabQ) R.prog w) 12000 R.prog w os
def Run0 (w : World) : Prop := HandSHeadRun.RunEq R (PySem.W.view R.prog [103]) hk0 (fun _ => ()) 12000 loose w
def Run1 (w : World) : Prop := ∀ os : OsState, (endR w os).map ob1 = some val1
def Run2 (w : World) : Prop := ∀ os : OsState, (endR w os).map ob2 = some (val2 w)
theorem run0F (w : World) : Run0 (w.withFollow "special-get-raises" false) := by
  intro os
  kernel_rfl
theorem run0T (w : World) : Run0 (w.withFollow "special-get-raises" true) := by
  intro os
  kernel_rfl
theorem run1F (w : World) : Run1 (w.withFollow "special-get-raises" false) := by
  intro os
  kernel_rfl
theorem run1T (w : World) : Run1 (w.withFollow "special-get-raises" true) := by
  intro os
  kernel_rfl
theorem run2F (w : World) : Run2 (w.withFollow "special-get-raises" false) := by
  intro os
  kernel_rfl
theorem run2T (w : World) : Run2 (w.withFollow "special-get-raises" true) := by
  intro os
  kernel_rfl
theorem run0 : ∀ w : World, Run0 w := PySem.W.byRow2 "special-get-raises" run0F run0T
theorem run1 : ∀ w : World, Run1 w := PySem.W.byRow2 "special-get-raises" run1F run1T
theorem run2 : ∀ w : World, Run2 w := PySem.W.byRow2 "special-get-raises" run2F run2T
theorem run (w : World) : HandSHeadRun.RunEq R (PySem.W.view R.prog [103]) hk ob 12000 loose w := fun os => by
  have z := run0 w os
  have a := run1 w os
  have b := run2 w os
  obtain ⟨s, es, e0⟩ := Option.map_eq_some_iff.mp z
  unfold endR at a b
  rw [es] at a b
  have e1 : ob1 s = val1 := Option.some.inj a
  have e2 : ob2 s = val2 w := Option.some.inj b
  rw [es]
  have eo : ob s = both (ob1 s) (ob2 s) := both_obs _
  refine congrArg some (Prod.ext (congrArg (fun z => z.1) e0) (Prod.ext (congrArg (fun z => z.2.1) e0) ?_))
  show ob s = valW w
  rw [eo, e1, e2]
  rfl
end Wy
set_option Elab.async false
set_option linter.all false
set_option maxRecDepth 100000
set_option maxHeartbeats 0
namespace Wy
open PySem PySem.Spec PyProof.Rows L2 StX

section
variable {X : Cx} {x z : Str} {i : Int} {pos : Pos}
theorem eGs (h : ∃ t, X.mg x = some (.str z t)) (hg : Gl X x := by rfl) (hd : (x == ("__debug__" : Str)) = false := by decide) : PE X (.Name x pos) (tC (.str z)) := by
  obtain ⟨t, e⟩ := h
  exact pe_glob hg e ⟨t, rfl⟩ hd
theorem eGi (h : ∃ t, X.mg x = some (.int i t)) (hg : Gl X x := by rfl) (hd : (x == ("__debug__" : Str)) = false := by decide) : PE X (.Name x pos) (tC (.int i)) := by
  obtain ⟨t, e⟩ := h
  exact pe_glob hg e ⟨t, rfl⟩ hd
theorem nmG {c : Value} (h : X.mg x = some c) (hg : Gl X x := by rfl) (hd : (x == ("__debug__" : Str)) = false := by decide) : Names X x c := ⟨hg, hd, .inl h⟩
end
section
variable {P : Program} {w : World} {K : PySem.W.Frag} {mg : Str → Option Value} {base : Heap} {x qual : Str} {params : Arguments} {body : List Stmt} {scope : Scope} {kws : List (Str × V)} {f : Addr} {fd : FuncData}
theorem _root_.L2.FunD.fr {N ps : List Str} {k : Nat} {sp : Sp} (F : FunD K x qual params body scope [] kws f fd) (S : FnScope N ps scope)
    (hb : ∀ (kV doc pm : Value) (an : Option Addr) (cdv ct : Value) (us : List Value), us.length = ps.length → bindArgs (PySem.W.fnOf x qual params body scope .none kV doc pm an cdv ct) ⟨us, []⟩ = pure (ps.zip us)) (len : ∀ vs H Q E, sp vs H Q E → vs.length = ps.length)
    (hbody : ∀ (cdv : Value) (A : Around) (outer : List Env) (s : Shared) (H : Hp) (vs : List V) (Q : VK) (E : XK), Room k (A.deeper (envOfC qual scope s.heap.objs.size f cdv)) → sp vs H Q E →
      ∃ t, PSs (cxOf (L2.CX P w) P w K mg base N qual scope f cdv A outer s H E) body t ∧ t { nx := fun _ H' => Q .non H', rt := Q } (L2.start N vs) H) : FR P w K mg base (k + 1) f sp :=
  FnR.imp (FnOk.raw (F.ok S len hbody) (F.bindsN hb) .nil) fun vs H Q E h => by
    rw [List.append_nil]
    exact h
end

/-- name, one, other, least, greatest -/
abbrev Tie : Type := Str × Str × Str × Int × Int
abbrev Wb : Type := List Str × List Tie
inductive Chg where
  | tie (t : Tie)
  | cut (n : Str)
  | change (n : Str) (lo hi : Int)
  | post (n : Str)
def tieV (t : Tie) : List V := [.str t.1, .str t.2.1, .str t.2.2.1, .int t.2.2.2.1, .int t.2.2.2.2]
def Chg.word : Chg → Str
  | .tie _ => "tie"
  | .cut _ => "cut"
  | .change _ _ _ => "change"
  | .post _ => "post"
def Chg.args : Chg → List V
  | .tie t => tieV t
  | .cut n => [.str n]
  | .change n lo hi => [.str n, .int lo, .int hi]
  | .post n => [.str n]
def Chg.vals (c : Chg) : List V := .str c.word :: c.args

/-- what never changes once it stands -/
def immO (K : PySem.W.Frag) : HO → Prop
  | .tup _ => True
  | .ins C _ _ => C = He.ga K "Web"
  | _ => False
def Im (K : PySem.W.Frag) (H H' : Hp) : Prop := ∀ a o, H a = some o → immO K o → H' a = some o
theorem Im.refl {K : PySem.W.Frag} {H : Hp} : Im K H H := fun _ _ e _ => e
theorem Im.trans {K : PySem.W.Frag} {H H1 H2 : Hp} (a : Im K H H1) (b : Im K H1 H2) : Im K H H2 := fun c o e i => b c o (a c o e i) i
theorem Same.im {K : PySem.W.Frag} {H H' : Hp} (h : Same H H') : Im K H H' := fun a o e _ => h a o e
/-- an object that may change is changed -/
theorem im_upd {K : PySem.W.Frag} {H : Hp} {a : Addr} {o u : HO} (h : H a = some o) (n : ¬ immO K o) : Im K H (upd H a u) := fun b v e i => by
  rw [upd_ne (fun z => n (by subst z; rw [h] at e; cases e; exact i))]
  exact e
theorem im_new {K : PySem.W.Frag} {H : Hp} {a : Addr} {u : HO} (h : H a = none) : Im K H (upd H a u) := Same.im (same_upd h)
theorem Im.tup {K : PySem.W.Frag} {H H' : Hp} (i : Im K H H') {a : Addr} {xs : List V} (h : H a = some (.tup xs)) : H' a = some (.tup xs) := i a _ h trivial
/-- all that is tracked outside S stands, and so does all that never changes -/
structure Ch (K : PySem.W.Frag) (S : Addr → Prop) (H H' : Hp) : Prop where
  bt : Bt S H H'
  im : Im K H H'
theorem Ch.refl {K : PySem.W.Frag} {S : Addr → Prop} {H : Hp} : Ch K S H H := ⟨Bt.refl S H, Im.refl⟩
theorem Ch.trans {K : PySem.W.Frag} {S : Addr → Prop} {H H1 H2 : Hp} (a : Ch K S H H1) (b : Ch K S H1 H2) : Ch K S H H2 := ⟨a.bt.trans b.bt, a.im.trans b.im⟩
theorem Same.ch {K : PySem.W.Frag} {S : Addr → Prop} {H H' : Hp} (h : Same H H') : Ch K S H H' := ⟨Same.bt h, Same.im h⟩
theorem Ch.mono {K : PySem.W.Frag} {S S' : Addr → Prop} {H H1 : Hp} (a : Ch K S H H1) (h : ∀ b, S b → S' b) : Ch K S' H H1 := ⟨a.bt.mono h, a.im⟩
theorem Ch.fresh {K : PySem.W.Frag} {S T : Addr → Prop} {H H1 : Hp} (a : Ch K T H H1) (h : ∀ b, T b → S b ∨ H b = none) : Ch K S H H1 := ⟨a.bt.fresh h, a.im⟩
theorem Ch.at {K : PySem.W.Frag} {S : Addr → Prop} {H H1 : Hp} (a : Ch K S H H1) {b : Addr} {o : HO} (e : H b = some o) (n : ¬ S b) : H1 b = some o := a.bt b o e n
theorem ch_upd {K : PySem.W.Frag} {S : Addr → Prop} {H : Hp} {a : Addr} {o u : HO} (h : H a = some o) (n : ¬ immO K o) (s : S a) : Ch K S H (upd H a u) := ⟨fun b v e m => by
  have ne : b ≠ a := fun z => m (by rw [z]; exact s)
  rw [upd_ne ne]
  exact e, im_upd h n⟩
theorem ch_new {K : PySem.W.Frag} {S : Addr → Prop} {H : Hp} {a : Addr} {u : HO} (h : H a = none) : Ch K S H (upd H a u) := Same.ch (same_upd h)

def TieAt (H : Hp) (a : Addr) (t : Tie) : Prop := H a = some (.tup (tieV t))
def TiesAs (H : Hp) (as : List Addr) (ts : List Tie) : Prop := Paired (TieAt H) as ts
def TiesAt (H : Hp) (a : Addr) (ts : List Tie) : Prop := ∃ as, H a = some (.tup (as.map V.ref)) ∧ TiesAs H as ts
def PostsAt (H : Hp) (a : Addr) (ps : List Str) : Prop := H a = some (.tup (ps.map V.str))
def WebAt (K : PySem.W.Frag) (H : Hp) (a : Addr) (w : Wb) : Prop := ∃ dx pa ta, H a = some (.ins (He.ga K "Web") dx [("places", .ref pa), ("bonds", .ref ta)]) ∧ PostsAt H pa w.1 ∧ TiesAt H ta w.2
def ChgAt (H : Hp) (a : Addr) (c : Chg) : Prop := H a = some (.tup c.vals)
section
variable {K : PySem.W.Frag} {H H' : Hp}
theorem TieAt.im {a : Addr} {t : Tie} (h : TieAt H a t) (i : Im K H H') : TieAt H' a t := i.tup h
theorem TiesAs.im {as : List Addr} {ts : List Tie} (h : TiesAs H as ts) (i : Im K H H') : TiesAs H' as ts := Paired.mapP h fun _ _ q => TieAt.im q i
theorem TiesAt.im {a : Addr} {ts : List Tie} (h : TiesAt H a ts) (i : Im K H H') : TiesAt H' a ts := let ⟨as, e, p⟩ := h; ⟨as, i.tup e, TiesAs.im p i⟩
theorem PostsAt.im {a : Addr} {ps : List Str} (h : PostsAt H a ps) (i : Im K H H') : PostsAt H' a ps := i.tup h
theorem WebAt.im {a : Addr} {w : Wb} (h : WebAt K H a w) (i : Im K H H') : WebAt K H' a w := let ⟨dx, pa, ta, e, p, t⟩ := h; ⟨dx, pa, ta, i a _ e rfl, PostsAt.im p i, TiesAt.im t i⟩
theorem ChgAt.im {a : Addr} {c : Chg} (h : ChgAt H a c) (i : Im K H H') : ChgAt H' a c := i.tup h
theorem WebAt.imm {a : Addr} {w : Wb} (h : WebAt K H a w) : ∃ o, H a = some o ∧ immO K o := let ⟨_, _, _, e, _⟩ := h; ⟨_, e, rfl⟩
end
theorem paired_len {α β : Type} {R : α → β → Prop} {as : List α} {bs : List β} (h : Paired R as bs) : as.length = bs.length := Paired.length h
theorem paired_get {α β : Type} {R : α → β → Prop} : ∀ {as : List α} {bs : List β} {i : Nat} {b : β}, Paired R as bs → bs[i]? = some b → ∃ a, as[i]? = some a ∧ R a b
  | _, _, _, _, .nil, e => by simp at e
  | _, _, 0, _, .cons r _, e => by
    simp at e
    subst e
    exact ⟨_, rfl, r⟩
  | _, _, i + 1, _, .cons _ t, e => by
    obtain ⟨a, h1, h2⟩ := paired_get (i := i) t (by simpa using e)
    exact ⟨a, by simpa using h1, h2⟩
theorem paired_app {α β : Type} {R : α → β → Prop} : ∀ {as as' : List α} {bs bs' : List β}, Paired R as bs → Paired R as' bs' → Paired R (as ++ as') (bs ++ bs')
  | _, _, _, _, .nil, s => s
  | _, _, _, _, .cons r t, s => .cons r (paired_app t s)
theorem paired_get' {α β : Type} {R : α → β → Prop} : ∀ {as : List α} {bs : List β} {i : Nat} {a : α}, Paired R as bs → as[i]? = some a → ∃ b, bs[i]? = some b ∧ R a b
  | _, _, _, _, .nil, e => by simp at e
  | _, _, 0, _, .cons r _, e => by
    simp at e
    subst e
    exact ⟨_, rfl, r⟩
  | _, _, i + 1, _, .cons _ t, e => by
    obtain ⟨a, h1, h2⟩ := paired_get' (i := i) t (by simpa using e)
    exact ⟨a, by simpa using h1, h2⟩
theorem paired_take {α β : Type} {R : α → β → Prop} : ∀ (n : Nat) {as : List α} {bs : List β}, Paired R as bs → Paired R (as.take n) (bs.take n)
  | 0, _, _, _ => .nil
  | _ + 1, _, _, .nil => .nil
  | n + 1, _, _, .cons r t => .cons r (paired_take n t)
/-- tuples stand -/
def Tu (H H' : Hp) : Prop := ∀ a xs, H a = some (.tup xs) → H' a = some (.tup xs)
theorem Tu.of {H H' : Hp} {x C dx : Addr} {fs : List (Str × V)} (h : ∀ c o, c ≠ x → H c = some o → H' c = some o) (e : H x = some (.ins C dx fs)) : Tu H H' := fun a xs q => h a _ (ne_of q e (by intro z; cases z)) q
theorem TiesAs.tu {H H' : Hp} {as : List Addr} {ts : List Tie} (h : TiesAs H as ts) (i : Tu H H') : TiesAs H' as ts := Paired.mapP h fun _ _ q => i _ _ q
theorem TiesAt.tu {H H' : Hp} {a : Addr} {ts : List Tie} (h : TiesAt H a ts) (i : Tu H H') : TiesAt H' a ts := let ⟨as, e, p⟩ := h; ⟨as, i _ _ e, TiesAs.tu p i⟩
end Wy
set_option Elab.async false
set_option linter.all false
set_option maxRecDepth 100000
set_option maxHeartbeats 0
namespace Wy
open PySem PySem.Spec PyProof.Rows L2 StX
/-- a comprehension that changes nothing that stood: acc i is what is gathered ahead of turn i -/
theorem lc_acc {J : It} {n : Nat} {G : Hp → Prop} {Y : Nat → Hp → V → Hp → Prop} (wk : Walk J n G Y) {g : TG} {tt : TT} {te : TE} {vs : List Nat} {σ : L2.St} {H1 : Hp} {D : Addr} {Qd : Hp → Prop} (hD : H1 D = none) (acc : Nat → List V) (h0 : acc 0 = [])
    (hz : ∀ i, i < n → (acc i).length < sizeLine) (hG : ∀ H, Same H1 H → G H)
    (hs : ∀ i x H H', i < n → Same H1 H → Y i H x H' → ∀ (Yes : V → Hp → Prop) (No : Hp → Prop), (∀ y H4, Same H H4 → acc (i + 1) = acc i ++ [y] → Yes y H4) → (∀ H3, Same H H3 → acc (i + 1) = acc i → No H3) →
      g x (wipe σ vs) H' fun σ2 H2 => wipe σ2 vs = wipe σ vs ∧ tt σ2 H2 fun b H3 => if b = true then te σ2 H3 Yes else No H3)
    (hd : ∀ H, Same H1 H → H D = some (.lst (acc n)) → Qd H) :
    ∃ W : Nat → Nat → Hp → Prop, (∃ m, W 0 m (upd H1 D (.lst []))) ∧ ∀ i m H, W i m H →
      (J.stop i H ∧ Qd H) ∨ (J.go i H ∧ ∃ Nx : Hp → Prop, (∀ H', Nx H' → ∃ m', m' < m ∧ W (i + 1) m' H') ∧ ∀ x H', J.yld i H x H' → g x (wipe σ vs) H' fun σ2 H2 => wipe σ2 vs = wipe σ vs ∧ tt σ2 H2 fun b H3 =>
        if b = true then te σ2 H3 fun y H4 => ∃ ac, H4 D = some (.lst ac) ∧ ac.length < sizeLine ∧ Nx (upd H4 D (.lst (ac ++ [y]))) else Nx H3) := by
  refine lc_it wk (fun i H => Same H1 H ∧ H D = some (.lst (acc i))) ⟨same_upd hD, by rw [upd_same, h0]⟩ (fun i H _ p => hG H p.1) (fun i x H H' hi p y => ?_) fun H p => hd H p.1 p.2
  refine hs i x H H' hi p.1 y _ _ (fun y H4 q4 e4 => ⟨_, q4 _ _ p.2, hz i hi, fun b o e => ?_, by rw [upd_same, e4]⟩) fun H3 q3 e3 => ⟨fun b o e => q3 _ _ (p.1 _ _ e), ?_⟩
  · rw [upd_ne (ne_of_none e hD)]
    exact q4 _ _ (p.1 _ _ e)
  · rw [e3]
    exact q3 _ _ p.2

theorem cutV_take (xs : List V) (n : Nat) : cutV xs none (some (n : Int)) = xs.take n := by
  unfold cutV
  rw [HT.sIx_none, HT.sIx_nat, Nat.sub_zero, List.drop_zero]
  rcases Nat.le_total n xs.length with h | h
  · rw [Nat.min_eq_left h]
  · rw [Nat.min_eq_right h, List.take_length, List.take_of_length_le h]
theorem cutV_drop (xs : List V) (n : Nat) : cutV xs (some (n : Int)) none = xs.drop n := by
  unfold cutV
  rw [HT.sIx_none, HT.sIx_nat]
  rcases Nat.le_total n xs.length with h | h
  · rw [Nat.min_eq_left h]
    exact List.take_of_length_le (by rw [List.length_drop]; exact Nat.le_refl _)
  · rw [Nat.min_eq_right h, Nat.sub_self, List.take_zero, List.drop_of_length_le h]
section
variable {X : Cx}
def rSlU : V → Option Int → Option Int → Hp → VK → Prop := fun x lo hi H Q => ∃ a xs, x = .ref a ∧ H a = some (.tup xs) ∧ ∀ p H', Same H H' → H' p = some (.tup (cutV xs lo hi)) → Q (.ref p) H'
theorem sl_tupU : SlR X rSlU := by
  intro pins s σ H x v vl vu lo hi sl Q I rx hs pl pu h
  obtain ⟨a, xs, ex, ea, q⟩ := h
  refine sl_tupA pins s σ H x v vl vu lo hi sl Q I rx hs pl pu ⟨a, xs, ex, SqT.of ea, fun e => q a H (fun _ _ z => z) ?_, fun _ p hp => q p _ (same_upd hp) upd_same⟩
  rw [ea]
  unfold cutV
  rw [e.1, e.2, Nat.sub_zero, List.drop_zero, List.take_length]
def rCatU : R2 := fun x y H Q => ∃ a b xs ys, x = .ref a ∧ y = .ref b ∧ H a = some (.tup xs) ∧ H b = some (.tup ys) ∧ xs.length + ys.length ≤ sizeLine ∧ ∀ p H', Same H H' → H' p = some (.tup (xs ++ ys)) → Q (.ref p) H'
theorem op_catU : OpR X (binaryOp .Add) rCatU := fun pins s σ H x y v u Q I rx ry h => by
  obtain ⟨a, b, xs, ys, ex, ey, ea, eb, hz, q⟩ := h
  refine op_catA pins s σ H x y v u Q I rx ry ⟨a, b, xs, ys, ex, ey, SqT.of ea, SqT.of eb, hz, fun e => q b H (fun _ _ z => z) ?_, fun _ e => q a H (fun _ _ z => z) ?_, fun _ _ p hp => q p _ (same_upd hp) upd_same⟩
  · subst e
    exact eb
  · subst e
    rw [List.append_nil]
    exact ea
end

theorem iteD {p : Prop} {d : Decidable p} {A B : Prop} (hp : p → A) (hn : ¬ p → B) : if decide p = true then A else B := by
  by_cases h : p
  · rw [if_pos (decide_eq_true h)]
    exact hp h
  · rw [if_neg (by simpa using h)]
    exact hn h
theorem iteB {b : Bool} {A B : Prop} (h1 : b = true → A) (h0 : b = false → B) : if b = true then A else B := by
  cases b with
  | true => exact h1 rfl
  | false => exact h0 rfl
theorem iteY {b : Bool} {A B : Prop} (h : b = true) (a : A) : if b = true then A else B := by
  subst h
  exact a
theorem iteN {b : Bool} {A B : Prop} (h : b = false) (a : B) : if b = true then A else B := by
  subst h
  exact a
theorem same_rfl {H : Hp} : Same H H := fun _ _ e => e
theorem le_size {n : Nat} (h : n ≤ 100000) : n ≤ sizeLine := Nat.le_trans h (by decide)
theorem lt_size {n : Nat} (h : n ≤ 100000) : n < sizeLine := Nat.lt_of_le_of_lt h (by decide)
theorem take_snoc {α : Type} {xs : List α} {i : Nat} {x : α} (h : xs[i]? = some x) : xs.take (i + 1) = xs.take i ++ [x] := by
  rw [List.take_add_one, h]
  rfl

section
variable {X : Cx} {K : PySem.W.Frag}
theorem kIsi (h : X.K = K) : CallR X (.builtin "isinstance") (rIsi K) := by
  subst h
  exact call_isi
theorem kAll (h : X.K = K) (hc : X.calm = true) : CallR X (.builtin "all") (rAll K) := by
  subst h
  exact cr_all hc
theorem kIxT (h : X.K = K) : IxR X (rIxT K) := by
  subst h
  exact ix_tup
theorem kIxL (h : X.K = K) : IxR X (rIxL K) := by
  subst h
  exact ix_list
theorem kIn (h : X.K = K) : OpR X (compareOp .In) (rIn K false) := by
  subst h
  exact op_in_seq
theorem kNotIn (h : X.K = K) : OpR X (compareOp .NotIn) (rIn K true) := by
  subst h
  exact op_notIn_seq
theorem kEqD (h : X.K = K) (hu : X.A.units + 64 < cLine) : OpR X (compareOp .Eq) (rEqD K) := by
  subst h
  exact op_eqD hu
theorem kNeD (h : X.K = K) (hu : X.A.units + 64 < cLine) : OpR X (compareOp .NotEq) (rNeD K) := by
  subst h
  exact op_neD hu
theorem kTupG {es : List Expr} {kk : Nat} {t : TGs} {n : Nat} {pos : Pos} (h : X.K = K) (hc : X.calm = true) (hp : PGs X es t) (hn : (assignEach es X.env).length = n := by rfl) (hst : (assignEach es X.env).findIdx? (·.1) = none := by rfl) : PG X (.Tuple es kk pos) (gTup K n t) := by
  subst h
  exact pg_tup hc hp hn hst
end

theorem _root_.L2.FunD.frS {P : Program} {w : World} {K : PySem.W.Frag} {mg : Str → Option Value} {base : Heap} {x qual : Str} {params : Arguments} {body : List Stmt} {scope : Scope} {kws : List (Str × V)} {f : Addr} {fd : FuncData} {N ps : List Str} {pv : Str} {k : Nat} {sp : Sp}
    (F : FunD K x qual params body scope [] kws f fd) (S : FnScope N (ps ++ [pv]) scope)
    (hb : ∀ (kV doc pm : Value) (an : Option Addr) (cdv ct : Value) (us rest : List Value), us.length = ps.length → bindArgs (PySem.W.fnOf x qual params body scope .none kV doc pm an cdv ct) ⟨us ++ rest, []⟩ = (newTuple rest >>= fun t => pure (ps.zip us ++ [(pv, t)])))
    (hbody : ∀ (cdv : Value) (A : Around) (outer : List Env) (s : Shared) (H : Hp) (vs : List V) (Q : VK) (E : XK), Room k (A.deeper (envOfC qual scope s.heap.objs.size f cdv)) → sp vs H Q E →
      ∃ t, PSs (cxOf (L2.CX P w) P w K mg base N qual scope f cdv A outer s H E) body t ∧ t { nx := fun _ H' => Q .non H', rt := Q } (L2.start N vs) H) :
    FR P w K mg base (k + 1) f (fun vs H Q E => ∃ ws rest, vs = ws ++ rest ∧ ws.length = ps.length ∧ rest.length ≤ sizeLine ∧ ∀ p, H p = Option.none → sp (ws ++ [V.ref p]) (upd H p (.tup rest)) Q E) := by
  obtain ⟨oc, od, dV, kV, doc, pm, an, cdv, ct, osl, e1, lk, hcd, hD, hK⟩ := F.ex
  rcases hD with ⟨_, e2⟩ | ⟨e2, _⟩
  · subst e1 e2
    exact fn_star lk hcd S cxUp (hb kV doc pm an cdv ct) fun A outer s H vs Q E hr h => hbody cdv A outer s H vs Q E hr h
  · exact absurd rfl e2

section
variable {α β : Type} {R : α → β → Prop}
theorem zip_get {as : List α} {bs : List β} {i : Nat} {a : α} {b : β} (ha : as[i]? = some a) (hb : bs[i]? = some b) : (as.zip bs)[i]? = some (a, b) := by
  rw [List.getElem?_zip_eq_some]
  exact ⟨ha, hb⟩
theorem paired_zip : ∀ {as : List α} {bs : List β}, Paired R as bs → (as.zip bs).map (·.1) = as ∧ (as.zip bs).map (·.2) = bs ∧ ∀ q ∈ as.zip bs, R q.1 q.2
  | _, _, .nil => ⟨rfl, rfl, fun q h => by simp at h⟩
  | _, _, .cons r t => by
    obtain ⟨h1, h2, h3⟩ := paired_zip t
    refine ⟨by simp [h1], by simp [h2], fun q hq => ?_⟩
    rw [List.zip_cons_cons] at hq
    rcases List.mem_cons.mp hq with e | e
    · rw [e]
      exact r
    · exact h3 q e
theorem paired_of {zs : List (α × β)} (h : ∀ q ∈ zs, R q.1 q.2) : Paired R (zs.map (·.1)) (zs.map (·.2)) := by
  induction zs with
  | nil => exact .nil
  | cons z r ih => exact .cons (h z (by simp)) (ih fun q hq => h q (by simp [hq]))
end
theorem mk_same {H : Hp} {x dx : Addr} {o u : HO} (hx : H x = none) (hd : H dx = none) (ne : dx ≠ x) : Same H (upd (upd H dx o) x u) := (same_upd hd).trans (same_upd (by rw [upd_ne (Ne.symm ne)]; exact hx))
theorem mk_end {H H' : Hp} {x dx : Addr} {o u : HO} (hx : H x = none) (hd : H dx = none) (ne : dx ≠ x) (k : ∀ c v, c ≠ x → upd (upd H dx o) x u c = some v → H' c = some v) : Same H H' := fun c v e =>
  k c v (ne_of_none e hx) (mk_same hx hd ne c v e)
theorem if_pos_ {c : Prop} {d : Decidable c} {A B : Prop} (h : c) (a : A) : if c then A else B := (if_pos h).mpr a
theorem if_neg_ {c : Prop} {d : Decidable c} {A B : Prop} (h : ¬ c) (b : B) : if c then A else B := (if_neg h).mpr b
end Wy
set_option Elab.async false
set_option linter.all false
set_option maxRecDepth 100000
set_option maxHeartbeats 0
namespace Wy
open PySem PySem.Spec PyProof.Rows L2 StX
def LET : Str := "abcdefghijklmnopqrstuvwxyz"
def DIG : Str := "0123456789"
def letB (c : Nat) : Bool := decide (c ∈ LET.cps.toList)
def digB (c : Nat) : Bool := decide (c ∈ DIG.cps.toList)
def nameB (z : Str) : Bool := match z.cps.toList with
  | [] => false
  | c :: r => decide ((c :: r).length ≤ 6) && (letB c && (c :: r).all fun d => letB d || digB d)
section
variable {P : Program} {w : World} {K : PySem.W.Frag} {mg : Str → Option Value} {base : Heap}
theorem sc_is_whole : FnScope ["value"] ["value"] (defScope s_is_whole) := ⟨rfl, rfl, rfl, by decide +kernel, rfl, by decide +kernel, by decide +kernel⟩
def sp_is_whole : Sp := fun vs H Q _ => ∃ i : Int, vs = [.int i] ∧ Q (.bl true) H
theorem ok_is_whole (T : W0 P w K mg) : GFn P w K mg base 1 "is_whole" sp_is_whole := by
  obtain ⟨fd, F⟩ := T.d_is_whole
  refine ⟨T.g_is_whole, F.kp, F.fr sc_is_whole (fun _ _ _ _ _ _ us hl => match us, hl with | [_], _ => rfl) (fun vs H Q E h => by first | (obtain ⟨rfl, _⟩ := h; rfl) | (obtain ⟨_, rfl, _⟩ := h; rfl) | (obtain ⟨_, _, rfl, _⟩ := h; rfl) | (obtain ⟨_, _, _, rfl, _⟩ := h; rfl) | (obtain ⟨_, _, _, _, rfl, _⟩ := h; rfl) | (obtain ⟨_, _, _, _, _, rfl, _⟩ := h; rfl) | (obtain ⟨_, _, _, _, _, _, rfl, _⟩ := h; rfl) | (obtain ⟨_, _, _, _, _, _, _, rfl, _⟩ := h; rfl) | (obtain ⟨_, _, _, _, _, _, _, _, rfl, _⟩ := h; rfl) | (obtain ⟨_, _, _, _, _, _, _, _, _, rfl, _⟩ := h; rfl)) fun cdv A outer s H vs Q E hr h => ⟨_, (pss_one (ps_ret (pe_and (pe_callB (kIsi (K := K) rfl) (by rfl) T.f_isinstance (by decide +kernel) (pa_cons (pv 0) (pa_cons (pe_bltn (v := .ty "int") (by rfl) T.f_int (by decide +kernel) rfl) pa_nil))) (pe_one (pe_not (pe_callB (kIsi (K := K) rfl) (by rfl) T.f_isinstance (by decide +kernel) (pa_cons (pv 0) (pa_cons (pe_bltn (v := .ty "bool") (by rfl) T.f_bool (by decide +kernel) rfl) pa_nil)))))))), ?_⟩⟩
  obtain ⟨i, rfl, hQ⟩ := h
  refine ⟨_, rfl, _, _, _, _, _, rfl, .ty "int", .base (.int i), kit_ty (by decide +kernel), true, rfl, ?_⟩
  rw [if_pos rfl]
  refine ⟨_, rfl, _, _, _, _, _, rfl, .ty "bool", .base (.int i), kit_ty (by decide +kernel), false, rfl, ?_⟩
  exact hQ

theorem sc_is_name : FnScope ["text", "sign"] ["text"] (defScope s_is_name) := ⟨rfl, rfl, rfl, by decide +kernel, rfl, by decide +kernel, by decide +kernel⟩
def sp_is_name : Sp := fun vs H Q _ => ∃ z : Str, vs = [.str z] ∧ z.length ≤ 1000 ∧ ∀ H', Same H H' → Q (.bl (nameB z)) H'
theorem ok_is_name (T : W0 P w K mg) : GFn P w K mg base 1 "is_name" sp_is_name := by
  obtain ⟨fd, F⟩ := T.d_is_name
  refine ⟨T.g_is_name, F.kp, F.fr sc_is_name (fun _ _ _ _ _ _ us hl => match us, hl with | [_], _ => rfl) (fun vs H Q E h => by first | (obtain ⟨rfl, _⟩ := h; rfl) | (obtain ⟨_, rfl, _⟩ := h; rfl) | (obtain ⟨_, _, rfl, _⟩ := h; rfl) | (obtain ⟨_, _, _, rfl, _⟩ := h; rfl) | (obtain ⟨_, _, _, _, rfl, _⟩ := h; rfl) | (obtain ⟨_, _, _, _, _, rfl, _⟩ := h; rfl) | (obtain ⟨_, _, _, _, _, _, rfl, _⟩ := h; rfl) | (obtain ⟨_, _, _, _, _, _, _, rfl, _⟩ := h; rfl) | (obtain ⟨_, _, _, _, _, _, _, _, rfl, _⟩ := h; rfl) | (obtain ⟨_, _, _, _, _, _, _, _, _, rfl, _⟩ := h; rfl)) fun cdv A outer s H vs Q E hr h => ⟨_, (pss_cons (ps_if (PW.pt (pw_or (pt_not (pt_chain op_lt op_le pe_int (pe_callB call_len_str (by rfl) T.f_len PySem.boot_len (pa_cons (pv 0) pa_nil)) (eGi T.i_LONGEST))) (pw_or1 (pt_cmpR op_notIn_sign (pe_ix ix_str (pv 0) pe_int (fun _ _ => rfl)) (eGs T.s_LETTERS) (by rfl))))) (pss_one (ps_ret pe_bl)) pss_nil) (pss_one (ps_ret (pe_callB (kAll (K := K) rfl rfl) (by rfl) T.f_all (by decide +kernel) (pa_cons (pe_lc (own := [("sign", 1)]) (by rfl) sc_is_name.nd (pi_str (pv 0)) (blkOk_by (own := [("sign", 1)]) (N := ["text", "sign"]) (sc := defScope s_is_name) (by decide +kernel)) (fun _ _ _ _ _ => (pg_name (i := 1) sc_is_name.nd rfl (Or.inl rfl))) (fun _ _ _ _ _ => pts_nil) (fun _ _ _ _ _ => (pe_or (pe_cmpR op_in_sign (pv 1) (eGs T.s_LETTERS) (by rfl)) (pe_one (pe_cmpR op_in_sign (pv 1) (eGs T.s_DIGITS) (by rfl)))))) pa_nil))))), ?_⟩⟩
  obtain ⟨z, rfl, hz, hQ⟩ := h
  obtain ⟨⟨cs⟩⟩ := z
  have hz2 : (⟨⟨cs⟩⟩ : Str).length ≤ sizeLine := le_size (by omega)
  have hlen : (⟨⟨cs⟩⟩ : Str).length = cs.length := rfl
  have no : nameB ⟨⟨cs⟩⟩ = false → Q (.bl false) H := fun e => by
    have z := hQ H same_rfl
    rw [e] at z
    exact z
  refine ⟨_, rfl, _, rfl, hz2, _, _, rfl, rfl, _, rfl, ?_⟩
  refine iteD (fun h1 => ⟨_, _, rfl, rfl, _, rfl, iteB (fun h6 => iteB (fun h7 => ?_) fun h7 => ?_) fun h6 => ?_⟩) (fun h1 => ⟨_, rfl, iteY rfl (iteY rfl (no ?_))⟩)
  · refine no ?_
    unfold nameB
    simp only [Bool.not_eq_true', decide_eq_false_iff_not, hlen] at h6
    cases cs with
    | nil => rfl
    | cons c r =>
      dsimp only
      rw [decide_eq_false (by omega)]
      rfl
  · cases h7
  · cases cs with
    | nil => simp [Str.length] at h1
    | cons c r =>
      refine ⟨_, rfl, _, _, c, rfl, rfl, hz2, atI_nat (j := 0) rfl, c, _, rfl, rfl, _, rfl, iteB (fun hc => ?_) fun hc => ?_⟩
      · refine no ?_
        unfold nameB
        dsimp only
        have e : letB c = false := by
          have z : (!letB c) = true := hc
          simpa using z
        rw [e, Bool.false_and, Bool.and_false]
      · have hc2 : letB c = true := by
          have z : (!letB c) = false := hc
          simpa using z
        have h62 : (c :: r).length ≤ 6 := by
          have z : (!decide (((c :: r).length : Int) ≤ 6)) = false := h6
          simp only [Bool.not_eq_false', decide_eq_true_eq] at z
          omega
        refine ⟨_, rfl, _, rfl, fun D hD => ?_⟩
        refine lc_acc walk_str hD (fun i => (((c :: r).take i).map fun d => letB d || digB d).map V.bl) rfl (fun i hi => lt_size (by rw [List.length_map, List.length_map, List.length_take]; omega)) (fun _ _ => trivial) (fun i x H1 H2 hi sm y Yes No hy hn => ?_) fun H2 sm e => ?_
        · obtain ⟨eH, d, ed, ex⟩ := y
          subst eH ex
          replace ed : (c :: r)[i]? = some d := by simpa using ed
          refine ⟨rfl, _, rfl, d, _, rfl, rfl, _, rfl, iteB (fun e1 => hy _ _ same_rfl ?_) fun e1 => ⟨_, rfl, d, _, rfl, rfl, hy _ _ same_rfl ?_⟩⟩
          · have z : letB d = true := e1
            rw [take_snoc ed, List.map_append, List.map_append]
            simp only [List.map_cons, List.map_nil, z, Bool.true_or]
          · have z : letB d = false := e1
            rw [take_snoc ed, List.map_append, List.map_append]
            simp only [List.map_cons, List.map_nil, z, Bool.false_or]
            rfl
        · refine ⟨_, _, rfl, SqL.of e, ?_⟩
          have z : nameB ⟨⟨c :: r⟩⟩ = (((c :: r).take (c :: r).length).map fun d => letB d || digB d).all id := by
            unfold nameB
            dsimp only
            rw [decide_eq_true h62, hc2, Bool.true_and, Bool.true_and, List.take_length, List.all_map]
            rfl
          have z2 := hQ H2 sm
          rw [z] at z2
          exact z2
  · cases cs with
    | nil => rfl
    | cons c r => simp [Str.length] at h1
end
end Wy
set_option Elab.async false
set_option linter.all false
set_option maxRecDepth 100000
set_option maxHeartbeats 0
namespace Wy
open PySem PySem.Spec PyProof.Rows L2 StX
def Good (xs : List Str) : Prop := (∀ z ∈ xs, nameB z = true) ∧ xs.Nodup
theorem Good.nil : Good [] := ⟨fun _ h => by simp at h, List.nodup_nil⟩
theorem good_snoc {xs : List Str} {z : Str} : Good (xs ++ [z]) ↔ Good xs ∧ nameB z = true ∧ z ∉ xs := by
  constructor
  · rintro ⟨h1, h2⟩
    rw [List.nodup_append] at h2
    exact ⟨⟨fun y hy => h1 y (List.mem_append_left _ hy), h2.1⟩, h1 z (by simp), fun hz => h2.2.2 z hz z (by simp) rfl⟩
  · rintro ⟨⟨h1, h2⟩, h3, h4⟩
    refine ⟨fun y hy => ?_, ?_⟩
    · rcases List.mem_append.mp hy with q | q
      · exact h1 y q
      · rw [List.mem_singleton.mp q]
        exact h3
    · rw [List.nodup_append]
      exact ⟨h2, by simp, fun y hy v hv => by
        rw [List.mem_singleton.mp hv]
        exact fun e => h4 (e ▸ hy)⟩
theorem Good.of_append {xs ys : List Str} (h : Good (xs ++ ys)) : Good xs := ⟨fun z hz => h.1 z (List.mem_append_left _ hz), (List.nodup_append.mp h.2).1⟩
/-- the ends and the span of a tie -/
def TieOk (ps : List Str) (t : Tie) : Prop := t.2.1 ∈ ps ∧ t.2.2.1 ∈ ps ∧ t.2.1 ≠ t.2.2.1 ∧ 0 ≤ t.2.2.2.1 ∧ t.2.2.2.1 ≤ t.2.2.2.2
structure Valid (w : Wb) : Prop where
  ne : w.1 ≠ []
  posts : Good w.1
  ties : Good (w.2.map (·.1))
  ok : ∀ t ∈ w.2, TieOk w.1 t
/-- what the code needs of sizes -/
structure Lim (w : Wb) : Prop where
  p : w.1.length ≤ 1000
  t : w.2.length ≤ 1000
  z : ∀ z ∈ w.1, z.length ≤ 1000
  tz : ∀ t ∈ w.2, t.1.length ≤ 1000
open Classical in
noncomputable def chk (w : Wb) : Option Wb := if Valid w then some w else none
def names (w : Wb) : List Str := w.2.map (·.1)
open Classical in
noncomputable def apply (w : Wb) : Chg → Option Wb
  | .tie t => chk (w.1, w.2 ++ [t])
  | .cut n => if n ∈ names w then chk (w.1, w.2.filter fun t => decide (t.1 ≠ n)) else none
  | .change n lo hi => if n ∈ names w ∧ 0 ≤ lo ∧ lo ≤ hi then chk (w.1, w.2.map fun t => if t.1 = n then (n, t.2.1, t.2.2.1, lo, hi) else t) else none
  | .post n => chk (w.1 ++ [n], w.2)
theorem chk_some {w w' : Wb} (h : chk w = some w') : w' = w ∧ Valid w := by
  unfold chk at h
  split at h
  · rename_i v
    cases h
    exact ⟨rfl, v⟩
  · cases h
theorem chk_yes {w : Wb} (h : Valid w) : chk w = some w := if_pos h
theorem chk_no {w : Wb} (h : ¬ Valid w) : chk w = none := if_neg h
/-- an exception of the changes: its class, its fields -/
def XOk (K : PySem.W.Frag) (cls : Value) (d : Option Addr) (H : Hp) : Prop :=
  (cls = .ref (He.ga K "InvalidWeb") ∧ ∃ dd x y, d = some dd ∧ H dd = some (.xd [("index", y), ("reason", x)])) ∨
  (cls = .ref (He.ga K "InvalidSpan") ∧ ∃ dd x y, d = some dd ∧ H dd = some (.xd [("high", y), ("low", x)])) ∨
  (cls = .ref (He.ga K "UnknownTie") ∧ ∃ dd x, d = some dd ∧ H dd = some (.xd [("name", x)]))
/-- the common end of what may raise: nothing that stood is changed -/
abbrev Xs (K : PySem.W.Frag) (H : Hp) (E : XK) : Prop := ∀ cls d H', Same H H' → XOk K cls d H' → E cls d H'
theorem inV_str {z : Str} {xs : List Str} : inV (.str z) (xs.map V.str) = decide (z ∈ xs) := by
  unfold inV
  rw [List.any_map]
  induction xs with
  | nil => rfl
  | cons x r ih =>
    rw [List.any_cons, ih]
    by_cases h : x = z
    · subst h
      simp [eqV]
    · have h2 : z ≠ x := fun e => h e.symm
      simp [eqV, h, h2]
theorem flat_str {xs : List Str} : (xs.map V.str).all flatV = true := by
  rw [List.all_map]
  exact List.all_eq_true.mpr fun x _ => rfl
end Wy
set_option Elab.async false
set_option linter.all false
set_option maxRecDepth 100000
set_option maxHeartbeats 0
namespace Wy
open PySem PySem.Spec PyProof.Rows L2 StX
section
variable {P : Program} {w : World} {K : PySem.W.Frag} {mg : Str → Option Value} {base : Heap}
theorem xs_InvalidSpan : ExScope ["self", "low", "high"] ["self", "low", "high"] (defScope s_InvalidSpan_init) := ⟨rfl, rfl, rfl, by decide +kernel, rfl, by decide +kernel, by decide +kernel, by decide +kernel, rfl, rfl⟩
theorem ok_InvalidSpan (T : W0 P w K mg) : XFn P w K mg base 1 "InvalidSpan" ["low", "high"] := by
  refine ⟨T.g_InvalidSpan, ⟨_, _, _, _, _, T.x_InvalidSpan⟩, T.xi_InvalidSpan.1, T.xi_InvalidSpan.2, ?_⟩
  have z := exInit (base := base) (mg := mg) (w := w) (k := 0) (N := ["self", "low", "high"]) (sp := spEx (He.ga K "InvalidSpan") ["low", "high"]) T.x_InvalidSpan T.xF_InvalidSpan xs_InvalidSpan rfl rfl rfl (fun env => rfl) (fun kV doc pm an cda ct cc us hl => match us, hl with | [_, _, _], _ => rfl)
    (fun cda cc A outer s H vs Q E h => ⟨_, (pss_cons (eX1 T.x_InvalidSpan (T.xf_InvalidSpan.2 "low" (by simp)) (pv 0) (pv 1)) (pss_one (eX2 T.x_InvalidSpan (T.xf_InvalidSpan.2 "high" (by simp)) (pv 0) (pv 2)))), ?_⟩)
  · refine FnR.imp z fun vs H Q E h => ?_
    obtain ⟨a, ws, rfl, hl, ea, q⟩ := h
    exact ⟨a, ws, rfl, by simp at hl ⊢; exact hl, ea, ⟨a, ws, rfl, hl, ea, q⟩⟩
  · obtain ⟨a, ws, rfl, hl, ea, q⟩ := h
    match ws, hl with
    | [v0, v1], _ =>
      refine ⟨_, rfl, _, rfl, a, rfl, ea, fun dx hd ne => ?_⟩
      refine ⟨_, rfl, _, rfl, a, dx, _, rfl, upd_same, by rw [upd_ne ne, upd_same], (by show 1 ≤ 900; decide), ?_⟩
      exact q _ dx (by rw [upd_ne (Ne.symm ne), upd_same]) (by rw [upd_same]; rfl) hd ne fun b o nb e => by rw [upd_ne (ne_of_none e hd), upd_ne nb, upd_ne (ne_of_none e hd)]; exact e
theorem xs_InvalidWeb : ExScope ["self", "reason", "index"] ["self", "reason", "index"] (defScope s_InvalidWeb_init) := ⟨rfl, rfl, rfl, by decide +kernel, rfl, by decide +kernel, by decide +kernel, by decide +kernel, rfl, rfl⟩
theorem ok_InvalidWeb (T : W0 P w K mg) : XFn P w K mg base 1 "InvalidWeb" ["reason", "index"] := by
  refine ⟨T.g_InvalidWeb, ⟨_, _, _, _, _, T.x_InvalidWeb⟩, T.xi_InvalidWeb.1, T.xi_InvalidWeb.2, ?_⟩
  have z := exInit (base := base) (mg := mg) (w := w) (k := 0) (N := ["self", "reason", "index"]) (sp := spEx (He.ga K "InvalidWeb") ["reason", "index"]) T.x_InvalidWeb T.xF_InvalidWeb xs_InvalidWeb rfl rfl rfl (fun env => rfl) (fun kV doc pm an cda ct cc us hl => match us, hl with | [_, _, _], _ => rfl)
    (fun cda cc A outer s H vs Q E h => ⟨_, (pss_cons (eX1 T.x_InvalidWeb (T.xf_InvalidWeb.2 "reason" (by simp)) (pv 0) (pv 1)) (pss_one (eX2 T.x_InvalidWeb (T.xf_InvalidWeb.2 "index" (by simp)) (pv 0) (pv 2)))), ?_⟩)
  · refine FnR.imp z fun vs H Q E h => ?_
    obtain ⟨a, ws, rfl, hl, ea, q⟩ := h
    exact ⟨a, ws, rfl, by simp at hl ⊢; exact hl, ea, ⟨a, ws, rfl, hl, ea, q⟩⟩
  · obtain ⟨a, ws, rfl, hl, ea, q⟩ := h
    match ws, hl with
    | [v0, v1], _ =>
      refine ⟨_, rfl, _, rfl, a, rfl, ea, fun dx hd ne => ?_⟩
      refine ⟨_, rfl, _, rfl, a, dx, _, rfl, upd_same, by rw [upd_ne ne, upd_same], (by show 1 ≤ 900; decide), ?_⟩
      exact q _ dx (by rw [upd_ne (Ne.symm ne), upd_same]) (by rw [upd_same]; rfl) hd ne fun b o nb e => by rw [upd_ne (ne_of_none e hd), upd_ne nb, upd_ne (ne_of_none e hd)]; exact e
theorem xs_Rejected : ExScope ["self", "index"] ["self", "index"] (defScope s_Rejected_init) := ⟨rfl, rfl, rfl, by decide +kernel, rfl, by decide +kernel, by decide +kernel, by decide +kernel, rfl, rfl⟩
theorem ok_Rejected (T : W0 P w K mg) : XFn P w K mg base 1 "Rejected" ["index"] := by
  refine ⟨T.g_Rejected, ⟨_, _, _, _, _, T.x_Rejected⟩, T.xi_Rejected.1, T.xi_Rejected.2, ?_⟩
  have z := exInit (base := base) (mg := mg) (w := w) (k := 0) (N := ["self", "index"]) (sp := spEx (He.ga K "Rejected") ["index"]) T.x_Rejected T.xF_Rejected xs_Rejected rfl rfl rfl (fun env => rfl) (fun kV doc pm an cda ct cc us hl => match us, hl with | [_, _], _ => rfl)
    (fun cda cc A outer s H vs Q E h => ⟨_, (pss_one (eX1 T.x_Rejected (T.xf_Rejected.2 "index" (by simp)) (pv 0) (pv 1))), ?_⟩)
  · refine FnR.imp z fun vs H Q E h => ?_
    obtain ⟨a, ws, rfl, hl, ea, q⟩ := h
    exact ⟨a, ws, rfl, by simp at hl ⊢; exact hl, ea, ⟨a, ws, rfl, hl, ea, q⟩⟩
  · obtain ⟨a, ws, rfl, hl, ea, q⟩ := h
    match ws, hl with
    | [v0], _ =>
      refine ⟨_, rfl, _, rfl, a, rfl, ea, fun dx hd ne => ?_⟩
      exact q _ dx upd_same (by rw [upd_ne ne, upd_same]; rfl) hd ne fun b o nb e => by rw [upd_ne nb, upd_ne (ne_of_none e hd)]; exact e
theorem xs_UnknownTie : ExScope ["self", "name"] ["self", "name"] (defScope s_UnknownTie_init) := ⟨rfl, rfl, rfl, by decide +kernel, rfl, by decide +kernel, by decide +kernel, by decide +kernel, rfl, rfl⟩
theorem ok_UnknownTie (T : W0 P w K mg) : XFn P w K mg base 1 "UnknownTie" ["name"] := by
  refine ⟨T.g_UnknownTie, ⟨_, _, _, _, _, T.x_UnknownTie⟩, T.xi_UnknownTie.1, T.xi_UnknownTie.2, ?_⟩
  have z := exInit (base := base) (mg := mg) (w := w) (k := 0) (N := ["self", "name"]) (sp := spEx (He.ga K "UnknownTie") ["name"]) T.x_UnknownTie T.xF_UnknownTie xs_UnknownTie rfl rfl rfl (fun env => rfl) (fun kV doc pm an cda ct cc us hl => match us, hl with | [_, _], _ => rfl)
    (fun cda cc A outer s H vs Q E h => ⟨_, (pss_one (eX1 T.x_UnknownTie (T.xf_UnknownTie.2 "name" (by simp)) (pv 0) (pv 1))), ?_⟩)
  · refine FnR.imp z fun vs H Q E h => ?_
    obtain ⟨a, ws, rfl, hl, ea, q⟩ := h
    exact ⟨a, ws, rfl, by simp at hl ⊢; exact hl, ea, ⟨a, ws, rfl, hl, ea, q⟩⟩
  · obtain ⟨a, ws, rfl, hl, ea, q⟩ := h
    match ws, hl with
    | [v0], _ =>
      refine ⟨_, rfl, _, rfl, a, rfl, ea, fun dx hd ne => ?_⟩
      exact q _ dx upd_same (by rw [upd_ne ne, upd_same]; rfl) hd ne fun b o nb e => by rw [upd_ne nb, upd_ne (ne_of_none e hd)]; exact e
end
end Wy
set_option Elab.async false
set_option linter.all false
set_option maxRecDepth 100000
set_option maxHeartbeats 0
namespace Wy
open PySem PySem.Spec PyProof.Rows L2 StX
def dTie (t : Tie) : PyData := .tuple [.str t.1, .str t.2.1, .str t.2.2.1, .int t.2.2.2.1, .int t.2.2.2.2]
def dTies (ts : List Tie) : PyData := .tuple (ts.map dTie)
def dPosts (xs : List Str) : PyData := .tuple (xs.map .str)
def Chg.data : Chg → List PyData
  | .tie t => [.str "tie", .str t.1, .str t.2.1, .str t.2.2.1, .int t.2.2.2.1, .int t.2.2.2.2]
  | .cut n => [.str "cut", .str n]
  | .change n lo hi => [.str "change", .str n, .int lo, .int hi]
  | .post n => [.str "post", .str n]
def dChg (c : Chg) : PyData := .tuple c.data
def dLog (cs : List Chg) : PyData := .list (cs.map dChg)
theorem letB_lt {c : Nat} (h : letB c = true) : c < 128 := by
  have h2 : c ∈ LET.cps.toList := of_decide_eq_true h
  have h3 : ∀ d ∈ LET.cps.toList, d < 128 := by decide +kernel
  exact h3 c h2
theorem digB_lt {c : Nat} (h : digB c = true) : c < 128 := by
  have h2 : c ∈ DIG.cps.toList := of_decide_eq_true h
  have h3 : ∀ d ∈ DIG.cps.toList, d < 128 := by decide +kernel
  exact h3 c h2
theorem nameB_all {z : Str} (h : nameB z = true) : 0 < z.cps.toList.length ∧ z.cps.toList.length ≤ 6 ∧ (∀ c, z.cps.toList[0]? = some c → letB c = true) ∧ ∀ c ∈ z.cps.toList, (letB c || digB c) = true := by
  unfold nameB at h
  split at h
  · cases h
  · rename_i c r e
    simp only [Bool.and_eq_true, decide_eq_true_eq, List.all_eq_true] at h
    rw [e]
    refine ⟨by simp, h.1, fun d hd => ?_, h.2.2⟩
    simp at hd
    subst hd
    exact h.2.1
theorem strOk_name {z : Str} (h : nameB z = true) : PyData.strOk z = true := by
  have h2 := (nameB_all h).2.2.2
  unfold PyData.strOk
  rw [← Array.all_toList]
  refine List.all_eq_true.mpr fun c hc => ?_
  have h3 := h2 c hc
  simp only [Bool.or_eq_true] at h3
  refine decide_eq_true ?_
  rcases h3 with q | q
  · have := letB_lt q
    omega
  · have := digB_lt q
    omega
section
variable {K : PySem.W.Frag} {H : Hp}
theorem dp_strs {xs : List Str} : DpAll K H (xs.map V.str) (xs.map PyData.str) := by
  induction xs with
  | nil => exact .nil
  | cons x r ih => exact .cons (.str x) ih
theorem dp_posts {a : Addr} {xs : List Str} (h : PostsAt H a xs) : Dp K H (.ref a) (dPosts xs) := .tup (SqT.of h) dp_strs
theorem dp_tie {a : Addr} {t : Tie} (h : TieAt H a t) : Dp K H (.ref a) (dTie t) := .tup (SqT.of h) (.cons (.str _) (.cons (.str _) (.cons (.str _) (.cons (.int _) (.cons (.int _) .nil)))))
theorem dp_all {α : Type} {R : Addr → α → Prop} {d : α → PyData} (h : ∀ a x, R a x → Dp K H (.ref a) (d x)) : ∀ {as : List Addr} {xs : List α}, Paired R as xs → DpAll K H (as.map V.ref) (xs.map d)
  | _, _, .nil => .nil
  | _, _, .cons r t => .cons (h _ _ r) (dp_all h t)
theorem dp_ties {a : Addr} {ts : List Tie} (h : TiesAt H a ts) : Dp K H (.ref a) (dTies ts) := by
  obtain ⟨as, e, p⟩ := h
  exact .tup (SqT.of e) (dp_all (fun _ _ q => dp_tie q) p)
theorem dp_chg {a : Addr} {c : Chg} (h : ChgAt H a c) : Dp K H (.ref a) (dChg c) := by
  cases c with
  | tie t => exact .tup (SqT.of h) (.cons (.str _) (.cons (.str _) (.cons (.str _) (.cons (.str _) (.cons (.int _) (.cons (.int _) .nil))))))
  | cut n => exact .tup (SqT.of h) (.cons (.str _) (.cons (.str _) .nil))
  | change n lo hi => exact .tup (SqT.of h) (.cons (.str _) (.cons (.str _) (.cons (.int _) (.cons (.int _) .nil))))
  | post n => exact .tup (SqT.of h) (.cons (.str _) (.cons (.str _) .nil))
theorem dp_log {a : Addr} {as : List Addr} {cs : List Chg} (h : H a = some (.lst (as.map V.ref))) (p : Paired (ChgAt H) as cs) : Dp K H (.ref a) (dLog cs) := .lst (SqL.of h) (dp_all (fun _ _ q => dp_chg q) p)
end
theorem eqvAll_map {α : Type} [DecidableEq α] (d : α → PyData) (h : ∀ x y, PyData.eqv (d x) (d y) = decide (x = y)) : ∀ xs ys : List α, PyData.eqvAll (xs.map d) (ys.map d) = decide (xs = ys)
  | [], [] => by simp [PyData.eqvAll]
  | [], _ :: _ => by simp [PyData.eqvAll]
  | _ :: _, [] => by simp [PyData.eqvAll]
  | x :: xs, y :: ys => by
    simp only [List.map_cons, PyData.eqvAll, h, eqvAll_map d h xs ys]
    by_cases e1 : x = y <;> by_cases e2 : xs = ys <;> simp [e1, e2]
theorem eqv_posts (xs ys : List Str) : PyData.eqv (dPosts xs) (dPosts ys) = decide (xs = ys) := by
  unfold dPosts
  rw [PyData.eqv]
  exact eqvAll_map _ (fun x y => by rw [PyData.eqv]; exact Bool.beq_eq_decide_eq x y) xs ys
theorem eqv_tie (t u : Tie) : PyData.eqv (dTie t) (dTie u) = decide (t = u) := by
  obtain ⟨a, b, c, d, e⟩ := t
  obtain ⟨a', b', c', d', e'⟩ := u
  simp only [dTie, PyData.eqv, PyData.eqvAll, Bool.beq_eq_decide_eq, Bool.and_true]
  by_cases h1 : a = a' <;> by_cases h2 : b = b' <;> by_cases h3 : c = c' <;> by_cases h4 : d = d' <;> by_cases h5 : e = e' <;> simp [h1, h2, h3, h4, h5]
theorem eqv_ties (ts us : List Tie) : PyData.eqv (dTies ts) (dTies us) = decide (ts = us) := by
  unfold dTies
  rw [PyData.eqv]
  exact eqvAll_map _ eqv_tie ts us
theorem sh_all {α : Type} (d : α → PyData) {xs : List α} (h : ∀ x ∈ xs, (d x).canLay0 = true) : PyData.canLayAll0 (xs.map d) = true := by
  induction xs with
  | nil => rfl
  | cons x r ih =>
    rw [List.map_cons, PyData.canLayAll0, h x (by simp), ih fun y hy => h y (by simp [hy])]
    rfl
theorem dep_all {α : Type} (d : α → PyData) {n : Nat} {xs : List α} (h : ∀ x ∈ xs, (d x).depth ≤ n) : PyData.depthAll (xs.map d) ≤ n := by
  induction xs with
  | nil => rw [List.map_nil, PyData.depthAll]; exact Nat.zero_le _
  | cons x r ih =>
    rw [List.map_cons, PyData.depthAll]
    exact Nat.max_le.mpr ⟨h x (by simp), ih fun y hy => h y (by simp [hy])⟩
/-- the texts of a change are well -/
def TxtOk (z : Str) : Prop := PyData.strOk z = true
def Chg.txt : Chg → Prop
  | .tie t => TxtOk t.1 ∧ TxtOk t.2.1 ∧ TxtOk t.2.2.1
  | .cut n => TxtOk n
  | .change n _ _ => TxtOk n
  | .post n => TxtOk n
theorem sh_posts {xs : List Str} (h : ∀ z ∈ xs, TxtOk z) : SeqAt.shaped (dPosts xs) = true := by
  unfold SeqAt.shaped dPosts
  rw [PyData.canLay0, sh_all _ fun z hz => by rw [PyData.canLay0]; exact h z hz, Bool.true_and]
  refine decide_eq_true ?_
  rw [PyData.depth]
  have := dep_all (n := 0) PyData.str (xs := xs) fun z _ => by rw [PyData.depth]; exact Nat.le_refl _
  omega
theorem lay_tie {t : Tie} (h1 : TxtOk t.1) (h2 : TxtOk t.2.1) (h3 : TxtOk t.2.2.1) : (dTie t).canLay0 = true := by
  have h1 : PyData.strOk t.1 = true := h1
  have h2 : PyData.strOk t.2.1 = true := h2
  have h3 : PyData.strOk t.2.2.1 = true := h3
  simp only [dTie, PyData.canLay0, PyData.canLayAll0, h1, h2, h3, Bool.and_self]
theorem sh_ties {ts : List Tie} (h : ∀ t ∈ ts, TxtOk t.1 ∧ TxtOk t.2.1 ∧ TxtOk t.2.2.1) : SeqAt.shaped (dTies ts) = true := by
  unfold SeqAt.shaped dTies
  rw [PyData.canLay0, sh_all _ fun t ht => lay_tie (h t ht).1 (h t ht).2.1 (h t ht).2.2, Bool.true_and]
  refine decide_eq_true ?_
  rw [PyData.depth]
  have := dep_all (n := 1) dTie (xs := ts) fun t _ => by simp only [dTie, PyData.depth, PyData.depthAll]; decide
  omega
theorem valid_posts {w : Wb} (v : Valid w) : ∀ z ∈ w.1, TxtOk z := fun z hz => strOk_name (v.posts.1 z hz)
theorem valid_ties {w : Wb} (v : Valid w) : ∀ t ∈ w.2, TxtOk t.1 ∧ TxtOk t.2.1 ∧ TxtOk t.2.2.1 := fun t ht =>
  ⟨strOk_name (v.ties.1 _ (List.mem_map_of_mem ht)), valid_posts v _ (v.ok t ht).1, valid_posts v _ (v.ok t ht).2.1⟩
theorem lay_chg {c : Chg} (h : c.txt) : (dChg c).canLay0 = true := by
  have k : ∀ z, TxtOk z → PyData.strOk z = true := fun z q => q
  cases c with
  | tie t =>
    have e : PyData.strOk ("tie" : Str) = true := by decide +kernel
    simp only [dChg, Chg.data, PyData.canLay0, PyData.canLayAll0, e, k _ h.1, k _ h.2.1, k _ h.2.2, Bool.and_self]
  | cut n =>
    have e : PyData.strOk ("cut" : Str) = true := by decide +kernel
    simp only [dChg, Chg.data, PyData.canLay0, PyData.canLayAll0, e, k _ h, Bool.and_self]
  | change n lo hi =>
    have e : PyData.strOk ("change" : Str) = true := by decide +kernel
    simp only [dChg, Chg.data, PyData.canLay0, PyData.canLayAll0, e, k _ h, Bool.and_self]
  | post n =>
    have e : PyData.strOk ("post" : Str) = true := by decide +kernel
    simp only [dChg, Chg.data, PyData.canLay0, PyData.canLayAll0, e, k _ h, Bool.and_self]
theorem sh_log {cs : List Chg} (h : ∀ c ∈ cs, c.txt) : SeqAt.shaped (dLog cs) = true := by
  unfold SeqAt.shaped dLog
  rw [PyData.canLay0, sh_all _ fun c hc => lay_chg (h c hc), Bool.true_and]
  refine decide_eq_true ?_
  rw [PyData.depth]
  have := dep_all (n := 1) dChg (xs := cs) fun c _ => by cases c <;> (simp only [dChg, Chg.data, PyData.depth, PyData.depthAll]; decide)
  omega
theorem eqv_log_self {cs : List Chg} (h : ∀ c ∈ cs, c.txt) : PyData.eqv (dLog cs) (dLog cs) = true := SeqAt.eqv_refl _ (SeqAt.canLay_of_shaped (sh_log h))
end Wy
set_option Elab.async false
set_option linter.all false
set_option maxRecDepth 100000
set_option maxHeartbeats 0
namespace Wy
open PySem PySem.Spec PyProof.Rows L2 StX
section
variable {P : Program} {w : World} {K : PySem.W.Frag} {mg : Str → Option Value} {base : Heap}
theorem sc_check_names : FnScope ["names", "reason", "index", "name"] ["names", "reason"] (defScope s_check_names) := ⟨rfl, rfl, rfl, by decide +kernel, rfl, by decide +kernel, by decide +kernel⟩
def sp_check_names (K : PySem.W.Frag) : Sp := fun vs H Q E => ∃ (a : Addr) (xs : List Str) (r : Str), vs = [.ref a, .str r] ∧ PostsAt H a xs ∧ xs.length ≤ 1000 ∧ (∀ z ∈ xs, z.length ≤ 1000) ∧ (Good xs → ∀ H', Same H H' → Q .non H') ∧ (¬ Good xs → Xs K H E)
theorem ok_check_names (T : W0 P w K mg) : GFn P w K mg base 3 "check_names" (sp_check_names K) := by
  obtain ⟨fd, F⟩ := T.d_check_names
  refine ⟨T.g_check_names, F.kp, F.fr sc_check_names (fun _ _ _ _ _ _ us hl => match us, hl with | [_, _], _ => rfl) (fun vs H Q E h => by first | (obtain ⟨rfl, _⟩ := h; rfl) | (obtain ⟨_, rfl, _⟩ := h; rfl) | (obtain ⟨_, _, rfl, _⟩ := h; rfl) | (obtain ⟨_, _, _, rfl, _⟩ := h; rfl) | (obtain ⟨_, _, _, _, rfl, _⟩ := h; rfl) | (obtain ⟨_, _, _, _, _, rfl, _⟩ := h; rfl) | (obtain ⟨_, _, _, _, _, _, rfl, _⟩ := h; rfl) | (obtain ⟨_, _, _, _, _, _, _, rfl, _⟩ := h; rfl) | (obtain ⟨_, _, _, _, _, _, _, _, rfl, _⟩ := h; rfl) | (obtain ⟨_, _, _, _, _, _, _, _, _, rfl, _⟩ := h; rfl)) fun cdv A outer s H vs Q E hr h => ⟨_, (pss_one (ps_for (passes_of rfl) rfl (iEnum1 true (by rfl) T.f_enumerate (pa_cons (pv 0) pa_nil)) (kTupG (K := K) (n := 2) rfl rfl (pgs_cons (pg_name (i := 2) sc_check_names.nd rfl (Or.inl rfl)) (pgs_cons (pg_name (i := 3) sc_check_names.nd rfl (Or.inl rfl)) pgs_nil))) (pss_one (ps_if (PW.pt (pw_or (pt_not (pt_val (eCall (ok_is_name T) (hr.mono (by decide)) passL (by rfl) (pa_cons (pv 3) pa_nil)))) (pw_or1 (pt_cmpR (kIn (K := K) rfl) (pv 3) (pe_slice sl_tupU (pv 0) po_none (po_some (pv 2))) (by rfl))))) (pss_one (eRaise (ok_InvalidWeb T) (hr.mono (by decide)) rfl (takes_of rfl rfl rfl rfl) (by rfl) (by decide) (pa_cons (pv 1) (pa_cons (pv 2) pa_nil)))) pss_nil)))), ?_⟩⟩
  obtain ⟨a, xs, r, rfl, hp, hz, hzz, hg, hb⟩ := h
  refine ⟨_, rfl, a, xs.map V.str, rfl, hp, ?_⟩
  refine for_en (b := true) (xs := xs.map V.str) (fun i σ H' => (∃ o2 o3, σ = [some (.ref a), some (.str r), o2, o3]) ∧ Same H H' ∧ Good (xs.take i)) ⟨⟨_, _, rfl⟩, same_rfl, by rw [List.take_zero]; exact Good.nil⟩ (fun i σ H' _ p => p.2.1 _ _ hp)
    (fun i x Tp σ H' hx p hT => ?_) fun σ H' p => ?_
  · obtain ⟨⟨o2, o3, rfl⟩, sm, gd⟩ := p
    rw [List.getElem?_map] at hx
    obtain ⟨z, hz1, hz2⟩ := Option.map_eq_some_iff.mp hx
    subst hz2
    have zi : i < xs.length := (List.getElem?_eq_some_iff.mp hz1).1
    have zm : z ∈ xs := List.mem_of_getElem? hz1
    have sm2 : Same H (upd H' Tp (.tup [.int (0 + (i : Int)), .str z])) := sm.trans (same_upd hT)
    refine ⟨Tp, _, rfl, SqT.of upd_same, rfl, _, _, rfl, _, _, rfl, rfl, ?_⟩
    refine ⟨_, rfl, z, rfl, hzz z zm, fun H3 sm3 => ⟨_, rfl, iteB (fun e1 => ?_) fun e1 => ?_⟩⟩
    · have e2 : nameB z = false := by simpa using e1
      refine ⟨_, rfl, _, rfl, rfl, fun d H4 hd sm4 e4 => hb (fun g => ?_) _ _ _ ((sm2.trans sm3).trans sm4) (.inl ⟨rfl, _, _, _, rfl, e4⟩)⟩
      rw [g.1 z zm] at e2
      cases e2
    · have e2 : nameB z = true := by simpa using e1
      have sm5 := sm2.trans sm3
      refine ⟨_, rfl, _, rfl, _, rfl, _, rfl, a, _, rfl, sm5 _ _ hp, fun p H4 sm4 e4 => ?_⟩
      have ec : cutV (xs.map V.str) none (some (0 + (i : Int))) = (xs.take i).map V.str := by
        rw [Int.zero_add, cutV_take, List.map_take]
      rw [ec] at e4
      have sm6 := sm5.trans sm4
      refine ⟨p, _, rfl, .inr (SqT.of e4), rfl, flat_str, _, rfl, iteB (fun e5 => ?_) fun e5 => ?_⟩
      · have e6 : inV (.str z) ((xs.take i).map V.str) = true := e5
        rw [inV_str] at e6
        refine ⟨_, rfl, _, rfl, rfl, fun d H5 hd sm7 e7 => hb (fun g => ?_) _ _ _ (sm6.trans sm7) (.inl ⟨rfl, _, _, _, rfl, e7⟩)⟩
        have q : Good (xs.take (i + 1) ++ xs.drop (i + 1)) := by
          rw [List.take_append_drop]
          exact g
        have q2 := q.of_append
        rw [take_snoc hz1] at q2
        exact (good_snoc.mp q2).2.2 (of_decide_eq_true e6)
      · have e6 : inV (.str z) ((xs.take i).map V.str) = false := e5
        rw [inV_str] at e6
        refine ⟨⟨_, _, rfl⟩, sm6, ?_⟩
        rw [take_snoc hz1]
        exact good_snoc.mpr ⟨gd, e2, of_decide_eq_false e6⟩
  · refine hg ?_ H' p.2.1
    have z := p.2.2
    rw [List.length_map, List.take_length] at z
    exact z

theorem sc_is_tie : FnScope ["value", "word", "number"] ["value"] (defScope s_is_tie) := ⟨rfl, rfl, rfl, by decide +kernel, rfl, by decide +kernel, by decide +kernel⟩
def sp_is_tie : Sp := fun vs H Q _ => ∃ (a : Addr) (t : Tie), vs = [.ref a] ∧ TieAt H a t ∧ ∀ H', Same H H' → Q (.bl true) H'
theorem ok_is_tie (T : W0 P w K mg) : GFn P w K mg base 2 "is_tie" sp_is_tie := by
  obtain ⟨fd, F⟩ := T.d_is_tie
  refine ⟨T.g_is_tie, F.kp, F.fr sc_is_tie (fun _ _ _ _ _ _ us hl => match us, hl with | [_], _ => rfl) (fun vs H Q E h => by first | (obtain ⟨rfl, _⟩ := h; rfl) | (obtain ⟨_, rfl, _⟩ := h; rfl) | (obtain ⟨_, _, rfl, _⟩ := h; rfl) | (obtain ⟨_, _, _, rfl, _⟩ := h; rfl) | (obtain ⟨_, _, _, _, rfl, _⟩ := h; rfl) | (obtain ⟨_, _, _, _, _, rfl, _⟩ := h; rfl) | (obtain ⟨_, _, _, _, _, _, rfl, _⟩ := h; rfl) | (obtain ⟨_, _, _, _, _, _, _, rfl, _⟩ := h; rfl) | (obtain ⟨_, _, _, _, _, _, _, _, rfl, _⟩ := h; rfl) | (obtain ⟨_, _, _, _, _, _, _, _, _, rfl, _⟩ := h; rfl)) fun cdv A outer s H vs Q E hr h => ⟨_, (pss_cons (ps_if (PW.pt (pw_or (pt_not (pt_val (pe_callB (kIsi (K := K) rfl) (by rfl) T.f_isinstance (by decide +kernel) (pa_cons (pv 0) (pa_cons (pe_bltn (v := .ty "tuple") (by rfl) T.f_tuple (by decide +kernel) rfl) pa_nil))))) (pw_or1 (pt_cmpR op_ne (pe_callB call_len_seq (by rfl) T.f_len PySem.boot_len (pa_cons (pv 0) pa_nil)) pe_int (nomark _))))) (pss_one (ps_ret pe_bl)) pss_nil) (pss_one (ps_ret (pe_and (pe_callB (kAll (K := K) rfl rfl) (by rfl) T.f_all (by decide +kernel) (pa_cons (pe_lc (own := [("word", 1)]) (by rfl) sc_is_tie.nd (pi_tup (pe_slice sl_tupU (pv 0) po_none (po_some pe_int))) (blkOk_by (own := [("word", 1)]) (N := ["value", "word", "number"]) (sc := defScope s_is_tie) (by decide +kernel)) (fun _ _ _ _ _ => (pg_name (i := 1) sc_is_tie.nd rfl (Or.inl rfl))) (fun _ _ _ _ _ => pts_nil) (fun _ _ _ _ _ => (pe_callB (kIsi (K := K) rfl) (by rfl) T.f_isinstance (by decide +kernel) (pa_cons (pv 1) (pa_cons (pe_bltn (v := .ty "str") (by rfl) T.f_str (by decide +kernel) rfl) pa_nil))))) pa_nil)) (pe_one (pe_callB (kAll (K := K) rfl rfl) (by rfl) T.f_all (by decide +kernel) (pa_cons (pe_lc (own := [("number", 2)]) (by rfl) sc_is_tie.nd (pi_tup (pe_slice sl_tupU (pv 0) (po_some pe_int) po_none)) (blkOk_by (own := [("number", 2)]) (N := ["value", "word", "number"]) (sc := defScope s_is_tie) (by decide +kernel)) (fun _ _ _ _ _ => (pg_name (i := 2) sc_is_tie.nd rfl (Or.inl rfl))) (fun _ _ _ _ _ => pts_nil) (fun _ _ _ _ _ => (eCall (ok_is_whole T) (hr.mono (by decide)) passL (by rfl) (pa_cons (pv 2) pa_nil)))) pa_nil))))))), ?_⟩⟩
  obtain ⟨a, t, rfl, ht, hQ⟩ := h
  refine ⟨_, rfl, _, _, _, _, _, rfl, .ty "tuple", .base (.tup ht), kit_ty (by decide +kernel), true, rfl, ?_⟩
  refine iteN rfl ⟨_, rfl, _, _, rfl, .inr (SqT.of ht), rfl, _, rfl, iteN rfl ?_⟩
  refine ⟨_, rfl, _, rfl, a, _, rfl, ht, fun p H1 sm1 e1 => ⟨p, rfl, ⟨_, SqT.of e1⟩, fun D hD => ?_⟩⟩
  have e1 : H1 p = some (.tup ([t.1, t.2.1, t.2.2.1].map V.str)) := e1
  refine lc_acc walk_tup hD (fun i => (([t.1, t.2.1, t.2.2.1].take i).map fun _ => true).map V.bl) rfl (fun i hi => lt_size (by rw [List.length_map, List.length_map, List.length_take]; simp; omega)) (fun H2 sm2 => SqT.of (sm2 _ _ e1)) (fun i x H2 H3 hi sm2 y Yes No hy hn => ?_) fun H2 sm2 e2 => ?_
  · obtain ⟨eH, ex⟩ := y
    subst eH
    rw [List.getElem?_map] at ex
    obtain ⟨z, ez, ex2⟩ := Option.map_eq_some_iff.mp ex
    subst ex2
    refine ⟨rfl, _, rfl, _, _, _, _, true, rfl, .ty "str", .base (.str z), kit_ty (by decide +kernel), hy _ _ same_rfl ?_⟩
    rw [take_snoc ez, List.map_append, List.map_append]
    rfl
  · refine ⟨_, _, rfl, SqL.of e2, _, rfl, iteY rfl ?_⟩
    have ht2 := sm2 _ _ (sm1 _ _ ht)
    refine ⟨_, rfl, _, rfl, a, _, rfl, ht2, fun p3 H3 sm3 e3 => ⟨p3, rfl, ⟨_, SqT.of e3⟩, fun D3 hD3 => ?_⟩⟩
    have e3 : H3 p3 = some (.tup ([t.2.2.2.1, t.2.2.2.2].map V.int)) := e3
    refine lc_acc walk_tup hD3 (fun i => (([t.2.2.2.1, t.2.2.2.2].take i).map fun _ => true).map V.bl) rfl (fun i hi => lt_size (by rw [List.length_map, List.length_map, List.length_take]; simp; omega)) (fun H4 sm4 => SqT.of (sm4 _ _ e3)) (fun i x H4 H5 hi sm4 y Yes No hy hn => ?_) fun H4 sm4 e4 => ?_
    · obtain ⟨eH, ex⟩ := y
      subst eH
      rw [List.getElem?_map] at ex
      obtain ⟨z, ez, ex2⟩ := Option.map_eq_some_iff.mp ex
      subst ex2
      refine ⟨rfl, _, rfl, z, rfl, hy _ _ same_rfl ?_⟩
      rw [take_snoc ez, List.map_append, List.map_append]
      rfl
    · exact ⟨_, _, rfl, SqL.of e4, hQ H4 (((sm1.trans sm2).trans sm3).trans sm4)⟩

theorem sc_has_form : FnScope ["posts", "ties", "post", "tie"] ["posts", "ties"] (defScope s_has_form) := ⟨rfl, rfl, rfl, by decide +kernel, rfl, by decide +kernel, by decide +kernel⟩
def sp_has_form : Sp := fun vs H Q _ => ∃ (a b : Addr) (ps : List Str) (ts : List Tie), vs = [.ref a, .ref b] ∧ PostsAt H a ps ∧ TiesAt H b ts ∧ ps.length ≤ 1000 ∧ ts.length ≤ 1000 ∧ ∀ H', Same H H' → Q (.bl true) H'
theorem ok_has_form (T : W0 P w K mg) : GFn P w K mg base 3 "has_form" sp_has_form := by
  obtain ⟨fd, F⟩ := T.d_has_form
  refine ⟨T.g_has_form, F.kp, F.fr sc_has_form (fun _ _ _ _ _ _ us hl => match us, hl with | [_, _], _ => rfl) (fun vs H Q E h => by first | (obtain ⟨rfl, _⟩ := h; rfl) | (obtain ⟨_, rfl, _⟩ := h; rfl) | (obtain ⟨_, _, rfl, _⟩ := h; rfl) | (obtain ⟨_, _, _, rfl, _⟩ := h; rfl) | (obtain ⟨_, _, _, _, rfl, _⟩ := h; rfl) | (obtain ⟨_, _, _, _, _, rfl, _⟩ := h; rfl) | (obtain ⟨_, _, _, _, _, _, rfl, _⟩ := h; rfl) | (obtain ⟨_, _, _, _, _, _, _, rfl, _⟩ := h; rfl) | (obtain ⟨_, _, _, _, _, _, _, _, rfl, _⟩ := h; rfl) | (obtain ⟨_, _, _, _, _, _, _, _, _, rfl, _⟩ := h; rfl)) fun cdv A outer s H vs Q E hr h => ⟨_, (pss_cons (ps_if (PW.pt (pw_or (pt_not (pt_val (pe_callB (kIsi (K := K) rfl) (by rfl) T.f_isinstance (by decide +kernel) (pa_cons (pv 0) (pa_cons (pe_bltn (v := .ty "tuple") (by rfl) T.f_tuple (by decide +kernel) rfl) pa_nil))))) (pw_or1 (pt_not (pt_val (pe_callB (kIsi (K := K) rfl) (by rfl) T.f_isinstance (by decide +kernel) (pa_cons (pv 1) (pa_cons (pe_bltn (v := .ty "tuple") (by rfl) T.f_tuple (by decide +kernel) rfl) pa_nil)))))))) (pss_one (ps_ret pe_bl)) pss_nil) (pss_one (ps_ret (pe_and (pe_callB (kAll (K := K) rfl rfl) (by rfl) T.f_all (by decide +kernel) (pa_cons (pe_lc (own := [("post", 2)]) (by rfl) sc_has_form.nd (pi_tup (pv 0)) (blkOk_by (own := [("post", 2)]) (N := ["posts", "ties", "post", "tie"]) (sc := defScope s_has_form) (by decide +kernel)) (fun _ _ _ _ _ => (pg_name (i := 2) sc_has_form.nd rfl (Or.inl rfl))) (fun _ _ _ _ _ => pts_nil) (fun _ _ _ _ _ => (pe_callB (kIsi (K := K) rfl) (by rfl) T.f_isinstance (by decide +kernel) (pa_cons (pv 2) (pa_cons (pe_bltn (v := .ty "str") (by rfl) T.f_str (by decide +kernel) rfl) pa_nil))))) pa_nil)) (pe_one (pe_callB (kAll (K := K) rfl rfl) (by rfl) T.f_all (by decide +kernel) (pa_cons (pe_lc (own := [("tie", 3)]) (by rfl) sc_has_form.nd (pi_tup (pv 1)) (blkOk_by (own := [("tie", 3)]) (N := ["posts", "ties", "post", "tie"]) (sc := defScope s_has_form) (by decide +kernel)) (fun _ _ _ _ _ => (pg_name (i := 3) sc_has_form.nd rfl (Or.inl rfl))) (fun _ _ _ _ _ => pts_nil) (fun _ _ _ _ _ => (eCall (ok_is_tie T) (hr.mono (by decide)) passL (by rfl) (pa_cons (pv 3) pa_nil)))) pa_nil))))))), ?_⟩⟩
  obtain ⟨a, b, ps, ts, rfl, hp, ht, lp, lt, hQ⟩ := h
  obtain ⟨as, ha, hts⟩ := ht
  refine ⟨_, rfl, _, _, _, _, _, rfl, .ty "tuple", .base (.tup hp), kit_ty (by decide +kernel), true, rfl, ?_⟩
  refine iteN rfl ⟨_, rfl, _, _, _, _, _, rfl, .ty "tuple", .base (.tup ha), kit_ty (by decide +kernel), true, rfl, iteN rfl ?_⟩
  refine ⟨_, rfl, a, rfl, ⟨_, SqT.of hp⟩, fun D hD => ?_⟩
  refine lc_acc walk_tup hD (fun i => ((ps.take i).map fun _ => true).map V.bl) rfl (fun i hi => lt_size (by rw [List.length_map, List.length_map, List.length_take]; omega)) (fun H2 sm2 => SqT.of (sm2 _ _ hp)) (fun i x H2 H3 hi sm2 y Yes No hy hn => ?_) fun H2 sm2 e2 => ?_
  · obtain ⟨eH, ex⟩ := y
    subst eH
    rw [List.getElem?_map] at ex
    obtain ⟨z, ez, ex2⟩ := Option.map_eq_some_iff.mp ex
    subst ex2
    refine ⟨rfl, _, rfl, _, _, _, _, true, rfl, .ty "str", .base (.str z), kit_ty (by decide +kernel), hy _ _ same_rfl ?_⟩
    rw [take_snoc ez, List.map_append, List.map_append]
    rfl
  · refine ⟨_, _, rfl, SqL.of e2, _, rfl, iteY (by rw [List.all_map]; exact List.all_eq_true.mpr fun _ _ => rfl) ?_⟩
    have ha2 := sm2 _ _ ha
    refine ⟨_, rfl, b, rfl, ⟨_, SqT.of ha2⟩, fun D3 hD3 => ?_⟩
    refine lc_acc walk_tup hD3 (fun i => ((ts.take i).map fun _ => true).map V.bl) rfl (fun i hi => lt_size (by rw [List.length_map, List.length_map, List.length_take]; omega)) (fun H4 sm4 => SqT.of (sm4 _ _ ha2)) (fun i x H4 H5 hi sm4 y Yes No hy hn => ?_) fun H4 sm4 e4 => ?_
    · obtain ⟨eH, ex⟩ := y
      subst eH
      rw [List.getElem?_map] at ex
      obtain ⟨z, ez, ex2⟩ := Option.map_eq_some_iff.mp ex
      subst ex2
      obtain ⟨t, et, tz⟩ := paired_get' hts ez
      refine ⟨rfl, _, rfl, z, t, rfl, sm4 _ _ (sm2 _ _ tz), fun H6 sm6 => hy _ _ sm6 ?_⟩
      rw [take_snoc et, List.map_append, List.map_append]
      rfl
    · refine ⟨_, _, rfl, SqL.of e4, ?_⟩
      have z := hQ H4 (sm2.trans sm4)
      have e : ((ts.take (as.map V.ref).length).map fun _ => true).all id = true := by
        rw [List.all_map]
        exact List.all_eq_true.mpr fun _ _ => rfl
      rw [e]
      exact z

theorem sc_check_tie : FnScope ["posts", "ties", "index", "name", "one", "other", "least", "greatest", "tie"] ["posts", "ties", "index"] (defScope s_check_tie) := ⟨rfl, rfl, rfl, by decide +kernel, rfl, by decide +kernel, by decide +kernel⟩
/-- tie i of the ties ts over the posts ps, all ahead of it well -/
def sp_check_tie (K : PySem.W.Frag) : Sp := fun vs H Q E => ∃ (a b : Addr) (i : Nat) (ps : List Str) (ts : List Tie) (t : Tie), vs = [.ref a, .ref b, .int (i : Int)] ∧ PostsAt H a ps ∧ TiesAt H b ts ∧ ps.length ≤ 1000 ∧ ts.length ≤ 1000 ∧ (∀ t ∈ ts, t.1.length ≤ 1000) ∧ ts[i]? = some t ∧
  (nameB t.1 = true → t.1 ∉ (ts.take i).map (·.1) → TieOk ps t → ∀ H', Same H H' → Q .non H') ∧ (¬ (nameB t.1 = true ∧ t.1 ∉ (ts.take i).map (·.1) ∧ TieOk ps t) → Xs K H E)
theorem ok_check_tie (T : W0 P w K mg) : GFn P w K mg base 3 "check_tie" (sp_check_tie K) := by
  obtain ⟨fd, F⟩ := T.d_check_tie
  refine ⟨T.g_check_tie, F.kp, F.fr sc_check_tie (fun _ _ _ _ _ _ us hl => match us, hl with | [_, _, _], _ => rfl) (fun vs H Q E h => by first | (obtain ⟨rfl, _⟩ := h; rfl) | (obtain ⟨_, rfl, _⟩ := h; rfl) | (obtain ⟨_, _, rfl, _⟩ := h; rfl) | (obtain ⟨_, _, _, rfl, _⟩ := h; rfl) | (obtain ⟨_, _, _, _, rfl, _⟩ := h; rfl) | (obtain ⟨_, _, _, _, _, rfl, _⟩ := h; rfl) | (obtain ⟨_, _, _, _, _, _, rfl, _⟩ := h; rfl) | (obtain ⟨_, _, _, _, _, _, _, rfl, _⟩ := h; rfl) | (obtain ⟨_, _, _, _, _, _, _, _, rfl, _⟩ := h; rfl) | (obtain ⟨_, _, _, _, _, _, _, _, _, rfl, _⟩ := h; rfl)) fun cdv A outer s H vs Q E hr h => ⟨_, (pss_cons (ps_asg (pe_ix (kIxT (K := K) rfl) (pv 1) (pv 2) (fun _ _ => rfl)) (kTupG (K := K) (n := 5) rfl rfl (pgs_cons (pg_name (i := 3) sc_check_tie.nd rfl (Or.inl rfl)) (pgs_cons (pg_name (i := 4) sc_check_tie.nd rfl (Or.inl rfl)) (pgs_cons (pg_name (i := 5) sc_check_tie.nd rfl (Or.inl rfl)) (pgs_cons (pg_name (i := 6) sc_check_tie.nd rfl (Or.inl rfl)) (pgs_cons (pg_name (i := 7) sc_check_tie.nd rfl (Or.inl rfl)) pgs_nil))))))) (pss_cons (ps_if (PW.pt (pw_or (pt_not (pt_val (eCall (ok_is_name T) (hr.mono (by decide)) passL (by rfl) (pa_cons (pv 3) pa_nil)))) (pw_or1 (pt_cmpR (kIn (K := K) rfl) (pv 3) (pe_lc (own := [("tie", 8)]) (by rfl) sc_check_tie.nd (pi_tup (pe_slice sl_tupU (pv 1) po_none (po_some (pv 2)))) (blkOk_by (own := [("tie", 8)]) (N := ["posts", "ties", "index", "name", "one", "other", "least", "greatest", "tie"]) (sc := defScope s_check_tie) (by decide +kernel)) (fun _ _ _ _ _ => (pg_name (i := 8) sc_check_tie.nd rfl (Or.inl rfl))) (fun _ _ _ _ _ => pts_nil) (fun _ _ _ _ _ => (pe_ix (kIxT (K := K) rfl) (pv 8) pe_int (fun _ _ => rfl)))) (by rfl))))) (pss_one (eRaise (ok_InvalidWeb T) (hr.mono (by decide)) rfl (takes_of rfl rfl rfl rfl) (by rfl) (by decide) (pa_cons pe_str (pa_cons (pv 2) pa_nil)))) pss_nil) (pss_cons (ps_if (PW.pt (pw_or (pt_cmpR (kNotIn (K := K) rfl) (pv 4) (pv 0) (by rfl)) (pw_or (pt_cmpR (kNotIn (K := K) rfl) (pv 5) (pv 0) (by rfl)) (pw_or1 (pt_cmpR op_eq (pv 4) (pv 5) (nomark _)))))) (pss_one (eRaise (ok_InvalidWeb T) (hr.mono (by decide)) rfl (takes_of rfl rfl rfl rfl) (by rfl) (by decide) (pa_cons pe_str (pa_cons (pv 2) pa_nil)))) pss_nil) (pss_one (ps_if (pt_not (pt_chain op_le op_le pe_int (pv 6) (pv 7))) (pss_one (eRaise (ok_InvalidWeb T) (hr.mono (by decide)) rfl (takes_of rfl rfl rfl rfl) (by rfl) (by decide) (pa_cons pe_str (pa_cons (pv 2) pa_nil)))) pss_nil))))), ?_⟩⟩
  obtain ⟨a, b, i, ps, ts, t, rfl, hp, ⟨as, ha, hts⟩, lp, lt, lz, hi, hg, hb⟩ := h
  obtain ⟨ta, eta, htt⟩ := paired_get hts hi
  refine ⟨_, rfl, _, rfl, b, _, _, .ref ta, rfl, rfl, SqT.of ha, atI_nat (by rw [List.getElem?_map, eta]; rfl), ?_⟩
  refine ⟨ta, _, rfl, SqT.of htt, rfl, _, _, rfl, _, _, rfl, _, _, rfl, _, _, rfl, _, _, rfl, rfl, ?_⟩
  refine ⟨_, rfl, t.1, rfl, lz t (List.mem_of_getElem? hi), fun H1 sm1 => ⟨_, rfl, iteB (fun e1 => ?_) fun e1 => ?_⟩⟩
  · have e2 : nameB t.1 = false := by simpa using e1
    refine ⟨_, rfl, rfl, fun d H4 hd sm4 e4 => hb (fun g => ?_) _ _ _ (sm1.trans sm4) (.inl ⟨rfl, _, _, _, rfl, e4⟩)⟩
    rw [g.1] at e2
    cases e2
  · have e2 : nameB t.1 = true := by simpa using e1
    refine ⟨_, rfl, _, rfl, _, rfl, _, rfl, b, _, rfl, sm1 _ _ ha, fun p H2 sm2 e3 => ⟨p, rfl, ⟨_, SqT.of e3⟩, fun D hD => ?_⟩⟩
    have ec : cutV (as.map V.ref) none (some (i : Int)) = (as.take i).map V.ref := by
      rw [cutV_take, List.map_take]
    rw [ec] at e3
    have hts2 : TiesAs H (as.take i) (ts.take i) := paired_take i hts
    refine lc_acc walk_tup hD (fun j => ((ts.take i).take j).map fun t => V.str t.1) rfl (fun j hj => lt_size (by rw [List.length_map, List.length_take, List.length_take]; omega)) (fun H3 sm3 => SqT.of (sm3 _ _ e3)) (fun j x H3 H4 hj sm3 y Yes No hy hn => ?_) fun H3 sm3 e4 => ?_
    · obtain ⟨eH, ex⟩ := y
      subst eH
      rw [List.getElem?_map] at ex
      obtain ⟨z, ez, ex2⟩ := Option.map_eq_some_iff.mp ex
      subst ex2
      obtain ⟨t', et, tz⟩ := paired_get' hts2 ez
      refine ⟨rfl, _, rfl, z, _, _, _, rfl, rfl, SqT.of (sm3 _ _ (sm2 _ _ (sm1 _ _ tz))), atI_nat (j := 0) rfl, hy _ _ same_rfl ?_⟩
      rw [take_snoc et, List.map_append]
      rfl
    · have ex : ((ts.take i).take ((as.take i).map V.ref).length).map (fun t => V.str t.1) = (((ts.take i).map (·.1)).map V.str) := by
        rw [List.length_map, paired_len hts2, List.take_length, List.map_map]
        rfl
      rw [ex] at e4
      have sm5 := (sm1.trans sm2).trans sm3
      refine ⟨D, _, rfl, .inl (SqL.of e4), rfl, flat_str, _, rfl, iteB (fun e5 => ?_) fun e5 => ?_⟩
      · have e6 : inV (.str t.1) (((ts.take i).map (·.1)).map V.str) = true := e5
        rw [inV_str] at e6
        exact ⟨_, rfl, rfl, fun d H5 hd sm7 e7 => hb (fun g => g.2.1 (of_decide_eq_true e6)) _ _ _ (sm5.trans sm7) (.inl ⟨rfl, _, _, _, rfl, e7⟩)⟩
      · have e6 : inV (.str t.1) (((ts.take i).map (·.1)).map V.str) = false := e5
        rw [inV_str] at e6
        have hn := of_decide_eq_false e6
        have hp3 := sm5 _ _ hp
        refine ⟨_, rfl, _, rfl, a, _, rfl, .inr (SqT.of hp3), rfl, flat_str, _, rfl, iteB (fun e7 => ?_) fun e7 => ?_⟩
        · have e8 : (!inV (.str t.2.1) (ps.map V.str)) = true := e7
          rw [inV_str] at e8
          exact ⟨_, rfl, rfl, fun d H5 hd sm7 e9 => hb (fun g => by have := g.2.2.1; simp [this] at e8) _ _ _ (sm5.trans sm7) (.inl ⟨rfl, _, _, _, rfl, e9⟩)⟩
        · have e8 : (!inV (.str t.2.1) (ps.map V.str)) = false := e7
          rw [inV_str] at e8
          have m1 : t.2.1 ∈ ps := by simpa using e8
          refine ⟨_, rfl, _, rfl, a, _, rfl, .inr (SqT.of hp3), rfl, flat_str, _, rfl, iteB (fun e9 => ?_) fun e9 => ?_⟩
          · have e10 : (!inV (.str t.2.2.1) (ps.map V.str)) = true := e9
            rw [inV_str] at e10
            exact ⟨_, rfl, rfl, fun d H5 hd sm7 e11 => hb (fun g => by have := g.2.2.2.1; simp [this] at e10) _ _ _ (sm5.trans sm7) (.inl ⟨rfl, _, _, _, rfl, e11⟩)⟩
          · have e10 : (!inV (.str t.2.2.1) (ps.map V.str)) = false := e9
            rw [inV_str] at e10
            have m2 : t.2.2.1 ∈ ps := by simpa using e10
            refine ⟨_, rfl, _, rfl, rfl, _, rfl, iteB (fun e11 => ?_) fun e11 => ?_⟩
            · have e12 := of_decide_eq_true e11
              exact ⟨_, rfl, rfl, fun d H5 hd sm7 e13 => hb (fun g => g.2.2.2.2.1 (V.str.inj e12)) _ _ _ (sm5.trans sm7) (.inl ⟨rfl, _, _, _, rfl, e13⟩)⟩
            · have e12 := of_decide_eq_false e11
              have ne : t.2.1 ≠ t.2.2.1 := fun e => e12 (by rw [e])
              have bad : ¬ (0 ≤ t.2.2.2.1 ∧ t.2.2.2.1 ≤ t.2.2.2.2) → ∀ (d : Addr) (H5 : Hp), H3 d = none → Same H3 H5 → H5 d = some (.xd [("index", .int (i : Int)), ("reason", .str "span")]) → E (.ref (He.ga K "InvalidWeb")) (some d) H5 := fun nb d H5 hd sm7 e13 =>
                hb (fun g => nb ⟨g.2.2.2.2.2.1, g.2.2.2.2.2.2⟩) _ _ _ (sm5.trans sm7) (.inl ⟨rfl, _, _, _, rfl, e13⟩)
              refine ⟨_, rfl, _, _, rfl, rfl, _, rfl, iteD (fun h0 => ⟨_, rfl, _, _, rfl, rfl, _, rfl, iteB (fun h1 => ?_) fun h1 => ?_⟩) fun h0 => ⟨_, rfl, ?_⟩⟩
              · exact ⟨_, rfl, rfl, bad fun h2 => by simp [h2.2] at h1⟩
              · exact hg e2 hn ⟨m1, m2, ne, h0, by simpa using h1⟩ H3 sm5
              · exact ⟨_, rfl, rfl, bad fun h2 => h0 h2.1⟩

theorem sc_check_web : FnScope ["posts", "ties", "index"] ["posts", "ties"] (defScope s_check_web) := ⟨rfl, rfl, rfl, by decide +kernel, rfl, by decide +kernel, by decide +kernel⟩
def sp_check_web (K : PySem.W.Frag) : Sp := fun vs H Q E => ∃ (a b : Addr) (w : Wb), vs = [.ref a, .ref b] ∧ PostsAt H a w.1 ∧ TiesAt H b w.2 ∧ Lim w ∧ (Valid w → ∀ H', Same H H' → Q .non H') ∧ (¬ Valid w → Xs K H E)
theorem ok_check_web (T : W0 P w K mg) : GFn P w K mg base 4 "check_web" (sp_check_web K) := by
  obtain ⟨fd, F⟩ := T.d_check_web
  refine ⟨T.g_check_web, F.kp, F.fr sc_check_web (fun _ _ _ _ _ _ us hl => match us, hl with | [_, _], _ => rfl) (fun vs H Q E h => by first | (obtain ⟨rfl, _⟩ := h; rfl) | (obtain ⟨_, rfl, _⟩ := h; rfl) | (obtain ⟨_, _, rfl, _⟩ := h; rfl) | (obtain ⟨_, _, _, rfl, _⟩ := h; rfl) | (obtain ⟨_, _, _, _, rfl, _⟩ := h; rfl) | (obtain ⟨_, _, _, _, _, rfl, _⟩ := h; rfl) | (obtain ⟨_, _, _, _, _, _, rfl, _⟩ := h; rfl) | (obtain ⟨_, _, _, _, _, _, _, rfl, _⟩ := h; rfl) | (obtain ⟨_, _, _, _, _, _, _, _, rfl, _⟩ := h; rfl) | (obtain ⟨_, _, _, _, _, _, _, _, _, rfl, _⟩ := h; rfl)) fun cdv A outer s H vs Q E hr h => ⟨_, (pss_cons (ps_if (pt_not (pt_val (eCall (ok_has_form T) (hr.mono (by decide)) passL (by rfl) (pa_cons (pv 0) (pa_cons (pv 1) pa_nil))))) (pss_one (eRaise (ok_InvalidWeb T) (hr.mono (by decide)) rfl (takes_of rfl rfl rfl rfl) (by rfl) (by decide) (pa_cons pe_str (pa_cons pe_int pa_nil)))) pss_nil) (pss_cons (ps_if (pt_cmpR op_eq (pe_callB call_len_seq (by rfl) T.f_len PySem.boot_len (pa_cons (pv 0) pa_nil)) pe_int (nomark _)) (pss_one (eRaise (ok_InvalidWeb T) (hr.mono (by decide)) rfl (takes_of rfl rfl rfl rfl) (by rfl) (by decide) (pa_cons pe_str (pa_cons pe_int pa_nil)))) pss_nil) (pss_cons (ps_expr (eCall (ok_check_names T) (hr.mono (by decide)) (passes_call (takes_of rfl rfl rfl rfl) (fun _ _ _ _ h => h)) (by rfl) (pa_cons (pv 0) (pa_cons pe_str pa_nil)))) (pss_one (ps_for (passes_of rfl) rfl (pi_range1 (by rfl) T.f_range (pa_cons (pe_callB call_len_seq (by rfl) T.f_len PySem.boot_len (pa_cons (pv 1) pa_nil)) pa_nil)) (pg_name (i := 2) sc_check_web.nd rfl (Or.inl rfl)) (pss_one (ps_expr (eCall (ok_check_tie T) (hr.mono (by decide)) (passes_call (takes_of rfl rfl rfl rfl) (fun _ _ _ _ h => h)) (by rfl) (pa_cons (pv 0) (pa_cons (pv 1) (pa_cons (pv 2) pa_nil))))))))))), ?_⟩⟩
  obtain ⟨a, b, w, rfl, hp, ht, hl, hg, hb⟩ := h
  refine ⟨_, rfl, _, rfl, a, b, w.1, w.2, rfl, hp, ht, hl.p, hl.t, fun H1 sm1 => ⟨_, rfl, iteN rfl ?_⟩⟩
  have hp1 := sm1 _ _ hp
  refine ⟨_, rfl, _, _, rfl, .inr (SqT.of hp1), rfl, _, rfl, iteB (fun e1 => ?_) fun e1 => ?_⟩
  · have e2 := of_decide_eq_true e1
    refine ⟨rfl, fun d H4 hd sm4 e4 => hb (fun v => v.ne ?_) _ _ _ (sm1.trans sm4) (.inl ⟨rfl, _, _, _, rfl, e4⟩)⟩
    have e3 : ((w.1.map V.str).length : Int) = 0 := V.int.inj e2
    rw [List.length_map] at e3
    exact List.length_eq_zero_iff.mp (by omega)
  · have e2 := of_decide_eq_false e1
    have ne : w.1 ≠ [] := fun e => e2 (by rw [e]; rfl)
    refine ⟨_, rfl, a, w.1, _, rfl, hp1, hl.p, hl.z, fun gp H2 sm2 => ?_, fun ng => fun cls d H2 sm2 x => hb (fun v => ng v.posts) cls d H2 (sm1.trans sm2) x⟩
    obtain ⟨as, ha, hts⟩ := ht
    have sm3 := sm1.trans sm2
    have la : (as.map V.ref).length = w.2.length := by rw [List.length_map, paired_len hts]
    have lt := hl.t
    refine ⟨_, rfl, _, _, rfl, .inr (SqT.of (sm3 _ _ ha)), _, rfl, by omega, by omega, ?_⟩
    refine for_range (fun i σ H' => (∃ o2, σ = [some (.ref a), some (.ref b), o2]) ∧ Same H H' ∧ Good ((w.2.take i).map (·.1)) ∧ ∀ t ∈ w.2.take i, TieOk w.1 t) ⟨⟨_, rfl⟩, sm3, by rw [List.take_zero]; exact Good.nil, fun t h => by simp at h⟩ (fun i σ H' hi p => ?_) fun σ H' p => ?_
    · obtain ⟨⟨o2, rfl⟩, sm, gd, tk⟩ := p
      have hi2 : i < w.2.length := by omega
      have hi3 : w.2[i]? = some w.2[i] := List.getElem?_eq_getElem hi2
      refine ⟨_, rfl, _, rfl, _, rfl, a, b, i, w.1, w.2, w.2[i], by rw [Int.zero_add], sm _ _ hp, ⟨as, sm _ _ ha, TiesAs.im (K := K) hts (Same.im sm)⟩, hl.p, hl.t, hl.tz, hi3, fun h1 h2 h3 H2 sm2 => ?_, fun nb => fun cls d H2 sm2 x => hb (fun v => nb ?_) cls d H2 (sm.trans sm2) x⟩
      · refine ⟨⟨_, rfl⟩, sm.trans sm2, ?_, ?_⟩
        · rw [take_snoc hi3, List.map_append]
          exact good_snoc.mpr ⟨gd, h1, h2⟩
        · rw [take_snoc hi3]
          intro t ht
          rcases List.mem_append.mp ht with q | q
          · exact tk t q
          · rw [List.mem_singleton.mp q]
            exact h3
      · have q : Good ((w.2.take (i + 1)).map (·.1) ++ (w.2.drop (i + 1)).map (·.1)) := by
          rw [← List.map_append, List.take_append_drop]
          exact v.ties
        have q2 := q.of_append
        rw [take_snoc hi3, List.map_append] at q2
        have q3 := good_snoc.mp q2
        exact ⟨q3.2.1, q3.2.2, v.ok _ (List.mem_of_getElem? hi3)⟩
    · obtain ⟨_, sm, gd, tk⟩ := p
      have e : ((as.map V.ref).length : Int).toNat = w.2.length := by omega
      rw [e, List.take_length] at gd tk
      exact hg ⟨ne, gp, gd, tk⟩ H' sm

theorem sc_Web_init : FnScope ["self", "posts", "ties"] ["self", "posts", "ties"] (defScope s_Web_init) := ⟨rfl, rfl, rfl, by decide +kernel, rfl, by decide +kernel, by decide +kernel⟩
/-- Web(posts, ties): the instance a is new -/
def sp_Web_init (K : PySem.W.Frag) : Sp := fun vs H Q E => ∃ (x a b dx : Addr) (w : Wb), vs = [.ref x, .ref a, .ref b] ∧ H x = some (.ins (He.ga K "Web") dx []) ∧ PostsAt H a w.1 ∧ TiesAt H b w.2 ∧ Lim w ∧
  (Valid w → ∀ H', (∀ c o, c ≠ x → H c = some o → H' c = some o) → WebAt K H' x w → Q .non H') ∧ (¬ Valid w → Xs K H E)
theorem ok_Web_init (T : W0 P w K mg) : IFn P w K mg base 5 "Web" (sp_Web_init K) := by
  obtain ⟨fd, F⟩ := T.d_Web_init
  refine ⟨T.g_Web, T.mk_Web, F.fr sc_Web_init (fun _ _ _ _ _ _ us hl => match us, hl with | [_, _, _], _ => rfl) (fun vs H Q E h => by first | (obtain ⟨rfl, _⟩ := h; rfl) | (obtain ⟨_, rfl, _⟩ := h; rfl) | (obtain ⟨_, _, rfl, _⟩ := h; rfl) | (obtain ⟨_, _, _, rfl, _⟩ := h; rfl) | (obtain ⟨_, _, _, _, rfl, _⟩ := h; rfl) | (obtain ⟨_, _, _, _, _, rfl, _⟩ := h; rfl) | (obtain ⟨_, _, _, _, _, _, rfl, _⟩ := h; rfl) | (obtain ⟨_, _, _, _, _, _, _, rfl, _⟩ := h; rfl) | (obtain ⟨_, _, _, _, _, _, _, _, rfl, _⟩ := h; rfl) | (obtain ⟨_, _, _, _, _, _, _, _, _, rfl, _⟩ := h; rfl)) fun cdv A outer s H vs Q E hr h => ⟨_, (pss_cons (ps_expr (eCall (ok_check_web T) (hr.mono (by decide)) (passes_call (takes_of rfl rfl rfl rfl) (fun _ _ _ _ h => h)) (by rfl) (pa_cons (pv 1) (pa_cons (pv 2) pa_nil)))) (pss_cons (eSet T.c_Web T.n_Web_places (pv 0) (pv 1)) (pss_one (eSet T.c_Web T.n_Web_bonds (pv 0) (pv 2))))), ?_⟩⟩
  obtain ⟨x, a, b, dx, w, rfl, hx, hp, ht, hl, hg, hb⟩ := h
  refine ⟨_, rfl, _, rfl, a, b, w, rfl, hp, ht, hl, fun v H1 sm1 => ?_, fun nv => hb nv⟩
  have hx1 := sm1 _ _ hx
  refine ⟨_, rfl, _, rfl, x, dx, _, rfl, hx1, by decide, ?_⟩
  refine ⟨_, rfl, _, rfl, x, dx, _, rfl, upd_same, (by show 1 < 1000; decide), ?_⟩
  have ka : ∀ c o, c ≠ x → H c = some o → upd (upd H1 x (.ins (He.ga K "Web") dx (putF "places" (V.ref a) []))) x (.ins (He.ga K "Web") dx (putF "bonds" (V.ref b) (putF "places" (V.ref a) []))) c = some o := fun c o hc e => by
    rw [upd_ne hc, upd_ne hc]
    exact sm1 _ _ e
  have tu := Tu.of ka hx
  exact hg v _ ka ⟨dx, a, b, upd_same, tu _ _ hp, TiesAt.tu ht tu⟩
end
end Wy
set_option Elab.async false
set_option linter.all false
set_option maxRecDepth 100000
set_option maxHeartbeats 0
namespace Wy
open PySem PySem.Spec PyProof.Rows L2 StX
section
variable {P : Program} {w : World} {K : PySem.W.Frag} {mg : Str → Option Value} {base : Heap}
theorem sc_Web_posts : FnScope ["self"] ["self"] (defScope s_Web_posts) := ⟨rfl, rfl, rfl, by decide +kernel, rfl, by decide +kernel, by decide +kernel⟩
theorem ok_Web_posts (T : W0 P w K mg) : PFn P w K mg base 1 (He.ga K "Web") "posts" "places" := by
  obtain ⟨fd, F⟩ := T.d_Web_posts
  refine ⟨_, _, T.p_Web_posts, F.fr sc_Web_posts (fun _ _ _ _ _ _ us hl => match us, hl with | [_], _ => rfl) (fun vs H Q E h => by first | (obtain ⟨rfl, _⟩ := h; rfl) | (obtain ⟨_, rfl, _⟩ := h; rfl) | (obtain ⟨_, _, rfl, _⟩ := h; rfl) | (obtain ⟨_, _, _, rfl, _⟩ := h; rfl) | (obtain ⟨_, _, _, _, rfl, _⟩ := h; rfl) | (obtain ⟨_, _, _, _, _, rfl, _⟩ := h; rfl) | (obtain ⟨_, _, _, _, _, _, rfl, _⟩ := h; rfl) | (obtain ⟨_, _, _, _, _, _, _, rfl, _⟩ := h; rfl) | (obtain ⟨_, _, _, _, _, _, _, _, rfl, _⟩ := h; rfl) | (obtain ⟨_, _, _, _, _, _, _, _, _, rfl, _⟩ := h; rfl)) fun cdv A outer s H vs Q E hr h => ⟨_, (pss_one (ps_ret (eFld T.c_Web T.n_Web_places (pv 0)))), ?_⟩⟩
  obtain ⟨a, dx, fs, v, rfl, ea, l, q⟩ := h
  exact ⟨_, rfl, a, dx, fs, v, rfl, ea, l, q⟩
theorem sc_Web_ties : FnScope ["self"] ["self"] (defScope s_Web_ties) := ⟨rfl, rfl, rfl, by decide +kernel, rfl, by decide +kernel, by decide +kernel⟩
theorem ok_Web_ties (T : W0 P w K mg) : PFn P w K mg base 1 (He.ga K "Web") "ties" "bonds" := by
  obtain ⟨fd, F⟩ := T.d_Web_ties
  refine ⟨_, _, T.p_Web_ties, F.fr sc_Web_ties (fun _ _ _ _ _ _ us hl => match us, hl with | [_], _ => rfl) (fun vs H Q E h => by first | (obtain ⟨rfl, _⟩ := h; rfl) | (obtain ⟨_, rfl, _⟩ := h; rfl) | (obtain ⟨_, _, rfl, _⟩ := h; rfl) | (obtain ⟨_, _, _, rfl, _⟩ := h; rfl) | (obtain ⟨_, _, _, _, rfl, _⟩ := h; rfl) | (obtain ⟨_, _, _, _, _, rfl, _⟩ := h; rfl) | (obtain ⟨_, _, _, _, _, _, rfl, _⟩ := h; rfl) | (obtain ⟨_, _, _, _, _, _, _, rfl, _⟩ := h; rfl) | (obtain ⟨_, _, _, _, _, _, _, _, rfl, _⟩ := h; rfl) | (obtain ⟨_, _, _, _, _, _, _, _, _, rfl, _⟩ := h; rfl)) fun cdv A outer s H vs Q E hr h => ⟨_, (pss_one (ps_ret (eFld T.c_Web T.n_Web_bonds (pv 0)))), ?_⟩⟩
  obtain ⟨a, dx, fs, v, rfl, ea, l, q⟩ := h
  exact ⟨_, rfl, a, dx, fs, v, rfl, ea, l, q⟩
theorem sc_Web_len : FnScope ["self"] ["self"] (defScope s_Web_len) := ⟨rfl, rfl, rfl, by decide +kernel, rfl, by decide +kernel, by decide +kernel⟩
def sp_Web_len (K : PySem.W.Frag) : Sp := fun vs H Q _ => ∃ (a : Addr) (w : Wb), vs = [.ref a] ∧ WebAt K H a w ∧ Q (.int w.2.length) H
theorem ok_Web_len (T : W0 P w K mg) : MFn P w K mg base 1 "Web" "__len__" (sp_Web_len K) := by
  obtain ⟨fd, F⟩ := T.d_Web_len
  refine ⟨T.m_Web_len, F.fr sc_Web_len (fun _ _ _ _ _ _ us hl => match us, hl with | [_], _ => rfl) (fun vs H Q E h => by first | (obtain ⟨rfl, _⟩ := h; rfl) | (obtain ⟨_, rfl, _⟩ := h; rfl) | (obtain ⟨_, _, rfl, _⟩ := h; rfl) | (obtain ⟨_, _, _, rfl, _⟩ := h; rfl) | (obtain ⟨_, _, _, _, rfl, _⟩ := h; rfl) | (obtain ⟨_, _, _, _, _, rfl, _⟩ := h; rfl) | (obtain ⟨_, _, _, _, _, _, rfl, _⟩ := h; rfl) | (obtain ⟨_, _, _, _, _, _, _, rfl, _⟩ := h; rfl) | (obtain ⟨_, _, _, _, _, _, _, _, rfl, _⟩ := h; rfl) | (obtain ⟨_, _, _, _, _, _, _, _, _, rfl, _⟩ := h; rfl)) fun cdv A outer s H vs Q E hr h => ⟨_, (pss_one (ps_ret (pe_callB call_len_seq (by rfl) T.f_len PySem.boot_len (pa_cons (eFld T.c_Web T.n_Web_bonds (pv 0)) pa_nil)))), ?_⟩⟩
  obtain ⟨a, w, rfl, ⟨dx, pa, ta, ea, hp, as, ha, hts⟩, q⟩ := h
  refine ⟨_, rfl, a, dx, _, _, rfl, ea, rfl, ta, _, rfl, .inr (SqT.of ha), ?_⟩
  rw [List.length_map, paired_len hts]
  exact q
theorem sc_Web_eq : FnScope ["self", "other"] ["self", "other"] (defScope s_Web_eq) := ⟨rfl, rfl, rfl, by decide +kernel, rfl, by decide +kernel, by decide +kernel⟩
def sp_Web_eq (K : PySem.W.Frag) : Sp := fun vs H Q _ => ∃ (a b : Addr) (w u : Wb), vs = [.ref a, .ref b] ∧ WebAt K H a w ∧ WebAt K H b u ∧ Valid w ∧ Valid u ∧ Q (.bl (decide (w = u))) H
theorem ok_Web_eq (T : W0 P w K mg) : MFn P w K mg base 1 "Web" "__eq__" (sp_Web_eq K) := by
  obtain ⟨fd, F⟩ := T.d_Web_eq
  refine ⟨T.m_Web_eq, F.fr sc_Web_eq (fun _ _ _ _ _ _ us hl => match us, hl with | [_, _], _ => rfl) (fun vs H Q E h => by first | (obtain ⟨rfl, _⟩ := h; rfl) | (obtain ⟨_, rfl, _⟩ := h; rfl) | (obtain ⟨_, _, rfl, _⟩ := h; rfl) | (obtain ⟨_, _, _, rfl, _⟩ := h; rfl) | (obtain ⟨_, _, _, _, rfl, _⟩ := h; rfl) | (obtain ⟨_, _, _, _, _, rfl, _⟩ := h; rfl) | (obtain ⟨_, _, _, _, _, _, rfl, _⟩ := h; rfl) | (obtain ⟨_, _, _, _, _, _, _, rfl, _⟩ := h; rfl) | (obtain ⟨_, _, _, _, _, _, _, _, rfl, _⟩ := h; rfl) | (obtain ⟨_, _, _, _, _, _, _, _, _, rfl, _⟩ := h; rfl)) fun cdv A outer s H vs Q E hr h => ⟨_, (pss_one (ps_ret (pe_and (pe_callB (kIsi (K := K) rfl) (by rfl) T.f_isinstance (by decide +kernel) (pa_cons (pv 1) (pa_cons (pe_glob (v := .ref (He.ga K "Web")) (by rfl) T.g_Web rfl) pa_nil))) (pe_and (pe_cmpR (kEqD (K := K) rfl hr.units) (eFld T.c_Web T.n_Web_places (pv 0)) (eFld T.c_Web T.n_Web_places (pv 1)) (nomark _)) (pe_one (pe_cmpR (kEqD (K := K) rfl hr.units) (eFld T.c_Web T.n_Web_bonds (pv 0)) (eFld T.c_Web T.n_Web_bonds (pv 1)) (nomark _))))))), ?_⟩⟩
  obtain ⟨a, b, w, u, rfl, ⟨dx, pa, ta, ea, hp, ht⟩, ⟨dy, pb, tb, eb, hp2, ht2⟩, vw, vu, q⟩ := h
  refine ⟨_, rfl, _, _, _, _, true, rfl, .own _, .base (.ins eb T.c_Web T.in_Web.ha T.in_Web.hn T.in_Web.htk T.in_Web.hm), if_pos (beq_self_eq_true _), true, rfl, iteY rfl ?_⟩
  refine ⟨_, rfl, a, dx, _, _, rfl, ea, rfl, _, rfl, b, dy, _, _, rfl, eb, rfl, dPosts w.1, dPosts u.1, dp_posts hp, dp_posts hp2, sh_posts (valid_posts vw), sh_posts (valid_posts vu), _, rfl, ?_⟩
  rw [eqv_posts]
  refine iteD (fun e1 => ?_) fun e1 => ?_
  · refine ⟨_, rfl, a, dx, _, _, rfl, ea, rfl, _, rfl, b, dy, _, _, rfl, eb, rfl, dTies w.2, dTies u.2, dp_ties ht, dp_ties ht2, sh_ties (valid_ties vw), sh_ties (valid_ties vu), ?_⟩
    rw [eqv_ties]
    have e : decide (w = u) = decide (w.2 = u.2) := by
      obtain ⟨w1, w2⟩ := w
      obtain ⟨u1, u2⟩ := u
      have e1 : w1 = u1 := e1
      subst e1
      by_cases h : w2 = u2 <;> simp [h]
    rw [← e]
    exact q
  · have e : decide (w = u) = false := decide_eq_false fun z => e1 (by rw [z])
    rw [e] at q
    exact q

theorem sc_Web_tie : FnScope ["self", "name", "tie"] ["self", "name"] (defScope s_Web_tie) := ⟨rfl, rfl, rfl, by decide +kernel, rfl, by decide +kernel, by decide +kernel⟩
def sp_Web_tie (K : PySem.W.Frag) : Sp := fun vs H Q E => ∃ (a : Addr) (w : Wb) (n : Str), vs = [.ref a, .str n] ∧ WebAt K H a w ∧ (∀ t b, t ∈ w.2 → t.1 = n → TieAt H b t → Q (.ref b) H) ∧ (n ∉ names w → Xs K H E)
theorem ok_Web_tie (T : W0 P w K mg) : MFn P w K mg base 3 "Web" "tie" (sp_Web_tie K) := by
  obtain ⟨fd, F⟩ := T.d_Web_tie
  refine ⟨T.m_Web_tie, F.fr sc_Web_tie (fun _ _ _ _ _ _ us hl => match us, hl with | [_, _], _ => rfl) (fun vs H Q E h => by first | (obtain ⟨rfl, _⟩ := h; rfl) | (obtain ⟨_, rfl, _⟩ := h; rfl) | (obtain ⟨_, _, rfl, _⟩ := h; rfl) | (obtain ⟨_, _, _, rfl, _⟩ := h; rfl) | (obtain ⟨_, _, _, _, rfl, _⟩ := h; rfl) | (obtain ⟨_, _, _, _, _, rfl, _⟩ := h; rfl) | (obtain ⟨_, _, _, _, _, _, rfl, _⟩ := h; rfl) | (obtain ⟨_, _, _, _, _, _, _, rfl, _⟩ := h; rfl) | (obtain ⟨_, _, _, _, _, _, _, _, rfl, _⟩ := h; rfl) | (obtain ⟨_, _, _, _, _, _, _, _, _, rfl, _⟩ := h; rfl)) fun cdv A outer s H vs Q E hr h => ⟨_, (pss_cons (ps_for (passes_of rfl) rfl (pi_tup (eFld T.c_Web T.n_Web_bonds (pv 0))) (pg_name (i := 2) sc_Web_tie.nd rfl (Or.inl rfl)) (pss_one (ps_if (pt_cmpR op_eq (pe_ix (kIxT (K := K) rfl) (pv 2) pe_int (fun _ _ => rfl)) (pv 1) (nomark _)) (pss_one (ps_ret (pv 2))) pss_nil))) (pss_one (eRaise (ok_UnknownTie T) (hr.mono (by decide)) rfl (takes_of rfl rfl rfl rfl) (by rfl) (by decide) (pa_cons (pv 1) pa_nil)))), ?_⟩⟩
  obtain ⟨a, w, n, rfl, ⟨dx, pa, ta, ea, hp, as, ha, hts⟩, hg, hb⟩ := h
  refine ⟨_, rfl, a, dx, _, _, rfl, ea, rfl, ta, rfl, ⟨_, SqT.of ha⟩, ?_⟩
  refine for_tup (xs := as.map V.ref) (fun i σ H' => (∃ o2, σ = [some (.ref a), some (.str n), o2]) ∧ H' = H ∧ n ∉ (w.2.take i).map (·.1)) ⟨⟨_, rfl⟩, rfl, by simp⟩ (fun i σ H' _ p => by rw [p.2.1]; exact SqT.of ha) (fun i x σ H' hx p => ?_) fun σ H' p => ?_
  · obtain ⟨⟨o2, rfl⟩, rfl, hn⟩ := p
    rw [List.getElem?_map] at hx
    obtain ⟨b, hb1, hb2⟩ := Option.map_eq_some_iff.mp hx
    subst hb2
    obtain ⟨t, et, tz⟩ := paired_get' hts hb1
    refine ⟨_, rfl, b, _, _, _, rfl, rfl, SqT.of tz, atI_nat (j := 0) rfl, _, rfl, rfl, _, rfl, iteD (fun e1 => ?_) fun e1 => ?_⟩
    · exact ⟨_, rfl, hg t b (List.mem_of_getElem? et) (V.str.inj e1) tz⟩
    · refine ⟨⟨_, rfl⟩, rfl, ?_⟩
      rw [take_snoc et, List.map_append]
      intro hm
      rcases List.mem_append.mp hm with q | q
      · exact hn q
      · rw [List.mem_singleton.mp q] at e1
        exact e1 rfl
  · obtain ⟨⟨o2, rfl⟩, rfl, hn⟩ := p
    rw [List.length_map, paired_len hts, List.take_length] at hn
    exact ⟨_, rfl, rfl, fun d H4 hd sm4 e4 => hb hn _ _ _ sm4 (.inr (.inr ⟨rfl, _, _, rfl, e4⟩))⟩

theorem sc_Web_tied : FnScope ["self", "ties"] ["self", "ties"] (defScope s_Web_tied) := ⟨rfl, rfl, rfl, by decide +kernel, rfl, by decide +kernel, by decide +kernel⟩
def sp_Web_tied (K : PySem.W.Frag) : Sp := fun vs H Q E => ∃ (a b : Addr) (w : Wb) (t : Tie), vs = [.ref a, .ref b] ∧ WebAt K H a w ∧ TieAt H b t ∧ Lim (w.1, w.2 ++ [t]) ∧
  (Valid (w.1, w.2 ++ [t]) → ∀ x H', Same H H' → WebAt K H' x (w.1, w.2 ++ [t]) → Q (.ref x) H') ∧ (¬ Valid (w.1, w.2 ++ [t]) → Xs K H E)
def sq_Web_tied (K : PySem.W.Frag) : Sp := fun vs H Q E => ∃ (a p b : Addr) (w : Wb) (t : Tie), vs = [.ref a, .ref p] ∧ WebAt K H a w ∧ H p = some (.tup [.ref b]) ∧ TieAt H b t ∧ Lim (w.1, w.2 ++ [t]) ∧
  (Valid (w.1, w.2 ++ [t]) → ∀ x H', Same H H' → WebAt K H' x (w.1, w.2 ++ [t]) → Q (.ref x) H') ∧ (¬ Valid (w.1, w.2 ++ [t]) → Xs K H E)
theorem ok_Web_tied (T : W0 P w K mg) : MFn P w K mg base 7 "Web" "tied" (sp_Web_tied K) := by
  obtain ⟨fd, F⟩ := T.d_Web_tied
  have z := F.frS (P := P) (w := w) (mg := mg) (base := base) (k := 6) (sp := sq_Web_tied K) (ps := ["self"]) sc_Web_tied (fun _ _ _ _ _ _ us rest hl => match us, rest, hl with | [_], [], _ => rfl | [_], _ :: _, _ => rfl) fun cdv A outer s H vs Q E hr h => ⟨_, (pss_one (ps_ret (eMake (ok_Web_init T) (hr.mono (by decide)) (passes_call (takes_of rfl rfl rfl rfl) (fun _ _ _ _ h => h)) (by rfl) (pa_cons (eFld T.c_Web T.n_Web_places (pv 0)) (pa_cons (pe_tup (pa_star (eFld T.c_Web T.n_Web_bonds (pv 0)) (pa_star (pv 1) pa_nil))) pa_nil))))), ?_⟩
  · refine ⟨T.m_Web_tied, FnR.imp z ?_⟩
    rintro vs H Q E ⟨a, b, w, t, rfl, hw, ht, hl, hg, hb⟩
    exact ⟨[.ref a], [.ref b], rfl, rfl, (by show 1 ≤ sizeLine; decide), fun p hp => ⟨a, p, b, w, t, rfl, hw.im (im_new hp), upd_same, ht.im (K := K) (im_new hp), hl, fun v x H' sm => hg v x H' ((same_upd hp).trans sm), fun nv cls d H' sm => hb nv cls d H' ((same_upd hp).trans sm)⟩⟩
  · obtain ⟨a, p, b, w, t, rfl, hw, ep, ht, hl, hg, hb⟩ := h
    have hw0 := hw
    obtain ⟨dx, pa, ta, ea, hp, as, ha, hts⟩ := hw0
    refine ⟨_, rfl, a, dx, _, _, rfl, ea, rfl, _, rfl, a, dx, _, _, rfl, ea, rfl, ta, _, rfl, .inl (SqT.of ha), _, rfl, p, _, rfl, .inl (SqT.of ep), ?_⟩
    refine ⟨by simp [paired_len hts]; have := hl.t; simp at this; exact le_size (by omega), fun p2 hp2 x dx2 hx hdx ne => ?_⟩
    have s2 := (same_upd (o := .tup (as.map V.ref ++ ([.ref b] ++ []))) hp2)
    have s3 := s2.trans (mk_same (o := .own x) (u := .ins (He.ga K "Web") dx2 []) hx hdx ne)
    refine ⟨x, pa, p2, dx2, (w.1, w.2 ++ [t]), rfl, upd_same, s3 _ _ hp, ⟨as ++ [b], ?_, paired_app (TiesAs.im (K := K) hts (Same.im s3)) (.cons (s3 _ _ ht) .nil)⟩, hl, fun v H' kp hwx => ⟨rfl, hg v x H' (s2.trans (mk_end hx hdx ne kp)) hwx⟩, fun nv cls d H' sm => hb nv cls d H' (s3.trans sm)⟩
    have e := mk_same (o := .own x) (u := .ins (He.ga K "Web") dx2 []) hx hdx ne p2 _ upd_same
    exact e.trans (by rw [List.map_append]; rfl)

theorem sc_Web_without : FnScope ["self", "names", "name", "tie"] ["self", "names"] (defScope s_Web_without) := ⟨rfl, rfl, rfl, by decide +kernel, rfl, by decide +kernel, by decide +kernel⟩
def outN_ (n : Str) (w : Wb) : Wb := (w.1, w.2.filter fun t => decide (t.1 ≠ n))
def sp_Web_without (K : PySem.W.Frag) : Sp := fun vs H Q E => ∃ (a : Addr) (w : Wb) (n : Str), vs = [.ref a, .str n] ∧ WebAt K H a w ∧ Lim w ∧
  (n ∈ names w → Valid (outN_ n w) → ∀ x H', Same H H' → WebAt K H' x (outN_ n w) → Q (.ref x) H') ∧ (¬ (n ∈ names w ∧ Valid (outN_ n w)) → Xs K H E)
def sq_Web_without (K : PySem.W.Frag) : Sp := fun vs H Q E => ∃ (a p : Addr) (w : Wb) (n : Str), vs = [.ref a, .ref p] ∧ WebAt K H a w ∧ H p = some (.tup [.str n]) ∧ Lim w ∧
  (n ∈ names w → Valid (outN_ n w) → ∀ x H', Same H H' → WebAt K H' x (outN_ n w) → Q (.ref x) H') ∧ (¬ (n ∈ names w ∧ Valid (outN_ n w)) → Xs K H E)
theorem ok_Web_without (T : W0 P w K mg) : MFn P w K mg base 7 "Web" "without" (sp_Web_without K) := by
  obtain ⟨fd, F⟩ := T.d_Web_without
  have z := F.frS (P := P) (w := w) (mg := mg) (base := base) (k := 6) (sp := sq_Web_without K) (ps := ["self"]) sc_Web_without (fun _ _ _ _ _ _ us rest hl => match us, rest, hl with | [_], [], _ => rfl | [_], _ :: _, _ => rfl) fun cdv A outer s H vs Q E hr h => ⟨_, (pss_cons (ps_for (passes_of rfl) rfl (pi_tup (pv 1)) (pg_name (i := 2) sc_Web_without.nd rfl (Or.inl rfl)) (pss_one (ps_expr (eMeth (ok_Web_tie T) T.c_Web (hr.mono (by decide)) (passes_call (takes_of rfl rfl rfl rfl) (fun _ _ _ _ h => h)) (pv 0) (pa_cons (pv 2) pa_nil))))) (pss_one (ps_ret (eMake (ok_Web_init T) (hr.mono (by decide)) (passes_call (takes_of rfl rfl rfl rfl) (fun _ _ _ _ h => h)) (by rfl) (pa_cons (eFld T.c_Web T.n_Web_places (pv 0)) (pa_cons (pe_callTy call_tuple_of (by rfl) T.f_tuple (by decide +kernel) (pa_cons (pe_lc (own := [("tie", 3)]) (by rfl) sc_Web_without.nd (pi_tup (eFld T.c_Web T.n_Web_bonds (pv 0))) (blkOk_by (own := [("tie", 3)]) (N := ["self", "names", "name", "tie"]) (sc := defScope s_Web_without) (by decide +kernel)) (fun _ _ _ _ _ => (pg_name (i := 3) sc_Web_without.nd rfl (Or.inl rfl))) (fun _ _ _ _ _ => (pts_one (pt_cmpR (kNotIn (K := K) rfl) (pe_ix (kIxT (K := K) rfl) (pv 3) pe_int (fun _ _ => rfl)) (pv 1) (by rfl)))) (fun _ _ _ _ _ => (pv 3))) pa_nil)) pa_nil)))))), ?_⟩
  · refine ⟨T.m_Web_without, FnR.imp z ?_⟩
    rintro vs H Q E ⟨a, w, n, rfl, hw, hl, hg, hb⟩
    exact ⟨[.ref a], [.str n], rfl, rfl, (by show 1 ≤ sizeLine; decide), fun p hp => ⟨a, p, w, n, rfl, hw.im (im_new hp), upd_same, hl, fun m v x H' sm => hg m v x H' ((same_upd hp).trans sm), fun nv cls d H' sm => hb nv cls d H' ((same_upd hp).trans sm)⟩⟩
  · obtain ⟨a, p, w, n, rfl, hw, ep, hl, hg, hb⟩ := h
    have hw0 := hw
    obtain ⟨dx, pa, ta, ea, hp, as, ha, hts⟩ := hw0
    refine ⟨_, rfl, p, rfl, ⟨_, SqT.of ep⟩, ?_⟩
    refine for_tup (xs := [V.str n]) (fun i σ H' => (∃ o2 o3, σ = [some (.ref a), some (.ref p), o2, o3]) ∧ H' = H ∧ (i = 1 → n ∈ names w)) ⟨⟨_, _, rfl⟩, rfl, by simp⟩ (fun i σ H' _ q => by rw [q.2.1]; exact SqT.of ep) (fun i x σ H' hx q => ?_) fun σ H' q => ?_
    · obtain ⟨⟨o2, o3, rfl⟩, rfl, _⟩ := q
      have hi : i = 0 := by
        have := (List.getElem?_eq_some_iff.mp hx).1
        simp at this
        exact this
      subst hi
      simp at hx
      subst hx
      refine ⟨_, rfl, a, dx, _, rfl, ea, rfl, _, rfl, a, w, n, rfl, hw, fun t b m e _ => ?_, fun nm => hb fun q => nm q.1⟩
      refine ⟨⟨_, _, rfl⟩, rfl, fun _ => ?_⟩
      rw [← e]
      exact List.mem_map_of_mem m
    · obtain ⟨⟨o2, o3, rfl⟩, rfl, hn⟩ := q
      have hn := hn rfl
      obtain ⟨zf, zsn, zr⟩ := paired_zip hts
      refine ⟨_, rfl, a, dx, _, _, rfl, ea, rfl, _, rfl, a, dx, _, _, rfl, ea, rfl, ta, rfl, ⟨_, SqT.of ha⟩, fun D hD => ?_⟩
      refine lc_acc walk_tup hD (fun j => (((as.zip w.2).take j).filter fun q => decide (q.2.1 ≠ n)).map fun q => V.ref q.1) rfl (fun j hj => lt_size ?_) (fun H3 sm3 => SqT.of (sm3 _ _ ha)) (fun j x H3 H4 hj sm3 y Yes No hy hn2 => ?_) fun H3 sm3 e4 => ?_
      · rw [List.length_map]
        have h1 := List.length_filter_le (fun q : Addr × Tie => decide (q.2.1 ≠ n)) ((as.zip w.2).take j)
        have h2 : ((as.zip w.2).take j).length ≤ j := by
          rw [List.length_take]
          omega
        have h3 := hl.t
        rw [List.length_map, paired_len hts] at hj
        omega
      · obtain ⟨eH, ex⟩ := y
        subst eH
        rw [List.getElem?_map] at ex
        obtain ⟨b, eb, ex2⟩ := Option.map_eq_some_iff.mp ex
        subst ex2
        obtain ⟨t, et, tz⟩ := paired_get' hts eb
        have ezp := zip_get eb et
        refine ⟨rfl, _, rfl, b, _, _, _, rfl, rfl, SqT.of (sm3 _ _ tz), atI_nat (j := 0) rfl, _, rfl, p, _, rfl, .inr (SqT.of (sm3 _ _ ep)), rfl, rfl, _, rfl, iteB (fun e1 => ?_) fun e1 => ?_⟩
        · have e2 : (!inV (.str t.1) ([n].map V.str)) = true := e1
          rw [inV_str] at e2
          refine ⟨_, rfl, hy _ _ same_rfl ?_⟩
          have e3 : decide (t.1 ≠ n) = true := by simpa using e2
          rw [take_snoc ezp, List.filter_append, List.map_append, List.filter_cons_of_pos (by exact e3)]
          rfl
        · have e2 : (!inV (.str t.1) ([n].map V.str)) = false := e1
          rw [inV_str] at e2
          refine hn2 _ same_rfl ?_
          have e3 : ¬ decide (t.1 ≠ n) = true := by simpa using e2
          rw [take_snoc ezp, List.filter_append, List.map_append, List.filter_cons_of_neg (by exact e3)]
          simp
      · have lz : (as.map V.ref).length = (as.zip w.2).length := by
          rw [List.length_map, List.length_zip, paired_len hts]
          omega
        rw [lz, List.take_length] at e4
        refine ⟨D, _, rfl, .inl ⟨SqL.of e4, fun p2 hp2 x dx2 hx hdx ne => ?_⟩⟩
        have s2 := sm3.trans (same_upd (o := .tup (((as.zip w.2).filter fun q => decide (q.2.1 ≠ n)).map fun q => V.ref q.1)) hp2)
        have s3 := s2.trans (mk_same (o := .own x) (u := .ins (He.ga K "Web") dx2 []) hx hdx ne)
        have ef : w.2.filter (fun t => decide (t.1 ≠ n)) = ((as.zip w.2).filter fun q => decide (q.2.1 ≠ n)).map (·.2) := by
          conv => lhs; rw [← zsn]
          rw [List.filter_map]
          rfl
        have pf : TiesAs H' (((as.zip w.2).filter fun q => decide (q.2.1 ≠ n)).map (·.1)) (w.2.filter fun t => decide (t.1 ≠ n)) := by
          rw [ef]
          exact paired_of fun q hq => zr q (List.mem_filter.mp hq).1
        have lim : Lim (outN_ n w) := ⟨hl.p, Nat.le_trans (List.length_filter_le _ _) hl.t, hl.z, fun t ht => hl.tz t (List.mem_filter.mp ht).1⟩
        refine ⟨x, pa, p2, dx2, outN_ n w, rfl, upd_same, s3 _ _ hp, ⟨((as.zip w.2).filter fun q => decide (q.2.1 ≠ n)).map (·.1), ?_, TiesAs.im (K := K) pf (Same.im s3)⟩, lim, fun v H' kp hwx => ⟨rfl, hg hn v x H' (s2.trans (mk_end hx hdx ne kp)) hwx⟩, fun nv cls d H' sm => hb (fun q => nv q.2) cls d H' (s3.trans sm)⟩
        have e := mk_same (o := .own x) (u := .ins (He.ga K "Web") dx2 []) hx hdx ne p2 _ upd_same
        exact e.trans (by rw [List.map_map]; rfl)

theorem paired_map {α β γ : Type} {R : β → γ → Prop} {f : α → β} {g : α → γ} {zs : List α} (h : ∀ q ∈ zs, R (f q) (g q)) : Paired R (zs.map f) (zs.map g) := by
  induction zs with
  | nil => exact .nil
  | cons z r ih => exact .cons (h z (by simp)) (ih fun q hq => h q (by simp [hq]))
theorem inj_of_nodup {ts : List Tie} : (ts.map (·.1)).Nodup → ∀ {t u : Tie}, t ∈ ts → u ∈ ts → t.1 = u.1 → t = u := by
  induction ts with
  | nil => intro _ t u h; simp at h
  | cons x r ih =>
    intro nd t u ht hu e
    rw [List.map_cons, List.nodup_cons] at nd
    rcases List.mem_cons.mp ht with h1 | h1 <;> rcases List.mem_cons.mp hu with h2 | h2
    · rw [h1, h2]
    · exact (nd.1 (by rw [← h1, e]; exact List.mem_map_of_mem h2)).elim
    · exact (nd.1 (by rw [← h2, ← e]; exact List.mem_map_of_mem h1)).elim
    · exact ih nd.2 h1 h2 e
theorem sc_Web_changed : FnScope ["self", "name", "least", "greatest", "known", "one", "other", "low", "high", "fresh", "tie"] ["self", "name", "least", "greatest"] (defScope s_Web_changed) := ⟨rfl, rfl, rfl, by decide +kernel, rfl, by decide +kernel, by decide +kernel⟩
def newT (n : Str) (lo hi : Int) (w : Wb) : Wb := (w.1, w.2.map fun t => if t.1 = n then (n, t.2.1, t.2.2.1, lo, hi) else t)
def sp_Web_changed (K : PySem.W.Frag) : Sp := fun vs H Q E => ∃ (a : Addr) (w : Wb) (n : Str) (lo hi : Int), vs = [.ref a, .str n, .int lo, .int hi] ∧ WebAt K H a w ∧ Lim w ∧ Valid w ∧
  (n ∈ names w → 0 ≤ lo → lo ≤ hi → Valid (newT n lo hi w) → ∀ x H', Same H H' → WebAt K H' x (newT n lo hi w) → Q (.ref x) H') ∧ (¬ ((n ∈ names w ∧ 0 ≤ lo ∧ lo ≤ hi) ∧ Valid (newT n lo hi w)) → Xs K H E)
theorem ok_Web_changed (T : W0 P w K mg) : MFn P w K mg base 7 "Web" "changed" (sp_Web_changed K) := by
  obtain ⟨fd, F⟩ := T.d_Web_changed
  refine ⟨T.m_Web_changed, F.fr sc_Web_changed (fun _ _ _ _ _ _ us hl => match us, hl with | [_, _, _, _], _ => rfl) (fun vs H Q E h => by first | (obtain ⟨rfl, _⟩ := h; rfl) | (obtain ⟨_, rfl, _⟩ := h; rfl) | (obtain ⟨_, _, rfl, _⟩ := h; rfl) | (obtain ⟨_, _, _, rfl, _⟩ := h; rfl) | (obtain ⟨_, _, _, _, rfl, _⟩ := h; rfl) | (obtain ⟨_, _, _, _, _, rfl, _⟩ := h; rfl) | (obtain ⟨_, _, _, _, _, _, rfl, _⟩ := h; rfl) | (obtain ⟨_, _, _, _, _, _, _, rfl, _⟩ := h; rfl) | (obtain ⟨_, _, _, _, _, _, _, _, rfl, _⟩ := h; rfl) | (obtain ⟨_, _, _, _, _, _, _, _, _, rfl, _⟩ := h; rfl)) fun cdv A outer s H vs Q E hr h => ⟨_, (pss_cons (ps_asg (eMeth (ok_Web_tie T) T.c_Web (hr.mono (by decide)) (passes_call (takes_of rfl rfl rfl rfl) (fun _ _ _ _ h => h)) (pv 0) (pa_cons (pv 1) pa_nil)) (kTupG (K := K) (n := 5) rfl rfl (pgs_cons (pg_name (i := 4) sc_Web_changed.nd rfl (Or.inl rfl)) (pgs_cons (pg_name (i := 5) sc_Web_changed.nd rfl (Or.inl rfl)) (pgs_cons (pg_name (i := 6) sc_Web_changed.nd rfl (Or.inl rfl)) (pgs_cons (pg_name (i := 7) sc_Web_changed.nd rfl (Or.inl rfl)) (pgs_cons (pg_name (i := 8) sc_Web_changed.nd rfl (Or.inl rfl)) pgs_nil))))))) (pss_cons (ps_if (PW.pt (pw_or (pt_not (pt_val (eCall (ok_is_whole T) (hr.mono (by decide)) passL (by rfl) (pa_cons (pv 2) pa_nil)))) (pw_or (pt_not (pt_val (eCall (ok_is_whole T) (hr.mono (by decide)) passL (by rfl) (pa_cons (pv 3) pa_nil)))) (pw_or1 (pt_not (pt_chain op_le op_le pe_int (pv 2) (pv 3))))))) (pss_one (eRaise (ok_InvalidSpan T) (hr.mono (by decide)) rfl (takes_of rfl rfl rfl rfl) (by rfl) (by decide) (pa_cons (pv 2) (pa_cons (pv 3) pa_nil)))) pss_nil) (pss_cons (ps_set (i := 9) sc_Web_changed.nd rfl (Or.inr rfl) (pe_tup (pa_cons (pv 1) (pa_cons (pv 5) (pa_cons (pv 6) (pa_cons (pv 2) (pa_cons (pv 3) pa_nil))))))) (pss_one (ps_ret (eMake (ok_Web_init T) (hr.mono (by decide)) (passes_call (takes_of rfl rfl rfl rfl) (fun _ _ _ _ h => h)) (by rfl) (pa_cons (eFld T.c_Web T.n_Web_places (pv 0)) (pa_cons (pe_callTy call_tuple_of (by rfl) T.f_tuple (by decide +kernel) (pa_cons (pe_lc (own := [("tie", 10)]) (by rfl) sc_Web_changed.nd (pi_tup (eFld T.c_Web T.n_Web_bonds (pv 0))) (blkOk_by (own := [("tie", 10)]) (N := ["self", "name", "least", "greatest", "known", "one", "other", "low", "high", "fresh", "tie"]) (sc := defScope s_Web_changed) (by decide +kernel)) (fun _ _ _ _ _ => (pg_name (i := 10) sc_Web_changed.nd rfl (Or.inl rfl))) (fun _ _ _ _ _ => pts_nil) (fun _ _ _ _ _ => (pe_ifExp (pt_cmpR op_eq (pe_ix (kIxT (K := K) rfl) (pv 10) pe_int (fun _ _ => rfl)) (pv 1) (nomark _)) (pv 9) (pv 10)))) pa_nil)) pa_nil)))))))), ?_⟩⟩
  obtain ⟨a, w, n, lo, hi, rfl, hw, hl, hv, hg, hb⟩ := h
  have hw0 := hw
  obtain ⟨dx, pa, ta, ea, hp, as, ha, hts⟩ := hw0
  refine ⟨_, rfl, a, dx, _, rfl, ea, rfl, _, rfl, a, w, n, rfl, hw, fun t b tm tn tb => ?_, fun nm => hb fun q => nm q.1.1⟩
  have nm : n ∈ names w := by
    rw [← tn]
    exact List.mem_map_of_mem tm
  refine ⟨b, _, rfl, SqT.of tb, rfl, _, _, rfl, _, _, rfl, _, _, rfl, _, _, rfl, _, _, rfl, rfl, ?_⟩
  have bad : ¬ (0 ≤ lo ∧ lo ≤ hi) → ∀ (d : Addr) (H5 : Hp), H d = none → Same H H5 → H5 d = some (.xd [("high", .int hi), ("low", .int lo)]) → E (.ref (He.ga K "InvalidSpan")) (some d) H5 := fun nb d H5 hd sm7 e13 =>
    hb (fun g => nb g.1.2) _ _ _ sm7 (.inr (.inl ⟨rfl, _, _, _, rfl, e13⟩))
  refine ⟨_, rfl, lo, rfl, _, rfl, iteN rfl ⟨_, rfl, hi, rfl, _, rfl, iteN rfl ⟨_, rfl, _, _, rfl, rfl, _, rfl, iteD (fun h0 => ⟨_, rfl, _, _, rfl, rfl, _, rfl, iteB (fun h1 => ?_) fun h1 => ?_⟩) fun h0 => ⟨_, rfl, ?_⟩⟩⟩⟩
  · exact ⟨_, rfl, _, rfl, rfl, bad fun h2 => by simp [h2.2] at h1⟩
  · have h1 : lo ≤ hi := by simpa using h1
    refine ⟨_, rfl, _, rfl, _, rfl, _, rfl, _, rfl, (by show 5 ≤ sizeLine; decide), fun f hf => ?_⟩
    have sf := same_upd (o := .tup [.str n, .str t.2.1, .str t.2.2.1, .int lo, .int hi]) hf
    have uniq : ∀ u ∈ w.2, u.1 = n → u = t := fun u um un => by
      have nd : (w.2.map (·.1)).Nodup := hv.ties.2
      exact inj_of_nodup nd um tm (un.trans tn.symm)
    refine ⟨_, rfl, a, dx, _, _, rfl, sf _ _ ea, rfl, _, rfl, a, dx, _, _, rfl, sf _ _ ea, rfl, ta, rfl, ⟨_, SqT.of (sf _ _ ha)⟩, fun D hD => ?_⟩
    refine lc_acc walk_tup hD (fun j => ((as.zip w.2).take j).map fun q => V.ref (if q.2.1 = n then f else q.1)) rfl (fun j hj => lt_size ?_) (fun H3 sm3 => SqT.of (sm3 _ _ (sf _ _ ha))) (fun j x H3 H4 hj sm3 y Yes No hy hn2 => ?_) fun H3 sm3 e4 => ?_
    · rw [List.length_map, List.length_take]
      have h3 := hl.t
      rw [List.length_map, paired_len hts] at hj
      omega
    · obtain ⟨eH, ex⟩ := y
      subst eH
      rw [List.getElem?_map] at ex
      obtain ⟨c, ec, ex2⟩ := Option.map_eq_some_iff.mp ex
      subst ex2
      obtain ⟨u, eu, uz⟩ := paired_get' hts ec
      have ezp := zip_get ec eu
      refine ⟨rfl, _, rfl, c, _, _, _, rfl, rfl, SqT.of (sm3 _ _ (sf _ _ uz)), atI_nat (j := 0) rfl, _, rfl, rfl, _, rfl, iteD (fun e1 => ?_) fun e1 => ?_⟩
      · have e2 : u.1 = n := V.str.inj e1
        refine ⟨_, rfl, hy _ _ same_rfl ?_⟩
        rw [take_snoc ezp, List.map_append, List.map_cons, List.map_nil, if_pos e2]
      · have e2 : ¬ u.1 = n := fun e => e1 (by rw [e])
        refine ⟨_, rfl, hy _ _ same_rfl ?_⟩
        rw [take_snoc ezp, List.map_append, List.map_cons, List.map_nil, if_neg e2]
    · have lz : (as.map V.ref).length = (as.zip w.2).length := by
        rw [List.length_map, List.length_zip, paired_len hts]
        omega
      rw [lz, List.take_length] at e4
      refine ⟨D, _, rfl, .inl ⟨SqL.of e4, fun p2 hp2 x dx2 hx hdx ne => ?_⟩⟩
      obtain ⟨zf, zsn, zr⟩ := paired_zip hts
      have s1 := sf.trans sm3
      have s2 := s1.trans (same_upd (o := .tup ((as.zip w.2).map fun q => V.ref (if q.2.1 = n then f else q.1))) hp2)
      have s3 := s2.trans (mk_same (o := .own x) (u := .ins (He.ga K "Web") dx2 []) hx hdx ne)
      have sff : Same _ _ := (sm3.trans (same_upd (o := .tup ((as.zip w.2).map fun q => V.ref (if q.2.1 = n then f else q.1))) hp2)).trans (mk_same (o := .own x) (u := .ins (He.ga K "Web") dx2 []) hx hdx ne)
      have ef : (newT n lo hi w).2 = (as.zip w.2).map fun q => (if q.2.1 = n then (n, q.2.2.1, q.2.2.2.1, lo, hi) else q.2 : Tie) := by
        show w.2.map _ = _
        conv => lhs; rw [← zsn]
        rw [List.map_map]
        rfl
      have lim : Lim (newT n lo hi w) := ⟨hl.p, by show (w.2.map _).length ≤ 1000; rw [List.length_map]; exact hl.t, hl.z, fun t' ht' => by
        obtain ⟨u, hu, eu⟩ := List.mem_map.mp ht'
        rw [← eu]
        by_cases e : u.1 = n
        · rw [if_pos e]
          exact e ▸ hl.tz u hu
        · rw [if_neg e]
          exact hl.tz u hu⟩
      refine ⟨x, pa, p2, dx2, newT n lo hi w, rfl, upd_same, s3 _ _ hp, ⟨(as.zip w.2).map fun q => if q.2.1 = n then f else q.1, ?_, ?_⟩, lim, fun v H' kp hwx => ⟨rfl, hg nm h0 h1 v x H' (s2.trans (mk_end hx hdx ne kp)) hwx⟩, fun nv cls d H' sm => hb (fun q => nv q.2) cls d H' (s3.trans sm)⟩
      · have e := mk_same (o := .own x) (u := .ins (He.ga K "Web") dx2 []) hx hdx ne p2 _ upd_same
        exact e.trans (by rw [List.map_map]; rfl)
      · rw [ef]
        refine paired_map fun q hq => ?_
        by_cases e : q.2.1 = n
        · rw [if_pos e, if_pos e]
          have eu := uniq q.2 (by rw [← zsn]; exact List.mem_map_of_mem hq) e
          rw [eu]
          exact sff _ _ upd_same
        · rw [if_neg e, if_neg e]
          exact s3 _ _ (zr q hq)
  · exact ⟨_, rfl, _, rfl, rfl, bad fun h2 => h0 h2.1⟩
end
end Wy
set_option Elab.async false
set_option linter.all false
set_option maxRecDepth 100000
set_option maxHeartbeats 0
namespace Wy
open PySem PySem.Spec PyProof.Rows L2 StX
/-- a keeper's state: the web, and what was done: each web ahead, each change -/
abbrev Kst : Type := Wb × List (Wb × Chg)
def PastAt (K : PySem.W.Frag) (H : Hp) (a : Addr) (q : Wb × Chg) : Prop := ∃ wa ca, H a = some (.tup [.ref wa, .ref ca]) ∧ WebAt K H wa q.1 ∧ ChgAt H ca q.2
def KeepAt (K : PySem.W.Frag) (H : Hp) (k p : Addr) (st : Kst) : Prop := ∃ dk wa ra as, H k = some (.ins (He.ga K "Keeper") dk [("kept", .ref wa), ("rods", .ref ra), ("past", .ref p)]) ∧ WebAt K H wa st.1 ∧ H ra = some (.tup []) ∧ H p = some (.lst (as.map V.ref)) ∧ Paired (PastAt K H) as st.2
section
variable {K : PySem.W.Frag} {H H' : Hp}
theorem PastAt.im {a : Addr} {q : Wb × Chg} (h : PastAt K H a q) (i : Im K H H') : PastAt K H' a q := let ⟨wa, ca, e, hw, hc⟩ := h; ⟨wa, ca, i.tup e, hw.im i, hc.im i⟩
theorem KeepAt.ch {k p : Addr} {st : Kst} {S : Addr → Prop} (h : KeepAt K H k p st) (c : Ch K S H H') (nk : ¬ S k) (np : ¬ S p) : KeepAt K H' k p st := by
  obtain ⟨dk, wa, ra, as, e, hw, hr, hp, ps⟩ := h
  exact ⟨dk, wa, ra, as, c.at e nk, hw.im c.im, c.im.tup hr, c.at hp np, Paired.mapP ps fun _ _ q => PastAt.im q c.im⟩
theorem KeepAt.same {k p : Addr} {st : Kst} (h : KeepAt K H k p st) (s : Same H H') : KeepAt K H' k p st := h.ch (S := fun _ => False) (Same.ch s) (fun z => z) fun z => z
theorem KeepAt.ne {k p : Addr} {st : Kst} (h : KeepAt K H k p st) : k ≠ p := by
  obtain ⟨dk, wa, ra, as, e, hw, hr, hp, ps⟩ := h
  exact ne_of e hp (by intro z; cases z)
theorem keeper_not_web (N : He.ga K "Keeper" ≠ He.ga K "Web") {dk : Addr} {fs : List (Str × V)} : ¬ immO K (.ins (He.ga K "Keeper") dk fs) := N
theorem KeepAt.web {k p : Addr} {st : Kst} (h : KeepAt K H k p st) : ∃ dk wa ra, H k = some (.ins (He.ga K "Keeper") dk [("kept", .ref wa), ("rods", .ref ra), ("past", .ref p)]) ∧ WebAt K H wa st.1 := let ⟨dk, wa, ra, _, e, hw, _⟩ := h; ⟨dk, wa, ra, e, hw⟩
end
section
variable {P : Program} {w : World} {K : PySem.W.Frag} {mg : Str → Option Value} {base : Heap}
theorem sc_Keeper_init : FnScope ["self", "web"] ["self", "web"] (defScope s_Keeper_init) := ⟨rfl, rfl, rfl, by decide +kernel, rfl, by decide +kernel, by decide +kernel⟩
def sp_Keeper_init (K : PySem.W.Frag) : Sp := fun vs H Q E => ∃ (x wa dx : Addr) (w : Wb), vs = [.ref x, .ref wa] ∧ H x = some (.ins (He.ga K "Keeper") dx []) ∧ WebAt K H wa w ∧
  ∀ H' p, (∀ c o, c ≠ x → H c = some o → H' c = some o) → H p = none → KeepAt K H' x p (w, []) → Q .non H'
theorem ok_Keeper_init (T : W0 P w K mg) : IFn P w K mg base 1 "Keeper" (sp_Keeper_init K) := by
  obtain ⟨fd, F⟩ := T.d_Keeper_init
  refine ⟨T.g_Keeper, T.mk_Keeper, F.fr sc_Keeper_init (fun _ _ _ _ _ _ us hl => match us, hl with | [_, _], _ => rfl) (fun vs H Q E h => by first | (obtain ⟨rfl, _⟩ := h; rfl) | (obtain ⟨_, rfl, _⟩ := h; rfl) | (obtain ⟨_, _, rfl, _⟩ := h; rfl) | (obtain ⟨_, _, _, rfl, _⟩ := h; rfl) | (obtain ⟨_, _, _, _, rfl, _⟩ := h; rfl) | (obtain ⟨_, _, _, _, _, rfl, _⟩ := h; rfl) | (obtain ⟨_, _, _, _, _, _, rfl, _⟩ := h; rfl) | (obtain ⟨_, _, _, _, _, _, _, rfl, _⟩ := h; rfl) | (obtain ⟨_, _, _, _, _, _, _, _, rfl, _⟩ := h; rfl) | (obtain ⟨_, _, _, _, _, _, _, _, _, rfl, _⟩ := h; rfl)) fun cdv A outer s H vs Q E hr h => ⟨_, (pss_cons (eSet T.c_Keeper T.n_Keeper_kept (pv 0) (pv 1)) (pss_cons (eSet T.c_Keeper T.n_Keeper_rods (pv 0) (pe_tup pa_nil)) (pss_one (eSet T.c_Keeper T.n_Keeper_past (pv 0) (pe_lst pa_nil))))), ?_⟩⟩
  obtain ⟨x, wa, dx, w, rfl, hx, hw, hg⟩ := h
  refine ⟨_, rfl, _, rfl, x, dx, _, rfl, hx, (by show 0 < 1000; decide), ?_⟩
  refine ⟨Nat.zero_le _, fun r hr2 => ⟨_, rfl, x, dx, [("kept", .ref wa)], rfl, ?_, (by show 1 < 1000; decide), ?_⟩⟩
  · rw [upd_ne (fun z => by rw [← z, upd_same] at hr2; cases hr2), upd_same]
    rfl
  · refine ⟨Nat.zero_le _, fun p hp2 => ⟨_, rfl, x, dx, [("kept", .ref wa), ("rods", .ref r)], rfl, ?_, (by show 2 < 1000; decide), ?_⟩⟩
    · rw [upd_ne (fun z => by rw [← z, upd_same] at hp2; cases hp2), upd_same]
      rfl
    · have rx : r ≠ x := fun z => by rw [z, upd_same] at hr2; cases hr2
      have px : p ≠ x := fun z => by rw [z, upd_same] at hp2; cases hp2
      have hr3 : H r = none := by rw [upd_ne rx] at hr2; exact hr2
      have pr : p ≠ r := fun z => by rw [z, upd_ne rx, upd_same] at hp2; cases hp2
      have hp3 : H p = none := by rw [upd_ne px, upd_ne pr, upd_ne px] at hp2; exact hp2
      refine hg _ p (fun c o hc e => ?_) hp3 ⟨dx, wa, r, [], upd_same, ?_, ?_, ?_, .nil⟩
      · rw [upd_ne hc, upd_ne (ne_of_none e hp3), upd_ne hc, upd_ne (ne_of_none e hr3), upd_ne hc]
        exact e
      · refine WebAt.im hw fun a o e i => ?_
        have ax : a ≠ x := fun z => by rw [z, hx] at e; cases e; exact T.kw i
        rw [upd_ne ax, upd_ne (ne_of_none e hp3), upd_ne ax, upd_ne (ne_of_none e hr3), upd_ne ax]
        exact e
      · rw [upd_ne rx, upd_ne (Ne.symm pr), upd_ne rx, upd_same]
      · rw [upd_ne px, upd_same]
        rfl
theorem sc_Keeper_len : FnScope ["self"] ["self"] (defScope s_Keeper_len) := ⟨rfl, rfl, rfl, by decide +kernel, rfl, by decide +kernel, by decide +kernel⟩
def sp_Keeper_len (K : PySem.W.Frag) : Sp := fun vs H Q _ => ∃ (k p : Addr) (st : Kst), vs = [.ref k] ∧ KeepAt K H k p st ∧ st.1.2.length ≤ 1000 ∧ Q (.int st.1.2.length) H
theorem ok_Keeper_len (T : W0 P w K mg) : MFn P w K mg base 3 "Keeper" "__len__" (sp_Keeper_len K) := by
  obtain ⟨fd, F⟩ := T.d_Keeper_len
  refine ⟨T.m_Keeper_len, F.fr sc_Keeper_len (fun _ _ _ _ _ _ us hl => match us, hl with | [_], _ => rfl) (fun vs H Q E h => by first | (obtain ⟨rfl, _⟩ := h; rfl) | (obtain ⟨_, rfl, _⟩ := h; rfl) | (obtain ⟨_, _, rfl, _⟩ := h; rfl) | (obtain ⟨_, _, _, rfl, _⟩ := h; rfl) | (obtain ⟨_, _, _, _, rfl, _⟩ := h; rfl) | (obtain ⟨_, _, _, _, _, rfl, _⟩ := h; rfl) | (obtain ⟨_, _, _, _, _, _, rfl, _⟩ := h; rfl) | (obtain ⟨_, _, _, _, _, _, _, rfl, _⟩ := h; rfl) | (obtain ⟨_, _, _, _, _, _, _, _, rfl, _⟩ := h; rfl) | (obtain ⟨_, _, _, _, _, _, _, _, _, rfl, _⟩ := h; rfl)) fun cdv A outer s H vs Q E hr h => ⟨_, (pss_one (ps_ret (pe_callB (cLenO (ok_Web_len T) (hr.mono (by decide)) passL) (by rfl) T.f_len PySem.boot_len (pa_cons (eFld T.c_Keeper T.n_Keeper_kept (pv 0)) pa_nil)))), ?_⟩⟩
  obtain ⟨k, p, st, rfl, hk, hl, q⟩ := h
  obtain ⟨dk, wa, ra, e, hw⟩ := hk.web
  have hw0 := hw
  obtain ⟨dx, pa, ta, ea, _⟩ := hw0
  exact ⟨_, rfl, k, dk, _, _, rfl, e, rfl, wa, dx, _, rfl, ea, wa, st.1, rfl, hw, _, rfl, by omega, q⟩
theorem sc_Keeper_web : FnScope ["self"] ["self"] (defScope s_Keeper_web) := ⟨rfl, rfl, rfl, by decide +kernel, rfl, by decide +kernel, by decide +kernel⟩
def sp_Keeper_web (K : PySem.W.Frag) : Sp := fun vs H Q _ => ∃ (k p : Addr) (st : Kst), vs = [.ref k] ∧ KeepAt K H k p st ∧ ∀ wa, WebAt K H wa st.1 → Q (.ref wa) H
theorem ok_Keeper_web (T : W0 P w K mg) : MFn P w K mg base 1 "Keeper" "web" (sp_Keeper_web K) := by
  obtain ⟨fd, F⟩ := T.d_Keeper_web
  refine ⟨T.m_Keeper_web, F.fr sc_Keeper_web (fun _ _ _ _ _ _ us hl => match us, hl with | [_], _ => rfl) (fun vs H Q E h => by first | (obtain ⟨rfl, _⟩ := h; rfl) | (obtain ⟨_, rfl, _⟩ := h; rfl) | (obtain ⟨_, _, rfl, _⟩ := h; rfl) | (obtain ⟨_, _, _, rfl, _⟩ := h; rfl) | (obtain ⟨_, _, _, _, rfl, _⟩ := h; rfl) | (obtain ⟨_, _, _, _, _, rfl, _⟩ := h; rfl) | (obtain ⟨_, _, _, _, _, _, rfl, _⟩ := h; rfl) | (obtain ⟨_, _, _, _, _, _, _, rfl, _⟩ := h; rfl) | (obtain ⟨_, _, _, _, _, _, _, _, rfl, _⟩ := h; rfl) | (obtain ⟨_, _, _, _, _, _, _, _, _, rfl, _⟩ := h; rfl)) fun cdv A outer s H vs Q E hr h => ⟨_, (pss_one (ps_ret (eFld T.c_Keeper T.n_Keeper_kept (pv 0)))), ?_⟩⟩
  obtain ⟨k, p, st, rfl, hk, q⟩ := h
  obtain ⟨dk, wa, ra, e, hw⟩ := hk.web
  exact ⟨_, rfl, k, dk, _, _, rfl, e, rfl, q wa hw⟩
theorem sc_Keeper_need_free : FnScope ["self"] ["self"] (defScope s_Keeper_need_free) := ⟨rfl, rfl, rfl, by decide +kernel, rfl, by decide +kernel, by decide +kernel⟩
def sp_Keeper_need_free (K : PySem.W.Frag) : Sp := fun vs H Q _ => ∃ (k p : Addr) (st : Kst), vs = [.ref k] ∧ KeepAt K H k p st ∧ Q .non H
theorem ok_Keeper_need_free (T : W0 P w K mg) : MFn P w K mg base 1 "Keeper" "need_free" (sp_Keeper_need_free K) := by
  obtain ⟨fd, F⟩ := T.d_Keeper_need_free
  refine ⟨T.m_Keeper_need_free, F.fr sc_Keeper_need_free (fun _ _ _ _ _ _ us hl => match us, hl with | [_], _ => rfl) (fun vs H Q E h => by first | (obtain ⟨rfl, _⟩ := h; rfl) | (obtain ⟨_, rfl, _⟩ := h; rfl) | (obtain ⟨_, _, rfl, _⟩ := h; rfl) | (obtain ⟨_, _, _, rfl, _⟩ := h; rfl) | (obtain ⟨_, _, _, _, rfl, _⟩ := h; rfl) | (obtain ⟨_, _, _, _, _, rfl, _⟩ := h; rfl) | (obtain ⟨_, _, _, _, _, _, rfl, _⟩ := h; rfl) | (obtain ⟨_, _, _, _, _, _, _, rfl, _⟩ := h; rfl) | (obtain ⟨_, _, _, _, _, _, _, _, rfl, _⟩ := h; rfl) | (obtain ⟨_, _, _, _, _, _, _, _, _, rfl, _⟩ := h; rfl)) fun cdv A outer s H vs Q E hr h => ⟨_, (pss_one (ps_if (pt_cmpR op_gt (pe_callB call_len_seq (by rfl) T.f_len PySem.boot_len (pa_cons (eFld T.c_Keeper T.n_Keeper_rods (pv 0)) pa_nil)) pe_int (nomark _)) (pss_one ps_never) pss_nil)), ?_⟩⟩
  obtain ⟨k, p, st, rfl, hk, q⟩ := h
  obtain ⟨dk, wa, ra, as, e, hw, hr, hp, ps⟩ := hk
  exact ⟨_, rfl, k, dk, _, _, rfl, e, rfl, ra, _, rfl, .inr (SqT.of hr), _, _, rfl, rfl, _, rfl, iteN rfl q⟩
theorem sc_Keeper_move : FnScope ["self", "web", "change"] ["self", "web", "change"] (defScope s_Keeper_move) := ⟨rfl, rfl, rfl, by decide +kernel, rfl, by decide +kernel, by decide +kernel⟩
def sp_Keeper_move (K : PySem.W.Frag) : Sp := fun vs H Q _ => ∃ (k p wa ca : Addr) (st : Kst) (w : Wb) (c : Chg), vs = [.ref k, .ref wa, .ref ca] ∧ KeepAt K H k p st ∧ WebAt K H wa w ∧ ChgAt H ca c ∧ st.2.length ≤ 1000 ∧
  ∀ H', Ch K (fun b => b = k ∨ b = p) H H' → KeepAt K H' k p (w, st.2 ++ [(st.1, c)]) → Q .non H'
theorem ok_Keeper_move (T : W0 P w K mg) : MFn P w K mg base 1 "Keeper" "move" (sp_Keeper_move K) := by
  obtain ⟨fd, F⟩ := T.d_Keeper_move
  refine ⟨T.m_Keeper_move, F.fr sc_Keeper_move (fun _ _ _ _ _ _ us hl => match us, hl with | [_, _, _], _ => rfl) (fun vs H Q E h => by first | (obtain ⟨rfl, _⟩ := h; rfl) | (obtain ⟨_, rfl, _⟩ := h; rfl) | (obtain ⟨_, _, rfl, _⟩ := h; rfl) | (obtain ⟨_, _, _, rfl, _⟩ := h; rfl) | (obtain ⟨_, _, _, _, rfl, _⟩ := h; rfl) | (obtain ⟨_, _, _, _, _, rfl, _⟩ := h; rfl) | (obtain ⟨_, _, _, _, _, _, rfl, _⟩ := h; rfl) | (obtain ⟨_, _, _, _, _, _, _, rfl, _⟩ := h; rfl) | (obtain ⟨_, _, _, _, _, _, _, _, rfl, _⟩ := h; rfl) | (obtain ⟨_, _, _, _, _, _, _, _, _, rfl, _⟩ := h; rfl)) fun cdv A outer s H vs Q E hr h => ⟨_, (pss_cons (ps_expr (pe_bm PySem.F.plainAttrs_list PySem.F.slot_list_append PySem.F.type_list_append mt_append (eFld T.c_Keeper T.n_Keeper_past (pv 0)) (pa_cons (pe_tup (pa_cons (eFld T.c_Keeper T.n_Keeper_kept (pv 0)) (pa_cons (pv 2) pa_nil))) pa_nil))) (pss_one (eSet T.c_Keeper T.n_Keeper_kept (pv 0) (pv 1)))), ?_⟩⟩
  obtain ⟨k, p, wa, ca, st, w, c, rfl, hk, hw, hc, hl, q⟩ := h
  have nkp := hk.ne
  obtain ⟨dk, wa0, ra, as, e, hw0, hr, hp, ps⟩ := hk
  refine ⟨_, rfl, k, dk, _, _, rfl, e, rfl, .inl ⟨rfl, _, SqL.of hp⟩, _, rfl, k, dk, _, _, rfl, e, rfl, _, rfl, (by show 2 ≤ sizeLine; decide), fun t ht => ⟨p, as.map V.ref, _, rfl, rfl, ?_, ?_, ?_⟩⟩
  · rw [upd_ne (ne_of_none hp ht)]
    exact hp
  · rw [List.length_map, paired_len ps]
    exact lt_size (by omega)
  · have tk : t ≠ k := fun z => by rw [z, e] at ht; cases ht
    have tp : t ≠ p := fun z => by rw [z, hp] at ht; cases ht
    refine ⟨_, rfl, _, rfl, k, dk, [("kept", .ref wa0), ("rods", .ref ra), ("past", .ref p)], rfl, ?_, (by show 3 < 1000; decide), ?_⟩
    · rw [upd_ne nkp, upd_ne (Ne.symm tk)]
      exact e
    · have hk1 : (upd (upd H t (.tup [.ref wa0, .ref ca])) p (.lst (as.map V.ref ++ [.ref t]))) k = some (.ins (He.ga K "Keeper") dk [("kept", .ref wa0), ("rods", .ref ra), ("past", .ref p)]) := by
        rw [upd_ne nkp, upd_ne (Ne.symm tk)]
        exact e
      have hp1 : (upd H t (.tup [.ref wa0, .ref ca])) p = some (.lst (as.map V.ref)) := by
        rw [upd_ne (Ne.symm tp)]
        exact hp
      have c1 : Ch K (fun b => b = k ∨ b = p) H (upd H t (.tup [.ref wa0, .ref ca])) := ch_new ht
      have c2 : Ch K (fun b => b = k ∨ b = p) (upd H t (.tup [.ref wa0, .ref ca])) (upd (upd H t (.tup [.ref wa0, .ref ca])) p (.lst (as.map V.ref ++ [.ref t]))) := ch_upd hp1 (fun z => z) (.inr rfl)
      have c3 := (c1.trans c2).trans (ch_upd (u := .ins (He.ga K "Keeper") dk [("kept", .ref wa), ("rods", .ref ra), ("past", .ref p)]) hk1 T.kw (.inl rfl))
      refine q _ c3 ⟨dk, wa, ra, as ++ [t], upd_same, hw.im c3.im, c3.im.tup hr, ?_, ?_⟩
      · rw [upd_ne (Ne.symm nkp), upd_same, List.map_append]
        rfl
      · refine paired_app (Paired.mapP ps fun _ _ q => PastAt.im q c3.im) (.cons ⟨wa0, ca, ?_, hw0.im c3.im, hc.im c3.im⟩ .nil)
        rw [upd_ne tk, upd_ne tp, upd_same]
theorem sc_Keeper_log : FnScope ["self", "web", "change"] ["self"] (defScope s_Keeper_log) := ⟨rfl, rfl, rfl, by decide +kernel, rfl, by decide +kernel, by decide +kernel⟩
def sp_Keeper_log (K : PySem.W.Frag) : Sp := fun vs H Q _ => ∃ (k p : Addr) (st : Kst), vs = [.ref k] ∧ KeepAt K H k p st ∧ st.2.length ≤ 1000 ∧
  ∀ H' D cs, Same H H' → H D = none → H' D = some (.lst (cs.map V.ref)) → Paired (ChgAt H') cs (st.2.map (·.2)) → Q (.ref D) H'
theorem ok_Keeper_log (T : W0 P w K mg) : MFn P w K mg base 1 "Keeper" "log" (sp_Keeper_log K) := by
  obtain ⟨fd, F⟩ := T.d_Keeper_log
  refine ⟨T.m_Keeper_log, F.fr sc_Keeper_log (fun _ _ _ _ _ _ us hl => match us, hl with | [_], _ => rfl) (fun vs H Q E h => by first | (obtain ⟨rfl, _⟩ := h; rfl) | (obtain ⟨_, rfl, _⟩ := h; rfl) | (obtain ⟨_, _, rfl, _⟩ := h; rfl) | (obtain ⟨_, _, _, rfl, _⟩ := h; rfl) | (obtain ⟨_, _, _, _, rfl, _⟩ := h; rfl) | (obtain ⟨_, _, _, _, _, rfl, _⟩ := h; rfl) | (obtain ⟨_, _, _, _, _, _, rfl, _⟩ := h; rfl) | (obtain ⟨_, _, _, _, _, _, _, rfl, _⟩ := h; rfl) | (obtain ⟨_, _, _, _, _, _, _, _, rfl, _⟩ := h; rfl) | (obtain ⟨_, _, _, _, _, _, _, _, _, rfl, _⟩ := h; rfl)) fun cdv A outer s H vs Q E hr h => ⟨_, (pss_one (ps_ret (pe_lc (own := [("web", 1), ("change", 2)]) (by rfl) sc_Keeper_log.nd (pi_list (eFld T.c_Keeper T.n_Keeper_past (pv 0))) (blkOk_by (own := [("web", 1), ("change", 2)]) (N := ["self", "web", "change"]) (sc := defScope s_Keeper_log) (by decide +kernel)) (fun _ _ _ _ _ => (kTupG (K := K) (n := 2) rfl rfl (pgs_cons (pg_name (i := 1) sc_Keeper_log.nd rfl (Or.inl rfl)) (pgs_cons (pg_name (i := 2) sc_Keeper_log.nd rfl (Or.inl rfl)) pgs_nil)))) (fun _ _ _ _ _ => pts_nil) (fun _ _ _ _ _ => (pv 2))))), ?_⟩⟩
  obtain ⟨k, p, st, rfl, hk, hl, q⟩ := h
  obtain ⟨dk, wa, ra, as, e, hw, hr, hp, ps⟩ := hk
  have ex : ∃ cs, Paired (fun a c => ∃ wa, H a = some (.tup [.ref wa, .ref c])) as cs ∧ Paired (ChgAt H) cs (st.2.map (·.2)) := by
    clear hp q hl hw
    obtain ⟨s1, s2⟩ := st
    dsimp only at ps ⊢
    induction ps with
    | nil => exact ⟨[], .nil, .nil⟩
    | cons r _ ih =>
      obtain ⟨wa, ca, h1, h2, h3⟩ := r
      obtain ⟨cs, h4, h5⟩ := ih
      exact ⟨ca :: cs, .cons ⟨wa, h1⟩ h4, .cons h3 h5⟩
  obtain ⟨cs, pc, pd⟩ := ex
  refine ⟨_, rfl, k, dk, _, _, rfl, e, rfl, p, rfl, ⟨_, SqL.of hp⟩, fun D hD => ?_⟩
  have la : as.length = st.2.length := paired_len ps
  refine lc_acc walk_list hD (fun j => (cs.take j).map V.ref) rfl (fun j hj => lt_size ?_) (fun H3 sm3 => SqL.of (sm3 _ _ hp)) (fun j x H3 H4 hj sm3 y Yes No hy hn => ?_) fun H3 sm3 e4 => ?_
  · rw [List.length_map, List.length_take]
    rw [List.length_map] at hj
    omega
  · obtain ⟨eH, ex⟩ := y
    subst eH
    rw [List.getElem?_map] at ex
    obtain ⟨b, eb, ex2⟩ := Option.map_eq_some_iff.mp ex
    subst ex2
    obtain ⟨c, ec, w1, hc⟩ := paired_get' pc eb
    refine ⟨b, _, rfl, SqT.of (sm3 _ _ hc), rfl, _, _, rfl, _, _, rfl, rfl, rfl, _, rfl, hy _ _ same_rfl ?_⟩
    rw [take_snoc ec, List.map_append]
    rfl
  · have lc : (as.map V.ref).length = cs.length := by rw [List.length_map, paired_len pc]
    rw [lc, List.take_length] at e4
    exact q H3 D cs sm3 hD e4 (Paired.mapP pd fun _ _ z => ChgAt.im (K := K) z (Same.im sm3))
theorem sc_Keeper_eq : FnScope ["self", "other"] ["self", "other"] (defScope s_Keeper_eq) := ⟨rfl, rfl, rfl, by decide +kernel, rfl, by decide +kernel, by decide +kernel⟩
def sp_Keeper_eq (K : PySem.W.Frag) : Sp := fun vs H Q _ => ∃ (k p k2 p2 : Addr) (st st2 : Kst), vs = [.ref k, .ref k2] ∧ KeepAt K H k p st ∧ KeepAt K H k2 p2 st2 ∧ Valid st.1 ∧ Valid st2.1 ∧ Q (.bl (decide (st.1 = st2.1))) H
theorem ok_Keeper_eq (T : W0 P w K mg) : MFn P w K mg base 3 "Keeper" "__eq__" (sp_Keeper_eq K) := by
  obtain ⟨fd, F⟩ := T.d_Keeper_eq
  refine ⟨T.m_Keeper_eq, F.fr sc_Keeper_eq (fun _ _ _ _ _ _ us hl => match us, hl with | [_, _], _ => rfl) (fun vs H Q E h => by first | (obtain ⟨rfl, _⟩ := h; rfl) | (obtain ⟨_, rfl, _⟩ := h; rfl) | (obtain ⟨_, _, rfl, _⟩ := h; rfl) | (obtain ⟨_, _, _, rfl, _⟩ := h; rfl) | (obtain ⟨_, _, _, _, rfl, _⟩ := h; rfl) | (obtain ⟨_, _, _, _, _, rfl, _⟩ := h; rfl) | (obtain ⟨_, _, _, _, _, _, rfl, _⟩ := h; rfl) | (obtain ⟨_, _, _, _, _, _, _, rfl, _⟩ := h; rfl) | (obtain ⟨_, _, _, _, _, _, _, _, rfl, _⟩ := h; rfl) | (obtain ⟨_, _, _, _, _, _, _, _, _, rfl, _⟩ := h; rfl)) fun cdv A outer s H vs Q E hr h => ⟨_, (pss_one (ps_ret (pe_and (pe_callB (kIsi (K := K) rfl) (by rfl) T.f_isinstance (by decide +kernel) (pa_cons (pv 1) (pa_cons (pe_glob (v := .ref (He.ga K "Keeper")) (by rfl) T.g_Keeper rfl) pa_nil))) (pe_and (pe_cmpR (oEqO (ok_Web_eq T) (hr.mono (by decide)) passL T.ne_Web.nf) (eFld T.c_Keeper T.n_Keeper_kept (pv 0)) (eFld T.c_Keeper T.n_Keeper_kept (pv 1)) (nomark _)) (pe_one (pe_cmpR (kEqD (K := K) rfl hr.units) (eFld T.c_Keeper T.n_Keeper_rods (pv 0)) (eFld T.c_Keeper T.n_Keeper_rods (pv 1)) (nomark _))))))), ?_⟩⟩
  obtain ⟨k, p, k2, p2, st, st2, rfl, hk, hk2, v1, v2, q⟩ := h
  obtain ⟨dk, wa, ra, as, e, hw, hr, hp, ps⟩ := hk
  obtain ⟨dk2, wa2, ra2, as2, e2, hw2, hr2, hp2, ps2⟩ := hk2
  refine ⟨_, rfl, _, _, _, _, true, rfl, .own _, .base (.ins e2 T.c_Keeper T.in_Keeper.ha T.in_Keeper.hn T.in_Keeper.htk T.in_Keeper.hm), if_pos (beq_self_eq_true _), true, rfl, iteY rfl ?_⟩
  have w1 := hw
  have w2 := hw2
  obtain ⟨d1, _, _, f1, _⟩ := w1
  obtain ⟨d2, _, _, f2, _⟩ := w2
  refine ⟨_, rfl, k, dk, _, _, rfl, e, rfl, _, rfl, k2, dk2, _, _, rfl, e2, rfl, wa, d1, _, wa2, d2, _, rfl, rfl, f1, f2, wa, wa2, st.1, st2.1, rfl, hw, hw2, v1, v2, _, rfl, _, rfl, iteD (fun e3 => ?_) fun e3 => ?_⟩
  · refine ⟨_, rfl, k, dk, _, _, rfl, e, rfl, _, rfl, k2, dk2, _, _, rfl, e2, rfl, .tuple [], .tuple [], .tup (SqT.of hr) .nil, .tup (SqT.of hr2) .nil, by decide +kernel, by decide +kernel, ?_⟩
    have z : decide (st.1 = st2.1) = true := decide_eq_true e3
    rw [z] at q
    exact q
  · have z : decide (st.1 = st2.1) = false := decide_eq_false e3
    rw [z] at q
    exact q
theorem paired_snoc {α β : Type} {R : α → β → Prop} : ∀ {as : List α} {a : α} {bs : List β}, Paired R (as ++ [a]) bs → ∃ bs' b, bs = bs' ++ [b] ∧ Paired R as bs' ∧ R a b
  | [], _, _, .cons r .nil => ⟨[], _, rfl, .nil, r⟩
  | _ :: _, _, _, .cons r t => by
    obtain ⟨bs', b, e, p, q⟩ := paired_snoc t
    exact ⟨_ :: bs', b, by rw [e]; rfl, .cons r p, q⟩
theorem sc_Keeper_undo : FnScope ["self", "change"] ["self"] (defScope s_Keeper_undo) := ⟨rfl, rfl, rfl, by decide +kernel, rfl, by decide +kernel, by decide +kernel⟩
def undoSt (st : Kst) : Kst := match st.2.getLast? with
  | none => st
  | some q => (q.1, st.2.dropLast)
def sp_Keeper_undo (K : PySem.W.Frag) : Sp := fun vs H Q _ => ∃ (k p : Addr) (st : Kst), vs = [.ref k] ∧ KeepAt K H k p st ∧ ∀ H', Ch K (fun b => b = k ∨ b = p) H H' → KeepAt K H' k p (undoSt st) → Q (.bl (!st.2.isEmpty)) H'
theorem ok_Keeper_undo (T : W0 P w K mg) : MFn P w K mg base 3 "Keeper" "undo" (sp_Keeper_undo K) := by
  obtain ⟨fd, F⟩ := T.d_Keeper_undo
  refine ⟨T.m_Keeper_undo, F.fr sc_Keeper_undo (fun _ _ _ _ _ _ us hl => match us, hl with | [_], _ => rfl) (fun vs H Q E h => by first | (obtain ⟨rfl, _⟩ := h; rfl) | (obtain ⟨_, rfl, _⟩ := h; rfl) | (obtain ⟨_, _, rfl, _⟩ := h; rfl) | (obtain ⟨_, _, _, rfl, _⟩ := h; rfl) | (obtain ⟨_, _, _, _, rfl, _⟩ := h; rfl) | (obtain ⟨_, _, _, _, _, rfl, _⟩ := h; rfl) | (obtain ⟨_, _, _, _, _, _, rfl, _⟩ := h; rfl) | (obtain ⟨_, _, _, _, _, _, _, rfl, _⟩ := h; rfl) | (obtain ⟨_, _, _, _, _, _, _, _, rfl, _⟩ := h; rfl) | (obtain ⟨_, _, _, _, _, _, _, _, _, rfl, _⟩ := h; rfl)) fun cdv A outer s H vs Q E hr h => ⟨_, (pss_cons (ps_expr (eMeth0 (ok_Keeper_need_free T) T.c_Keeper (hr.mono (by decide)) passL (pv 0))) (pss_cons (ps_if (pt_cmpR op_eq (pe_callB call_len_seq (by rfl) T.f_len PySem.boot_len (pa_cons (eFld T.c_Keeper T.n_Keeper_past (pv 0)) pa_nil)) pe_int (nomark _)) (pss_one (ps_ret pe_bl)) pss_nil) (pss_cons (ps_asg (pe_bm0 PySem.F.plainAttrs_list PySem.F.slot_list_pop PySem.F.type_list_pop mt_pop (eFld T.c_Keeper T.n_Keeper_past (pv 0))) (kTupG (K := K) (n := 2) rfl rfl (pgs_cons (pg_fld T.c_Keeper T.n_Keeper_kept (pv 0)) (pgs_cons (pg_name (i := 1) sc_Keeper_undo.nd rfl (Or.inl rfl)) pgs_nil)))) (pss_one (ps_ret pe_bl))))), ?_⟩⟩
  obtain ⟨k, p, st, rfl, hk, q⟩ := h
  have hk0 := hk
  have nkp := hk.ne
  obtain ⟨dk, wa, ra, as, e, hw, hr, hp, ps⟩ := hk
  refine ⟨_, rfl, k, dk, _, rfl, e, rfl, k, p, st, rfl, hk0, _, rfl, k, dk, _, _, rfl, e, rfl, p, _, rfl, .inl (SqL.of hp), rfl, _, rfl, ?_⟩
  obtain ⟨w0, ps0⟩ := st
  dsimp only at ps q hw
  refine iteB (fun e1 => ?_) fun e1 => ?_
  · have e2 := of_decide_eq_true e1
    have e3 : as = [] := by
      have z : ((as.map V.ref).length : Int) = 0 := V.int.inj e2
      rw [List.length_map] at z
      exact List.length_eq_zero_iff.mp (by omega)
    subst e3
    cases ps
    exact q H Ch.refl hk0
  · have e2 := of_decide_eq_false e1
    have ne : as ≠ [] := fun z => e2 (by rw [z]; rfl)
    obtain ⟨as', t, rfl⟩ : ∃ as' t, as = as' ++ [t] := ⟨as.dropLast, as.getLast ne, (List.dropLast_concat_getLast ne).symm⟩
    obtain ⟨ps', q0, rfl, pp, wa2, ca, et, hw2, hc⟩ := paired_snoc ps
    refine ⟨_, rfl, k, dk, _, _, rfl, e, rfl, .inl ⟨rfl, _, SqL.of hp⟩, p, _, .ref t, rfl, rfl, hp, by simp, ?_⟩
    have nt : t ≠ p := ne_of et hp (by intro z; cases z)
    refine ⟨t, [.ref wa2, .ref ca], rfl, SqT.of (by rw [upd_ne nt]; exact et), rfl, _, _, rfl, ?_⟩
    have e4 : (upd H p (.lst ((as' ++ [t]).map V.ref).dropLast)) k = some (.ins (He.ga K "Keeper") dk [("kept", .ref wa), ("rods", .ref ra), ("past", .ref p)]) := by
      rw [upd_ne nkp]
      exact e
    refine ⟨_, rfl, k, dk, _, rfl, e4, (by show 3 < 1000; decide), _, _, rfl, rfl, ?_⟩
    have c1 : Ch K (fun b => b = k ∨ b = p) H (upd H p (.lst ((as' ++ [t]).map V.ref).dropLast)) := ch_upd hp (fun z => z) (.inr rfl)
    have c2 := c1.trans (ch_upd (u := .ins (He.ga K "Keeper") dk [("kept", .ref wa2), ("rods", .ref ra), ("past", .ref p)]) e4 T.kw (.inl rfl))
    have z := q _ c2 ?_
    · have e5 : (!(ps' ++ [q0]).isEmpty) = true := by simp
      rw [e5] at z
      exact z
    · have e6 : undoSt (w0, ps' ++ [q0]) = (q0.1, ps') := by
        unfold undoSt
        simp
      rw [e6]
      refine ⟨dk, wa2, ra, as', upd_same, hw2.im c2.im, c2.im.tup hr, ?_, Paired.mapP pp fun _ _ q => PastAt.im q c2.im⟩
      rw [upd_ne (Ne.symm nkp), upd_same, List.map_append, List.map_cons, List.map_nil, List.dropLast_concat]
end
end Wy
set_option Elab.async false
set_option linter.all false
set_option maxRecDepth 100000
set_option maxHeartbeats 0
namespace Wy
open PySem PySem.Spec PyProof.Rows L2 StX
section
variable {X : Cx} {k : Nat} {sp : Sp} {W : WX} {C m : Str} {e o : Expr} {es : List Expr} {t : TA} {ta te : TE} {p pos apos : Pos}
theorem runT {pins : List (Addr × Obj)} {σ : L2.St} {H : Hp} {s : Shared} {g : Addr} {Q : VK} {us : List Value} {vs : List V} (F : FnR X.prog X.w X.K X.mg X.base (L2.CX X.prog X.w) k g sp) (hr : Room k X.A) (tk : Takes X W) (I : Inv X pins σ H s) (r : Vals vs us)
    (h : sp vs H Q fun cls d H' => W cls d σ H') : codeAny (model X.prog X.w) X.A (.call (.ref g) ⟨us, []⟩) (fun r s' => match r with | .ok (.ret v) => EP X pins σ Q v s' | .ok _ => False | .error e => X.xe e s') s := by
  refine codeAny_mono (F X.A X.stack s H us vs Q _ hr I.env0 r h) fun r s' hq => ?_
  cases r with
  | error e => exact tk e s' (XE.of_call I (fun cls d H' h => h) hq)
  | ok fl =>
    cases fl with
    | ret u => exact I.after hq
    | next => exact hq
    | brk => exact hq
    | cont => exact hq
def tMT (C : Addr) (m : Str) (sp : Sp) (W : WX) (ta : TE) (t : TA) : TE := fun σ H Q => ta σ H fun x H1 => ∃ a dx fs, x = .ref a ∧ H1 a = some (.ins C dx fs) ∧ fs.lookup m = none ∧ t σ H1 fun vs H2 => sp (x :: vs) H2 Q fun cls d H' => W cls d σ H'
theorem eMethT {pl : Sem Bool} {K : PySem.W.Frag} (hK : X.K = K) (G : MFn X.prog X.w K X.mg X.base k C m sp) (c : Cls K (He.ga K C)) (hr : Room k X.A) (tk : Takes X W) (he : PE X o ta) (ha : PA X (e :: es) t)
    (hst : starEach (e :: es) X.env = (false, eval e X.env) :: starEach es X.env := by rfl) (hpl : (backTo pos (starEach es X.env)).any (·.1) = false := by rfl)
    (ht : eval (.Call (.Attribute o m apos) (e :: es) [] pos) X.env = (do
      let ov ← eval o X.env; standAt apos.atName; let (f, first) ← holding [ov] (getMethod ov m pl)
      callWith pos f first (backTo pos (starEach (e :: es) X.env)) (backToKw pos (keywordEach [] X.env))) := by rfl) :
    PE X (.Call (.Attribute o m apos) (e :: es) [] pos) (tMT (He.ga K C) m sp W ta t) := by
  subst hK
  refine ⟨fun pins s σ H Q I h => ?_⟩
  refine PySem.W.methodCall_KW (pl := pl) (thn (he.run pins s σ H _ I h) fun u s1 ⟨x, H1, I1, rx, a, dx, fs, ex, ea, l, q⟩ => ?_) ht
  subst ex
  obtain rfl : u = Value.ref a := rx
  refine getmeth_ok I1 ea c G.me l ?_
  refine PySem.W.callWith_K (h₀ := X.base) (first := [.ref a]) I.ok.mod.kin G.me.kp (thn (ha.run pos pins s1 σ H1 _ I1 q) fun us s2 ⟨vs, H2, I2, r, q2⟩ => ⟨I2.kIn, ?_⟩) hst hpl
  exact wpAny_call (runT (us := .ref a :: us) (vs := .ref a :: vs) G.run hr tk I2 (.cons rfl r) q2)
def tMStarT (C : Addr) (m : Str) (g : Addr) (sp : Sp) (W : WX) (ta te : TE) : TE := fun σ H Q => ta σ H fun x H1 => ∃ a dx fs, x = .ref a ∧ H1 a = some (.ins C dx fs) ∧ fs.lookup m = none ∧
  ∀ q, H1 q = none → te σ (upd H1 q (.met g a)) fun y H2 => ∃ b sq vs, y = .ref b ∧ H2 b = some (sqO sq vs) ∧ H2 q = some (.met g a) ∧ sp (.ref a :: vs) H2 Q fun cls d H' => W cls d σ H'
theorem eMStarT {sp_ : Pos} {K : PySem.W.Frag} (hK : X.K = K) (G : MFn X.prog X.w K X.mg X.base k C m sp) (c : Cls K (He.ga K C)) (b : BMeth K (He.ga K C) m (He.ma K (He.ga K C) m)) (hr : Room k X.A) (tk : Takes X W) (he : PE X o ta) (ha : PE X e te)
    (hb : attributeBase o m X.env (eval o X.env) = eval o X.env := by rfl) : PE X (.Call (.Attribute o m apos) [.Starred e sp_] [] pos) (tMStarT (He.ga K C) m (He.ma K (He.ga K C) m) sp W ta te) := by
  subst hK
  refine ⟨fun pins s σ H Q I h => ?_⟩
  refine starcall_of hb (thn (he.run pins s σ H _ I h) fun u s1 ⟨x, H1, I1, rx, a, dx, fs, ex, ea, l, q⟩ => ?_)
  subst ex
  obtain rfl : u = Value.ref a := rx
  refine getbound_ok I1 ea c b l fun q1 s2 hq1 I2 => ?_
  refine PySem.W.ks_call (P := PySem.W.MethP X.K q1 (He.ma X.K (He.ga X.K C) m) (.ref a)) rfl (PySem.W.keeps_M b.fi) (PySem.W.ks_lone ?_)
  refine thn (ha.run pins s2 σ _ _ I2 (q q1 hq1)) fun v s3 ⟨y, H2, I3, ry, t, sq, vs, ey, ht, hm, hsp⟩ => ?_
  subst ey
  obtain rfl : v = Value.ref t := ry
  have sq' : SqT X.K H2 t vs ∨ SqL X.K H2 t vs := by
    cases sq with
    | true => exact .inl (SqT.of ht)
    | false => exact .inr (SqL.of ht)
  refine star_any I3 sq' fun us s4 I4 rv => ⟨met_P I4 hm, ?_⟩
  exact wpAny_call (PySem.W.method_call (met_P I4 hm).1 (runT (us := Value.ref a :: us) (vs := V.ref a :: vs) G.run hr tk I4 (.cons rfl rv) hsp))

/-- the promise of a def that is called with n values and one keyword, told of values: those, then the keyword's -/
def FnKw (P : Program) (w : World) (K : PySem.W.Frag) (mg : Str → Option Value) (base : Heap) (k : Nat) (f : Addr) (key : Str) (sp : Sp) : Prop :=
  ∀ (A : Around) (outer : List Env) (s : Shared) (H : Hp) (us : List Value) (vs : List V) (u : Value) (v : V) (Q : VK) (E : XK), Room k A → Env0 P w K mg base A outer s H → Vals vs us → RelV v u → sp (vs ++ [v]) H Q E →
    codeAny (model P w) A (.call (.ref f) ⟨us, [(key, u)]⟩) (CR (L2.CX P w) outer P w H s Q E) s
structure MKw (P : Program) (w : World) (K : PySem.W.Frag) (mg : Str → Option Value) (base : Heap) (k : Nat) (C m key : Str) (sp : Sp) : Prop where
  me : Meth K (He.ga K C) m (He.ma K (He.ga K C) m)
  run : FnKw P w K mg base k (He.ma K (He.ga K C) m) key sp
def tMKT (C : Addr) (m : Str) (sp : Sp) (W : WX) (ta : TE) (t tk : TA) : TE := fun σ H Q => ta σ H fun x H1 => ∃ a dx fs, x = .ref a ∧ H1 a = some (.ins C dx fs) ∧ fs.lookup m = none ∧ t σ H1 fun vs H2 => tk σ H2 fun zs H3 => ∃ z, zs = [z] ∧ sp (x :: vs ++ [z]) H3 Q fun cls d H' => W cls d σ H'
theorem eMethKT {pl : Sem Bool} {key : Str} {kf : Expr} {kpos : Pos} {tf : TA} {K : PySem.W.Frag} (hK : X.K = K) (G : MKw X.prog X.w K X.mg X.base k C m key sp) (c : Cls K (He.ga K C)) (hr : Room k X.A) (tk : Takes X W) (he : PE X o ta) (ha : PA X [e] t) (hf : PK X [⟨some key, kf, kpos⟩] tf)
    (hst : starEach [e] X.env = (false, eval e X.env) :: starEach [] X.env := by rfl)
    (hpl : ((backTo pos (starEach [e] X.env)).any (·.1) || (backToKw pos (keywordEach [⟨some key, kf, kpos⟩] X.env)).any (·.1.isNone)) = false := by rfl)
    (ht : eval (.Call (.Attribute o m apos) [e] [⟨some key, kf, kpos⟩] pos) X.env = (do
      let ov ← eval o X.env; standAt apos.atName; let (f, first) ← holding [ov] (getMethod ov m pl)
      callWith pos f first (backTo pos (starEach [e] X.env)) (backToKw pos (keywordEach [⟨some key, kf, kpos⟩] X.env))) := by rfl) :
    PE X (.Call (.Attribute o m apos) [e] [⟨some key, kf, kpos⟩] pos) (tMKT (He.ga K C) m sp W ta t tf) := by
  subst hK
  refine ⟨fun pins s σ H Q I h => ?_⟩
  refine PySem.W.methodCall_KW (pl := pl) (thn (he.run pins s σ H _ I h) fun u s1 ⟨x, H1, I1, rx, a, dx, fs, ex, ea, l, q⟩ => ?_) ht
  subst ex
  obtain rfl : u = Value.ref a := rx
  refine getmeth_ok I1 ea c G.me l ?_
  refine PySem.W.callWith_KW (h₀ := X.base) (first := [.ref a]) I.ok.mod.kin G.me.kp rfl (thn (ha.run pos pins s1 σ H1 _ I1 q) fun us s2 ⟨vs, H2, I2, r, q2⟩ => ?_) hpl hst
  refine thn (hf.run pos pins s2 σ H2 _ I2 q2) fun ws s3 ⟨zs, H3, I3, rz, z, ez, q3⟩ => ⟨I3.kIn, ?_⟩
  subst ez
  obtain ⟨u, eu, ru⟩ := rz.one
  subst eu
  refine wpAny_call (codeAny_mono (G.run X.A X.stack s3 H3 (.ref a :: us) (.ref a :: vs) u z Q _ hr I3.env0 (.cons rfl r) ru q3) fun rr s' hq => ?_)
  cases rr with
  | error e => exact tk e s' (XE.of_call I3 (fun cls d H' h => h) hq)
  | ok fl =>
    cases fl with
    | ret u => exact I3.after hq
    | next => exact hq
    | brk => exact hq
    | cont => exact hq
end
end Wy
set_option Elab.async false
set_option linter.all false
set_option maxRecDepth 100000
set_option maxHeartbeats 0
namespace Wy
open PySem PySem.Spec PyProof.Rows L2 StX
def num (n : Nat) : Str := Str.ofString (toString (n : Int))
def repK (w : Wb) : Str := ((((((Str.empty ++ ("Keeper(" : Str)) ++ num w.1.length) ++ (" posts, " : Str)) ++ num w.2.length) ++ (" ties, " : Str)) ++ num 0) ++ (" held)" : Str)
theorem num_len (n : Nat) (h : n ≤ 1000) : (num n).length ≤ 5 := by
  unfold num
  rw [PySem.ofString_length]
  exact PySem.int_text_length_le10 (k := 4) (by decide) (by show n < 10 ^ 4; omega)
section
variable {P : Program} {w : World} {K : PySem.W.Frag} {mg : Str → Option Value} {base : Heap}
theorem sc_Keeper_repr : FnScope ["self"] ["self"] (defScope s_Keeper_repr) := ⟨rfl, rfl, rfl, by decide +kernel, rfl, by decide +kernel, by decide +kernel⟩
def sp_Keeper_repr (K : PySem.W.Frag) : Sp := fun vs H Q _ => ∃ (k p : Addr) (st : Kst), vs = [.ref k] ∧ KeepAt K H k p st ∧ st.1.1.length ≤ 1000 ∧ st.1.2.length ≤ 1000 ∧ Q (.str (repK st.1)) H
theorem ok_Keeper_repr (T : W0 P w K mg) : MFn P w K mg base 3 "Keeper" "__repr__" (sp_Keeper_repr K) := by
  obtain ⟨fd, F⟩ := T.d_Keeper_repr
  refine ⟨T.m_Keeper_repr, F.fr sc_Keeper_repr (fun _ _ _ _ _ _ us hl => match us, hl with | [_], _ => rfl) (fun vs H Q E h => by first | (obtain ⟨rfl, _⟩ := h; rfl) | (obtain ⟨_, rfl, _⟩ := h; rfl) | (obtain ⟨_, _, rfl, _⟩ := h; rfl) | (obtain ⟨_, _, _, rfl, _⟩ := h; rfl) | (obtain ⟨_, _, _, _, rfl, _⟩ := h; rfl) | (obtain ⟨_, _, _, _, _, rfl, _⟩ := h; rfl) | (obtain ⟨_, _, _, _, _, _, rfl, _⟩ := h; rfl) | (obtain ⟨_, _, _, _, _, _, _, rfl, _⟩ := h; rfl) | (obtain ⟨_, _, _, _, _, _, _, _, rfl, _⟩ := h; rfl) | (obtain ⟨_, _, _, _, _, _, _, _, _, rfl, _⟩ := h; rfl)) fun cdv A outer s H vs Q E hr h => ⟨_, (pss_one (ps_ret (pe_joined (PJ.cons pe_str (PJ.cons (pe_fmt (pe_callB call_len_seq (by rfl) T.f_len PySem.boot_len (pa_cons (eProp T.c_Web (ok_Web_posts T) (hr.mono (by decide)) (eFld T.c_Keeper T.n_Keeper_kept (pv 0))) pa_nil))) (PJ.cons pe_str (PJ.cons (pe_fmt (pe_callB (cLenO (ok_Web_len T) (hr.mono (by decide)) passL) (by rfl) T.f_len PySem.boot_len (pa_cons (eFld T.c_Keeper T.n_Keeper_kept (pv 0)) pa_nil))) (PJ.cons pe_str (PJ.cons (pe_fmt (pe_callB call_len_seq (by rfl) T.f_len PySem.boot_len (pa_cons (eFld T.c_Keeper T.n_Keeper_rods (pv 0)) pa_nil))) (PJ.cons pe_str PJ.nil)))))))))), ?_⟩⟩
  obtain ⟨k, p, st, rfl, hk, l1, l2, q⟩ := h
  obtain ⟨dk, wa, ra, as, e, hw, hr, hp, ps⟩ := hk
  have hw0 := hw
  obtain ⟨dx, pa, ta, ea, hpa, as2, ha2, hts⟩ := hw0
  have lg : ∀ n : Nat, n ≤ 1000 → ((n : Int)).natAbs.log2 < 1920 := fun n h => by
    have z := Nat.log2_le_self n
    show n.log2 < 1920
    omega
  have nl : ∀ n : Nat, n ≤ 1000 → (num n).length ≤ 5 := num_len
  have c1 : (("Keeper(" : Str)).length = 7 := by decide +kernel
  have c2 : ((" posts, " : Str)).length = 8 := by decide +kernel
  have c3 : ((" ties, " : Str)).length = 7 := by decide +kernel
  have c4 : ((" held)" : Str)).length = 6 := by decide +kernel
  have c0 : (Str.empty).length = 0 := by decide +kernel
  have lp : ((st.1.1.map V.str).length) = st.1.1.length := List.length_map _
  have k1 : (Str.ofString (toString ((st.1.1.length : Nat) : Int))).length ≤ 5 := nl _ l1
  have k2 : (Str.ofString (toString ((st.1.2.length : Nat) : Int))).length ≤ 5 := nl _ l2
  have k3 : (Str.ofString (toString (((([] : List V).length : Nat)) : Int))).length ≤ 5 := nl 0 (by omega)
  refine ⟨_, rfl, le_size (by rw [Str.length_append]; omega), _, rfl, k, dk, _, _, rfl, e, rfl, wa, dx, _, _, rfl, ea, rfl, pa, _, rfl, .inr (SqT.of hpa), .inr ⟨_, rfl, lg _ (by omega), _, rfl, ?_, _, rfl, ?_, ?_⟩⟩
  · rw [lp]
    exact le_size (by simp only [Str.length_append]; omega)
  · rw [lp]
    exact le_size (by simp only [Str.length_append]; omega)
  · rw [lp]
    refine ⟨_, rfl, k, dk, _, _, rfl, e, rfl, wa, dx, _, rfl, ea, wa, st.1, rfl, hw, _, rfl, by omega, .inr ⟨_, rfl, lg _ (by omega), _, rfl, le_size (by simp only [Str.length_append]; omega), _, rfl, le_size (by simp only [Str.length_append]; omega), ?_⟩⟩
    refine ⟨_, rfl, k, dk, _, _, rfl, e, rfl, ra, _, rfl, .inr (SqT.of hr), .inr ⟨_, rfl, lg 0 (by omega), _, rfl, le_size (by simp only [Str.length_append]; omega), _, rfl, le_size (by simp only [Str.length_append]; omega), ?_⟩⟩
    exact q

structure Lim9 (w : Wb) : Prop where
  p : w.1.length ≤ 900
  t : w.2.length ≤ 900
  z : ∀ z ∈ w.1, z.length ≤ 1000
  tz : ∀ t ∈ w.2, t.1.length ≤ 1000
theorem Lim9.lim {w : Wb} (h : Lim9 w) : Lim w := ⟨Nat.le_trans h.p (by decide), Nat.le_trans h.t (by decide), h.z, h.tz⟩
def Chg.lim : Chg → Prop
  | .tie t => t.1.length ≤ 1000
  | .post n => n.length ≤ 1000
  | _ => True
/-- what a change by its method does -/
def spAct (K : PySem.W.Frag) (k p : Addr) (st : Kst) (c : Chg) (H : Hp) (Q : VK) (E : XK) : Prop := KeepAt K H k p st ∧ Lim9 st.1 ∧ Valid st.1 ∧ st.2.length ≤ 1000 ∧ c.lim ∧
  (∀ w', apply st.1 c = some w' → ∀ H', Ch K (fun b => b = k ∨ b = p) H H' → KeepAt K H' k p (w', st.2 ++ [(st.1, c)]) → Q .non H') ∧ (apply st.1 c = none → Xs K H E)
theorem lim_tie {w : Wb} {t : Tie} (h : Lim9 w) (l : (Chg.tie t).lim) : Lim (w.1, w.2 ++ [t]) := ⟨h.lim.p, by rw [List.length_append]; have := h.t; simp; omega, h.z, fun u hu => by
  rcases List.mem_append.mp hu with q | q
  · exact h.tz u q
  · rw [List.mem_singleton.mp q]
    exact l⟩
theorem lim_post {w : Wb} {n : Str} (h : Lim9 w) (l : (Chg.post n).lim) : Lim (w.1 ++ [n], w.2) := ⟨by rw [List.length_append]; have := h.p; simp; omega, h.lim.t, fun u hu => by
  rcases List.mem_append.mp hu with q | q
  · exact h.z u q
  · rw [List.mem_singleton.mp q]
    exact l, h.tz⟩
theorem sc_Keeper_tie : FnScope ["self", "name", "one", "other", "least", "greatest"] ["self", "name", "one", "other", "least", "greatest"] (defScope s_Keeper_tie) := ⟨rfl, rfl, rfl, by decide +kernel, rfl, by decide +kernel, by decide +kernel⟩
def sp_Keeper_tie (K : PySem.W.Frag) : Sp := fun vs H Q E => ∃ (k p : Addr) (st : Kst) (t : Tie), vs = .ref k :: tieV t ∧ spAct K k p st (.tie t) H Q E
theorem ok_Keeper_tie (T : W0 P w K mg) : MFn P w K mg base 8 "Keeper" "tie" (sp_Keeper_tie K) := by
  obtain ⟨fd, F⟩ := T.d_Keeper_tie
  refine ⟨T.m_Keeper_tie, F.fr sc_Keeper_tie (fun _ _ _ _ _ _ us hl => match us, hl with | [_, _, _, _, _, _], _ => rfl) (fun vs H Q E h => by first | (obtain ⟨rfl, _⟩ := h; rfl) | (obtain ⟨_, rfl, _⟩ := h; rfl) | (obtain ⟨_, _, rfl, _⟩ := h; rfl) | (obtain ⟨_, _, _, rfl, _⟩ := h; rfl) | (obtain ⟨_, _, _, _, rfl, _⟩ := h; rfl) | (obtain ⟨_, _, _, _, _, rfl, _⟩ := h; rfl) | (obtain ⟨_, _, _, _, _, _, rfl, _⟩ := h; rfl) | (obtain ⟨_, _, _, _, _, _, _, rfl, _⟩ := h; rfl) | (obtain ⟨_, _, _, _, _, _, _, _, rfl, _⟩ := h; rfl) | (obtain ⟨_, _, _, _, _, _, _, _, _, rfl, _⟩ := h; rfl)) fun cdv A outer s H vs Q E hr h => ⟨_, (pss_cons (ps_expr (eMeth0 (ok_Keeper_need_free T) T.c_Keeper (hr.mono (by decide)) passL (pv 0))) (pss_one (ps_expr (eMeth (ok_Keeper_move T) T.c_Keeper (hr.mono (by decide)) passL (pv 0) (pa_cons (eMeth (ok_Web_tied T) T.c_Web (hr.mono (by decide)) (passes_call (takes_of rfl rfl rfl rfl) (fun _ _ _ _ h => h)) (eFld T.c_Keeper T.n_Keeper_kept (pv 0)) (pa_cons (pe_tup (pa_cons (pv 1) (pa_cons (pv 2) (pa_cons (pv 3) (pa_cons (pv 4) (pa_cons (pv 5) pa_nil)))))) pa_nil)) (pa_cons (pe_tup (pa_cons pe_str (pa_cons (pv 1) (pa_cons (pv 2) (pa_cons (pv 3) (pa_cons (pv 4) (pa_cons (pv 5) pa_nil))))))) pa_nil)))))), ?_⟩⟩
  obtain ⟨k, p, st, t, rfl, hk, hl, hv, hn, hc, hg, hb⟩ := h
  obtain ⟨dk, wa, ra, e, hw⟩ := hk.web
  have hw0 := hw
  obtain ⟨dx, pa, ta, ea, _⟩ := hw0
  refine ⟨_, rfl, k, dk, _, rfl, e, rfl, k, p, st, rfl, hk, ?_⟩
  refine ⟨_, rfl, k, dk, _, rfl, e, rfl, _, rfl, k, dk, _, _, rfl, e, rfl, wa, dx, _, rfl, ea, rfl, ?_⟩
  refine ⟨_, rfl, _, rfl, _, rfl, _, rfl, _, rfl, (by show 5 ≤ sizeLine; decide), fun b hb2 => ?_⟩
  have s1 := same_upd (o := .tup (tieV t)) hb2
  refine ⟨wa, b, st.1, t, rfl, hw.im (Same.im s1), upd_same, lim_tie hl hc, fun v x H' sm hx => ?_, fun nv cls d H' sm => hb (chk_no nv) cls d H' (s1.trans sm)⟩
  refine ⟨_, rfl, _, rfl, _, rfl, _, rfl, _, rfl, (by show 6 ≤ sizeLine; decide), fun c hc2 => ?_⟩
  have s2 := (s1.trans sm).trans (same_upd (o := .tup (Chg.tie t).vals) hc2)
  exact ⟨k, p, x, c, st, _, .tie t, rfl, hk.same s2, hx.im (im_new hc2), upd_same, hn, fun H2 ch hk2 => hg _ (chk_yes v) H2 ((Same.ch s2).trans ch) hk2⟩
theorem sc_Keeper_cut : FnScope ["self", "name"] ["self", "name"] (defScope s_Keeper_cut) := ⟨rfl, rfl, rfl, by decide +kernel, rfl, by decide +kernel, by decide +kernel⟩
def sp_Keeper_cut (K : PySem.W.Frag) : Sp := fun vs H Q E => ∃ (k p : Addr) (st : Kst) (n : Str), vs = [.ref k, .str n] ∧ spAct K k p st (.cut n) H Q E
theorem ok_Keeper_cut (T : W0 P w K mg) : MFn P w K mg base 8 "Keeper" "cut" (sp_Keeper_cut K) := by
  obtain ⟨fd, F⟩ := T.d_Keeper_cut
  refine ⟨T.m_Keeper_cut, F.fr sc_Keeper_cut (fun _ _ _ _ _ _ us hl => match us, hl with | [_, _], _ => rfl) (fun vs H Q E h => by first | (obtain ⟨rfl, _⟩ := h; rfl) | (obtain ⟨_, rfl, _⟩ := h; rfl) | (obtain ⟨_, _, rfl, _⟩ := h; rfl) | (obtain ⟨_, _, _, rfl, _⟩ := h; rfl) | (obtain ⟨_, _, _, _, rfl, _⟩ := h; rfl) | (obtain ⟨_, _, _, _, _, rfl, _⟩ := h; rfl) | (obtain ⟨_, _, _, _, _, _, rfl, _⟩ := h; rfl) | (obtain ⟨_, _, _, _, _, _, _, rfl, _⟩ := h; rfl) | (obtain ⟨_, _, _, _, _, _, _, _, rfl, _⟩ := h; rfl) | (obtain ⟨_, _, _, _, _, _, _, _, _, rfl, _⟩ := h; rfl)) fun cdv A outer s H vs Q E hr h => ⟨_, (pss_cons (ps_expr (eMeth0 (ok_Keeper_need_free T) T.c_Keeper (hr.mono (by decide)) passL (pv 0))) (pss_one (ps_expr (eMeth (ok_Keeper_move T) T.c_Keeper (hr.mono (by decide)) passL (pv 0) (pa_cons (eMeth (ok_Web_without T) T.c_Web (hr.mono (by decide)) (passes_call (takes_of rfl rfl rfl rfl) (fun _ _ _ _ h => h)) (eFld T.c_Keeper T.n_Keeper_kept (pv 0)) (pa_cons (pv 1) pa_nil)) (pa_cons (pe_tup (pa_cons pe_str (pa_cons (pv 1) pa_nil))) pa_nil)))))), ?_⟩⟩
  obtain ⟨k, p, st, n, rfl, hk, hl, hv, hn, hc, hg, hb⟩ := h
  obtain ⟨dk, wa, ra, e, hw⟩ := hk.web
  have hw0 := hw
  obtain ⟨dx, pa, ta, ea, _⟩ := hw0
  refine ⟨_, rfl, k, dk, _, rfl, e, rfl, k, p, st, rfl, hk, ?_⟩
  refine ⟨_, rfl, k, dk, _, rfl, e, rfl, _, rfl, k, dk, _, _, rfl, e, rfl, wa, dx, _, rfl, ea, rfl, _, rfl, ?_⟩
  refine ⟨wa, st.1, n, rfl, hw, hl.lim, fun m v x H' sm hx => ?_, fun nv => hb ?_⟩
  · refine ⟨_, rfl, (by show 2 ≤ sizeLine; decide), fun c hc2 => ?_⟩
    have s2 := sm.trans (same_upd (o := .tup (Chg.cut n).vals) hc2)
    exact ⟨k, p, x, c, st, _, .cut n, rfl, hk.same s2, hx.im (im_new hc2), upd_same, hn, fun H2 ch hk2 => hg _ ((if_pos m).trans (chk_yes v)) H2 ((Same.ch s2).trans ch) hk2⟩
  · by_cases m : n ∈ names st.1
    · exact (if_pos m).trans (chk_no fun v => nv ⟨m, v⟩)
    · exact if_neg m
theorem sc_Keeper_change : FnScope ["self", "name", "least", "greatest"] ["self", "name", "least", "greatest"] (defScope s_Keeper_change) := ⟨rfl, rfl, rfl, by decide +kernel, rfl, by decide +kernel, by decide +kernel⟩
def sp_Keeper_change (K : PySem.W.Frag) : Sp := fun vs H Q E => ∃ (k p : Addr) (st : Kst) (n : Str) (lo hi : Int), vs = [.ref k, .str n, .int lo, .int hi] ∧ spAct K k p st (.change n lo hi) H Q E
theorem ok_Keeper_change (T : W0 P w K mg) : MFn P w K mg base 8 "Keeper" "change" (sp_Keeper_change K) := by
  obtain ⟨fd, F⟩ := T.d_Keeper_change
  refine ⟨T.m_Keeper_change, F.fr sc_Keeper_change (fun _ _ _ _ _ _ us hl => match us, hl with | [_, _, _, _], _ => rfl) (fun vs H Q E h => by first | (obtain ⟨rfl, _⟩ := h; rfl) | (obtain ⟨_, rfl, _⟩ := h; rfl) | (obtain ⟨_, _, rfl, _⟩ := h; rfl) | (obtain ⟨_, _, _, rfl, _⟩ := h; rfl) | (obtain ⟨_, _, _, _, rfl, _⟩ := h; rfl) | (obtain ⟨_, _, _, _, _, rfl, _⟩ := h; rfl) | (obtain ⟨_, _, _, _, _, _, rfl, _⟩ := h; rfl) | (obtain ⟨_, _, _, _, _, _, _, rfl, _⟩ := h; rfl) | (obtain ⟨_, _, _, _, _, _, _, _, rfl, _⟩ := h; rfl) | (obtain ⟨_, _, _, _, _, _, _, _, _, rfl, _⟩ := h; rfl)) fun cdv A outer s H vs Q E hr h => ⟨_, (pss_cons (ps_expr (eMeth0 (ok_Keeper_need_free T) T.c_Keeper (hr.mono (by decide)) passL (pv 0))) (pss_one (ps_expr (eMeth (ok_Keeper_move T) T.c_Keeper (hr.mono (by decide)) passL (pv 0) (pa_cons (eMeth (ok_Web_changed T) T.c_Web (hr.mono (by decide)) (passes_call (takes_of rfl rfl rfl rfl) (fun _ _ _ _ h => h)) (eFld T.c_Keeper T.n_Keeper_kept (pv 0)) (pa_cons (pv 1) (pa_cons (pv 2) (pa_cons (pv 3) pa_nil)))) (pa_cons (pe_tup (pa_cons pe_str (pa_cons (pv 1) (pa_cons (pv 2) (pa_cons (pv 3) pa_nil))))) pa_nil)))))), ?_⟩⟩
  obtain ⟨k, p, st, n, lo, hi, rfl, hk, hl, hv, hn, hc, hg, hb⟩ := h
  obtain ⟨dk, wa, ra, e, hw⟩ := hk.web
  have hw0 := hw
  obtain ⟨dx, pa, ta, ea, _⟩ := hw0
  refine ⟨_, rfl, k, dk, _, rfl, e, rfl, k, p, st, rfl, hk, ?_⟩
  refine ⟨_, rfl, k, dk, _, rfl, e, rfl, _, rfl, k, dk, _, _, rfl, e, rfl, wa, dx, _, rfl, ea, rfl, _, rfl, _, rfl, _, rfl, ?_⟩
  refine ⟨wa, st.1, n, lo, hi, rfl, hw, hl.lim, hv, fun m h0 h1 v x H' sm hx => ?_, fun nv => hb ?_⟩
  · refine ⟨_, rfl, _, rfl, _, rfl, (by show 4 ≤ sizeLine; decide), fun c hc2 => ?_⟩
    have s2 := sm.trans (same_upd (o := .tup (Chg.change n lo hi).vals) hc2)
    exact ⟨k, p, x, c, st, _, .change n lo hi, rfl, hk.same s2, hx.im (im_new hc2), upd_same, hn, fun H2 ch hk2 => hg _ ((if_pos ⟨m, h0, h1⟩).trans (chk_yes v)) H2 ((Same.ch s2).trans ch) hk2⟩
  · by_cases m : n ∈ names st.1 ∧ 0 ≤ lo ∧ lo ≤ hi
    · exact (if_pos m).trans (chk_no fun v => nv ⟨m, v⟩)
    · exact if_neg m
theorem sc_Keeper_post : FnScope ["self", "name"] ["self", "name"] (defScope s_Keeper_post) := ⟨rfl, rfl, rfl, by decide +kernel, rfl, by decide +kernel, by decide +kernel⟩
def sp_Keeper_post (K : PySem.W.Frag) : Sp := fun vs H Q E => ∃ (k p : Addr) (st : Kst) (n : Str), vs = [.ref k, .str n] ∧ spAct K k p st (.post n) H Q E
theorem ok_Keeper_post (T : W0 P w K mg) : MFn P w K mg base 8 "Keeper" "post" (sp_Keeper_post K) := by
  obtain ⟨fd, F⟩ := T.d_Keeper_post
  refine ⟨T.m_Keeper_post, F.fr sc_Keeper_post (fun _ _ _ _ _ _ us hl => match us, hl with | [_, _], _ => rfl) (fun vs H Q E h => by first | (obtain ⟨rfl, _⟩ := h; rfl) | (obtain ⟨_, rfl, _⟩ := h; rfl) | (obtain ⟨_, _, rfl, _⟩ := h; rfl) | (obtain ⟨_, _, _, rfl, _⟩ := h; rfl) | (obtain ⟨_, _, _, _, rfl, _⟩ := h; rfl) | (obtain ⟨_, _, _, _, _, rfl, _⟩ := h; rfl) | (obtain ⟨_, _, _, _, _, _, rfl, _⟩ := h; rfl) | (obtain ⟨_, _, _, _, _, _, _, rfl, _⟩ := h; rfl) | (obtain ⟨_, _, _, _, _, _, _, _, rfl, _⟩ := h; rfl) | (obtain ⟨_, _, _, _, _, _, _, _, _, rfl, _⟩ := h; rfl)) fun cdv A outer s H vs Q E hr h => ⟨_, (pss_cons (ps_expr (eMeth0 (ok_Keeper_need_free T) T.c_Keeper (hr.mono (by decide)) passL (pv 0))) (pss_one (ps_expr (eMeth (ok_Keeper_move T) T.c_Keeper (hr.mono (by decide)) passL (pv 0) (pa_cons (eMake (ok_Web_init T) (hr.mono (by decide)) (passes_call (takes_of rfl rfl rfl rfl) (fun _ _ _ _ h => h)) (by rfl) (pa_cons (pe_tup (pa_star (eProp T.c_Web (ok_Web_posts T) (hr.mono (by decide)) (eFld T.c_Keeper T.n_Keeper_kept (pv 0))) (pa_cons (pv 1) pa_nil))) (pa_cons (eProp T.c_Web (ok_Web_ties T) (hr.mono (by decide)) (eFld T.c_Keeper T.n_Keeper_kept (pv 0))) pa_nil))) (pa_cons (pe_tup (pa_cons pe_str (pa_cons (pv 1) pa_nil))) pa_nil)))))), ?_⟩⟩
  obtain ⟨k, p, st, n, rfl, hk, hl, hv, hn, hc, hg, hb⟩ := h
  obtain ⟨dk, wa, ra, e, hw⟩ := hk.web
  have hw0 := hw
  obtain ⟨dx, pa, ta, ea, hp, ht⟩ := hw0
  refine ⟨_, rfl, k, dk, _, rfl, e, rfl, k, p, st, rfl, hk, ?_⟩
  refine ⟨_, rfl, k, dk, _, rfl, e, rfl, _, rfl, k, dk, _, _, rfl, e, rfl, wa, dx, _, _, rfl, ea, rfl, pa, _, rfl, .inl (SqT.of hp), _, rfl, ?_, fun t ht2 => ?_⟩
  · simp
    have := hl.p
    exact le_size (by omega)
  · have s1 := same_upd (o := .tup (st.1.1.map V.str ++ ([.str n] ++ []))) ht2
    refine ⟨_, rfl, k, dk, _, _, rfl, s1 _ _ e, rfl, wa, dx, _, _, rfl, s1 _ _ ea, rfl, fun x dx2 hx hdx ne => ?_⟩
    have s3 := s1.trans (mk_same (o := .own x) (u := .ins (He.ga K "Web") dx2 []) hx hdx ne)
    have et := mk_same (o := .own x) (u := .ins (He.ga K "Web") dx2 []) hx hdx ne t _ upd_same
    refine ⟨x, t, ta, dx2, (st.1.1 ++ [n], st.1.2), rfl, upd_same, et.trans (by rw [List.map_append]; rfl), TiesAt.im (K := K) ht (Same.im s3), lim_post hl hc, fun v H' kp hwx => ⟨rfl, ?_⟩, fun nv cls d H' sm => hb (chk_no nv) cls d H' (s3.trans sm)⟩
    have s4 := s1.trans (mk_end hx hdx ne kp)
    refine ⟨_, rfl, (by show 2 ≤ sizeLine; decide), fun c hc2 => ?_⟩
    have s5 := s4.trans (same_upd (o := .tup (Chg.post n).vals) hc2)
    exact ⟨k, p, x, c, st, _, .post n, rfl, hk.same s5, hwx.im (im_new hc2), upd_same, hn, fun H2 ch hk2 => hg _ (chk_yes v) H2 ((Same.ch s5).trans ch) hk2⟩
theorem args_len (c : Chg) : c.args.length ≤ 5 := by cases c <;> simp [Chg.args, tieV]
theorem sc_Keeper_make_word : FnScope ["self", "word", "more"] ["self", "word", "more"] (defScope s_Keeper_make_word) := ⟨rfl, rfl, rfl, by decide +kernel, rfl, by decide +kernel, by decide +kernel⟩
def sp_Keeper_make_word (K : PySem.W.Frag) : Sp := fun vs H Q E => ∃ (k p : Addr) (st : Kst) (c : Chg), vs = .ref k :: c.vals ∧ spAct K k p st c H Q E
def sq_Keeper_make_word (K : PySem.W.Frag) : Sp := fun vs H Q E => ∃ (k p m : Addr) (st : Kst) (c : Chg), vs = [.ref k, .str c.word, .ref m] ∧ H m = some (.tup c.args) ∧ spAct K k p st c H Q E
theorem spAct.mono {K : PySem.W.Frag} {k p : Addr} {st : Kst} {c : Chg} {H H' : Hp} {Q : VK} {E : XK} (h : spAct K k p st c H Q E) (s : Same H H') : spAct K k p st c H' Q E :=
  ⟨h.1.same s, h.2.1, h.2.2.1, h.2.2.2.1, h.2.2.2.2.1, fun w' e H2 ch hk => h.2.2.2.2.2.1 w' e H2 ((Same.ch s).trans ch) hk, fun e cls d H2 sm => h.2.2.2.2.2.2 e cls d H2 (s.trans sm)⟩
theorem ok_Keeper_make_word (T : W0 P w K mg) : MFn P w K mg base 9 "Keeper" "make_word" (sp_Keeper_make_word K) := by
  obtain ⟨fd, F⟩ := T.d_Keeper_make_word
  have z := F.frS (P := P) (w := w) (mg := mg) (base := base) (k := 8) (sp := sq_Keeper_make_word K) (ps := ["self", "word"]) sc_Keeper_make_word (fun _ _ _ _ _ _ us rest hl => match us, rest, hl with | [_, _], [], _ => rfl | [_, _], _ :: _, _ => rfl) fun cdv A outer s H vs Q E hr h => ⟨_, (pss_one (ps_match (pv 1) (mc_val (pss_one (ps_expr (eMStar (ok_Keeper_tie T) T.c_Keeper T.b_tie (hr.mono (by decide)) (passes_call (takes_of rfl rfl rfl rfl) (fun _ _ _ _ h => h)) (pv 0) (pv 2)))) (mc_val (pss_one (ps_expr (eMStar (ok_Keeper_cut T) T.c_Keeper T.b_cut (hr.mono (by decide)) (passes_call (takes_of rfl rfl rfl rfl) (fun _ _ _ _ h => h)) (pv 0) (pv 2)))) (mc_val (pss_one (ps_expr (eMStar (ok_Keeper_change T) T.c_Keeper T.b_change (hr.mono (by decide)) (passes_call (takes_of rfl rfl rfl rfl) (fun _ _ _ _ h => h)) (pv 0) (pv 2)))) (mc_any (pss_one (ps_expr (eMStar (ok_Keeper_post T) T.c_Keeper T.b_post (hr.mono (by decide)) (passes_call (takes_of rfl rfl rfl rfl) (fun _ _ _ _ h => h)) (pv 0) (pv 2)))))))))), ?_⟩
  · refine ⟨T.m_Keeper_make_word, FnR.imp z ?_⟩
    rintro vs H Q E ⟨k, p, st, c, rfl, h⟩
    refine ⟨[.ref k, .str c.word], c.args, rfl, rfl, ?_, fun m hm => ⟨k, p, m, st, c, rfl, upd_same, h.mono (same_upd hm)⟩⟩
    exact le_size (Nat.le_trans (args_len c) (by decide))
  · obtain ⟨k, p, m, st, c, rfl, em, h⟩ := h
    have hk := h.1
    obtain ⟨dk, wa, ra, e, hw⟩ := hk.web
    refine ⟨_, rfl, _, rfl, ?_⟩
    have go : ∀ q, H q = none → ∀ g, upd H q (.met g k) m = some (.tup c.args) := fun q hq g => by
      rw [upd_ne (ne_of_none em hq)]
      exact em
    cases c with
    | tie t => exact if_pos_ rfl ⟨_, rfl, k, dk, _, rfl, e, rfl, fun q hq => ⟨_, rfl, m, true, _, rfl, go q hq _, upd_same, k, p, st, t, rfl, h.mono (same_upd hq)⟩⟩
    | cut n => exact if_neg_ (show ¬ (("cut" : Str) = "tie") by decide +kernel) ⟨_, rfl, if_pos_ rfl ⟨_, rfl, k, dk, _, rfl, e, rfl, fun q hq => ⟨_, rfl, m, true, _, rfl, go q hq _, upd_same, k, p, st, n, rfl, h.mono (same_upd hq)⟩⟩⟩
    | change n lo hi => exact if_neg_ (show ¬ (("change" : Str) = "tie") by decide +kernel) ⟨_, rfl, if_neg_ (show ¬ (("change" : Str) = "cut") by decide +kernel) ⟨_, rfl, if_pos_ rfl ⟨_, rfl, k, dk, _, rfl, e, rfl, fun q hq => ⟨_, rfl, m, true, _, rfl, go q hq _, upd_same, k, p, st, n, lo, hi, rfl, h.mono (same_upd hq)⟩⟩⟩⟩
    | post n => exact if_neg_ (show ¬ (("post" : Str) = "tie") by decide +kernel) ⟨_, rfl, if_neg_ (show ¬ (("post" : Str) = "cut") by decide +kernel) ⟨_, rfl, if_neg_ (show ¬ (("post" : Str) = "change") by decide +kernel) ⟨_, rfl, k, dk, _, rfl, e, rfl, fun q hq => ⟨_, rfl, m, true, _, rfl, go q hq _, upd_same, k, p, st, n, rfl, h.mono (same_upd hq)⟩⟩⟩⟩
theorem sc_Keeper_make : FnScope ["self", "item"] ["self", "item"] (defScope s_Keeper_make) := ⟨rfl, rfl, rfl, by decide +kernel, rfl, by decide +kernel, by decide +kernel⟩
def sp_Keeper_make (K : PySem.W.Frag) : Sp := fun vs H Q E => ∃ (k p i : Addr) (st : Kst) (c : Chg), vs = [.ref k, .ref i] ∧ ChgAt H i c ∧ KeepAt K H k p st ∧ Lim9 st.1 ∧ Valid st.1 ∧ st.2.length ≤ 1000 ∧ c.lim ∧
  (∀ w', apply st.1 c = some w' → ∀ H', Ch K (fun b => b = k ∨ b = p) H H' → KeepAt K H' k p (w', st.2 ++ [(st.1, c)]) → Q (.bl true) H') ∧ (apply st.1 c = none → ∀ H', Same H H' → Q (.bl false) H')
theorem ok_Keeper_make (T : W0 P w K mg) : MFn P w K mg base 10 "Keeper" "make" (sp_Keeper_make K) := by
  obtain ⟨fd, F⟩ := T.d_Keeper_make
  obtain ⟨es, nn, hKD⟩ := T.tab 0
  refine ⟨T.m_Keeper_make, F.fr sc_Keeper_make (fun _ _ _ _ _ _ us hl => match us, hl with | [_, _], _ => rfl) (fun vs H Q E h => by first | (obtain ⟨rfl, _⟩ := h; rfl) | (obtain ⟨_, rfl, _⟩ := h; rfl) | (obtain ⟨_, _, rfl, _⟩ := h; rfl) | (obtain ⟨_, _, _, rfl, _⟩ := h; rfl) | (obtain ⟨_, _, _, _, rfl, _⟩ := h; rfl) | (obtain ⟨_, _, _, _, _, rfl, _⟩ := h; rfl) | (obtain ⟨_, _, _, _, _, _, rfl, _⟩ := h; rfl) | (obtain ⟨_, _, _, _, _, _, _, rfl, _⟩ := h; rfl) | (obtain ⟨_, _, _, _, _, _, _, _, rfl, _⟩ := h; rfl) | (obtain ⟨_, _, _, _, _, _, _, _, _, rfl, _⟩ := h; rfl)) fun cdv A outer s H vs Q E hr h => ⟨_, (pss_cons (ps_if (PW.pt (pw_or (pt_not (pt_val (pe_callB (kIsi (K := K) rfl) (by rfl) T.f_isinstance (by decide +kernel) (pa_cons (pv 1) (pa_cons (pe_bltn (v := .ty "tuple") (by rfl) T.f_tuple (by decide +kernel) rfl) pa_nil))))) (pw_or (pt_cmpR op_eq (pe_callB call_len_seq (by rfl) T.f_len PySem.boot_len (pa_cons (pv 1) pa_nil)) pe_int (nomark _)) (pw_or1 (pt_not (pt_val (pe_callB (kIsi (K := K) rfl) (by rfl) T.f_isinstance (by decide +kernel) (pa_cons (pe_ix (kIxT (K := K) rfl) (pv 1) pe_int (fun _ _ => rfl)) (pa_cons (pe_bltn (v := .ty "str") (by rfl) T.f_str (by decide +kernel) rfl) pa_nil))))))))) (pss_one (ps_ret pe_bl)) pss_nil) (pss_cons (ps_if (pt_cmpR op_ne (eKGet hKD (pe_glob (v := .ref (He.ga K "SIZES")) (by rfl) T.g_SIZES rfl) (pe_ix (kIxT (K := K) rfl) (pv 1) pe_int (fun _ _ => rfl)) ⟨rfl, rfl, rfl, rfl⟩) (pe_callB call_len_seq (by rfl) T.f_len PySem.boot_len (pa_cons (pv 1) pa_nil)) (nomark _)) (pss_one (ps_ret pe_bl)) pss_nil) (pss_cons (eTry rfl rfl sc_Keeper_make.nd (takes_of rfl rfl rfl rfl) (fun Wx pn xe tk hpo => (pss_one (ps_expr (eMStarT (K := K) rfl (ok_Keeper_make_word T) T.c_Keeper T.b_make_word (hr.mono (by decide)) tk (pv 0) (pv 1))))) (ClsOk.plain (clt_tup3 (nmG T.g_WayroundError) (nmG T.g_UnknownPost) (nmG T.g_UnknownTie)) (fun a oe cls d pn hz hf => (pss_one (ps_ret pe_bl))) ClsOk.nil)) (pss_one (ps_ret pe_bl))))), ?_⟩⟩
  obtain ⟨k, p, i, st, c, rfl, hi, hk, hl, hv, hn, hc, hg, hb⟩ := h
  have it0 : atI c.vals 0 = some (.str c.word) := atI_nat (j := 0) rfl
  have hlen : c.vals.length ≠ 0 := by
    unfold Chg.vals
    simp
  refine ⟨_, rfl, _, _, _, _, _, rfl, .ty "tuple", .base (.tup hi), kit_ty (by decide +kernel), true, rfl, iteN rfl ?_⟩
  refine ⟨_, rfl, _, _, rfl, .inr (SqT.of hi), rfl, _, rfl, iteB (fun e1 => ?_) fun e1 => ?_⟩
  · have e2 := V.int.inj (of_decide_eq_true e1)
    exact absurd (by omega) hlen
  refine ⟨_, rfl, i, _, _, _, rfl, rfl, SqT.of hi, it0, _, _, _, _, _, rfl, .ty "str", .base (.str c.word), kit_ty (by decide +kernel), true, rfl, iteN rfl ?_⟩
  have hsz : ∃ t, PySem.W.nsIn K (He.ga K "SIZES") c.word = some (some (.int (c.vals.length : Int) t)) := by
    cases c with
    | tie t => exact T.size_tie
    | cut n => exact T.size_cut
    | change n lo hi => exact T.size_change
    | post n => exact T.size_post
  obtain ⟨tk0, hsz⟩ := hsz
  refine ⟨_, rfl, i, _, _, _, rfl, rfl, SqT.of hi, it0, _, _, .int c.vals.length, rfl, hsz, ⟨_, rfl⟩, _, rfl, _, _, rfl, .inr (SqT.of hi), rfl, _, rfl, iteN ?_ ?_⟩
  · exact Bool.not_eq_true _ ▸ (by simp)
  · obtain ⟨dk, wa, ra, e, hw⟩ := hk.web
    refine ⟨_, rfl, k, dk, _, rfl, e, rfl, fun q hq => ⟨_, rfl, i, true, _, rfl, ?_, upd_same, k, p, st, c, rfl, hk.same (same_upd hq), hl, hv, hn, hc, fun w' ew H' ch hk2 => ?_, fun en cls d H' sm xo => ?_⟩⟩
    · rw [upd_ne (ne_of_none hi hq)]
      exact hi
    · exact hg w' ew H' ((Same.ch (same_upd hq)).trans ch) hk2
    · refine ⟨true, ?_, fun _ a ha => ?_, fun z => nomatch z⟩
      · rcases xo with ⟨ec, _⟩ | ⟨ec, _⟩ | ⟨ec, _⟩
        · rw [ec]
          exact T.e3_InvalidWeb
        · rw [ec]
          exact T.e3_InvalidSpan
        · rw [ec]
          exact T.e3_UnknownTie
      · exact hb en H' ((same_upd hq).trans sm)
end
end Wy
set_option Elab.async false
set_option linter.all false
set_option maxRecDepth 100000
set_option maxHeartbeats 0
namespace Wy
open PySem PySem.Spec PyProof.Rows L2 StX
/-- changes one after another, up to the first that is refused -/
noncomputable def plays (st : Kst) : List Chg → Kst × Nat
  | [] => (st, 0)
  | c :: r => match apply st.1 c with
    | none => (st, 0)
    | some w' => ((plays (w', st.2 ++ [(st.1, c)]) r).1, (plays (w', st.2 ++ [(st.1, c)]) r).2 + 1)
structure Fit (n : Nat) (st : Kst) : Prop where
  p : st.1.1.length ≤ n
  t : st.1.2.length ≤ n
  l : st.2.length ≤ n
  z : ∀ z ∈ st.1.1, z.length ≤ 1000
  tz : ∀ t ∈ st.1.2, t.1.length ≤ 1000
  v : Valid st.1
theorem Fit.mono {n m : Nat} {st : Kst} (h : Fit n st) (l : n ≤ m) : Fit m st := ⟨Nat.le_trans h.p l, Nat.le_trans h.t l, Nat.le_trans h.l l, h.z, h.tz, h.v⟩
theorem Fit.lim9 {n : Nat} {st : Kst} (h : Fit n st) (l : n ≤ 900) : Lim9 st.1 := ⟨Nat.le_trans h.p l, Nat.le_trans h.t l, h.z, h.tz⟩
theorem name_len {z : Str} (h : nameB z = true) : z.length ≤ 1000 := by
  have := (nameB_all h).2.1
  show z.cps.size ≤ 1000
  simp at this
  omega
theorem apply_valid {w w' : Wb} {c : Chg} (h : apply w c = some w') : Valid w' ∧ w'.1.length ≤ w.1.length + 1 ∧ w'.2.length ≤ w.2.length + 1 := by
  cases c with
  | tie t =>
    obtain ⟨e, v⟩ := chk_some h
    subst e
    exact ⟨v, Nat.le_succ _, by rw [List.length_append]; exact Nat.le_refl _⟩
  | cut n =>
    by_cases m : n ∈ names w
    · obtain ⟨e, v⟩ := chk_some ((if_pos m).symm.trans h)
      subst e
      exact ⟨v, Nat.le_succ _, Nat.le_trans (List.length_filter_le _ _) (Nat.le_succ _)⟩
    · cases (if_neg m).symm.trans h
  | change n lo hi =>
    by_cases m : n ∈ names w ∧ 0 ≤ lo ∧ lo ≤ hi
    · obtain ⟨e, v⟩ := chk_some ((if_pos m).symm.trans h)
      subst e
      exact ⟨v, Nat.le_succ _, by rw [List.length_map]; exact Nat.le_succ _⟩
    · cases (if_neg m).symm.trans h
  | post n =>
    obtain ⟨e, v⟩ := chk_some h
    subst e
    exact ⟨v, by rw [List.length_append]; exact Nat.le_refl _, Nat.le_succ _⟩
theorem Fit.step {n : Nat} {st : Kst} {c : Chg} {w' : Wb} (h : Fit n st) (e : apply st.1 c = some w') : Fit (n + 1) (w', st.2 ++ [(st.1, c)]) := by
  obtain ⟨v, l1, l2⟩ := apply_valid e
  refine ⟨Nat.le_trans l1 (Nat.succ_le_succ h.p), Nat.le_trans l2 (Nat.succ_le_succ h.t), by rw [List.length_append]; exact Nat.succ_le_succ h.l, fun z hz => name_len (v.posts.1 z hz), fun t ht => name_len (v.ties.1 _ (List.mem_map_of_mem ht)), v⟩
theorem plays_snoc {st st' : Kst} {cs : List Chg} {c : Chg} (h : plays st cs = (st', cs.length)) : plays st (cs ++ [c]) = match apply st'.1 c with
    | none => (st', cs.length)
    | some w' => ((w', st'.2 ++ [(st'.1, c)]), cs.length + 1) := by
  induction cs generalizing st with
  | nil =>
    have e : st' = st := by
      have := congrArg Prod.fst h
      exact this.symm
    subst e
    show plays st' [c] = _
    unfold plays
    cases apply st'.1 c <;> rfl
  | cons d r ih =>
    unfold plays at h
    rw [List.cons_append]
    unfold plays
    cases e : apply st.1 d with
    | none =>
      rw [e] at h
      have := congrArg Prod.snd h
      simp at this
    | some w' =>
      rw [e] at h
      dsimp only at h ⊢
      have h1 := congrArg Prod.fst h
      have h2 := congrArg Prod.snd h
      simp at h1 h2
      have h3 : plays (w', st.2 ++ [(st.1, d)]) r = (st', r.length) := Prod.ext h1 h2
      rw [ih h3]
      cases apply st'.1 c <;> rfl
theorem plays_stop {st : Kst} {cs ds : List Chg} {n : Nat} {st' : Kst} (h : plays st cs = (st', n)) (l : n < cs.length) : plays st (cs ++ ds) = (st', n) := by
  induction cs generalizing st n with
  | nil => simp at l
  | cons d r ih =>
    unfold plays at h
    rw [List.cons_append]
    unfold plays
    cases e : apply st.1 d with
    | none =>
      rw [e] at h
      exact h
    | some w' =>
      rw [e] at h
      dsimp only at h ⊢
      have h1 := congrArg Prod.fst h
      have h2 := congrArg Prod.snd h
      simp at h1 h2
      have h3 : plays (w', st.2 ++ [(st.1, d)]) r = (st', (plays (w', st.2 ++ [(st.1, d)]) r).2) := Prod.ext h1 rfl
      have l2 : (plays (w', st.2 ++ [(st.1, d)]) r).2 < r.length := by
        simp at l
        omega
      rw [ih h3 l2]
      exact Prod.ext rfl h2
section
variable {P : Program} {w : World} {K : PySem.W.Frag} {mg : Str → Option Value} {base : Heap}
theorem kept_eq {H : Hp} {k C d d' a a' r r' p p' : Addr} (e : H k = some (.ins C d [("kept", .ref a), ("rods", .ref r), ("past", .ref p)])) (e' : H k = some (.ins C d' [("kept", .ref a'), ("rods", .ref r'), ("past", .ref p')])) : a = a' := by
  rw [e] at e'
  cases e'
  rfl
theorem sc_Keeper_several : FnScope ["self", "changes", "whole", "web", "past", "index", "item"] ["self", "changes", "whole"] (defScope s_Keeper_several) := ⟨rfl, rfl, rfl, by decide +kernel, rfl, by decide +kernel, by decide +kernel⟩
def ChgsAt (H : Hp) (sq : Bool) (a : Addr) (cs : List Chg) : Prop := ∃ as, H a = some (sqO sq (as.map V.ref)) ∧ Paired (ChgAt H) as cs
def sp_Keeper_several (K : PySem.W.Frag) (sq : Bool) : Sp := fun vs H Q E => ∃ (k p a : Addr) (st : Kst) (cs : List Chg) (n : Nat) (whole : Bool), vs = [.ref k, .ref a, .bl whole] ∧ ChgsAt H sq a cs ∧ KeepAt K H k p st ∧ Fit n st ∧ n + cs.length ≤ 900 ∧ (∀ c ∈ cs, c.lim) ∧ a ≠ p ∧
  ((plays st cs).2 = cs.length → ∀ H', Ch K (fun b => b = k ∨ b = p) H H' → KeepAt K H' k p (plays st cs).1 → Q (.int cs.length) H') ∧
  ((plays st cs).2 < cs.length → ∀ H' p' d, Ch K (fun b => b = k ∨ b = p) H H' → (p' = p ∨ H p' = none) → KeepAt K H' k p' (if whole then st else (plays st cs).1) → H' d = some (.xd [("index", .int (plays st cs).2)]) → E (.ref (He.ga K "Rejected")) (some d) H')
theorem ok_several_fn (T : W0 P w K mg) (sq : Bool) : ∃ fd, (FunD K d_Keeper_several.name d_Keeper_several.qual d_Keeper_several.params d_Keeper_several.body d_Keeper_several.scope (d_Keeper_several.dvs K) (d_Keeper_several.kws K) (d_Keeper_several.at_ K) fd) ∧
    FnOk P w K mg base (L2.CX P w) 12 (d_Keeper_several.at_ K) fd ["self", "changes", "whole"] (sp_Keeper_several K sq) := by
  obtain ⟨fd, F⟩ := T.d_Keeper_several
  refine ⟨fd, F, F.ok sc_Keeper_several ?_ fun cdv A outer s H vs Q E hr h => ⟨_, (pss_cons (ps_expr (eMeth0 (ok_Keeper_need_free T) T.c_Keeper (hr.mono (by decide)) passL (pv 0))) (pss_cons (ps_par (i := 3) (j := 4) (by rfl) sc_Keeper_several.nd rfl rfl (by decide) rfl rfl (pa_cons (eFld T.c_Keeper T.n_Keeper_kept (pv 0)) (pa_cons (pe_callTy call_list_of (by rfl) T.f_list (by decide +kernel) (pa_cons (eFld T.c_Keeper T.n_Keeper_past (pv 0)) pa_nil)) pa_nil)) (by rfl)) (pss_cons (ps_for (passes_of rfl) rfl (iEnum1 sq (by rfl) T.f_enumerate (pa_cons (pv 1) pa_nil)) (kTupG (K := K) (n := 2) rfl rfl (pgs_cons (pg_name (i := 5) sc_Keeper_several.nd rfl (Or.inl rfl)) (pgs_cons (pg_name (i := 6) sc_Keeper_several.nd rfl (Or.inl rfl)) pgs_nil))) (pss_one (ps_if (pt_not (pt_val (eMeth (ok_Keeper_make T) T.c_Keeper (hr.mono (by decide)) passL (pv 0) (pa_cons (pv 6) pa_nil)))) (pss_cons (ps_if (pt_val (pv 2)) (pss_one (ps_asg (pe_tup (pa_cons (pv 3) (pa_cons (pv 4) pa_nil))) (kTupG (K := K) (n := 2) rfl rfl (pgs_cons (pg_fld T.c_Keeper T.n_Keeper_kept (pv 0)) (pgs_cons (pg_fld T.c_Keeper T.n_Keeper_past (pv 0)) pgs_nil))))) pss_nil) (pss_one (eRaise (ok_Rejected T) (hr.mono (by decide)) rfl (takes_of rfl rfl rfl rfl) (by rfl) (by decide) (pa_cons (pv 5) pa_nil)))) pss_nil))) (pss_one (ps_ret (pe_callB call_len_seq (by rfl) T.f_len PySem.boot_len (pa_cons (pv 1) pa_nil))))))), ?_⟩⟩
  · rintro vs H Q E ⟨k, p, a, st, cs, n, whole, rfl, _⟩
    rfl
  obtain ⟨k, p, a, st, cs, n, whole, rfl, ⟨as, ha, hcs⟩, hk, hf, hn, hc, nap, hg, hb⟩ := h
  obtain ⟨dk, wa, ra, e, hw⟩ := hk.web
  refine ⟨_, rfl, k, dk, _, rfl, e, rfl, k, p, st, rfl, hk, ?_⟩
  have hk0 := hk
  obtain ⟨dk', wa', ra', as0, e', hw', hr', hp, ps⟩ := hk0
  refine ⟨_, rfl, k, dk, _, _, rfl, e, rfl, _, rfl, k, dk, _, _, rfl, e, rfl, p, _, rfl, .inl (SqL.of hp), fun l hl => ⟨_, _, rfl, ?_⟩⟩
  have ka : a ≠ k := fun z => by
    rw [z, e] at ha
    cases sq <;> cases ha
  have s1 := same_upd (o := .lst (as0.map V.ref)) hl
  have lk : l ≠ k := fun z => by rw [z, e] at hl; cases hl
  have lp : l ≠ p := fun z => by rw [z, hp] at hl; cases hl
  have lcs : as.length = cs.length := paired_len hcs
  refine ⟨_, rfl, a, _, rfl, s1 _ _ ha, ?_⟩
  refine for_en (b := sq) (xs := as.map V.ref) (fun i σ H' => (∃ o5 o6, σ = [some (.ref k), some (.ref a), some (.bl whole), some (.ref wa), some (.ref l), o5, o6]) ∧ Ch K (fun b => b = k ∨ b = p) H H' ∧ H' l = some (.lst (as0.map V.ref)) ∧
    (plays st (cs.take i)).2 = i ∧ KeepAt K H' k p (plays st (cs.take i)).1 ∧ Fit (n + i) (plays st (cs.take i)).1)
    ⟨⟨_, _, rfl⟩, Same.ch s1, upd_same, by rw [List.take_zero]; rfl, by rw [List.take_zero]; exact hk.same s1, by rw [List.take_zero]; exact hf⟩ (fun i σ H' _ q => q.2.1.at ha (fun z => z.elim ka nap)) (fun i x Tp σ H' hx q hT => ?_) fun σ H' q => ?_
  · obtain ⟨⟨o5, o6, rfl⟩, ch, el, pn, hk2, ft⟩ := q
    rw [List.getElem?_map] at hx
    obtain ⟨b, hb1, hb2⟩ := Option.map_eq_some_iff.mp hx
    subst hb2
    obtain ⟨c, ec, hcb⟩ := paired_get' hcs hb1
    have hi : i < cs.length := (List.getElem?_eq_some_iff.mp ec).1
    have s2 := same_upd (o := .tup [.int (0 + (i : Int)), .ref b]) hT
    have ch2 := ch.trans (Same.ch s2)
    have pe : plays st (cs.take i) = ((plays st (cs.take i)).1, (cs.take i).length) := Prod.ext rfl (by rw [List.length_take]; show (plays st (cs.take i)).2 = _; omega)
    have psn := plays_snoc (c := c) pe
    rw [← take_snoc ec] at psn
    refine ⟨Tp, _, rfl, SqT.of upd_same, rfl, _, _, rfl, _, _, rfl, rfl, ?_⟩
    obtain ⟨dk3, wa3, ra3, e3, _⟩ := hk2.web
    refine ⟨_, rfl, k, dk3, _, rfl, s2 _ _ e3, rfl, _, rfl, k, p, b, (plays st (cs.take i)).1, c, rfl, hcb.im ch2.im, hk2.same s2, ft.lim9 (by omega), ft.v, Nat.le_trans ft.l (by omega), hc c (List.mem_of_getElem? ec), fun w' ew H2 ch3 hk3 => ?_, fun en H2 sm => ?_⟩
    · refine ⟨_, rfl, iteN rfl ?_⟩
      rw [ew] at psn
      dsimp only at psn
      refine ⟨⟨_, _, rfl⟩, ch2.trans ch3, ?_, ?_, ?_, ?_⟩
      · exact ch3.at (s2 _ _ el) (fun z => z.elim lk lp)
      · rw [psn, List.length_take]
        show _ + 1 = i + 1
        omega
      · rw [psn]
        exact hk3
      · rw [psn]
        exact ft.step ew
    · refine ⟨_, rfl, iteY rfl ?_⟩
      rw [en] at psn
      dsimp only at psn
      have lt : (cs.take i).length = i := by rw [List.length_take]; omega
      rw [lt] at psn
      have pall : plays st cs = ((plays st (cs.take i)).1, i) := by
        have z := plays_stop (ds := cs.drop (i + 1)) psn (by rw [List.length_take]; omega)
        rw [List.take_append_drop] at z
        exact z
      have ch4 := ch2.trans (Same.ch sm)
      have el2 := sm _ _ (s2 _ _ el)
      have hk3 := (hk2.same s2).same sm
      have hi2 : (plays st cs).2 < cs.length := by rw [pall]; exact hi
      refine ⟨_, rfl, _, rfl, iteB (fun ew => ?_) fun ew => ?_⟩
      · refine ⟨_, rfl, _, rfl, (by show 2 ≤ sizeLine; decide), fun t ht => ?_⟩
        have s6 := same_upd (o := .tup [.ref wa, .ref l]) ht
        have ch6 := ch4.trans (Same.ch s6)
        have hk6 := hk3.same s6
        obtain ⟨dk6, wa6, ra6, as6, e6, hw6, hr6, hp6, ps6⟩ := hk6
        have g1 : (upd (upd H2 t (.tup [.ref wa, .ref l])) k (.ins (He.ga K "Keeper") dk6 [("kept", .ref wa), ("rods", .ref ra6), ("past", .ref p)])) k = some (.ins (He.ga K "Keeper") dk6 [("kept", .ref wa), ("rods", .ref ra6), ("past", .ref p)]) := upd_same
        refine ⟨t, _, rfl, SqT.of upd_same, rfl, _, _, rfl, _, rfl, k, dk6, [("kept", .ref wa6), ("rods", .ref ra6), ("past", .ref p)], rfl, e6, (by show 3 < 1000; decide), _, _, rfl, _, rfl, k, dk6, [("kept", .ref wa), ("rods", .ref ra6), ("past", .ref p)], rfl, g1, (by show 3 < 1000; decide), rfl, ?_⟩
        have c1 := ch_upd (S := fun b => b = k ∨ b = p) (u := .ins (He.ga K "Keeper") dk6 [("kept", .ref wa), ("rods", .ref ra6), ("past", .ref p)]) e6 T.kw (.inl rfl)
        have c2 := ch_upd (S := fun b => b = k ∨ b = p) (u := .ins (He.ga K "Keeper") dk6 [("kept", .ref wa), ("rods", .ref ra6), ("past", .ref l)]) g1 T.kw (.inl rfl)
        have c3 := ch6.trans (c1.trans c2)
        refine ⟨_, rfl, rfl, fun d H5 hd sm5 e5 => hb hi2 H5 l d (c3.trans (Same.ch sm5)) (.inr hl) ?_ ?_⟩
        · rw [if_pos ew]
          refine KeepAt.same ?_ sm5
          refine ⟨dk6, wa, ra6, as0, upd_same, ?_, ?_, ?_, ?_⟩
          · exact hw.im c3.im
          · exact (c1.trans c2).im.tup hr6
          · rw [upd_ne lk, upd_ne lk]
            exact s6 _ _ el2
          · exact Paired.mapP ps fun _ _ q => PastAt.im q c3.im
        · rw [pall]
          rw [e5, Int.zero_add]
          rfl
      · refine ⟨_, rfl, rfl, fun d H5 hd sm5 e5 => hb hi2 H5 p d (ch4.trans (Same.ch sm5)) (.inl rfl) ?_ ?_⟩
        · rw [if_neg (by rw [ew]; exact Bool.false_ne_true), pall]
          exact hk3.same sm5
        · rw [pall]
          rw [e5, Int.zero_add]
          rfl
  · obtain ⟨⟨o5, o6, rfl⟩, ch, el, pn, hk2, ft⟩ := q
    have e9 : cs.take (as.map V.ref).length = cs := by rw [List.length_map, lcs, List.take_length]
    rw [e9] at pn hk2
    refine ⟨_, rfl, a, as.map V.ref, rfl, ?_, ?_⟩
    · have z := ch.at ha (fun z => z.elim ka nap)
      cases sq with
      | true => exact .inr (SqT.of z)
      | false => exact .inl (SqL.of z)
    · rw [List.length_map, lcs]
      exact hg (by rw [pn, List.length_map, lcs]) H' ch hk2
/-- several(x): whole -/
theorem ok_Keeper_several (T : W0 P w K mg) (sq : Bool) : MFn P w K mg base 12 "Keeper" "several" (fun vs H Q E => sp_Keeper_several K sq (vs ++ [.bl true]) H Q E) := by
  obtain ⟨fd, F, G⟩ := ok_several_fn (base := base) T sq
  have b := F.binds0 (ps := ["self", "changes", "whole"]) 2 (by simp [He5.DefA.kws, d_Keeper_several]) rfl (fun D doc pm an cdv ct us ks h1 h2 => match us, ks, h1, h2 with
    | [_, _], [_], _, _ => ⟨_, _, _, _, _, _, rfl, rfl, rfl⟩)
  obtain ⟨ds, r, b⟩ := b
  exact ⟨T.m_Keeper_several, FnOk.raw G b r⟩
/-- several(x, whole = ..) -/
theorem ok_Keeper_several_kw (T : W0 P w K mg) (sq : Bool) : MKw P w K mg base 12 "Keeper" "several" "whole" (sp_Keeper_several K sq) := by
  obtain ⟨fd, F, G⟩ := ok_several_fn (base := base) T sq
  refine ⟨T.m_Keeper_several, fun A outer s H us vs u v Q E hr e0 r ru h => ?_⟩
  have l3 : (vs ++ [v]).length = 3 := G.len _ _ _ _ h
  have l2 : vs.length = 2 := by
    rw [List.length_append] at l3
    simp at l3
    omega
  match vs, us, r, l2 with
  | [_, _], [x, y], r, _ =>
    refine G.run A outer s H ⟨[x, y], [("whole", u)]⟩ [x, y, u] _ Q E hr e0 ?_ (r.append (.cons ru .nil)) h
    obtain ⟨oc, od, dV, kV, doc, pm, an, cdv, ct, osl, e1, lk, hcd, hD, hK⟩ := F.ex
    rcases hD with ⟨_, e2⟩ | ⟨e2, _⟩
    · subst e1 e2
      exact .of_eq rfl
    · exact absurd rfl e2
end
end Wy
set_option Elab.async false
set_option linter.all false
set_option maxRecDepth 100000
set_option maxHeartbeats 0
namespace Wy
open PySem PySem.Spec PyProof.Rows L2 StX
def FeedAt (H : Hp) (f : Addr) : Prop := ∃ c s n : Int, H f = some (.lst [.int c, .int s, .int n])
theorem FeedAt.ne {H : Hp} {f a : Addr} {xs : List V} (h : FeedAt H f) (e : H a = some (.lst xs)) (n : xs.length ≠ 3) : a ≠ f := by
  obtain ⟨c, s, m, h⟩ := h
  exact ne_of e h (by intro z; cases z; exact n rfl)
theorem FeedAt.same {H H' : Hp} {f : Addr} (h : FeedAt H f) (s : Same H H') : FeedAt H' f := let ⟨c, s', n, e⟩ := h; ⟨c, s', n, s _ _ e⟩
theorem FeedAt.at {H H' : Hp} {f : Addr} {K : PySem.W.Frag} {S : Addr → Prop} (h : FeedAt H f) (c : Ch K S H H') (n : ¬ S f) : FeedAt H' f := let ⟨c', s', m, e⟩ := h; ⟨c', s', m, c.at e n⟩
section
variable {P : Program} {w : World} {K : PySem.W.Frag} {mg : Str → Option Value} {base : Heap}
theorem sc_L_take : FnScope ["_law_feed_here", "_law_many", "_law_digit", "_law_mix"] ["_law_feed_here", "_law_many"] (defScope s_L_take) := ⟨rfl, rfl, rfl, by decide +kernel, rfl, by decide +kernel, by decide +kernel⟩
def sp_L_take (K : PySem.W.Frag) : Sp := fun vs H Q _ => ∃ (f : Addr) (m : Int), vs = [.ref f, .int m] ∧ FeedAt H f ∧ 0 < m ∧ m < 1000000 ∧ ∀ H' r, Ch K (fun b => b = f) H H' → FeedAt H' f → 0 ≤ r → r < m → Q (.int r) H'
theorem ok_L_take (T : W0 P w K mg) : GFn P w K mg base 1 "_law_take" (sp_L_take K) := by
  obtain ⟨fd, F⟩ := T.d_L_take
  refine ⟨T.g_L_take, F.kp, F.fr sc_L_take (fun _ _ _ _ _ _ us hl => match us, hl with | [_, _], _ => rfl) (fun vs H Q E h => by first | (obtain ⟨rfl, _⟩ := h; rfl) | (obtain ⟨_, rfl, _⟩ := h; rfl) | (obtain ⟨_, _, rfl, _⟩ := h; rfl) | (obtain ⟨_, _, _, rfl, _⟩ := h; rfl) | (obtain ⟨_, _, _, _, rfl, _⟩ := h; rfl) | (obtain ⟨_, _, _, _, _, rfl, _⟩ := h; rfl) | (obtain ⟨_, _, _, _, _, _, rfl, _⟩ := h; rfl) | (obtain ⟨_, _, _, _, _, _, _, rfl, _⟩ := h; rfl) | (obtain ⟨_, _, _, _, _, _, _, _, rfl, _⟩ := h; rfl) | (obtain ⟨_, _, _, _, _, _, _, _, _, rfl, _⟩ := h; rfl)) fun cdv A outer s H vs Q E hr h => ⟨_, (pss_cons (ps_if (pt_cmpR op_gt (pe_ix (kIxL (K := K) rfl) (pv 0) pe_int (fun _ _ => rfl)) pe_int (nomark _)) (pss_cons (ps_set (i := 2) sc_L_take.nd rfl (Or.inl rfl) (pe_op op_modN (pe_ix (kIxL (K := K) rfl) (pv 0) pe_int (fun _ _ => rfl)) (pv 1))) (pss_cons (ps_asg (pe_op op_fdivN (pe_ix (kIxL (K := K) rfl) (pv 0) pe_int (fun _ _ => rfl)) (pv 1)) (pg_sub (pv 0) pe_int set_list)) (pss_one (ps_ret (pv 2))))) pss_nil) (pss_cons (ps_asg (pe_op op_add (pe_ix (kIxL (K := K) rfl) (pv 0) pe_int (fun _ _ => rfl)) pe_int) (pg_sub (pv 0) pe_int set_list)) (pss_cons (ps_set (i := 3) sc_L_take.nd rfl (Or.inl rfl) (pe_op op_modN (pe_op op_mul (pe_op op_add (pe_ix (kIxL (K := K) rfl) (pv 0) pe_int (fun _ _ => rfl)) (pe_op op_mul pe_int (pe_ix (kIxL (K := K) rfl) (pv 0) pe_int (fun _ _ => rfl)))) pe_int) pe_int)) (pss_cons (ps_asg (pe_op op_add (pe_op op_modN (pe_op op_add (pe_op op_mul (pv 3) pe_int) pe_int) pe_int) pe_int) (pg_sub (pv 0) pe_int set_list)) (pss_one (ps_ret (pe_op op_modN (pe_op op_fdivN (pe_op op_add (pe_op op_mul (pv 3) pe_int) (pe_ix (kIxL (K := K) rfl) (pv 0) pe_int (fun _ _ => rfl))) pe_int) (pv 1)))))))), ?_⟩⟩
  obtain ⟨f, m, rfl, ⟨c, sd, n, hf⟩, m0, m1, q⟩ := h
  have at0 : atI [V.int c, V.int sd, V.int n] 0 = some (.int c) := atI_nat (j := 0) rfl
  have at1 : atI [V.int c, V.int sd, V.int n] 1 = some (.int sd) := atI_nat (j := 1) rfl
  have at2 : atI [V.int c, V.int sd, V.int n] 2 = some (.int n) := atI_nat (j := 2) rfl
  refine ⟨_, rfl, f, _, _, _, rfl, rfl, SqL.of hf, at0, _, _, rfl, rfl, _, rfl, iteD (fun h0 => ?_) fun h0 => ?_⟩
  · refine ⟨_, rfl, f, _, _, _, rfl, rfl, SqL.of hf, at0, _, rfl, c, m, rfl, rfl, by omega, ?_⟩
    refine ⟨_, rfl, f, _, _, _, rfl, rfl, SqL.of hf, at0, _, rfl, c, m, rfl, rfl, ⟨by omega, by omega⟩, _, rfl, f, _, _, 0, rfl, rfl, hf, rfl, ?_⟩
    refine ⟨_, rfl, q _ _ (ch_upd hf (fun z => z) rfl) ⟨_, _, _, upd_same⟩ ?_ ?_⟩
    · rw [Int.fmod_eq_emod_of_nonneg _ (by omega)]
      exact Int.emod_nonneg _ (by omega)
    · rw [Int.fmod_eq_emod_of_nonneg _ (by omega)]
      exact Int.emod_lt_of_pos _ m0
  · refine ⟨_, rfl, f, _, _, _, rfl, rfl, SqL.of hf, at2, n, 1, rfl, rfl, _, rfl, f, _, _, 2, rfl, rfl, hf, rfl, ?_⟩
    have e1 : (upd H f (.lst ([V.int c, V.int sd, V.int n].set 2 (.int (n + 1))))) f = some (.lst [.int c, .int sd, .int (n + 1)]) := upd_same
    have b1 : atI [V.int c, V.int sd, V.int (n + 1)] 1 = some (.int sd) := atI_nat (j := 1) rfl
    have b2 : atI [V.int c, V.int sd, V.int (n + 1)] 2 = some (.int (n + 1)) := atI_nat (j := 2) rfl
    have c1 := ch_upd (K := K) (S := fun b => b = f) (u := .lst ([V.int c, V.int sd, V.int n].set 2 (.int (n + 1)))) hf (fun z => z) rfl
    refine ⟨_, rfl, f, _, _, _, rfl, rfl, SqL.of e1, b1, _, rfl, f, _, _, _, rfl, rfl, SqL.of e1, b2, _, _, rfl, rfl, .inl (by decide), _, _, rfl, rfl, _, _, rfl, rfl, .inr (by decide), _, _, rfl, rfl, (show (2147483647 : Int) ≠ 0 by decide), ?_⟩
    have mb : ∀ i : Int, -(2 ^ 64) < i.fmod 2147483647 ∧ i.fmod 2147483647 < 2 ^ 64 := fun i => by
      rw [Int.fmod_eq_emod_of_nonneg _ (by decide)]
      have h1 := Int.emod_nonneg i (b := 2147483647) (by decide)
      have h2 := Int.emod_lt_of_pos i (b := 2147483647) (by decide)
      omega
    refine ⟨_, rfl, _, _, rfl, rfl, .inr (by decide), _, _, rfl, rfl, _, _, rfl, rfl, (show (2147483629 : Int) ≠ 0 by decide), _, _, rfl, rfl, _, rfl, f, _, _, 1, rfl, rfl, e1, rfl, ?_⟩
    refine ⟨_, rfl, _, _, rfl, rfl, .inl (mb _), _, rfl, f, _, _, _, rfl, rfl, SqL.of upd_same, atI_nat (j := 1) rfl, _, _, rfl, rfl, _, _, rfl, rfl, ⟨show (8191 : Int) ≠ 0 by decide, show (8191 : Int).natAbs < 1073741824 by decide⟩, _, rfl, _, m, rfl, rfl, by omega, ?_⟩
    refine q _ _ (c1.trans (ch_upd e1 (fun z => z) rfl)) ⟨_, _, _, upd_same⟩ ?_ ?_
    · rw [Int.fmod_eq_emod_of_nonneg _ (by omega)]
      exact Int.emod_nonneg _ (by omega)
    · rw [Int.fmod_eq_emod_of_nonneg _ (by omega)]
      exact Int.emod_lt_of_pos _ m0

theorem sc_L_feed : FnScope ["_law_script", "_law_k", "_law_cell", "_law_seed"] ["_law_script", "_law_k"] (defScope s_L_feed) := ⟨rfl, rfl, rfl, by decide +kernel, rfl, by decide +kernel, by decide +kernel⟩
def sp_L_feed (K : PySem.W.Frag) : Sp := fun vs H Q _ => ∃ (a : Addr) (ns : List Int) (k : Nat), vs = [.ref a, .int (k : Int)] ∧ SqL K H a (ns.map V.int) ∧ ns.length ≤ 100 ∧ k ≤ 100 ∧ ∀ H' f, Same H H' → H f = none → FeedAt H' f → Q (.ref f) H'
theorem ok_L_feed (T : W0 P w K mg) : GFn P w K mg base 1 "_law_feed" (sp_L_feed K) := by
  obtain ⟨fd, F⟩ := T.d_L_feed
  refine ⟨T.g_L_feed, F.kp, F.fr sc_L_feed (fun _ _ _ _ _ _ us hl => match us, hl with | [_, _], _ => rfl) (fun vs H Q E h => by first | (obtain ⟨rfl, _⟩ := h; rfl) | (obtain ⟨_, rfl, _⟩ := h; rfl) | (obtain ⟨_, _, rfl, _⟩ := h; rfl) | (obtain ⟨_, _, _, rfl, _⟩ := h; rfl) | (obtain ⟨_, _, _, _, rfl, _⟩ := h; rfl) | (obtain ⟨_, _, _, _, _, rfl, _⟩ := h; rfl) | (obtain ⟨_, _, _, _, _, _, rfl, _⟩ := h; rfl) | (obtain ⟨_, _, _, _, _, _, _, rfl, _⟩ := h; rfl) | (obtain ⟨_, _, _, _, _, _, _, _, rfl, _⟩ := h; rfl) | (obtain ⟨_, _, _, _, _, _, _, _, _, rfl, _⟩ := h; rfl)) fun cdv A outer s H vs Q E hr h => ⟨_, (pss_cons (ps_set (i := 2) sc_L_feed.nd rfl (Or.inl rfl) (pe_op op_add (pe_op op_mul pe_int (pv 1)) pe_int)) (C8.pss_cut (ps_if (pt_cmpR op_lt (pv 1) (pe_callB call_len_seq (by rfl) T.f_len PySem.boot_len (pa_cons (pv 0) pa_nil)) (nomark _)) (pss_one (ps_set (i := 2) sc_L_feed.nd rfl (Or.inl rfl) (pe_callB call_abs (by rfl) T.f_abs (by decide +kernel) (pa_cons (pe_ix (kIxL (K := K) rfl) (pv 0) (pv 1) (fun _ _ => rfl)) pa_nil)))) (pss_one (ps_if (pt_cmpR op_gt (pe_callB call_len_seq (by rfl) T.f_len PySem.boot_len (pa_cons (pv 0) pa_nil)) pe_int (nomark _)) (pss_one (ps_set (i := 2) sc_L_feed.nd rfl (Or.inl rfl) (pe_op op_add (pv 2) (pe_op op_mul (pe_op op_modN (pe_callB call_abs (by rfl) T.f_abs (by decide +kernel) (pa_cons (pe_ix (kIxL (K := K) rfl) (pv 0) (pe_op op_modN (pv 1) (pe_callB call_len_seq (by rfl) T.f_len PySem.boot_len (pa_cons (pv 0) pa_nil))) (fun _ _ => rfl)) pa_nil)) pe_int) pe_int)))) pss_nil))) (pss_cons (ps_set (i := 3) sc_L_feed.nd rfl (Or.inl rfl) (pe_op op_add (pe_op op_modN (pe_op op_add (pe_op op_mul (pe_op op_modN (pv 2) pe_int) pe_int) (pe_op op_mul pe_int (pv 1))) pe_int) pe_int)) (pss_one (ps_ret (pe_lst (pa_cons (pe_op op_mul (pv 2) (pe_callTy call_int1 (by rfl) T.f_int (by decide +kernel) (pa_cons (pe_cmpR op_ge (pv 2) (pe_op op_pow pe_int pe_int) (nomark _)) pa_nil))) (pa_cons (pv 3) (pa_cons pe_int pa_nil))))))))), ?_⟩⟩
  obtain ⟨a, ns, k, rfl, hs, hl, hk, q⟩ := h
  have lm : ((ns.map V.int).length : Int) = (ns.length : Int) := by rw [List.length_map]
  refine ⟨_, rfl, 6151, (k : Int), rfl, rfl, .inl (by decide), _, _, rfl, rfl, ?_⟩
  refine ⟨fun σ H' => H' = H ∧ ∃ c : Int, σ = [some (.ref a), some (.int k), some (.int c), none], ?_, ?_⟩
  · refine ⟨_, rfl, _, rfl, a, _, rfl, .inl hs, _, _, rfl, rfl, _, rfl, iteB (fun e1 => ?_) fun e1 => ?_⟩
    · have e2 : (k : Int) < ((ns.map V.int).length : Int) := of_decide_eq_true e1
      have hk2 : k < ns.length := by omega
      have e3 : (ns.map V.int)[k]? = some (.int ns[k]) := by rw [List.getElem?_map, List.getElem?_eq_getElem hk2]; rfl
      exact ⟨_, rfl, _, rfl, a, _, _, _, rfl, rfl, hs, atI_nat e3, _, rfl, rfl, _, rfl⟩
    · refine ⟨_, rfl, a, _, rfl, .inl hs, _, _, rfl, rfl, _, rfl, iteB (fun e2 => ?_) fun e2 => ?_⟩
      · have e3 : (0 : Int) < ((ns.map V.int).length : Int) := of_decide_eq_true e2
        have e4 : k % ns.length < ns.length := Nat.mod_lt _ (by omega)
        have e5 : (ns.map V.int)[k % ns.length]? = some (.int ns[k % ns.length]) := by rw [List.getElem?_map, List.getElem?_eq_getElem e4]; rfl
        have e6 : (k : Int).fmod ((ns.map V.int).length : Int) = ((k % ns.length : Nat) : Int) := by
          rw [lm, Int.fmod_eq_emod_of_nonneg _ (by omega)]
          rfl
        refine ⟨_, rfl, _, rfl, _, rfl, _, rfl, a, _, rfl, .inl hs, _, _, rfl, rfl, by omega, a, _, _, _, rfl, rfl, hs, (by rw [e6]; exact atI_nat e5), _, rfl, _, _, rfl, rfl, (show (2147483629 : Int) ≠ 0 by decide), _, _, rfl, rfl, .inr (by decide), _, _, rfl, rfl, rfl, _, rfl⟩
      · exact ⟨rfl, _, rfl⟩
  · rintro σ' H' ⟨rfl, c, rfl⟩
    refine ⟨_, rfl, _, _, rfl, rfl, (show (2147483629 : Int) ≠ 0 by decide), _, _, rfl, rfl, .inr (by decide), _, rfl, _, _, rfl, rfl, .inl (by decide), _, _, rfl, rfl, _, _, rfl, rfl, (show (2147483629 : Int) ≠ 0 by decide), _, _, rfl, rfl, ?_⟩
    refine ⟨_, rfl, _, rfl, _, _, rfl, rfl, ⟨by decide, by decide, by decide⟩, _, _, rfl, rfl, .inr ⟨_, rfl, _, _, rfl, rfl, .inr ?_, _, rfl, (by show 3 ≤ sizeLine; decide), fun f hf2 => q _ f (same_upd hf2) hf2 ⟨_, _, _, upd_same⟩⟩⟩
    split <;> constructor <;> decide

theorem map_era {α β : Type} (f : α → β) : ∀ (xs : List α) (k : Nat), (xs.map f).eraseIdx k = (xs.eraseIdx k).map f
  | [], _ => rfl
  | _ :: _, 0 => rfl
  | x :: xs, k + 1 => by
    show f x :: (xs.map f).eraseIdx k = f x :: (xs.eraseIdx k).map f
    rw [map_era f xs k]
theorem perm_era {α : Type} : ∀ {xs : List α} {k : Nat} {y : α}, xs[k]? = some y → (y :: xs.eraseIdx k).Perm xs
  | [], _, _, h => by simp at h
  | x :: xs, 0, y, h => by
    simp at h
    subst h
    exact .refl _
  | x :: xs, k + 1, y, h => (List.Perm.swap x y _).trans (.cons x (perm_era (xs := xs) (k := k) (by simpa using h)))
theorem seq_ix {r : Int} {n : Nat} (h0 : 0 ≤ r) (h1 : r < (n : Int)) : seqIndex? r n = some r.toNat := by
  unfold seqIndex?
  have e : (if r < 0 then r + (n : Int) else r) = r := if_neg (by omega)
  show (if (decide (0 ≤ (if r < 0 then r + (n : Int) else r)) && decide ((if r < 0 then r + (n : Int) else r) < (n : Int))) = true then some (if r < 0 then r + (n : Int) else r).toNat else none) = _
  rw [e, decide_eq_true h0, decide_eq_true h1]
  rfl
theorem sc_L_mixed : FnScope ["_law_feed_here", "_law_items", "_law_left", "_law_found", "_law_turn"] ["_law_feed_here", "_law_items"] (defScope s_L_mixed) := ⟨rfl, rfl, rfl, by decide +kernel, rfl, by decide +kernel, by decide +kernel⟩
def StrsAt (H : Hp) (a : Addr) (xs : List Str) : Prop := H a = some (.lst (xs.map V.str))
def sp_L_mixed (K : PySem.W.Frag) : Sp := fun vs H Q _ => ∃ (f a : Addr) (xs : List Str), vs = [.ref f, .ref a] ∧ FeedAt H f ∧ StrsAt H a xs ∧ xs.length ≤ 1000 ∧ ∀ H' D ys, Ch K (fun b => b = f) H H' → FeedAt H' f → H D = none → StrsAt H' D ys → ys.Perm xs → Q (.ref D) H'
theorem ok_L_mixed (T : W0 P w K mg) : GFn P w K mg base 2 "_law_mixed" (sp_L_mixed K) := by
  obtain ⟨fd, F⟩ := T.d_L_mixed
  refine ⟨T.g_L_mixed, F.kp, F.fr sc_L_mixed (fun _ _ _ _ _ _ us hl => match us, hl with | [_, _], _ => rfl) (fun vs H Q E h => by first | (obtain ⟨rfl, _⟩ := h; rfl) | (obtain ⟨_, rfl, _⟩ := h; rfl) | (obtain ⟨_, _, rfl, _⟩ := h; rfl) | (obtain ⟨_, _, _, rfl, _⟩ := h; rfl) | (obtain ⟨_, _, _, _, rfl, _⟩ := h; rfl) | (obtain ⟨_, _, _, _, _, rfl, _⟩ := h; rfl) | (obtain ⟨_, _, _, _, _, _, rfl, _⟩ := h; rfl) | (obtain ⟨_, _, _, _, _, _, _, rfl, _⟩ := h; rfl) | (obtain ⟨_, _, _, _, _, _, _, _, rfl, _⟩ := h; rfl) | (obtain ⟨_, _, _, _, _, _, _, _, _, rfl, _⟩ := h; rfl)) fun cdv A outer s H vs Q E hr h => ⟨_, (pss_cons (ps_par (i := 2) (j := 3) (by rfl) sc_L_mixed.nd rfl rfl (by decide) rfl rfl (pa_cons (pe_callTy call_list_of (by rfl) T.f_list (by decide +kernel) (pa_cons (pv 1) pa_nil)) (pa_cons (pe_lst pa_nil) pa_nil)) (by rfl)) (pss_cons (ps_for (passes_of rfl) rfl (pi_range1 (by rfl) T.f_range (pa_cons (pe_callB call_len_seq (by rfl) T.f_len PySem.boot_len (pa_cons (pv 2) pa_nil)) pa_nil)) (pg_name (i := 4) sc_L_mixed.nd rfl (Or.inl rfl)) (pss_one (ps_expr (pe_bm PySem.F.plainAttrs_list PySem.F.slot_list_append PySem.F.type_list_append mt_append (pv 3) (pa_cons (pe_bm PySem.F.plainAttrs_list PySem.F.slot_list_pop PySem.F.type_list_pop mt_popAt (pv 2) (pa_cons (eCall (ok_L_take T) (hr.mono (by decide)) passL (by rfl) (pa_cons (pv 0) (pa_cons (pe_callB call_len_seq (by rfl) T.f_len PySem.boot_len (pa_cons (pv 2) pa_nil)) pa_nil))) pa_nil)) pa_nil))))) (pss_one (ps_ret (pv 3))))), ?_⟩⟩
  obtain ⟨f, a, xs, rfl, hf, ha, hl, q⟩ := h
  refine ⟨_, rfl, a, _, rfl, .inl (SqL.of ha), fun l hl2 => ⟨Nat.zero_le _, fun D hD => ⟨_, _, rfl, ?_⟩⟩⟩
  have Dl : D ≠ l := fun z => by rw [z, upd_same] at hD; cases hD
  have hD2 : H D = none := by rw [upd_ne Dl] at hD; exact hD
  have s1 := (same_upd (o := .lst (xs.map V.str)) hl2).trans (same_upd (o := .lst []) hD)
  have el : (upd (upd H l (.lst (xs.map V.str))) D (.lst [])) l = some (.lst (xs.map V.str)) := by rw [upd_ne (Ne.symm Dl), upd_same]
  obtain ⟨fc, fs, fn', hf'⟩ := id hf
  have lf : l ≠ f := fun z => by rw [z, hf'] at hl2; cases hl2
  have Df : D ≠ f := fun z => by rw [z, hf'] at hD2; cases hD2
  refine ⟨_, rfl, l, _, rfl, .inl (SqL.of el), _, rfl, by rw [List.length_map]; omega, by rw [List.length_map]; omega, ?_⟩
  refine for_range (fun i σ H' => (∃ o4, σ = [some (.ref f), some (.ref a), some (.ref l), some (.ref D), o4]) ∧ Ch K (fun b => b = f ∨ b = l ∨ b = D) H H' ∧ FeedAt H' f ∧ ∃ ls ys : List Str, StrsAt H' l ls ∧ StrsAt H' D ys ∧ ys.length = i ∧ (ys ++ ls).Perm xs)
    ⟨⟨_, rfl⟩, Same.ch s1, hf.same s1, xs, [], el, upd_same, rfl, .refl _⟩ (fun i σ H' hi p => ?_) fun σ H' p => ?_
  · obtain ⟨⟨o4, rfl⟩, c, hF, ls, ys, hls, hys, hyl, hp⟩ := p
    have ll : ys.length + ls.length = xs.length := by rw [← List.length_append]; exact hp.length_eq
    have il : i < xs.length := by have := hi; rw [List.length_map] at this; exact this
    refine ⟨_, rfl, .inl ⟨rfl, _, SqL.of hys⟩, _, rfl, .inl ⟨rfl, _, SqL.of hls⟩, _, rfl, _, rfl, l, _, rfl, .inl (SqL.of hls), f, _, rfl, hF, ?_, ?_, fun H2 r c2 hF2 r0 r1 => ?_⟩
    · rw [List.length_map]; omega
    · rw [List.length_map]; omega
    have lS : ¬ l = f := lf
    have hl3 : StrsAt H2 l ls := c2.at hls lf
    have hy3 : StrsAt H2 D ys := c2.at hys Df
    have rl : r.toNat < ls.length := by rw [List.length_map] at r1; omega
    have gy : ls[r.toNat]? = some ls[r.toNat] := List.getElem?_eq_getElem rl
    have e1 : (upd H2 l (.lst ((ls.eraseIdx r.toNat).map V.str))) D = some (.lst (ys.map V.str)) := by rw [upd_ne Dl]; exact hy3
    refine ⟨l, _, r, r.toNat, .str ls[r.toNat], rfl, rfl, hl3, by omega, by rw [List.length_map] at r1; omega, seq_ix r0 r1, by rw [List.getElem?_map, gy]; rfl, ?_⟩
    rw [map_era]
    refine ⟨D, _, _, rfl, rfl, e1, (by have z : (ys.map V.str).length = ys.length := List.length_map _; rw [z]; have : (1000000 : Nat) < sizeLine := by decide
                                       omega), ⟨_, rfl⟩, ?_, ((hF2.at (ch_upd (K := K) (S := fun b => b = l) hl3 (fun z => z) rfl) (Ne.symm lf)).at (ch_upd (K := K) (S := fun b => b = D) e1 (fun z => z) rfl) (Ne.symm Df)), ls.eraseIdx r.toNat, ys ++ [ls[r.toNat]], ?_, ?_, ?_, ?_⟩
    · exact (c.trans (c2.mono fun b z => .inl z)).trans ((ch_upd hl3 (fun z => z) (.inr (.inl rfl))).trans (ch_upd e1 (fun z => z) (.inr (.inr rfl))))
    · show upd _ _ _ l = _
      rw [upd_ne (Ne.symm Dl), upd_same]
    · show upd _ _ _ D = _
      rw [upd_same, List.map_append]
      rfl
    · rw [List.length_append, hyl]
      rfl
    · rw [List.append_assoc]
      exact (List.Perm.append_left ys (perm_era gy)).trans hp
  · obtain ⟨⟨o4, rfl⟩, c, hF, ls, ys, hls, hys, hyl, hp⟩ := p
    have e0 : (((xs.map V.str).length : Nat) : Int).toNat = xs.length := by rw [List.length_map]; rfl
    rw [e0] at hyl
    have hl0 : ls = [] := by
      have := hp.length_eq
      rw [List.length_append] at this
      exact List.eq_nil_of_length_eq_zero (by omega)
    subst hl0
    rw [List.append_nil] at hp
    exact ⟨_, rfl, q _ D ys (c.fresh fun b hb => by rcases hb with h | h | h; exact .inl h; exact .inr (h ▸ hl2); exact .inr (h ▸ hD2)) hF hD2 hys hp⟩
end
end Wy
set_option Elab.async false
set_option linter.all false
set_option maxRecDepth 100000
set_option maxHeartbeats 0
namespace Wy
open PySem PySem.Spec PyProof.Rows L2 StX
section
variable {P : Program} {w : World} {K : PySem.W.Frag} {mg : Str → Option Value} {base : Heap}
theorem sc_L_bounds : FnScope ["_law_feed_here", "_law_near", "_law_limit", "_law_form", "_law_slack"] ["_law_feed_here", "_law_near", "_law_limit"] (defScope s_L_bounds) := ⟨rfl, rfl, rfl, by decide +kernel, rfl, by decide +kernel, by decide +kernel⟩
def sp_L_bounds (K : PySem.W.Frag) : Sp := fun vs H Q _ => ∃ (f : Addr) (n m : Int), vs = [.ref f, .int n, .int m] ∧ FeedAt H f ∧ 0 ≤ n ∧ n ≤ m ∧ m ≤ 100 ∧ ∀ H' t lo hi, Ch K (fun b => b = f) H H' → FeedAt H' f → H' t = some (.tup [.int lo, .int hi]) → 0 ≤ lo → lo ≤ hi → hi ≤ m → Q (.ref t) H'
theorem ok_L_bounds (T : W0 P w K mg) : GFn P w K mg base 2 "_law_bounds" (sp_L_bounds K) := by
  obtain ⟨fd, F⟩ := T.d_L_bounds
  refine ⟨T.g_L_bounds, F.kp, F.fr sc_L_bounds (fun _ _ _ _ _ _ us hl => match us, hl with | [_, _, _], _ => rfl) (fun vs H Q E h => by first | (obtain ⟨rfl, _⟩ := h; rfl) | (obtain ⟨_, rfl, _⟩ := h; rfl) | (obtain ⟨_, _, rfl, _⟩ := h; rfl) | (obtain ⟨_, _, _, rfl, _⟩ := h; rfl) | (obtain ⟨_, _, _, _, rfl, _⟩ := h; rfl) | (obtain ⟨_, _, _, _, _, rfl, _⟩ := h; rfl) | (obtain ⟨_, _, _, _, _, _, rfl, _⟩ := h; rfl) | (obtain ⟨_, _, _, _, _, _, _, rfl, _⟩ := h; rfl) | (obtain ⟨_, _, _, _, _, _, _, _, rfl, _⟩ := h; rfl) | (obtain ⟨_, _, _, _, _, _, _, _, _, rfl, _⟩ := h; rfl)) fun cdv A outer s H vs Q E hr h => ⟨_, (pss_cons (ps_par (i := 3) (j := 4) (by rfl) sc_L_bounds.nd rfl rfl (by decide) rfl rfl (pa_cons (eCall (ok_L_take T) (hr.mono (by decide)) passL (by rfl) (pa_cons (pv 0) (pa_cons pe_int pa_nil))) (pa_cons (pe_op op_add pe_int (eCall (ok_L_take T) (hr.mono (by decide)) passL (by rfl) (pa_cons (pv 0) (pa_cons (pe_ix (kIxL (K := K) rfl) (pe_lst (pa_cons pe_int (pa_cons (pe_op op_add (pe_op op_fdivN (pv 2) pe_int) pe_int) pa_nil))) (eCall (ok_L_take T) (hr.mono (by decide)) passL (by rfl) (pa_cons (pv 0) (pa_cons pe_int pa_nil))) (fun _ _ => rfl)) pa_nil)))) pa_nil)) (by rfl)) (pss_cons (ps_if (pt_cmpR op_eq (pv 3) pe_int (nomark _)) (pss_one (ps_ret (pe_tup (pa_cons (pv 1) (pa_cons (pv 1) pa_nil))))) pss_nil) (pss_cons (ps_if (pt_cmpR op_eq (pv 3) pe_int (nomark _)) (pss_one (ps_ret (pe_tup (pa_cons pe_int (pa_cons (pe_callB (call_min2 rfl) (by rfl) T.f_min (by decide +kernel) (pa_cons (pv 2) (pa_cons (pe_op op_add (pv 1) (eCall (ok_L_take T) (hr.mono (by decide)) passL (by rfl) (pa_cons (pv 0) (pa_cons (pe_op op_add (pv 4) pe_int) pa_nil)))) pa_nil))) pa_nil))))) pss_nil) (pss_one (ps_ret (pe_tup (pa_cons (pe_callB (call_max2 rfl) (by rfl) T.f_max (by decide +kernel) (pa_cons pe_int (pa_cons (pe_op op_sub (pv 1) (eCall (ok_L_take T) (hr.mono (by decide)) passL (by rfl) (pa_cons (pv 0) (pa_cons (pe_op op_add (pv 4) pe_int) pa_nil)))) pa_nil))) (pa_cons (pe_callB (call_min2 rfl) (by rfl) T.f_min (by decide +kernel) (pa_cons (pv 2) (pa_cons (pe_op op_add (pv 1) (eCall (ok_L_take T) (hr.mono (by decide)) passL (by rfl) (pa_cons (pv 0) (pa_cons (pe_op op_add (pv 4) pe_int) pa_nil)))) pa_nil))) pa_nil)))))))), ?_⟩⟩
  obtain ⟨f, n, m, rfl, hF, n0, nm, m1, q⟩ := h
  refine ⟨_, rfl, f, 4, rfl, hF, by decide, by decide, fun H1 fo c1 hF1 fo0 fo4 => ?_⟩
  obtain ⟨g1, g2, g3, hg⟩ := id hF1
  refine ⟨_, rfl, _, rfl, m, 4, rfl, rfl, ⟨by decide, by decide⟩, _, _, rfl, rfl, (by show 2 ≤ sizeLine; decide), fun l hl => ?_⟩
  have lf : l ≠ f := fun z => by rw [z, hg] at hl; cases hl
  have c2 := c1.trans (ch_new (K := K) (S := fun b => b = f) (u := .lst [.int 2, .int (m.fdiv 4 + 1)]) hl)
  refine ⟨_, rfl, f, 2, rfl, hF1.same (same_upd hl), by decide, by decide, fun H2 i c3 hF2 i0 i2 => ?_⟩
  have hl2 : H2 l = some (.lst [.int 2, .int (m.fdiv 4 + 1)]) := c3.at upd_same lf
  have md : m.fdiv 4 = m / 4 := Int.fdiv_eq_ediv_of_nonneg _ (by decide)
  have ix : ∃ z, atI [V.int 2, V.int (m.fdiv 4 + 1)] i = some (.int z) ∧ 0 < z ∧ z < 1000 := by
    rcases (show i = 0 ∨ i = 1 by omega) with rfl | rfl
    · exact ⟨2, atI_nat (j := 0) rfl, by decide, by decide⟩
    · exact ⟨_, atI_nat (j := 1) rfl, by rw [md]; omega, by rw [md]; omega⟩
  obtain ⟨z, hz, z0, z1⟩ := ix
  refine ⟨l, _, i, _, rfl, rfl, SqL.of hl2, hz, f, z, rfl, hF2, z0, by omega, fun H3 sl c4 hF3 s0 s1 => ?_⟩
  have c5 := (c2.trans c3).trans c4
  refine ⟨_, _, rfl, rfl, _, _, rfl, _, rfl, rfl, _, rfl, iteD (fun e0 => ?_) fun e0 => ?_⟩
  · exact ⟨_, rfl, _, rfl, (by show 2 ≤ sizeLine; decide), fun t ht => q _ t n n (c5.trans (ch_new ht)) (hF3.same (same_upd ht)) upd_same n0 (Int.le_refl _) nm⟩
  · refine ⟨_, rfl, rfl, _, rfl, iteD (fun e1 => ?_) fun e1 => ?_⟩
    · refine ⟨_, rfl, _, rfl, _, rfl, _, rfl, _, _, rfl, rfl, f, _, rfl, hF3, by omega, by omega, fun H4 r c6 hF4 r0 r1 => ⟨_, _, rfl, rfl, _, _, rfl, (by show 2 ≤ sizeLine; decide), fun t ht => q _ t 0 (if n + r < m then n + r else m) ((c5.trans c6).trans (ch_new ht)) (hF4.same (same_upd ht)) upd_same (Int.le_refl _) ?_ ?_⟩⟩
      · split <;> omega
      · split <;> omega
    · refine ⟨_, rfl, _, rfl, _, rfl, _, _, rfl, rfl, f, _, rfl, hF3, by omega, by omega, fun H4 r c6 hF4 r0 r1 => ⟨_, _, rfl, rfl, _, _, rfl, ?_⟩⟩
      refine ⟨_, rfl, _, rfl, _, rfl, _, rfl, _, _, rfl, rfl, f, _, rfl, hF4, by omega, by omega, fun H5 r' c7 hF5 r0' r1' => ⟨_, _, rfl, rfl, _, _, rfl, (by show 2 ≤ sizeLine; decide), fun t ht => q _ t (if n - r > 0 then n - r else 0) (if n + r' < m then n + r' else m) (((c5.trans c6).trans c7).trans (ch_new ht)) (hF5.same (same_upd ht)) upd_same ?_ ?_ ?_⟩⟩
      · split <;> omega
      · split <;> split <;> omega
      · split <;> omega

theorem Ch.back {K : PySem.W.Frag} {S : Addr → Prop} {H H1 : Hp} (c : Ch K S H H1) {b : Addr} (h : H1 b = none) (n : ¬ S b) : H b = none := by
  cases e : H b with
  | none => rfl
  | some o => rw [c.at e n] at h; cases h
theorem sc_L_joints : FnScope ["_law_feed_here", "_law_many", "_law_bonds", "_law_form", "_law_found", "_law_k", "_law_at", "_law_to", "_law_half"] ["_law_feed_here", "_law_many", "_law_bonds"] (defScope s_L_joints) := ⟨rfl, rfl, rfl, by decide +kernel, rfl, by decide +kernel, by decide +kernel⟩
def JsAt (H : Hp) (as : List Addr) (js : List (Nat × Nat)) : Prop := Paired (fun a (j : Nat × Nat) => H a = some (.tup [.int j.1, .int j.2])) as js
def sp_L_joints (K : PySem.W.Frag) : Sp := fun vs H Q _ => ∃ (f : Addr) (n b : Nat), vs = [.ref f, .int (n : Int), .int (b : Int)] ∧ FeedAt H f ∧ 1 ≤ n ∧ n ≤ 100 ∧ b ≤ 100 ∧ ∀ H' D as js, Ch K (fun b => b = f) H H' → FeedAt H' f → H D = none → H' D = some (.lst (as.map V.ref)) → JsAt H' as js → js.length ≤ b → (∀ j ∈ js, j.1 < n ∧ j.2 < n ∧ j.1 ≠ j.2) → Q (.ref D) H'
theorem ok_L_joints (T : W0 P w K mg) : GFn P w K mg base 2 "_law_joints" (sp_L_joints K) := by
  obtain ⟨fd, F⟩ := T.d_L_joints
  refine ⟨T.g_L_joints, F.kp, F.fr sc_L_joints (fun _ _ _ _ _ _ us hl => match us, hl with | [_, _, _], _ => rfl) (fun vs H Q E h => by first | (obtain ⟨rfl, _⟩ := h; rfl) | (obtain ⟨_, rfl, _⟩ := h; rfl) | (obtain ⟨_, _, rfl, _⟩ := h; rfl) | (obtain ⟨_, _, _, rfl, _⟩ := h; rfl) | (obtain ⟨_, _, _, _, rfl, _⟩ := h; rfl) | (obtain ⟨_, _, _, _, _, rfl, _⟩ := h; rfl) | (obtain ⟨_, _, _, _, _, _, rfl, _⟩ := h; rfl) | (obtain ⟨_, _, _, _, _, _, _, rfl, _⟩ := h; rfl) | (obtain ⟨_, _, _, _, _, _, _, _, rfl, _⟩ := h; rfl) | (obtain ⟨_, _, _, _, _, _, _, _, _, rfl, _⟩ := h; rfl)) fun cdv A outer s H vs Q E hr h => ⟨_, (pss_cons (ps_par (i := 3) (j := 4) (by rfl) sc_L_joints.nd rfl rfl (by decide) rfl rfl (pa_cons (eCall (ok_L_take T) (hr.mono (by decide)) passL (by rfl) (pa_cons (pv 0) (pa_cons pe_int pa_nil))) (pa_cons (pe_lst pa_nil) pa_nil)) (by rfl)) (pss_cons (ps_for (passes_of rfl) rfl (pi_range1 (by rfl) T.f_range (pa_cons (pe_op op_mul (pv 2) (pe_callTy call_int1 (by rfl) T.f_int (by decide +kernel) (pa_cons (pe_cmpR op_gt (pv 1) pe_int (nomark _)) pa_nil))) pa_nil)) (pg_name (i := 5) sc_L_joints.nd rfl (Or.inl rfl)) (pss_cons (ps_set (i := 6) sc_L_joints.nd rfl (Or.inl rfl) (eCall (ok_L_take T) (hr.mono (by decide)) passL (by rfl) (pa_cons (pv 0) (pa_cons (pv 1) pa_nil)))) (pss_cons (ps_set (i := 7) sc_L_joints.nd rfl (Or.inl rfl) (pe_op op_modN (pe_op op_add (pe_op op_add (pv 6) pe_int) (eCall (ok_L_take T) (hr.mono (by decide)) passL (by rfl) (pa_cons (pv 0) (pa_cons (pe_op op_sub (pv 1) pe_int) pa_nil)))) (pv 1))) (C8.pss_cut (ps_if (PW.pt (pw_and (pt_cmpR op_eq (pv 3) pe_int (nomark _)) (pw_and1 (pt_cmpR op_lt (pv 5) (pe_op op_sub (pv 1) (pe_callTy call_int1 (by rfl) T.f_int (by decide +kernel) (pa_cons (pe_cmpR op_eq (eCall (ok_L_take T) (hr.mono (by decide)) passL (by rfl) (pa_cons (pv 0) (pa_cons pe_int pa_nil))) pe_int (nomark _)) pa_nil))) (nomark _))))) (pss_one (ps_par (i := 6) (j := 7) (by rfl) sc_L_joints.nd rfl rfl (by decide) rfl rfl (pa_cons (pv 5) (pa_cons (pe_op op_modN (pe_op op_add (pv 5) pe_int) (pv 1)) pa_nil)) (by rfl))) pss_nil) (pss_cons (ps_set (i := 8) sc_L_joints.nd rfl (Or.inl rfl) (pe_op op_fdivN (pe_op op_add (pv 1) pe_int) pe_int)) (pss_one (ps_if (PW.pt (pw_or (pt_cmpR op_lt (pv 3) pe_int (nomark _)) (pw_or (pt_cmpR op_lt (pv 1) pe_int (nomark _)) (pw_or1 (pt_cmpR op_eq (pe_cmpR op_lt (pv 6) (pv 8) (nomark _)) (pe_cmpR op_lt (pv 7) (pv 8) (nomark _)) (nomark _)))))) (pss_one (ps_expr (pe_bm PySem.F.plainAttrs_list PySem.F.slot_list_append PySem.F.type_list_append mt_append (pv 4) (pa_cons (pe_tup (pa_cons (pv 6) (pa_cons (pv 7) pa_nil))) pa_nil)))) pss_nil))))))) (pss_one (ps_ret (pv 4))))), ?_⟩⟩
  obtain ⟨f, n, b, rfl, hF, n1, n2, b2, q⟩ := h
  refine ⟨_, rfl, f, 4, rfl, hF, by decide, by decide, fun H1 fo c1 hF1 fo0 fo4 => ?_⟩
  refine ⟨by show 0 ≤ sizeLine; decide, fun D hD => ⟨_, _, rfl, ?_⟩⟩
  obtain ⟨g1, g2, g3, hg⟩ := id hF1
  have Df : D ≠ f := fun z => by rw [z, hg] at hD; cases hD
  have hF2 := hF1.same (same_upd (o := .lst []) hD)
  have val : ∃ k : Nat, (b : Int) * (if decide ((1 : Int) < (n : Int)) = true then (1 : Int) else 0) = (k : Int) ∧ k ≤ b ∧ (0 < k → 1 < n) := by
    by_cases e : (1 : Int) < (n : Int)
    · rw [decide_eq_true e, if_pos rfl]
      exact ⟨b, by omega, by omega, by omega⟩
    · rw [decide_eq_false e, if_neg (by decide)]
      exact ⟨0, by omega, by omega, by omega⟩
  obtain ⟨k, hk, kb, kn⟩ := val
  refine ⟨_, rfl, _, rfl, _, _, rfl, rfl, .inr ⟨_, rfl, _, _, rfl, rfl, .inl ⟨by omega, by omega⟩, ?_⟩⟩
  refine ⟨(k : Int), congrArg (fun z => [V.int z]) hk, by omega, by omega, ?_⟩
  refine for_range (fun i σ H' => (∃ o5 o6 o7 o8, σ = [some (.ref f), some (.int n), some (.int b), some (.int fo), some (.ref D), o5, o6, o7, o8]) ∧ Ch K (fun b => b = f ∨ b = D) H H' ∧ FeedAt H' f ∧ ∃ as js, H' D = some (.lst (as.map V.ref)) ∧ JsAt H' as js ∧ js.length ≤ i ∧ ∀ j ∈ js, j.1 < n ∧ j.2 < n ∧ j.1 ≠ j.2)
    ⟨⟨_, _, _, _, rfl⟩, (c1.mono fun b z => .inl z).trans (ch_new hD), hF2, [], [], upd_same, .nil, Nat.le_refl _, fun j h => by cases h⟩ (fun i σ H' hi p => ?_) fun σ H' p => ?_
  · obtain ⟨⟨o5, o6, o7, o8, rfl⟩, c, hF, as, js, hD2, hjs, jl, jn⟩ := p
    have ik : i < k := by simpa using hi
    have n2' : 1 < n := kn (by omega)
    refine ⟨_, rfl, _, rfl, f, n, rfl, hF, by omega, by omega, fun H2 at_ c2 hF2 a0 a1 => ?_⟩
    refine ⟨_, rfl, _, _, rfl, rfl, _, rfl, _, rfl, _, _, rfl, rfl, f, (n : Int) - 1, rfl, hF2, by omega, by omega, fun H3 r c3 hF3 r0 r1 => ?_⟩
    refine ⟨_, _, rfl, rfl, _, rfl, _, (n : Int), rfl, rfl, (show (n : Int) ≠ 0 by omega), ?_⟩
    have c4 := c.trans ((c2.trans c3).mono fun b z => .inl z)
    have hD4 : H3 D = some (.lst (as.map V.ref)) := (c2.trans c3).at hD2 Df
    have js4 : JsAt H3 as js := Paired.mapP hjs fun _ _ q => (c2.trans c3).im.tup q
    have to0 : 0 ≤ (at_ + 1 + r).fmod n ∧ (at_ + 1 + r).fmod n < n := by
      rw [Int.fmod_eq_emod_of_nonneg _ (by omega)]
      exact ⟨Int.emod_nonneg _ (by omega), Int.emod_lt_of_pos _ (by omega)⟩
    have tne : at_ ≠ (at_ + 1 + r).fmod n := by
      rw [Int.fmod_eq_emod_of_nonneg _ (by omega)]
      by_cases e : at_ + 1 + r < n
      · rw [Int.emod_eq_of_lt (by omega) e]
        omega
      · have e2 : (at_ + 1 + r) % (n : Int) = at_ + 1 + r - n := by
          rw [← Int.sub_emod_right, Int.emod_eq_of_lt (by omega) (by omega)]
        omega
    refine ⟨fun σ H' => (∃ (x y : Int) (o5 o8 : Option V), 0 ≤ x ∧ x < n ∧ 0 ≤ y ∧ y < n ∧ x ≠ y ∧ σ = [some (.ref f), some (.int n), some (.int b), some (.int fo), some (.ref D), o5, some (.int x), some (.int y), o8]) ∧ Ch K (fun b => b = f ∨ b = D) H H' ∧ FeedAt H' f ∧ H' D = some (.lst (as.map V.ref)) ∧ JsAt H' as js, ?_, ?_⟩
    · skip
      refine ⟨_, rfl, rfl, _, rfl, iteB (fun e0 => ?_) fun e0 => ⟨⟨at_, _, _, _, a0, a1, to0.1, to0.2, tne, rfl⟩, c4, hF3, hD4, js4⟩⟩
      refine ⟨_, rfl, _, rfl, _, rfl, f, 2, rfl, hF3, by decide, by decide, fun H4 r' c5 hF4 _ _ => ⟨rfl, .inr ⟨_, rfl, _, _, rfl, rfl, _, _, rfl, rfl, _, rfl, iteB (fun e1 => ?_) fun e1 => ?_⟩⟩⟩
      · have ik2 : (i : Int) < n := by
          have := of_decide_eq_true e1
          revert this
          split <;> omega
        have w0 : 0 ≤ (0 + (i : Int) + 1).fmod n ∧ (0 + (i : Int) + 1).fmod n < n := by
          rw [Int.fmod_eq_emod_of_nonneg _ (by omega)]
          exact ⟨Int.emod_nonneg _ (by omega), Int.emod_lt_of_pos _ (by omega)⟩
        have wne : 0 + (i : Int) ≠ (0 + (i : Int) + 1).fmod n := by
          rw [Int.fmod_eq_emod_of_nonneg _ (by omega)]
          by_cases e : 0 + (i : Int) + 1 < n
          · rw [Int.emod_eq_of_lt (by omega) e]
            omega
          · rw [show 0 + (i : Int) + 1 = n by omega, Int.emod_self]
            omega
        refine ⟨_, rfl, _, rfl, _, _, rfl, rfl, _, rfl, _, (n : Int), rfl, rfl, (show (n : Int) ≠ 0 by omega), _, _, rfl, ⟨_, _, _, _, by omega, by omega, w0.1, w0.2, wne, rfl⟩, c4.trans (c5.mono fun b z => .inl z), hF4, c5.at hD4 Df, Paired.mapP js4 fun _ _ q => c5.im.tup q⟩
      · exact ⟨⟨at_, _, _, _, a0, a1, to0.1, to0.2, tne, rfl⟩, c4.trans (c5.mono fun b z => .inl z), hF4, c5.at hD4 Df, Paired.mapP js4 fun _ _ q => c5.im.tup q⟩
    · rintro σ' H4 ⟨⟨x, y, o5', o8', x0, hx, y0, hy, hxy, rfl⟩, c, hF, hD4, js4⟩
      obtain ⟨x, rfl⟩ := Int.eq_ofNat_of_zero_le x0
      obtain ⟨y, rfl⟩ := Int.eq_ofNat_of_zero_le y0
      refine ⟨_, rfl, _, _, rfl, rfl, _, 2, rfl, rfl, ⟨by decide, by decide⟩, _, rfl, _, _, rfl, rfl, _, rfl, iteB (fun e => ?_) fun e => ⟨_, rfl, _, _, rfl, rfl, _, rfl, iteB (fun e => ?_) fun e => ⟨_, rfl, _, rfl, _, _, rfl, rfl, _, rfl, _, rfl, _, _, rfl, rfl, rfl, _, rfl, iteB (fun e => ?_) fun e => ⟨⟨_, _, _, _, rfl⟩, c, hF, as, js, hD4, js4, by omega, jn⟩⟩⟩⟩
      all_goals
        refine ⟨_, rfl, .inl ⟨rfl, _, SqL.of hD4⟩, _, rfl, _, rfl, (by show 2 ≤ sizeLine; decide), fun t ht => ?_⟩
        have s1 := same_upd (o := .tup [.int x, .int y]) ht
        have hD5 := s1 _ _ hD4
        have tD : t ≠ D := fun z => by rw [z, hD4] at ht; cases ht
        have al : as.length = js.length := paired_len js4
        refine ⟨D, _, _, rfl, rfl, hD5, (by rw [List.length_map]; have : (1000000 : Nat) < sizeLine := by decide
                                            omega), ⟨_, _, _, _, rfl⟩, ?_, ?_, as ++ [t], js ++ [(x, y)], ?_, ?_, ?_, ?_⟩
        · exact (c.trans (Same.ch s1)).trans (ch_upd hD5 (fun z => z) (.inr rfl))
        · exact (hF.same s1).at (ch_upd (K := K) (S := fun b => b = D) hD5 (fun z => z) rfl) (Ne.symm Df)
        · rw [upd_same, List.map_append]
          rfl
        · refine paired_app (Paired.mapP js4 fun _ _ q => ?_) (.cons ?_ .nil)
          · rw [upd_ne (ne_of (s1 _ _ q) hD5 (by intro z; cases z))]
            exact s1 _ _ q
          · show upd _ _ _ t = _
            rw [upd_ne tD, upd_same]
        · rw [List.length_append]
          exact Nat.succ_le_succ jl
        · intro j hj
          rcases List.mem_append.mp hj with h | h
          · exact jn j h
          · rw [List.mem_singleton.mp h]
            exact ⟨by omega, by omega, fun z => hxy (congrArg _ z)⟩
  · obtain ⟨⟨o5, o6, o7, o8, rfl⟩, c, hF, as, js, hD2, hjs, jl, jn⟩ := p
    have jl2 : js.length ≤ k := by simpa using jl
    exact ⟨_, rfl, q _ D as js (c.fresh fun b hb => by rcases hb with h | h; exact .inl h; exact .inr (h ▸ c1.back hD Df)) hF (c1.back hD Df) hD2 hjs (by omega) jn⟩
end
end Wy
set_option Elab.async false
set_option linter.all false
set_option maxRecDepth 100000
set_option maxHeartbeats 0
namespace Wy
open PySem PySem.Spec PyProof.Rows L2 StX
def nameC : List Nat → Bool
  | [] => false
  | c :: r => decide ((c :: r).length ≤ 6) && (letB c && (c :: r).all fun d => letB d || digB d)
theorem nameB_C (z : Str) : nameB z = nameC (TL.tl z) := rfl
theorem let_of {c : Nat} (h : 97 ≤ c) (h2 : c < 123) : letB c = true := (by decide +kernel : ∀ c : Nat, c < 123 → 97 ≤ c → letB c = true) c h2 h
theorem dig_of {c : Nat} (h : 48 ≤ c) (h2 : c ≤ 57) : digB c = true := (by decide +kernel : ∀ c : Nat, c < 58 → 48 ≤ c → digB c = true) c (by omega) h
theorem nameC_of {c : Nat} {r : List Nat} (h : letB c = true) (hl : (c :: r).length ≤ 6) (hr : ∀ d ∈ r, (letB d || digB d) = true) : nameC (c :: r) = true := by
  show (decide ((c :: r).length ≤ 6) && (letB c && (c :: r).all fun d => letB d || digB d)) = true
  rw [decide_eq_true hl, h, Bool.true_and, Bool.true_and, List.all_eq_true]
  intro d hd
  rcases List.mem_cons.mp hd with rfl | hd
  · rw [h]
    rfl
  · exact hr d hd
theorem Good.sub {xs ys : List Str} (h : Good xs) (s : ys.Sublist xs) : Good ys := ⟨fun z hz => h.1 z (s.subset hz), h.2.sublist s⟩
theorem Good.take {xs : List Str} (h : Good xs) (n : Nat) : Good (xs.take n) := h.sub (List.take_sublist _ _)
theorem Good.perm {xs ys : List Str} (h : Good xs) (p : ys.Perm xs) : Good ys := ⟨fun z hz => h.1 z (p.subset hz), p.nodup_iff.mpr h.2⟩
/-- the words of codes -/
def wd (l : List Nat) : Str := ⟨l.toArray⟩
theorem wd_inj {a b : List Nat} (h : wd a = wd b) : a = b := congrArg TL.tl h
theorem wd_tl (z : Str) : wd (TL.tl z) = z := TL.mk_tl z
theorem wd_app (a b : List Nat) : wd a ++ wd b = wd (a ++ b) := TL.ext_tl (TL.tl_append _ _)
theorem good_wd {l : List (List Nat)} (h : ∀ z ∈ l, nameC z = true) (n : l.Nodup) : Good (l.map wd) := by
  refine ⟨fun z hz => ?_, ?_⟩
  · obtain ⟨a, ha, rfl⟩ := List.mem_map.mp hz
    exact h a ha
  · exact List.Pairwise.map _ (fun a b ne e => ne (wd_inj e)) n

def KN : Str := "posts tie cut change undo closes span if core flat table show no yes k0 k1 p0 p1 a0 a1 t0 t1"
def knC : List (List Nat) := ((Txt.split KN " ") ++ (Txt.split KN " ")).map TL.tl
theorem kn_ok : ∀ st : Nat, st < 22 → ((knC.drop st).take 12).length = 12 ∧ ((knC.drop st).take 12).all nameC = true ∧ ((knC.drop st).take 12).Nodup := by decide +kernel
theorem kn_good {st m : Nat} (h : st < 22) (hm : m ≤ 12) : Good ((((Txt.split KN " ") ++ (Txt.split KN " ")).drop st).take m) ∧ ((((Txt.split KN " ") ++ (Txt.split KN " ")).drop st).take m).length = m := by
  obtain ⟨h1, h2, h3⟩ := kn_ok st h
  have e : ((knC.drop st).take 12).map wd = (((Txt.split KN " ") ++ (Txt.split KN " ")).drop st).take 12 := by
    unfold knC
    rw [← List.map_drop, ← List.map_take, List.map_map]
    exact (List.map_congr_left fun z _ => wd_tl z).trans (List.map_id _)
  have g : Good ((((Txt.split KN " ") ++ (Txt.split KN " ")).drop st).take 12) := by
    rw [← e]
    exact good_wd (List.all_eq_true.mp h2) h3
  have t : ((((Txt.split KN " ") ++ (Txt.split KN " ")).drop st).take 12).take m = (((Txt.split KN " ") ++ (Txt.split KN " ")).drop st).take m := by rw [List.take_take, Nat.min_eq_left hm]
  refine ⟨t ▸ g.take m, ?_⟩
  have l12 := congrArg List.length e
  rw [List.length_map, h1] at l12
  have := congrArg List.length t
  rw [List.length_take, ← l12, Nat.min_eq_left hm] at this
  exact this.symm

def TT : List (List Nat) := [[], [0], [1], [0, 0], [0, 1], [1, 0], [1, 1], [0, 0, 0], [0, 0, 1], [0, 1, 0], [0, 1, 1], [1, 0, 0], [1, 0, 1], [1, 1, 0], [1, 1, 1], [0, 0, 0, 0], [0, 0, 0, 1], [0, 0, 1, 0], [0, 0, 1, 1], [0, 1, 0, 0], [0, 1, 0, 1], [0, 1, 1, 0], [0, 1, 1, 1], [1, 0, 0, 0], [1, 0, 0, 1], [1, 0, 1, 0], [1, 0, 1, 1], [1, 1, 0, 0], [1, 1, 0, 1], [1, 1, 1, 0], [1, 1, 1, 1]]
def tw (a k : Nat) : Str := wd ((TT.getD k []).map fun d => 97 + a + d)
def tws (a n : Nat) : List Str := (List.range n).map (tw a)
theorem TT_step : ∀ k : Nat, k < 30 → TT.getD (k + 1) [] = TT.getD (k / 2) [] ++ [k % 2] := by decide +kernel
theorem TT_ok : ((List.range 31).drop 1).all (fun k => decide (1 ≤ (TT.getD k []).length ∧ (TT.getD k []).length ≤ 6) && (TT.getD k []).all fun d => decide (d < 2)) = true := by decide +kernel
theorem TT_nd : ((List.range 31).map fun k => TT.getD k []).Nodup := by decide +kernel
theorem tws_step (a k : Nat) : tws a (k + 1) = tws a k ++ [tw a k] := by
  unfold tws
  rw [List.range_succ, List.map_append]
  rfl
theorem tws_len (a k : Nat) : (tws a k).length = k := by unfold tws; rw [List.length_map, List.length_range]
theorem tws_get {a k j : Nat} (h : j < k) : (tws a k)[j]? = some (tw a j) := by
  unfold tws
  rw [List.getElem?_map, List.getElem?_range h]
  rfl
theorem tw_step {a k : Nat} (h : k < 30) : tw a (k / 2) ++ wd [97 + (a + k % 2)] = tw a (k + 1) := by
  unfold tw
  rw [TT_step k h, wd_app, List.map_append]
  show wd (_ ++ [97 + (a + k % 2)]) = wd (_ ++ [97 + a + k % 2])
  rw [Nat.add_assoc]
theorem map_inj_ {α β : Type} {f : α → β} (hf : ∀ a b, f a = f b → a = b) : ∀ {l l' : List α}, l.map f = l'.map f → l = l'
  | [], [], _ => rfl
  | [], _ :: _, h => by simp at h
  | _ :: _, [], h => by simp at h
  | a :: l, b :: l', h => by
    have h1 := List.head_eq_of_cons_eq h
    have h2 := List.tail_eq_of_cons_eq h
    rw [hf a b h1, map_inj_ hf h2]
theorem tws_good {a : Nat} (h : a < 25) : Good ((tws a 31).drop 1) := by
  have e : (tws a 31).drop 1 = (((List.range 31).drop 1).map fun k => (TT.getD k []).map fun d => 97 + a + d).map wd := by
    unfold tws
    rw [List.map_map, ← List.map_drop]
    rfl
  rw [e]
  refine good_wd (fun z hz => ?_) ?_
  · obtain ⟨k, hk, rfl⟩ := List.mem_map.mp hz
    have := List.all_eq_true.mp TT_ok k hk
    rw [Bool.and_eq_true] at this
    obtain ⟨p1, p2⟩ := this
    have p1 := of_decide_eq_true p1
    revert p1 p2
    cases TT.getD k [] with
    | nil => intro p2 p1; exact absurd p1.1 (by decide)
    | cons c r =>
      intro p2 p1
      have q : ∀ d ∈ c :: r, letB (97 + a + d) = true := fun d hd => by
        have := of_decide_eq_true (List.all_eq_true.mp p2 d hd)
        exact let_of (by omega) (by omega)
      refine nameC_of (q c (List.mem_cons_self ..)) ?_ fun d hd => ?_
      · show ((c :: r).map fun d => 97 + a + d).length ≤ 6
        rw [List.length_map]
        exact p1.2
      · obtain ⟨d', hd', rfl⟩ := List.mem_map.mp hd
        rw [q d' (List.mem_cons_of_mem _ hd')]
        rfl
  · rw [show (((List.range 31).drop 1).map fun k => (TT.getD k []).map fun d => 97 + a + d) = (((List.range 31).map fun k => TT.getD k []).drop 1).map fun l => l.map fun d => 97 + a + d by rw [← List.map_drop, List.map_map]; rfl]
    exact List.Pairwise.map _ (fun a b ne e => ne (map_inj_ (fun x y h => by omega) e)) (TT_nd.sublist (List.drop_sublist 1 _))

theorem good_num {b c m : Nat} (hb : b < 121) (hc : c < 26) (hm : m ≤ 12) : Good ((List.range m).map fun k => wd [97 + c] ++ num ((b + 9 * k) % 121)) := by
  have e : ((List.range m).map fun k => wd [97 + c] ++ num ((b + 9 * k) % 121)) = ((List.range m).map fun k => (97 + c) :: TL.numL ((b + 9 * k) % 121)).map wd := by
    rw [List.map_map]
    refine List.map_congr_left fun k _ => ?_
    refine TL.ext_tl ?_
    rw [TL.tl_append]
    unfold num
    rw [TL.tl_num]
    rfl
  rw [e]
  refine good_wd (fun z hz => ?_) ?_
  · obtain ⟨k, hk, rfl⟩ := List.mem_map.mp hz
    refine nameC_of (let_of (by omega) (by omega)) ?_ fun d hd => ?_
    · have : (TL.numL ((b + 9 * k) % 121)).length ≤ 3 := TL.numL_len (by decide) (by show _ < 1000; omega)
      rw [List.length_cons]
      omega
    · obtain ⟨h1, h2⟩ := TL.numL_digits _ d hd
      rw [dig_of h1 h2, Bool.or_true]
  · refine List.pairwise_map.mpr ?_
    refine List.Pairwise.imp_of_mem ?_ (List.nodup_range (n := m))
    intro i j hi hj ne e
    have hi := List.mem_range.mp hi
    have hj := List.mem_range.mp hj
    have := TL.numL_inj (List.tail_eq_of_cons_eq e)
    exact ne (by omega)

def stw (stem : List Nat) (at_ st lg k : Nat) : List Nat := ((stem.take at_ ++ [97 + (st + 7 * k) % 26]) ++ stem.drop at_) ++ (if k % 2 * lg = 1 then [97 + (st + 7 * k) % 26] else [])
def StemOk : List Nat → Prop
  | [] => True
  | c :: r => letB c = true ∧ ∀ d ∈ r, (letB d || digB d) = true
theorem good_stem {stem : List Nat} {at_ st lg m : Nat} (hs : StemOk stem) (ha : at_ ≤ stem.length) (hl : stem.length ≤ 4 ∨ stem.length = 5 ∧ lg = 0) (h26 : st < 26) (hm : m ≤ 12) : Good (((List.range m).map (stw stem at_ st lg)).map wd) := by
  have sg : ∀ k, letB (97 + (st + 7 * k) % 26) = true := fun k => let_of (by omega) (by omega)
  have al : ∀ d ∈ stem, (letB d || digB d) = true := by
    cases stem with
    | nil => intro d hd; cases hd
    | cons c r =>
      intro d hd
      rcases List.mem_cons.mp hd with rfl | hd
      · rw [hs.1]; rfl
      · exact hs.2 d hd
  refine good_wd (fun z hz => ?_) ?_
  · obtain ⟨k, hk, rfl⟩ := List.mem_map.mp hz
    have ln : (stw stem at_ st lg k).length ≤ 6 := by
      unfold stw
      rw [List.length_append, List.length_append, List.length_append, List.length_take, List.length_drop]
      rcases hl with h | ⟨h, rfl⟩
      · split <;> simp <;> omega
      · rw [if_neg (by omega)]
        simp
        omega
    have all : ∀ d ∈ stw stem at_ st lg k, (letB d || digB d) = true := by
      intro d hd
      unfold stw at hd
      rw [List.mem_append, List.mem_append, List.mem_append] at hd
      rcases hd with ((h | h) | h) | h
      · exact al d (List.mem_of_mem_take h)
      · rw [List.mem_singleton.mp h, sg]; rfl
      · exact al d (List.mem_of_mem_drop h)
      · split at h
        · rw [List.mem_singleton.mp h, sg]; rfl
        · cases h
    have hd : ∃ c r, stw stem at_ st lg k = c :: r ∧ letB c = true := by
      unfold stw
      cases at_ with
      | zero => exact ⟨_, _, rfl, sg k⟩
      | succ n =>
        cases stem with
        | nil => exact absurd ha (by simp)
        | cons c r => exact ⟨c, _, rfl, hs.1⟩
    obtain ⟨c, r, e, hc⟩ := hd
    rw [e] at ln all ⊢
    exact nameC_of hc ln fun d hd => all d (List.mem_cons_of_mem _ hd)
  · refine List.pairwise_map.mpr ?_
    refine List.Pairwise.imp_of_mem ?_ (List.nodup_range (n := m))
    intro i j hi hj ne e
    have hi := List.mem_range.mp hi
    have hj := List.mem_range.mp hj
    have g : ∀ k, (stw stem at_ st lg k)[at_]? = some (97 + (st + 7 * k) % 26) := fun k => by
      unfold stw
      have lt : (stem.take at_).length = at_ := by rw [List.length_take, Nat.min_eq_left ha]
      rw [List.append_assoc, List.append_assoc, List.getElem?_append_right (by omega), lt, Nat.sub_self]
      rfl
    have := congrArg (fun l => l[at_]?) e
    simp only [g] at this
    have := Option.some.inj this
    exact ne (by omega)
end Wy
set_option Elab.async false
set_option linter.all false
set_option maxRecDepth 100000
set_option maxHeartbeats 0
namespace Wy
open PySem PySem.Spec PyProof.Rows L2 StX
theorem FeedAt.nn {H : Hp} {f D : Addr} (h : FeedAt H f) (e : H D = none) : ¬ D = f := fun z => by
  obtain ⟨_, _, _, h⟩ := h
  rw [z, h] at e
  cases e
theorem cutV_mid (xs : List V) (a m : Nat) (h : a + m ≤ xs.length) : cutV xs (some (a : Int)) (some ((a : Int) + (m : Int))) = (xs.drop a).take m := by
  unfold cutV
  rw [show (a : Int) + (m : Int) = ((a + m : Nat) : Int) from by omega, HT.sIx_nat, HT.sIx_nat, Nat.min_eq_left h, Nat.min_eq_left (by omega)]
  congr 1
  omega
theorem emp_wd : (Str.ofString "" : Str) = wd [] := by decide +kernel
theorem tws1 (a : Nat) : [V.str (Str.ofString "")] = (tws a (0 + 1)).map V.str := by
  rw [emp_wd]
  rfl
theorem let_at : ∀ j : Nat, j < 26 → LET.cps.toList[j]? = some (97 + j) := by decide +kernel
theorem LET_len : LET.length ≤ sizeLine := by decide +kernel
theorem tw_len {a : Nat} : ∀ {k : Nat}, k < 31 → (tw a k).length ≤ 6 := by
  intro k hk
  have t := (by decide +kernel : ∀ k : Nat, k < 31 → (TT.getD k []).length ≤ 6) k hk
  unfold tw
  show ((TT.getD k []).map _).toArray.size ≤ 6
  rw [List.size_toArray, List.length_map]
  exact t
def figC (j : Nat) : Nat := if j < 26 then 97 + j else 22 + j
def FIG : Str := Str.ofString "abcdefghijklmnopqrstuvwxyz" ++ Str.ofString "0123456789"
theorem fig_at : ∀ j : Nat, j < 36 → FIG.cps.toList[j]? = some (figC j) := by decide +kernel
theorem FIG_len : FIG.length ≤ sizeLine := by decide +kernel
theorem fig_ok {j : Nat} (h : j < 36) : (letB (figC j) || digB (figC j)) = true := by
  unfold figC
  split
  · rw [let_of (by omega) (by omega)]
    rfl
  · rw [dig_of (by omega) (by omega), Bool.or_true]
theorem fig_let {j : Nat} (h : j < 26) : letB (figC j) = true := by
  unfold figC
  rw [if_pos h]
  exact let_of (by omega) (by omega)
theorem StemOk.snoc {cs : List Nat} {j : Nat} (h : StemOk cs) (h1 : j < 36) (h2 : cs = [] → j < 26) : StemOk (cs ++ [figC j]) := by
  cases cs with
  | nil => exact ⟨fig_let (h2 rfl), fun d hd => by cases hd⟩
  | cons c r => exact ⟨h.1, fun d hd => by
      rcases List.mem_append.mp hd with hd | hd
      · exact h.2 d hd
      · rw [List.mem_singleton.mp hd]
        exact fig_ok h1⟩
theorem joinL_one : ∀ cs : List Nat, TL.joinL [] (cs.map fun c => [c]) = cs
  | [] => rfl
  | [_] => rfl
  | a :: b :: r => by
    show [a] ++ ([] ++ TL.joinL [] ((b :: r).map fun c => [c])) = _
    rw [joinL_one (b :: r)]
    rfl
theorem join_wd (cs : List Nat) : Txt.join (Str.ofString "") (cs.map fun c => wd [c]) = wd cs := by
  refine TL.ext_tl ?_
  rw [TL.join_eq, TL.tl_join, emp_wd, List.map_map]
  exact joinL_one cs
theorem cutS_to (l : List Nat) (n : Nat) (h : n ≤ l.length) : cutS (wd l) none (some (n : Int)) = wd (l.take n) := by
  unfold cutS
  rw [HT.sIx_none, HT.sIx_nat]
  show wd (((l.drop 0).take (min n (wd l).length - 0))) = _
  rw [show (wd l).length = l.length from rfl, Nat.min_eq_left h]
  rfl
theorem cutS_from (l : List Nat) (n : Nat) (h : n ≤ l.length) : cutS (wd l) (some (n : Int)) none = wd (l.drop n) := by
  unfold cutS
  rw [HT.sIx_none, HT.sIx_nat]
  show wd (((l.drop (min n (wd l).length)).take ((wd l).length - min n (wd l).length))) = _
  rw [show (wd l).length = l.length from rfl, Nat.min_eq_left h]
  exact congrArg wd (List.take_of_length_le (by rw [List.length_drop]; exact Nat.le_refl _))
theorem rep2 {α : Type} (xs : List α) : (List.replicate (2 : Int).toNat xs).flatten = xs ++ xs := by
  show xs ++ (xs ++ []) = _
  rw [List.append_nil]
section
variable {P : Program} {w : World} {K : PySem.W.Frag} {mg : Str → Option Value} {base : Heap}
theorem sc_L_words : FnScope ["_law_feed_here", "_law_many", "_law_letters", "_law_form", "_law_known", "_law_start", "_law_at", "_law_found", "_law_k", "_law_begin", "_law_sign", "_law_figures", "_law_signs", "_law_stem", "_law_longer", "_law_more"] ["_law_feed_here", "_law_many"] (defScope s_L_words) := ⟨rfl, rfl, rfl, by decide +kernel, rfl, by decide +kernel, by decide +kernel⟩
def sp_L_words (K : PySem.W.Frag) : Sp := fun vs H Q _ => ∃ (f : Addr) (m : Nat), vs = [.ref f, .int m] ∧ FeedAt H f ∧ 1 ≤ m ∧ m ≤ 12 ∧ ∀ H' D xs, Ch K (fun b => b = f) H H' → FeedAt H' f → H D = none → StrsAt H' D xs → xs.length = m → Good xs → Q (.ref D) H'
theorem ok_L_words (T : W0 P w K mg) : GFn P w K mg base 3 "_law_words" (sp_L_words K) := by
  obtain ⟨fd, F⟩ := T.d_L_words
  refine ⟨T.g_L_words, F.kp, F.fr sc_L_words (fun _ _ _ _ _ _ us hl => match us, hl with | [_, _], _ => rfl) (fun vs H Q E h => by first | (obtain ⟨rfl, _⟩ := h; rfl) | (obtain ⟨_, rfl, _⟩ := h; rfl) | (obtain ⟨_, _, rfl, _⟩ := h; rfl) | (obtain ⟨_, _, _, rfl, _⟩ := h; rfl) | (obtain ⟨_, _, _, _, rfl, _⟩ := h; rfl) | (obtain ⟨_, _, _, _, _, rfl, _⟩ := h; rfl) | (obtain ⟨_, _, _, _, _, _, rfl, _⟩ := h; rfl) | (obtain ⟨_, _, _, _, _, _, _, rfl, _⟩ := h; rfl) | (obtain ⟨_, _, _, _, _, _, _, _, rfl, _⟩ := h; rfl) | (obtain ⟨_, _, _, _, _, _, _, _, _, rfl, _⟩ := h; rfl)) fun cdv A outer s H vs Q E hr h => ⟨_, (pss_cons (ps_par (i := 2) (j := 3) (by rfl) sc_L_words.nd rfl rfl (by decide) rfl rfl (pa_cons pe_str (pa_cons (eCall (ok_L_take T) (hr.mono (by decide)) passL (by rfl) (pa_cons (pv 0) (pa_cons pe_int pa_nil))) pa_nil)) (by rfl)) (pss_cons (ps_if (pt_cmpR op_eq (pv 3) pe_int (nomark _)) (pss_cons (ps_set (i := 4) sc_L_words.nd rfl (Or.inl rfl) pe_str) (pss_cons (ps_set (i := 5) sc_L_words.nd rfl (Or.inl rfl) (eCall (ok_L_take T) (hr.mono (by decide)) passL (by rfl) (pa_cons (pv 0) (pa_cons pe_int pa_nil)))) (pss_one (ps_ret (eCall (ok_L_mixed T) (hr.mono (by decide)) passL (by rfl) (pa_cons (pv 0) (pa_cons (pe_slice sl_list (pe_op op_rep (pe_split (pv 4) pe_str) pe_int) (po_some (pv 5)) (po_some (pe_op op_add (pv 5) (pv 1)))) pa_nil))))))) pss_nil) (pss_cons (ps_if (pt_cmpR op_eq (pv 3) pe_int (nomark _)) (pss_cons (ps_par (i := 6) (j := 7) (by rfl) sc_L_words.nd rfl rfl (by decide) rfl rfl (pa_cons (eCall (ok_L_take T) (hr.mono (by decide)) passL (by rfl) (pa_cons (pv 0) (pa_cons pe_int pa_nil))) (pa_cons (pe_lst (pa_cons pe_str pa_nil)) pa_nil)) (by rfl)) (pss_cons (ps_for (passes_of rfl) rfl (pi_range1 (by rfl) T.f_range (pa_cons pe_int pa_nil)) (pg_name (i := 8) sc_L_words.nd rfl (Or.inl rfl)) (pss_one (ps_expr (pe_bm PySem.F.plainAttrs_list PySem.F.slot_list_append PySem.F.type_list_append mt_append (pv 7) (pa_cons (pe_op op_add_str (pe_ix (kIxL (K := K) rfl) (pv 7) (pe_op op_fdivN (pv 8) pe_int) (fun _ _ => rfl)) (pe_ix ix_str (pv 2) (pe_op op_add (pv 6) (pe_op op_modN (pv 8) pe_int)) (fun _ _ => rfl))) pa_nil))))) (pss_one (ps_ret (pe_slice sl_list (eCall (ok_L_mixed T) (hr.mono (by decide)) passL (by rfl) (pa_cons (pv 0) (pa_cons (pe_slice sl_list (pv 7) (po_some pe_int) po_none) pa_nil))) po_none (po_some (pv 1))))))) pss_nil) (pss_cons (ps_if (pt_cmpR op_eq (pv 3) pe_int (nomark _)) (pss_cons (ps_asg (pe_tup (pa_cons (eCall (ok_L_take T) (hr.mono (by decide)) passL (by rfl) (pa_cons (pv 0) (pa_cons pe_int pa_nil))) (pa_cons (pe_ix ix_str (pv 2) (eCall (ok_L_take T) (hr.mono (by decide)) passL (by rfl) (pa_cons (pv 0) (pa_cons pe_int pa_nil))) (fun _ _ => rfl)) pa_nil))) (kTupG (K := K) (n := 2) rfl rfl (pgs_cons (pg_name (i := 9) sc_L_words.nd rfl (Or.inr rfl)) (pgs_cons (pg_name (i := 10) sc_L_words.nd rfl (Or.inr rfl)) pgs_nil)))) (pss_one (ps_ret (pe_lc (own := [("_law_k", 8)]) (by rfl) sc_L_words.nd (pi_range1 (by rfl) T.f_range (pa_cons (pv 1) pa_nil)) (blkOk_by (own := [("_law_k", 8)]) (N := ["_law_feed_here", "_law_many", "_law_letters", "_law_form", "_law_known", "_law_start", "_law_at", "_law_found", "_law_k", "_law_begin", "_law_sign", "_law_figures", "_law_signs", "_law_stem", "_law_longer", "_law_more"]) (sc := defScope s_L_words) (by decide +kernel)) (fun _ _ _ _ _ => (pg_name (i := 8) sc_L_words.nd rfl (Or.inl rfl))) (fun _ _ _ _ _ => pts_nil) (fun _ _ _ _ _ => (pe_op op_add_str (pv 10) (pe_callTy call_str_int (by rfl) T.f_str (by decide +kernel) (pa_cons (pe_op op_modN (pe_op op_add (pv 9) (pe_op op_mul pe_int (pv 8))) pe_int) pa_nil)))))))) pss_nil) (pss_cons (ps_set (i := 11) sc_L_words.nd rfl (Or.inr rfl) (pe_op op_add_str (pv 2) pe_str)) (pss_cons (ps_set (i := 12) sc_L_words.nd rfl (Or.inl rfl) (pe_ix (kIxL (K := K) rfl) (pe_lst (pa_cons (eCall (ok_L_take T) (hr.mono (by decide)) passL (by rfl) (pa_cons (pv 0) (pa_cons pe_int pa_nil))) (pa_cons pe_int pa_nil))) (pe_callTy call_int1 (by rfl) T.f_int (by decide +kernel) (pa_cons (pe_cmpR op_eq (pv 3) pe_int (nomark _)) pa_nil)) (fun _ _ => rfl))) (pss_cons (ps_set (i := 13) sc_L_words.nd rfl (Or.inl rfl) (pe_join pe_str (pe_lc (own := [("_law_k", 8)]) (by rfl) sc_L_words.nd (pi_range1 (by rfl) T.f_range (pa_cons (pv 12) pa_nil)) (blkOk_by (own := [("_law_k", 8)]) (N := ["_law_feed_here", "_law_many", "_law_letters", "_law_form", "_law_known", "_law_start", "_law_at", "_law_found", "_law_k", "_law_begin", "_law_sign", "_law_figures", "_law_signs", "_law_stem", "_law_longer", "_law_more"]) (sc := defScope s_L_words) (by decide +kernel)) (fun _ _ _ _ _ => (pg_name (i := 8) sc_L_words.nd rfl (Or.inl rfl))) (fun _ _ _ _ _ => pts_nil) (fun _ _ _ _ _ => (pe_ix ix_str (pv 11) (eCall (ok_L_take T) (hr.mono (by decide)) passL (by rfl) (pa_cons (pv 0) (pa_cons (pe_op op_add pe_int (pe_op op_mul pe_int (pe_callTy call_int1 (by rfl) T.f_int (by decide +kernel) (pa_cons (pe_cmpR op_gt (pv 8) pe_int (nomark _)) pa_nil)))) pa_nil))) (fun _ _ => rfl)))))) (pss_cons (ps_par3 (i := 6) (j := 5) (l := 14) (by rfl) sc_L_words.nd rfl rfl rfl (by decide) (by decide) (by decide) rfl rfl rfl (pa_cons (eCall (ok_L_take T) (hr.mono (by decide)) passL (by rfl) (pa_cons (pv 0) (pa_cons (pe_op op_add (pe_callB call_len_str (by rfl) T.f_len PySem.boot_len (pa_cons (pv 13) pa_nil)) pe_int) pa_nil))) (pa_cons (eCall (ok_L_take T) (hr.mono (by decide)) passL (by rfl) (pa_cons (pv 0) (pa_cons pe_int pa_nil))) (pa_cons (eCall (ok_L_take T) (hr.mono (by decide)) passL (by rfl) (pa_cons (pv 0) (pa_cons pe_int pa_nil))) pa_nil))) (by rfl)) (C8.pss_cut (ps_if (pt_cmpR op_eq (pv 3) pe_int (nomark _)) (pss_one (ps_asg (pe_tup (pa_cons pe_int (pa_cons pe_int pa_nil))) (kTupG (K := K) (n := 2) rfl rfl (pgs_cons (pg_name (i := 6) sc_L_words.nd rfl (Or.inl rfl)) (pgs_cons (pg_name (i := 14) sc_L_words.nd rfl (Or.inl rfl)) pgs_nil))))) pss_nil) (pss_cons (ps_set (i := 7) sc_L_words.nd rfl (Or.inl rfl) (pe_lst pa_nil)) (pss_cons (ps_for (passes_of rfl) rfl (pi_range1 (by rfl) T.f_range (pa_cons (pv 1) pa_nil)) (pg_name (i := 8) sc_L_words.nd rfl (Or.inl rfl)) (pss_cons (ps_set (i := 10) sc_L_words.nd rfl (Or.inr rfl) (pe_ix ix_str (pv 2) (pe_op op_modN (pe_op op_add (pv 5) (pe_op op_mul pe_int (pv 8))) pe_int) (fun _ _ => rfl))) (pss_cons (ps_set (i := 15) sc_L_words.nd rfl (Or.inl rfl) (pe_op oMulS (pv 10) (pe_op op_mul (pe_op op_modN (pv 8) pe_int) (pv 14)))) (pss_one (ps_expr (pe_bm PySem.F.plainAttrs_list PySem.F.slot_list_append PySem.F.type_list_append mt_append (pv 7) (pa_cons (pe_op op_add_str (pe_op op_add_str (pe_op op_add_str (pe_slice sl_str (pv 13) po_none (po_some (pv 6))) (pv 10)) (pe_slice sl_str (pv 13) (po_some (pv 6)) po_none)) (pv 15)) pa_nil))))))) (pss_one (ps_ret (eCall (ok_L_mixed T) (hr.mono (by decide)) passL (by rfl) (pa_cons (pv 0) (pa_cons (pv 7) pa_nil)))))))))))))))), ?_⟩⟩
  obtain ⟨f, m, rfl, hF, m1, m12, q⟩ := h
  refine ⟨_, rfl, f, 6, rfl, hF, by decide, by decide, fun H1 fo c1 hF1 fo0 fo6 => ⟨_, _, rfl, _, rfl, rfl, _, rfl, iteB (fun e => ?_) fun e => ?_⟩⟩
  · refine ⟨_, rfl, f, 22, rfl, hF1, by decide, by decide, fun H2 st c2 hF2 s0 s22 => ?_⟩
    refine ⟨_, rfl, _, rfl, ⟨_, rfl⟩, _, _, rfl, rfl, by decide +kernel, by decide +kernel, fun p hp => ?_⟩
    obtain ⟨st, rfl⟩ := Int.eq_ofNat_of_zero_le s0
    obtain ⟨kg, kl⟩ := kn_good (st := st) (m := m) (by omega) m12
    have ln : (Txt.split KN " ").length = 22 := by decide +kernel
    have cm := cutV_mid ((Txt.split KN " " ++ Txt.split KN " ").map V.str) st m (by rw [List.length_map, List.length_append, ln]; omega)
    rw [← List.map_drop, ← List.map_take, List.map_append, ← rep2] at cm
    have d1 : H2 f ≠ none := by obtain ⟨_, _, _, z⟩ := hF2; rw [z]; intro z; cases z
    refine ⟨p, 2, _, rfl, rfl, upd_same, by decide, by decide, (by rw [List.length_map]; show (Txt.split KN " ").length * 2 ≤ sizeLine; rw [ln]; decide), fun l hl => ⟨_, rfl, _, rfl, _, rfl, _, rfl, _, _, rfl, rfl, _, rfl, l, _, rfl, SqL.of upd_same, fun p2 hp2 => ?_⟩⟩
    have sm := ((same_upd hp).trans (same_upd hl)).trans (same_upd (o := .lst (cutV (List.replicate (2 : Int).toNat ((Txt.split KN " ").map V.str)).flatten (some (st : Int)) (some ((st : Int) + (m : Int))))) hp2)
    refine ⟨f, p2, _, rfl, hF2.same sm, (upd_same.trans (congrArg (fun z => some (HO.lst z)) cm)), by rw [kl]; omega, fun H3 D ys c3 hF3 hD hys py => ?_⟩
    have c4 := (c1.trans c2).trans (Same.ch sm)
    exact q H3 D ys (c4.trans c3) hF3 (c4.back hD ((hF2.same sm).nn hD)) hys (py.length_eq.trans kl) (kg.perm py)
  · refine ⟨_, rfl, rfl, _, rfl, iteB (fun e => ?_) fun e => ?_⟩
    · refine ⟨_, rfl, f, 25, rfl, hF1, by decide, by decide, fun H2 a c2 hF2 a0 a25 => ⟨(by show 1 ≤ sizeLine; decide), fun D hD => ⟨_, _, rfl, _, rfl, (by decide), (by decide), ?_⟩⟩⟩
      obtain ⟨a, rfl⟩ := Int.eq_ofNat_of_zero_le a0
      refine for_range (fun i σ H' => (∃ o8, σ = [some (.ref f), some (.int m), some (.str LET), some (.int fo), none, none, some (.int a), some (.ref D), o8, none, none, none, none, none, none, none]) ∧ Ch K (fun b => b = D) H2 H' ∧ FeedAt H' f ∧ StrsAt H' D (tws a (i + 1)))
        ⟨⟨_, rfl⟩, ch_new hD, hF2.same (same_upd hD), upd_same.trans (congrArg (fun z => some (HO.lst z)) (tws1 a))⟩ (fun i σ H' hi p => ?_) fun σ H' p => ?_
      · obtain ⟨⟨o8, rfl⟩, c, hF3, hD3⟩ := p
        have i30 : i < 30 := hi
        refine ⟨_, rfl, .inl ⟨rfl, _, SqL.of hD3⟩, _, rfl, _, rfl, _, 2, rfl, rfl, ⟨by decide, by decide⟩, ?_⟩
        have fd2 : (0 + (i : Int)).fdiv 2 = ((i / 2 : Nat) : Int) := by
          rw [Int.zero_add, Int.fdiv_eq_ediv_of_nonneg _ (by decide)]
          rfl
        have fm2 : (0 + (i : Int)).fmod 2 = ((i % 2 : Nat) : Int) := by
          rw [Int.zero_add, Int.fmod_eq_emod_of_nonneg _ (by decide)]
          rfl
        have g1 : atI ((tws a (i + 1)).map V.str) ((0 + (i : Int)).fdiv 2) = some (.str (tw a (i / 2))) := by
          rw [fd2]
          exact atI_nat (by rw [List.getElem?_map, tws_get (by omega)]; rfl)
        have g2 : atI LET.cps.toList ((a : Int) + (0 + (i : Int)).fmod 2) = some (97 + (a + i % 2)) := by
          rw [fm2, show (a : Int) + ((i % 2 : Nat) : Int) = ((a + i % 2 : Nat) : Int) by omega]
          exact atI_nat (let_at _ (by omega))
        refine ⟨D, _, _, _, rfl, rfl, SqL.of hD3, g1, _, rfl, _, rfl, _, rfl, _, 2, rfl, rfl, (show (2 : Int) ≠ 0 by decide), _, _, rfl, rfl, _, _, _, rfl, rfl, LET_len, g2, _, _, rfl, rfl, ?_, D, _, _, rfl, rfl, hD3, ?_, ⟨_, rfl⟩, ?_, ?_, ?_⟩
        · have := tw_len (a := a) (k := i / 2) (by omega)
          show _ + 1 ≤ sizeLine
          have : (1000000 : Nat) < sizeLine := by decide
          omega
        · rw [List.length_map, tws_len]
          have : (1000000 : Nat) < sizeLine := by decide
          omega
        · exact c.trans (ch_upd hD3 (fun z => z) rfl)
        · exact hF3.at (ch_upd (K := K) (S := fun b => b = D) hD3 (fun z => z) rfl) (Ne.symm (hF2.nn hD))
        · show upd _ _ _ D = _
          rw [upd_same, tws_step a (i + 1), List.map_append, ← tw_step i30]
          rfl
      · obtain ⟨⟨o8, rfl⟩, c, hF3, hD3⟩ := p
        refine ⟨_, rfl, _, rfl, _, rfl, D, _, rfl, SqL.of hD3, fun p hp => ?_⟩
        have tg := tws_good (a := a) (by omega)
        have e1 : cutV ((tws a (30 + 1)).map V.str) (some ((1 : Nat) : Int)) none = ((tws a 31).drop 1).map V.str := by rw [cutV_drop, List.map_drop]
        have s1 := same_upd (o := .lst (cutV ((tws a (30 + 1)).map V.str) (some ((1 : Nat) : Int)) none)) hp
        refine ⟨f, p, _, rfl, hF3.same s1, upd_same.trans (congrArg (fun z => some (HO.lst z)) e1), (by rw [List.length_drop, tws_len]; omega), fun H3 E ys c3 hF4 hE hys py => ?_⟩
        have l30 : ys.length = 30 := py.length_eq.trans (by rw [List.length_drop, tws_len])
        refine ⟨_, rfl, _, rfl, E, _, rfl, SqL.of hys, fun p2 hp2 => ?_⟩
        have c4 : Ch K (fun b => b = f) H H3 := (((c1.trans c2).trans (c.fresh fun b hb => .inr (hb ▸ hD))).trans (Same.ch s1)).trans c3
        have e2 : cutV (ys.map V.str) none (some (m : Int)) = (ys.take m).map V.str := by rw [cutV_take, List.map_take]
        exact q _ p2 (ys.take m) (c4.trans (ch_new hp2)) (hF4.same (same_upd hp2)) (c4.back hp2 (hF4.nn hp2)) (upd_same.trans (congrArg (fun z => some (HO.lst z)) e2)) (by rw [List.length_take]; omega) ((tg.perm py).take m)
    · refine ⟨_, rfl, rfl, _, rfl, iteB (fun e => ?_) fun e => ?_⟩
      · refine ⟨_, rfl, f, 121, rfl, hF1, by decide, by decide, fun H2 b c2 hF2 b0 b1 => ⟨_, rfl, _, rfl, f, 26, rfl, hF2, by decide, by decide, fun H3 cc c3 hF3 cc0 cc1 => ?_⟩⟩
        obtain ⟨b, rfl⟩ := Int.eq_ofNat_of_zero_le b0
        obtain ⟨cc, rfl⟩ := Int.eq_ofNat_of_zero_le cc0
        have c4 := (c1.trans c2).trans c3
        refine ⟨LET, _, _, rfl, rfl, LET_len, atI_nat (let_at cc (by omega)), (by show 2 ≤ sizeLine; decide), fun t ht => ⟨t, _, rfl, SqT.of upd_same, rfl, _, _, rfl, _, _, rfl, rfl, _, rfl, _, rfl, by omega, by omega, fun D hD => ?_⟩⟩
        have c5 := c4.trans (ch_new (K := K) (S := fun b => b = f) (u := .tup [.int b, .str (wd [97 + cc])]) ht)
        have hF4 := hF3.same (same_upd (o := .tup [.int b, .str (wd [97 + cc])]) ht)
        refine lc_acc walk_range hD (fun j => ((List.range j).map fun k => wd [97 + cc] ++ num ((b + 9 * k) % 121)).map V.str) rfl (fun j hj => lt_size ?_) (fun H5 _ => trivial) (fun j x H5 H6 hj sm y Yes No hy hn => ?_) fun H5 sm e5 => ?_
        · rw [List.length_map, List.length_map, List.length_range]
          have : j < m := hj
          omega
        · obtain ⟨rfl, rfl⟩ := y
          have fmE : ((b : Int) + 9 * (0 + (j : Int))).fmod 121 = (((b + 9 * j) % 121 : Nat) : Int) := by
            rw [Int.fmod_eq_emod_of_nonneg _ (by decide)]
            omega
          have lj : j < m := hj
          have nl : (num ((b + 9 * j) % 121)).length ≤ 5 := num_len _ (by omega)
          have lg : ((((b + 9 * j) % 121 : Nat) : Int)).natAbs.log2 < 1920 := by
            have z := Nat.log2_le_self ((b + 9 * j) % 121)
            show ((b + 9 * j) % 121).log2 < 1920
            omega
          refine ⟨rfl, _, rfl, _, rfl, _, rfl, 9, _, rfl, rfl, .inl ⟨by decide, by decide⟩, _, _, rfl, rfl, _, 121, rfl, rfl, (show (121 : Int) ≠ 0 by decide), _, rfl, ?_, _, _, rfl, rfl, ?_, hy _ _ same_rfl ?_⟩
          · rw [fmE]; exact lg
          · rw [fmE]
            show 1 + (num ((b + 9 * j) % 121)).length ≤ sizeLine
            have : (1000000 : Nat) < sizeLine := by decide
            omega
          · rw [fmE, List.range_succ, List.map_append, List.map_append]
            rfl
        · exact q H5 D _ (c5.trans (Same.ch sm)) (hF4.same sm) (c5.back hD (hF4.nn hD)) e5 (by rw [List.length_map, List.length_range]; rfl) (good_num (by omega) (by omega) m12)
      · have LD : LET.length + ((Str.ofString "0123456789" : Str)).length ≤ sizeLine := by decide +kernel
        refine ⟨_, rfl, _, _, rfl, rfl, LD, _, rfl, f, 5, rfl, hF1, by decide, by decide, fun H2 r c2 hF2 r0 r1 => ⟨(by show 2 ≤ sizeLine; decide), fun l hl => ?_⟩⟩
        obtain ⟨r, rfl⟩ := Int.eq_ofNat_of_zero_le r0
        have ix : ∃ sg : Nat, atI [V.int r, V.int 5] (if decide (V.int fo = V.int 1) = true then 1 else 0) = some (.int sg) ∧ ((V.int fo = V.int 1 ∧ sg = 5) ∨ (V.int fo ≠ V.int 1 ∧ sg ≤ 4)) := by
          by_cases e : V.int fo = V.int 1
          · rw [decide_eq_true e, if_pos rfl]
            exact ⟨5, atI_nat (j := 1) rfl, .inl ⟨e, rfl⟩⟩
          · rw [decide_eq_false e, if_neg (by decide)]
            exact ⟨r, atI_nat (j := 0) rfl, .inr ⟨e, by omega⟩⟩
        obtain ⟨sg, hix, hsg⟩ := ix
        have sg5 : sg ≤ 5 := by omega
        have c3 := (c1.trans c2).trans (ch_new (K := K) (S := fun b => b = f) (u := .lst [.int r, .int 5]) hl)
        have hF3 := hF2.same (same_upd (o := .lst [.int r, .int 5]) hl)
        refine ⟨_, rfl, rfl, .inr ⟨_, rfl, l, _, _, _, rfl, rfl, SqL.of upd_same, hix, ?_⟩⟩
        refine ⟨⟨_, rfl⟩, _, rfl, _, rfl, by omega, by omega, fun D hD => ?_⟩
        refine lc_it walk_range (fun j H => ∃ cs : List Nat, H D = some (.lst ((cs.map fun c => wd [c]).map V.str)) ∧ cs.length = j ∧ StemOk cs ∧ Ch K (fun b => b = f ∨ b = D) (upd H2 l (.lst [.int r, .int 5])) H ∧ FeedAt H f) ⟨[], upd_same, rfl, trivial, ch_new hD, hF3.same (same_upd hD)⟩ (fun _ _ _ _ => trivial) (fun j x H5 H6 hj p y => ?_) fun H5 p => ?_
        · obtain ⟨rfl, rfl⟩ := y
          obtain ⟨cs, hDc, lc, ok, c4, hF5⟩ := p
          have lj : j < sg := hj
          have bd : ∃ z : Nat, (26 : Int) + 10 * (if decide ((0 : Int) < 0 + (j : Int)) = true then (1 : Int) else 0) = (z : Int) ∧ 0 < z ∧ z ≤ 36 ∧ (j = 0 → z = 26) := by
            by_cases e : (0 : Int) < 0 + (j : Int)
            · rw [decide_eq_true e, if_pos rfl]
              exact ⟨36, by decide, by decide, by decide, by omega⟩
            · rw [decide_eq_false e, if_neg (by decide)]
              exact ⟨26, by decide, by decide, by decide, by omega⟩
          obtain ⟨z, hz, z0, z36, zj⟩ := bd
          have Df : D ≠ f := hF3.nn hD
          refine ⟨rfl, _, rfl, _, rfl, _, rfl, _, _, rfl, rfl, .inr ⟨_, rfl, 10, _, rfl, rfl, .inl ⟨by decide, by decide⟩, _, _, rfl, rfl, f, (z : Int), congrArg (fun q => [V.ref f, V.int q]) hz, hF5, by omega, by omega, fun H7 g c5 hF7 g0 g1 => ?_⟩⟩
          obtain ⟨g, rfl⟩ := Int.eq_ofNat_of_zero_le g0
          have g36 : g < 36 := by omega
          have hD7 := c5.at hDc Df
          refine ⟨FIG, _, _, rfl, rfl, FIG_len, atI_nat (fig_at g g36), _, hD7, lt_size (by rw [List.length_map, List.length_map]; omega), cs ++ [figC g], ?_, ?_, ok.snoc g36 (fun e => ?_), ?_, ?_⟩
          · rw [upd_same, List.map_append, List.map_append]
            rfl
          · rw [List.length_append, lc]
            rfl
          · have : j = 0 := by rw [← lc, e]; rfl
            have := zj this
            omega
          · exact (c4.trans (c5.mono fun b h => .inl h)).trans (ch_upd hD7 (fun z => z) (.inr rfl))
          · exact hF7.at (ch_upd (K := K) (S := fun b => b = D) hD7 (fun z => z) rfl) (Ne.symm Df)
        · obtain ⟨cs, hDc, lc, ok, c4, hF5⟩ := p
          have lc : cs.length = sg := lc
          have sm : ∀ cs : List Nat, ((cs.map fun c => wd [c]).map fun x => x.length).sum = cs.length := fun cs => by
            induction cs with
            | nil => rfl
            | cons c r ih =>
              rw [List.map_cons, List.map_cons, List.sum_cons, ih]
              show 1 + r.length = r.length + 1
              omega
          refine ⟨_, D, cs.map fun c => wd [c], rfl, rfl, .inl (SqL.of hDc), ?_, ?_⟩
          · rw [sm, List.length_map, lc, show (Str.ofString "" : Str).length = 0 from by rw [emp_wd]; rfl]
            omega
          · rw [join_wd]
            have c6 : Ch K (fun b => b = f) H H5 := c3.trans (c4.fresh fun b hb => hb.elim .inl fun h => .inr (h ▸ hD))
            have ln : (wd cs).length = sg := lc
            refine ⟨_, rfl, _, rfl, _, rfl, (by rw [ln]; have : (1000000 : Nat) < sizeLine := by decide
                                                omega), _, _, rfl, rfl, f, _, rfl, hF5, by omega, by rw [ln]; omega, fun H6 at_ c7 hF6 a0 a1 => ?_⟩
            refine ⟨_, rfl, f, 26, rfl, hF6, by decide, by decide, fun H7 st c8 hF7 s0 s1 => ⟨_, rfl, f, 2, rfl, hF7, by decide, by decide, fun H8 lg c9 hF8 l0 l1 => ?_⟩⟩
            obtain ⟨at_, rfl⟩ := Int.eq_ofNat_of_zero_le a0
            obtain ⟨st, rfl⟩ := Int.eq_ofNat_of_zero_le s0
            obtain ⟨lg, rfl⟩ := Int.eq_ofNat_of_zero_le l0
            rw [ln] at a1
            have c10 := ((c6.trans c7).trans c8).trans c9
            refine ⟨_, _, _, rfl, ?_⟩
            refine ⟨fun σ H' => (∃ (at_ lg : Nat), at_ ≤ cs.length ∧ (cs.length ≤ 4 ∨ cs.length = 5 ∧ lg = 0) ∧ lg < 2 ∧ σ = [some (.ref f), some (.int m), some (.str LET), some (.int fo), none, some (.int st), some (.int at_), none, none, none, none, some (.str FIG), some (.int sg), some (.str (wd cs)), some (.int lg), none]) ∧ Ch K (fun b => b = f) H H' ∧ FeedAt H' f, ?_, ?_⟩
            · refine ⟨_, rfl, rfl, _, rfl, iteD (fun e1 => ?_) fun e1 => ?_⟩
              · rcases hsg with ⟨_, hsg⟩ | ⟨h, _⟩
                · exact ⟨(by show 2 ≤ sizeLine; decide), fun t ht => ⟨t, _, rfl, SqT.of upd_same, rfl, _, _, rfl, _, _, rfl, rfl, ⟨5, 0, by omega, .inr ⟨by omega, rfl⟩, by decide, rfl⟩, c10.trans (ch_new ht), hF8.same (same_upd ht)⟩⟩
                · exact absurd e1 h
              · rcases hsg with ⟨h, _⟩ | ⟨_, hsg⟩
                · exact absurd h e1
                · exact ⟨⟨at_, lg, by omega, .inl (by omega), by omega, rfl⟩, c10, hF8⟩
            · rintro σ H' ⟨⟨at_, lg, ha, hcs, hlg, rfl⟩, c11, hF9⟩
              refine ⟨by show 0 ≤ sizeLine; decide, fun E hE => ?_⟩
              have Ef : E ≠ f := hF9.nn hE
              refine ⟨_, rfl, _, rfl, by omega, by omega, ?_⟩
              refine for_range (fun i σ H2 => (∃ o8 o10 o15, σ = [some (.ref f), some (.int m), some (.str LET), some (.int fo), none, some (.int st), some (.int at_), some (.ref E), o8, none, o10, some (.str FIG), some (.int sg), some (.str (wd cs)), some (.int lg), o15]) ∧ Ch K (fun b => b = E) H' H2 ∧ FeedAt H2 f ∧ StrsAt H2 E (((List.range i).map (stw cs at_ st lg)).map wd))
                ⟨⟨_, _, _, rfl⟩, ch_new hE, hF9.same (same_upd hE), upd_same⟩ (fun i σ H2 hi p => ?_) fun σ H2 p => ?_
              · obtain ⟨⟨o8, o10, o15, rfl⟩, c, hF10, hE2⟩ := p
                have im : i < m := hi
                have fm1 : ((st : Int) + 7 * (0 + (i : Int))).fmod 26 = (((st + 7 * i) % 26 : Nat) : Int) := by
                  rw [Int.fmod_eq_emod_of_nonneg _ (by decide)]
                  omega
                have g1 : atI LET.cps.toList (((st : Int) + 7 * (0 + (i : Int))).fmod 26) = some (97 + (st + 7 * i) % 26) := by
                  rw [fm1]
                  exact atI_nat (let_at _ (by omega))
                have fm2 : (0 + (i : Int)).fmod 2 = ((i % 2 : Nat) : Int) := by
                  rw [Int.zero_add, Int.fmod_eq_emod_of_nonneg _ (by decide)]
                  rfl
                have ln : (wd cs).length ≤ sizeLine := by
                  show cs.length ≤ sizeLine
                  have : (1000000 : Nat) < sizeLine := by decide
                  omega
                have big : ∀ n : Nat, n ≤ 1000 → n ≤ sizeLine := fun n h => by
                  have : (1000000 : Nat) < sizeLine := by decide
                  omega
                refine ⟨_, rfl, _, rfl, _, rfl, 7, _, rfl, rfl, .inl ⟨by decide, by decide⟩, _, _, rfl, rfl, _, 26, rfl, rfl, (show (26 : Int) ≠ 0 by decide), LET, _, _, rfl, rfl, LET_len, g1, ?_⟩
                refine ⟨_, rfl, _, rfl, _, 2, rfl, rfl, (show (2 : Int) ≠ 0 by decide), _, rfl, _, _, rfl, rfl, .inr ⟨by omega, by omega⟩, ?_⟩
                have nn : (0 + (i : Int)).fmod 2 * (lg : Int) = 0 ∧ i % 2 * lg = 0 ∨ (0 + (i : Int)).fmod 2 * (lg : Int) = 1 ∧ i % 2 * lg = 1 := by
                  rw [fm2]
                  rcases (show i % 2 = 0 ∨ i % 2 = 1 by omega) with h | h <;> rcases (show lg = 0 ∨ lg = 1 by omega) with h2 | h2 <;> rw [h, h2] <;> decide
                have mo : (if (0 + (i : Int)).fmod 2 * (lg : Int) = 0 then Str.empty else (⟨#[97 + (st + 7 * i) % 26]⟩ : Str)) = wd (if i % 2 * lg = 1 then [97 + (st + 7 * i) % 26] else []) := by
                  rcases nn with ⟨a, b⟩ | ⟨a, b⟩
                  · rw [if_pos a, if_neg (by omega)]
                    rfl
                  · rw [if_neg (by omega), if_pos b]
                    rfl
                refine ⟨_, _, rfl, rfl, nn.imp (fun h => h.1) (fun h => h.1), ?_⟩
                rw [mo]
                have l1 : (wd (cs.take at_)).length ≤ 5 := by
                  show (cs.take at_).length ≤ 5
                  rw [List.length_take]
                  omega
                have l2 : (wd (cs.drop at_)).length ≤ 5 := by
                  show (cs.drop at_).length ≤ 5
                  rw [List.length_drop]
                  omega
                have l3 : (wd (if i % 2 * lg = 1 then [97 + (st + 7 * i) % 26] else [])).length ≤ 1 := by
                  split
                  · exact Nat.le_refl 1
                  · exact Nat.zero_le 1
                refine ⟨_, rfl, .inl ⟨rfl, _, SqL.of hE2⟩, _, rfl, _, rfl, _, rfl, _, rfl, ln, ?_⟩
                rw [cutS_to cs at_ ha]
                refine ⟨_, rfl, _, _, rfl, rfl, big _ ?_, _, rfl, _, rfl, _, rfl, _, rfl, ln, ?_⟩
                · show (wd (cs.take at_)).length + 1 ≤ 1000
                  omega
                rw [cutS_from cs at_ ha]
                have w1 : wd (cs.take at_) ++ (⟨#[97 + (st + 7 * i) % 26]⟩ : Str) = wd (cs.take at_ ++ [97 + (st + 7 * i) % 26]) := wd_app _ [_]
                rw [w1]
                refine ⟨_, _, rfl, rfl, big _ ?_, _, rfl, _, _, rfl, rfl, big _ ?_, E, _, _, rfl, rfl, hE2, ?_, ⟨_, _, _, rfl⟩, ?_, ?_, ?_⟩
                · show (cs.take at_ ++ [97 + (st + 7 * i) % 26]).length + (cs.drop at_).length ≤ 1000
                  rw [List.length_append, List.length_take, List.length_drop]
                  simp
                  omega
                · rw [wd_app]
                  show ((cs.take at_ ++ [97 + (st + 7 * i) % 26]) ++ cs.drop at_).length + (wd _).length ≤ 1000
                  rw [List.length_append, List.length_append, List.length_take, List.length_drop]
                  simp only [List.length_singleton]
                  omega
                · refine lt_size ?_
                  rw [List.length_map, List.length_map, List.length_map, List.length_range]
                  omega
                · exact c.trans (ch_upd hE2 (fun z => z) rfl)
                · exact hF10.at (ch_upd (K := K) (S := fun b => b = E) hE2 (fun z => z) rfl) (Ne.symm Ef)
                · show upd _ _ _ E = _
                  rw [upd_same, wd_app, wd_app, List.range_succ, List.map_append, List.map_append, List.map_append]
                  rfl
              · obtain ⟨⟨o8, o10, o15, rfl⟩, c, hF10, hE2⟩ := p
                have gs := good_stem (m := m) (st := st) ok ha hcs (by omega) m12
                refine ⟨_, rfl, _, rfl, f, E, _, rfl, hF10, hE2, (by rw [List.length_map, List.length_map, List.length_range]; show m ≤ 1000; omega), fun H3 D' ys c3 hF4 hE3 hys py => ?_⟩
                have c12 := c11.trans (c.fresh (S := fun b => b = f) fun b hb => .inr (hb ▸ hE))
                exact q H3 D' ys (c12.trans c3) hF4 (c12.back hE3 (hF10.nn hE3)) hys (py.length_eq.trans (by rw [List.length_map, List.length_map, List.length_range]; rfl)) (gs.perm py)
end
end Wy
set_option Elab.async false
set_option linter.all false
set_option maxRecDepth 100000
set_option maxHeartbeats 0
namespace Wy
open PySem PySem.Spec PyProof.Rows L2 StX
section
variable {P : Program} {w : World} {K : PySem.W.Frag} {mg : Str → Option Value} {base : Heap}
def SpotAt (H : Hp) (lm : Nat) (a : Addr) : Prop := ∃ x y : Int, H a = some (.tup [.int x, .int y]) ∧ 0 ≤ x ∧ x ≤ lm ∧ 0 ≤ y ∧ y ≤ lm
theorem SpotAt.im {H H' : Hp} {lm : Nat} {a : Addr} (h : SpotAt H lm a) (i : Im K H H') : SpotAt H' lm a := let ⟨x, y, e, r⟩ := h; ⟨x, y, i.tup e, r⟩
theorem sc_L_web : FnScope ["_law_feed_here", "_law_many", "_law_bonds", "_law_limit", "_law_words_here", "_law_loose", "_law_titles", "_law_spots", "_law_found", "_law_k", "_law_at", "_law_to", "_law_near", "_law_bounds_here"] ["_law_feed_here", "_law_many", "_law_bonds", "_law_limit"] (defScope s_L_web) := ⟨rfl, rfl, rfl, by decide +kernel, rfl, by decide +kernel, by decide +kernel⟩
def sp_L_web (K : PySem.W.Frag) : Sp := fun vs H Q _ => ∃ (f : Addr) (n b l : Nat), vs = [.ref f, .int n, .int b, .int l] ∧ FeedAt H f ∧ 1 ≤ n ∧ n ≤ 12 ∧ b ≤ 12 ∧ l ≤ 100 ∧ ∀ H' t pa ta (W : Wb), Ch K (fun b => b = f) H H' → FeedAt H' f → H' t = some (.tup [.ref pa, .ref ta]) → PostsAt H' pa W.1 → TiesAt H' ta W.2 → Valid W → W.1.length = n → W.2.length ≤ b → (∀ t ∈ W.2, t.2.2.2.2 ≤ l) → Q (.ref t) H'
theorem ok_L_web (T : W0 P w K mg) : GFn P w K mg base 4 "_law_web" (sp_L_web K) := by
  obtain ⟨fd, F⟩ := T.d_L_web
  refine ⟨T.g_L_web, F.kp, F.fr sc_L_web (fun _ _ _ _ _ _ us hl => match us, hl with | [_, _, _, _], _ => rfl) (fun vs H Q E h => by first | (obtain ⟨rfl, _⟩ := h; rfl) | (obtain ⟨_, rfl, _⟩ := h; rfl) | (obtain ⟨_, _, rfl, _⟩ := h; rfl) | (obtain ⟨_, _, _, rfl, _⟩ := h; rfl) | (obtain ⟨_, _, _, _, rfl, _⟩ := h; rfl) | (obtain ⟨_, _, _, _, _, rfl, _⟩ := h; rfl) | (obtain ⟨_, _, _, _, _, _, rfl, _⟩ := h; rfl) | (obtain ⟨_, _, _, _, _, _, _, rfl, _⟩ := h; rfl) | (obtain ⟨_, _, _, _, _, _, _, _, rfl, _⟩ := h; rfl) | (obtain ⟨_, _, _, _, _, _, _, _, _, rfl, _⟩ := h; rfl)) fun cdv A outer s H vs Q E hr h => ⟨_, (pss_cons (ps_par (i := 4) (j := 5) (by rfl) sc_L_web.nd rfl rfl (by decide) rfl rfl (pa_cons (eCall (ok_L_words T) (hr.mono (by decide)) passL (by rfl) (pa_cons (pv 0) (pa_cons (pv 1) pa_nil))) (pa_cons (pe_cmpR op_eq (eCall (ok_L_take T) (hr.mono (by decide)) passL (by rfl) (pa_cons (pv 0) (pa_cons pe_int pa_nil))) pe_int (nomark _)) pa_nil)) (by rfl)) (pss_cons (ps_set (i := 6) sc_L_web.nd rfl (Or.inl rfl) (eCall (ok_L_words T) (hr.mono (by decide)) passL (by rfl) (pa_cons (pv 0) (pa_cons (pe_callB (call_max2 rfl) (by rfl) T.f_max (by decide +kernel) (pa_cons pe_int (pa_cons (pv 2) pa_nil))) pa_nil)))) (pss_cons (ps_setLc (i := 7) (own := [("_law_k", 9)]) (by rfl) sc_L_web.nd rfl rfl (sw_true rfl rfl rfl (by decide +kernel)) (pi_range1 (by rfl) T.f_range (pa_cons (pv 1) pa_nil)) (blkOk_by (own := [("_law_k", 9)]) (N := ["_law_feed_here", "_law_many", "_law_bonds", "_law_limit", "_law_words_here", "_law_loose", "_law_titles", "_law_spots", "_law_found", "_law_k", "_law_at", "_law_to", "_law_near", "_law_bounds_here"]) (sc := defScope s_L_web) (by decide +kernel)) (fun _ _ _ _ _ => (pg_name (i := 9) sc_L_web.nd rfl (Or.inl rfl))) (fun _ _ _ _ _ => pts_nil) (fun _ _ _ _ _ => (pe_tup (pa_cons (eCall (ok_L_take T) (hr.mono (by decide)) passL (by rfl) (pa_cons (pv 0) (pa_cons (pe_op op_add (pv 3) pe_int) pa_nil))) (pa_cons (eCall (ok_L_take T) (hr.mono (by decide)) passL (by rfl) (pa_cons (pv 0) (pa_cons (pe_op op_add (pv 3) pe_int) pa_nil))) pa_nil))))) (pss_cons (ps_set (i := 8) sc_L_web.nd rfl (Or.inl rfl) (pe_lst pa_nil)) (pss_cons (ps_for (passes_of rfl) rfl (iEnum1 false (by rfl) T.f_enumerate (pa_cons (eCall (ok_L_joints T) (hr.mono (by decide)) passL (by rfl) (pa_cons (pv 0) (pa_cons (pv 1) (pa_cons (pv 2) pa_nil)))) pa_nil)) (kTupG (K := K) (n := 2) rfl rfl (pgs_cons (pg_name (i := 9) sc_L_web.nd rfl (Or.inl rfl)) (pgs_cons (kTupG (K := K) (n := 2) rfl rfl (pgs_cons (pg_name (i := 10) sc_L_web.nd rfl (Or.inl rfl)) (pgs_cons (pg_name (i := 11) sc_L_web.nd rfl (Or.inl rfl)) pgs_nil))) pgs_nil))) (pss_cons (ps_set (i := 12) sc_L_web.nd rfl (Or.inl rfl) (pe_callB (call_max2 rfl) (by rfl) T.f_max (by decide +kernel) (pa_cons (pe_callB call_abs (by rfl) T.f_abs (by decide +kernel) (pa_cons (pe_op op_sub (pe_ix (kIxT (K := K) rfl) (pe_ix (kIxL (K := K) rfl) (pv 7) (pv 10) (fun _ _ => rfl)) pe_int (fun _ _ => rfl)) (pe_ix (kIxT (K := K) rfl) (pe_ix (kIxL (K := K) rfl) (pv 7) (pv 11) (fun _ _ => rfl)) pe_int (fun _ _ => rfl))) pa_nil)) (pa_cons (pe_callB call_abs (by rfl) T.f_abs (by decide +kernel) (pa_cons (pe_op op_sub (pe_ix (kIxT (K := K) rfl) (pe_ix (kIxL (K := K) rfl) (pv 7) (pv 10) (fun _ _ => rfl)) pe_int (fun _ _ => rfl)) (pe_ix (kIxT (K := K) rfl) (pe_ix (kIxL (K := K) rfl) (pv 7) (pv 11) (fun _ _ => rfl)) pe_int (fun _ _ => rfl))) pa_nil)) pa_nil)))) (C8.pss_cut (ps_if (pt_val (pv 5)) (pss_one (ps_set (i := 12) sc_L_web.nd rfl (Or.inl rfl) (eCall (ok_L_take T) (hr.mono (by decide)) passL (by rfl) (pa_cons (pv 0) (pa_cons (pe_op op_add (pv 3) pe_int) pa_nil))))) pss_nil) (pss_cons (ps_set (i := 13) sc_L_web.nd rfl (Or.inl rfl) (eCall (ok_L_bounds T) (hr.mono (by decide)) passL (by rfl) (pa_cons (pv 0) (pa_cons (pv 12) (pa_cons (pv 3) pa_nil))))) (pss_one (ps_expr (pe_bm PySem.F.plainAttrs_list PySem.F.slot_list_append PySem.F.type_list_append mt_append (pv 8) (pa_cons (pe_tup (pa_cons (pe_ix (kIxL (K := K) rfl) (pv 6) (pv 9) (fun _ _ => rfl)) (pa_cons (pe_ix (kIxL (K := K) rfl) (pv 4) (pv 10) (fun _ _ => rfl)) (pa_cons (pe_ix (kIxL (K := K) rfl) (pv 4) (pv 11) (fun _ _ => rfl)) (pa_cons (pe_ix (kIxT (K := K) rfl) (pv 13) pe_int (fun _ _ => rfl)) (pa_cons (pe_ix (kIxT (K := K) rfl) (pv 13) pe_int (fun _ _ => rfl)) pa_nil)))))) pa_nil)))))))) (pss_one (ps_ret (pe_tup (pa_cons (pe_callTy call_tuple_of (by rfl) T.f_tuple (by decide +kernel) (pa_cons (pv 4) pa_nil)) (pa_cons (pe_callTy call_tuple_of (by rfl) T.f_tuple (by decide +kernel) (pa_cons (pv 8) pa_nil)) pa_nil)))))))))), ?_⟩⟩
  obtain ⟨f, n, b, lm, rfl, hF, n1, n12, b12, l100, q⟩ := h
  refine ⟨_, rfl, _, rfl, f, n, rfl, hF, n1, n12, fun H1 wa ws c1 hF1 hwa hws wl gw => ?_⟩
  refine ⟨_, rfl, f, 4, rfl, hF1, by decide, by decide, fun H2 r c2 hF2 _ _ => ⟨rfl, _, _, rfl, _, rfl, _, rfl, _, _, rfl, ?_⟩⟩
  have mx : ∃ m2 : Nat, (if (b : Int) > 1 then (b : Int) else 1) = (m2 : Int) ∧ 1 ≤ m2 ∧ m2 ≤ 12 ∧ b ≤ m2 := by
    by_cases e : (b : Int) > 1
    · rw [if_pos e]
      exact ⟨b, rfl, by omega, b12, Nat.le_refl _⟩
    · rw [if_neg e]
      exact ⟨1, rfl, by decide, by decide, by omega⟩
  obtain ⟨m2, hm2, m21, m212, bm⟩ := mx
  refine ⟨f, m2, congrArg (fun z => [V.ref f, V.int z]) hm2, hF2, m21, m212, fun H3 ta ts c3 hF3 hta hts tl gt => ?_⟩
  refine ⟨_, rfl, _, rfl, by omega, by omega, fun D hD => ?_⟩
  have Df : D ≠ f := hF3.nn hD
  refine lc_it walk_range (fun j H => ∃ as : List Addr, H D = some (.lst (as.map V.ref)) ∧ as.length = j ∧ (∀ a ∈ as, SpotAt H lm a) ∧ Ch K (fun b => b = f ∨ b = D) H3 H ∧ FeedAt H f) ⟨[], upd_same, rfl, fun a h => (by cases h), ch_new hD, hF3.same (same_upd hD)⟩ (fun _ _ _ _ => trivial) (fun j x H5 H6 hj p y => ?_) fun H5 p => ?_
  · obtain ⟨rfl, rfl⟩ := y
    obtain ⟨as, hDl, al, sp, c4, hF5⟩ := p
    refine ⟨rfl, _, rfl, _, rfl, _, _, rfl, rfl, f, _, rfl, hF5, by omega, by omega, fun H7 x c5 hF7 x0 x1 => ⟨_, rfl, _, rfl, _, _, rfl, rfl, f, _, rfl, hF7, by omega, by omega, fun H8 y c6 hF8 y0 y1 => ⟨(by show 2 ≤ sizeLine; decide), fun t ht => ?_⟩⟩⟩
    have c7 := c5.trans c6
    have s1 := same_upd (o := .tup [.int x, .int y]) ht
    have hD8 := s1 _ _ (c7.at hDl Df)
    have tD : t ≠ D := fun z => by rw [z, c7.at hDl Df] at ht; cases ht
    have c8 := ch_upd (K := K) (S := fun b => b = f ∨ b = D) (u := .lst (as.map V.ref ++ [.ref t])) hD8 (fun z => z) (.inr rfl)
    have jn : j < n := hj
    refine ⟨_, hD8, lt_size (by rw [List.length_map]; omega), as ++ [t], ?_, ?_, fun a ha => ?_, ?_, ?_⟩
    · rw [upd_same, List.map_append]
      rfl
    · rw [List.length_append, al]
      rfl
    · rcases List.mem_append.mp ha with h | h
      · exact (((sp a h).im c7.im).im (Same.im (K := K) s1)).im c8.im
      · rw [List.mem_singleton.mp h]
        exact ⟨x, y, by rw [upd_ne tD, upd_same], x0, by omega, y0, by omega⟩
    · exact ((c4.trans (c7.mono fun b h => .inl h)).trans (Same.ch s1)).trans c8
    · exact FeedAt.at (f := f) (K := K) (S := fun b => b = D) (hF8.same s1) (ch_upd (K := K) (S := fun b => b = D) (u := .lst (as.map V.ref ++ [.ref t])) hD8 (fun z => z) rfl) (Ne.symm Df)
  · obtain ⟨as, hDl, al, sp, c4, hF5⟩ := p
    have al : as.length = n := al
    refine ⟨by show 0 ≤ sizeLine; decide, fun L hL => ?_⟩
    have Lf : L ≠ f := hF5.nn hL
    refine ⟨_, rfl, _, rfl, _, rfl, f, n, b, rfl, hF5.same (same_upd hL), n1, by omega, by omega, fun H6 J bs js c6 hF6 hJn hJ hjs jl jn => ?_⟩
    have c60 : Ch K (fun b => b = f) H H5 := ((c1.trans c2).trans c3).trans (c4.fresh fun b hb => hb.elim .inl fun h => .inr (h ▸ hD))
    have s2 := same_upd (o := .lst []) hL
    have c61 := (c60.trans (Same.ch s2)).trans c6
    have DL : D ≠ L := fun z => by rw [← z, hDl] at hL; cases hL
    have hL6 : H6 L = some (.lst []) := c6.at upd_same Lf
    have hD6 : H6 D = some (.lst (as.map V.ref)) := c6.at (s2 _ _ hDl) Df
    have sp6 : ∀ a ∈ as, SpotAt H6 lm a := fun a h => ((sp a h).im (Same.im (K := K) s2)).im c6.im
    have hw6 : H6 wa = some (.lst (ws.map V.str)) := by
      have w1 : wa ≠ f := by
        obtain ⟨_, _, _, z⟩ := hF
        exact fun y => by rw [y, z] at hwa; cases hwa
      have w3 := c3.at (c2.at hws w1) w1
      have wD : wa ≠ D := fun y => by rw [← y, w3] at hD; cases hD
      exact c6.at (s2 _ _ (c4.at w3 fun z => z.elim w1 wD)) w1
    have ht6 : H6 ta = some (.lst (ts.map V.str)) := by
      have w1 : ta ≠ f := by
        obtain ⟨_, _, _, z⟩ := hF2
        exact fun y => by rw [y, z] at hta; cases hta
      have wD : ta ≠ D := fun y => by rw [← y, hts] at hD; cases hD
      exact c6.at (s2 _ _ (c4.at hts fun z => z.elim w1 wD)) w1
    have bjl : bs.length = js.length := paired_len hjs
    refine ⟨J, bs.map V.ref, rfl, hJ, ?_⟩
    have wL : wa ≠ L := fun z => by rw [z, hL6] at hw6; injection hw6 with h; injection h with h; have := congrArg List.length h; rw [List.length_map, wl] at this; simp at this; omega
    have tL : ta ≠ L := fun z => by rw [z, hL6] at ht6; injection ht6 with h; injection h with h; have := congrArg List.length h; rw [List.length_map, tl] at this; simp at this; omega
    have Jf : J ≠ f := (hF5.same (same_upd (o := .lst []) hL)).nn hJn
    have JL : J ≠ L := fun z => by rw [z, upd_same] at hJn; cases hJn
    refine for_en (b := false) (xs := bs.map V.ref) (fun i σ H' => (∃ o9 o10 o11 o12 o13, σ = [some (.ref f), some (.int n), some (.int b), some (.int lm), some (.ref wa), some (.bl (decide (V.int r = V.int 0))), some (.ref ta), some (.ref D), some (.ref L), o9, o10, o11, o12, o13]) ∧ Ch K (fun b => b = f ∨ b = L) H6 H' ∧ FeedAt H' f ∧ ∃ cs bonds, H' L = some (.lst (cs.map V.ref)) ∧ TiesAs H' cs bonds ∧ bonds.length = i ∧ bonds.map (·.1) = ts.take i ∧ ∀ t ∈ bonds, TieOk ws t ∧ t.2.2.2.2 ≤ lm)
      ⟨⟨_, _, _, _, _, rfl⟩, Ch.refl, hF6, [], [], hL6, .nil, rfl, rfl, fun t h => (by cases h)⟩ (fun i σ H' _ p => p.2.1.at hJ fun z => z.elim Jf JL) (fun i x Tp σ H' hx p hT => ?_) fun σ H' p => ?_
    · obtain ⟨⟨o9, o10, o11, o12, o13, rfl⟩, c, hF7, cs, bonds, hL7, hcs, bl, bt, bo⟩ := p
      rw [List.getElem?_map] at hx
      obtain ⟨ja, hja, hx⟩ := Option.map_eq_some_iff.mp hx
      subst hx
      obtain ⟨⟨p1, p2⟩, hjp, hpt⟩ := paired_get' hjs hja
      obtain ⟨q1, q2, q3⟩ := jn _ (List.mem_of_getElem? hjp)
      have q1 : p1 < n := q1
      have q2 : p2 < n := q2
      have q3 : p1 ≠ p2 := q3
      have il : i < js.length := (List.getElem?_eq_some_iff.mp hjp).1
      have s3 := same_upd (o := .tup [.int (0 + (i : Int)), .ref ja]) hT
      have im7 : Im K H6 (upd H' Tp (.tup [.int (0 + (i : Int)), .ref ja])) := c.im.trans (Same.im s3)
      have hD7 := s3 _ _ (c.at hD6 fun z => z.elim Df DL)
      have hp8 : (upd H' Tp (.tup [.int (0 + (i : Int)), .ref ja])) ja = some (.tup [.int p1, .int p2]) := im7.tup hpt
      have ga : ∀ k : Nat, k < n → ∃ a, atI (as.map V.ref) (k : Int) = some (.ref a) ∧ SpotAt (upd H' Tp (.tup [.int (0 + (i : Int)), .ref ja])) lm a := fun k hk => by
        have hk2 : k < as.length := by omega
        exact ⟨as[k], atI_nat (by rw [List.getElem?_map, List.getElem?_eq_getElem hk2]; rfl), (sp6 _ (List.getElem_mem hk2)).im im7⟩
      obtain ⟨a1, ga1, x1, y1, e1, x10, x11, y10, y11⟩ := ga p1 q1
      obtain ⟨a2, ga2, x2, y2, e2, x20, x21, y20, y21⟩ := ga p2 q2
      have t0 : ∀ x y : Int, atI [V.int x, V.int y] 0 = some (.int x) := fun x y => atI_nat (j := 0) rfl
      have t1 : ∀ x y : Int, atI [V.int x, V.int y] 1 = some (.int y) := fun x y => atI_nat (j := 1) rfl
      refine ⟨Tp, _, rfl, SqT.of upd_same, rfl, _, _, rfl, _, _, rfl, ja, _, rfl, SqT.of hp8, rfl, _, _, rfl, _, _, rfl, rfl, rfl, ?_⟩
      refine ⟨_, rfl, _, rfl, D, _, _, _, rfl, rfl, SqL.of hD7, ga1, a1, _, _, _, rfl, rfl, SqT.of e1, t0 _ _, _, rfl, _, rfl, D, _, _, _, rfl, rfl, SqL.of hD7, ga2, a2, _, _, _, rfl, rfl, SqT.of e2, t0 _ _, _, _, rfl, rfl, _, rfl, ?_⟩
      refine ⟨_, rfl, _, rfl, D, _, _, _, rfl, rfl, SqL.of hD7, ga1, a1, _, _, _, rfl, rfl, SqT.of e1, t1 _ _, _, rfl, _, rfl, D, _, _, _, rfl, rfl, SqL.of hD7, ga2, a2, _, _, _, rfl, rfl, SqT.of e2, t1 _ _, _, _, rfl, rfl, _, rfl, _, _, rfl, ?_⟩
      have hF8 : FeedAt (upd H' Tp (.tup [.int (0 + (i : Int)), .ref ja])) f := hF7.same s3
      refine ⟨fun σ H2 => (∃ (nr : Int) (o13 : Option V), 0 ≤ nr ∧ nr ≤ lm ∧ σ = [some (.ref f), some (.int n), some (.int b), some (.int lm), some (.ref wa), some (.bl (decide (V.int r = V.int 0))), some (.ref ta), some (.ref D), some (.ref L), some (.int (0 + (i : Int))), some (.int p1), some (.int p2), some (.int nr), o13]) ∧ Ch K (fun b => b = f) (upd H' Tp (.tup [.int (0 + (i : Int)), .ref ja])) H2 ∧ FeedAt H2 f, ?_, ?_⟩
      · refine ⟨_, rfl, _, rfl, iteB (fun e => ?_) fun e => ?_⟩
        · exact ⟨_, rfl, _, rfl, _, _, rfl, rfl, f, _, rfl, hF8, by omega, by omega, fun H2 nr c9 hF9 r0 r1 => ⟨⟨nr, _, r0, by omega, rfl⟩, c9, hF9⟩⟩
        · refine ⟨⟨_, _, ?_, ?_, rfl⟩, Ch.refl, hF8⟩
          · repeat' split
            all_goals omega
          · repeat' split
            all_goals omega
      · rintro σ' H2 ⟨⟨nr, o13', nr0, nr1, rfl⟩, c9, hF9⟩
        refine ⟨_, rfl, _, rfl, _, rfl, f, nr, (lm : Int), rfl, hF9, nr0, nr1, by omega, fun H3 bt2 lo hi c10 hF10 hbt lo0 lohi hilm => ?_⟩
        have c11 := c9.trans c10
        have imA : Im K H6 H3 := im7.trans c11.im
        have wf : wa ≠ f := by
          obtain ⟨_, _, _, z⟩ := hF6
          exact fun y => by rw [y, z] at hw6; injection hw6 with h; injection h with h; cases ws with | nil => simp at h | cons a b => simp at h
        have tf : ta ≠ f := by
          obtain ⟨_, _, _, z⟩ := hF6
          exact fun y => by rw [y, z] at ht6; injection ht6 with h; injection h with h; cases ts with | nil => simp at h | cons a b => simp at h
        have fL : f ≠ L := Ne.symm Lf
        have hw9 : H3 wa = some (.lst (ws.map V.str)) := c11.at (s3 _ _ (c.at hw6 fun z => z.elim wf wL)) wf
        have ht9 : H3 ta = some (.lst (ts.map V.str)) := c11.at (s3 _ _ (c.at ht6 fun z => z.elim tf tL)) tf
        have hL9 : H3 L = some (.lst (cs.map V.ref)) := c11.at (s3 _ _ hL7) Lf
        have it : i < ts.length := by omega
        have w1 : p1 < ws.length := by omega
        have w2 : p2 < ws.length := by omega
        have gt1 : atI (ts.map V.str) (0 + (i : Int)) = some (.str ts[i]) := by
          rw [Int.zero_add]
          exact atI_nat (by rw [List.getElem?_map, List.getElem?_eq_getElem it]; rfl)
        have gw1 : atI (ws.map V.str) (p1 : Int) = some (.str ws[p1]) := atI_nat (by rw [List.getElem?_map, List.getElem?_eq_getElem w1]; rfl)
        have gw2 : atI (ws.map V.str) (p2 : Int) = some (.str ws[p2]) := atI_nat (by rw [List.getElem?_map, List.getElem?_eq_getElem w2]; rfl)
        refine ⟨_, rfl, .inl ⟨rfl, _, SqL.of hL9⟩, _, rfl, _, rfl, ta, _, _, _, rfl, rfl, SqL.of ht9, gt1, _, rfl, _, rfl, wa, _, _, _, rfl, rfl, SqL.of hw9, gw1, _, rfl, _, rfl, wa, _, _, _, rfl, rfl, SqL.of hw9, gw2, _, rfl, bt2, _, _, _, rfl, rfl, SqT.of hbt, t0 _ _, _, rfl, bt2, _, _, _, rfl, rfl, SqT.of hbt, t1 _ _, (by show 5 ≤ sizeLine; decide), fun u hu => ?_⟩
        have s4 := same_upd (o := .tup [.str ts[i], .str ws[p1], .str ws[p2], .int lo, .int hi]) hu
        have hL10 := s4 _ _ hL9
        have uL : u ≠ L := fun z => by rw [z, hL9] at hu; cases hu
        have cl : cs.length = bonds.length := paired_len hcs
        have c12 := ch_upd (K := K) (S := fun b => b = f ∨ b = L) (u := .lst (cs.map V.ref ++ [.ref u])) hL10 (fun z => z) (.inr rfl)
        refine ⟨L, _, _, rfl, rfl, hL10, lt_size (by rw [List.length_map]; omega), ⟨_, _, _, _, _, rfl⟩, ?_, ?_, cs ++ [u], bonds ++ [(ts[i], ws[p1], ws[p2], lo, hi)], ?_, ?_, ?_, ?_, ?_⟩
        · exact (((c.trans (Same.ch s3)).trans (c11.mono fun b h => .inl h)).trans (Same.ch s4)).trans c12
        · exact FeedAt.at (f := f) (K := K) (S := fun b => b = L) (hF10.same s4) (ch_upd (K := K) (S := fun b => b = L) hL10 (fun z => z) rfl) fL
        · rw [upd_same, List.map_append]
          rfl
        · refine paired_app (TiesAs.im hcs ((((Same.im (K := K) s3).trans c11.im).trans (Same.im s4)).trans c12.im)) (.cons ?_ .nil)
          show upd _ _ _ u = _
          rw [upd_ne uL, upd_same]
          rfl
        · rw [List.length_append, bl]
          rfl
        · rw [List.map_append, bt, take_snoc (List.getElem?_eq_getElem it)]
          rfl
        · intro t ht
          rcases List.mem_append.mp ht with h | h
          · exact bo t h
          · rw [List.mem_singleton.mp h]
            refine ⟨⟨List.getElem_mem w1, List.getElem_mem w2, fun z => ?_, lo0, lohi⟩, hilm⟩
            exact q3 ((List.getElem_inj gw.2).mp z)
    · obtain ⟨⟨o9, o10, o11, o12, o13, rfl⟩, c, hF7, cs, bonds, hL7, hcs, bl, bt, bo⟩ := p
      have wf : wa ≠ f := by
        obtain ⟨_, _, _, z⟩ := hF6
        exact fun y => by rw [y, z] at hw6; injection hw6 with h; injection h with h; cases ws with | nil => simp at h | cons a b => simp at h
      have bl : bonds.length = js.length := bl.trans (by rw [List.length_map, bjl])
      have hw7 : _ = some (HO.lst (ws.map V.str)) := c.at hw6 fun z => z.elim wf wL
      refine ⟨_, rfl, wa, _, rfl, .inl ⟨SqL.of hw7, fun pa hpa => ?_⟩⟩
      have s5 := same_upd (o := .tup (ws.map V.str)) hpa
      refine ⟨_, rfl, L, _, rfl, .inl ⟨SqL.of (s5 _ _ hL7), fun ba hba => ⟨(by show 2 ≤ sizeLine; decide), fun t ht => ?_⟩⟩⟩
      have s6 := same_upd (o := .tup (cs.map V.ref)) hba
      have s7 := same_upd (o := .tup [.ref pa, .ref ba]) ht
      have sA := (s5.trans s6).trans s7
      refine q _ t pa ba (ws, bonds) ?_ (hF7.same sA) upd_same ((s6.trans s7) _ _ upd_same) ⟨cs, s7 _ _ upd_same, TiesAs.im hcs (Same.im (K := K) sA)⟩ ⟨?_, gw, ?_, fun t h => (bo t h).1⟩ wl (by show bonds.length ≤ b; omega) fun t h => (bo t h).2
      · exact (c60.trans (((Same.ch (S := fun b => b = f ∨ b = L) s2).trans ((c6.mono fun b h => .inl h).trans c)).fresh fun b hb => hb.elim .inl fun h => .inr (h ▸ hL))).trans (Same.ch sA)
      · intro e
        have : ws = [] := e
        rw [this] at wl
        simp at wl
        omega
      · show Good (bonds.map (·.1))
        rw [bt]
        exact gt.take _
end
end Wy
set_option Elab.async false
set_option linter.all false
set_option maxRecDepth 100000
set_option maxHeartbeats 0
namespace Wy
open PySem PySem.Spec PyProof.Rows L2 StX
section
variable {P : Program} {w : World} {K : PySem.W.Frag} {mg : Str → Option Value} {base : Heap}
theorem nameB_len {z : Str} (h : nameB z = true) : z.length ≤ 6 := by
  rw [TL.len_tl]
  rw [nameB_C] at h
  revert h
  cases TL.tl z with
  | nil => intro _; exact Nat.zero_le _
  | cons c r =>
    intro h
    have h : (decide ((c :: r).length ≤ 6) && (letB c && (c :: r).all fun d => letB d || digB d)) = true := h
    rw [Bool.and_eq_true] at h
    exact of_decide_eq_true h.1
theorem FeedAt.ns {H : Hp} {f a : Addr} {xs : List Str} (h : FeedAt H f) (e : StrsAt H a xs) : a ≠ f := by
  obtain ⟨c, s, n, h⟩ := h
  intro z
  have e2 : H f = some (.lst (xs.map V.str)) := z ▸ e
  rw [h] at e2
  injection e2 with e2
  injection e2 with e2
  cases xs with
  | nil => simp at e2
  | cons a b => simp at e2
/-- the numbers that a change brings are small -/
def Chg.small : Chg → Prop
  | .tie t => t.2.2.2.2 ≤ 1000
  | .change _ _ hi => hi ≤ 1000
  | _ => True
theorem pick_str {xs : List Str} {i : Int} (h0 : 0 ≤ i) (h1 : i < (xs.length : Int)) : ∃ z, atI (xs.map V.str) i = some (.str z) ∧ z ∈ xs := by
  obtain ⟨k, rfl⟩ := Int.eq_ofNat_of_zero_le h0
  have hk : k < xs.length := by omega
  exact ⟨xs[k], atI_nat (by rw [List.getElem?_map, List.getElem?_eq_getElem hk]; rfl), List.getElem_mem hk⟩
theorem sc_L_change : FnScope ["_law_feed_here", "_law_spots", "_law_bonds", "_law_words_here", "_law_form", "_law_names", "_law_top", "_law_low", "_law_high", "_law_odd", "_law_name", "_law_places", "_law_at", "_law_to", "_law_bond"] ["_law_feed_here", "_law_spots", "_law_bonds", "_law_words_here"] (defScope s_L_change) := ⟨rfl, rfl, rfl, by decide +kernel, rfl, by decide +kernel, by decide +kernel⟩
def sp_L_change (K : PySem.W.Frag) : Sp := fun vs H Q _ => ∃ (f pa ta wa : Addr) (W : Wb) (ws : List Str), vs = [.ref f, .ref pa, .ref ta, .ref wa] ∧ FeedAt H f ∧ PostsAt H pa W.1 ∧ TiesAt H ta W.2 ∧ StrsAt H wa ws ∧ Valid W ∧ W.1.length ≤ 100 ∧ W.2.length ≤ 100 ∧ Good ws ∧ ws.length = 12 ∧ ∀ H' a c, Ch K (fun b => b = f) H H' → FeedAt H' f → ChgAt H' a c → c.lim → c.small → Q (.ref a) H'
theorem ok_L_change (T : W0 P w K mg) : GFn P w K mg base 2 "_law_change" (sp_L_change K) := by
  obtain ⟨fd, F⟩ := T.d_L_change
  refine ⟨T.g_L_change, F.kp, F.fr sc_L_change (fun _ _ _ _ _ _ us hl => match us, hl with | [_, _, _, _], _ => rfl) (fun vs H Q E h => by first | (obtain ⟨rfl, _⟩ := h; rfl) | (obtain ⟨_, rfl, _⟩ := h; rfl) | (obtain ⟨_, _, rfl, _⟩ := h; rfl) | (obtain ⟨_, _, _, rfl, _⟩ := h; rfl) | (obtain ⟨_, _, _, _, rfl, _⟩ := h; rfl) | (obtain ⟨_, _, _, _, _, rfl, _⟩ := h; rfl) | (obtain ⟨_, _, _, _, _, _, rfl, _⟩ := h; rfl) | (obtain ⟨_, _, _, _, _, _, _, rfl, _⟩ := h; rfl) | (obtain ⟨_, _, _, _, _, _, _, _, rfl, _⟩ := h; rfl) | (obtain ⟨_, _, _, _, _, _, _, _, _, rfl, _⟩ := h; rfl)) fun cdv A outer s H vs Q E hr h => ⟨_, (pss_cons (ps_par (i := 4) (j := 5) (by rfl) sc_L_change.nd rfl rfl (by decide) rfl rfl (pa_cons (eCall (ok_L_take T) (hr.mono (by decide)) passL (by rfl) (pa_cons (pv 0) (pa_cons pe_int pa_nil))) (pa_cons (pe_lc (own := [("_law_bond", 14)]) (by rfl) sc_L_change.nd (pi_tup (pv 2)) (blkOk_by (own := [("_law_bond", 14)]) (N := ["_law_feed_here", "_law_spots", "_law_bonds", "_law_words_here", "_law_form", "_law_names", "_law_top", "_law_low", "_law_high", "_law_odd", "_law_name", "_law_places", "_law_at", "_law_to", "_law_bond"]) (sc := defScope s_L_change) (by decide +kernel)) (fun _ _ _ _ _ => (pg_name (i := 14) sc_L_change.nd rfl (Or.inl rfl))) (fun _ _ _ _ _ => pts_nil) (fun _ _ _ _ _ => (pe_ix (kIxT (K := K) rfl) (pv 14) pe_int (fun _ _ => rfl)))) pa_nil)) (by rfl)) (pss_cons (ps_set (i := 6) sc_L_change.nd rfl (Or.inl rfl) (pe_ix (kIxL (K := K) rfl) (pe_lst (pa_cons pe_int (pa_cons pe_int (pa_cons pe_int (pa_cons pe_int pa_nil))))) (eCall (ok_L_take T) (hr.mono (by decide)) passL (by rfl) (pa_cons (pv 0) (pa_cons pe_int pa_nil))) (fun _ _ => rfl))) (pss_cons (ps_set (i := 7) sc_L_change.nd rfl (Or.inl rfl) (eCall (ok_L_take T) (hr.mono (by decide)) passL (by rfl) (pa_cons (pv 0) (pa_cons (pv 6) pa_nil)))) (pss_cons (ps_set (i := 8) sc_L_change.nd rfl (Or.inl rfl) (pe_op op_sub (pe_callB (call_min2 rfl) (by rfl) T.f_min (by decide +kernel) (pa_cons pe_int (pa_cons (pe_op op_add (pv 7) (eCall (ok_L_take T) (hr.mono (by decide)) passL (by rfl) (pa_cons (pv 0) (pa_cons (pv 6) pa_nil)))) pa_nil))) (pe_op op_mul pe_int (pe_callTy call_int1 (by rfl) T.f_int (by decide +kernel) (pa_cons (pe_cmpR op_eq (eCall (ok_L_take T) (hr.mono (by decide)) passL (by rfl) (pa_cons (pv 0) (pa_cons pe_int pa_nil))) pe_int (nomark _)) pa_nil))))) (pss_cons (ps_set (i := 9) sc_L_change.nd rfl (Or.inl rfl) (pe_ix (kIxL (K := K) rfl) (pe_lst (pa_cons pe_str (pa_cons pe_str (pa_cons pe_str (pa_cons pe_str (pa_cons pe_str (pa_cons pe_str (pa_cons pe_str (pa_cons pe_str pa_nil))))))))) (eCall (ok_L_take T) (hr.mono (by decide)) passL (by rfl) (pa_cons (pv 0) (pa_cons pe_int pa_nil))) (fun _ _ => rfl))) (pss_cons (ps_set (i := 10) sc_L_change.nd rfl (Or.inl rfl) (pe_ix (kIxL (K := K) rfl) (pe_op op_cat (pv 5) (pv 3)) (eCall (ok_L_take T) (hr.mono (by decide)) passL (by rfl) (pa_cons (pv 0) (pa_cons (pe_op op_add (pe_callB call_len_seq (by rfl) T.f_len PySem.boot_len (pa_cons (pv 5) pa_nil)) (pe_callB call_len_seq (by rfl) T.f_len PySem.boot_len (pa_cons (pv 3) pa_nil))) pa_nil))) (fun _ _ => rfl))) (C8.pss_cut (ps_if (pt_cmpR op_eq (eCall (ok_L_take T) (hr.mono (by decide)) passL (by rfl) (pa_cons (pv 0) (pa_cons pe_int pa_nil))) pe_int (nomark _)) (pss_one (ps_set (i := 10) sc_L_change.nd rfl (Or.inl rfl) (pv 9))) pss_nil) (pss_cons (ps_set (i := 11) sc_L_change.nd rfl (Or.inl rfl) (pe_op op_cat (pe_callTy call_list_of (by rfl) T.f_list (by decide +kernel) (pa_cons (pv 1) pa_nil)) (pe_op op_rep (pe_lst (pa_cons (pv 9) pa_nil)) (pe_callTy call_int1 (by rfl) T.f_int (by decide +kernel) (pa_cons (pe_cmpR op_eq (eCall (ok_L_take T) (hr.mono (by decide)) passL (by rfl) (pa_cons (pv 0) (pa_cons pe_int pa_nil))) pe_int (nomark _)) pa_nil))))) (C8.pss_cut (ps_if (PW.pt (pw_and (pt_cmpR op_lt (pv 4) pe_int (nomark _)) (pw_and1 (pt_cmpR op_lt (pe_callB call_len_seq (by rfl) T.f_len PySem.boot_len (pa_cons (pv 2) pa_nil)) pe_int (nomark _))))) (pss_cons (ps_par (i := 12) (j := 13) (by rfl) sc_L_change.nd rfl rfl (by decide) rfl rfl (pa_cons (eCall (ok_L_take T) (hr.mono (by decide)) passL (by rfl) (pa_cons (pv 0) (pa_cons (pe_callB call_len_seq (by rfl) T.f_len PySem.boot_len (pa_cons (pv 11) pa_nil)) pa_nil))) (pa_cons (eCall (ok_L_take T) (hr.mono (by decide)) passL (by rfl) (pa_cons (pv 0) (pa_cons (pe_callB call_len_seq (by rfl) T.f_len PySem.boot_len (pa_cons (pv 11) pa_nil)) pa_nil))) pa_nil)) (by rfl)) (pss_one (ps_ret (pe_tup (pa_cons pe_str (pa_cons (pv 10) (pa_cons (pe_ix (kIxL (K := K) rfl) (pv 11) (pv 12) (fun _ _ => rfl)) (pa_cons (pe_ix (kIxL (K := K) rfl) (pv 11) (pv 13) (fun _ _ => rfl)) (pa_cons (pv 7) (pa_cons (pv 8) pa_nil)))))))))) pss_nil) (C8.pss_cut (ps_if (PW.pt (pw_and (pt_cmpR op_lt (pv 4) pe_int (nomark _)) (pw_and1 (pt_cmpR op_lt (pe_callB call_len_seq (by rfl) T.f_len PySem.boot_len (pa_cons (pv 1) pa_nil)) pe_int (nomark _))))) (pss_one (ps_ret (pe_tup (pa_cons pe_str (pa_cons (pv 10) pa_nil))))) pss_nil) (C8.pss_cut (ps_if (pt_cmpR op_lt (pv 4) pe_int (nomark _)) (pss_one (ps_ret (pe_tup (pa_cons pe_str (pa_cons (pv 10) pa_nil))))) pss_nil) (pss_one (ps_ret (pe_tup (pa_cons pe_str (pa_cons (pv 10) (pa_cons (pv 7) (pa_cons (pv 8) pa_nil)))))))))))))))))), ?_⟩⟩
  obtain ⟨f, pa, ta, wa, W, ws, rfl, hF, hpa, hta, hwa, hv, pl, tl, gw, wl, q⟩ := h
  refine ⟨_, rfl, f, 10, rfl, hF, by decide, by decide, fun H1 fo c1 hF1 fo0 fo1 => ?_⟩
  obtain ⟨as, hta2, hts⟩ := id hta
  have pf : pa ≠ f := by
    obtain ⟨_, _, _, z⟩ := hF
    exact ne_of hpa z (by intro z; cases z)
  have tf : ta ≠ f := by
    obtain ⟨_, _, _, z⟩ := hF
    exact ne_of hta2 z (by intro z; cases z)
  have wf : wa ≠ f := hF.ns hwa
  have hta1 := c1.at hta2 tf
  refine ⟨_, rfl, ta, rfl, ⟨_, SqT.of hta1⟩, fun D hD => ?_⟩
  have Df : D ≠ f := hF1.nn hD
  have al : as.length = W.2.length := paired_len hts
  refine lc_acc walk_tup hD (fun j => ((names W).take j).map V.str) rfl (fun j hj => lt_size ?_) (fun H3 sm3 => SqT.of (sm3 _ _ hta1)) (fun j x H3 H4 hj sm3 y Yes No hy hn => ?_) fun H3 sm3 e4 => ?_
  · rw [List.length_map, List.length_take]
    rw [List.length_map] at hj
    omega
  · obtain ⟨eH, ex⟩ := y
    subst eH
    rw [List.getElem?_map] at ex
    obtain ⟨a, ea, ex2⟩ := Option.map_eq_some_iff.mp ex
    subst ex2
    obtain ⟨t, et, hat⟩ := paired_get' hts ea
    refine ⟨rfl, _, rfl, a, _, _, _, rfl, rfl, SqT.of (sm3 _ _ (c1.at hat (fun z => by obtain ⟨_, _, _, q⟩ := hF; exact ne_of hat q (by intro z; cases z) z))), atI_nat (j := 0) rfl, hy _ _ same_rfl ?_⟩
    have : (names W)[j]? = some t.1 := by unfold names; rw [List.getElem?_map, et]; rfl
    rw [take_snoc this, List.map_append]
    rfl
  have e4 : H3 D = some (.lst ((names W).map V.str)) := by
    rw [e4]
    have : (names W).take (as.map V.ref).length = names W := List.take_of_length_le (by unfold names; rw [List.length_map, List.length_map, al]; exact Nat.le_refl _)
    rw [this]
  have c3 : Ch K (fun b => b = f) H H3 := c1.trans (Same.ch sm3)
  have hF3 := hF1.same sm3
  refine ⟨_, _, rfl, (by show 4 ≤ sizeLine; decide), fun l hl => ?_⟩
  have s1 := same_upd (o := .lst [.int 10, .int 10, .int 10, .int 700]) hl
  refine ⟨_, rfl, f, 4, rfl, hF3.same s1, by decide, by decide, fun H4 i c4 hF4 i0 i4 => ?_⟩
  have lf : l ≠ f := hF3.nn hl
  have hl4 := c4.at (upd_same (H := H3)) lf
  have ix : ∃ z : Int, atI [V.int 10, V.int 10, V.int 10, V.int 700] i = some (.int z) ∧ 0 < z ∧ z ≤ 700 := by
    rcases (show i = 0 ∨ i = 1 ∨ i = 2 ∨ i = 3 by omega) with rfl | rfl | rfl | rfl
    · exact ⟨10, atI_nat (j := 0) rfl, by decide, by decide⟩
    · exact ⟨10, atI_nat (j := 1) rfl, by decide, by decide⟩
    · exact ⟨10, atI_nat (j := 2) rfl, by decide, by decide⟩
    · exact ⟨700, atI_nat (j := 3) rfl, by decide, by decide⟩
  obtain ⟨top, htop, tp0, tp1⟩ := ix
  refine ⟨l, _, _, _, rfl, rfl, SqL.of hl4, htop, ?_⟩
  refine ⟨_, rfl, _, rfl, f, top, rfl, hF4, tp0, by omega, fun H5 low c5 hF5 lo0 lo1 => ?_⟩
  refine ⟨_, rfl, _, rfl, _, rfl, f, top, rfl, hF5, tp0, by omega, fun H6 r c6 hF6 r0 r1 => ?_⟩
  refine ⟨_, _, rfl, rfl, _, _, rfl, _, rfl, f, 8, rfl, hF6, by decide, by decide, fun H7 u c7 hF7 _ _ => ⟨rfl, .inr ⟨_, rfl, 3, _, rfl, rfl, .inl ⟨by decide, by decide⟩, _, _, rfl, rfl, ?_⟩⟩⟩
  have hi1 : (if low + r < 1000 then low + r else 1000) - 3 * (if decide (V.int u = V.int 0) = true then (1 : Int) else 0) ≤ 1000 := by split <;> split <;> omega
  have c8 := ((((c3.trans (Same.ch s1)).trans c4).trans c5).trans c6).trans c7
  refine ⟨(by show 8 ≤ sizeLine; decide), fun o ho => ⟨_, rfl, f, 8, rfl, hF7.same (same_upd ho), by decide, by decide, fun H8 j c9 hF8 j0 j8 => ?_⟩⟩
  have of : o ≠ f := hF7.nn ho
  obtain ⟨odd, hodd, oddm⟩ := pick_str (xs := [Str.ofString "A", Str.ofString "", Str.ofString "abcdefg", Str.ofString "1a", Str.ofString "zzzzz1", Str.ofString " a", Str.ofString "a ", Str.ofString "a\n"]) j0 j8
  have oddl : odd.length ≤ 10 := (by decide +kernel : ∀ z ∈ [Str.ofString "A", Str.ofString "", Str.ofString "abcdefg", Str.ofString "1a", Str.ofString "zzzzz1", Str.ofString " a", Str.ofString "a ", Str.ofString "a\n"], z.length ≤ 10) odd oddm
  refine ⟨o, _, _, _, rfl, rfl, SqL.of (c9.at upd_same of), hodd, ?_⟩
  have c10 := (c8.trans (ch_new (K := K) (S := fun b => b = f) ho)).trans c9
  have nD : (names W).length = W.2.length := by unfold names; rw [List.length_map]
  have hD8 : H8 D = some (.lst ((names W).map V.str)) := by
    have c11 := ((((Same.ch (K := K) (S := fun b => b = f) s1).trans c4).trans c5).trans c6).trans c7
    exact c9.at ((same_upd ho) _ _ (c11.at e4 Df)) Df
  have hw8 : H8 wa = some (.lst (ws.map V.str)) := c10.at hwa wf
  refine ⟨_, rfl, _, rfl, D, wa, _, _, rfl, rfl, hD8, hw8, (by rw [List.length_map, List.length_map]; exact Nat.le_of_lt (lt_size (by omega))), fun p hp => ?_⟩
  have s2 := same_upd (o := .lst ((names W).map V.str ++ ws.map V.str)) hp
  refine ⟨_, rfl, _, rfl, D, _, rfl, .inl (SqL.of (s2 _ _ hD8)), _, rfl, wa, _, rfl, .inl (SqL.of (s2 _ _ hw8)), _, _, rfl, rfl, f, _, rfl, hF8.same s2, (by rw [List.length_map, List.length_map]; omega), (by rw [List.length_map, List.length_map]; omega), fun H9 k c11 hF9 k0 k1 => ?_⟩
  have pf2 : p ≠ f := hF8.nn hp
  have hp9 : H9 p = some (.lst ((names W ++ ws).map V.str)) := by
    rw [List.map_append]
    exact c11.at upd_same pf2
  obtain ⟨nm, hnm, nmm⟩ := pick_str (xs := names W ++ ws) k0 (by rw [List.length_map, List.length_map] at k1; rw [List.length_append]; omega)
  have nml : nm.length ≤ 1000 := by
    have : nm.length ≤ 6 := nameB_len (by
      rcases List.mem_append.mp nmm with h | h
      · exact hv.ties.1 nm h
      · exact gw.1 nm h)
    omega
  have c12 := (c10.trans (Same.ch s2)).trans c11
  refine ⟨p, _, _, _, rfl, rfl, SqL.of hp9, hnm, ?_⟩
  refine ⟨fun σ H2 => (∃ (nm : Str) (top hi : Int), nm.length ≤ 1000 ∧ hi ≤ 1000 ∧ σ = [some (.ref f), some (.ref pa), some (.ref ta), some (.ref wa), some (.int fo), some (.ref D), some (.int top), some (.int low), some (.int hi), some (.str odd), some (.str nm), none, none, none, none]) ∧ Ch K (fun b => b = f) H H2 ∧ FeedAt H2 f, ?_, ?_⟩
  · refine ⟨_, rfl, f, 12, rfl, hF9, by decide, by decide, fun H10 v c13 hF10 _ _ => ⟨rfl, _, rfl, iteB (fun e => ?_) fun e => ?_⟩⟩
    · exact ⟨_, rfl, ⟨odd, _, _, by omega, hi1, rfl⟩, c12.trans c13, hF10⟩
    · exact ⟨⟨nm, _, _, nml, hi1, rfl⟩, c12.trans c13, hF10⟩
  · rintro σ' H10 ⟨⟨nm, top, hi, nml, hi1, rfl⟩, c13, hF10⟩
    have hp10 : H10 pa = some (.tup (W.1.map V.str)) := c13.at hpa pf
    refine ⟨_, rfl, pa, _, rfl, .inr (SqT.of hp10), fun l1 hl1 => ⟨_, rfl, (by show 1 ≤ sizeLine; decide), fun l2 hl2 => ?_⟩⟩
    have s3 := same_upd (o := .lst (W.1.map V.str)) hl1
    have s4 := same_upd (o := .lst [.str odd]) hl2
    refine ⟨_, rfl, f, 8, rfl, (hF10.same s3).same s4, by decide, by decide, fun H11 v c14 hF11 _ _ => ⟨rfl, .inr ⟨_, rfl, ?_⟩⟩⟩
    have l1f : l1 ≠ f := hF10.nn hl1
    have l2f : l2 ≠ f := (hF10.same s3).nn hl2
    have g1 : H11 l1 = some (.lst (W.1.map V.str)) := c14.at (s4 _ _ upd_same) l1f
    have g2 : H11 l2 = some (.lst [.str odd]) := c14.at upd_same l2f
    have kx : ∃ k : Nat, (if decide (V.int v = V.int 0) = true then (1 : Int) else 0) = (k : Int) ∧ k ≤ 1 := by
      split
      · exact ⟨1, rfl, Nat.le_refl _⟩
      · exact ⟨0, rfl, by decide⟩
    obtain ⟨k, hk, k1⟩ := kx
    have fl : (List.replicate (k : Int).toNat [V.str odd]).flatten = (List.replicate k odd).map V.str := by
      rcases (show k = 0 ∨ k = 1 by omega) with rfl | rfl <;> rfl
    refine ⟨l2, (k : Int), _, rfl, congrArg V.int hk, g2, by omega, by omega, (by show 1 * (k : Int).toNat ≤ sizeLine; exact Nat.le_trans (show 1 * (k : Int).toNat ≤ 1 by omega) (by decide)), fun l3 hl3 => ?_⟩
    rw [fl]
    have s5 := same_upd (o := .lst ((List.replicate k odd).map V.str)) hl3
    have kl : (List.replicate k odd).length = k := List.length_replicate
    refine ⟨l1, l3, _, _, rfl, rfl, s5 _ _ g1, upd_same, (by rw [List.length_map, List.length_map, kl]; exact Nat.le_of_lt (lt_size (by omega))), fun q1 hq1 => ?_⟩
    rw [← List.map_append]
    have s6 := same_upd (o := .lst ((W.1 ++ List.replicate k odd).map V.str)) hq1
    have c15 : Ch K (fun b => b = f) H _ := (((((c13.trans (Same.ch s3)).trans (Same.ch s4)).trans c14).trans (Same.ch s5)).trans (Same.ch s6))
    have hF12 := (hF11.same s5).same s6
    have hq2 : (upd (upd H11 l3 (.lst ((List.replicate k odd).map V.str))) q1 (.lst ((W.1 ++ List.replicate k odd).map V.str))) q1 = some (.lst ((W.1 ++ List.replicate k odd).map V.str)) := upd_same
    have hta12 := c15.at hta2 tf
    have hpa12 := c15.at hpa pf
    generalize upd (upd H11 l3 (.lst ((List.replicate k odd).map V.str))) q1 (.lst ((W.1 ++ List.replicate k odd).map V.str)) = H12 at s6 c15 hF12 hq2 hta12 hpa12 ⊢
    have q1f : q1 ≠ f := hF12.ns hq2
    refine ⟨fun σ H' => (∃ o12 o13, σ = [some (.ref f), some (.ref pa), some (.ref ta), some (.ref wa), some (.int fo), some (.ref D), some (.int top), some (.int low), some (.int hi), some (.str odd), some (.str nm), some (.ref q1), o12, o13, none]) ∧ H' = H12, ?_, ?_⟩
    · refine ⟨_, rfl, _, _, rfl, rfl, _, rfl, iteB (fun e => ⟨_, rfl, ta, _, rfl, .inr (SqT.of hta12), _, _, rfl, rfl, _, rfl, iteB (fun e => ?_) fun e => ⟨⟨_, _, rfl⟩, rfl⟩⟩) fun e => ⟨⟨_, _, rfl⟩, rfl⟩⟩
      have plen : 0 < (W.1 ++ List.replicate k odd).length := by
        rw [List.length_append]
        have : W.1.length ≠ 0 := fun z => hv.ne (List.eq_nil_of_length_eq_zero z)
        omega
      have plen2 : (W.1 ++ List.replicate k odd).length ≤ 1000 := by rw [List.length_append, kl]; omega
      refine ⟨_, rfl, _, rfl, q1, _, rfl, .inl (SqL.of hq2), f, _, rfl, hF12, (by rw [List.length_map]; omega), (by rw [List.length_map]; omega), fun H13 x c16 hF13 x0 x1 => ?_⟩
      refine ⟨_, rfl, _, rfl, q1, _, rfl, .inl (SqL.of (c16.at hq2 q1f)), f, _, rfl, hF13, (by rw [List.length_map]; omega), (by rw [List.length_map]; omega), fun H14 y c17 hF14 y0 y1 => ?_⟩
      rw [List.length_map] at x1 y1
      obtain ⟨px, hpx, _⟩ := pick_str x0 x1
      obtain ⟨py, hpy, _⟩ := pick_str y0 y1
      have hq4 := c17.at (c16.at hq2 q1f) q1f
      exact ⟨_, _, rfl, _, rfl, _, rfl, _, rfl, q1, _, _, _, rfl, rfl, SqL.of hq4, hpx, _, rfl, _, rfl, q1, _, _, _, rfl, rfl, SqL.of hq4, hpy, _, rfl, _, rfl, (by show 6 ≤ sizeLine; decide), fun t ht => q _ t (.tie (nm, px, py, low, hi)) (((c15.trans c16).trans c17).trans (ch_new ht)) (hF14.same (same_upd ht)) upd_same nml hi1⟩
    · rintro σ' H' ⟨⟨o12, o13, rfl⟩, rfl⟩
      refine ⟨fun σ H2 => (∃ o12 o13, σ = [some (.ref f), some (.ref pa), some (.ref ta), some (.ref wa), some (.int fo), some (.ref D), some (.int top), some (.int low), some (.int hi), some (.str odd), some (.str nm), some (.ref q1), o12, o13, none]) ∧ H2 = H', ?_, ?_⟩
      · refine ⟨_, rfl, _, _, rfl, rfl, _, rfl, iteB (fun e => ⟨_, rfl, pa, _, rfl, .inr (SqT.of hpa12), _, _, rfl, rfl, _, rfl, iteB (fun e => ?_) fun e => ⟨⟨_, _, rfl⟩, rfl⟩⟩) fun e => ⟨⟨_, _, rfl⟩, rfl⟩⟩
        exact ⟨_, rfl, (by show 2 ≤ sizeLine; decide), fun t ht => q _ t (.post nm) (c15.trans (ch_new ht)) (hF12.same (same_upd ht)) upd_same nml trivial⟩
      · rintro σ2 H2 ⟨⟨o12, o13, rfl⟩, rfl⟩
        refine ⟨fun σ H3 => (∃ o12 o13, σ = [some (.ref f), some (.ref pa), some (.ref ta), some (.ref wa), some (.int fo), some (.ref D), some (.int top), some (.int low), some (.int hi), some (.str odd), some (.str nm), some (.ref q1), o12, o13, none]) ∧ H3 = H2, ?_, ?_⟩
        · refine ⟨_, rfl, _, _, rfl, rfl, _, rfl, iteB (fun e => ?_) fun e => ⟨⟨_, _, rfl⟩, rfl⟩⟩
          exact ⟨_, rfl, (by show 2 ≤ sizeLine; decide), fun t ht => q _ t (.cut nm) (c15.trans (ch_new ht)) (hF12.same (same_upd ht)) upd_same trivial trivial⟩
        · rintro σ3 H3 ⟨⟨o12, o13, rfl⟩, rfl⟩
          exact ⟨_, rfl, _, rfl, _, rfl, (by show 4 ≤ sizeLine; decide), fun t ht => q _ t (.change nm low hi) (c15.trans (ch_new ht)) (hF12.same (same_upd ht)) upd_same trivial hi1⟩
end
end Wy
set_option Elab.async false
set_option linter.all false
set_option maxRecDepth 100000
set_option maxHeartbeats 0
namespace Wy
open PySem PySem.Spec PyProof.Rows L2 StX
section
variable {P : Program} {w : World} {K : PySem.W.Frag} {mg : Str → Option Value} {base : Heap}
def Chg.nm : Chg → Str
  | .tie t => t.1
  | .cut n => n
  | .change n _ _ => n
  | .post n => n
theorem Chg.at0 (c : Chg) : atI c.vals 0 = some (.str c.word) := by cases c <;> exact atI_nat (j := 0) rfl
theorem Chg.at1 (c : Chg) : atI c.vals 1 = some (.str c.nm) := by cases c <;> exact atI_nat (j := 1) rfl
def Chg.ren (z : Str) : Chg → Chg
  | .cut _ => .cut z
  | .change _ lo hi => .change z lo hi
  | c => c
theorem Chg.ren_ok {c : Chg} {z : Str} (e : inV (.str c.word) [V.str (Str.ofString "cut"), V.str (Str.ofString "change")] = true) (hs : c.small) : (cutV c.vals none (some 1) ++ [V.str z]) ++ cutV c.vals (some 2) none = (c.ren z).vals ∧ (c.ren z).lim ∧ (c.ren z).small := by
  have e1 : cutV c.vals none (some 1) = c.vals.take 1 := cutV_take c.vals 1
  have e2 : cutV c.vals (some 2) none = c.vals.drop 2 := cutV_drop c.vals 2
  rw [e1, e2]
  cases c with
  | tie t =>
    exfalso
    revert e
    show inV (.str (Str.ofString "tie")) _ = true → False
    decide +kernel
  | cut n => exact ⟨rfl, trivial, trivial⟩
  | change n lo hi => exact ⟨rfl, trivial, hs⟩
  | post n =>
    exfalso
    revert e
    show inV (.str (Str.ofString "post")) _ = true → False
    decide +kernel
theorem sc_L_some : FnScope ["_law_feed_here", "_law_web_here", "_law_words_here", "_law_found", "_law_turn", "_law_change_here", "_law_is_full", "_law_title"] ["_law_feed_here", "_law_web_here", "_law_words_here"] (defScope s_L_some) := ⟨rfl, rfl, rfl, by decide +kernel, rfl, by decide +kernel, by decide +kernel⟩
def sp_L_some (K : PySem.W.Frag) : Sp := fun vs H Q _ => ∃ (f a wa : Addr) (W : Wb) (ws : List Str), vs = [.ref f, .ref a, .ref wa] ∧ FeedAt H f ∧ WebAt K H a W ∧ StrsAt H wa ws ∧ Valid W ∧ W.1.length ≤ 100 ∧ W.2.length ≤ 100 ∧ Good ws ∧ ws.length = 12 ∧ ∀ H' D as cs, Ch K (fun b => b = f) H H' → FeedAt H' f → H D = none → H' D = some (.lst (as.map V.ref)) → Paired (ChgAt H') as cs → 1 ≤ cs.length → cs.length ≤ 3 → (∀ c ∈ cs, c.lim ∧ c.small) → Q (.ref D) H'
theorem ok_L_some (T : W0 P w K mg) : GFn P w K mg base 3 "_law_some" (sp_L_some K) := by
  obtain ⟨fd, F⟩ := T.d_L_some
  refine ⟨T.g_L_some, F.kp, F.fr sc_L_some (fun _ _ _ _ _ _ us hl => match us, hl with | [_, _, _], _ => rfl) (fun vs H Q E h => by first | (obtain ⟨rfl, _⟩ := h; rfl) | (obtain ⟨_, rfl, _⟩ := h; rfl) | (obtain ⟨_, _, rfl, _⟩ := h; rfl) | (obtain ⟨_, _, _, rfl, _⟩ := h; rfl) | (obtain ⟨_, _, _, _, rfl, _⟩ := h; rfl) | (obtain ⟨_, _, _, _, _, rfl, _⟩ := h; rfl) | (obtain ⟨_, _, _, _, _, _, rfl, _⟩ := h; rfl) | (obtain ⟨_, _, _, _, _, _, _, rfl, _⟩ := h; rfl) | (obtain ⟨_, _, _, _, _, _, _, _, rfl, _⟩ := h; rfl) | (obtain ⟨_, _, _, _, _, _, _, _, _, rfl, _⟩ := h; rfl)) fun cdv A outer s H vs Q E hr h => ⟨_, (pss_cons (ps_set (i := 3) sc_L_some.nd rfl (Or.inl rfl) (pe_lst pa_nil)) (pss_cons (ps_for (passes_of rfl) rfl (pi_range1 (by rfl) T.f_range (pa_cons (pe_op op_add pe_int (eCall (ok_L_take T) (hr.mono (by decide)) passL (by rfl) (pa_cons (pv 0) (pa_cons pe_int pa_nil)))) pa_nil)) (pg_name (i := 4) sc_L_some.nd rfl (Or.inl rfl)) (pss_cons (ps_set (i := 5) sc_L_some.nd rfl (Or.inl rfl) (eCall (ok_L_change T) (hr.mono (by decide)) passL (by rfl) (pa_cons (pv 0) (pa_cons (eProp T.c_Web (ok_Web_posts T) (hr.mono (by decide)) (pv 1)) (pa_cons (eProp T.c_Web (ok_Web_ties T) (hr.mono (by decide)) (pv 1)) (pa_cons (pv 2) pa_nil)))))) (C8.pss_cut (ps_set (i := 6) sc_L_some.nd rfl (Or.inl rfl) (pe_and (pe_cmpR op_eq (pe_ix (kIxT (K := K) rfl) (pv 5) pe_int (fun _ _ => rfl)) pe_str (nomark _)) (pe_one (pe_cmpR op_gt (pe_callB call_len_seq (by rfl) T.f_len PySem.boot_len (pa_cons (eProp T.c_Web (ok_Web_posts T) (hr.mono (by decide)) (pv 1)) pa_nil)) pe_int (nomark _))))) (C8.pss_cut (ps_set (i := 5) sc_L_some.nd rfl (Or.inl rfl) (pe_ifExp (pt_val (pv 6)) (pe_tup (pa_cons pe_str (pa_cons (pe_ix (kIxT (K := K) rfl) (pv 5) pe_int (fun _ _ => rfl)) pa_nil))) (pv 5))) (C8.pss_cut (ps_if (PW.pt (pw_and (pt_cmpR (kIn (K := K) rfl) (pe_ix (kIxT (K := K) rfl) (pv 5) pe_int (fun _ _ => rfl)) (pe_tup (pa_cons pe_str (pa_cons pe_str pa_nil))) (by rfl)) (pw_and (pt_cmpR op_gt (pe_callB call_len_seq (by rfl) T.f_len PySem.boot_len (pa_cons (eProp T.c_Web (ok_Web_ties T) (hr.mono (by decide)) (pv 1)) pa_nil)) pe_int (nomark _)) (pw_and1 (pt_cmpR op_eq (eCall (ok_L_take T) (hr.mono (by decide)) passL (by rfl) (pa_cons (pv 0) (pa_cons pe_int pa_nil))) pe_int (nomark _)))))) (pss_cons (ps_set (i := 7) sc_L_some.nd rfl (Or.inl rfl) (pe_ix (kIxT (K := K) rfl) (pe_ix (kIxT (K := K) rfl) (eProp T.c_Web (ok_Web_ties T) (hr.mono (by decide)) (pv 1)) (eCall (ok_L_take T) (hr.mono (by decide)) passL (by rfl) (pa_cons (pv 0) (pa_cons (pe_callB call_len_seq (by rfl) T.f_len PySem.boot_len (pa_cons (eProp T.c_Web (ok_Web_ties T) (hr.mono (by decide)) (pv 1)) pa_nil)) pa_nil))) (fun _ _ => rfl)) pe_int (fun _ _ => rfl))) (pss_one (ps_set (i := 5) sc_L_some.nd rfl (Or.inl rfl) (pe_op op_catU (pe_op op_catU (pe_slice sl_tupU (pv 5) po_none (po_some pe_int)) (pe_tup (pa_cons (pv 7) pa_nil))) (pe_slice sl_tupU (pv 5) (po_some pe_int) po_none))))) pss_nil) (pss_one (ps_expr (pe_bm PySem.F.plainAttrs_list PySem.F.slot_list_append PySem.F.type_list_append mt_append (pv 3) (pa_cons (pv 5) pa_nil))))))))) (pss_one (ps_ret (pv 3))))), ?_⟩⟩
  obtain ⟨f, a, wa, W, ws, rfl, hF, hw, hwa, hv, pl, tl, gw, wl, q⟩ := h
  obtain ⟨dw, pa, ta, ew, hp, ht⟩ := id hw
  obtain ⟨bs, ht2, hts⟩ := id ht
  refine ⟨(by show 0 ≤ sizeLine; decide), fun D hD => ?_⟩
  have Df : D ≠ f := hF.nn hD
  have hF0 := hF.same (same_upd (o := .lst []) hD)
  refine ⟨_, rfl, f, 3, rfl, hF0, by decide, by decide, fun H1 n c1 hF1 n0 n3 => ?_⟩
  obtain ⟨n, rfl⟩ := Int.eq_ofNat_of_zero_le n0
  have hD1 : H1 D = some (.lst []) := c1.at upd_same Df
  refine ⟨_, _, rfl, rfl, _, rfl, by omega, by omega, ?_⟩
  have tn : ((1 : Int) + (n : Int)).toNat = n + 1 := by omega
  refine for_range (fun i σ H' => (∃ o4 o5 o6 o7, σ = [some (.ref f), some (.ref a), some (.ref wa), some (.ref D), o4, o5, o6, o7]) ∧ Ch K (fun b => b = f ∨ b = D) H1 H' ∧ FeedAt H' f ∧ ∃ as cs, H' D = some (.lst (as.map V.ref)) ∧ Paired (ChgAt H') as cs ∧ cs.length = i ∧ ∀ c ∈ cs, c.lim ∧ c.small)
    ⟨⟨_, _, _, _, rfl⟩, Ch.refl, hF1, [], [], hD1, .nil, rfl, fun c h => (by cases h)⟩ (fun i σ H' hi p => ?_) fun σ H' p => ?_
  · obtain ⟨⟨o4, o5, o6, o7, rfl⟩, c, hF2, as, cs, hD2, hcs, cl, ok⟩ := p
    have il : i < n + 1 := by rw [← tn]; exact hi
    have im0 : Im K H H' := ((Same.im (K := K) (same_upd (o := .lst []) hD)).trans c1.im).trans c.im
    obtain ⟨dw, pa, ta, ew, hp, ht⟩ := hw.im im0
    have wf : wa ≠ f := hF.ns hwa
    have wD : wa ≠ D := fun z => by rw [z] at hwa; have e : H D = some (.lst (ws.map V.str)) := hwa; rw [hD] at e; cases e
    have hw2 : StrsAt H' wa ws := c.at (c1.at ((same_upd (o := .lst []) hD) _ _ hwa) wf) fun z => z.elim wf wD
    refine ⟨_, rfl, _, rfl, a, dw, _, _, rfl, ew, rfl, _, rfl, a, dw, _, _, rfl, ew, rfl, _, rfl, f, pa, ta, wa, W, ws, rfl, hF2, hp, ht, hw2, hv, pl, tl, gw, wl, fun H2 ca ch c2 hF3 hca chl chs => ?_⟩
    have hD3 := c2.at hD2 Df
    obtain ⟨dw2, pa2, ta2, ew2, hp2, ht2'⟩ := (hw.im im0).im c2.im
    refine ⟨fun σ H3 => (∃ (b : Bool) (o4 o7 : Option V), σ = [some (.ref f), some (.ref a), some (.ref wa), some (.ref D), o4, some (.ref ca), some (.bl b), o7]) ∧ H3 = H2, ?_, ?_⟩
    · refine ⟨_, rfl, ca, _, _, _, rfl, rfl, SqT.of hca, ch.at0, rfl, _, rfl, iteB (fun e => ?_) fun e => ⟨⟨_, _, _, rfl⟩, rfl⟩⟩
      exact ⟨_, rfl, a, dw2, _, _, rfl, ew2, rfl, pa2, _, rfl, .inr (SqT.of hp2), _, _, rfl, rfl, ⟨_, _, _, rfl⟩, rfl⟩
    rintro σ3 H3 ⟨⟨b, o4, o7, rfl⟩, rfl⟩
    refine ⟨fun σ H4 => (∃ (ca : Addr) (ch : Chg) (o4 o6 o7 : Option V), σ = [some (.ref f), some (.ref a), some (.ref wa), some (.ref D), o4, some (.ref ca), o6, o7] ∧ ChgAt H4 ca ch ∧ ch.lim ∧ ch.small) ∧ Same H3 H4, ?_, ?_⟩
    · refine ⟨_, rfl, _, rfl, iteB (fun e => ?_) fun e => ?_⟩
      · exact ⟨_, rfl, ca, _, _, _, rfl, rfl, SqT.of hca, ch.at1, (by show 2 ≤ sizeLine; decide), fun t ht => ⟨⟨t, .cut ch.nm, _, _, _, rfl, upd_same, trivial, trivial⟩, same_upd ht⟩⟩
      · exact ⟨_, rfl, ⟨ca, ch, _, _, _, rfl, hca, chl, chs⟩, same_rfl⟩
    rintro σ4 H4 ⟨⟨ca, ch, o4, o6, o7, rfl, hca, chl, chs⟩, sm⟩
    have hF4 := hF3.same sm
    refine ⟨fun σ H5 => (∃ (ca : Addr) (ch : Chg) (o4 o6 o7 : Option V), σ = [some (.ref f), some (.ref a), some (.ref wa), some (.ref D), o4, some (.ref ca), o6, o7] ∧ ChgAt H5 ca ch ∧ ch.lim ∧ ch.small) ∧ Ch K (fun b => b = f) H4 H5 ∧ FeedAt H5 f, ?_, ?_⟩
    · obtain ⟨dw4, pa4, ta4, ew4, hp4, ht4⟩ := ((hw.im im0).im c2.im).im (Same.im (K := K) sm)
      obtain ⟨bs4, hb4, hts4⟩ := id ht4
      have fall : ∃ (ca' : Addr) (ch' : Chg) (p4 p6 p7 : Option V), [some (V.ref f), some (.ref a), some (.ref wa), some (.ref D), o4, some (.ref ca), o6, o7] = [some (.ref f), some (.ref a), some (.ref wa), some (.ref D), p4, some (.ref ca'), p6, p7] ∧ ChgAt H4 ca' ch' ∧ ch'.lim ∧ ch'.small := ⟨ca, ch, _, _, _, rfl, hca, chl, chs⟩
      refine ⟨_, rfl, ca, _, _, _, rfl, rfl, SqT.of hca, ch.at0, (by show 2 ≤ sizeLine; decide), fun t ht => ?_⟩
      have s7 := same_upd (o := .tup [.str (Str.ofString "cut"), .str (Str.ofString "change")]) ht
      have fall7 : (∃ (ca' : Addr) (ch' : Chg) (p4 p6 p7 : Option V), [some (V.ref f), some (.ref a), some (.ref wa), some (.ref D), o4, some (.ref ca), o6, o7] = [some (.ref f), some (.ref a), some (.ref wa), some (.ref D), p4, some (.ref ca'), p6, p7] ∧ ChgAt (upd H4 t (.tup [.str (Str.ofString "cut"), .str (Str.ofString "change")])) ca' ch' ∧ ch'.lim ∧ ch'.small) ∧ Ch K (fun b => b = f) H4 (upd H4 t (.tup [.str (Str.ofString "cut"), .str (Str.ofString "change")])) ∧ FeedAt (upd H4 t (.tup [.str (Str.ofString "cut"), .str (Str.ofString "change")])) f :=
        ⟨⟨ca, ch, _, _, _, rfl, hca.im (Same.im (K := K) s7), chl, chs⟩, Same.ch s7, hF4.same s7⟩
      refine ⟨t, _, rfl, .inr (SqT.of upd_same), rfl, rfl, _, rfl, iteB (fun e => ?_) fun e => ?_⟩
      · refine ⟨_, rfl, a, dw4, _, _, rfl, s7 _ _ ew4, rfl, ta4, _, rfl, .inr (SqT.of (s7 _ _ hb4)), _, _, rfl, rfl, _, rfl, iteB (fun e2 => ?_) fun e2 => fall7⟩
        refine ⟨_, rfl, f, 2, rfl, hF4.same s7, by decide, by decide, fun H8 r8 c8 hF8 r0 r1 => ⟨rfl, _, rfl, iteB (fun e3 => ?_) fun e3 => ⟨⟨ca, ch, _, _, _, rfl, (hca.im (Same.im (K := K) s7)).im c8.im, chl, chs⟩, (Same.ch s7).trans c8, hF8⟩⟩⟩
        have im8 : Im K H4 H8 := (Same.im (K := K) s7).trans c8.im
        have lpos : 0 < W.2.length := by
          have z : decide ((0 : Int) < (bs4.map V.ref).length) = true := e2
          have z2 := of_decide_eq_true z
          rw [List.length_map, paired_len hts4] at z2
          omega
        have ew8 := (im8 a _ ew4 rfl)
        have hb8 : H8 ta4 = some (.tup (bs4.map V.ref)) := im8.tup hb4
        have lb : (bs4.map V.ref).length = W.2.length := by rw [List.length_map, paired_len hts4]
        refine ⟨_, rfl, a, dw4, _, _, rfl, ew8, rfl, _, rfl, _, rfl, a, dw4, _, _, rfl, ew8, rfl, ta4, _, rfl, .inr (SqT.of hb8), f, _, rfl, hF8, by rw [lb]; omega, by rw [lb]; omega, fun H9 n9 c9 hF9 u0 u1 => ?_⟩
        obtain ⟨k9, rfl⟩ := Int.eq_ofNat_of_zero_le u0
        have k9l : k9 < W.2.length := by
          rw [lb] at u1
          omega
        obtain ⟨b9, eb9, tb9⟩ := paired_get hts4 (List.getElem?_eq_getElem k9l)
        have hb9 : H9 ta4 = some (.tup (bs4.map V.ref)) := c9.im.tup hb8
        have hca9 : ChgAt H9 ca ch := (hca.im im8).im c9.im
        refine ⟨ta4, _, _, _, rfl, rfl, SqT.of hb9, atI_nat (by rw [List.getElem?_map, eb9]; rfl), b9, _, _, _, rfl, rfl, SqT.of (c9.im.tup (im8.tup tb9)), atI_nat (j := 0) rfl, ?_⟩
        refine ⟨_, rfl, _, rfl, ca, _, rfl, hca9, fun p1 H10 sm1 e1 => ⟨_, rfl, (by show 1 ≤ sizeLine; decide), fun p2 hp2 => ?_⟩⟩
        have s2 := same_upd (o := .tup [V.str (W.2[k9]).1]) hp2
        have vl : ch.vals.length ≤ 6 := Nat.succ_le_succ (args_len ch)
        refine ⟨p1, p2, _, _, rfl, rfl, s2 _ _ e1, upd_same, le_size ?_, fun p3 H11 sm3 e3 => ?_⟩
        · have e1' : cutV ch.vals none (some 1) = ch.vals.take 1 := cutV_take ch.vals 1
          rw [e1', List.length_take]
          show _ + 1 ≤ _
          omega
        refine ⟨_, rfl, _, rfl, ca, _, rfl, (hca9.im (K := K) (Same.im ((sm1.trans s2).trans sm3))), fun p4 H12 sm4 e4 => ?_⟩
        obtain ⟨r1', r2', r3'⟩ := Chg.ren_ok (z := (W.2[k9]).1) e chs
        refine ⟨p3, p4, _, _, rfl, rfl, sm4 _ _ e3, e4, le_size ?_, fun p5 H13 sm5 e5 => ?_⟩
        · rw [← List.length_append]
          refine Nat.le_trans (Nat.le_of_eq (congrArg List.length r1')) ?_
          exact Nat.le_trans (Nat.succ_le_succ (args_len _)) (by decide)
        · refine ⟨⟨p5, ch.ren (W.2[k9]).1, _, _, _, rfl, e5.trans (congrArg (fun l => some (HO.tup l)) r1'), r2', r3'⟩, (((Same.ch s7).trans c8).trans c9).trans (Same.ch ((((sm1.trans s2).trans sm3).trans sm4).trans sm5)), hF9.same ((((sm1.trans s2).trans sm3).trans sm4).trans sm5)⟩
      · exact fall7
    rintro σ5 H5 ⟨⟨ca, ch, o4, o6, o7, rfl, hca, chl, chs⟩, c5, hF5⟩
    have hD5 : H5 D = some (.lst (as.map V.ref)) := c5.at (sm _ _ hD3) Df
    have al : as.length = cs.length := paired_len hcs
    have c6 := ch_upd (K := K) (S := fun b => b = f ∨ b = D) (u := .lst (as.map V.ref ++ [.ref ca])) hD5 (fun z => z) (.inr rfl)
    have c7 : Ch K (fun b => b = f ∨ b = D) H' H5 := ((c2.trans (Same.ch sm)).trans c5).mono fun b h => .inl h
    refine ⟨_, rfl, .inl ⟨rfl, _, SqL.of hD5⟩, _, rfl, D, _, _, rfl, rfl, hD5, lt_size (by rw [List.length_map]; omega), ⟨_, _, _, _, rfl⟩, (c.trans c7).trans c6, FeedAt.at (f := f) (K := K) (S := fun b => b = D) hF5 (ch_upd (K := K) (S := fun b => b = D) hD5 (fun z => z) rfl) (Ne.symm Df), as ++ [ca], cs ++ [ch], ?_, ?_, ?_, ?_⟩
    · rw [upd_same, List.map_append]
      rfl
    · exact paired_app (Paired.mapP hcs fun _ _ z => (ChgAt.im (ChgAt.im z c7.im) c6.im)) (.cons (ChgAt.im hca c6.im) .nil)
    · rw [List.length_append, cl]
      rfl
    · intro x hx
      rcases List.mem_append.mp hx with h | h
      · exact ok x h
      · rw [List.mem_singleton.mp h]
        exact ⟨chl, chs⟩
  · obtain ⟨⟨o4, o5, o6, o7, rfl⟩, c, hF2, as, cs, hD2, hcs, cl, ok⟩ := p
    rw [tn] at cl
    exact ⟨_, rfl, q H' D as cs (((Same.ch (S := fun b => b = f ∨ b = D) (same_upd (o := .lst []) hD)).trans ((c1.mono fun b h => .inl h).trans c)).fresh fun b hb => hb.elim .inl fun h => .inr (h ▸ hD)) hF2 hD hD2 hcs (by omega) (by omega) ok⟩
end
end Wy
set_option Elab.async false
set_option linter.all false
set_option maxRecDepth 100000
set_option maxHeartbeats 0
namespace Wy
open PySem PySem.Spec PyProof.Rows L2 StX
def webs (st : Kst) : List Wb := st.2.map (·.1) ++ [st.1]
def logOf (st : Kst) : List Chg := st.2.map (·.2)
/-- st came out of w0 by its own log -/
def Run (w0 : Wb) (st : Kst) : Prop := plays (w0, []) (logOf st) = (st, (logOf st).length)
noncomputable def dues : Wb → List Chg → List Wb
  | _, [] => []
  | w, c :: r => match apply w c with
    | none => []
    | some w' => w' :: dues w' r
theorem plays_nil (st : Kst) : plays st [] = (st, 0) := rfl
theorem plays_no {st : Kst} {c : Chg} {r : List Chg} (h : apply st.1 c = none) : plays st (c :: r) = (st, 0) := by
  rw [plays, h]
theorem plays_yes {st : Kst} {c : Chg} {r : List Chg} {w' : Wb} (h : apply st.1 c = some w') : plays st (c :: r) = ((plays (w', st.2 ++ [(st.1, c)]) r).1, (plays (w', st.2 ++ [(st.1, c)]) r).2 + 1) := by
  rw [plays, h]
theorem dues_no {w : Wb} {c : Chg} {r : List Chg} (h : apply w c = none) : dues w (c :: r) = [] := by rw [dues, h]
theorem dues_yes {w w' : Wb} {c : Chg} {r : List Chg} (h : apply w c = some w') : dues w (c :: r) = w' :: dues w' r := by rw [dues, h]
theorem plays_le (st : Kst) (cs : List Chg) : (plays st cs).2 ≤ cs.length := by
  induction cs generalizing st with
  | nil => exact Nat.le_refl _
  | cons c r ih =>
    cases e : apply st.1 c with
    | none => rw [plays_no e]; exact Nat.zero_le _
    | some w' => rw [plays_yes e]; exact Nat.succ_le_succ (ih _)
theorem plays_app {st st' : Kst} {cs ds : List Chg} (h : plays st cs = (st', cs.length)) : plays st (cs ++ ds) = ((plays st' ds).1, cs.length + (plays st' ds).2) := by
  induction cs generalizing st with
  | nil =>
    have e : st = st' := congrArg Prod.fst h
    subst e
    rw [List.nil_append]
    exact Prod.ext rfl (Nat.zero_add _).symm
  | cons c r ih =>
    cases e : apply st.1 c with
    | none =>
      rw [plays_no e] at h
      have := congrArg Prod.snd h
      simp at this
    | some w' =>
      rw [plays_yes e] at h
      have h1 := congrArg Prod.fst h
      have h2 := congrArg Prod.snd h
      simp at h1 h2
      rw [List.cons_append, plays_yes e, ih (Prod.ext h1 h2)]
      exact Prod.ext rfl (by show r.length + _ + 1 = r.length + 1 + _; omega)
/-- what is played stands in the log -/
theorem plays_log (st : Kst) (cs : List Chg) : logOf (plays st cs).1 = logOf st ++ cs.take (plays st cs).2 := by
  induction cs generalizing st with
  | nil => rw [plays_nil, List.take_nil, List.append_nil]
  | cons c r ih =>
    cases e : apply st.1 c with
    | none => rw [plays_no e, List.take_zero, List.append_nil]
    | some w' =>
      rw [plays_yes e, ih]
      unfold logOf
      rw [List.map_append, List.append_assoc]
      rfl
theorem plays_take (st : Kst) (cs : List Chg) : plays st (cs.take (plays st cs).2) = plays st cs := by
  induction cs generalizing st with
  | nil => rw [List.take_nil]
  | cons c r ih =>
    cases e : apply st.1 c with
    | none => rw [plays_no e, List.take_zero, plays_nil]
    | some w' =>
      have q := ih (w', st.2 ++ [(st.1, c)])
      rw [plays_yes e, List.take_succ_cons, plays_yes e, q]
theorem plays_webs (st : Kst) (cs : List Chg) : webs (plays st cs).1 = webs st ++ dues st.1 cs := by
  induction cs generalizing st with
  | nil => rw [plays_nil, dues, List.append_nil]
  | cons c r ih =>
    cases e : apply st.1 c with
    | none => rw [plays_no e, dues_no e, List.append_nil]
    | some w' =>
      rw [plays_yes e, dues_yes e, ih]
      unfold webs
      rw [List.map_append, List.append_assoc, List.append_assoc, List.append_assoc]
      rfl
theorem dues_len (st : Kst) (cs : List Chg) : (dues st.1 cs).length = (plays st cs).2 := by
  induction cs generalizing st with
  | nil => rw [plays_nil, dues]; rfl
  | cons c r ih =>
    cases e : apply st.1 c with
    | none => rw [plays_no e, dues_no e]; rfl
    | some w' => rw [plays_yes e, dues_yes e, List.length_cons, ih (w', st.2 ++ [(st.1, c)])]
theorem plays_full {st : Kst} {cs : List Chg} (h : (plays st cs).2 = cs.length) : plays st cs = ((plays st cs).1, cs.length) := Prod.ext rfl h
theorem plays_split {st st' : Kst} {cs ds : List Chg} (h : plays st (cs ++ ds) = (st', (cs ++ ds).length)) : ∃ s1, plays st cs = (s1, cs.length) ∧ plays s1 ds = (st', ds.length) := by
  by_cases f : (plays st cs).2 = cs.length
  · have e := plays_full f
    rw [plays_app e] at h
    have h1 := congrArg Prod.fst h
    have h2 := congrArg Prod.snd h
    simp only [List.length_append] at h1 h2
    exact ⟨_, e, Prod.ext h1 (by show _ = ds.length; omega)⟩
  · have l := plays_le st cs
    have := plays_stop (ds := ds) (show plays st cs = ((plays st cs).1, (plays st cs).2) from rfl) (by omega)
    rw [this] at h
    have h2 := congrArg Prod.snd h
    simp only [List.length_append] at h2
    omega
theorem Run.nil (w0 : Wb) : Run w0 (w0, []) := rfl
theorem Run.plays {w0 : Wb} {st : Kst} (h : Run w0 st) (cs : List Chg) : Run w0 (plays st cs).1 := by
  unfold Run at h ⊢
  rw [plays_log, plays_app h, plays_take, List.length_append, List.length_take]
  have := plays_le st cs
  exact Prod.ext rfl (by show _ + (Wy.plays st cs).2 = _; omega)
theorem Run.webs {w0 : Wb} {st : Kst} (h : Run w0 st) : Wy.webs st = w0 :: dues w0 (logOf st) := by
  have e := plays_webs (w0, []) (logOf st)
  have h1 := congrArg Prod.fst h
  rw [h1] at e
  exact e
/-- the last change, taken back -/
theorem Run.last {w0 w : Wb} {st : Kst} {ps : List (Wb × Chg)} {c : Chg} (h : Run w0 st) (e : st.2 = ps ++ [(w, c)]) : Run w0 (w, ps) ∧ apply w c = some st.1 ∧ undoSt st = (w, ps) := by
  unfold Run logOf at h
  rw [e, List.map_append] at h
  obtain ⟨s1, h1, h2⟩ := plays_split h
  simp only [List.map_cons, List.map_nil] at h2
  cases q : apply s1.1 c with
  | none =>
    rw [plays_no q] at h2
    have := congrArg Prod.snd h2
    simp at this
  | some w' =>
    rw [plays_yes q, plays_nil] at h2
    have h3 := congrArg Prod.fst h2
    simp only at h3
    have h4 : s1.2 ++ [(s1.1, c)] = ps ++ [(w, c)] := by rw [← e, ← h3]
    obtain ⟨h5, h6⟩ := List.append_inj' h4 rfl
    have h7 : s1.1 = w := by
      have := List.head_eq_of_cons_eq h6
      exact congrArg Prod.fst this
    have h8 : s1 = (w, ps) := Prod.ext h7 h5
    refine ⟨?_, ?_, ?_⟩
    · unfold Run logOf
      rw [← h8, h5]
      exact h1.trans (Prod.ext rfl (by simp))
    · rw [← h7, q, ← h3]
    · unfold undoSt
      rw [e]
      simp
theorem Run.undo {w0 : Wb} {st : Kst} (h : Run w0 st) : Run w0 (undoSt st) := by
  rcases List.eq_nil_or_concat st.2 with e | ⟨ps, ⟨w, c⟩, e⟩
  · unfold undoSt
    rw [e]
    exact h
  · rw [List.concat_eq_append] at e
    obtain ⟨h1, _, h3⟩ := h.last e
    rw [h3]
    exact h1
theorem webs_undo (st : Kst) : webs (undoSt st) = (webs st).take (max 1 ((webs st).length - 1)) := by
  rcases List.eq_nil_or_concat st.2 with e | ⟨ps, ⟨w, c⟩, e⟩
  · unfold undoSt webs
    rw [e]
    show List.map (fun x => x.1) st.2 ++ [st.1] = _
    rw [e]
    rfl
  · rw [List.concat_eq_append] at e
    unfold undoSt webs
    rw [e]
    simp only [List.getLast?_append, List.getLast?_singleton, Option.some_or, List.dropLast_concat, List.map_append, List.map_cons, List.map_nil]
    have l : (List.map (fun x => x.1) ps ++ [w] ++ [st.1]).length = ps.length + 2 := by simp
    rw [l, show max 1 (ps.length + 2 - 1) = (List.map (fun x : Wb × Chg => x.1) ps ++ [w]).length by simp, List.take_left]
theorem undo_len (st : Kst) : (undoSt st).2.length ≤ st.2.length := by
  unfold undoSt
  cases e : st.2.getLast? with
  | none => exact Nat.le_refl _
  | some q => show st.2.dropLast.length ≤ _; rw [List.length_dropLast]; omega
def raw (w : Wb) : Chg → Wb
  | .tie t => (w.1, w.2 ++ [t])
  | .cut n => (w.1, w.2.filter fun t => decide (t.1 ≠ n))
  | .change n lo hi => (w.1, w.2.map fun t => if t.1 = n then (t.1, t.2.1, t.2.2.1, lo, hi) else t)
  | .post n => (w.1 ++ [n], w.2)
theorem apply_raw {w w' : Wb} {c : Chg} (h : apply w c = some w') : w' = raw w c := by
  cases c with
  | tie t => exact (chk_some h).1
  | cut n =>
    by_cases m : n ∈ names w
    · exact (chk_some ((if_pos m).symm.trans h)).1
    · cases (if_neg m).symm.trans h
  | change n lo hi =>
    by_cases m : n ∈ names w ∧ 0 ≤ lo ∧ lo ≤ hi
    · rw [(chk_some ((if_pos m).symm.trans h)).1]
      unfold raw
      refine Prod.ext rfl (List.map_congr_left fun t _ => ?_)
      by_cases e : t.1 = n
      · rw [if_pos e, if_pos e, e]
      · rw [if_neg e, if_neg e]
    · cases (if_neg m).symm.trans h
  | post n => exact (chk_some h).1
theorem plays_raw {st st' : Kst} {cs : List Chg} (h : plays st cs = (st', cs.length)) : cs.foldl raw st.1 = st'.1 := by
  induction cs generalizing st with
  | nil =>
    have e : st = st' := congrArg Prod.fst h
    rw [e]
    rfl
  | cons c r ih =>
    cases e : apply st.1 c with
    | none =>
      rw [plays_no e] at h
      have := congrArg Prod.snd h
      simp at this
    | some w' =>
      rw [plays_yes e] at h
      have h1 := congrArg Prod.fst h
      have h2 := congrArg Prod.snd h
      simp at h1 h2
      have := ih (Prod.ext h1 h2)
      rw [List.foldl_cons, ← apply_raw e]
      exact this
theorem Run.raw {w0 : Wb} {st : Kst} (h : Run w0 st) : (logOf st).foldl Wy.raw w0 = st.1 := plays_raw h
end Wy
set_option Elab.async false
set_option linter.all false
set_option maxRecDepth 100000
set_option maxHeartbeats 0
namespace Wy
open PySem PySem.Spec PyProof.Rows L2 StX
/-- the text of a number -/
def dec (i : Int) : Str := Str.ofString (toString i)
def DOT : Str := ".."
def spanS (lo hi : Int) : Str := if lo = hi then dec lo else ((Str.empty ++ dec lo) ++ DOT) ++ dec hi
def tieWords (t : Tie) : List Str := [("tie" : Str), t.1, t.2.1, t.2.2.1, spanS t.2.2.2.1 t.2.2.2.2]
def tieRow (t : Tie) : Str := (((((((Str.empty ++ ("tie " : Str)) ++ t.1) ++ (" " : Str)) ++ t.2.1) ++ (" " : Str)) ++ t.2.2.1) ++ (" " : Str)) ++ spanS t.2.2.2.1 t.2.2.2.2
def postRow (ps : List Str) : Str := Txt.join " " (("posts" : Str) :: ps)
def rowsOf (w : Wb) : List Str := postRow w.1 :: w.2.map tieRow
def webS (w : Wb) : Str := Txt.join "\n" (rowsOf w)
theorem tl_sp : TL.tl (" " : Str) = [32] := by decide +kernel
theorem tl_nl : TL.tl ("\n" : Str) = [10] := by decide +kernel
theorem tl_dot : TL.tl DOT = [46, 46] := by decide +kernel
theorem tl_tie : TL.tl ("tie" : Str) = [116, 105, 101] := by decide +kernel
theorem tl_tie_ : TL.tl ("tie " : Str) = [116, 105, 101, 32] := by decide +kernel
theorem tl_posts : TL.tl ("posts" : Str) = [112, 111, 115, 116, 115] := by decide +kernel
theorem tl_empty : TL.tl Str.empty = [] := by decide +kernel
theorem dec_num {i : Int} (h : 0 ≤ i) : TL.tl (dec i) = TL.numL i.toNat := by
  have e : i = ((i.toNat : Nat) : Int) := by omega
  unfold dec
  rw [e]
  exact TL.tl_num _
theorem dec_free {i : Int} (h : 0 ≤ i) {s : Nat} (hs : s < 48 ∨ 57 < s) : s ∉ TL.tl (dec i) := by
  rw [dec_num h]
  exact TL.numL_free hs
theorem dec_inj {i j : Int} (hi : 0 ≤ i) (hj : 0 ≤ j) (h : dec i = dec j) : i = j := by
  have e := congrArg TL.tl h
  rw [dec_num hi, dec_num hj] at e
  have := TL.numL_inj e
  omega
theorem dec_len {i : Int} (h : 0 ≤ i) (h2 : i < 1000000000) : (dec i).length ≤ 9 := by
  rw [TL.len_tl, dec_num h]
  exact TL.numL_len (by decide) (by show _ < 1000000000; omega)
theorem dec_ne {i : Int} (h : 0 ≤ i) : (dec i).length ≠ 0 := by
  rw [TL.len_tl, dec_num h]
  have := TL.numL_ne i.toNat
  intro z
  exact this (List.length_eq_zero_iff.mp z)
theorem name_free {z : Str} (h : nameB z = true) {s : Nat} (hs : s < 48) : s ∉ TL.tl z := fun hm => by
  have := (nameB_all h).2.2.2 s hm
  revert this
  have : ∀ s : Nat, s < 48 → (letB s || digB s) = false := by decide +kernel
  rw [this s hs]
  decide
theorem name_ne {z : Str} (h : nameB z = true) : z ≠ Str.empty := fun e => by
  have := (nameB_all h).1
  rw [e] at this
  exact absurd this (by decide)
theorem span_free {lo hi : Int} (h0 : 0 ≤ lo) (h1 : lo ≤ hi) {s : Nat} (hs : s < 46) : s ∉ TL.tl (spanS lo hi) := by
  unfold spanS
  split
  · exact dec_free h0 (.inl (by omega))
  · rw [TL.tl_append, TL.tl_append, TL.tl_append, tl_dot, tl_empty]
    simp only [List.nil_append, List.mem_append, List.mem_cons, List.not_mem_nil, or_false, not_or]
    exact ⟨⟨dec_free h0 (.inl (by omega)), by omega, by omega⟩, dec_free (by omega) (.inl (by omega))⟩
theorem span_len {lo hi : Int} (h0 : 0 ≤ lo) (h1 : lo ≤ hi) (h2 : hi < 1000000000) : (spanS lo hi).length ≤ 20 := by
  unfold spanS
  have a := dec_len h0 (by omega)
  have b := dec_len (show 0 ≤ hi by omega) h2
  have c : DOT.length = 2 := by decide +kernel
  have d : Str.empty.length = 0 := by decide +kernel
  split
  · omega
  · rw [Str.length_append, Str.length_append, Str.length_append]
    omega
theorem span_nz {lo hi : Int} (h0 : 0 ≤ lo) (h1 : lo ≤ hi) : spanS lo hi ≠ Str.empty := fun e => by
  have z := congrArg Str.length e
  have d : Str.empty.length = 0 := by decide +kernel
  have := dec_ne h0
  unfold spanS at z
  split at z
  · omega
  · rw [Str.length_append, Str.length_append, Str.length_append] at z
    omega
theorem tie_row (t : Tie) : tieRow t = Txt.join " " (tieWords t) := by
  refine TL.ext_tl ?_
  rw [TL.join_eq, TL.tl_join]
  unfold tieRow tieWords
  simp only [TL.tl_append, tl_sp, tl_tie, tl_tie_, tl_empty, List.map_cons, List.map_nil, TL.joinL, List.append_assoc, List.nil_append, List.cons_append]
/-- numbers that can be told and read -/
def Small (w : Wb) : Prop := ∀ t ∈ w.2, t.2.2.2.2 ≤ 1000
structure TieGood (t : Tie) : Prop where
  n : nameB t.1 = true
  a : nameB t.2.1 = true
  b : nameB t.2.2.1 = true
  lo : 0 ≤ t.2.2.2.1
  hi : t.2.2.2.1 ≤ t.2.2.2.2
  z : t.2.2.2.2 ≤ 1000
theorem tie_good {w : Wb} (v : Valid w) (s : Small w) {t : Tie} (h : t ∈ w.2) : TieGood t :=
  ⟨v.ties.1 _ (List.mem_map_of_mem h), v.posts.1 _ (v.ok t h).1, v.posts.1 _ (v.ok t h).2.1, (v.ok t h).2.2.2.1, (v.ok t h).2.2.2.2, s t h⟩
theorem TieGood.free {t : Tie} (g : TieGood t) {s : Nat} (hs : s < 46) : ∀ p ∈ tieWords t, s ∉ TL.tl p := by
  intro p hp
  unfold tieWords at hp
  simp only [List.mem_cons, List.not_mem_nil, or_false] at hp
  rcases hp with rfl | rfl | rfl | rfl | rfl
  · rw [tl_tie]
    simp
    omega
  · exact name_free g.n (by omega)
  · exact name_free g.a (by omega)
  · exact name_free g.b (by omega)
  · exact span_free g.lo g.hi hs
theorem TieGood.split {t : Tie} (g : TieGood t) : Txt.split (tieRow t) " " = tieWords t := by
  rw [tie_row]
  exact TL.split_join tl_sp (by decide +kernel) (by simp [tieWords]) (g.free (by decide))
theorem join_free {y : Str} {s : Nat} (hy : s ∉ TL.tl y) : ∀ {ps : List Str}, (∀ p ∈ ps, s ∉ TL.tl p) → s ∉ TL.tl (Txt.join y ps) := by
  intro ps h
  rw [TL.join_eq, TL.tl_join]
  induction ps with
  | nil => exact List.not_mem_nil
  | cons a r ih =>
    cases r with
    | nil => exact h a (by simp)
    | cons b r =>
      show s ∉ TL.tl a ++ (TL.tl y ++ TL.joinL (TL.tl y) ((b :: r).map TL.tl))
      rw [List.mem_append, List.mem_append, not_or, not_or]
      exact ⟨h a (by simp), hy, ih fun p hp => h p (List.mem_cons_of_mem _ hp)⟩
theorem TieGood.nl {t : Tie} (g : TieGood t) : 10 ∉ TL.tl (tieRow t) := by
  rw [tie_row]
  exact join_free (by rw [tl_sp]; decide) (g.free (by decide))
theorem post_free {ps : List Str} (g : Good ps) {s : Nat} (hs : s < 48) : ∀ p ∈ ("posts" : Str) :: ps, s ∉ TL.tl p := by
  intro p hp
  rcases List.mem_cons.mp hp with rfl | h
  · rw [tl_posts]
    simp
    omega
  · exact name_free (g.1 p h) hs
theorem post_split {ps : List Str} (g : Good ps) : Txt.split (postRow ps) " " = ("posts" : Str) :: ps := TL.split_join tl_sp (by decide +kernel) (by simp) (post_free g (by decide))
theorem post_nl {ps : List Str} (g : Good ps) : 10 ∉ TL.tl (postRow ps) := join_free (by rw [tl_sp]; decide) (post_free g (by decide))
theorem rows_nl {w : Wb} (v : Valid w) (s : Small w) : ∀ p ∈ rowsOf w, 10 ∉ TL.tl p := by
  intro p hp
  rcases List.mem_cons.mp hp with rfl | h
  · exact post_nl v.posts
  · obtain ⟨t, ht, rfl⟩ := List.mem_map.mp h
    exact (tie_good v s ht).nl
theorem web_split {w : Wb} (v : Valid w) (s : Small w) : Txt.split (webS w) "\n" = rowsOf w := TL.split_join tl_nl (by decide +kernel) (by simp [rowsOf]) (rows_nl v s)
/-- x in y, of texts -/
theorem in_no {i : Nat} {x : Str} (hx : TL.tl x = [i]) {y : Str} (h : i ∉ TL.tl y) : (!(Builtin.Str.occurrences y x 0 y.length 1).isEmpty) = false := by
  obtain ⟨⟨cs⟩⟩ := x
  have : cs = [i] := hx
  subst this
  rw [PySem.StrLaws.found_one y i]
  exact decide_eq_false h
theorem sum_le {α : Type} (f : α → Nat) (b : Nat) : ∀ (l : List α), (∀ x ∈ l, f x ≤ b) → (l.map f).sum ≤ l.length * b
  | [], _ => by simp
  | x :: r, h => by
    have := sum_le f b r fun y hy => h y (List.mem_cons_of_mem _ hy)
    have h1 := h x (List.mem_cons_self ..)
    rw [List.map_cons, List.sum_cons, List.length_cons, Nat.add_mul]
    omega
theorem joinL_len (S : List Nat) : ∀ l : List (List Nat), (TL.joinL S l).length ≤ (l.map List.length).sum + l.length * S.length
  | [] => by simp [TL.joinL]
  | [p] => by simp [TL.joinL]
  | p :: q :: r => by
    have := joinL_len S (q :: r)
    show (p ++ (S ++ TL.joinL S (q :: r))).length ≤ _
    rw [List.length_append, List.length_append, List.map_cons, List.sum_cons, List.length_cons (a := p), Nat.add_mul]
    omega
theorem join_len {y : Str} {ps : List Str} {b : Nat} (h : ∀ p ∈ ps, p.length ≤ b) : (Txt.join y ps).length ≤ ps.length * (b + y.length) := by
  rw [TL.join_eq, TL.len_tl, TL.tl_join]
  have z := joinL_len (TL.tl y) (ps.map TL.tl)
  have s := sum_le List.length b (ps.map TL.tl) fun p hp => by
    obtain ⟨q, hq, rfl⟩ := List.mem_map.mp hp
    exact h q hq
  rw [List.length_map] at z s
  rw [Nat.mul_add, TL.len_tl y]
  omega
theorem name_len6 {z : Str} (h : nameB z = true) : z.length ≤ 6 := by
  have := (nameB_all h).2.1
  show z.cps.size ≤ 6
  simpa using this
theorem posts_len : (("posts" : Str)).length = 5 := by decide +kernel
theorem one_len : ((" " : Str)).length = 1 ∧ (("\n" : Str)).length = 1 := ⟨by decide +kernel, by decide +kernel⟩
theorem post_len {ps : List Str} (g : Good ps) : (postRow ps).length ≤ (ps.length + 1) * 7 := by
  have := join_len (y := " ") (ps := ("posts" : Str) :: ps) (b := 6) fun p hp => by
    rcases List.mem_cons.mp hp with rfl | h
    · rw [posts_len]; decide
    · exact name_len6 (g.1 p h)
  rw [one_len.1] at this
  exact this
theorem TieGood.len {t : Tie} (g : TieGood t) : (tieRow t).length ≤ 105 := by
  rw [tie_row]
  have := join_len (y := " ") (ps := tieWords t) (b := 20) fun p hp => by
    unfold tieWords at hp
    simp only [List.mem_cons, List.not_mem_nil, or_false] at hp
    rcases hp with rfl | rfl | rfl | rfl | rfl
    · decide +kernel
    · exact Nat.le_trans (name_len6 g.n) (by decide)
    · exact Nat.le_trans (name_len6 g.a) (by decide)
    · exact Nat.le_trans (name_len6 g.b) (by decide)
    · exact span_len g.lo g.hi (by have := g.z; omega)
  rw [one_len.1] at this
  exact this
theorem rows_len {w : Wb} (v : Valid w) (s : Small w) (l : w.1.length ≤ 100) : ∀ p ∈ rowsOf w, p.length ≤ 1000 := by
  intro p hp
  rcases List.mem_cons.mp hp with rfl | h
  · have := post_len v.posts
    omega
  · obtain ⟨t, ht, rfl⟩ := List.mem_map.mp h
    exact Nat.le_trans (tie_good v s ht).len (by decide)
theorem web_len {w : Wb} (v : Valid w) (s : Small w) (l : w.1.length ≤ 100) (l2 : w.2.length ≤ 100) : (webS w).length ≤ 110000 := by
  have := join_len (y := "\n") (rows_len v s l)
  rw [one_len.2] at this
  unfold webS
  have e : (rowsOf w).length = w.2.length + 1 := by simp [rowsOf]
  rw [e] at this
  omega
theorem part_rod {lo : Int} (h : 0 ≤ lo) : Txt.partition (dec lo) DOT = (dec lo, Str.empty, Str.empty) := TL.partition_none tl_dot (dec_free h (.inl (by decide)))
theorem part_span {lo hi : Int} (h : 0 ≤ lo) : Txt.partition (((Str.empty ++ dec lo) ++ DOT) ++ dec hi) DOT = (dec lo, DOT, dec hi) := by
  have e : Str.empty ++ dec lo = dec lo := TL.ext_tl (by rw [TL.tl_append, tl_empty, List.nil_append])
  rw [e]
  exact TL.partition_app tl_dot (dec_free h (.inl (by decide)))
theorem dec_text {i : Int} (h : 0 ≤ i) (h2 : i < 1000000000) : intText? (dec i) = some i := by
  have e : i = ((i.toNat : Nat) : Int) := by omega
  unfold dec
  rw [e]
  exact TL.int_num (Nat.le_trans (TL.numL_len (k := 9) (by decide) (by show _ < 1000000000; omega)) (by decide))
theorem dec_all {i : Int} (h : 0 ≤ i) : ∀ c ∈ (dec i).cps.toList, digB c = true := by
  intro c hc
  have e : c ∈ TL.numL i.toNat := by rw [← dec_num h]; exact hc
  obtain ⟨h1, h2⟩ := TL.numL_digits _ c e
  exact dig_of h1 h2
/-- no nought stands ahead -/
theorem numL_head : ∀ (n : Nat), 1 ≤ n → ∀ c r, TL.numL n = c :: r → c ≠ 48 := by
  intro n
  induction n using Nat.strongRecOn with
  | _ n ih =>
    intro h1 c r e
    by_cases h : n < 10
    · rw [TL.numL_lt h] at e
      cases e
      omega
    · rw [TL.numL_step (by omega)] at e
      cases q : TL.numL (n / 10) with
      | nil => exact absurd q (TL.numL_ne _)
      | cons d s =>
        rw [q] at e
        rw [← List.head_eq_of_cons_eq e]
        exact ih (n / 10) (by omega) (by omega) d s q
theorem dec_zero {i : Int} (h : 0 ≤ i) {r : List Nat} (e : TL.tl (dec i) = 48 :: r) : dec i = ("0" : Str) := by
  rw [dec_num h] at e
  by_cases z : 1 ≤ i.toNat
  · exact absurd rfl (numL_head _ z 48 r e)
  · have : i = 0 := by omega
    subst this
    decide +kernel
end Wy
set_option Elab.async false
set_option linter.all false
set_option maxRecDepth 100000
set_option maxHeartbeats 0
namespace Wy
open PySem PySem.Spec PyProof.Rows L2 StX
structure WOk (n : Nat) (w : Wb) : Prop where
  p : w.1.length ≤ n
  t : w.2.length ≤ n
  v : Valid w
  s : Small w
structure Ok (n : Nat) (w0 : Wb) (st : Kst) : Prop where
  run : Run w0 st
  w : ∀ w ∈ webs st, WOk n w
  l : st.2.length ≤ n
  c : ∀ c ∈ logOf st, c.lim ∧ c.small
theorem WOk.mono {n m : Nat} {w : Wb} (h : WOk n w) (l : n ≤ m) : WOk m w := ⟨Nat.le_trans h.p l, Nat.le_trans h.t l, h.v, h.s⟩
theorem Ok.mono {n m : Nat} {w0 : Wb} {st : Kst} (h : Ok n w0 st) (l : n ≤ m) : Ok m w0 st := ⟨h.run, fun w hw => (h.w w hw).mono l, Nat.le_trans h.l l, h.c⟩
theorem mem_webs (st : Kst) : st.1 ∈ webs st := List.mem_append_right _ (List.mem_singleton.mpr rfl)
theorem Ok.now {n : Nat} {w0 : Wb} {st : Kst} (h : Ok n w0 st) : WOk n st.1 := h.w _ (mem_webs st)
theorem Ok.base {n : Nat} {w0 : Wb} {st : Kst} (h : Ok n w0 st) : WOk n w0 := h.w _ (by rw [h.run.webs]; exact List.mem_cons_self ..)
theorem WOk.fit {n : Nat} {w : Wb} (h : WOk n w) : Fit n (w, []) := ⟨h.p, h.t, Nat.zero_le _, fun z hz => name_len (h.v.posts.1 z hz), fun t ht => name_len (h.v.ties.1 _ (List.mem_map_of_mem ht)), h.v⟩
theorem Ok.fit {n : Nat} {w0 : Wb} {st : Kst} (h : Ok n w0 st) : Fit n st := ⟨h.now.p, h.now.t, h.l, fun z hz => name_len (h.now.v.posts.1 z hz), fun t ht => name_len (h.now.v.ties.1 _ (List.mem_map_of_mem ht)), h.now.v⟩
theorem small_apply {w w' : Wb} {c : Chg} (s : Small w) (cs : c.small) (h : apply w c = some w') : Small w' := by
  have e := apply_raw h
  subst e
  intro t ht
  cases c with
  | tie u =>
    rcases List.mem_append.mp ht with h | h
    · exact s t h
    · rw [List.mem_singleton.mp h]
      exact cs
  | cut n => exact s t ((List.mem_filter.mp ht).1)
  | change n lo hi =>
    obtain ⟨u, hu, rfl⟩ := List.mem_map.mp ht
    by_cases e : u.1 = n
    · rw [if_pos e]
      exact cs
    · rw [if_neg e]
      exact s u hu
  | post n => exact s t ht
theorem Ok.step {n : Nat} {w0 w' : Wb} {st : Kst} {c : Chg} (h : Ok n w0 st) (hc : c.lim ∧ c.small) (e : apply st.1 c = some w') : Ok (n + 1) w0 (w', st.2 ++ [(st.1, c)]) := by
  obtain ⟨v, l1, l2⟩ := apply_valid e
  have pe : (plays st [c]).1 = (w', st.2 ++ [(st.1, c)]) := by rw [plays_yes e, plays_nil]
  refine ⟨pe ▸ h.run.plays [c], fun w hw => ?_, ?_, fun d hd => ?_⟩
  · rw [← pe, plays_webs, dues_yes e] at hw
    rcases List.mem_append.mp hw with q | q
    · exact (h.w w q).mono (Nat.le_succ n)
    · rw [dues, List.mem_singleton] at q
      rw [q]
      exact ⟨Nat.le_trans l1 (Nat.succ_le_succ h.now.p), Nat.le_trans l2 (Nat.succ_le_succ h.now.t), v, small_apply h.now.s hc.2 e⟩
  · rw [List.length_append]
    exact Nat.succ_le_succ h.l
  · unfold logOf at hd
    rw [List.map_append] at hd
    rcases List.mem_append.mp hd with q | q
    · exact h.c d q
    · rw [List.map_cons, List.map_nil, List.mem_singleton] at q
      rw [q]
      exact hc
theorem Ok.plays {n : Nat} {w0 : Wb} {st : Kst} (h : Ok n w0 st) {cs : List Chg} (hc : ∀ c ∈ cs, c.lim ∧ c.small) : Ok (n + cs.length) w0 (plays st cs).1 := by
  induction cs generalizing n st with
  | nil => exact h
  | cons c r ih =>
    cases e : apply st.1 c with
    | none =>
      rw [plays_no e]
      exact h.mono (Nat.le_add_right _ _)
    | some w' =>
      rw [plays_yes e]
      have := ih (h.step (hc c (List.mem_cons_self ..)) e) fun d hd => hc d (List.mem_cons_of_mem _ hd)
      rw [List.length_cons, show n + (r.length + 1) = n + 1 + r.length by omega]
      exact this
theorem Ok.undo {n : Nat} {w0 : Wb} {st : Kst} (h : Ok n w0 st) : Ok n w0 (undoSt st) := by
  refine ⟨h.run.undo, fun w hw => h.w w ?_, Nat.le_trans (undo_len st) h.l, fun c hc => h.c c ?_⟩
  · rw [webs_undo] at hw
    exact List.mem_of_mem_take hw
  · unfold logOf undoSt at hc
    unfold logOf
    cases e : st.2.getLast? with
    | none =>
      rw [e] at hc
      exact hc
    | some q =>
      rw [e] at hc
      obtain ⟨x, hx, rfl⟩ := List.mem_map.mp hc
      exact List.mem_map_of_mem (List.dropLast_subset _ hx)
theorem WOk.ok {n : Nat} {w : Wb} (h : WOk n w) : Ok n w (w, []) := ⟨.nil w, fun u hu => by
  rw [show webs (w, []) = [w] from rfl, List.mem_singleton] at hu
  rw [hu]
  exact h, Nat.zero_le _, fun c hc => by cases hc⟩
end Wy
set_option Elab.async false
set_option linter.all false
set_option maxRecDepth 100000
set_option maxHeartbeats 0
namespace Wy
open PySem PySem.Spec PyProof.Rows L2 StX
def SpanAt (K : PySem.W.Frag) (H : Hp) (a : Addr) (lo hi : Int) : Prop := ∃ dx, H a = some (.ins (He.ga K "Span") dx [("low", .int lo), ("high", .int hi)])
section
variable {P : Program} {w : World} {K : PySem.W.Frag} {mg : Str → Option Value} {base : Heap}
theorem sc_number_of : FnScope ["word", "sign"] ["word"] (defScope s_number_of) := ⟨rfl, rfl, rfl, by decide +kernel, rfl, by decide +kernel, by decide +kernel⟩
def sp_number_of : Sp := fun vs H Q _ => ∃ i : Int, vs = [.str (dec i)] ∧ 0 ≤ i ∧ i < 1000000000 ∧ ∀ H', Same H H' → Q (.int i) H'
theorem ok_number_of (T : W0 P w K mg) : GFn P w K mg base 1 "number_of" sp_number_of := by
  obtain ⟨fd, F⟩ := T.d_number_of
  refine ⟨T.g_number_of, F.kp, F.fr sc_number_of (fun _ _ _ _ _ _ us hl => match us, hl with | [_], _ => rfl) (fun vs H Q E h => by first | (obtain ⟨rfl, _⟩ := h; rfl) | (obtain ⟨_, rfl, _⟩ := h; rfl) | (obtain ⟨_, _, rfl, _⟩ := h; rfl) | (obtain ⟨_, _, _, rfl, _⟩ := h; rfl) | (obtain ⟨_, _, _, _, rfl, _⟩ := h; rfl) | (obtain ⟨_, _, _, _, _, rfl, _⟩ := h; rfl) | (obtain ⟨_, _, _, _, _, _, rfl, _⟩ := h; rfl) | (obtain ⟨_, _, _, _, _, _, _, rfl, _⟩ := h; rfl) | (obtain ⟨_, _, _, _, _, _, _, _, rfl, _⟩ := h; rfl) | (obtain ⟨_, _, _, _, _, _, _, _, _, rfl, _⟩ := h; rfl)) fun cdv A outer s H vs Q E hr h => ⟨_, (pss_cons (ps_if (PW.pt (pw_or (pt_not (pt_chain op_lt op_le pe_int (pe_callB call_len_str (by rfl) T.f_len PySem.boot_len (pa_cons (pv 0) pa_nil)) (eGi T.i_MOST_DIGITS_names))) (pw_or1 (pt_not (pt_val (pe_callB (kAll (K := K) rfl rfl) (by rfl) T.f_all (by decide +kernel) (pa_cons (pe_lc (own := [("sign", 1)]) (by rfl) sc_number_of.nd (pi_str (pv 0)) (blkOk_by (own := [("sign", 1)]) (N := ["word", "sign"]) (sc := defScope s_number_of) (by decide +kernel)) (fun _ _ _ _ _ => (pg_name (i := 1) sc_number_of.nd rfl (Or.inl rfl))) (fun _ _ _ _ _ => pts_nil) (fun _ _ _ _ _ => (pe_cmpR op_in_sign (pv 1) (eGs T.s_DIGITS) (by rfl)))) pa_nil))))))) (pss_one (ps_ret pe_non)) pss_nil) (pss_cons (ps_if (PW.pt (pw_and (pt_cmpR op_eq (pe_ix ix_str (pv 0) pe_int (fun _ _ => rfl)) pe_str (nomark _)) (pw_and1 (pt_cmpR op_ne (pv 0) pe_str (nomark _))))) (pss_one (ps_ret pe_non)) pss_nil) (pss_one (ps_ret (pe_callTy call_int_str (by rfl) T.f_int (by decide +kernel) (pa_cons (pv 0) pa_nil)))))), ?_⟩⟩
  obtain ⟨i, rfl, h0, h9, hQ⟩ := h
  have dt := dec_text h0 h9
  have dl := dec_len h0 h9
  have dn := dec_ne h0
  have da := dec_all h0
  have dz := fun r => dec_zero h0 (r := r)
  generalize dec i = z at dt dl dn da dz ⊢
  obtain ⟨⟨cs⟩⟩ := z
  have hz2 : (⟨⟨cs⟩⟩ : Str).length ≤ sizeLine := le_size (by omega)
  have hlen : (⟨⟨cs⟩⟩ : Str).length = cs.length := rfl
  refine ⟨_, rfl, _, rfl, hz2, _, _, rfl, rfl, _, rfl, ?_⟩
  refine iteD (fun h1 => ⟨_, _, rfl, rfl, _, rfl, iteB (fun h6 => ?_) fun h6 => ?_⟩) (fun h1 => absurd (show (0 : Int) < ((⟨⟨cs⟩⟩ : Str).length : Int) by omega) h1)
  · simp only [Bool.not_eq_true', decide_eq_false_iff_not] at h6
    exact absurd (by omega) h6
  · cases cs with
    | nil => exact absurd rfl dn
    | cons c r =>
      refine ⟨_, rfl, _, rfl, fun D hD => ?_⟩
      refine lc_acc walk_str hD (fun i => (((c :: r).take i).map fun d => digB d).map V.bl) rfl (fun i hi => lt_size (by rw [List.length_map, List.length_map, List.length_take]; omega)) (fun _ _ => trivial) (fun i x H1 H2 hi sm y Yes No hy hn => ?_) fun H2 sm e => ?_
      · obtain ⟨eH, d, ed, ex⟩ := y
        subst eH ex
        replace ed : (c :: r)[i]? = some d := by simpa using ed
        refine ⟨rfl, _, rfl, d, _, rfl, rfl, hy _ _ same_rfl ?_⟩
        rw [take_snoc ed, List.map_append, List.map_append]
        rfl
      · have al : (((c :: r).take (c :: r).length).map fun d => digB d).all id = true := by
          rw [List.take_length, List.all_map, List.all_eq_true]
          exact fun d hd => da d hd
        refine ⟨_, _, rfl, SqL.of e, _, rfl, iteN ?_ ?_⟩
        · exact congrArg not al
        · refine ⟨_, rfl, _, _, c, rfl, rfl, hz2, atI_nat (j := 0) rfl, rfl, _, rfl, iteB (fun e1 => ⟨_, rfl, rfl, _, rfl, iteN ?_ ?_⟩) fun e1 => ?_⟩
          · have e2 := V.str.inj (of_decide_eq_true e1)
            have e3 : c = 48 := by
              have q := congrArg TL.tl e2
              have q2 : [c] = [48] := q
              exact List.head_eq_of_cons_eq q2
            rw [dz r (by rw [e3])]
            decide +kernel
          · exact ⟨_, rfl, _, i, rfl, dt, Nat.le_trans dl (by decide), hQ H2 sm⟩
          · exact ⟨_, rfl, _, i, rfl, dt, Nat.le_trans dl (by decide), hQ H2 sm⟩
theorem sc_Span_init : FnScope ["self", "least", "greatest"] ["self", "least", "greatest"] (defScope s_Span_init) := ⟨rfl, rfl, rfl, by decide +kernel, rfl, by decide +kernel, by decide +kernel⟩
def sp_Span_init (K : PySem.W.Frag) : Sp := fun vs H Q _ => ∃ (x dx : Addr) (lo hi : Int), vs = [.ref x, .int lo, .int hi] ∧ H x = some (.ins (He.ga K "Span") dx []) ∧ 0 ≤ lo ∧ lo ≤ hi ∧
  ∀ H', (∀ c o, c ≠ x → H c = some o → H' c = some o) → SpanAt K H' x lo hi → Q .non H'
theorem ok_Span_init (T : W0 P w K mg) : IFn P w K mg base 2 "Span" (sp_Span_init K) := by
  obtain ⟨fd, F⟩ := T.d_Span_init
  refine ⟨T.g_Span, T.mk_Span, F.fr sc_Span_init (fun _ _ _ _ _ _ us hl => match us, hl with | [_, _, _], _ => rfl) (fun vs H Q E h => by first | (obtain ⟨rfl, _⟩ := h; rfl) | (obtain ⟨_, rfl, _⟩ := h; rfl) | (obtain ⟨_, _, rfl, _⟩ := h; rfl) | (obtain ⟨_, _, _, rfl, _⟩ := h; rfl) | (obtain ⟨_, _, _, _, rfl, _⟩ := h; rfl) | (obtain ⟨_, _, _, _, _, rfl, _⟩ := h; rfl) | (obtain ⟨_, _, _, _, _, _, rfl, _⟩ := h; rfl) | (obtain ⟨_, _, _, _, _, _, _, rfl, _⟩ := h; rfl) | (obtain ⟨_, _, _, _, _, _, _, _, rfl, _⟩ := h; rfl) | (obtain ⟨_, _, _, _, _, _, _, _, _, rfl, _⟩ := h; rfl)) fun cdv A outer s H vs Q E hr h => ⟨_, (pss_cons (ps_if (PW.pt (pw_or (pt_not (pt_val (eCall (ok_is_whole T) (hr.mono (by decide)) passL (by rfl) (pa_cons (pv 1) pa_nil)))) (pw_or (pt_not (pt_val (eCall (ok_is_whole T) (hr.mono (by decide)) passL (by rfl) (pa_cons (pv 2) pa_nil)))) (pw_or1 (pt_not (pt_chain op_le op_le pe_int (pv 1) (pv 2))))))) (pss_one ps_never) pss_nil) (pss_cons (eSet T.c_Span T.n_Span_low (pv 0) (pv 1)) (pss_one (eSet T.c_Span T.n_Span_high (pv 0) (pv 2))))), ?_⟩⟩
  obtain ⟨x, dx, lo, hi, rfl, hx, h0, h1, q⟩ := h
  refine ⟨_, rfl, lo, rfl, _, rfl, iteN rfl ⟨_, rfl, hi, rfl, _, rfl, iteN rfl ?_⟩⟩
  refine ⟨_, rfl, _, _, rfl, rfl, _, rfl, iteD (fun e => ⟨_, rfl, _, _, rfl, rfl, _, rfl, iteN (by simpa using h1) ?_⟩) fun e => absurd h0 e⟩
  refine ⟨_, rfl, _, rfl, x, dx, _, rfl, hx, (by show 0 < 1000; decide), ?_⟩
  refine ⟨_, rfl, _, rfl, x, dx, _, rfl, upd_same, (by show 1 < 1000; decide), ?_⟩
  refine q _ (fun c o ne e2 => ?_) ⟨dx, upd_same⟩
  rw [upd_ne ne, upd_ne ne]
  exact e2
theorem sc_Span_least : FnScope ["self"] ["self"] (defScope s_Span_least) := ⟨rfl, rfl, rfl, by decide +kernel, rfl, by decide +kernel, by decide +kernel⟩
theorem ok_Span_least (T : W0 P w K mg) : PFn P w K mg base 1 (He.ga K "Span") "least" "low" := by
  obtain ⟨fd, F⟩ := T.d_Span_least
  refine ⟨_, _, T.p_Span_least, F.fr sc_Span_least (fun _ _ _ _ _ _ us hl => match us, hl with | [_], _ => rfl) (fun vs H Q E h => by first | (obtain ⟨rfl, _⟩ := h; rfl) | (obtain ⟨_, rfl, _⟩ := h; rfl) | (obtain ⟨_, _, rfl, _⟩ := h; rfl) | (obtain ⟨_, _, _, rfl, _⟩ := h; rfl) | (obtain ⟨_, _, _, _, rfl, _⟩ := h; rfl) | (obtain ⟨_, _, _, _, _, rfl, _⟩ := h; rfl) | (obtain ⟨_, _, _, _, _, _, rfl, _⟩ := h; rfl) | (obtain ⟨_, _, _, _, _, _, _, rfl, _⟩ := h; rfl) | (obtain ⟨_, _, _, _, _, _, _, _, rfl, _⟩ := h; rfl) | (obtain ⟨_, _, _, _, _, _, _, _, _, rfl, _⟩ := h; rfl)) fun cdv A outer s H vs Q E hr h => ⟨_, (pss_one (ps_ret (eFld T.c_Span T.n_Span_low (pv 0)))), ?_⟩⟩
  obtain ⟨a, dx, fs, v, rfl, ea, l, q⟩ := h
  exact ⟨_, rfl, a, dx, fs, v, rfl, ea, l, q⟩
theorem sc_Span_greatest : FnScope ["self"] ["self"] (defScope s_Span_greatest) := ⟨rfl, rfl, rfl, by decide +kernel, rfl, by decide +kernel, by decide +kernel⟩
theorem ok_Span_greatest (T : W0 P w K mg) : PFn P w K mg base 1 (He.ga K "Span") "greatest" "high" := by
  obtain ⟨fd, F⟩ := T.d_Span_greatest
  refine ⟨_, _, T.p_Span_greatest, F.fr sc_Span_greatest (fun _ _ _ _ _ _ us hl => match us, hl with | [_], _ => rfl) (fun vs H Q E h => by first | (obtain ⟨rfl, _⟩ := h; rfl) | (obtain ⟨_, rfl, _⟩ := h; rfl) | (obtain ⟨_, _, rfl, _⟩ := h; rfl) | (obtain ⟨_, _, _, rfl, _⟩ := h; rfl) | (obtain ⟨_, _, _, _, rfl, _⟩ := h; rfl) | (obtain ⟨_, _, _, _, _, rfl, _⟩ := h; rfl) | (obtain ⟨_, _, _, _, _, _, rfl, _⟩ := h; rfl) | (obtain ⟨_, _, _, _, _, _, _, rfl, _⟩ := h; rfl) | (obtain ⟨_, _, _, _, _, _, _, _, rfl, _⟩ := h; rfl) | (obtain ⟨_, _, _, _, _, _, _, _, _, rfl, _⟩ := h; rfl)) fun cdv A outer s H vs Q E hr h => ⟨_, (pss_one (ps_ret (eFld T.c_Span T.n_Span_high (pv 0)))), ?_⟩⟩
  obtain ⟨a, dx, fs, v, rfl, ea, l, q⟩ := h
  exact ⟨_, rfl, a, dx, fs, v, rfl, ea, l, q⟩
theorem sc_Span_str : FnScope ["self"] ["self"] (defScope s_Span_str) := ⟨rfl, rfl, rfl, by decide +kernel, rfl, by decide +kernel, by decide +kernel⟩
def sp_Span_str (K : PySem.W.Frag) : Sp := fun vs H Q _ => ∃ (a : Addr) (lo hi : Int), vs = [.ref a] ∧ SpanAt K H a lo hi ∧ 0 ≤ lo ∧ lo ≤ hi ∧ hi < 1000000000 ∧ Q (.str (spanS lo hi)) H
theorem ok_Span_str (T : W0 P w K mg) : MFn P w K mg base 1 "Span" "__str__" (sp_Span_str K) := by
  obtain ⟨fd, F⟩ := T.d_Span_str
  refine ⟨T.m_Span_str, F.fr sc_Span_str (fun _ _ _ _ _ _ us hl => match us, hl with | [_], _ => rfl) (fun vs H Q E h => by first | (obtain ⟨rfl, _⟩ := h; rfl) | (obtain ⟨_, rfl, _⟩ := h; rfl) | (obtain ⟨_, _, rfl, _⟩ := h; rfl) | (obtain ⟨_, _, _, rfl, _⟩ := h; rfl) | (obtain ⟨_, _, _, _, rfl, _⟩ := h; rfl) | (obtain ⟨_, _, _, _, _, rfl, _⟩ := h; rfl) | (obtain ⟨_, _, _, _, _, _, rfl, _⟩ := h; rfl) | (obtain ⟨_, _, _, _, _, _, _, rfl, _⟩ := h; rfl) | (obtain ⟨_, _, _, _, _, _, _, _, rfl, _⟩ := h; rfl) | (obtain ⟨_, _, _, _, _, _, _, _, _, rfl, _⟩ := h; rfl)) fun cdv A outer s H vs Q E hr h => ⟨_, (pss_cons (ps_if (pt_cmpR op_eq (eFld T.c_Span T.n_Span_low (pv 0)) (eFld T.c_Span T.n_Span_high (pv 0)) (nomark _)) (pss_one (ps_ret (pe_callTy call_str_int (by rfl) T.f_str (by decide +kernel) (pa_cons (eFld T.c_Span T.n_Span_low (pv 0)) pa_nil)))) pss_nil) (pss_one (ps_ret (pe_joined (PJ.cons (pe_fmt (eFld T.c_Span T.n_Span_low (pv 0))) (PJ.cons (pe_fmt (eGs T.s_DOTS)) (PJ.cons (pe_fmt (eFld T.c_Span T.n_Span_high (pv 0))) PJ.nil))))))), ?_⟩⟩
  obtain ⟨a, lo, hi, rfl, ⟨dx, ea⟩, h0, h1, h9, q⟩ := h
  have lg : ∀ i : Int, 0 ≤ i → i < 1000000000 → i.natAbs.log2 < 1920 := fun i a b => by
    have z := Nat.log2_le_self i.natAbs
    have z2 : i.natAbs < 2 ^ 30 := by omega
    by_cases e : i.natAbs = 0
    · rw [e]
      decide
    · have := (Nat.log2_lt e).mpr z2
      omega
  have q2 := q
  unfold spanS at q2
  refine ⟨_, rfl, a, dx, _, _, rfl, ea, rfl, _, rfl, a, dx, _, _, rfl, ea, rfl, rfl, _, rfl, iteB (fun e => ?_) fun e => ?_⟩
  · have e2 : lo = hi := V.int.inj (of_decide_eq_true e)
    rw [if_pos e2] at q2
    exact ⟨_, rfl, a, dx, _, _, rfl, ea, rfl, _, rfl, lg lo h0 (by omega), q2⟩
  · have e2 : lo ≠ hi := fun z => of_decide_eq_false e (congrArg V.int z)
    rw [if_neg e2] at q2
    have l1 := dec_len h0 (show lo < 1000000000 by omega)
    have l2 := dec_len (show 0 ≤ hi by omega) h9
    have ld : DOT.length = 2 := by decide +kernel
    have le : Str.empty.length = 0 := by decide +kernel
    have s1 : (Str.empty ++ dec lo).length ≤ sizeLine := le_size (by rw [Str.length_append]; omega)
    have s2 : ((Str.empty ++ dec lo) ++ DOT).length ≤ sizeLine := le_size (by rw [Str.length_append, Str.length_append]; omega)
    have s3 : (((Str.empty ++ dec lo) ++ DOT) ++ dec hi).length ≤ sizeLine := le_size (by rw [Str.length_append, Str.length_append, Str.length_append]; omega)
    exact ⟨_, rfl, a, dx, _, _, rfl, ea, rfl, .inr ⟨_, rfl, lg lo h0 (by omega), _, rfl, s1, .inl ⟨_, rfl, le_size (by show DOT.length ≤ _; omega), _, rfl, s2, _, rfl, a, dx, _, _, rfl, ea, rfl, .inr ⟨_, rfl, lg hi (by omega) h9, _, rfl, s3, q2⟩⟩⟩⟩
theorem sc_Span_read : FnScope ["cls", "text", "least", "dots", "greatest", "low", "high"] ["cls", "text"] (defScope s_Span_read) := ⟨rfl, rfl, rfl, by decide +kernel, rfl, by decide +kernel, by decide +kernel⟩
def sp_Span_read (K : PySem.W.Frag) : Sp := fun vs H Q _ => ∃ (lo hi : Int), vs = [.ref (He.ga K "Span"), .str (spanS lo hi)] ∧ 0 ≤ lo ∧ lo ≤ hi ∧ hi < 1000000000 ∧ ∀ a H', Same H H' → SpanAt K H' a lo hi → Q (.ref a) H'
theorem ok_Span_read (T : W0 P w K mg) : FR P w K mg base 4 (He5.wf K (He.ga K "Span") "classmethod" "read") (sp_Span_read K) := by
  obtain ⟨fd, F⟩ := T.d_Span_read
  refine (show FR P w K mg base 4 (d_Span_read.at_ K) (sp_Span_read K) from F.fr sc_Span_read (fun _ _ _ _ _ _ us hl => match us, hl with | [_, _], _ => rfl) (fun vs H Q E h => by first | (obtain ⟨rfl, _⟩ := h; rfl) | (obtain ⟨_, rfl, _⟩ := h; rfl) | (obtain ⟨_, _, rfl, _⟩ := h; rfl) | (obtain ⟨_, _, _, rfl, _⟩ := h; rfl) | (obtain ⟨_, _, _, _, rfl, _⟩ := h; rfl) | (obtain ⟨_, _, _, _, _, rfl, _⟩ := h; rfl) | (obtain ⟨_, _, _, _, _, _, rfl, _⟩ := h; rfl) | (obtain ⟨_, _, _, _, _, _, _, rfl, _⟩ := h; rfl) | (obtain ⟨_, _, _, _, _, _, _, _, rfl, _⟩ := h; rfl) | (obtain ⟨_, _, _, _, _, _, _, _, _, rfl, _⟩ := h; rfl)) fun cdv A outer s H vs Q E hr h => ⟨_, (pss_cons (ps_asg (pe_partition (pv 1) (eGs T.s_DOTS)) (kTupG (K := K) (n := 3) rfl rfl (pgs_cons (pg_name (i := 2) sc_Span_read.nd rfl (Or.inl rfl)) (pgs_cons (pg_name (i := 3) sc_Span_read.nd rfl (Or.inl rfl)) (pgs_cons (pg_name (i := 4) sc_Span_read.nd rfl (Or.inl rfl)) pgs_nil))))) (pss_cons (ps_set (i := 5) sc_Span_read.nd rfl (Or.inl rfl) (eCall (ok_number_of T) (hr.mono (by decide)) passL (by rfl) (pa_cons (pv 2) pa_nil))) (pss_cons (ps_set (i := 6) sc_Span_read.nd rfl (Or.inl rfl) (pe_ifExp (pt_cmpR op_eq (pv 3) (eGs T.s_DOTS) (nomark _)) (eCall (ok_number_of T) (hr.mono (by decide)) passL (by rfl) (pa_cons (pv 4) pa_nil)) (pv 5))) (pss_cons (ps_if (PW.pt (pw_or (pt_cmp (pc_isN (pv 5)) rfl) (pw_or (pt_cmp (pc_isN (pv 6)) rfl) (pw_or (pt_cmpR op_gt (pv 5) (pv 6) (nomark _)) (pw_or1 (PW.pt (pw_and (pt_cmpR op_eq (pv 3) (eGs T.s_DOTS) (nomark _)) (pw_and1 (pt_cmpR op_eq (pv 5) (pv 6) (nomark _)))))))))) (pss_one ps_never) pss_nil) (pss_one (ps_ret (eMakeV (i := 0) (ok_Span_init T) (hr.mono (by decide)) passL rfl (by first | exact Or.inl rfl | exact Or.inr (Or.inl rfl)) (pa_cons (pv 5) (pa_cons (pv 6) pa_nil))))))))), ?_⟩)
  obtain ⟨lo, hi, rfl, h0, h1, h9, q⟩ := h
  have sl := span_len h0 h1 h9
  have fin : ∀ (H1 : Hp), Same H H1 → ∀ x dx : Addr, H1 x = none → H1 dx = none → dx ≠ x → sp_Span_init K [.ref x, .int lo, .int hi] (upd (upd H1 dx (.own x)) x (.ins (He.ga K "Span") dx [])) (fun v H2 => v = .non ∧ Q (.ref x) H2) E0 := fun H1 sm x dx hx hd ne =>
    ⟨x, dx, lo, hi, rfl, upd_same, h0, h1, fun H' kp sp => ⟨rfl, q x H' (sm.trans (mk_end hx hd ne kp)) sp⟩⟩
  by_cases e : lo = hi
  · have pe : Txt.partition (spanS lo hi) DOT = (dec lo, Str.empty, Str.empty) := by
      unfold spanS
      rw [if_pos e]
      exact part_rod h0
    have p1 := congrArg Prod.fst pe
    have p2 := congrArg (fun z => z.2.1) pe
    refine ⟨_, rfl, ⟨_, rfl⟩, _, _, rfl, rfl, by decide +kernel, le_size (by omega), fun p hp => ?_⟩
    refine ⟨p, _, rfl, SqT.of upd_same, rfl, _, _, rfl, _, _, rfl, _, _, rfl, rfl, ?_⟩
    refine ⟨_, rfl, lo, congrArg (fun z => [V.str z]) p1, h0, by omega, fun H2 sm2 => ?_⟩
    refine ⟨_, rfl, rfl, _, rfl, iteN ?_ ⟨_, rfl, ?_⟩⟩
    · refine decide_eq_false fun z => ?_
      have z2 := (V.str.inj z)
      have z3 : (Txt.partition (spanS lo hi) DOT).2.1 = DOT := z2
      rw [p2] at z3
      exact absurd (show Str.empty = DOT from z3) (by decide +kernel)
    · refine ⟨_, rfl, _, rfl, iteN rfl ⟨_, rfl, _, rfl, iteN rfl ⟨_, rfl, _, rfl, _, _, rfl, rfl, _, rfl, iteN (by simp) ⟨_, rfl, rfl, _, rfl, iteB (fun z => ?_) fun z => ?_⟩⟩⟩⟩
      · have z3 : (Txt.partition (spanS lo hi) DOT).2.1 = DOT := V.str.inj (of_decide_eq_true z)
        rw [p2] at z3
        exact absurd (show Str.empty = DOT from z3) (by decide +kernel)
      · have f := fin H2 ((same_upd hp).trans sm2)
        rw [← e] at f
        exact ⟨rfl, _, rfl, _, rfl, f⟩
  · have pe : Txt.partition (spanS lo hi) DOT = (dec lo, DOT, dec hi) := by
      unfold spanS
      rw [if_neg e]
      exact part_span h0
    have p1 := congrArg Prod.fst pe
    have p2 := congrArg (fun z => z.2.1) pe
    have p3 := congrArg (fun z => z.2.2) pe
    refine ⟨_, rfl, ⟨_, rfl⟩, _, _, rfl, rfl, by decide +kernel, le_size (by omega), fun p hp => ?_⟩
    refine ⟨p, _, rfl, SqT.of upd_same, rfl, _, _, rfl, _, _, rfl, _, _, rfl, rfl, ?_⟩
    refine ⟨_, rfl, lo, congrArg (fun z => [V.str z]) p1, h0, by omega, fun H2 sm2 => ?_⟩
    refine ⟨_, rfl, rfl, _, rfl, iteY ?_ ⟨_, rfl, hi, congrArg (fun z => [V.str z]) p3, by omega, h9, fun H3 sm3 => ?_⟩⟩
    · exact decide_eq_true (congrArg V.str p2)
    · refine ⟨_, rfl, _, rfl, iteN rfl ⟨_, rfl, _, rfl, iteN rfl ⟨_, rfl, _, rfl, _, _, rfl, rfl, _, rfl, iteN (by simpa using h1) ⟨_, rfl, rfl, _, rfl, iteB (fun z => ⟨_, rfl, _, rfl, rfl, _, rfl, iteN (decide_eq_false fun y => e (V.int.inj y)) ?_⟩) fun z => ?_⟩⟩⟩⟩
      · exact ⟨rfl, _, rfl, _, rfl, fin H3 (((same_upd hp).trans sm2).trans sm3)⟩
      · exact ⟨rfl, _, rfl, _, rfl, fin H3 (((same_upd hp).trans sm2).trans sm3)⟩
end
end Wy
set_option Elab.async false
set_option linter.all false
set_option maxRecDepth 100000
set_option maxHeartbeats 0
namespace Wy
open PySem PySem.Spec PyProof.Rows L2 StX
section
variable {P : Program} {w : World} {K : PySem.W.Frag} {mg : Str → Option Value} {base : Heap}
theorem sc_span_of : FnScope ["word", "found"] ["word"] (defScope s_span_of) := ⟨rfl, rfl, rfl, by decide +kernel, rfl, by decide +kernel, by decide +kernel⟩
def sp_span_of : Sp := fun vs H Q _ => ∃ (lo hi : Int), vs = [.str (spanS lo hi)] ∧ 0 ≤ lo ∧ lo ≤ hi ∧ hi < 1000000000 ∧ ∀ H' t, Same H H' → H' t = some (.tup [.int lo, .int hi]) → Q (.ref t) H'
theorem ok_span_of (T : W0 P w K mg) : GFn P w K mg base 5 "span_of" sp_span_of := by
  obtain ⟨fd, F⟩ := T.d_span_of
  refine ⟨T.g_span_of, F.kp, F.fr sc_span_of (fun _ _ _ _ _ _ us hl => match us, hl with | [_], _ => rfl) (fun vs H Q E h => by first | (obtain ⟨rfl, _⟩ := h; rfl) | (obtain ⟨_, rfl, _⟩ := h; rfl) | (obtain ⟨_, _, rfl, _⟩ := h; rfl) | (obtain ⟨_, _, _, rfl, _⟩ := h; rfl) | (obtain ⟨_, _, _, _, rfl, _⟩ := h; rfl) | (obtain ⟨_, _, _, _, _, rfl, _⟩ := h; rfl) | (obtain ⟨_, _, _, _, _, _, rfl, _⟩ := h; rfl) | (obtain ⟨_, _, _, _, _, _, _, rfl, _⟩ := h; rfl) | (obtain ⟨_, _, _, _, _, _, _, _, rfl, _⟩ := h; rfl) | (obtain ⟨_, _, _, _, _, _, _, _, _, rfl, _⟩ := h; rfl)) fun cdv A outer s H vs Q E hr h => ⟨_, (pss_cons (eTry rfl rfl sc_span_of.nd (takes_of rfl rfl rfl rfl) (fun Wx pn xe tk hpo => (pss_one (ps_set (i := 1) sc_span_of.nd rfl (Or.inl rfl) (ClX.pe_cmeth (pe_glob (v := .ref (He.ga K "Span")) (by rfl) T.g_Span rfl) T.cr_Span T.cm_Span (ok_Span_read T) (hr.mono (by decide)) passL (pa_cons (pv 0) pa_nil))))) (ClsOk.plain (clt_name (nmG T.g_InvalidText)) (fun a oe cls d pn hz hf => pss_never) ClsOk.nil)) (pss_one (ps_ret (pe_tup (pa_cons (eProp T.c_Span (ok_Span_least T) (hr.mono (by decide)) (pv 1)) (pa_cons (eProp T.c_Span (ok_Span_greatest T) (hr.mono (by decide)) (pv 1)) pa_nil)))))), ?_⟩⟩
  obtain ⟨lo, hi, rfl, h0, h1, h9, q⟩ := h
  exact ⟨rfl, _, rfl, lo, hi, rfl, h0, h1, h9, fun a H1 sm ⟨dx, ea⟩ => ⟨_, rfl, a, dx, _, _, rfl, ea, rfl, _, rfl, a, dx, _, _, rfl, ea, rfl, (by show 2 ≤ sizeLine; decide), fun t ht => q _ t (sm.trans (same_upd ht)) upd_same⟩⟩
theorem sc_read_tie : FnScope ["row", "posts", "names", "words", "bounds"] ["row", "posts", "names"] (defScope s_read_tie) := ⟨rfl, rfl, rfl, by decide +kernel, rfl, by decide +kernel, by decide +kernel⟩
def StrL (H : Hp) (a : Addr) (xs : List Str) : Prop := H a = some (.lst (xs.map V.str))
def sp_read_tie : Sp := fun vs H Q _ => ∃ (pa na : Addr) (t : Tie) (ps ns : List Str), vs = [.str (tieRow t), .ref pa, .ref na] ∧ StrL H pa ps ∧ StrL H na ns ∧ TieGood t ∧ t.2.1 ∈ ps ∧ t.2.2.1 ∈ ps ∧ t.2.1 ≠ t.2.2.1 ∧ t.1 ∉ ns ∧
  ∀ H' a, Same H H' → H' a = some (.tup (tieV t)) → Q (.ref a) H'
theorem ok_read_tie (T : W0 P w K mg) : GFn P w K mg base 6 "read_tie" sp_read_tie := by
  obtain ⟨fd, F⟩ := T.d_read_tie
  refine ⟨T.g_read_tie, F.kp, F.fr sc_read_tie (fun _ _ _ _ _ _ us hl => match us, hl with | [_, _, _], _ => rfl) (fun vs H Q E h => by first | (obtain ⟨rfl, _⟩ := h; rfl) | (obtain ⟨_, rfl, _⟩ := h; rfl) | (obtain ⟨_, _, rfl, _⟩ := h; rfl) | (obtain ⟨_, _, _, rfl, _⟩ := h; rfl) | (obtain ⟨_, _, _, _, rfl, _⟩ := h; rfl) | (obtain ⟨_, _, _, _, _, rfl, _⟩ := h; rfl) | (obtain ⟨_, _, _, _, _, _, rfl, _⟩ := h; rfl) | (obtain ⟨_, _, _, _, _, _, _, rfl, _⟩ := h; rfl) | (obtain ⟨_, _, _, _, _, _, _, _, rfl, _⟩ := h; rfl) | (obtain ⟨_, _, _, _, _, _, _, _, _, rfl, _⟩ := h; rfl)) fun cdv A outer s H vs Q E hr h => ⟨_, (pss_cons (ps_set (i := 3) sc_read_tie.nd rfl (Or.inl rfl) (pe_split (pv 0) pe_str)) (pss_cons (ps_set (i := 4) sc_read_tie.nd rfl (Or.inl rfl) (pe_ifExp (PW.pt (pw_and (pt_cmpR op_eq (pe_callB call_len_seq (by rfl) T.f_len PySem.boot_len (pa_cons (pv 3) pa_nil)) pe_int (nomark _)) (pw_and1 (pt_cmpR op_eq (pe_ix (kIxL (K := K) rfl) (pv 3) pe_int (fun _ _ => rfl)) (eGs T.s_TIE) (nomark _))))) (eCall (ok_span_of T) (hr.mono (by decide)) passL (by rfl) (pa_cons (pe_ix (kIxL (K := K) rfl) (pv 3) pe_int (fun _ _ => rfl)) pa_nil)) pe_non)) (pss_cons (ps_if (PW.pt (pw_or (pt_cmp (pc_isN (pv 4)) rfl) (pw_or (pt_not (pt_val (eCall (ok_is_name T) (hr.mono (by decide)) passL (by rfl) (pa_cons (pe_ix (kIxL (K := K) rfl) (pv 3) pe_int (fun _ _ => rfl)) pa_nil)))) (pw_or1 (pt_cmpR (kIn (K := K) rfl) (pe_ix (kIxL (K := K) rfl) (pv 3) pe_int (fun _ _ => rfl)) (pv 2) (by rfl)))))) (pss_one (ps_ret pe_non)) pss_nil) (pss_cons (ps_if (PW.pt (pw_or (pt_cmpR (kNotIn (K := K) rfl) (pe_ix (kIxL (K := K) rfl) (pv 3) pe_int (fun _ _ => rfl)) (pv 1) (by rfl)) (pw_or (pt_cmpR (kNotIn (K := K) rfl) (pe_ix (kIxL (K := K) rfl) (pv 3) pe_int (fun _ _ => rfl)) (pv 1) (by rfl)) (pw_or1 (pt_cmpR op_eq (pe_ix (kIxL (K := K) rfl) (pv 3) pe_int (fun _ _ => rfl)) (pe_ix (kIxL (K := K) rfl) (pv 3) pe_int (fun _ _ => rfl)) (nomark _)))))) (pss_one (ps_ret pe_non)) pss_nil) (pss_one (ps_ret (pe_tup (pa_cons (pe_ix (kIxL (K := K) rfl) (pv 3) pe_int (fun _ _ => rfl)) (pa_cons (pe_ix (kIxL (K := K) rfl) (pv 3) pe_int (fun _ _ => rfl)) (pa_cons (pe_ix (kIxL (K := K) rfl) (pv 3) pe_int (fun _ _ => rfl)) (pa_star (pv 4) pa_nil))))))))))), ?_⟩⟩
  obtain ⟨pa, na, t, ps, ns, rfl, hp, hn, g, m1, m2, ne, nn, q⟩ := h
  have hl := g.len
  refine ⟨_, rfl, ⟨_, rfl⟩, _, _, rfl, rfl, by decide +kernel, le_size (by omega), fun wa hwa => ?_⟩
  have s1 := same_upd (o := .lst ((Txt.split (tieRow t) " ").map V.str)) hwa
  have e1 : (upd H wa (.lst ((Txt.split (tieRow t) " ").map V.str))) wa = some (.lst ((tieWords t).map V.str)) := upd_same.trans (by rw [g.split])
  generalize (upd H wa (.lst ((Txt.split (tieRow t) " ").map V.str))) = H1 at s1 e1 ⊢
  have lw : ((tieWords t).map V.str).length = 5 := rfl
  refine ⟨_, rfl, wa, (tieWords t).map V.str, rfl, .inl (SqL.of e1), rfl, _, rfl, iteY (decide_eq_true (by rw [lw]; rfl)) ⟨_, rfl, wa, _, _, _, rfl, rfl, SqL.of e1, atI_nat (j := 0) rfl, rfl, _, rfl, iteY (decide_eq_true rfl) ?_⟩⟩
  refine ⟨_, rfl, wa, _, _, _, rfl, rfl, SqL.of e1, atI_nat (j := 4) rfl, _, _, rfl, g.lo, g.hi, (by have := g.z; omega), fun H2 b sm2 eb => ?_⟩
  have n6 := name_len6 g.n
  refine ⟨_, rfl, _, rfl, iteN rfl ⟨_, rfl, wa, _, _, _, rfl, rfl, SqL.of (sm2 _ _ e1), atI_nat (j := 1) rfl, _, rfl, by omega, fun H3 sm3 => ⟨_, rfl, iteN (by rw [g.n]; rfl) ?_⟩⟩⟩
  have s4 := (s1.trans sm2).trans sm3
  have e4 := (sm2.trans sm3) _ _ e1
  have eb3 := sm3 _ _ eb
  refine ⟨_, rfl, wa, _, _, _, rfl, rfl, SqL.of e4, atI_nat (j := 1) rfl, _, rfl, na, _, rfl, .inl (SqL.of (s4 _ _ hn)), rfl, flat_str, _, rfl, iteN ?_ ?_⟩
  · rw [show inV (V.str t.1) (ns.map V.str) = decide (t.1 ∈ ns) from inV_str]
    exact decide_eq_false nn
  refine ⟨_, rfl, wa, _, _, _, rfl, rfl, SqL.of e4, atI_nat (j := 2) rfl, _, rfl, pa, _, rfl, .inl (SqL.of (s4 _ _ hp)), rfl, flat_str, _, rfl, iteN ?_ ?_⟩
  · rw [show inV (V.str t.2.1) (ps.map V.str) = decide (t.2.1 ∈ ps) from inV_str, decide_eq_true m1]
    rfl
  refine ⟨_, rfl, wa, _, _, _, rfl, rfl, SqL.of e4, atI_nat (j := 3) rfl, _, rfl, pa, _, rfl, .inl (SqL.of (s4 _ _ hp)), rfl, flat_str, _, rfl, iteN ?_ ?_⟩
  · rw [show inV (V.str t.2.2.1) (ps.map V.str) = decide (t.2.2.1 ∈ ps) from inV_str, decide_eq_true m2]
    rfl
  refine ⟨_, rfl, wa, _, _, _, rfl, rfl, SqL.of e4, atI_nat (j := 2) rfl, _, rfl, wa, _, _, _, rfl, rfl, SqL.of e4, atI_nat (j := 3) rfl, rfl, _, rfl, iteN (decide_eq_false fun z => ne (V.str.inj z)) ?_⟩
  refine ⟨_, rfl, wa, _, _, _, rfl, rfl, SqL.of e4, atI_nat (j := 1) rfl, _, rfl, wa, _, _, _, rfl, rfl, SqL.of e4, atI_nat (j := 2) rfl, _, rfl, wa, _, _, _, rfl, rfl, SqL.of e4, atI_nat (j := 3) rfl, _, rfl, b, _, rfl, .inl (SqT.of eb3), (by show 5 ≤ sizeLine; decide), fun a ha => ?_⟩
  exact q _ a (s4.trans (same_upd ha)) upd_same
theorem sc_Web_str : FnScope ["self", "rows", "name", "one", "other", "least", "greatest"] ["self"] (defScope s_Web_str) := ⟨rfl, rfl, rfl, by decide +kernel, rfl, by decide +kernel, by decide +kernel⟩
def sp_Web_str (K : PySem.W.Frag) : Sp := fun vs H Q _ => ∃ (a : Addr) (w : Wb), vs = [.ref a] ∧ WebAt K H a w ∧ Valid w ∧ Small w ∧ w.1.length ≤ 100 ∧ w.2.length ≤ 100 ∧ ∀ H', Same H H' → Q (.str (webS w)) H'
theorem ok_Web_str (T : W0 P w K mg) : MFn P w K mg base 4 "Web" "__str__" (sp_Web_str K) := by
  obtain ⟨fd, F⟩ := T.d_Web_str
  refine ⟨T.m_Web_str, F.fr sc_Web_str (fun _ _ _ _ _ _ us hl => match us, hl with | [_], _ => rfl) (fun vs H Q E h => by first | (obtain ⟨rfl, _⟩ := h; rfl) | (obtain ⟨_, rfl, _⟩ := h; rfl) | (obtain ⟨_, _, rfl, _⟩ := h; rfl) | (obtain ⟨_, _, _, rfl, _⟩ := h; rfl) | (obtain ⟨_, _, _, _, rfl, _⟩ := h; rfl) | (obtain ⟨_, _, _, _, _, rfl, _⟩ := h; rfl) | (obtain ⟨_, _, _, _, _, _, rfl, _⟩ := h; rfl) | (obtain ⟨_, _, _, _, _, _, _, rfl, _⟩ := h; rfl) | (obtain ⟨_, _, _, _, _, _, _, _, rfl, _⟩ := h; rfl) | (obtain ⟨_, _, _, _, _, _, _, _, _, rfl, _⟩ := h; rfl)) fun cdv A outer s H vs Q E hr h => ⟨_, (pss_cons (ps_set (i := 1) sc_Web_str.nd rfl (Or.inl rfl) (pe_lst (pa_cons (pe_join pe_str (pe_lst (pa_cons pe_str (pa_star (eFld T.c_Web T.n_Web_places (pv 0)) pa_nil)))) pa_nil))) (pss_cons (ps_for (passes_of rfl) rfl (pi_tup (eFld T.c_Web T.n_Web_bonds (pv 0))) (kTupG (K := K) (n := 5) rfl rfl (pgs_cons (pg_name (i := 2) sc_Web_str.nd rfl (Or.inl rfl)) (pgs_cons (pg_name (i := 3) sc_Web_str.nd rfl (Or.inl rfl)) (pgs_cons (pg_name (i := 4) sc_Web_str.nd rfl (Or.inl rfl)) (pgs_cons (pg_name (i := 5) sc_Web_str.nd rfl (Or.inl rfl)) (pgs_cons (pg_name (i := 6) sc_Web_str.nd rfl (Or.inl rfl)) pgs_nil)))))) (pss_one (ps_expr (pe_bm PySem.F.plainAttrs_list PySem.F.slot_list_append PySem.F.type_list_append mt_append (pv 1) (pa_cons (pe_joined (PJ.cons pe_str (PJ.cons (pe_fmt (pv 2)) (PJ.cons pe_str (PJ.cons (pe_fmt (pv 3)) (PJ.cons pe_str (PJ.cons (pe_fmt (pv 4)) (PJ.cons pe_str (PJ.cons (eFmtO (ok_Span_str T) T.fmt_Span (hr.mono (by decide)) passL (eMake (ok_Span_init T) (hr.mono (by decide)) passL (by rfl) (pa_cons (pv 5) (pa_cons (pv 6) pa_nil)))) PJ.nil))))))))) pa_nil))))) (pss_one (ps_ret (pe_join pe_str (pv 1)))))), ?_⟩⟩
  obtain ⟨a, w, rfl, ⟨dx, pa, ta, ea, hp, as, ha, hts⟩, v, sm, pl, tl, q⟩ := h
  have wp : ∀ z ∈ (("posts" : Str) :: w.1), z.length ≤ 6 := fun z hz => by
    rcases List.mem_cons.mp hz with rfl | h
    · rw [posts_len]; decide
    · exact name_len6 (v.posts.1 z h)
  have sp := sum_le (fun x : Str => x.length) 6 (("posts" : Str) :: w.1) wp
  refine ⟨⟨_, rfl⟩, _, rfl, a, dx, _, _, rfl, ea, rfl, pa, _, rfl, .inl (SqT.of hp), le_size (by simp; omega), fun D hD => ?_⟩
  have s1 := same_upd (o := .lst (V.str ("posts" : Str) :: (w.1.map V.str ++ []))) hD
  refine ⟨_, D, (("posts" : Str) :: w.1), rfl, rfl, .inl (SqL.of (upd_same.trans (by simp))), ?_, (by show 1 ≤ sizeLine; decide), fun R hR => ?_⟩
  · rw [one_len.1]
    simp only [List.length_cons] at sp ⊢
    omega
  have s2 := s1.trans (same_upd (o := .lst [V.str (postRow w.1)]) hR)
  have hR0 : H R = none := Same.none s1 hR
  refine ⟨_, rfl, a, dx, _, _, rfl, s2 _ _ ea, rfl, ta, rfl, ⟨_, SqT.of (s2 _ _ ha)⟩, ?_⟩
  refine for_tup (xs := as.map V.ref) (fun i σ H' => (∃ o2 o3 o4 o5 o6, σ = [some (.ref a), some (.ref R), o2, o3, o4, o5, o6]) ∧ Same H H' ∧ H' R = some (.lst ((postRow w.1 :: (w.2.take i).map tieRow).map V.str))) ⟨⟨_, _, _, _, _, rfl⟩, s2, upd_same⟩ (fun i σ H' _ p => SqT.of (p.2.1 _ _ ha)) (fun i x σ H' hx p => ?_) fun σ H' p => ?_
  · obtain ⟨⟨o2, o3, o4, o5, o6, rfl⟩, s3, eR⟩ := p
    rw [List.getElem?_map] at hx
    obtain ⟨b, hb1, hb2⟩ := Option.map_eq_some_iff.mp hx
    subst hb2
    obtain ⟨t, et, tz⟩ := paired_get' hts hb1
    have g := tie_good v sm (List.mem_of_getElem? et)
    have gl := g.len
    have n1 := name_len6 g.n
    have n2 := name_len6 g.a
    have n3 := name_len6 g.b
    have n4 := span_len g.lo g.hi (by have := g.z; omega)
    have c0 : Str.empty.length = 0 := by decide +kernel
    have c1 : (Str.ofString "tie ").length = 4 := by decide +kernel
    have c2 : (Str.ofString " ").length = 1 := by decide +kernel
    refine ⟨b, _, rfl, SqT.of (s3 _ _ tz), rfl, _, _, rfl, _, _, rfl, _, _, rfl, _, _, rfl, _, _, rfl, rfl, ?_⟩
    refine ⟨_, rfl, .inl ⟨rfl, _, SqL.of eR⟩, _, rfl, le_size ?_, _, rfl, .inl ⟨_, rfl, le_size ?_, _, rfl, le_size ?_, _, rfl, le_size ?_, _, rfl, .inl ⟨_, rfl, le_size ?_, _, rfl, le_size ?_, _, rfl, le_size ?_, _, rfl, .inl ⟨_, rfl, le_size ?_, _, rfl, le_size ?_, _, rfl, le_size ?_, _, rfl, _, rfl, fun x dx2 hx hd ne => ⟨x, dx2, _, _, rfl, upd_same, g.lo, g.hi, fun H4 kp ⟨dx3, sa⟩ => ⟨rfl, x, dx3, _, rfl, sa, x, _, _, rfl, ⟨dx3, sa⟩, g.lo, g.hi, (by have := g.z; omega), _, rfl, _, rfl, le_size ?_, ?_⟩⟩⟩⟩⟩⟩
    all_goals first
      | omega
      | (simp only [Str.length_append]; omega)
      | (show Str.length _ ≤ _; simp only [Str.length_append]; omega)
      | skip
    have s4 := mk_end hx hd ne kp
    have eR4 := s4 _ _ eR
    have lr : (postRow w.1 :: (w.2.take i).map tieRow).length ≤ 101 := by
      rw [List.length_cons, List.length_map, List.length_take]
      omega
    refine ⟨R, _, _, rfl, rfl, eR4, lt_size (by rw [List.length_map]; omega), ⟨_, _, _, _, _, rfl⟩, fun c o e => ?_, ?_⟩
    · rw [upd_ne (ne_of_none e hR0)]
      exact s4 _ _ (s3 _ _ e)
    · rw [upd_same, take_snoc et, List.map_append, ← List.cons_append, List.map_append (f := V.str)]
      rfl
  · obtain ⟨⟨o2, o3, o4, o5, o6, rfl⟩, s3, eR⟩ := p
    have lw : (w.2.take (as.map V.ref).length) = w.2 := by rw [List.length_map, paired_len hts, List.take_length]
    rw [lw] at eR
    have sr := sum_le (fun x : Str => x.length) 1000 (rowsOf w) (rows_len v sm pl)
    have lr : (rowsOf w).length = w.2.length + 1 := by simp [rowsOf]
    refine ⟨⟨_, rfl⟩, _, rfl, _, R, rowsOf w, rfl, rfl, .inl (SqL.of eR), ?_, q H' s3⟩
    rw [one_len.2]
    omega
end
end Wy
set_option Elab.async false
set_option linter.all false
set_option maxRecDepth 100000
set_option maxHeartbeats 0
namespace Wy
open PySem PySem.Spec PyProof.Rows L2 StX
theorem kSlL {X : Cx} {K : PySem.W.Frag} (h : X.K = K) : SlR X (rSlL K) := by
  subst h
  exact sl_list
section
variable {P : Program} {w : World} {K : PySem.W.Frag} {mg : Str → Option Value} {base : Heap}
theorem sc_Web_read : FnScope ["cls", "text", "first", "rows", "word", "posts", "good", "ties", "line", "row", "tie", "index", "post", "name", "more"] ["cls", "text"] (defScope s_Web_read) := ⟨rfl, rfl, rfl, by decide +kernel, rfl, by decide +kernel, by decide +kernel⟩
def sp_Web_read (K : PySem.W.Frag) : Sp := fun vs H Q _ => ∃ (w : Wb), vs = [.ref (He.ga K "Web"), .str (webS w)] ∧ Valid w ∧ Small w ∧ w.1.length ≤ 100 ∧ w.2.length ≤ 100 ∧ ∀ x H', Same H H' → WebAt K H' x w → Q (.ref x) H'
theorem ok_Web_read (T : W0 P w K mg) : FR P w K mg base 8 (He5.wf K (He.ga K "Web") "classmethod" "read") (sp_Web_read K) := by
  obtain ⟨fd, F⟩ := T.d_Web_read
  refine (show FR P w K mg base 8 (d_Web_read.at_ K) (sp_Web_read K) from F.fr sc_Web_read (fun _ _ _ _ _ _ us hl => match us, hl with | [_, _], _ => rfl) (fun vs H Q E h => by first | (obtain ⟨rfl, _⟩ := h; rfl) | (obtain ⟨_, rfl, _⟩ := h; rfl) | (obtain ⟨_, _, rfl, _⟩ := h; rfl) | (obtain ⟨_, _, _, rfl, _⟩ := h; rfl) | (obtain ⟨_, _, _, _, rfl, _⟩ := h; rfl) | (obtain ⟨_, _, _, _, _, rfl, _⟩ := h; rfl) | (obtain ⟨_, _, _, _, _, _, rfl, _⟩ := h; rfl) | (obtain ⟨_, _, _, _, _, _, _, rfl, _⟩ := h; rfl) | (obtain ⟨_, _, _, _, _, _, _, _, rfl, _⟩ := h; rfl) | (obtain ⟨_, _, _, _, _, _, _, _, _, rfl, _⟩ := h; rfl)) fun cdv A outer s H vs Q E hr h => ⟨_, (pss_cons (ps_asg (pe_split (pv 1) pe_str) (pg_star false rfl (pgs_cons (pg_name (i := 2) sc_Web_read.nd rfl (Or.inl rfl)) (pgs_cons (pg_name (i := 3) sc_Web_read.nd rfl (Or.inl rfl)) pgs_nil)))) (pss_cons (ps_asg (pe_split (pv 2) pe_str) (pg_star false rfl (pgs_cons (pg_name (i := 4) sc_Web_read.nd rfl (Or.inl rfl)) (pgs_cons (pg_name (i := 5) sc_Web_read.nd rfl (Or.inr rfl)) pgs_nil)))) (pss_cons (ps_setLc (i := 6) (own := [("index", 11), ("post", 12)]) (by rfl) sc_Web_read.nd rfl rfl (sw_true rfl rfl rfl (by decide +kernel)) (iEnum1 false (by rfl) T.f_enumerate (pa_cons (pv 5) pa_nil)) (blkOk_by (own := [("index", 11), ("post", 12)]) (N := ["cls", "text", "first", "rows", "word", "posts", "good", "ties", "line", "row", "tie", "index", "post", "name", "more"]) (sc := defScope s_Web_read) (by decide +kernel)) (fun _ _ _ _ _ => (kTupG (K := K) (n := 2) rfl rfl (pgs_cons (pg_name (i := 11) sc_Web_read.nd rfl (Or.inl rfl)) (pgs_cons (pg_name (i := 12) sc_Web_read.nd rfl (Or.inl rfl)) pgs_nil)))) (fun _ _ _ _ _ => pts_nil) (fun _ _ _ _ _ => (pe_and (eCall (ok_is_name T) (hr.mono (by decide)) passL (by rfl) (pa_cons (pv 12) pa_nil)) (pe_one (pe_cmpR (kNotIn (K := K) rfl) (pv 12) (pe_slice (kSlL (K := K) rfl) (pv 5) po_none (po_some (pv 11))) (by rfl)))))) (pss_cons (ps_if (PW.pt (pw_or (pt_cmpR op_ne (pv 4) (eGs T.s_POSTS) (nomark _)) (pw_or (pt_cmpR op_eq (pe_callB call_len_seq (by rfl) T.f_len PySem.boot_len (pa_cons (pv 5) pa_nil)) pe_int (nomark _)) (pw_or1 (pt_not (pt_val (pe_callB (kAll (K := K) rfl rfl) (by rfl) T.f_all (by decide +kernel) (pa_cons (pv 6) pa_nil)))))))) (pss_one ps_never) pss_nil) (pss_cons (ps_set (i := 7) sc_Web_read.nd rfl (Or.inl rfl) (pe_lst pa_nil)) (pss_cons (ps_for (passes_of rfl) rfl (iEnumK (by decide) (by decide) (by rfl) T.f_enumerate (pa_cons (pv 3) pa_nil)) (kTupG (K := K) (n := 2) rfl rfl (pgs_cons (pg_name (i := 8) sc_Web_read.nd rfl (Or.inl rfl)) (pgs_cons (pg_name (i := 9) sc_Web_read.nd rfl (Or.inl rfl)) pgs_nil))) (pss_cons (ps_set (i := 10) sc_Web_read.nd rfl (Or.inl rfl) (eCall (ok_read_tie T) (hr.mono (by decide)) passL (by rfl) (pa_cons (pv 9) (pa_cons (pv 5) (pa_cons (pe_lc (own := [("name", 13), ("more", 14)]) (by rfl) sc_Web_read.nd (pi_list (pv 7)) (blkOk_by (own := [("name", 13), ("more", 14)]) (N := ["cls", "text", "first", "rows", "word", "posts", "good", "ties", "line", "row", "tie", "index", "post", "name", "more"]) (sc := defScope s_Web_read) (by decide +kernel)) (fun _ _ _ _ _ => (pg_star true rfl (pgs_cons (pg_name (i := 13) sc_Web_read.nd rfl (Or.inl rfl)) (pgs_cons (pg_name (i := 14) sc_Web_read.nd rfl (Or.inl rfl)) pgs_nil)))) (fun _ _ _ _ _ => pts_nil) (fun _ _ _ _ _ => (pv 13))) pa_nil))))) (pss_cons (ps_if (pt_cmp (pc_isN (pv 10)) rfl) (pss_one ps_never) pss_nil) (pss_one (ps_expr (pe_bm PySem.F.plainAttrs_list PySem.F.slot_list_append PySem.F.type_list_append mt_append (pv 7) (pa_cons (pv 10) pa_nil))))))) (pss_one (ps_ret (eMakeV (i := 0) (ok_Web_init T) (hr.mono (by decide)) (passes_call (takes_of rfl rfl rfl rfl) (fun _ _ _ _ h => h)) rfl (by first | exact Or.inl rfl | exact Or.inr (Or.inl rfl)) (pa_cons (pe_callTy call_tuple_of (by rfl) T.f_tuple (by decide +kernel) (pa_cons (pv 5) pa_nil)) (pa_cons (pe_callTy call_tuple_of (by rfl) T.f_tuple (by decide +kernel) (pa_cons (pv 7) pa_nil)) pa_nil))))))))))), ?_⟩)
  obtain ⟨w, rfl, v, sm, pl, tl, q⟩ := h
  have wl := web_len v sm pl tl
  refine ⟨_, rfl, ⟨_, rfl⟩, _, _, rfl, rfl, by decide +kernel, Nat.le_trans (Nat.add_le_add_right wl 2) (by decide), fun ra hra => ?_⟩
  have s1 := same_upd (o := .lst ((Txt.split (webS w) "\n").map V.str)) hra
  have e1 : (upd H ra (.lst ((Txt.split (webS w) "\n").map V.str))) ra = some (.lst ((rowsOf w).map V.str)) := upd_same.trans (by rw [web_split v sm])
  generalize (upd H ra (.lst ((Txt.split (webS w) "\n").map V.str))) = H1 at s1 e1 ⊢
  refine ⟨ra, .str (postRow w.1), (w.2.map tieRow).map V.str, rfl, e1, fun rb hrb => ⟨_, _, rfl, _, _, rfl, rfl, ?_⟩⟩
  have pl2 := post_len v.posts
  refine ⟨_, rfl, ⟨_, rfl⟩, _, _, rfl, rfl, by decide +kernel, le_size (by omega), fun wa hwa => ?_⟩
  have s2 := same_upd (o := .lst ((w.2.map tieRow).map V.str)) hrb
  have e2 : (upd H1 rb (.lst ((w.2.map tieRow).map V.str))) rb = some (.lst ((w.2.map tieRow).map V.str)) := upd_same
  generalize (upd H1 rb (.lst ((w.2.map tieRow).map V.str))) = H2 at s2 e2 hwa ⊢
  have s3 := same_upd (o := .lst ((Txt.split (postRow w.1) " ").map V.str)) hwa
  have e3 : (upd H2 wa (.lst ((Txt.split (postRow w.1) " ").map V.str))) wa = some (.lst ((("posts" : Str) :: w.1).map V.str)) := upd_same.trans (by rw [post_split v.posts])
  generalize (upd H2 wa (.lst ((Txt.split (postRow w.1) " ").map V.str))) = H3 at s3 e3 ⊢
  refine ⟨wa, .str "posts", w.1.map V.str, rfl, e3, fun pb hpb => ⟨_, _, rfl, _, _, rfl, rfl, ?_⟩⟩
  have s4 := same_upd (o := .lst (w.1.map V.str)) hpb
  have e4 : (upd H3 pb (.lst (w.1.map V.str))) pb = some (.lst (w.1.map V.str)) := upd_same
  generalize (upd H3 pb (.lst (w.1.map V.str))) = H4 at s4 e4 ⊢
  have s5 := ((s1.trans s2).trans s3).trans s4
  refine ⟨_, rfl, pb, w.1.map V.str, rfl, e4, fun D hD => ?_⟩
  refine lc_en (b := false) (fun i H' => Same H4 H' ∧ H' D = some (.lst ((List.replicate i true).map V.bl))) ⟨same_upd hD, upd_same⟩ (fun i H' _ p => p.1 _ _ e4) (fun i x Tp H' hx p hT => ?_) fun H5 p => ?_
  · obtain ⟨s6, eD⟩ := p
    rw [List.getElem?_map] at hx
    obtain ⟨z, hz1, hz2⟩ := Option.map_eq_some_iff.mp hx
    subst hz2
    have zm : z ∈ w.1 := List.mem_of_getElem? hz1
    have s7 := s6.trans (same_upd (o := .tup [.int (0 + (i : Int)), .str z]) hT)
    refine ⟨Tp, _, rfl, SqT.of upd_same, rfl, _, _, rfl, _, _, rfl, rfl, rfl, ?_⟩
    refine ⟨_, rfl, z, rfl, (by have := name_len6 (v.posts.1 z zm); omega), fun H6 sm6 => ⟨_, rfl, iteY (v.posts.1 z zm) ?_⟩⟩
    have s8 := s7.trans sm6
    refine ⟨_, rfl, _, rfl, _, rfl, _, rfl, pb, _, rfl, SqL.of (s8 _ _ e4), fun p hp => ?_⟩
    have ec : cutV (w.1.map V.str) none (some (0 + (i : Int))) = (w.1.take i).map V.str := by rw [Int.zero_add, cutV_take, List.map_take]
    have ep : (upd H6 p (.lst (cutV (w.1.map V.str) none (some (0 + (i : Int)))))) p = some (.lst ((w.1.take i).map V.str)) := upd_same.trans (by rw [ec])
    have eD6 : H6 D = some (.lst ((List.replicate i true).map V.bl)) := sm6 _ _ ((same_upd hT) _ _ eD)
    have s9 := s8.trans (same_upd (o := .lst (cutV (w.1.map V.str) none (some (0 + (i : Int))))) hp)
    refine ⟨p, (w.1.take i).map V.str, rfl, .inl (SqL.of ep), rfl, flat_str, _, (same_upd hp) _ _ eD6, lt_size ?_, ?_, ?_⟩
    · have := (List.getElem?_eq_some_iff.mp hz1).1
      simp
      omega
    · exact fun a o e => by
        rw [upd_ne (ne_of_none e hD)]
        exact s9 _ _ e
    · have nz : z ∉ w.1.take i := by
        have q0 : Good (w.1.take (i + 1)) := v.posts.take _
        rw [take_snoc hz1] at q0
        exact (good_snoc.mp q0).2.2
      have hv : inV (V.str z) ((w.1.take i).map V.str) = false := by
        rw [inV_str]
        exact decide_eq_false nz
      rw [upd_same, List.replicate_succ', List.map_append]
      simp only [hv]
      rfl
  obtain ⟨s6, eD⟩ := p
  have e5 := s6 _ _ e4
  have pne : w.1.length ≠ 0 := fun z => v.ne (List.length_eq_zero_iff.mp z)
  refine ⟨_, rfl, rfl, _, rfl, iteN (by decide +kernel) ⟨_, rfl, pb, _, rfl, .inl (SqL.of e5), rfl, _, rfl, iteN (decide_eq_false fun z => pne ?_) ⟨_, rfl, D, _, rfl, SqL.of eD, _, rfl, iteN (by simp) ?_⟩⟩⟩
  · have z2 := V.int.inj z
    rw [List.length_map] at z2
    omega
  refine ⟨(by show 0 ≤ sizeLine; decide), fun L hL => ?_⟩
  have s7 := s6.trans (same_upd (o := .lst []) hL)
  have e2' := (s3.trans s4) _ _ e2
  refine ⟨_, rfl, rb, (w.2.map tieRow).map V.str, rfl, s7 _ _ e2', ?_⟩
  refine for_en (b := false) (xs := (w.2.map tieRow).map V.str) (fun i σ H' => (∃ o8 o9 o10 o11 o12 o13 o14, σ = [some (.ref (He.ga K "Web")), some (.str (webS w)), some (.str (postRow w.1)), some (.ref rb), some (.str "posts"), some (.ref pb), some (.ref D), some (.ref L), o8, o9, o10, o11, o12, o13, o14]) ∧ Same H4 H' ∧
      ∃ as, H' L = some (.lst (as.map V.ref)) ∧ Paired (fun a t => H' a = some (.tup (tieV t))) as (w.2.take i))
    ⟨⟨_, _, _, _, _, _, _, rfl⟩, s7, [], upd_same, .nil⟩ (fun i σ H' _ p => p.2.1 _ _ e2') (fun i x Tp σ H' hx p hT => ?_) fun σ H' p => ?_
  · obtain ⟨⟨o8, o9, o10, o11, o12, o13, o14, rfl⟩, s8, as, eL, hts⟩ := p
    rw [List.getElem?_map, List.getElem?_map] at hx
    obtain ⟨row, hz1, hz2⟩ := Option.map_eq_some_iff.mp hx
    obtain ⟨t, et, hz3⟩ := Option.map_eq_some_iff.mp hz1
    subst hz2 hz3
    have tm := List.mem_of_getElem? et
    have g := tie_good v sm tm
    have s9 := same_upd (o := .tup [.int (1 + (i : Int)), .str (tieRow t)]) hT
    have eL9 := s9 _ _ eL
    have la : as.length = (w.2.take i).length := paired_len hts
    refine ⟨Tp, _, rfl, SqT.of upd_same, rfl, _, _, rfl, _, _, rfl, rfl, ?_⟩
    refine ⟨_, rfl, _, rfl, _, rfl, L, rfl, ⟨_, SqL.of eL9⟩, fun D2 hD2 => ?_⟩
    refine lc_acc walk_list hD2 (fun j => ((w.2.take i).take j).map fun u => V.str u.1) rfl (fun j hj => lt_size ?_) (fun H5 sm5 => SqL.of (sm5 _ _ eL9)) (fun j x H5 H6 hj sm5 y Yes No hy hn => ?_) fun H5 sm5 e5' => ?_
    · rw [List.length_map, List.length_take, List.length_take]
      omega
    · obtain ⟨eH, ex⟩ := y
      subst eH
      rw [List.getElem?_map] at ex
      obtain ⟨b, eb, ex2⟩ := Option.map_eq_some_iff.mp ex
      subst ex2
      obtain ⟨u, eu, hu⟩ := paired_get' hts eb
      refine ⟨b, .str u.1, _, rfl, sm5 _ _ (s9 _ _ hu), fun p hp => ⟨_, _, rfl, _, _, rfl, rfl, rfl, _, rfl, hy _ _ (same_upd hp) ?_⟩⟩
      rw [take_snoc eu, List.map_append]
      rfl
    · have e6 : ((w.2.take i).take (as.map V.ref).length).map (fun u => V.str u.1) = ((w.2.take i).map (·.1)).map V.str := by
        rw [List.length_map, la, List.take_length, List.map_map]
        rfl
      rw [e6] at e5'
      have s10 := (s8.trans s9).trans sm5
      have nn : t.1 ∉ (w.2.take i).map (·.1) := by
        have q0 : Good ((w.2.take (i + 1)).map (·.1)) := by
          rw [List.map_take]
          exact v.ties.take _
        rw [take_snoc et, List.map_append] at q0
        exact (good_snoc.mp q0).2.2
      refine ⟨pb, D2, t, w.1, (w.2.take i).map (fun u : Tie => u.1), rfl, s10 _ _ e4, e5', g, (v.ok t tm).1, (v.ok t tm).2.1, (v.ok t tm).2.2.1, nn, fun H6 a s11 ea => ?_⟩
      have s12 := (s9.trans sm5).trans s11
      have eL6 := s12 _ _ eL
      refine ⟨_, rfl, _, rfl, iteN rfl ⟨_, rfl, .inl ⟨rfl, _, SqL.of eL6⟩, _, rfl, L, _, _, rfl, rfl, eL6, lt_size ?_, ⟨_, _, _, _, _, _, _, rfl⟩, fun c o e => ?_, as ++ [a], ?_, ?_⟩⟩
      · rw [List.length_map, la, List.length_take]
        omega
      · rw [upd_ne (ne_of_none e (Same.none s6 hL))]
        exact (s8.trans s12) _ _ e
      · rw [upd_same, List.map_append]
        rfl
      · rw [take_snoc et]
        refine paired_app (Paired.mapP hts fun c u hu => ?_) (.cons ?_ .nil)
        · rw [upd_ne (ne_of (s12 _ _ hu) eL6 (by intro z; cases z))]
          exact s12 _ _ hu
        · rw [upd_ne (ne_of ea eL6 (by intro z; cases z))]
          exact ea
  · obtain ⟨⟨o8, o9, o10, o11, o12, o13, o14, rfl⟩, s8, as, eL, hts⟩ := p
    rw [List.length_map, List.length_map, List.take_length] at hts
    refine ⟨rfl, _, rfl, pb, _, rfl, .inl ⟨SqL.of (s8 _ _ e4), fun tp htp => ?_⟩⟩
    have s9 := same_upd (o := .tup (w.1.map V.str)) htp
    refine ⟨_, rfl, L, _, rfl, .inl ⟨SqL.of (s9 _ _ eL), fun tt htt => fun x dx hx hd ne => ?_⟩⟩
    have s10 := same_upd (o := .tup (as.map V.ref)) htt
    have s11 := mk_same (o := .own x) (u := .ins (He.ga K "Web") dx []) hx hd ne
    refine ⟨x, tp, tt, dx, w, rfl, upd_same, s11 _ _ (s10 _ _ upd_same), ⟨as, s11 _ _ upd_same, Paired.mapP hts fun c u hu => s11 _ _ (s10 _ _ (s9 _ _ hu))⟩,
      ⟨by omega, by omega, fun z hz => Nat.le_trans (name_len6 (v.posts.1 z hz)) (by decide), fun t ht => Nat.le_trans (name_len6 (v.ties.1 _ (List.mem_map_of_mem ht))) (by decide)⟩, fun _ H' kp wx => ⟨rfl, q x H' ((s5.trans s8).trans ((s9.trans s10).trans (mk_end hx hd ne kp))) wx⟩, fun nv => absurd v nv⟩
end
end Wy
set_option Elab.async false
set_option linter.all false
set_option maxRecDepth 100000
set_option maxHeartbeats 0
namespace Wy
open PySem PySem.Spec PyProof.Rows L2 StX
section
variable {P : Program} {w : World} {K : PySem.W.Frag} {mg : Str → Option Value} {base : Heap}
theorem sc_bounds_of : FnScope ["word", "found"] ["word"] (defScope s_bounds_of) := ⟨rfl, rfl, rfl, by decide +kernel, rfl, by decide +kernel, by decide +kernel⟩
theorem ok_bounds_of (T : W0 P w K mg) : GFn P w K mg base 5 "bounds_of" sp_span_of := by
  obtain ⟨fd, F⟩ := T.d_bounds_of
  refine ⟨T.g_bounds_of, F.kp, F.fr sc_bounds_of (fun _ _ _ _ _ _ us hl => match us, hl with | [_], _ => rfl) (fun vs H Q E h => by first | (obtain ⟨rfl, _⟩ := h; rfl) | (obtain ⟨_, rfl, _⟩ := h; rfl) | (obtain ⟨_, _, rfl, _⟩ := h; rfl) | (obtain ⟨_, _, _, rfl, _⟩ := h; rfl) | (obtain ⟨_, _, _, _, rfl, _⟩ := h; rfl) | (obtain ⟨_, _, _, _, _, rfl, _⟩ := h; rfl) | (obtain ⟨_, _, _, _, _, _, rfl, _⟩ := h; rfl) | (obtain ⟨_, _, _, _, _, _, _, rfl, _⟩ := h; rfl) | (obtain ⟨_, _, _, _, _, _, _, _, rfl, _⟩ := h; rfl) | (obtain ⟨_, _, _, _, _, _, _, _, _, rfl, _⟩ := h; rfl)) fun cdv A outer s H vs Q E hr h => ⟨_, (pss_cons (eTry rfl rfl sc_bounds_of.nd (takes_of rfl rfl rfl rfl) (fun Wx pn xe tk hpo => (pss_one (ps_set (i := 1) sc_bounds_of.nd rfl (Or.inl rfl) (ClX.pe_cmeth (pe_glob (v := .ref (He.ga K "Span")) (by rfl) T.g_Span rfl) T.cr_Span T.cm_Span (ok_Span_read T) (hr.mono (by decide)) passL (pa_cons (pv 0) pa_nil))))) (ClsOk.plain (clt_name (nmG T.g_InvalidText)) (fun a oe cls d pn hz hf => pss_never) ClsOk.nil)) (pss_one (ps_ret (pe_tup (pa_cons (eProp T.c_Span (ok_Span_least T) (hr.mono (by decide)) (pv 1)) (pa_cons (eProp T.c_Span (ok_Span_greatest T) (hr.mono (by decide)) (pv 1)) pa_nil)))))), ?_⟩⟩
  obtain ⟨lo, hi, rfl, h0, h1, h9, q⟩ := h
  exact ⟨rfl, _, rfl, lo, hi, rfl, h0, h1, h9, fun a H1 sm ⟨dx, ea⟩ => ⟨_, rfl, a, dx, _, _, rfl, ea, rfl, _, rfl, a, dx, _, _, rfl, ea, rfl, (by show 2 ≤ sizeLine; decide), fun t ht => q _ t (sm.trans (same_upd ht)) upd_same⟩⟩
theorem sc_names_of : FnScope ["words", "word"] ["words"] (defScope s_names_of) := ⟨rfl, rfl, rfl, by decide +kernel, rfl, by decide +kernel, by decide +kernel⟩
def sp_names_of : Sp := fun vs H Q _ => ∃ (a : Addr) (ps : List Str), vs = [.ref a] ∧ StrL H a ps ∧ Good ps ∧ ps ≠ [] ∧ ps.length ≤ 100 ∧ ∀ H' t, Same H H' → PostsAt H' t ps → Q (.ref t) H'
theorem ok_names_of (T : W0 P w K mg) : GFn P w K mg base 2 "names_of" sp_names_of := by
  obtain ⟨fd, F⟩ := T.d_names_of
  refine ⟨T.g_names_of, F.kp, F.fr sc_names_of (fun _ _ _ _ _ _ us hl => match us, hl with | [_], _ => rfl) (fun vs H Q E h => by first | (obtain ⟨rfl, _⟩ := h; rfl) | (obtain ⟨_, rfl, _⟩ := h; rfl) | (obtain ⟨_, _, rfl, _⟩ := h; rfl) | (obtain ⟨_, _, _, rfl, _⟩ := h; rfl) | (obtain ⟨_, _, _, _, rfl, _⟩ := h; rfl) | (obtain ⟨_, _, _, _, _, rfl, _⟩ := h; rfl) | (obtain ⟨_, _, _, _, _, _, rfl, _⟩ := h; rfl) | (obtain ⟨_, _, _, _, _, _, _, rfl, _⟩ := h; rfl) | (obtain ⟨_, _, _, _, _, _, _, _, rfl, _⟩ := h; rfl) | (obtain ⟨_, _, _, _, _, _, _, _, _, rfl, _⟩ := h; rfl)) fun cdv A outer s H vs Q E hr h => ⟨_, (pss_cons (ps_if (PW.pt (pw_or (pt_cmpR op_eq (pe_callB call_len_seq (by rfl) T.f_len PySem.boot_len (pa_cons (pv 0) pa_nil)) pe_int (nomark _)) (pw_or1 (pt_not (pt_val (pe_callB (kAll (K := K) rfl rfl) (by rfl) T.f_all (by decide +kernel) (pa_cons (pe_lc (own := [("word", 1)]) (by rfl) sc_names_of.nd (pi_list (pv 0)) (blkOk_by (own := [("word", 1)]) (N := ["words", "word"]) (sc := defScope s_names_of) (by decide +kernel)) (fun _ _ _ _ _ => (pg_name (i := 1) sc_names_of.nd rfl (Or.inl rfl))) (fun _ _ _ _ _ => pts_nil) (fun _ _ _ _ _ => (eCall (ok_is_name T) (hr.mono (by decide)) passL (by rfl) (pa_cons (pv 1) pa_nil)))) pa_nil))))))) (pss_one ps_never) pss_nil) (pss_one (ps_ret (pe_callTy call_tuple_of (by rfl) T.f_tuple (by decide +kernel) (pa_cons (pv 0) pa_nil))))), ?_⟩⟩
  obtain ⟨a, ps, rfl, hp, g, ne, pl, q⟩ := h
  have pne : ps.length ≠ 0 := fun z => ne (List.length_eq_zero_iff.mp z)
  refine ⟨_, rfl, a, _, rfl, .inl (SqL.of hp), rfl, _, rfl, iteN (decide_eq_false fun z => pne ?_) ⟨_, rfl, a, rfl, ⟨_, SqL.of hp⟩, fun D hD => ?_⟩⟩
  · have z2 := V.int.inj z
    rw [List.length_map] at z2
    omega
  refine lc_acc walk_list hD (fun j => (List.replicate j true).map V.bl) rfl (fun j hj => lt_size ?_) (fun H5 sm5 => SqL.of (sm5 _ _ hp)) (fun j x H5 H6 hj sm5 y Yes No hy hn => ?_) fun H5 sm5 e5 => ?_
  · rw [List.length_map] at hj
    simp
    omega
  · obtain ⟨eH, ex⟩ := y
    subst eH
    rw [List.getElem?_map] at ex
    obtain ⟨z, ez, ex2⟩ := Option.map_eq_some_iff.mp ex
    subst ex2
    have zn := g.1 z (List.mem_of_getElem? ez)
    refine ⟨rfl, _, rfl, z, rfl, (by have := name_len6 zn; omega), fun H7 sm7 => hy _ _ sm7 ?_⟩
    rw [List.replicate_succ', List.map_append, zn]
    rfl
  · refine ⟨D, _, rfl, SqL.of e5, _, rfl, iteN (by simp) ⟨_, rfl, a, _, rfl, .inl ⟨SqL.of (sm5 _ _ hp), fun t ht => q _ t (sm5.trans (same_upd ht)) upd_same⟩⟩⟩
theorem sc_joined : FnScope ["web"] ["web"] (defScope s_joined) := ⟨rfl, rfl, rfl, by decide +kernel, rfl, by decide +kernel, by decide +kernel⟩
def sp_joined (K : PySem.W.Frag) : Sp := fun vs H Q _ => ∃ (a : Addr) (w : Wb), vs = [.ref a] ∧ WebAt K H a w ∧ Valid w ∧ Small w ∧ w.1.length ≤ 100 ∧ w.2.length ≤ 100 ∧ ∀ H', Same H H' → Q (.str (Txt.replace (webS w) "\n" " ; ")) H'
theorem ok_joined (T : W0 P w K mg) : GFn P w K mg base 7 "joined" (sp_joined K) := by
  obtain ⟨fd, F⟩ := T.d_joined
  refine ⟨T.g_joined, F.kp, F.frT sc_joined (by decide +kernel) (by decide) (fun _ _ _ _ _ _ us hl => match us, hl with | [_], _ => rfl) (fun vs H Q E h => by first | (obtain ⟨rfl, _⟩ := h; rfl) | (obtain ⟨_, rfl, _⟩ := h; rfl) | (obtain ⟨_, _, rfl, _⟩ := h; rfl) | (obtain ⟨_, _, _, rfl, _⟩ := h; rfl) | (obtain ⟨_, _, _, _, rfl, _⟩ := h; rfl) | (obtain ⟨_, _, _, _, _, rfl, _⟩ := h; rfl) | (obtain ⟨_, _, _, _, _, _, rfl, _⟩ := h; rfl) | (obtain ⟨_, _, _, _, _, _, _, rfl, _⟩ := h; rfl) | (obtain ⟨_, _, _, _, _, _, _, _, rfl, _⟩ := h; rfl) | (obtain ⟨_, _, _, _, _, _, _, _, _, rfl, _⟩ := h; rfl)) fun cdv A outer s H vs Q E hr h => ⟨_, (CwR.psst_one (CwR.pst_ret (CwR.pet_replC (pe_callTy (cStrO (ok_Web_str T) (hr.mono (by decide)) passL) (by rfl) T.f_str (by decide +kernel) (pa_cons (pv 0) pa_nil))))), ?_⟩⟩
  obtain ⟨a, w, rfl, hw, v, sm, pl, tl, q⟩ := h
  have wl := web_len v sm pl tl
  obtain ⟨dx, pa, ta, ea, _⟩ := id hw
  refine ⟨_, rfl, a, dx, _, rfl, ea, a, w, rfl, hw, v, sm, pl, tl, fun H' s => ⟨_, rfl, _, rfl, ?_, q H' s⟩⟩
  have : (Str.ofString " ; ").length = 3 := by decide +kernel
  rw [this]
  omega
theorem sc_parts_of : FnScope ["sorts", "words", "found", "sort", "word"] ["sorts", "words"] (defScope s_parts_of) := ⟨rfl, rfl, rfl, by decide +kernel, rfl, by decide +kernel, by decide +kernel⟩
def sp_parts_of (K : PySem.W.Frag) : Sp := fun vs H Q _ => ∃ (a b : Addr), vs = [.ref a, .ref b] ∧
  ((∃ t : Tie, (∀ H : Hp, SqT K H a ((["name", "name", "name", "span"] : List Str).map V.str)) ∧ StrL H b [t.1, t.2.1, t.2.2.1, spanS t.2.2.2.1 t.2.2.2.2] ∧ TieGood t ∧ ∀ H' l, Same H H' → H' l = some (.lst (tieV t)) → Q (.ref l) H') ∨
   ((∀ H : Hp, SqT K H a (([] : List Str).map V.str)) ∧ StrL H b [] ∧ ∀ H' l, Same H H' → H' l = some (.lst []) → Q (.ref l) H'))
theorem ok_parts_of (T : W0 P w K mg) : GFn P w K mg base 6 "parts_of" (sp_parts_of K) := by
  obtain ⟨fd, F⟩ := T.d_parts_of
  refine ⟨T.g_parts_of, F.kp, F.fr sc_parts_of (fun _ _ _ _ _ _ us hl => match us, hl with | [_, _], _ => rfl) (fun vs H Q E h => by first | (obtain ⟨rfl, _⟩ := h; rfl) | (obtain ⟨_, rfl, _⟩ := h; rfl) | (obtain ⟨_, _, rfl, _⟩ := h; rfl) | (obtain ⟨_, _, _, rfl, _⟩ := h; rfl) | (obtain ⟨_, _, _, _, rfl, _⟩ := h; rfl) | (obtain ⟨_, _, _, _, _, rfl, _⟩ := h; rfl) | (obtain ⟨_, _, _, _, _, _, rfl, _⟩ := h; rfl) | (obtain ⟨_, _, _, _, _, _, _, rfl, _⟩ := h; rfl) | (obtain ⟨_, _, _, _, _, _, _, _, rfl, _⟩ := h; rfl) | (obtain ⟨_, _, _, _, _, _, _, _, _, rfl, _⟩ := h; rfl)) fun cdv A outer s H vs Q E hr h => ⟨_, (pss_cons (ps_if (pt_cmpR op_ne (pe_callB call_len_seq (by rfl) T.f_len PySem.boot_len (pa_cons (pv 1) pa_nil)) (pe_callB call_len_seq (by rfl) T.f_len PySem.boot_len (pa_cons (pv 0) pa_nil)) (nomark _)) (pss_one ps_never) pss_nil) (pss_cons (ps_set (i := 2) sc_parts_of.nd rfl (Or.inl rfl) (pe_lst pa_nil)) (pss_cons (ps_for (passes_of rfl) rfl (piZip (by rfl) T.f_zip (pa_cons (pv 0) (pa_cons (pv 1) pa_nil))) (kTupG (K := K) (n := 2) rfl rfl (pgs_cons (pg_name (i := 3) sc_parts_of.nd rfl (Or.inl rfl)) (pgs_cons (pg_name (i := 4) sc_parts_of.nd rfl (Or.inl rfl)) pgs_nil))) (pss_one (ps_if (pt_cmpR op_eq (pv 3) pe_str (nomark _)) (pss_one (ps_expr (pe_bm PySem.F.plainAttrs_list PySem.F.slot_list_extend PySem.F.type_list_extend mExtT (pv 2) (pa_cons (eCall (ok_bounds_of T) (hr.mono (by decide)) passL (by rfl) (pa_cons (pv 4) pa_nil)) pa_nil)))) (pss_one (ps_if (pt_val (eCall (ok_is_name T) (hr.mono (by decide)) passL (by rfl) (pa_cons (pv 4) pa_nil))) (pss_one (ps_expr (pe_bm PySem.F.plainAttrs_list PySem.F.slot_list_append PySem.F.type_list_append mt_append (pv 2) (pa_cons (pv 4) pa_nil)))) (pss_one ps_never)))))) (pss_one (ps_ret (pv 2)))))), ?_⟩⟩
  obtain ⟨a, b, rfl, h⟩ := h
  rcases h with ⟨t, ha, hb, g, q⟩ | ⟨ha, hb, q⟩
  · refine ⟨_, rfl, b, _, rfl, .inl (SqL.of hb), _, rfl, a, _, rfl, .inr (ha H), rfl, _, rfl, iteN rfl ⟨(by show 0 ≤ sizeLine; decide), fun L hL => ?_⟩⟩
    have s1 := same_upd (o := .lst []) hL
    refine ⟨_, rfl, _, rfl, a, b, _, _, rfl, ha _, s1 _ _ hb, ?_⟩
    refine for_zp (K := K) (xs := (["name", "name", "name", "span"] : List Str).map V.str) (ys := ([t.1, t.2.1, t.2.2.1, spanS t.2.2.2.1 t.2.2.2.2] : List Str).map V.str) rfl
      (fun i σ H' => (∃ o3 o4, σ = [some (.ref a), some (.ref b), some (.ref L), o3, o4]) ∧ Same H H' ∧ H' L = some (.lst ((tieV t).take (if i < 4 then i else 5)))) ⟨⟨_, _, rfl⟩, s1, upd_same⟩ (fun i σ H' _ p => ⟨ha _, p.2.1 _ _ hb⟩) (fun i x y Tp σ H' hx hy p hT => ?_) fun σ H' p => ?_
    obtain ⟨⟨o3, o4, rfl⟩, s5, eL⟩ := p
    rcases i with _ | _ | _ | _ | i
    · cases hx
      cases hy
      refine ⟨Tp, _, rfl, SqT.of upd_same, rfl, _, _, rfl, _, _, rfl, rfl, ?_⟩
      refine ⟨_, rfl, rfl, _, rfl, iteN (by decide +kernel) ⟨_, rfl, _, rfl, (by have := name_len6 g.n; omega), fun H6 s6 => ⟨_, rfl, iteY g.n ?_⟩⟩⟩
      have e6 := s6 _ _ ((same_upd hT) _ _ eL)
      refine ⟨_, rfl, .inl ⟨rfl, _, SqL.of e6⟩, _, rfl, L, _, _, rfl, rfl, e6, (by show 0 < sizeLine; decide), ⟨_, _, rfl⟩, fun c o e => ?_, upd_same⟩
      rw [upd_ne (ne_of_none e hL)]
      exact ((s5.trans (same_upd hT)).trans s6) _ _ e
    · cases hx
      cases hy
      refine ⟨Tp, _, rfl, SqT.of upd_same, rfl, _, _, rfl, _, _, rfl, rfl, ?_⟩
      refine ⟨_, rfl, rfl, _, rfl, iteN (by decide +kernel) ⟨_, rfl, _, rfl, (by have := name_len6 g.a; omega), fun H6 s6 => ⟨_, rfl, iteY g.a ?_⟩⟩⟩
      have e6 := s6 _ _ ((same_upd hT) _ _ eL)
      refine ⟨_, rfl, .inl ⟨rfl, _, SqL.of e6⟩, _, rfl, L, _, _, rfl, rfl, e6, (by show 1 < sizeLine; decide), ⟨_, _, rfl⟩, fun c o e => ?_, upd_same⟩
      rw [upd_ne (ne_of_none e hL)]
      exact ((s5.trans (same_upd hT)).trans s6) _ _ e
    · cases hx
      cases hy
      refine ⟨Tp, _, rfl, SqT.of upd_same, rfl, _, _, rfl, _, _, rfl, rfl, ?_⟩
      refine ⟨_, rfl, rfl, _, rfl, iteN (by decide +kernel) ⟨_, rfl, _, rfl, (by have := name_len6 g.b; omega), fun H6 s6 => ⟨_, rfl, iteY g.b ?_⟩⟩⟩
      have e6 := s6 _ _ ((same_upd hT) _ _ eL)
      refine ⟨_, rfl, .inl ⟨rfl, _, SqL.of e6⟩, _, rfl, L, _, _, rfl, rfl, e6, (by show 2 < sizeLine; decide), ⟨_, _, rfl⟩, fun c o e => ?_, upd_same⟩
      rw [upd_ne (ne_of_none e hL)]
      exact ((s5.trans (same_upd hT)).trans s6) _ _ e
    · cases hx
      cases hy
      refine ⟨Tp, _, rfl, SqT.of upd_same, rfl, _, _, rfl, _, _, rfl, rfl, ?_⟩
      refine ⟨_, rfl, rfl, _, rfl, iteY (by decide +kernel) ?_⟩
      have e5 := (same_upd (o := .tup [.str "span", .str (spanS t.2.2.2.1 t.2.2.2.2)]) hT) _ _ eL
      refine ⟨_, rfl, .inl ⟨rfl, _, SqL.of e5⟩, _, rfl, _, _, rfl, g.lo, g.hi, (by have := g.z; omega), fun H6 c s6 ec => ?_⟩
      have e6 := s6 _ _ e5
      refine ⟨L, c, _, _, rfl, rfl, e6, ec, (by show 5 ≤ sizeLine; decide), ⟨_, _, rfl⟩, fun c o e => ?_, upd_same⟩
      rw [upd_ne (ne_of_none e hL)]
      exact ((s5.trans (same_upd hT)).trans s6) _ _ e
    · simp at hx
    obtain ⟨⟨o3, o4, rfl⟩, s5, eL⟩ := p
    exact ⟨_, rfl, q H' L s5 eL⟩
  · refine ⟨_, rfl, b, _, rfl, .inl (SqL.of hb), _, rfl, a, _, rfl, .inr (ha H), rfl, _, rfl, iteN rfl ⟨(by show 0 ≤ sizeLine; decide), fun L hL => ?_⟩⟩
    have s1 := same_upd (o := .lst []) hL
    refine ⟨_, rfl, _, rfl, a, b, _, _, rfl, ha _, s1 _ _ hb, ?_⟩
    refine for_zp (K := K) (xs := ([] : List Str).map V.str) (ys := ([] : List Str).map V.str) rfl
      (fun i σ H' => (∃ o3 o4, σ = [some (.ref a), some (.ref b), some (.ref L), o3, o4]) ∧ Same H H' ∧ H' L = some (.lst [])) ⟨⟨_, _, rfl⟩, s1, upd_same⟩ (fun i σ H' _ p => ⟨ha _, p.2.1 _ _ hb⟩) (fun i x y Tp σ H' hx hy p hT => ?_) fun σ H' p => ?_
    · simp at hx
    obtain ⟨⟨o3, o4, rfl⟩, s5, eL⟩ := p
    exact ⟨_, rfl, q H' L s5 eL⟩
theorem sc_Desk_init : FnScope ["self"] ["self"] (defScope s_Desk_init) := ⟨rfl, rfl, rfl, by decide +kernel, rfl, by decide +kernel, by decide +kernel⟩
def sp_Desk_init (K : PySem.W.Frag) : Sp := fun vs H Q _ => ∃ (x dx : Addr), vs = [.ref x] ∧ H x = some (.ins (He.ga K "Desk") dx []) ∧
  ∀ H', (∀ c o, c ≠ x → H c = some o → H' c = some o) → H' x = some (.ins (He.ga K "Desk") dx [("keeper", .non)]) → Q .non H'
theorem ok_Desk_init (T : W0 P w K mg) : IFn P w K mg base 1 "Desk" (sp_Desk_init K) := by
  obtain ⟨fd, F⟩ := T.d_Desk_init
  refine ⟨T.g_Desk, T.mk_Desk, F.fr sc_Desk_init (fun _ _ _ _ _ _ us hl => match us, hl with | [_], _ => rfl) (fun vs H Q E h => by first | (obtain ⟨rfl, _⟩ := h; rfl) | (obtain ⟨_, rfl, _⟩ := h; rfl) | (obtain ⟨_, _, rfl, _⟩ := h; rfl) | (obtain ⟨_, _, _, rfl, _⟩ := h; rfl) | (obtain ⟨_, _, _, _, rfl, _⟩ := h; rfl) | (obtain ⟨_, _, _, _, _, rfl, _⟩ := h; rfl) | (obtain ⟨_, _, _, _, _, _, rfl, _⟩ := h; rfl) | (obtain ⟨_, _, _, _, _, _, _, rfl, _⟩ := h; rfl) | (obtain ⟨_, _, _, _, _, _, _, _, rfl, _⟩ := h; rfl) | (obtain ⟨_, _, _, _, _, _, _, _, _, rfl, _⟩ := h; rfl)) fun cdv A outer s H vs Q E hr h => ⟨_, (pss_one (eSet T.c_Desk T.n_Desk_keeper (pv 0) pe_non)), ?_⟩⟩
  obtain ⟨x, dx, rfl, hx, q⟩ := h
  refine ⟨_, rfl, x, dx, _, rfl, hx, (by show 0 < 1000; decide), q _ (fun c o ne e => ?_) upd_same⟩
  rw [upd_ne ne]
  exact e
theorem sc_Desk_len : FnScope ["self"] ["self"] (defScope s_Desk_len) := ⟨rfl, rfl, rfl, by decide +kernel, rfl, by decide +kernel, by decide +kernel⟩
def DeskAt (K : PySem.W.Frag) (H : Hp) (d k : Addr) : Prop := ∃ dx, H d = some (.ins (He.ga K "Desk") dx [("keeper", .ref k)])
def sp_Desk_len (K : PySem.W.Frag) : Sp := fun vs H Q _ => ∃ (d k p : Addr) (st : Kst), vs = [.ref d] ∧ DeskAt K H d k ∧ KeepAt K H k p st ∧ st.1.2.length ≤ 1000 ∧ Q (.int st.1.2.length) H
theorem ok_Desk_len (T : W0 P w K mg) : MFn P w K mg base 5 "Desk" "__len__" (sp_Desk_len K) := by
  obtain ⟨fd, F⟩ := T.d_Desk_len
  refine ⟨T.m_Desk_len, F.fr sc_Desk_len (fun _ _ _ _ _ _ us hl => match us, hl with | [_], _ => rfl) (fun vs H Q E h => by first | (obtain ⟨rfl, _⟩ := h; rfl) | (obtain ⟨_, rfl, _⟩ := h; rfl) | (obtain ⟨_, _, rfl, _⟩ := h; rfl) | (obtain ⟨_, _, _, rfl, _⟩ := h; rfl) | (obtain ⟨_, _, _, _, rfl, _⟩ := h; rfl) | (obtain ⟨_, _, _, _, _, rfl, _⟩ := h; rfl) | (obtain ⟨_, _, _, _, _, _, rfl, _⟩ := h; rfl) | (obtain ⟨_, _, _, _, _, _, _, rfl, _⟩ := h; rfl) | (obtain ⟨_, _, _, _, _, _, _, _, rfl, _⟩ := h; rfl) | (obtain ⟨_, _, _, _, _, _, _, _, _, rfl, _⟩ := h; rfl)) fun cdv A outer s H vs Q E hr h => ⟨_, (pss_cons (ps_if (pt_cmp (pc_isN (eFld T.c_Desk T.n_Desk_keeper (pv 0))) rfl) (pss_one (ps_ret pe_int)) pss_nil) (pss_one (ps_ret (pe_callB (cLenO (ok_Keeper_len T) (hr.mono (by decide)) passL) (by rfl) T.f_len PySem.boot_len (pa_cons (eFld T.c_Desk T.n_Desk_keeper (pv 0)) pa_nil))))), ?_⟩⟩
  obtain ⟨d, k, p, st, rfl, ⟨dx, ed⟩, hk, hl, q⟩ := h
  obtain ⟨dk, wa, ra, ek, hw⟩ := hk.web
  exact ⟨_, rfl, d, dx, _, _, rfl, ed, rfl, _, rfl, iteN rfl ⟨_, rfl, d, dx, _, _, rfl, ed, rfl, k, dk, _, rfl, ek, k, p, st, rfl, hk, hl, _, rfl, by omega, q⟩⟩
end
end Wy
set_option Elab.async false
set_option linter.all false
set_option maxRecDepth 100000
set_option maxHeartbeats 0
namespace Wy
open PySem PySem.Spec PyProof.Rows L2 StX
section
variable {P : Program} {w : World} {K : PySem.W.Frag} {mg : Str → Option Value} {base : Heap}
theorem log_ok {n : Nat} (h : n ≤ 1000) : ((n : Int)).natAbs.log2 < 1920 := by
  have z := Nat.log2_le_self n
  show n.log2 < 1920
  omega
theorem sc_Desk_reply : FnScope ["self", "word", "web", "one", "two", "many"] ["self", "word", "web"] (defScope s_Desk_reply) := ⟨rfl, rfl, rfl, by decide +kernel, rfl, by decide +kernel, by decide +kernel⟩
def sp_Desk_reply (K : PySem.W.Frag) : Sp := fun vs H Q E => ∃ (d a : Addr), vs = [.ref d, .str "show", .ref a] ∧ sp_joined K [.ref a] H Q E
theorem ok_Desk_reply (T : W0 P w K mg) : MFn P w K mg base 8 "Desk" "reply" (sp_Desk_reply K) := by
  obtain ⟨fd, F⟩ := T.d_Desk_reply
  refine ⟨T.m_Desk_reply, F.fr sc_Desk_reply (fun _ _ _ _ _ _ us hl => match us, hl with | [_, _, _], _ => rfl) (fun vs H Q E h => by first | (obtain ⟨rfl, _⟩ := h; rfl) | (obtain ⟨_, rfl, _⟩ := h; rfl) | (obtain ⟨_, _, rfl, _⟩ := h; rfl) | (obtain ⟨_, _, _, rfl, _⟩ := h; rfl) | (obtain ⟨_, _, _, _, rfl, _⟩ := h; rfl) | (obtain ⟨_, _, _, _, _, rfl, _⟩ := h; rfl) | (obtain ⟨_, _, _, _, _, _, rfl, _⟩ := h; rfl) | (obtain ⟨_, _, _, _, _, _, _, rfl, _⟩ := h; rfl) | (obtain ⟨_, _, _, _, _, _, _, _, rfl, _⟩ := h; rfl) | (obtain ⟨_, _, _, _, _, _, _, _, _, rfl, _⟩ := h; rfl)) fun cdv A outer s H vs Q E hr h => ⟨_, (pss_one (ps_match (pv 1) (mc_val pss_never (mc_val pss_never (mc_val pss_never (mc_any (pss_one (ps_ret (eCall (ok_joined T) (hr.mono (by decide)) passL (by rfl) (pa_cons (pv 2) pa_nil)))))))))), ?_⟩⟩
  obtain ⟨d, a, rfl, a2, wb, e, hw, v, sm, pl, tl, q⟩ := h
  refine ⟨_, rfl, _, rfl, if_neg_ (show ¬ (("show" : Str) = "closes") by decide +kernel) ⟨_, rfl, if_neg_ (show ¬ (("show" : Str) = "flat") by decide +kernel) ⟨_, rfl, if_neg_ (show ¬ (("show" : Str) = "table") by decide +kernel) ?_⟩⟩⟩
  exact ⟨_, rfl, a, wb, rfl, (by cases e; exact hw), v, sm, pl, tl, q⟩
theorem sc_Desk_answer : FnScope ["self", "word", "parts"] ["self", "word", "parts"] (defScope s_Desk_answer) := ⟨rfl, rfl, rfl, by decide +kernel, rfl, by decide +kernel, by decide +kernel⟩
def sp_Desk_answer (K : PySem.W.Frag) : Sp := fun vs H Q _ => ∃ (d l k p : Addr) (wd : Str) (st : Kst), vs = [.ref d, .str wd, .ref l] ∧ DeskAt K H d k ∧ KeepAt K H k p st ∧ Valid st.1 ∧
  ((∃ t w', wd = "tie" ∧ H l = some (.lst (tieV t)) ∧ Lim9 st.1 ∧ st.2.length ≤ 900 ∧ t.1.length ≤ 1000 ∧ apply st.1 (.tie t) = some w' ∧ w'.2.length ≤ 1000 ∧
    ∀ z H', Ch K (fun b => b = k ∨ b = p) H H' → KeepAt K H' k p (w', st.2 ++ [(st.1, .tie t)]) → Q (.str z) H') ∨
   (wd = "show" ∧ Small st.1 ∧ st.1.1.length ≤ 100 ∧ st.1.2.length ≤ 100 ∧ ∀ H', Same H H' → Q (.str (Txt.replace (webS st.1) "\n" " ; ")) H'))
theorem ok_Desk_answer (T : W0 P w K mg) : MFn P w K mg base 10 "Desk" "answer" (sp_Desk_answer K) := by
  obtain ⟨fd, F⟩ := T.d_Desk_answer
  refine ⟨T.m_Desk_answer, F.fr sc_Desk_answer (fun _ _ _ _ _ _ us hl => match us, hl with | [_, _, _], _ => rfl) (fun vs H Q E h => by first | (obtain ⟨rfl, _⟩ := h; rfl) | (obtain ⟨_, rfl, _⟩ := h; rfl) | (obtain ⟨_, _, rfl, _⟩ := h; rfl) | (obtain ⟨_, _, _, rfl, _⟩ := h; rfl) | (obtain ⟨_, _, _, _, rfl, _⟩ := h; rfl) | (obtain ⟨_, _, _, _, _, rfl, _⟩ := h; rfl) | (obtain ⟨_, _, _, _, _, _, rfl, _⟩ := h; rfl) | (obtain ⟨_, _, _, _, _, _, _, rfl, _⟩ := h; rfl) | (obtain ⟨_, _, _, _, _, _, _, _, rfl, _⟩ := h; rfl) | (obtain ⟨_, _, _, _, _, _, _, _, _, rfl, _⟩ := h; rfl)) fun cdv A outer s H vs Q E hr h => ⟨_, (pss_cons (ps_match (pv 1) (mc_val (pss_one (ps_expr (eMStar (ok_Keeper_tie T) T.c_Keeper T.b_tie (hr.mono (by decide)) (passes_call (takes_of rfl rfl rfl rfl) (fun _ _ _ _ h => h)) (eFld T.c_Desk T.n_Desk_keeper (pv 0)) (pv 2)))) (mc_val (pss_one (ps_expr (eMStar (ok_Keeper_cut T) T.c_Keeper T.b_cut (hr.mono (by decide)) (passes_call (takes_of rfl rfl rfl rfl) (fun _ _ _ _ h => h)) (eFld T.c_Desk T.n_Desk_keeper (pv 0)) (pv 2)))) (mc_val (pss_cons (ps_expr (eMStar (ok_Keeper_change T) T.c_Keeper T.b_change (hr.mono (by decide)) (passes_call (takes_of rfl rfl rfl rfl) (fun _ _ _ _ h => h)) (eFld T.c_Desk T.n_Desk_keeper (pv 0)) (pv 2))) (pss_one (ps_ret pe_str))) (mc_val (pss_one (ps_ret (pe_ifExp (pt_val (eMeth0 (ok_Keeper_undo T) T.c_Keeper (hr.mono (by decide)) passL (eFld T.c_Desk T.n_Desk_keeper (pv 0)))) pe_str pe_str))) (mc_any (pss_one (ps_ret (eMeth (ok_Desk_reply T) T.c_Desk (hr.mono (by decide)) passL (pv 0) (pa_cons (pv 1) (pa_cons (eMeth0 (ok_Keeper_web T) T.c_Keeper (hr.mono (by decide)) passL (eFld T.c_Desk T.n_Desk_keeper (pv 0))) pa_nil))))))))))) (pss_one (ps_ret (pe_joined (PJ.cons (pe_fmt (pe_callB (cLenO (ok_Keeper_len T) (hr.mono (by decide)) passL) (by rfl) T.f_len PySem.boot_len (pa_cons (eFld T.c_Desk T.n_Desk_keeper (pv 0)) pa_nil))) (PJ.cons pe_str PJ.nil)))))), ?_⟩⟩
  obtain ⟨d, l, k, p, wd, st, rfl, ⟨dx, ed⟩, hk, v, h⟩ := h
  obtain ⟨dk, wa, ra, ek, hw⟩ := hk.web
  have dkn : d ≠ k := ne_of ed ek (by intro z; exact absurd (congrArg List.length (HO.ins.inj z).2.2) (by simp))
  have dpn : d ≠ p := by
    obtain ⟨_, _, _, _, _, _, _, hp, _⟩ := id hk
    exact ne_of ed hp (by intro z; cases z)
  rcases h with ⟨t, w', rfl, el, hl, hn, htl, ew, wl, q⟩ | ⟨rfl, sm, pl, tl, q⟩
  · refine ⟨_, rfl, _, rfl, if_pos_ rfl ⟨_, rfl, d, dx, _, _, rfl, ed, rfl, k, dk, _, rfl, ek, rfl, fun m hm => ⟨_, rfl, l, false, _, rfl, (same_upd hm) _ _ el, upd_same, k, p, st, t, rfl, hk.same (same_upd hm), hl, v, by omega, htl, fun w2 ew2 H2 c2 hk2 => ?_, fun en => absurd (ew.symm.trans en) (by simp)⟩⟩⟩
    have e2 : w2 = w' := Option.some.inj (ew2.symm.trans ew)
    subst e2
    have ed2 := c2.at ((same_upd hm) _ _ ed) (fun z => z.elim dkn dpn)
    obtain ⟨dk2, wa2, ra2, ek2, _⟩ := hk2.web
    have nl := num_len w2.2.length wl
    have c0 : Str.empty.length = 0 := by decide +kernel
    have c1 : (Str.ofString " ties").length = 5 := by decide +kernel
    refine ⟨_, rfl, d, dx, _, _, rfl, ed2, rfl, k, dk2, _, rfl, ek2, k, p, _, rfl, hk2, wl, w2.2.length, rfl, by omega, .inr ⟨_, rfl, log_ok wl, _, rfl, le_size ?_, _, rfl, le_size ?_, q _ H2 ((Same.ch (same_upd hm)).trans c2) hk2⟩⟩
    · rw [Str.length_append]
      show _ + (num w2.2.length).length ≤ _
      omega
    · rw [Str.length_append, Str.length_append]
      show _ + (num w2.2.length).length + _ ≤ _
      omega
  · refine ⟨_, rfl, _, rfl, if_neg_ (show ¬ (("show" : Str) = "tie") by decide +kernel) ⟨_, rfl, if_neg_ (show ¬ (("show" : Str) = "cut") by decide +kernel) ⟨_, rfl, if_neg_ (show ¬ (("show" : Str) = "change") by decide +kernel) ⟨_, rfl, if_neg_ (show ¬ (("show" : Str) = "undo") by decide +kernel) ?_⟩⟩⟩⟩
    exact ⟨_, rfl, d, dx, _, rfl, ed, rfl, _, rfl, _, rfl, d, dx, _, _, rfl, ed, rfl, k, dk, _, rfl, ek, rfl, k, p, st, rfl, hk, fun wa hwa => ⟨d, wa, rfl, wa, st.1, rfl, hwa, v, sm, pl, tl, q⟩⟩
theorem sc_Desk_say : FnScope ["self", "command", "word", "words", "one", "other", "rods"] ["self", "command"] (defScope s_Desk_say) := ⟨rfl, rfl, rfl, by decide +kernel, rfl, by decide +kernel, by decide +kernel⟩
def sp_Desk_say (K : PySem.W.Frag) : Sp := fun vs H Q _ => ∃ (d : Addr) (z : Str), vs = [.ref d, .str z] ∧
  ((∃ dx v ps, z = postRow ps ∧ H d = some (.ins (He.ga K "Desk") dx [("keeper", v)]) ∧ Good ps ∧ ps ≠ [] ∧ ps.length ≤ 100 ∧ ∀ y H' k p, Ch K (fun b => b = d) H H' → DeskAt K H' d k → KeepAt K H' k p ((ps, []), []) → H k = none → H p = none → Q (.str y) H') ∨
   (∃ k p st t w', z = tieRow t ∧ TieGood t ∧ DeskAt K H d k ∧ KeepAt K H k p st ∧ Valid st.1 ∧ Lim9 st.1 ∧ st.2.length ≤ 900 ∧ apply st.1 (.tie t) = some w' ∧ w'.2.length ≤ 1000 ∧ ∀ y H', Ch K (fun b => b = k ∨ b = p) H H' → KeepAt K H' k p (w', st.2 ++ [(st.1, .tie t)]) → Q (.str y) H') ∨
   (∃ k p st, z = "show" ∧ DeskAt K H d k ∧ KeepAt K H k p st ∧ Valid st.1 ∧ Small st.1 ∧ st.1.1.length ≤ 100 ∧ st.1.2.length ≤ 100 ∧ ∀ H', Same H H' → Q (.str (Txt.replace (webS st.1) "\n" " ; ")) H'))
theorem ok_Desk_say (T : W0 P w K mg) : MFn P w K mg base 11 "Desk" "say" (sp_Desk_say K) := by
  obtain ⟨fd, F⟩ := T.d_Desk_say
  obtain ⟨es, nn, hKD⟩ := T.tab 1
  refine ⟨T.m_Desk_say, F.fr sc_Desk_say (fun _ _ _ _ _ _ us hl => match us, hl with | [_, _], _ => rfl) (fun vs H Q E h => by first | (obtain ⟨rfl, _⟩ := h; rfl) | (obtain ⟨_, rfl, _⟩ := h; rfl) | (obtain ⟨_, _, rfl, _⟩ := h; rfl) | (obtain ⟨_, _, _, rfl, _⟩ := h; rfl) | (obtain ⟨_, _, _, _, rfl, _⟩ := h; rfl) | (obtain ⟨_, _, _, _, _, rfl, _⟩ := h; rfl) | (obtain ⟨_, _, _, _, _, _, rfl, _⟩ := h; rfl) | (obtain ⟨_, _, _, _, _, _, _, rfl, _⟩ := h; rfl) | (obtain ⟨_, _, _, _, _, _, _, _, rfl, _⟩ := h; rfl) | (obtain ⟨_, _, _, _, _, _, _, _, _, rfl, _⟩ := h; rfl)) fun cdv A outer s H vs Q E hr h => ⟨_, (pss_cons (ps_if (PW.pt (pw_or (pt_not (pt_val (pe_callB (kIsi (K := K) rfl) (by rfl) T.f_isinstance (by decide +kernel) (pa_cons (pv 1) (pa_cons (pe_bltn (v := .ty "str") (by rfl) T.f_str (by decide +kernel) rfl) pa_nil))))) (pw_or (pt_cmpR op_in_sign pe_str (pv 1) (by rfl)) (pw_or1 (pt_cmpR (kIn (K := K) rfl) pe_str (pe_split (pv 1) pe_str) (by rfl)))))) (pss_one ps_never) pss_nil) (pss_cons (ps_asg (pe_split (pv 1) pe_str) (pg_star false rfl (pgs_cons (pg_name (i := 2) sc_Desk_say.nd rfl (Or.inl rfl)) (pgs_cons (pg_name (i := 3) sc_Desk_say.nd rfl (Or.inl rfl)) pgs_nil)))) (pss_cons (ps_if (pt_cmpR op_eq (pv 2) pe_str (nomark _)) (pss_cons (eSet T.c_Desk T.n_Desk_keeper (pv 0) (eMake (ok_Keeper_init T) (hr.mono (by decide)) passL (by rfl) (pa_cons (eMake (ok_Web_init T) (hr.mono (by decide)) (passes_call (takes_of rfl rfl rfl rfl) (fun _ _ _ _ h => h)) (by rfl) (pa_cons (eCall (ok_names_of T) (hr.mono (by decide)) passL (by rfl) (pa_cons (pv 3) pa_nil)) (pa_cons (pe_tup pa_nil) pa_nil))) pa_nil))) (pss_one (ps_ret (pe_joined (PJ.cons (pe_fmt (pe_callB call_len_seq (by rfl) T.f_len PySem.boot_len (pa_cons (pv 3) pa_nil))) (PJ.cons pe_str PJ.nil)))))) pss_nil) (pss_cons (ps_if (pt_cmp (pc_isN (eFld T.c_Desk T.n_Desk_keeper (pv 0))) rfl) (pss_one ps_never) pss_nil) (pss_cons (ps_if (pt_cmpR op_eq (pv 2) pe_str (nomark _)) pss_never pss_nil) (pss_cons (ps_if (pt_cmpR op_eq (pv 2) pe_str (nomark _)) pss_never pss_nil) (pss_cons (ps_if (pt_cmpR (op_notIn_kd hKD) (pv 2) (pe_glob (v := .ref (He.ga K "FORMS")) (by rfl) T.g_FORMS rfl) (by rfl)) (pss_one ps_never) pss_nil) (pss_one (ps_ret (eMeth (ok_Desk_answer T) T.c_Desk (hr.mono (by decide)) passL (pv 0) (pa_cons (pv 2) (pa_cons (eCall (ok_parts_of T) (hr.mono (by decide)) passL (by rfl) (pa_cons (pe_ix ix_kdict (pe_glob (v := .ref (He.ga K "FORMS")) (by rfl) T.g_FORMS rfl) (pv 2) (fun _ _ => rfl)) (pa_cons (pv 3) pa_nil))) pa_nil)))))))))))), ?_⟩⟩
  obtain ⟨d, z, rfl, h⟩ := h
  have hs : ∃ w0 ws0, Txt.split z " " = w0 :: ws0 ∧ Str.empty ∉ (w0 :: ws0) ∧ 10 ∉ TL.tl z ∧ z.length ≤ 1000 := by
    rcases h with ⟨dx, v, ps, rfl, _, g, ne, pl, _⟩ | ⟨k, p, st, t, w', rfl, g, _⟩ | ⟨k, p, st, rfl, _⟩
    · refine ⟨_, _, post_split g, fun m => ?_, post_nl g, by have := post_len g; omega⟩
      rcases List.mem_cons.mp m with e | e
      · exact absurd e (by decide +kernel)
      · exact name_ne (g.1 _ e) rfl
    · refine ⟨_, _, g.split, fun m => ?_, g.nl, by have := g.len; omega⟩
      simp only [List.mem_cons, List.not_mem_nil, or_false] at m
      rcases m with e | e | e | e | e
      · exact absurd e (by decide +kernel)
      · exact name_ne g.n e.symm
      · exact name_ne g.a e.symm
      · exact name_ne g.b e.symm
      · exact span_nz g.lo g.hi e.symm
    · exact ⟨"show", [], by decide +kernel, by decide +kernel, by decide +kernel, by decide +kernel⟩
  obtain ⟨w0, ws0, es0, ne0, nl0, zl⟩ := hs
  refine ⟨_, rfl, _, _, _, _, _, rfl, .ty "str", .base (.str z), kit_ty (by decide +kernel), true, rfl, iteN rfl ?_⟩
  refine ⟨_, rfl, 10, z, rfl, rfl, _, rfl, iteN (decide_eq_false nl0) ?_⟩
  refine ⟨_, rfl, ⟨_, rfl⟩, _, _, rfl, rfl, by decide +kernel, le_size (by omega), fun la hla => ?_⟩
  have s1 := same_upd (o := .lst ((Txt.split z " ").map V.str)) hla
  have e1 : (upd H la (.lst ((Txt.split z " ").map V.str))) la = some (.lst ((w0 :: ws0).map V.str)) := upd_same.trans (by rw [es0])
  generalize (upd H la (.lst ((Txt.split z " ").map V.str))) = H1 at s1 e1 ⊢
  refine ⟨la, _, rfl, .inl (SqL.of e1), rfl, flat_str, _, rfl, iteN ?_ ?_⟩
  · rw [show inV (V.str (Str.ofString "")) ((w0 :: ws0).map V.str) = decide (Str.ofString "" ∈ w0 :: ws0) from inV_str]
    exact decide_eq_false fun m => ne0 (by
      have : Str.ofString "" = Str.empty := by decide +kernel
      rw [this] at m
      exact m)
  refine ⟨_, rfl, ⟨_, rfl⟩, _, _, rfl, rfl, by decide +kernel, le_size (by omega), fun wa hwa => ?_⟩
  have s2 := s1.trans (same_upd (o := .lst ((Txt.split z " ").map V.str)) hwa)
  have e2 : (upd H1 wa (.lst ((Txt.split z " ").map V.str))) wa = some (.lst ((w0 :: ws0).map V.str)) := upd_same.trans (by rw [es0])
  generalize (upd H1 wa (.lst ((Txt.split z " ").map V.str))) = H2 at s2 e2 ⊢
  refine ⟨wa, .str w0, ws0.map V.str, rfl, e2, fun pb hpb => ⟨_, _, rfl, _, _, rfl, rfl, ?_⟩⟩
  have s3 := s2.trans (same_upd (o := .lst (ws0.map V.str)) hpb)
  have e3 : (upd H2 pb (.lst (ws0.map V.str))) pb = some (.lst (ws0.map V.str)) := upd_same
  generalize (upd H2 pb (.lst (ws0.map V.str))) = H3 at s3 e3 ⊢
  rcases h with ⟨dx, v, ps, rfl, ed, g, ne, pl, q⟩ | ⟨k, p, st, t, w', rfl, g, ⟨dx, ed⟩, hk, vv, l9, hn, ew, wl, q⟩ | ⟨k, p, st, rfl, ⟨dx, ed⟩, hk, vv, sm, pl, tl, q⟩
  · have es1 := es0.symm.trans (post_split g)
    cases es1
    refine ⟨_, rfl, rfl, _, rfl, iteY (by decide +kernel) ?_⟩
    have dp : d ≠ pb := fun e => by
      have z := s3 _ _ ed
      rw [e, e3] at z
      cases z
    have nl := num_len ws0.length (by omega)
    have c0 : Str.empty.length = 0 := by decide +kernel
    have c1 : (Str.ofString " posts").length = 6 := by decide +kernel
    refine ⟨_, rfl, pb, ws0, rfl, e3, g, ne, pl, fun H4 tp s4 hp4 => ⟨(by show 0 ≤ sizeLine; decide), fun u hu => fun x dx2 hx hdx nex => ?_⟩⟩
    have s5 := (s3.trans s4).trans (same_upd (o := .tup []) hu)
    have s6 := mk_same (o := .own x) (u := .ins (He.ga K "Web") dx2 []) hx hdx nex
    have vd : Valid (ws0, []) := ⟨ne, g, Good.nil, fun t ht => by cases ht⟩
    refine ⟨x, tp, u, dx2, (ws0, []), rfl, upd_same, s6 _ _ ((same_upd hu) _ _ hp4), ⟨[], s6 _ _ upd_same, .nil⟩, ⟨by show ws0.length ≤ 1000; omega, Nat.zero_le _, fun z hz => Nat.le_trans (name_len6 (g.1 z hz)) (by decide), fun t ht => by cases ht⟩, fun _ H7 kp7 wx => ⟨rfl, fun y dy hy hdy ney => ?_⟩, fun nv => absurd vd nv⟩
    have s7 := s5.trans (mk_end hx hdx nex kp7)
    refine ⟨y, x, dy, (ws0, []), rfl, upd_same, wx.im (Same.im (mk_same hy hdy ney)), fun H8 pp kp8 hpp keep => ⟨rfl, ?_⟩⟩
    have s8 := s7.trans (mk_end hy hdy ney kp8)
    have ed8 := s8 _ _ ed
    have yn : H y = none := Same.none s7 hy
    have pn : H pp = none := Same.none (s7.trans (mk_same hy hdy ney)) hpp
    have yd : y ≠ d := fun e => by rw [e, ed] at yn; cases yn
    have pd : pp ≠ d := fun e => by rw [e, ed] at pn; cases pn
    have c9 := ch_upd (K := K) (S := fun b => b = d) (u := .ins (He.ga K "Desk") dx [("keeper", .ref y)]) ed8 T.dw rfl
    have e9 := c9.at ((mk_end hy hdy ney kp8) _ _ ((mk_end hx hdx nex kp7) _ _ ((same_upd hu) _ _ (s4 _ _ e3)))) (fun z => dp z.symm)
    refine ⟨_, rfl, d, dx, _, rfl, ed8, (by show 1 < 1000; decide), ?_⟩
    refine ⟨_, rfl, pb, _, rfl, .inl (SqL.of e9), .inr ⟨(ws0.length : Int), by rw [List.length_map], log_ok (by omega), _, rfl, le_size ?_, _, rfl, le_size ?_, ?_⟩⟩
    · rw [Str.length_append]
      show _ + (num ws0.length).length ≤ _
      omega
    · rw [Str.length_append, Str.length_append]
      show _ + (num ws0.length).length + _ ≤ _
      omega
    · exact q _ _ y pp ((Same.ch s8).trans c9) ⟨dx, upd_same⟩ (keep.ch c9 yd pd) yn pn
  · have es1 := es0.symm.trans g.split
    cases es1
    refine ⟨_, rfl, rfl, _, rfl, iteN (by decide +kernel) ?_⟩
    refine ⟨_, rfl, d, dx, _, _, rfl, s3 _ _ ed, rfl, _, rfl, iteN rfl ?_⟩
    refine ⟨_, rfl, rfl, _, rfl, iteN (by decide +kernel) ?_⟩
    refine ⟨_, rfl, rfl, _, rfl, iteN (by decide +kernel) ?_⟩
    obtain ⟨f1, f2⟩ := T.form_tie
    refine ⟨_, rfl, _, _, rfl, rfl, f1, _, rfl, iteN rfl ?_⟩
    refine ⟨_, rfl, d, dx, _, rfl, s3 _ _ ed, rfl, _, rfl, _, rfl, _, _, .ref (formA K "tie"), rfl, rfl, ⟨_, _, _, hKD.at_, hKD.lit, f1, rfl⟩, _, rfl, ?_⟩
    refine ⟨formA K "tie", pb, rfl, .inl ⟨t, f2, e3, g, fun H4 l s4 el => ?_⟩⟩
    have s5 := s3.trans s4
    exact ⟨d, l, k, p, _, st, rfl, ⟨dx, s5 _ _ ed⟩, hk.same s5, vv, .inl ⟨t, w', rfl, el, l9, hn, Nat.le_trans (name_len6 g.n) (by decide), ew, wl, fun y H6 c6 hk6 => q y H6 ((Same.ch s5).trans c6) hk6⟩⟩
  · have es1 : ("show" : Str) :: [] = w0 :: ws0 := (show ("show" : Str) :: [] = Txt.split "show" " " by decide +kernel).trans es0
    cases es1
    refine ⟨_, rfl, rfl, _, rfl, iteN (by decide +kernel) ?_⟩
    refine ⟨_, rfl, d, dx, _, _, rfl, s3 _ _ ed, rfl, _, rfl, iteN rfl ?_⟩
    refine ⟨_, rfl, rfl, _, rfl, iteN (by decide +kernel) ?_⟩
    refine ⟨_, rfl, rfl, _, rfl, iteN (by decide +kernel) ?_⟩
    obtain ⟨f1, f2⟩ := T.form_show
    refine ⟨_, rfl, _, _, rfl, rfl, f1, _, rfl, iteN rfl ?_⟩
    refine ⟨_, rfl, d, dx, _, rfl, s3 _ _ ed, rfl, _, rfl, _, rfl, _, _, .ref (formA K "show"), rfl, rfl, ⟨_, _, _, hKD.at_, hKD.lit, f1, rfl⟩, _, rfl, ?_⟩
    refine ⟨formA K "show", pb, rfl, .inr ⟨f2, e3, fun H4 l s4 el => ?_⟩⟩
    have s5 := s3.trans s4
    exact ⟨d, l, k, p, _, st, rfl, ⟨dx, s5 _ _ ed⟩, hk.same s5, vv, .inr ⟨rfl, sm, pl, tl, fun H6 s6 => q H6 (s5.trans s6)⟩⟩
end
end Wy
set_option Elab.async false
set_option linter.all false
set_option maxRecDepth 100000
set_option maxHeartbeats 0
namespace Wy
open PySem PySem.Spec PyProof.Rows L2 StX
section
variable {P : Program} {w : World} {K : PySem.W.Frag} {mg : Str → Option Value} {base : Heap}
def clW (K : PySem.W.Frag) : Cl := ⟨fun cls b => PySem.W.exmOne K cls (.ref (He.ga K "InvalidWeb")) = some b, some 3, fun a cls d => tAsg (tTup (tCons (tC (.str "web")) (tCons (tXf a cls d (He.ga K "InvalidWeb") "reason" (tVar 3)) (tCons (tXf a cls d (He.ga K "InvalidWeb") "index" (tVar 3)) tNil)))) (gName 2)⟩
def clS (K : PySem.W.Frag) : Cl := ⟨fun cls b => PySem.W.exmOne K cls (.ref (He.ga K "InvalidSpan")) = some b, some 3, fun a cls d => tAsg (tTup (tCons (tC (.str "span")) (tCons (tXf a cls d (He.ga K "InvalidSpan") "low" (tVar 3)) (tCons (tXf a cls d (He.ga K "InvalidSpan") "high" (tVar 3)) tNil)))) (gName 2)⟩
def clT (K : PySem.W.Frag) : Cl := ⟨fun cls b => PySem.W.exmOne K cls (.ref (He.ga K "UnknownTie")) = some b, some 3, fun a cls d => tAsg (tTup (tCons (tC (.str "tie")) (tCons (tXf a cls d (He.ga K "UnknownTie") "name" (tVar 3)) tNil))) (gName 2)⟩
theorem exc4 (T : W0 P w K mg) {Wout : WX} {D : Ends} {H : Hp} {cls : Value} {d : Option Addr} {x0 x1 x2 x3 : Option V} {r : List Cl} (xo : XOk K cls d H)
    (q : ∀ t s xs, H t = none → s ≠ ("done" : Str) → D.nx [x0, x1, some (.ref t), none] (upd H t (.tup (.str s :: xs)))) : wCl Wout D (clW K :: clS K :: clT K :: r) cls d [x0, x1, x2, x3] H := by
  rcases xo with ⟨rfl, dd, x, y, rfl, e⟩ | ⟨rfl, dd, x, y, rfl, e⟩ | ⟨rfl, dd, x, rfl, e⟩
  · exact ⟨true, T.e_InvalidWeb_InvalidWeb, fun _ a ha => ⟨_, rfl, rfl, rfl, dd, _, _, rfl, e, rfl, _, rfl, rfl, rfl, dd, _, _, rfl, e, rfl, (by show 3 ≤ sizeLine; decide), fun t ht => q t _ _ ht (by decide +kernel)⟩, fun z => nomatch z⟩
  · exact ⟨false, T.e_InvalidSpan_InvalidWeb, fun z => (nomatch z), fun _ => ⟨true, T.e_InvalidSpan_InvalidSpan, fun _ a ha => ⟨_, rfl, rfl, rfl, dd, _, _, rfl, e, rfl, _, rfl, rfl, rfl, dd, _, _, rfl, e, rfl, (by show 3 ≤ sizeLine; decide), fun t ht => q t _ _ ht (by decide +kernel)⟩, fun z => nomatch z⟩⟩
  · exact ⟨false, T.e_UnknownTie_InvalidWeb, fun z => (nomatch z), fun _ => ⟨false, T.e_UnknownTie_InvalidSpan, fun z => (nomatch z), fun _ => ⟨true, T.e_UnknownTie_UnknownTie, fun _ a ha => ⟨_, rfl, rfl, rfl, dd, _, _, rfl, e, rfl, (by show 2 ≤ sizeLine; decide), fun t ht => q t _ _ ht (by decide +kernel)⟩, fun z => nomatch z⟩⟩⟩
theorem sc_L_changed_by : FnScope ["_law_keeper", "_law_change_here", "_law_found", "e"] ["_law_keeper", "_law_change_here"] (defScope s_L_changed_by) := ⟨rfl, rfl, rfl, by decide +kernel, rfl, by decide +kernel, by decide +kernel⟩
def sp_L_changed_by (K : PySem.W.Frag) : Sp := fun vs H Q _ => ∃ (k p ca : Addr) (st : Kst) (c : Chg), vs = [.ref k, .ref ca] ∧ ChgAt H ca c ∧ KeepAt K H k p st ∧ Fit 890 st ∧ c.lim ∧
  (∀ w', apply st.1 c = some w' → ∀ H' t, Ch K (fun b => b = k ∨ b = p) H H' → KeepAt K H' k p (w', st.2 ++ [(st.1, c)]) → H' t = some (.tup [.str "done", .non]) → Q (.ref t) H') ∧
  (apply st.1 c = none → ∀ H' t s xs, Same H H' → s ≠ ("done" : Str) → H' t = some (.tup (.str s :: xs)) → Q (.ref t) H')
theorem ok_L_changed_by (T : W0 P w K mg) : GFn P w K mg base 9 "_law_changed_by" (sp_L_changed_by K) := by
  obtain ⟨fd, F⟩ := T.d_L_changed_by
  refine ⟨T.g_L_changed_by, F.kp, F.fr sc_L_changed_by (fun _ _ _ _ _ _ us hl => match us, hl with | [_, _], _ => rfl) (fun vs H Q E h => by first | (obtain ⟨rfl, _⟩ := h; rfl) | (obtain ⟨_, rfl, _⟩ := h; rfl) | (obtain ⟨_, _, rfl, _⟩ := h; rfl) | (obtain ⟨_, _, _, rfl, _⟩ := h; rfl) | (obtain ⟨_, _, _, _, rfl, _⟩ := h; rfl) | (obtain ⟨_, _, _, _, _, rfl, _⟩ := h; rfl) | (obtain ⟨_, _, _, _, _, _, rfl, _⟩ := h; rfl) | (obtain ⟨_, _, _, _, _, _, _, rfl, _⟩ := h; rfl) | (obtain ⟨_, _, _, _, _, _, _, _, rfl, _⟩ := h; rfl) | (obtain ⟨_, _, _, _, _, _, _, _, _, rfl, _⟩ := h; rfl)) fun cdv A outer s H vs Q E hr h => ⟨_, (pss_cons (ps_set (i := 2) sc_L_changed_by.nd rfl (Or.inl rfl) (pe_tup (pa_cons pe_str pa_nil))) (pss_cons (eTry rfl rfl sc_L_changed_by.nd (takes_of rfl rfl rfl rfl) (fun Wx pn xe tk hpo => (pss_one (ps_if (pt_cmpR op_eq (pe_ix (kIxT (K := K) rfl) (pv 1) pe_int (fun _ _ => rfl)) pe_str (nomark _)) (pss_one (ps_set (i := 2) sc_L_changed_by.nd rfl (Or.inl rfl) (pe_tup (pa_cons pe_str (pa_cons (eMethT (K := K) rfl (ok_Keeper_tie T) T.c_Keeper (hr.mono (by decide)) tk (pv 0) (pa_cons (pe_ix (kIxT (K := K) rfl) (pv 1) pe_int (fun _ _ => rfl)) (pa_cons (pe_ix (kIxT (K := K) rfl) (pv 1) pe_int (fun _ _ => rfl)) (pa_cons (pe_ix (kIxT (K := K) rfl) (pv 1) pe_int (fun _ _ => rfl)) (pa_cons (pe_ix (kIxT (K := K) rfl) (pv 1) pe_int (fun _ _ => rfl)) (pa_cons (pe_ix (kIxT (K := K) rfl) (pv 1) pe_int (fun _ _ => rfl)) pa_nil)))))) pa_nil))))) (pss_one (ps_if (pt_cmpR op_eq (pe_ix (kIxT (K := K) rfl) (pv 1) pe_int (fun _ _ => rfl)) pe_str (nomark _)) (pss_one (ps_set (i := 2) sc_L_changed_by.nd rfl (Or.inl rfl) (pe_tup (pa_cons pe_str (pa_cons (eMethT (K := K) rfl (ok_Keeper_cut T) T.c_Keeper (hr.mono (by decide)) tk (pv 0) (pa_cons (pe_ix (kIxT (K := K) rfl) (pv 1) pe_int (fun _ _ => rfl)) pa_nil)) pa_nil))))) (pss_one (ps_if (pt_cmpR op_eq (pe_ix (kIxT (K := K) rfl) (pv 1) pe_int (fun _ _ => rfl)) pe_str (nomark _)) (pss_one (ps_set (i := 2) sc_L_changed_by.nd rfl (Or.inl rfl) (pe_tup (pa_cons pe_str (pa_cons (eMethT (K := K) rfl (ok_Keeper_change T) T.c_Keeper (hr.mono (by decide)) tk (pv 0) (pa_cons (pe_ix (kIxT (K := K) rfl) (pv 1) pe_int (fun _ _ => rfl)) (pa_cons (pe_ix (kIxT (K := K) rfl) (pv 1) pe_int (fun _ _ => rfl)) (pa_cons (pe_ix (kIxT (K := K) rfl) (pv 1) pe_int (fun _ _ => rfl)) pa_nil)))) pa_nil))))) (pss_one (ps_set (i := 2) sc_L_changed_by.nd rfl (Or.inl rfl) (pe_tup (pa_cons pe_str (pa_cons (eMethT (K := K) rfl (ok_Keeper_post T) T.c_Keeper (hr.mono (by decide)) tk (pv 0) (pa_cons (pe_ix (kIxT (K := K) rfl) (pv 1) pe_int (fun _ _ => rfl)) pa_nil)) pa_nil)))))))))))) (ClsOk.named (i := 3) (clt_name (nmG T.g_InvalidWeb)) rfl rfl (fun a oe cls d pn hz hf => (pss_one (ps_set (i := 2) sc_L_changed_by.nd rfl (Or.inl rfl) (pe_tup (pa_cons pe_str (pa_cons (pe_xf T.xf_InvalidWeb.1 (T.xf_InvalidWeb.2 "reason" (by simp)) hz hf (pv 3)) (pa_cons (pe_xf T.xf_InvalidWeb.1 (T.xf_InvalidWeb.2 "index" (by simp)) hz hf (pv 3)) pa_nil))))))) (ClsOk.named (i := 3) (clt_name (nmG T.g_InvalidSpan)) rfl rfl (fun a oe cls d pn hz hf => (pss_one (ps_set (i := 2) sc_L_changed_by.nd rfl (Or.inl rfl) (pe_tup (pa_cons pe_str (pa_cons (pe_xf T.xf_InvalidSpan.1 (T.xf_InvalidSpan.2 "low" (by simp)) hz hf (pv 3)) (pa_cons (pe_xf T.xf_InvalidSpan.1 (T.xf_InvalidSpan.2 "high" (by simp)) hz hf (pv 3)) pa_nil))))))) (ClsOk.named (i := 3) (clt_name (nmG T.g_UnknownTie)) rfl rfl (fun a oe cls d pn hz hf => (pss_one (ps_set (i := 2) sc_L_changed_by.nd rfl (Or.inl rfl) (pe_tup (pa_cons pe_str (pa_cons (pe_xf T.xf_UnknownTie.1 (T.xf_UnknownTie.2 "name" (by simp)) hz hf (pv 3)) pa_nil)))))) (ClsOk.named (i := 3) (clt_name (nmG T.g_Rejected)) rfl rfl (fun a oe cls d pn hz hf => (pss_one (ps_set (i := 2) sc_L_changed_by.nd rfl (Or.inl rfl) (pe_tup (pa_cons pe_str (pa_cons (pe_xf T.xf_Rejected.1 (T.xf_Rejected.2 "index" (by simp)) hz hf (pv 3)) pa_nil)))))) ClsOk.nil))))) (pss_one (ps_ret (pv 2))))), ?_⟩⟩
  obtain ⟨k, p, ca, st, c, rfl, hc, hk, ft, lm, hg, hb⟩ := h
  refine ⟨(by show 1 ≤ sizeLine; decide), fun u hu => ?_⟩
  have s1 := same_upd (o := .tup [V.str ("other" : Str)]) hu
  have hk1 := hk.same s1
  have hc1 : ChgAt (upd H u (.tup [V.str ("other" : Str)])) ca c := s1 _ _ hc
  generalize (upd H u (.tup [V.str ("other" : Str)])) = H1 at s1 hk1 hc1 ⊢
  obtain ⟨dk, wa, ra, ek, _⟩ := hk1.web
  have act : ∀ (Q1 : VK) (E1 : XK), (∀ w', apply st.1 c = some w' → ∀ H', Ch K (fun b => b = k ∨ b = p) H H' → KeepAt K H' k p (w', st.2 ++ [(st.1, c)]) → Q1 .non H') → (∀ cls d H', apply st.1 c = none → Same H H' → XOk K cls d H' → E1 cls d H') → spAct K k p st c H1 Q1 E1 := fun Q1 E1 a b =>
    ⟨hk1, ft.lim9 (by omega), ft.v, Nat.le_trans ft.l (by omega), lm, fun w' ew H' ch kp => a w' ew H' ((Same.ch s1).trans ch) kp, fun en cls d H' sm xo => b cls d H' en (s1.trans sm) xo⟩
  cases c with
  | tie t =>
    refine ⟨_, rfl, ca, _, _, _, rfl, rfl, SqT.of hc1, atI_nat (j := 0) rfl, rfl, _, rfl, iteY (by show decide (V.str ("tie" : Str) = V.str ("tie" : Str)) = true; decide +kernel) ?_⟩
    refine ⟨_, rfl, k, dk, _, rfl, ek, rfl, _, rfl, ca, _, _, _, rfl, rfl, SqT.of hc1, atI_nat (j := 1) rfl, _, rfl, ca, _, _, _, rfl, rfl, SqT.of hc1, atI_nat (j := 2) rfl, _, rfl, ca, _, _, _, rfl, rfl, SqT.of hc1, atI_nat (j := 3) rfl, _, rfl, ca, _, _, _, rfl, rfl, SqT.of hc1, atI_nat (j := 4) rfl, _, rfl, ca, _, _, _, rfl, rfl, SqT.of hc1, atI_nat (j := 5) rfl, ?_⟩
    exact ⟨k, p, st, t, rfl, act _ _ (fun w' ew H' ch kp => ⟨(by show 2 ≤ sizeLine; decide), fun t ht => ⟨_, rfl, hg w' ew _ t (ch.trans (ch_new ht)) (kp.same (same_upd ht)) upd_same⟩⟩) fun cls d H' en sm xo => exc4 T xo fun t s xs ht ns => ⟨_, rfl, hb en _ t s xs (sm.trans (same_upd ht)) ns upd_same⟩⟩
  | cut n =>
    refine ⟨_, rfl, ca, _, _, _, rfl, rfl, SqT.of hc1, atI_nat (j := 0) rfl, rfl, _, rfl, iteN (by show decide (V.str ("cut" : Str) = V.str ("tie" : Str)) = false; decide +kernel) ?_⟩
    refine ⟨_, rfl, ca, _, _, _, rfl, rfl, SqT.of hc1, atI_nat (j := 0) rfl, rfl, _, rfl, iteY (by show decide (V.str ("cut" : Str) = V.str ("cut" : Str)) = true; decide +kernel) ?_⟩
    refine ⟨_, rfl, k, dk, _, rfl, ek, rfl, _, rfl, ca, _, _, _, rfl, rfl, SqT.of hc1, atI_nat (j := 1) rfl, ?_⟩
    exact ⟨k, p, st, n, rfl, act _ _ (fun w' ew H' ch kp => ⟨(by show 2 ≤ sizeLine; decide), fun t ht => ⟨_, rfl, hg w' ew _ t (ch.trans (ch_new ht)) (kp.same (same_upd ht)) upd_same⟩⟩) fun cls d H' en sm xo => exc4 T xo fun t s xs ht ns => ⟨_, rfl, hb en _ t s xs (sm.trans (same_upd ht)) ns upd_same⟩⟩
  | change n lo hi =>
    refine ⟨_, rfl, ca, _, _, _, rfl, rfl, SqT.of hc1, atI_nat (j := 0) rfl, rfl, _, rfl, iteN (by show decide (V.str ("change" : Str) = V.str ("tie" : Str)) = false; decide +kernel) ?_⟩
    refine ⟨_, rfl, ca, _, _, _, rfl, rfl, SqT.of hc1, atI_nat (j := 0) rfl, rfl, _, rfl, iteN (by show decide (V.str ("change" : Str) = V.str ("cut" : Str)) = false; decide +kernel) ?_⟩
    refine ⟨_, rfl, ca, _, _, _, rfl, rfl, SqT.of hc1, atI_nat (j := 0) rfl, rfl, _, rfl, iteY (by show decide (V.str ("change" : Str) = V.str ("change" : Str)) = true; decide +kernel) ?_⟩
    refine ⟨_, rfl, k, dk, _, rfl, ek, rfl, _, rfl, ca, _, _, _, rfl, rfl, SqT.of hc1, atI_nat (j := 1) rfl, _, rfl, ca, _, _, _, rfl, rfl, SqT.of hc1, atI_nat (j := 2) rfl, _, rfl, ca, _, _, _, rfl, rfl, SqT.of hc1, atI_nat (j := 3) rfl, ?_⟩
    exact ⟨k, p, st, n, lo, hi, rfl, act _ _ (fun w' ew H' ch kp => ⟨(by show 2 ≤ sizeLine; decide), fun t ht => ⟨_, rfl, hg w' ew _ t (ch.trans (ch_new ht)) (kp.same (same_upd ht)) upd_same⟩⟩) fun cls d H' en sm xo => exc4 T xo fun t s xs ht ns => ⟨_, rfl, hb en _ t s xs (sm.trans (same_upd ht)) ns upd_same⟩⟩
  | post n =>
    refine ⟨_, rfl, ca, _, _, _, rfl, rfl, SqT.of hc1, atI_nat (j := 0) rfl, rfl, _, rfl, iteN (by show decide (V.str ("post" : Str) = V.str ("tie" : Str)) = false; decide +kernel) ?_⟩
    refine ⟨_, rfl, ca, _, _, _, rfl, rfl, SqT.of hc1, atI_nat (j := 0) rfl, rfl, _, rfl, iteN (by show decide (V.str ("post" : Str) = V.str ("cut" : Str)) = false; decide +kernel) ?_⟩
    refine ⟨_, rfl, ca, _, _, _, rfl, rfl, SqT.of hc1, atI_nat (j := 0) rfl, rfl, _, rfl, iteN (by show decide (V.str ("post" : Str) = V.str ("change" : Str)) = false; decide +kernel) ?_⟩
    refine ⟨_, rfl, k, dk, _, rfl, ek, rfl, _, rfl, ca, _, _, _, rfl, rfl, SqT.of hc1, atI_nat (j := 1) rfl, ?_⟩
    exact ⟨k, p, st, n, rfl, act _ _ (fun w' ew H' ch kp => ⟨(by show 2 ≤ sizeLine; decide), fun t ht => ⟨_, rfl, hg w' ew _ t (ch.trans (ch_new ht)) (kp.same (same_upd ht)) upd_same⟩⟩) fun cls d H' en sm xo => exc4 T xo fun t s xs ht ns => ⟨_, rfl, hb en _ t s xs (sm.trans (same_upd ht)) ns upd_same⟩⟩
theorem sc_L_done : FnScope ["_law_keeper", "_law_change_here"] ["_law_keeper", "_law_change_here"] (defScope s_L_done) := ⟨rfl, rfl, rfl, by decide +kernel, rfl, by decide +kernel, by decide +kernel⟩
def sp_L_done (K : PySem.W.Frag) : Sp := fun vs H Q _ => ∃ (k p ca : Addr) (st : Kst) (c : Chg), vs = [.ref k, .ref ca] ∧ ChgAt H ca c ∧ KeepAt K H k p st ∧ Fit 890 st ∧ c.lim ∧
  (∀ w', apply st.1 c = some w' → ∀ H', Ch K (fun b => b = k ∨ b = p) H H' → KeepAt K H' k p (w', st.2 ++ [(st.1, c)]) → Q (.bl true) H') ∧ (apply st.1 c = none → ∀ H', Same H H' → Q (.bl false) H')
theorem ok_L_done (T : W0 P w K mg) : GFn P w K mg base 10 "_law_done" (sp_L_done K) := by
  obtain ⟨fd, F⟩ := T.d_L_done
  refine ⟨T.g_L_done, F.kp, F.fr sc_L_done (fun _ _ _ _ _ _ us hl => match us, hl with | [_, _], _ => rfl) (fun vs H Q E h => by first | (obtain ⟨rfl, _⟩ := h; rfl) | (obtain ⟨_, rfl, _⟩ := h; rfl) | (obtain ⟨_, _, rfl, _⟩ := h; rfl) | (obtain ⟨_, _, _, rfl, _⟩ := h; rfl) | (obtain ⟨_, _, _, _, rfl, _⟩ := h; rfl) | (obtain ⟨_, _, _, _, _, rfl, _⟩ := h; rfl) | (obtain ⟨_, _, _, _, _, _, rfl, _⟩ := h; rfl) | (obtain ⟨_, _, _, _, _, _, _, rfl, _⟩ := h; rfl) | (obtain ⟨_, _, _, _, _, _, _, _, rfl, _⟩ := h; rfl) | (obtain ⟨_, _, _, _, _, _, _, _, _, rfl, _⟩ := h; rfl)) fun cdv A outer s H vs Q E hr h => ⟨_, (pss_one (ps_ret (pe_cmpR op_eq (pe_ix (kIxT (K := K) rfl) (eCall (ok_L_changed_by T) (hr.mono (by decide)) passL (by rfl) (pa_cons (pv 0) (pa_cons (pv 1) pa_nil))) pe_int (fun _ _ => rfl)) pe_str (nomark _)))), ?_⟩⟩
  obtain ⟨k, p, ca, st, c, rfl, hc, hk, ft, lm, hg, hb⟩ := h
  refine ⟨_, rfl, _, rfl, k, p, ca, st, c, rfl, hc, hk, ft, lm, fun w' ew H' t ch kp et => ?_, fun en H' t s xs sm ns et => ?_⟩
  · exact ⟨t, _, _, _, rfl, rfl, SqT.of et, atI_nat (j := 0) rfl, rfl, hg w' ew H' ch kp⟩
  · refine ⟨t, _, _, _, rfl, rfl, SqT.of et, atI_nat (j := 0) rfl, rfl, ?_⟩
    have z := hb en H' sm
    have e : decide (V.str s = V.str ("done" : Str)) = false := decide_eq_false fun y => ns (V.str.inj y)
    rw [← e] at z
    exact z
theorem sc_L_at_once : FnScope ["_law_keeper", "_law_some_here", "_law_whole", "_law_found", "e"] ["_law_keeper", "_law_some_here", "_law_whole"] (defScope s_L_at_once) := ⟨rfl, rfl, rfl, by decide +kernel, rfl, by decide +kernel, by decide +kernel⟩
def sp_L_at_once (K : PySem.W.Frag) : Sp := fun vs H Q _ => ∃ (k p a : Addr) (st : Kst) (cs : List Chg) (n : Nat) (whole : Bool), vs = [.ref k, .ref a, .bl whole] ∧ ChgsAt H false a cs ∧ KeepAt K H k p st ∧ Fit n st ∧ n + cs.length ≤ 890 ∧ (∀ c ∈ cs, c.lim) ∧ a ≠ p ∧
  ((plays st cs).2 = cs.length → ∀ H' t, Ch K (fun b => b = k ∨ b = p) H H' → KeepAt K H' k p (plays st cs).1 → H' t = some (.tup [.str "made", .int cs.length]) → Q (.ref t) H') ∧
  ((plays st cs).2 < cs.length → ∀ H' p' t, Ch K (fun b => b = k ∨ b = p) H H' → (p' = p ∨ H p' = none) → KeepAt K H' k p' (if whole then st else (plays st cs).1) → H' t = some (.tup [.str "no", .int (plays st cs).2]) → Q (.ref t) H')
theorem ok_L_at_once (T : W0 P w K mg) : GFn P w K mg base 13 "_law_at_once" (sp_L_at_once K) := by
  obtain ⟨fd, F⟩ := T.d_L_at_once
  refine ⟨T.g_L_at_once, F.kp, F.fr sc_L_at_once (fun _ _ _ _ _ _ us hl => match us, hl with | [_, _, _], _ => rfl) (fun vs H Q E h => by first | (obtain ⟨rfl, _⟩ := h; rfl) | (obtain ⟨_, rfl, _⟩ := h; rfl) | (obtain ⟨_, _, rfl, _⟩ := h; rfl) | (obtain ⟨_, _, _, rfl, _⟩ := h; rfl) | (obtain ⟨_, _, _, _, rfl, _⟩ := h; rfl) | (obtain ⟨_, _, _, _, _, rfl, _⟩ := h; rfl) | (obtain ⟨_, _, _, _, _, _, rfl, _⟩ := h; rfl) | (obtain ⟨_, _, _, _, _, _, _, rfl, _⟩ := h; rfl) | (obtain ⟨_, _, _, _, _, _, _, _, rfl, _⟩ := h; rfl) | (obtain ⟨_, _, _, _, _, _, _, _, _, rfl, _⟩ := h; rfl)) fun cdv A outer s H vs Q E hr h => ⟨_, (pss_cons (ps_set (i := 3) sc_L_at_once.nd rfl (Or.inl rfl) pe_non) (pss_cons (eTry rfl rfl sc_L_at_once.nd (takes_of rfl rfl rfl rfl) (fun Wx pn xe tk hpo => (pss_one (ps_set (i := 3) sc_L_at_once.nd rfl (Or.inl rfl) (pe_tup (pa_cons pe_str (pa_cons (eMethKT (K := K) rfl (ok_Keeper_several_kw T false) T.c_Keeper (hr.mono (by decide)) tk (pv 0) (pa_cons (pv 1) pa_nil) (pk_cons (pv 2) pk_nil)) pa_nil)))))) (ClsOk.named (i := 4) (clt_name (nmG T.g_Rejected)) rfl rfl (fun a oe cls d pn hz hf => (pss_one (ps_set (i := 3) sc_L_at_once.nd rfl (Or.inl rfl) (pe_tup (pa_cons pe_str (pa_cons (pe_xf T.xf_Rejected.1 (T.xf_Rejected.2 "index" (by simp)) hz hf (pv 4)) pa_nil)))))) ClsOk.nil)) (pss_one (ps_ret (pv 3))))), ?_⟩⟩
  obtain ⟨k, p, a, st, cs, n, whole, rfl, ha, hk, ft, hn, hc, nap, hg, hb⟩ := h
  obtain ⟨dk, wa, ra, ek, _⟩ := hk.web
  refine ⟨_, rfl, k, dk, _, rfl, ek, rfl, _, rfl, _, rfl, _, rfl, k, p, a, st, cs, n, whole, rfl, ha, hk, ft, by omega, hc, nap, fun full H' ch kp => ?_, fun part H' p' d ch hp kp ed => ?_⟩
  · exact ⟨(by show 2 ≤ sizeLine; decide), fun t ht => ⟨_, rfl, hg full _ t (ch.trans (ch_new ht)) (kp.same (same_upd ht)) upd_same⟩⟩
  · exact ⟨true, T.e_Rejected_Rejected, fun _ a ha => ⟨_, rfl, rfl, rfl, d, _, _, rfl, ed, rfl, (by show 2 ≤ sizeLine; decide), fun t ht => ⟨_, rfl, hb part _ p' t (ch.trans (ch_new ht)) hp (kp.same (same_upd ht)) upd_same⟩⟩, fun z => nomatch z⟩
end
end Wy
set_option Elab.async false
set_option linter.all false
set_option maxRecDepth 100000
set_option maxHeartbeats 0
namespace Wy
open PySem PySem.Spec PyProof.Rows L2 StX
theorem plays_at {st st' : Kst} {cs : List Chg} {i : Nat} {c : Chg} (h : plays st cs = (st', cs.length)) (e : cs[i]? = some c) :
    (plays st (cs.take i)).2 = i ∧ ∃ w', apply (plays st (cs.take i)).1.1 c = some w' ∧ plays st (cs.take (i + 1)) = ((w', (plays st (cs.take i)).1.2 ++ [((plays st (cs.take i)).1.1, c)]), i + 1) := by
  have hi : i < cs.length := (List.getElem?_eq_some_iff.mp e).1
  have lt : (cs.take i).length = i := by rw [List.length_take]; omega
  have h2 : plays st (cs.take i ++ cs.drop i) = (st', (cs.take i ++ cs.drop i).length) := by rw [List.take_append_drop]; exact h
  obtain ⟨s1, h3, h4⟩ := plays_split h2
  rw [lt] at h3
  have ed : cs.drop i = c :: cs.drop (i + 1) := by
    rw [List.drop_eq_getElem_cons hi]
    congr 1
    have := List.getElem?_eq_getElem hi
    rw [this] at e
    exact Option.some.inj e
  rw [ed] at h4
  rw [h3]
  refine ⟨rfl, ?_⟩
  cases q : apply s1.1 c with
  | none =>
    rw [plays_no q] at h4
    have := congrArg Prod.snd h4
    simp at this
  | some w' =>
    refine ⟨w', rfl, ?_⟩
    rw [take_snoc e, plays_snoc (st' := s1) (by rw [h3, lt]), q, lt]
theorem plays_go {st : Kst} {cs : List Chg} {i : Nat} {c : Chg} {w' : Wb} (h : (plays st (cs.take i)).2 = i) (e : cs[i]? = some c) (a : apply (plays st (cs.take i)).1.1 c = some w') :
    plays st (cs.take (i + 1)) = ((w', (plays st (cs.take i)).1.2 ++ [((plays st (cs.take i)).1.1, c)]), i + 1) := by
  have hi : i < cs.length := (List.getElem?_eq_some_iff.mp e).1
  have lt : (cs.take i).length = i := by rw [List.length_take]; omega
  rw [take_snoc e, plays_snoc (st' := (plays st (cs.take i)).1) (Prod.ext rfl (by rw [lt]; exact h)), a, lt]
theorem plays_halt {st : Kst} {cs : List Chg} {i : Nat} {c : Chg} (h : (plays st (cs.take i)).2 = i) (e : cs[i]? = some c) (a : apply (plays st (cs.take i)).1.1 c = none) : plays st cs = ((plays st (cs.take i)).1, i) := by
  have hi : i < cs.length := (List.getElem?_eq_some_iff.mp e).1
  have lt : (cs.take i).length = i := by rw [List.length_take]; omega
  have z := plays_snoc (c := c) (st := st) (cs := cs.take i) (st' := (plays st (cs.take i)).1) (Prod.ext rfl (by rw [lt]; exact h))
  rw [a, ← take_snoc e, lt] at z
  have z2 := plays_stop (ds := cs.drop (i + 1)) z (by rw [List.length_take]; omega)
  rw [List.take_append_drop] at z2
  exact z2
theorem dues_halt {st : Kst} {cs : List Chg} {i : Nat} {c : Chg} (h : (plays st (cs.take i)).2 = i) (e : cs[i]? = some c) (a : apply (plays st (cs.take i)).1.1 c = none) : dues st.1 cs = dues st.1 (cs.take i) := by
  have z := plays_halt h e a
  have w1 := plays_webs st cs
  have w2 := plays_webs st (cs.take i)
  rw [z] at w1
  rw [w2] at w1
  exact (List.append_cancel_left w1).symm
theorem dues_go {st : Kst} {cs : List Chg} {i : Nat} {c : Chg} {w' : Wb} (h : (plays st (cs.take i)).2 = i) (e : cs[i]? = some c) (a : apply (plays st (cs.take i)).1.1 c = some w') : dues st.1 (cs.take (i + 1)) = dues st.1 (cs.take i) ++ [w'] := by
  have z := plays_go h e a
  have w1 := plays_webs st (cs.take (i + 1))
  have w2 := plays_webs st (cs.take i)
  rw [z] at w1
  have w3 : webs (w', (plays st (cs.take i)).1.2 ++ [((plays st (cs.take i)).1.1, c)]) = webs (plays st (cs.take i)).1 ++ [w'] := by
    unfold webs
    rw [List.map_append]
    rfl
  have w4 := w3.symm.trans w1
  rw [w2, List.append_assoc] at w4
  exact (List.append_cancel_left w4).symm
def rTupU : List V → Hp → VK → Prop := fun xs H Q => ∃ p ys, xs = [.ref p] ∧ H p = some (.tup ys) ∧ Q (.ref p) H
theorem kTupU {X : Cx} : CallR X (.type "tuple") rTupU := fun pins s σ H xs us Q I r h => by
  obtain ⟨p, ys, ex, ep, q⟩ := h
  exact call_tuple_of pins s σ H xs us Q I r ⟨p, ys, ex, .inr ⟨SqT.of ep, q⟩⟩
def ChL (H : Hp) (a : Addr) (cs : List Chg) : Prop := ∃ as, H a = some (.lst (as.map V.ref)) ∧ Paired (ChgAt H) as cs
section
variable {P : Program} {w : World} {K : PySem.W.Frag} {mg : Str → Option Value} {base : Heap}
theorem sc_L_webs_of : FnScope ["_law_start", "_law_done_here", "_law_some_here", "_law_alone", "_law_found", "_law_change_here"] ["_law_start", "_law_done_here", "_law_some_here"] (defScope s_L_webs_of) := ⟨rfl, rfl, rfl, by decide +kernel, rfl, by decide +kernel, by decide +kernel⟩
def sp_L_webs_of (K : PySem.W.Frag) : Sp := fun vs H Q _ => ∃ (sa la ma : Addr) (w0 : Wb) (st : Kst) (cs : List Chg) (n : Nat), vs = [.ref sa, .ref la, .ref ma] ∧ WebAt K H sa w0 ∧ ChL H la (logOf st) ∧ ChL H ma cs ∧ Ok n w0 st ∧ n ≤ 200 ∧ cs.length ≤ 200 ∧ (∀ c ∈ cs, c.lim ∧ c.small) ∧
  ∀ H' D as, Same H H' → H D = none → H' D = some (.lst (as.map V.ref)) → Paired (WebAt K H') as (dues st.1 cs) → Q (.ref D) H'
theorem ok_L_webs_of (T : W0 P w K mg) : GFn P w K mg base 11 "_law_webs_of" (sp_L_webs_of K) := by
  obtain ⟨fd, F⟩ := T.d_L_webs_of
  refine ⟨T.g_L_webs_of, F.kp, F.fr sc_L_webs_of (fun _ _ _ _ _ _ us hl => match us, hl with | [_, _, _], _ => rfl) (fun vs H Q E h => by first | (obtain ⟨rfl, _⟩ := h; rfl) | (obtain ⟨_, rfl, _⟩ := h; rfl) | (obtain ⟨_, _, rfl, _⟩ := h; rfl) | (obtain ⟨_, _, _, rfl, _⟩ := h; rfl) | (obtain ⟨_, _, _, _, rfl, _⟩ := h; rfl) | (obtain ⟨_, _, _, _, _, rfl, _⟩ := h; rfl) | (obtain ⟨_, _, _, _, _, _, rfl, _⟩ := h; rfl) | (obtain ⟨_, _, _, _, _, _, _, rfl, _⟩ := h; rfl) | (obtain ⟨_, _, _, _, _, _, _, _, rfl, _⟩ := h; rfl) | (obtain ⟨_, _, _, _, _, _, _, _, _, rfl, _⟩ := h; rfl)) fun cdv A outer s H vs Q E hr h => ⟨_, (pss_cons (ps_par (i := 3) (j := 4) (by rfl) sc_L_webs_of.nd rfl rfl (by decide) rfl rfl (pa_cons (eMake (ok_Keeper_init T) (hr.mono (by decide)) passL (by rfl) (pa_cons (pv 0) pa_nil)) (pa_cons (pe_lst pa_nil) pa_nil)) (by rfl)) (pss_cons (ps_for (passes_of rfl) rfl (pi_list (pv 1)) (pg_name (i := 5) sc_L_webs_of.nd rfl (Or.inl rfl)) (pss_one (ps_expr (eCall (ok_L_done T) (hr.mono (by decide)) passL (by rfl) (pa_cons (pv 3) (pa_cons (pv 5) pa_nil)))))) (pss_cons (ps_for (passes_of rfl) rfl (pi_list (pv 2)) (pg_name (i := 5) sc_L_webs_of.nd rfl (Or.inl rfl)) (pss_cons (ps_if (pt_not (pt_val (eCall (ok_L_done T) (hr.mono (by decide)) passL (by rfl) (pa_cons (pv 3) (pa_cons (pv 5) pa_nil))))) (pss_one ps_break) pss_nil) (pss_one (ps_expr (pe_bm PySem.F.plainAttrs_list PySem.F.slot_list_append PySem.F.type_list_append mt_append (pv 4) (pa_cons (eMeth0 (ok_Keeper_web T) T.c_Keeper (hr.mono (by decide)) passL (pv 3)) pa_nil)))))) (pss_one (ps_ret (pv 4)))))), ?_⟩⟩
  obtain ⟨sa, la, ma, w0, st, cs, n, rfl, hw, ⟨as1, el, h1⟩, ⟨as2, em, h2⟩, ok, hn, hl, hc, q⟩ := h
  have run : plays (w0, []) (logOf st) = (st, (logOf st).length) := ok.run
  have ll : (logOf st).length ≤ n := by
    unfold logOf
    rw [List.length_map]
    exact ok.l
  refine ⟨_, rfl, fun k dk hk hdk nek => ?_⟩
  have s0 := mk_same (o := .own k) (u := .ins (He.ga K "Keeper") dk []) hk hdk nek
  refine ⟨k, sa, dk, w0, rfl, upd_same, hw.im (Same.im s0), fun H1 p kp hp keep => ⟨rfl, (by show 0 ≤ sizeLine; decide), fun D hD => ⟨_, _, rfl, ?_⟩⟩⟩
  have s1 := mk_end hk hdk nek kp
  have s2 := s1.trans (same_upd (o := .lst []) hD)
  have pn : H p = none := Same.none s0 hp
  have kn : H k = none := hk
  have Dn : H D = none := Same.none s1 hD
  have keep1 := keep.same (same_upd (o := .lst []) hD)
  have eD1 : (upd H1 D (.lst [])) D = some (.lst []) := upd_same
  have Dk : D ≠ k := fun e => by
    obtain ⟨_, _, _, _, e3, _⟩ := keep
    rw [← e, hD] at e3
    cases e3
  have Dp : D ≠ p := fun e => by
    obtain ⟨_, _, _, _, _, _, _, e3, _⟩ := keep
    rw [← e, hD] at e3
    cases e3
  generalize upd H1 D (.lst []) = H2 at s2 keep1 eD1 ⊢
  have l1 : as1.length = (logOf st).length := paired_len h1
  have okb : WOk n w0 := ok.base
  refine ⟨_, rfl, la, rfl, ⟨_, SqL.of (s2 _ _ el)⟩, ?_⟩
  have fit1 : ∀ i, Fit 890 (plays (w0, []) ((logOf st).take i)).1 := fun i => by
    have z := (okb.ok.plays (cs := (logOf st).take i) fun c hc => ok.c c (List.mem_of_mem_take hc)).fit
    refine z.mono ?_
    rw [List.length_take]
    omega
  refine for_list (xs := as1.map V.ref) (fun i σ H' => (∃ o5, σ = [some (.ref sa), some (.ref la), some (.ref ma), some (.ref k), some (.ref D), o5]) ∧ Ch K (fun b => b = k ∨ b = p) H2 H' ∧ KeepAt K H' k p (plays (w0, []) ((logOf st).take i)).1)
    ⟨⟨_, rfl⟩, Ch.refl, by rw [List.take_zero]; exact keep1⟩ (fun i σ H' _ z => SqL.of (z.2.1.at (s2 _ _ el) (fun y => y.elim (fun e => by rw [e, kn] at el; cases el) fun e => by rw [e, pn] at el; cases el))) (fun i x σ H' hx z => ?_) fun σ H' z => ?_
  · obtain ⟨⟨o5, rfl⟩, ch, keep2⟩ := z
    rw [List.getElem?_map] at hx
    obtain ⟨b, hb1, hb2⟩ := Option.map_eq_some_iff.mp hx
    subst hb2
    obtain ⟨c, ec, hcb⟩ := paired_get' h1 hb1
    obtain ⟨_, w', ea, ep⟩ := plays_at run ec
    refine ⟨_, rfl, _, rfl, k, p, b, _, c, rfl, (hcb.im (Same.im (K := K) s2)).im ch.im, keep2, fit1 i, (ok.c c (List.mem_of_getElem? ec)).1, fun w2 ew H3 ch3 keep3 => ?_, fun en => absurd (ea.symm.trans en) (by simp)⟩
    have e2 : w2 = w' := Option.some.inj (ew.symm.trans ea)
    subst e2
    exact ⟨⟨_, rfl⟩, ch.trans ch3, by rw [ep]; exact keep3⟩
  obtain ⟨⟨o5, rfl⟩, ch, keep2⟩ := z
  rw [List.length_map, l1, List.take_length, run] at keep2
  have ch0 : Ch K (fun b => b = k ∨ b = p) H H' := (Same.ch s2).trans ch
  have offs : ∀ y : Addr, (∃ o, H y = some o) → ¬ (y = k ∨ y = p) := fun y ⟨o, e⟩ z => z.elim (fun e2 => by rw [e2, kn] at e; cases e) fun e2 => by rw [e2, pn] at e; cases e
  have em2 := ch0.at em (offs _ ⟨_, em⟩)
  have eD2 := ch.at eD1 (fun z => z.elim Dk Dp)
  have l2 : as2.length = cs.length := paired_len h2
  have fit2 : ∀ i, Fit 890 (plays st (cs.take i)).1 := fun i => by
    have z := (ok.plays (cs := cs.take i) fun c h => hc c (List.mem_of_mem_take h)).fit
    refine z.mono ?_
    rw [List.length_take]
    omega
  clear keep keep1 hp
  refine ⟨_, rfl, ma, rfl, ⟨_, SqL.of em2⟩, ?_⟩
  have fin : ∀ (H5 : Hp) (as : List Addr), Ch K (fun b => b = k ∨ b = p ∨ b = D) H' H5 → H5 D = some (.lst (as.map V.ref)) → Paired (WebAt K H5) as (dues st.1 cs) → Q (.ref D) H5 := fun H5 as c5 e5 p5 => by
    have c6 : Ch K (fun _ => False) H H5 := ((ch0.mono (S' := fun b => b = k ∨ b = p ∨ b = D) fun b h => h.elim .inl fun h => .inr (.inl h)).trans c5).fresh fun b h => .inr (by
      rcases h with e | e | e
      · rw [e]; exact kn
      · rw [e]; exact pn
      · rw [e]; exact Dn)
    exact q H5 D as c6.bt.same Dn e5 p5
  refine for_list (xs := as2.map V.ref) (fun i σ H5 => (∃ o5, σ = [some (.ref sa), some (.ref la), some (.ref ma), some (.ref k), some (.ref D), o5]) ∧ Ch K (fun b => b = k ∨ b = p ∨ b = D) H' H5 ∧ KeepAt K H5 k p (plays st (cs.take i)).1 ∧ (plays st (cs.take i)).2 = i ∧ ∃ as, H5 D = some (.lst (as.map V.ref)) ∧ Paired (WebAt K H5) as (dues st.1 (cs.take i)))
    ⟨⟨_, rfl⟩, Ch.refl, by rw [List.take_zero]; exact keep2, by rw [List.take_zero]; rfl, [], eD2, by rw [List.take_zero, dues]; exact .nil⟩ (fun i σ H5 _ z => SqL.of (z.2.1.at em2 (fun y => ?_))) (fun i x σ H5 hx z => ?_) fun σ H5 z => ?_
  · rcases y with e | e | e
    · exact offs _ ⟨_, em⟩ (.inl e)
    · exact offs _ ⟨_, em⟩ (.inr e)
    · rw [e, Dn] at em
      cases em
  · obtain ⟨⟨o6, rfl⟩, c5, keep5, pn5, as, eD5, pw⟩ := z
    rw [List.getElem?_map] at hx
    obtain ⟨b, hb1, hb2⟩ := Option.map_eq_some_iff.mp hx
    subst hb2
    obtain ⟨c, ec, hcb⟩ := paired_get' h2 hb1
    refine ⟨_, rfl, _, rfl, k, p, b, _, c, rfl, (hcb.im ch0.im).im c5.im, keep5, fit2 i, (hc c (List.mem_of_getElem? ec)).1, fun w2 ew H6 c6 keep6 => ⟨_, rfl, iteN rfl ?_⟩, fun en H6 s6 => ⟨_, rfl, iteY rfl ?_⟩⟩
    · have eD6 := c6.at eD5 (fun z => z.elim Dk Dp)
      obtain ⟨dk6, wa6, ra6, ek6, _⟩ := keep6.web
      refine ⟨_, rfl, .inl ⟨rfl, _, SqL.of eD6⟩, _, rfl, k, dk6, _, rfl, ek6, rfl, k, p, _, rfl, keep6, fun wa hwa => ?_⟩
      have gl := plays_go pn5 ec ew
      have dl := dues_go pn5 ec ew
      have c7 := ch_upd (K := K) (S := fun b => b = k ∨ b = p ∨ b = D) (u := .lst (as.map V.ref ++ [.ref wa])) eD6 (fun z => z) (.inr (.inr rfl))
      have c8 := ch_upd (K := K) (S := fun b => b = D) (u := .lst (as.map V.ref ++ [.ref wa])) eD6 (fun z => z) rfl
      have al : as.length ≤ cs.length := by
        rw [paired_len pw, dues_len]
        refine Nat.le_trans (plays_le _ _) ?_
        rw [List.length_take]
        omega
      refine ⟨D, _, _, rfl, rfl, eD6, lt_size (by rw [List.length_map]; omega), ⟨_, rfl⟩, (c5.trans (c6.mono fun b h => h.elim .inl fun h => .inr (.inl h))).trans c7, ?_, ?_, as ++ [wa], ?_, ?_⟩
      · rw [gl]
        exact keep6.ch c8 (Ne.symm Dk) (Ne.symm Dp)
      · rw [gl]
      · rw [upd_same, List.map_append]
        rfl
      · rw [dl]
        exact paired_app (Paired.mapP pw fun _ _ z => (z.im c6.im).im c7.im) (.cons (hwa.im c7.im) .nil)
    · refine ⟨_, rfl, fin H6 as (c5.trans (Same.ch s6)) (s6 _ _ eD5) ?_⟩
      rw [dues_halt pn5 ec en]
      exact Paired.mapP pw fun _ _ z => z.im (Same.im s6)
  · obtain ⟨⟨o6, rfl⟩, c5, keep5, pn5, as, eD5, pw⟩ := z
    rw [List.length_map, l2, List.take_length] at pw
    exact ⟨_, rfl, fin H5 as c5 eD5 pw⟩
theorem raw_len (w : Wb) (c : Chg) : (raw w c).1.length ≤ w.1.length + 1 ∧ (raw w c).2.length ≤ w.2.length + 1 := by
  cases c with
  | tie t => exact ⟨Nat.le_succ _, by show (w.2 ++ [t]).length ≤ _; rw [List.length_append]; exact Nat.le_refl _⟩
  | cut n => exact ⟨Nat.le_succ _, Nat.le_trans (List.length_filter_le _ _) (Nat.le_succ _)⟩
  | change n lo hi => exact ⟨Nat.le_succ _, by show (w.2.map _).length ≤ _; rw [List.length_map]; exact Nat.le_succ _⟩
  | post n => exact ⟨by show (w.1 ++ [n]).length ≤ _; rw [List.length_append]; exact Nat.le_refl _, Nat.le_succ _⟩
theorem fold_len (w : Wb) (cs : List Chg) : (cs.foldl raw w).1.length ≤ w.1.length + cs.length ∧ (cs.foldl raw w).2.length ≤ w.2.length + cs.length := by
  induction cs generalizing w with
  | nil => exact ⟨Nat.le_refl _, Nat.le_refl _⟩
  | cons c r ih =>
    obtain ⟨a, b⟩ := ih (raw w c)
    obtain ⟨a2, b2⟩ := raw_len w c
    rw [List.foldl_cons, List.length_cons]
    omega
theorem fold_snoc {w : Wb} {cs : List Chg} {i : Nat} {c : Chg} (e : cs[i]? = some c) : (cs.take (i + 1)).foldl raw w = raw ((cs.take i).foldl raw w) c := by
  rw [take_snoc e, List.foldl_append]
  rfl
theorem sc_L_by_log : FnScope ["_law_start", "_law_log", "_law_spots", "_law_bonds", "_law_change_here", "_law_bond"] ["_law_start", "_law_log"] (defScope s_L_by_log) := ⟨rfl, rfl, rfl, by decide +kernel, rfl, by decide +kernel, by decide +kernel⟩
def sp_L_by_log (K : PySem.W.Frag) : Sp := fun vs H Q _ => ∃ (sa la : Addr) (w0 : Wb) (cs : List Chg), vs = [.ref sa, .ref la] ∧ WebAt K H sa w0 ∧ ChL H la cs ∧ cs.length ≤ 200 ∧ w0.1.length ≤ 200 ∧ w0.2.length ≤ 200 ∧ Valid (cs.foldl raw w0) ∧ Lim (cs.foldl raw w0) ∧
  ∀ x H', Same H H' → WebAt K H' x (cs.foldl raw w0) → Q (.ref x) H'
theorem ok_L_by_log (T : W0 P w K mg) : GFn P w K mg base 7 "_law_by_log" (sp_L_by_log K) := by
  obtain ⟨fd, F⟩ := T.d_L_by_log
  refine ⟨T.g_L_by_log, F.kp, F.fr sc_L_by_log (fun _ _ _ _ _ _ us hl => match us, hl with | [_, _], _ => rfl) (fun vs H Q E h => by first | (obtain ⟨rfl, _⟩ := h; rfl) | (obtain ⟨_, rfl, _⟩ := h; rfl) | (obtain ⟨_, _, rfl, _⟩ := h; rfl) | (obtain ⟨_, _, _, rfl, _⟩ := h; rfl) | (obtain ⟨_, _, _, _, rfl, _⟩ := h; rfl) | (obtain ⟨_, _, _, _, _, rfl, _⟩ := h; rfl) | (obtain ⟨_, _, _, _, _, _, rfl, _⟩ := h; rfl) | (obtain ⟨_, _, _, _, _, _, _, rfl, _⟩ := h; rfl) | (obtain ⟨_, _, _, _, _, _, _, _, rfl, _⟩ := h; rfl) | (obtain ⟨_, _, _, _, _, _, _, _, _, rfl, _⟩ := h; rfl)) fun cdv A outer s H vs Q E hr h => ⟨_, (pss_cons (ps_par (i := 2) (j := 3) (by rfl) sc_L_by_log.nd rfl rfl (by decide) rfl rfl (pa_cons (eProp T.c_Web (ok_Web_posts T) (hr.mono (by decide)) (pv 0)) (pa_cons (pe_callTy call_list_of (by rfl) T.f_list (by decide +kernel) (pa_cons (eProp T.c_Web (ok_Web_ties T) (hr.mono (by decide)) (pv 0)) pa_nil)) pa_nil)) (by rfl)) (pss_cons (ps_for (passes_of rfl) rfl (pi_list (pv 1)) (pg_name (i := 4) sc_L_by_log.nd rfl (Or.inr rfl)) (pss_one (ps_if (pt_cmpR op_eq (pe_ix (kIxT (K := K) rfl) (pv 4) pe_int (fun _ _ => rfl)) pe_str (nomark _)) (pss_one (ps_set (i := 2) sc_L_by_log.nd rfl (Or.inl rfl) (pe_op op_catU (pv 2) (pe_tup (pa_cons (pe_ix (kIxT (K := K) rfl) (pv 4) pe_int (fun _ _ => rfl)) pa_nil))))) (pss_one (ps_if (pt_cmpR op_eq (pe_ix (kIxT (K := K) rfl) (pv 4) pe_int (fun _ _ => rfl)) pe_str (nomark _)) (pss_one (ps_expr (pe_bm PySem.F.plainAttrs_list PySem.F.slot_list_append PySem.F.type_list_append mt_append (pv 3) (pa_cons (pe_callTy call_tuple_of (by rfl) T.f_tuple (by decide +kernel) (pa_cons (pe_slice sl_tupU (pv 4) (po_some pe_int) po_none) pa_nil)) pa_nil)))) (pss_one (ps_if (pt_cmpR op_eq (pe_ix (kIxT (K := K) rfl) (pv 4) pe_int (fun _ _ => rfl)) pe_str (nomark _)) (pss_one (ps_setLc (i := 3) (own := [("_law_bond", 5)]) (by rfl) sc_L_by_log.nd rfl rfl (sw_true rfl rfl rfl (by decide +kernel)) (pi_list (pv 3)) (blkOk_by (own := [("_law_bond", 5)]) (N := ["_law_start", "_law_log", "_law_spots", "_law_bonds", "_law_change_here", "_law_bond"]) (sc := defScope s_L_by_log) (by decide +kernel)) (fun _ _ _ _ _ => (pg_name (i := 5) sc_L_by_log.nd rfl (Or.inl rfl))) (fun _ _ _ _ _ => (pts_one (pt_cmpR op_ne (pe_ix (kIxT (K := K) rfl) (pv 5) pe_int (fun _ _ => rfl)) (pe_ix (kIxT (K := K) rfl) (pv 4) pe_int (fun _ _ => rfl)) (nomark _)))) (fun _ _ _ _ _ => (pv 5)))) (pss_one (ps_setLc (i := 3) (own := [("_law_bond", 5)]) (by rfl) sc_L_by_log.nd rfl rfl (sw_true rfl rfl rfl (by decide +kernel)) (pi_list (pv 3)) (blkOk_by (own := [("_law_bond", 5)]) (N := ["_law_start", "_law_log", "_law_spots", "_law_bonds", "_law_change_here", "_law_bond"]) (sc := defScope s_L_by_log) (by decide +kernel)) (fun _ _ _ _ _ => (pg_name (i := 5) sc_L_by_log.nd rfl (Or.inl rfl))) (fun _ _ _ _ _ => pts_nil) (fun _ _ _ _ _ => (pe_ifExp (pt_cmpR op_eq (pe_ix (kIxT (K := K) rfl) (pv 5) pe_int (fun _ _ => rfl)) (pe_ix (kIxT (K := K) rfl) (pv 4) pe_int (fun _ _ => rfl)) (nomark _)) (pe_op op_catU (pe_slice sl_tupU (pv 5) po_none (po_some pe_int)) (pe_callTy kTupU (by rfl) T.f_tuple (by decide +kernel) (pa_cons (pe_slice sl_tupU (pv 4) (po_some pe_int) po_none) pa_nil))) (pv 5)))))))))))) (pss_one (ps_ret (eMake (ok_Web_init T) (hr.mono (by decide)) (passes_call (takes_of rfl rfl rfl rfl) (fun _ _ _ _ h => h)) (by rfl) (pa_cons (pv 2) (pa_cons (pe_callTy call_tuple_of (by rfl) T.f_tuple (by decide +kernel) (pa_cons (pv 3) pa_nil)) pa_nil))))))), ?_⟩⟩
  obtain ⟨sa, la, w0, cs, rfl, hw, ⟨as1, el, h1⟩, lc, l1, l2, v, lm, q⟩ := h
  obtain ⟨dx, pa, ta, ea, hp, as, ha, hts⟩ := hw
  refine ⟨_, rfl, sa, dx, _, _, rfl, ea, rfl, _, rfl, sa, dx, _, _, rfl, ea, rfl, ta, _, rfl, .inr (SqT.of ha), fun bl hbl => ⟨_, _, rfl, ?_⟩⟩
  have s1 := same_upd (o := .lst (as.map V.ref)) hbl
  refine ⟨_, rfl, la, rfl, ⟨_, SqL.of (s1 _ _ el)⟩, ?_⟩
  have lcs : as1.length = cs.length := paired_len h1
  refine for_list (xs := as1.map V.ref) (fun i σ H' => (∃ p1 b1 as2 o4 o5, σ = [some (.ref sa), some (.ref la), some (.ref p1), some (.ref b1), o4, o5] ∧ H b1 = none ∧ PostsAt H' p1 ((cs.take i).foldl raw w0).1 ∧ H' b1 = some (.lst (as2.map V.ref)) ∧ TiesAs H' as2 ((cs.take i).foldl raw w0).2) ∧ Same H H')
    ⟨⟨pa, bl, as, _, _, rfl, hbl, s1 _ _ hp, upd_same, Paired.mapP hts fun _ _ z => s1 _ _ z⟩, s1⟩ (fun i σ H' _ z => SqL.of (z.2 _ _ el)) (fun i x σ H' hx z => ?_) fun σ H' z => ?_
  · obtain ⟨⟨p1, b1, as2, o4, o5, rfl, bn, ep, eb, ht⟩, sm⟩ := z
    rw [List.getElem?_map] at hx
    obtain ⟨b, hb1, hb2⟩ := Option.map_eq_some_iff.mp hx
    subst hb2
    obtain ⟨c, ec, hcb0⟩ := paired_get' h1 hb1
    have hcb : ChgAt H' b c := sm _ _ hcb0
    obtain ⟨fl1, fl2⟩ := fold_len w0 (cs.take i)
    have tl : (cs.take i).length ≤ 200 := by rw [List.length_take]; omega
    rw [fold_snoc ec]
    generalize (cs.take i).foldl raw w0 = W at ep ht fl1 fl2 ⊢
    have al : as2.length = W.2.length := paired_len ht
    cases c with
    | post n =>
      refine ⟨_, rfl, b, _, _, _, rfl, rfl, SqT.of hcb, atI_nat (j := 0) rfl, rfl, _, rfl, iteY (by show decide (V.str ("post" : Str) = V.str ("post" : Str)) = true; decide +kernel) ?_⟩
      refine ⟨_, rfl, _, rfl, b, _, _, _, rfl, rfl, SqT.of hcb, atI_nat (j := 1) rfl, (by show 1 ≤ sizeLine; decide), fun u hu => ?_⟩
      have s2 := same_upd (o := .tup [V.str n]) hu
      refine ⟨p1, u, _, _, rfl, rfl, s2 _ _ ep, upd_same, le_size (by rw [List.length_map]; show _ + 1 ≤ _; omega), fun p2 H6 s3 e3 => ?_⟩
      have s4 := s2.trans s3
      exact ⟨⟨p2, b1, as2, _, _, rfl, bn, e3.trans (by show _ = some (HO.tup ((W.1 ++ [n]).map V.str)); rw [List.map_append]; rfl), s4 _ _ eb, Paired.mapP ht fun _ _ z => s4 _ _ z⟩, sm.trans s4⟩
    | tie t =>
      refine ⟨_, rfl, b, _, _, _, rfl, rfl, SqT.of hcb, atI_nat (j := 0) rfl, rfl, _, rfl, iteN (by show decide (V.str ("tie" : Str) = V.str ("post" : Str)) = false; decide +kernel) ?_⟩
      refine ⟨_, rfl, b, _, _, _, rfl, rfl, SqT.of hcb, atI_nat (j := 0) rfl, rfl, _, rfl, iteY (by show decide (V.str ("tie" : Str) = V.str ("tie" : Str)) = true; decide +kernel) ?_⟩
      refine ⟨_, rfl, .inl ⟨rfl, _, SqL.of eb⟩, _, rfl, _, rfl, b, _, rfl, hcb, fun u H6 s3 e3 => ⟨u, _, rfl, .inr ⟨SqT.of e3, ?_⟩⟩⟩
      have eb6 := s3 _ _ eb
      have eu : H6 u = some (.tup (tieV t)) := e3.trans (by rw [show cutV (Chg.tie t).vals (some 1) none = (Chg.tie t).vals.drop 1 from cutV_drop _ 1]; rfl)
      have off : ∀ c o, H' c = some o → H c ≠ none ∨ c ≠ b1 → True := fun _ _ _ _ => trivial
      have ub : u ≠ b1 := ne_of eu eb6 (by intro z; cases z)
      refine ⟨b1, _, _, rfl, rfl, eb6, lt_size (by rw [List.length_map]; omega), ⟨p1, b1, as2 ++ [u], _, _, rfl, bn, ?_, ?_, ?_⟩, fun c o e => ?_⟩
      · show (upd H6 b1 _) p1 = _
        rw [upd_ne (ne_of (s3 _ _ ep) eb6 (by intro z; cases z))]
        exact s3 _ _ ep
      · rw [upd_same, List.map_append]
        rfl
      · refine paired_app (Paired.mapP ht fun c t hz => ?_) (.cons ?_ .nil)
        · show (upd H6 b1 _) c = _
          rw [upd_ne (ne_of (s3 _ _ hz) eb6 (by intro z; cases z))]
          exact s3 _ _ hz
        · show (upd H6 b1 _) u = _
          rw [upd_ne ub]
          exact eu
      · rw [upd_ne (ne_of_none e bn)]
        exact s3 _ _ (sm _ _ e)
    | cut n =>
      refine ⟨_, rfl, b, _, _, _, rfl, rfl, SqT.of hcb, atI_nat (j := 0) rfl, rfl, _, rfl, iteN (by show decide (V.str ("cut" : Str) = V.str ("post" : Str)) = false; decide +kernel) ?_⟩
      refine ⟨_, rfl, b, _, _, _, rfl, rfl, SqT.of hcb, atI_nat (j := 0) rfl, rfl, _, rfl, iteN (by show decide (V.str ("cut" : Str) = V.str ("tie" : Str)) = false; decide +kernel) ?_⟩
      refine ⟨_, rfl, b, _, _, _, rfl, rfl, SqT.of hcb, atI_nat (j := 0) rfl, rfl, _, rfl, iteY (by show decide (V.str ("cut" : Str) = V.str ("cut" : Str)) = true; decide +kernel) ?_⟩
      refine ⟨_, rfl, b1, rfl, ⟨_, SqL.of eb⟩, fun D hD => ?_⟩
      have Dn : H D = none := Same.none sm hD
      obtain ⟨zf, zsn, zr⟩ := paired_zip ht
      refine lc_acc walk_list hD (fun j => (((as2.zip W.2).take j).filter fun q => decide (q.2.1 ≠ n)).map fun q => V.ref q.1) rfl (fun j hj => lt_size ?_) (fun H3 sm3 => SqL.of (sm3 _ _ eb)) (fun j x H3 H4 hj sm3 y Yes No hy hn2 => ?_) fun H3 sm3 e4 => ?_
      · rw [List.length_map]
        have h1 := List.length_filter_le (fun q : Addr × Tie => decide (q.2.1 ≠ n)) ((as2.zip W.2).take j)
        have h2 : ((as2.zip W.2).take j).length ≤ j := by
          rw [List.length_take]
          omega
        rw [List.length_map] at hj
        omega
      · obtain ⟨eH, ex⟩ := y
        subst eH
        rw [List.getElem?_map] at ex
        obtain ⟨a3, ea3, ex2⟩ := Option.map_eq_some_iff.mp ex
        subst ex2
        obtain ⟨t, et, tz⟩ := paired_get' ht ea3
        have ezp := zip_get ea3 et
        refine ⟨rfl, _, rfl, a3, _, _, _, rfl, rfl, SqT.of (sm3 _ _ tz), atI_nat (j := 0) rfl, _, rfl, b, _, _, _, rfl, rfl, SqT.of (sm3 _ _ hcb), atI_nat (j := 1) rfl, ?_⟩
        refine ⟨rfl, _, rfl, iteB (fun e1 => ⟨_, rfl, hy _ _ same_rfl ?_⟩) fun e1 => hn2 _ same_rfl ?_⟩
        · have e3 : decide (t.1 ≠ n) = true := by
            refine decide_eq_true fun z => ?_
            rw [z] at e1
            simp at e1
          rw [take_snoc ezp, List.filter_append, List.map_append, List.filter_cons_of_pos (by exact e3)]
          rfl
        · have e3 : ¬ decide (t.1 ≠ n) = true := by
            intro z
            have z2 := of_decide_eq_true z
            rw [decide_eq_false (fun y => z2 (V.str.inj y))] at e1
            cases e1
          rw [take_snoc ezp, List.filter_append, List.map_append, List.filter_cons_of_neg (by exact e3)]
          simp
      · have lz : (as2.map V.ref).length = (as2.zip W.2).length := by
          rw [List.length_map, List.length_zip, al]
          omega
        rw [lz, List.take_length] at e4
        have ef : W.2.filter (fun t => decide (t.1 ≠ n)) = ((as2.zip W.2).filter fun q => decide (q.2.1 ≠ n)).map (·.2) := by
          conv => lhs; rw [← zsn]
          rw [List.filter_map]
          rfl
        have pf : TiesAs H' (((as2.zip W.2).filter fun q => decide (q.2.1 ≠ n)).map (·.1)) (W.2.filter fun t => decide (t.1 ≠ n)) := by
          rw [ef]
          exact paired_of fun q hq => zr q (List.mem_filter.mp hq).1
        exact ⟨⟨p1, D, ((as2.zip W.2).filter fun q : Addr × Tie => decide (q.2.1 ≠ n)).map (fun q : Addr × Tie => q.1), _, _, rfl, Dn, sm3 _ _ ep, e4.trans (by rw [List.map_map]; rfl), Paired.mapP pf fun _ _ z => sm3 _ _ z⟩, sm.trans sm3⟩
    | change n lo hi =>
      refine ⟨_, rfl, b, _, _, _, rfl, rfl, SqT.of hcb, atI_nat (j := 0) rfl, rfl, _, rfl, iteN (by show decide (V.str ("change" : Str) = V.str ("post" : Str)) = false; decide +kernel) ?_⟩
      refine ⟨_, rfl, b, _, _, _, rfl, rfl, SqT.of hcb, atI_nat (j := 0) rfl, rfl, _, rfl, iteN (by show decide (V.str ("change" : Str) = V.str ("tie" : Str)) = false; decide +kernel) ?_⟩
      refine ⟨_, rfl, b, _, _, _, rfl, rfl, SqT.of hcb, atI_nat (j := 0) rfl, rfl, _, rfl, iteN (by show decide (V.str ("change" : Str) = V.str ("cut" : Str)) = false; decide +kernel) ?_⟩
      refine ⟨_, rfl, b1, rfl, ⟨_, SqL.of eb⟩, fun D hD => ?_⟩
      have Dn : H D = none := Same.none sm hD
      refine lc_it walk_list (fun j H6 => Same H' H6 ∧ ∃ bs, H6 D = some (.lst (bs.map V.ref)) ∧ TiesAs H6 bs ((W.2.take j).map fun t => if t.1 = n then (t.1, t.2.1, t.2.2.1, lo, hi) else t)) ⟨same_upd hD, [], upd_same, .nil⟩ (fun j H6 _ z => SqL.of (z.1 _ _ eb)) (fun j x H6 H7 hj z y => ?_) fun H6 z => ?_
      · obtain ⟨eH, ex⟩ := y
        subst eH
        obtain ⟨s6, bs, e6, p6⟩ := z
        rw [List.getElem?_map] at ex
        obtain ⟨a3, ea3, ex2⟩ := Option.map_eq_some_iff.mp ex
        subst ex2
        obtain ⟨t, et, tz0⟩ := paired_get' ht ea3
        have tz := s6 _ _ tz0
        have bl : bs.length ≤ 500 := by
          rw [paired_len p6, List.length_map, List.length_take]
          omega
        have fin : ∀ (H9 : Hp) (u : Addr) (t' : Tie), Same H7 H9 → H9 u = some (.tup (tieV t')) → t' = (if t.1 = n then (t.1, t.2.1, t.2.2.1, lo, hi) else t) → ∃ acc, H9 D = some (.lst acc) ∧ acc.length < sizeLine ∧ (Same H' (upd H9 D (.lst (acc ++ [.ref u]))) ∧ ∃ bs, (upd H9 D (.lst (acc ++ [.ref u]))) D = some (.lst (bs.map V.ref)) ∧ TiesAs (upd H9 D (.lst (acc ++ [.ref u]))) bs ((W.2.take (j + 1)).map fun t => if t.1 = n then (t.1, t.2.1, t.2.2.1, lo, hi) else t)) := fun H9 u t' s9 eu et' => by
          have e9 := s9 _ _ e6
          refine ⟨_, e9, lt_size (by rw [List.length_map]; omega), fun c o e => ?_, bs ++ [u], ?_, ?_⟩
          · rw [upd_ne (ne_of_none e hD)]
            exact s9 _ _ (s6 _ _ e)
          · rw [upd_same, List.map_append]
            rfl
          · rw [take_snoc et, List.map_append]
            refine paired_app (Paired.mapP p6 fun c v hv => ?_) (.cons ?_ .nil)
            · show (upd H9 D _) c = _
              rw [upd_ne (ne_of (s9 _ _ hv) e9 (by intro z; cases z))]
              exact s9 _ _ hv
            · show (upd H9 D _) u = _
              rw [upd_ne (ne_of eu e9 (by intro z; cases z))]
              exact eu.trans (congrArg (fun z => some (HO.tup (tieV z))) et')
        have hcb6 : H7 b = some (.tup (Chg.change n lo hi).vals) := s6 _ _ hcb
        refine ⟨rfl, _, rfl, a3, _, _, _, rfl, rfl, SqT.of tz, atI_nat (j := 0) rfl, _, rfl, b, _, _, _, rfl, rfl, SqT.of hcb6, atI_nat (j := 1) rfl, rfl, _, rfl, iteB (fun e1 => ?_) fun e1 => ?_⟩
        · have tn : t.1 = n := V.str.inj (of_decide_eq_true e1)
          refine ⟨_, rfl, _, rfl, a3, _, rfl, tz, fun u1 H8 s1' e1' => ⟨_, rfl, _, rfl, b, _, rfl, s1' _ _ hcb6, fun u2 H9 s2' e2' => ⟨u2, _, rfl, e2', u1, u2, _, _, rfl, rfl, s2' _ _ e1', e2', le_size ?_, fun u3 H10 s3' e3' => ?_⟩⟩⟩
          · rw [show cutV (tieV t) none (some 3) = (tieV t).take 3 from cutV_take _ 3, show cutV (Chg.change n lo hi).vals (some 2) none = (Chg.change n lo hi).vals.drop 2 from cutV_drop _ 2]
            show 3 + 2 ≤ 100000
            decide
          · refine fin H10 u3 (t.1, t.2.1, t.2.2.1, lo, hi) ((s1'.trans s2').trans s3') (e3'.trans ?_) (if_pos tn).symm
            rw [show cutV (tieV t) none (some 3) = (tieV t).take 3 from cutV_take _ 3, show cutV (Chg.change n lo hi).vals (some 2) none = (Chg.change n lo hi).vals.drop 2 from cutV_drop _ 2]
            rfl
        · have tn : t.1 ≠ n := fun z => of_decide_eq_false e1 (congrArg V.str z)
          exact ⟨_, rfl, fin H7 a3 t same_rfl tz (if_neg tn).symm⟩
      · obtain ⟨s6, bs, e6, p6⟩ := z
        rw [List.length_map, al, List.take_length] at p6
        exact ⟨⟨p1, D, bs, _, _, rfl, Dn, s6 _ _ ep, e6, p6⟩, sm.trans s6⟩
  · obtain ⟨⟨p1, b1, as2, o4, o5, rfl, bn, ep, eb, ht⟩, sm⟩ := z
    rw [List.length_map, lcs, List.take_length] at ep ht
    refine ⟨_, rfl, _, rfl, b1, _, rfl, .inl ⟨SqL.of eb, fun p2 hp2 x dx2 hx hdx ne => ?_⟩⟩
    have s2 := sm.trans (same_upd (o := .tup (as2.map V.ref)) hp2)
    have s4 := mk_same (o := .own x) (u := .ins (He.ga K "Web") dx2 []) hx hdx ne
    have s5 := (same_upd (o := .tup (as2.map V.ref)) hp2).trans s4
    exact ⟨x, p1, p2, dx2, cs.foldl raw w0, rfl, upd_same, s5 _ _ ep, ⟨as2, s4 _ _ upd_same, Paired.mapP ht fun _ _ z => s5 _ _ z⟩, lm, fun _ H' kp hwx => ⟨rfl, q x H' (s2.trans (mk_end hx hdx ne kp)) hwx⟩, fun nv => absurd v nv⟩
end
end Wy
set_option Elab.async false
set_option linter.all false
set_option maxRecDepth 100000
set_option maxHeartbeats 0
namespace Wy
open PySem PySem.Spec PyProof.Rows L2 StX
theorem FeedAt.nr {H : Hp} {f a : Addr} {as : List Addr} (h : FeedAt H f) (e : H a = some (.lst (as.map V.ref))) : f ≠ a := fun z => by
  obtain ⟨c, s, n, ef⟩ := h
  rw [z, e] at ef
  have e2 := HO.lst.inj (Option.some.inj ef)
  cases as with
  | nil => cases e2
  | cons x r =>
    have e3 := List.head_eq_of_cons_eq e2
    cases e3
theorem FeedAt.ni {H : Hp} {f a C dx : Addr} {fs : List (Str × V)} (h : FeedAt H f) (e : H a = some (.ins C dx fs)) : f ≠ a := fun z => by
  obtain ⟨c, s, n, ef⟩ := h
  rw [z, e] at ef
  cases ef
theorem ne_no {a b : V} (h : a = b) : (!decide (a = b)) = false := by rw [decide_eq_true h]; rfl
theorem dec_no {p : Prop} {d : Decidable p} (h : p) : (!@decide p d) = false := by rw [decide_eq_true h]; rfl
theorem paired_drop {α β : Type} {R : α → β → Prop} : ∀ (n : Nat) {as : List α} {bs : List β}, Paired R as bs → Paired R (as.drop n) (bs.drop n)
  | 0, _, _, h => h
  | _ + 1, _, _, .nil => .nil
  | n + 1, _, _, .cons _ t => paired_drop n t
def WebL (K : PySem.W.Frag) (H : Hp) (a : Addr) (ws : List Wb) : Prop := ∃ as, H a = some (.lst (as.map V.ref)) ∧ Paired (WebAt K H) as ws
theorem atI_last2 {α : Type} (xs : List α) (u v : α) : atI (xs ++ [u] ++ [v]) (-2) = some u := by
  have hl : (xs ++ [u] ++ [v]).length = xs.length + 2 := by simp
  have e : ixN (xs ++ [u] ++ [v]).length (-2) = some xs.length := by
    unfold ixN
    rw [hl, if_neg (by decide), if_pos (by omega)]
    congr 1
    omega
  unfold atI
  rw [e]
  simp
theorem apply_txt {W w' : Wb} {c : Chg} (v : Valid W) (h : apply W c = some w') : c.txt := by
  obtain ⟨v', _, _⟩ := apply_valid h
  have e := apply_raw h
  cases c with
  | tie t => exact valid_ties v' t (by rw [e]; exact List.mem_append_right _ (List.mem_singleton.mpr rfl))
  | cut n =>
    by_cases m : n ∈ names W
    · exact strOk_name (v.ties.1 n m)
    · cases (if_neg m).symm.trans h
  | change n lo hi =>
    by_cases m : n ∈ names W ∧ 0 ≤ lo ∧ lo ≤ hi
    · exact strOk_name (v.ties.1 n m.1)
    · cases (if_neg m).symm.trans h
  | post n => exact valid_posts v' n (by rw [e]; exact List.mem_append_right _ (List.mem_singleton.mpr rfl))
theorem Ok.txt {n : Nat} {w0 : Wb} {st : Kst} (ok : Ok n w0 st) : ∀ c ∈ logOf st, c.txt := by
  intro c hc
  obtain ⟨i, hi, e⟩ := List.getElem_of_mem hc
  have e2 : (logOf st)[i]? = some c := by rw [List.getElem?_eq_getElem hi, e]
  obtain ⟨_, w', ea, _⟩ := plays_at ok.run e2
  exact apply_txt ((ok.base.ok.plays (cs := (logOf st).take i) fun c hc => ok.c c (List.mem_of_mem_take hc)).now.v) ea
section
variable {P : Program} {w : World} {K : PySem.W.Frag} {mg : Str → Option Value} {base : Heap}
theorem sc_L_stands_right : FnScope ["_law_feed_here", "_law_start", "_law_keeper", "_law_webs", "_law_log", "_law_again", "_law_part", "_law_desk", "_law_row"] ["_law_feed_here", "_law_start", "_law_keeper", "_law_webs"] (defScope s_L_stands_right) := ⟨rfl, rfl, rfl, by decide +kernel, rfl, by decide +kernel, by decide +kernel⟩
def sp_L_stands_right (K : PySem.W.Frag) : Sp := fun vs H Q _ => ∃ (f sa k p wl : Addr) (w0 : Wb) (st : Kst), vs = [.ref f, .ref sa, .ref k, .ref wl] ∧ FeedAt H f ∧ WebAt K H sa w0 ∧ KeepAt K H k p st ∧ WebL K H wl (webs st) ∧ Ok 90 w0 st ∧
  ∀ H', Ch K (fun b => b = f) H H' → FeedAt H' f → Q (.bl true) H'
theorem ok_L_stands_right (T : W0 P w K mg) : GFn P w K mg base 14 "_law_stands_right" (sp_L_stands_right K) := by
  obtain ⟨fd, F⟩ := T.d_L_stands_right
  refine ⟨T.g_L_stands_right, F.kp, F.frT sc_L_stands_right (by decide +kernel) (by decide) (fun _ _ _ _ _ _ us hl => match us, hl with | [_, _, _, _], _ => rfl) (fun vs H Q E h => by first | (obtain ⟨rfl, _⟩ := h; rfl) | (obtain ⟨_, rfl, _⟩ := h; rfl) | (obtain ⟨_, _, rfl, _⟩ := h; rfl) | (obtain ⟨_, _, _, rfl, _⟩ := h; rfl) | (obtain ⟨_, _, _, _, rfl, _⟩ := h; rfl) | (obtain ⟨_, _, _, _, _, rfl, _⟩ := h; rfl) | (obtain ⟨_, _, _, _, _, _, rfl, _⟩ := h; rfl) | (obtain ⟨_, _, _, _, _, _, _, rfl, _⟩ := h; rfl) | (obtain ⟨_, _, _, _, _, _, _, _, rfl, _⟩ := h; rfl) | (obtain ⟨_, _, _, _, _, _, _, _, _, rfl, _⟩ := h; rfl)) fun cdv A outer s H vs Q E hr h => ⟨_, (psst_cons (PST.of (ps_set (i := 4) sc_L_stands_right.nd rfl (Or.inl rfl) (eMeth0 (ok_Keeper_log T) T.c_Keeper (hr.mono (by decide)) passL (pv 2)))) (psst_cons (PST.of (ps_if (PW.pt (pw_or (pt_cmpR op_ne (pe_callB call_len_seq (by rfl) T.f_len PySem.boot_len (pa_cons (pv 4) pa_nil)) (pe_op op_sub (pe_callB call_len_seq (by rfl) T.f_len PySem.boot_len (pa_cons (pv 3) pa_nil)) pe_int) (nomark _)) (pw_or (pt_cmpR (oNeO (ok_Web_eq T) T.ne_Web (hr.mono (by decide)) passL) (eMeth0 (ok_Keeper_web T) T.c_Keeper (hr.mono (by decide)) passL (pv 2)) (pe_ix (kIxL (K := K) rfl) (pv 3) (pe_un un_neg pe_int) (fun _ _ => rfl)) (nomark _)) (pw_or1 (pt_cmpR op_ne (pe_callB (cLenO (ok_Keeper_len T) (hr.mono (by decide)) passL) (by rfl) T.f_len PySem.boot_len (pa_cons (pv 2) pa_nil)) (pe_callB (cLenO (ok_Web_len T) (hr.mono (by decide)) passL) (by rfl) T.f_len PySem.boot_len (pa_cons (pe_ix (kIxL (K := K) rfl) (pv 3) (pe_un un_neg pe_int) (fun _ _ => rfl)) pa_nil)) (nomark _)))))) (pss_one (ps_ret pe_bl)) pss_nil)) (psst_cut (PST.of (ps_if (pt_cmpR (oNeO (ok_Web_eq T) T.ne_Web (hr.mono (by decide)) passL) (eCall (ok_L_by_log T) (hr.mono (by decide)) passL (by rfl) (pa_cons (pv 1) (pa_cons (pv 4) pa_nil))) (pe_ix (kIxL (K := K) rfl) (pv 3) (pe_un un_neg pe_int) (fun _ _ => rfl)) (nomark _)) (pss_one (ps_ret pe_bl)) pss_nil)) (psst_cons (PST.of (ps_expr (pe_bm PySem.F.plainAttrs_list PySem.F.slot_list_append PySem.F.type_list_append mt_append (eMeth0 (ok_Keeper_log T) T.c_Keeper (hr.mono (by decide)) passL (pv 2)) (pa_cons (pe_tup (pa_cons pe_str (pa_cons pe_str pa_nil))) pa_nil)))) (psst_cut (PST.of (ps_if (pt_cmpR (kNeD (K := K) rfl hr.units) (eMeth0 (ok_Keeper_log T) T.c_Keeper (hr.mono (by decide)) passL (pv 2)) (pv 4) (nomark _)) (pss_one (ps_ret pe_bl)) pss_nil)) (psst_cons (PST.of (ps_par (i := 5) (j := 6) (by rfl) sc_L_stands_right.nd rfl rfl (by decide) rfl rfl (pa_cons (eMake (ok_Keeper_init T) (hr.mono (by decide)) passL (by rfl) (pa_cons (pv 1) pa_nil)) (pa_cons (eCall (ok_L_take T) (hr.mono (by decide)) passL (by rfl) (pa_cons (pv 0) (pa_cons (pe_op op_add (pe_callB call_len_seq (by rfl) T.f_len PySem.boot_len (pa_cons (pv 4) pa_nil)) pe_int) pa_nil))) pa_nil)) (by rfl))) (psst_cons (PST.of (ps_if (PW.pt (pw_or (pt_cmpR op_ne (eMeth (ok_Keeper_several T true) T.c_Keeper (hr.mono (by decide)) (passes_call (takes_of rfl rfl rfl rfl) (fun _ _ _ _ h => h)) (pv 5) (pa_cons (pe_callTy call_tuple_of (by rfl) T.f_tuple (by decide +kernel) (pa_cons (pe_slice sl_list (pv 4) po_none (po_some (pv 6))) pa_nil)) pa_nil)) (pv 6) (nomark _)) (pw_or1 (pt_cmpR op_ne (eMeth (ok_Keeper_several T false) T.c_Keeper (hr.mono (by decide)) (passes_call (takes_of rfl rfl rfl rfl) (fun _ _ _ _ h => h)) (pv 5) (pa_cons (pe_slice sl_list (pv 4) (po_some (pv 6)) po_none) pa_nil)) (pe_op op_sub (pe_callB call_len_seq (by rfl) T.f_len PySem.boot_len (pa_cons (pv 4) pa_nil)) (pv 6)) (nomark _))))) (pss_one (ps_ret pe_bl)) pss_nil)) (psst_cut (PST.of (ps_if (PW.pt (pw_or (pt_cmpR (oNeO (ok_Keeper_eq T) T.ne_Keeper (hr.mono (by decide)) passL) (pv 5) (pv 2) (nomark _)) (pw_or (pt_cmpR (kNeD (K := K) rfl hr.units) (eMeth0 (ok_Keeper_log T) T.c_Keeper (hr.mono (by decide)) passL (pv 5)) (pv 4) (nomark _)) (pw_or1 (pt_cmpR op_ne (pe_callB (cReprO (ok_Keeper_repr T) (hr.mono (by decide)) passL) (by rfl) T.f_repr (by decide +kernel) (pa_cons (pv 5) pa_nil)) (pe_callB (cReprO (ok_Keeper_repr T) (hr.mono (by decide)) passL) (by rfl) T.f_repr (by decide +kernel) (pa_cons (pv 2) pa_nil)) (nomark _)))))) (pss_one (ps_ret pe_bl)) pss_nil)) (psst_cut (PST.of (ps_if (pt_cmpR (oNeO (ok_Web_eq T) T.ne_Web (hr.mono (by decide)) passL) (ClX.pe_cmeth (pe_glob (v := .ref (He.ga K "Web")) (by rfl) T.g_Web rfl) T.cr_Web T.cm_Web (ok_Web_read T) (hr.mono (by decide)) passL (pa_cons (pe_callTy (cStrO (ok_Web_str T) (hr.mono (by decide)) passL) (by rfl) T.f_str (by decide +kernel) (pa_cons (eMeth0 (ok_Keeper_web T) T.c_Keeper (hr.mono (by decide)) passL (pv 2)) pa_nil)) pa_nil)) (pe_ix (kIxL (K := K) rfl) (pv 3) (pe_un un_neg pe_int) (fun _ _ => rfl)) (nomark _)) (pss_one (ps_ret pe_bl)) pss_nil)) (psst_cut (PST.of (ps_if (pt_cmpR (kNeD (K := K) rfl hr.units) (pv 4) (pe_lst pa_nil) (nomark _)) (pss_cons (ps_expr (eMeth0 (ok_Keeper_undo T) T.c_Keeper (hr.mono (by decide)) passL (pv 5))) (pss_one (ps_if (PW.pt (pw_or (pt_cmpR (oNeO (ok_Web_eq T) T.ne_Web (hr.mono (by decide)) passL) (eMeth0 (ok_Keeper_web T) T.c_Keeper (hr.mono (by decide)) passL (pv 5)) (pe_ix (kIxL (K := K) rfl) (pv 3) (pe_un un_neg pe_int) (fun _ _ => rfl)) (nomark _)) (pw_or (pt_not (pt_val (eCall (ok_L_done T) (hr.mono (by decide)) passL (by rfl) (pa_cons (pv 5) (pa_cons (pe_ix (kIxL (K := K) rfl) (pv 4) (pe_un un_neg pe_int) (fun _ _ => rfl)) pa_nil))))) (pw_or (pt_cmpR (oNeO (ok_Keeper_eq T) T.ne_Keeper (hr.mono (by decide)) passL) (pv 5) (pv 2) (nomark _)) (pw_or1 (pt_cmpR (kNeD (K := K) rfl hr.units) (eMeth0 (ok_Keeper_log T) T.c_Keeper (hr.mono (by decide)) passL (pv 5)) (pv 4) (nomark _))))))) (pss_one (ps_ret pe_bl)) pss_nil))) pss_nil)) (psst_cons (PST.of (ps_set (i := 7) sc_L_stands_right.nd rfl (Or.inl rfl) (eMake0 (ok_Desk_init T) (hr.mono (by decide)) passL (by rfl)))) (psst_cut (PST.of (ps_for (passes_of rfl) rfl (pi_list (pe_split (pe_callTy (cStrO (ok_Web_str T) (hr.mono (by decide)) passL) (by rfl) T.f_str (by decide +kernel) (pa_cons (pe_ix (kIxL (K := K) rfl) (pv 3) (pe_un un_neg pe_int) (fun _ _ => rfl)) pa_nil)) pe_str)) (pg_name (i := 8) sc_L_stands_right.nd rfl (Or.inl rfl)) (pss_one (ps_expr (eMeth (ok_Desk_say T) T.c_Desk (hr.mono (by decide)) passL (pv 7) (pa_cons (pv 8) pa_nil)))))) (CwR.psst_one (CwR.pst_ret (pet_and (pet_cmp op_eq (eMeth (ok_Desk_say T) T.c_Desk (hr.mono (by decide)) passL (pv 7) (pa_cons pe_str pa_nil)) (CwR.pet_replC (pe_callTy (cStrO (ok_Web_str T) (hr.mono (by decide)) passL) (by rfl) T.f_str (by decide +kernel) (pa_cons (pe_ix (kIxL (K := K) rfl) (pv 3) (pe_un un_neg pe_int) (fun _ _ => rfl)) pa_nil))) (nomark _)) (pe_one (pe_cmpR op_eq (pe_callB (cLenO (ok_Desk_len T) (hr.mono (by decide)) passL) (by rfl) T.f_len PySem.boot_len (pa_cons (pv 7) pa_nil)) (pe_callB (cLenO (ok_Keeper_len T) (hr.mono (by decide)) passL) (by rfl) T.f_len PySem.boot_len (pa_cons (pv 2) pa_nil)) (nomark _)))))))))))))))))), ?_⟩⟩
  obtain ⟨f, sa, k, p, wl, w0, st, rfl, hF, hw0, hk, ⟨aw, ew, hw⟩, ok, q⟩ := h
  obtain ⟨dk, wa0, ra0, ek, hwk⟩ := hk.web
  have now := ok.now
  have ne : aw ≠ [] := fun e => by
    rw [e] at hw
    have := paired_len hw
    simp [webs] at this
  obtain ⟨aw', xl, rfl⟩ : ∃ aw' xl, aw = aw' ++ [xl] := ⟨aw.dropLast, aw.getLast ne, (List.dropLast_concat_getLast ne).symm⟩
  obtain ⟨ws', wlast, eW, pW, hxl⟩ := paired_snoc hw
  obtain ⟨eW1, eW2⟩ := List.append_inj' eW rfl
  have eW3 : st.1 = wlast := List.head_eq_of_cons_eq eW2
  subst eW3
  have law' : aw'.length = st.2.length := by
    rw [paired_len pW, ← eW1, List.length_map]
  have logl : (logOf st).length = st.2.length := by unfold logOf; rw [List.length_map]
  have stl := ok.l
  have lastI : atI ((aw' ++ [xl]).map V.ref) (-1) = some (.ref xl) := by
    rw [List.map_append]
    exact atI_last _ _
  have fk : f ≠ k := hF.ni ek
  have fp : f ≠ p := by
    obtain ⟨_, _, _, _, _, _, _, ep, _⟩ := id hk
    exact hF.nr ep
  have fw : f ≠ wl := hF.nr ew
  have KK : ∀ H', Ch K (fun b => b = f) H H' → KeepAt K H' k p st := fun H' c => hk.ch c (Ne.symm fk) (Ne.symm fp)
  have EK : ∀ H', Ch K (fun b => b = f) H H' → H' k = _ := fun H' c => c.at ek (Ne.symm fk)
  have WL : ∀ H', Ch K (fun b => b = f) H H' → H' wl = some (.lst ((aw' ++ [xl]).map V.ref)) := fun H' c => c.at ew (Ne.symm fw)
  have XL : ∀ H', Ch K (fun b => b = f) H H' → WebAt K H' xl st.1 := fun H' c => hxl.im c.im
  have Z0 : ∀ H', Ch K (fun b => b = f) H H' → WebAt K H' sa w0 := fun H' c => hw0.im c.im
  have nt := now.t
  have np := now.p
  refine ⟨_, rfl, k, dk, _, rfl, ek, rfl, k, p, st, rfl, hk, by omega, fun H1 lg cl s1 lgn e1 pcl => ?_⟩
  have c1 : Ch K (fun b => b = f) H H1 := Same.ch s1
  have cll : cl.length = st.2.length := by rw [paired_len pcl, List.length_map]
  obtain ⟨dxl, _, _, exl, _⟩ := id (XL H1 c1)
  have lgn' : lg ≠ f := fun e => by
    obtain ⟨_, _, _, ef⟩ := hF
    rw [e, ef] at lgn
    cases lgn
  refine ⟨_, rfl, lg, _, rfl, .inl (SqL.of e1), _, rfl, wl, _, rfl, .inl (SqL.of (WL H1 c1)), _, _, rfl, rfl, rfl, _, rfl, iteN (ne_no (congrArg V.int ?_)) ?_⟩
  · simp
    omega
  refine ⟨_, rfl, k, dk, _, rfl, EK H1 c1, rfl, k, p, st, rfl, KK H1 c1, fun wa hwa => ?_⟩
  obtain ⟨dwa, _, _, ewa, _⟩ := id hwa
  refine ⟨_, rfl, 1, rfl, wl, _, _, _, rfl, rfl, SqL.of (WL H1 c1), lastI, wa, dwa, _, xl, dxl, _, rfl, rfl, ewa, exl, wa, xl, st.1, st.1, rfl, hwa, XL H1 c1, now.v, now.v, _, rfl, _, rfl, iteN (dec_no rfl) ?_⟩
  refine ⟨_, rfl, k, dk, _, rfl, EK H1 c1, k, p, st, rfl, KK H1 c1, by omega, _, rfl, by omega, _, rfl, 1, rfl, wl, _, _, _, rfl, rfl, SqL.of (WL H1 c1), lastI, xl, dxl, _, rfl, exl, xl, st.1, rfl, XL H1 c1, _, rfl, by omega, rfl, _, rfl, iteN (ne_no rfl) ?_⟩
  refine ⟨fun σ H' => σ = [some (.ref f), some (.ref sa), some (.ref k), some (.ref wl), some (.ref lg), none, none, none, none] ∧ Same H1 H', ?_, ?_⟩
  · have hraw : (logOf st).foldl raw w0 = st.1 := ok.run.raw
    refine ⟨_, rfl, _, rfl, sa, lg, w0, logOf st, rfl, Z0 H1 c1, ⟨cl, e1, pcl⟩, by omega, (by have := ok.base.p; omega), (by have := ok.base.t; omega), by rw [hraw]; exact now.v, by rw [hraw]; exact (ok.fit.lim9 (by omega)).lim, fun x H2 s2 hx => ?_⟩
    rw [hraw] at hx
    obtain ⟨dx, _, _, ex, _⟩ := id hx
    have c2 := c1.trans (Same.ch s2)
    exact ⟨_, rfl, 1, rfl, wl, _, _, _, rfl, rfl, SqL.of (WL H2 c2), lastI, x, dx, _, xl, dxl, _, rfl, rfl, ex, s2 _ _ exl, x, xl, st.1, st.1, rfl, hx, XL H2 c2, now.v, now.v, _, rfl, _, rfl, iteN (dec_no rfl) ⟨rfl, s2⟩⟩
  rintro σ2 H2 ⟨rfl, s2⟩
  have c2 := c1.trans (Same.ch s2)
  have e1' := s2 _ _ e1
  have pcl' : Paired (ChgAt H2) cl (logOf st) := Paired.mapP pcl fun _ _ z => ChgAt.im (K := K) z (Same.im s2)
  refine ⟨_, rfl, k, dk, _, rfl, EK H2 c2, rfl, k, p, st, rfl, KK H2 c2, by omega, fun H3 l3 cl3 s3 l3n e3 pcl3 => ⟨.inl ⟨rfl, _, SqL.of e3⟩, (by show 2 ≤ sizeLine; decide), fun u hu => ?_⟩⟩
  have s4 := same_upd (o := .tup [V.str ("post" : Str), V.str ("x" : Str)]) hu
  have cl3l : cl3.length = st.2.length := by rw [paired_len pcl3, List.length_map]
  refine ⟨l3, _, _, rfl, rfl, s4 _ _ e3, lt_size (by rw [List.length_map]; omega), ?_⟩
  have s5 : Same H2 (upd (upd H3 u (.tup [V.str ("post" : Str), V.str ("x" : Str)])) l3 (.lst (cl3.map V.ref ++ [.ref u]))) := fun c o e => by
    rw [upd_ne (ne_of_none e l3n)]
    exact s4 _ _ (s3 _ _ e)
  generalize upd (upd H3 u (.tup [V.str ("post" : Str), V.str ("x" : Str)])) l3 (.lst (cl3.map V.ref ++ [.ref u])) = H4 at s5 ⊢
  have c4 := c2.trans (Same.ch s5)
  have e4 := s5 _ _ e1'
  have pcl4 : Paired (ChgAt H4) cl (logOf st) := Paired.mapP pcl' fun _ _ z => ChgAt.im (K := K) z (Same.im s5)
  have sh := sh_log ok.txt
  have eqv := eqv_log_self ok.txt
  refine ⟨fun σ H' => σ = [some (.ref f), some (.ref sa), some (.ref k), some (.ref wl), some (.ref lg), none, none, none, none] ∧ Same H4 H', ?_, ?_⟩
  · refine ⟨_, rfl, k, dk, _, rfl, EK H4 c4, rfl, k, p, st, rfl, KK H4 c4, by omega, fun H5 l5 cl5 s6 l5n e5 pcl5 => ?_⟩
    exact ⟨_, rfl, dLog (logOf st), dLog (logOf st), dp_log e5 pcl5, dp_log (s6 _ _ e4) (Paired.mapP pcl4 fun _ _ z => ChgAt.im (K := K) z (Same.im s6)), sh, sh, _, rfl, iteN (by rw [eqv]; rfl) ⟨rfl, s6⟩⟩
  rintro σ5 H5 ⟨rfl, s6⟩
  have c5 := c4.trans (Same.ch s6)
  have e5 := s6 _ _ e4
  have pcl5 : Paired (ChgAt H5) cl (logOf st) := Paired.mapP pcl4 fun _ _ z => ChgAt.im (K := K) z (Same.im s6)
  clear pcl pcl' pcl3 pcl4 e1 e1' e3 e4
  refine ⟨_, rfl, fun k2 dk2 hk2 hdk2 ne2 => ?_⟩
  have s7 := mk_same (o := .own k2) (u := .ins (He.ga K "Keeper") dk2 []) hk2 hdk2 ne2
  refine ⟨k2, sa, dk2, w0, rfl, upd_same, (Z0 H5 c5).im (Same.im s7), fun H6 p2 kp hp2 keep2 => ⟨rfl, ?_⟩⟩
  have s8 := mk_end hk2 hdk2 ne2 kp
  have c6 := c5.trans (Same.ch s8)
  have e6 := s8 _ _ e5
  have sH5 : Same H H5 := ((s1.trans s2).trans s5).trans s6
  have sH6 : Same H H6 := sH5.trans s8
  have k2n : H k2 = none := Same.none sH5 hk2
  have p2n : H p2 = none := Same.none sH5 (Same.none s7 hp2)
  have lg2 : lg ≠ k2 := fun e => by rw [e, hk2] at e5; cases e5
  have lp2 : lg ≠ p2 := fun e => by
    have z := Same.none s7 hp2
    rw [← e, e5] at z
    cases z
  have k2f : k2 ≠ f := fun e => by
    obtain ⟨_, _, _, ef⟩ := hF
    rw [e, ef] at k2n
    cases k2n
  have p2f : p2 ≠ f := fun e => by
    obtain ⟨_, _, _, ef⟩ := hF
    rw [e, ef] at p2n
    cases p2n
  have logN : (logOf st).length ≤ 90 := by omega
  refine ⟨_, rfl, _, rfl, lg, _, rfl, .inl (SqL.of e6), _, _, rfl, rfl, f, _, rfl, hF.same sH6, by omega, (by rw [List.length_map]; omega), fun H7 part c7 hF7 r0 r1 => ⟨_, _, rfl, ?_⟩⟩
  obtain ⟨part, rfl⟩ := Int.eq_ofNat_of_zero_le r0
  have partl : part ≤ (logOf st).length := by
    rw [List.length_map] at r1
    omega
  have C7 := c6.trans c7
  have e7 := c7.at e6 lgn'
  have pcl7 : Paired (ChgAt H7) cl (logOf st) := Paired.mapP pcl5 fun _ _ z => ChgAt.im (K := K) (ChgAt.im (K := K) z (Same.im s8)) c7.im
  have keep7 := keep2.ch c7 k2f p2f
  obtain ⟨dk7, _, _, ek7, _⟩ := keep7.web
  have run : plays (w0, []) ((logOf st).take part ++ (logOf st).drop part) = (st, ((logOf st).take part ++ (logOf st).drop part).length) := by
    rw [List.take_append_drop]
    exact ok.run
  obtain ⟨sm1, run1, run2⟩ := plays_split run
  have tkl : ((logOf st).take part).length = part := by rw [List.length_take]; omega
  refine ⟨_, rfl, k2, dk7, _, rfl, ek7, rfl, _, rfl, _, rfl, _, rfl, lg, _, rfl, SqL.of e7, fun ls hls => ?_⟩
  have s9 := same_upd (o := .lst (cutV (cl.map V.ref) none (some (part : Int)))) hls
  refine ⟨ls, _, rfl, .inl ⟨SqL.of upd_same, fun lt hlt => ?_⟩⟩
  have s10 := s9.trans (same_upd (o := .tup (cutV (cl.map V.ref) none (some (part : Int)))) hlt)
  have ect : cutV (cl.map V.ref) none (some (part : Int)) = (cl.take part).map V.ref := by rw [cutV_take, List.map_take]
  have elt : (upd (upd H7 ls (.lst (cutV (cl.map V.ref) none (some (part : Int))))) lt (.tup (cutV (cl.map V.ref) none (some (part : Int))))) lt = some (.tup ((cl.take part).map V.ref)) := upd_same.trans (by rw [ect])
  generalize (upd (upd H7 ls (.lst (cutV (cl.map V.ref) none (some (part : Int))))) lt (.tup (cutV (cl.map V.ref) none (some (part : Int))))) = H8 at s10 elt ⊢
  have C8 := C7.trans (Same.ch s10)
  have pcl8 : Paired (ChgAt H8) cl (logOf st) := Paired.mapP pcl7 fun _ _ z => ChgAt.im (K := K) z (Same.im s10)
  have e8 := s10 _ _ e7
  have keep8 := keep7.same s10
  have ltp : lt ≠ p2 := by
    obtain ⟨_, _, _, _, _, _, _, ep8, _⟩ := id keep8
    exact ne_of elt ep8 (by intro z; cases z)
  have okb := ok.base
  have limT : ∀ c ∈ (logOf st).take part, c.lim := fun c hc => (ok.c c (List.mem_of_mem_take hc)).1
  have limD : ∀ c ∈ (logOf st).drop part, c.lim := fun c hc => (ok.c c (List.mem_of_mem_drop hc)).1
  refine ⟨k2, p2, lt, (w0, []), (logOf st).take part, 90, true, rfl, ⟨cl.take part, elt, paired_take part pcl8⟩, keep8, okb.fit, by omega, limT, ltp, fun _ H9 c9 keep9 => ?_, fun z => absurd z (by rw [run1]; exact Nat.lt_irrefl _)⟩
  rw [run1] at keep9
  refine ⟨_, rfl, rfl, _, rfl, iteN (ne_no (congrArg V.int (by rw [tkl]))) ?_⟩
  have cf : ∀ {Ha Hb : Hp}, Ch K (fun b => b = f) H Ha → Ch K (fun b => b = k2 ∨ b = p2) Ha Hb → Ch K (fun b => b = f) H Hb := fun ca cb => ((ca.mono (S' := fun b => b = f ∨ b = k2 ∨ b = p2) fun b h => .inl h).trans (cb.mono fun b h => .inr h)).fresh fun b h => by
    rcases h with e | e | e
    · exact .inl e
    · exact .inr (by rw [e]; exact k2n)
    · exact .inr (by rw [e]; exact p2n)
  have C9 := cf C8 c9
  have off2 : ∀ {Ha Hb : Hp} {o : HO}, Ch K (fun b => b = k2 ∨ b = p2) Ha Hb → Ha lg = some o → Hb lg = some o := fun cb e => cb.at e fun z => z.elim lg2 lp2
  have e9 := off2 c9 e8
  have pcl9 : Paired (ChgAt H9) cl (logOf st) := Paired.mapP pcl8 fun _ _ z => ChgAt.im (K := K) z c9.im
  have hF9 : FeedAt H9 f := (hF7.same s10).at c9 fun z => z.elim (fun e => k2f e.symm) fun e => p2f e.symm
  obtain ⟨dk9, _, _, ek9, _⟩ := keep9.web
  refine ⟨_, rfl, k2, dk9, _, rfl, ek9, rfl, _, rfl, _, rfl, _, rfl, lg, _, rfl, SqL.of e9, fun ld hld => ?_⟩
  have s11 := same_upd (o := .lst (cutV (cl.map V.ref) (some (part : Int)) none)) hld
  have ecd : cutV (cl.map V.ref) (some (part : Int)) none = (cl.drop part).map V.ref := by rw [cutV_drop, List.map_drop]
  have eld : (upd H9 ld (.lst (cutV (cl.map V.ref) (some (part : Int)) none))) ld = some (.lst ((cl.drop part).map V.ref)) := upd_same.trans (by rw [ecd])
  generalize (upd H9 ld (.lst (cutV (cl.map V.ref) (some (part : Int)) none))) = H10 at s11 eld ⊢
  have C10 := C9.trans (Same.ch s11)
  have pcl10 : Paired (ChgAt H10) cl (logOf st) := Paired.mapP pcl9 fun _ _ z => ChgAt.im (K := K) z (Same.im s11)
  have keep10 := keep9.same s11
  have ldp : ld ≠ p2 := fun e => by
    obtain ⟨_, _, _, _, _, _, _, ep9, _⟩ := id keep9
    rw [← e, hld] at ep9
    cases ep9
  have fitm : Fit 180 sm1 := by
    have z := (okb.ok.plays (cs := (logOf st).take part) fun c hc => ok.c c (List.mem_of_mem_take hc)).fit
    rw [run1] at z
    exact z.mono (by omega)
  have drl : ((logOf st).drop part).length = (logOf st).length - part := List.length_drop
  refine ⟨k2, p2, ld, sm1, (logOf st).drop part, 180, true, rfl, ⟨cl.drop part, eld, paired_drop part pcl10⟩, keep10, fitm, by omega, limD, ldp, fun _ H11 c11 keep11 => ?_, fun z => absurd z (by rw [run2]; exact Nat.lt_irrefl _)⟩
  rw [run2] at keep11
  have C11 := cf C10 c11
  have e11 := off2 c11 (s11 _ _ e9)
  have pcl11 : Paired (ChgAt H11) cl (logOf st) := Paired.mapP pcl10 fun _ _ z => ChgAt.im (K := K) z c11.im
  have hF11 : FeedAt H11 f := (hF9.same s11).at c11 fun z => z.elim (fun e => k2f e.symm) fun e => p2f e.symm
  refine ⟨_, rfl, lg, _, rfl, .inl (SqL.of e11), _, rfl, _, _, rfl, rfl, rfl, _, rfl, iteN (ne_no (congrArg V.int ?_)) ?_⟩
  · rw [List.length_map, drl, cll, logl]
    omega
  refine ⟨fun σ H' => σ = [some (.ref f), some (.ref sa), some (.ref k), some (.ref wl), some (.ref lg), some (.ref k2), some (.int (part : Int)), none, none] ∧ Same H11 H', ?_, ?_⟩
  · obtain ⟨dk11, _, _, ek11, _⟩ := keep11.web
    refine ⟨_, rfl, _, rfl, k2, dk11, _, k, dk, _, rfl, rfl, ek11, EK H11 C11, k2, p2, k, p, st, st, rfl, keep11, KK H11 C11, now.v, now.v, _, rfl, _, rfl, iteN (dec_no rfl) ?_⟩
    refine ⟨_, rfl, k2, dk11, _, rfl, ek11, rfl, k2, p2, st, rfl, keep11, by omega, fun H12 l12 cl12 s12 l12n e12 pcl12 => ?_⟩
    refine ⟨_, rfl, dLog (logOf st), dLog (logOf st), dp_log e12 pcl12, dp_log (s12 _ _ e11) (Paired.mapP pcl11 fun _ _ z => ChgAt.im (K := K) z (Same.im s12)), sh, sh, _, rfl, iteN (by rw [eqv]; rfl) ?_⟩
    have keep12 := keep11.same s12
    have C12 := C11.trans (Same.ch s12)
    obtain ⟨dk12, _, _, ek12, _⟩ := keep12.web
    refine ⟨_, rfl, k2, dk12, _, rfl, ek12, k2, p2, st, rfl, keep12, by omega, by omega, ?_⟩
    generalize hR : repK st.1 = R
    refine ⟨_, rfl, _, rfl, k, dk, _, rfl, EK H12 C12, k, p, st, rfl, KK H12 C12, by omega, by omega, ?_⟩
    rw [hR]
    exact ⟨_, rfl, rfl, _, rfl, iteN (dec_no rfl) ⟨rfl, s12⟩⟩
  rintro σ12 H12 ⟨rfl, s12⟩
  have C12 := C11.trans (Same.ch s12)
  refine ⟨fun σ H' => σ = [some (.ref f), some (.ref sa), some (.ref k), some (.ref wl), some (.ref lg), some (.ref k2), some (.int (part : Int)), none, none] ∧ Same H12 H', ?_, ?_⟩
  · refine ⟨rfl, _, rfl, k, dk, _, rfl, EK H12 C12, rfl, k, p, st, rfl, KK H12 C12, fun wa hwa => ?_⟩
    obtain ⟨dwa, _, _, ewa, _⟩ := id hwa
    refine ⟨wa, dwa, _, rfl, ewa, wa, st.1, rfl, hwa, now.v, now.s, by omega, by omega, fun H13 s13 => ⟨_, rfl, st.1, rfl, now.v, now.s, by omega, by omega, fun x H14 s14 hx => ?_⟩⟩
    obtain ⟨dx, _, _, ex, _⟩ := id hx
    have s15 := s13.trans s14
    have C14 := C12.trans (Same.ch s15)
    obtain ⟨dxl, _, _, exl, _⟩ := id (XL H14 C14)
    exact ⟨_, rfl, 1, rfl, wl, _, _, _, rfl, rfl, SqL.of (WL H14 C14), lastI, x, dx, _, xl, dxl, _, rfl, rfl, ex, exl, x, xl, st.1, st.1, rfl, hx, XL H14 C14, now.v, now.v, _, rfl, _, rfl, iteN (dec_no rfl) ⟨rfl, s15⟩⟩
  rintro σ13 H13 ⟨rfl, s13⟩
  have s1213 := s12.trans s13
  have C13 := C11.trans (Same.ch s1213)
  have keep13 := keep11.same s1213
  have e13 := s1213 _ _ e11
  have hF13 := hF11.same s1213
  have pcl13 : Paired (ChgAt H13) cl (logOf st) := Paired.mapP pcl11 fun _ _ z => ChgAt.im (K := K) z (Same.im s1213)
  refine ⟨fun σ H' => σ = [some (.ref f), some (.ref sa), some (.ref k), some (.ref wl), some (.ref lg), some (.ref k2), some (.int (part : Int)), none, none] ∧ Ch K (fun b => b = f) H H' ∧ FeedAt H' f, ?_, ?_⟩
  · refine ⟨_, rfl, (by show 0 ≤ sizeLine; decide), fun u hu => ?_⟩
    have s14 := same_upd (o := .lst []) hu
    refine ⟨dLog (logOf st), .list [], dp_log (s14 _ _ e13) (Paired.mapP pcl13 fun _ _ z => ChgAt.im (K := K) z (Same.im s14)), .lst (SqL.of upd_same) .nil, sh, by decide +kernel, _, rfl, iteB (fun e => ?_) fun e => ⟨rfl, C13.trans (Same.ch s14), hF13.same s14⟩⟩
    generalize upd H13 u (.lst []) = H14 at s14 ⊢
    have C14 := C13.trans (Same.ch s14)
    have keep14 := keep13.same s14
    have e14 := s14 _ _ e13
    have hF14 := hF13.same s14
    have pcl14 : Paired (ChgAt H14) cl (logOf st) := Paired.mapP pcl13 fun _ _ z => ChgAt.im (K := K) z (Same.im s14)
    rcases List.eq_nil_or_concat st.2 with en | ⟨ps, ⟨w2, c2⟩, ec⟩
    · exfalso
      revert e
      unfold logOf
      rw [en]
      decide +kernel
    rw [List.concat_eq_append] at ec
    obtain ⟨r1, ra, ru⟩ := ok.run.last ec
    have lgo : logOf st = ps.map (·.2) ++ [c2] := by
      unfold logOf
      rw [ec, List.map_append]
      rfl
    have cne : cl ≠ [] := fun e => by
      rw [e] at pcl14
      have := paired_len pcl14
      rw [lgo] at this
      simp at this
    obtain ⟨cl', cx, rfl⟩ : ∃ cl' cx, cl = cl' ++ [cx] := ⟨cl.dropLast, cl.getLast cne, (List.dropLast_concat_getLast cne).symm⟩
    obtain ⟨bs', bx, eB, pB, hcx⟩ := paired_snoc pcl14
    rw [lgo] at eB
    obtain ⟨_, eB2⟩ := List.append_inj' eB rfl
    have eB3 : c2 = bx := List.head_eq_of_cons_eq eB2
    subst eB3
    have ane : aw' ≠ [] := fun e => by
      rw [e] at law'
      rw [ec] at law'
      simp at law'
    obtain ⟨aw2, x2, rfl⟩ : ∃ aw2 x2, aw' = aw2 ++ [x2] := ⟨aw'.dropLast, aw'.getLast ane, (List.dropLast_concat_getLast ane).symm⟩
    obtain ⟨ws2, wx, eX, pX, hx2⟩ := paired_snoc pW
    have eX1 : ps.map (·.1) ++ [w2] = ws2 ++ [wx] := by
      rw [← eX, ← eW1, ec, List.map_append]
      rfl
    obtain ⟨_, eX2⟩ := List.append_inj' eX1 rfl
    have eX3 : w2 = wx := List.head_eq_of_cons_eq eX2
    subst eX3
    have lastI2 : atI ((aw2 ++ [x2] ++ [xl]).map V.ref) (-2) = some (.ref x2) := by
      rw [List.map_append, List.map_append]
      exact atI_last2 _ _ _
    have lastC : atI ((cl' ++ [cx]).map V.ref) (-1) = some (.ref cx) := by
      rw [List.map_append]
      exact atI_last _ _
    have oku := ok.undo
    rw [ru] at oku
    have vw := oku.now.v
    obtain ⟨dk14, _, _, ek14, _⟩ := keep14.web
    refine ⟨_, rfl, k2, dk14, _, rfl, ek14, rfl, k2, p2, st, rfl, keep14, fun H15 c15 keep15 => ?_⟩
    rw [ru] at keep15
    have C15 := cf C14 c15
    have e15 := off2 c15 e14
    have hF15 : FeedAt H15 f := hF14.at c15 fun z => z.elim (fun e => k2f e.symm) fun e => p2f e.symm
    obtain ⟨dk15, _, _, ek15, _⟩ := keep15.web
    have hx15 : WebAt K H15 x2 w2 := hx2.im C15.im
    obtain ⟨dx2, _, _, ex2, _⟩ := id hx15
    refine ⟨_, rfl, k2, dk15, _, rfl, ek15, rfl, k2, p2, (w2, ps), rfl, keep15, fun wa hwa => ?_⟩
    obtain ⟨dwa, _, _, ewa, _⟩ := id hwa
    refine ⟨_, rfl, 2, rfl, wl, _, _, _, rfl, rfl, SqL.of (WL H15 C15), lastI2, wa, dwa, _, x2, dx2, _, rfl, rfl, ewa, ex2, wa, x2, w2, w2, rfl, hwa, hx15, vw, vw, _, rfl, _, rfl, iteN (dec_no rfl) ?_⟩
    have hcx15 : ChgAt H15 cx c2 := hcx.im c15.im
    refine ⟨_, rfl, _, rfl, 1, rfl, lg, _, _, _, rfl, rfl, SqL.of e15, lastC, k2, p2, cx, (w2, ps), c2, rfl, hcx15, keep15, oku.fit.mono (by omega), (ok.c c2 (by rw [lgo]; exact List.mem_append_right _ (List.mem_singleton.mpr rfl))).1, fun w' ew' H16 c16 keep16 => ⟨_, rfl, iteN rfl ?_⟩, fun en => absurd (ra.symm.trans en) (by simp)⟩
    have ew2 : w' = st.1 := Option.some.inj (ew'.symm.trans ra)
    have est : (w', ps ++ [(w2, c2)]) = st := Prod.ext ew2 ec.symm
    rw [show ((w', (w2, ps).2 ++ [((w2, ps).1, c2)]) : Kst) = st from est] at keep16
    have C16 := cf C15 c16
    have e16 := off2 c16 e15
    have hF16 : FeedAt H16 f := hF15.at c16 fun z => z.elim (fun e => k2f e.symm) fun e => p2f e.symm
    have pcl16 : Paired (ChgAt H16) (cl' ++ [cx]) (logOf st) := Paired.mapP pcl14 fun _ _ z => ChgAt.im (K := K) (ChgAt.im (K := K) z c15.im) c16.im
    obtain ⟨dk16, _, _, ek16, _⟩ := keep16.web
    refine ⟨_, rfl, _, rfl, k2, dk16, _, k, dk, _, rfl, rfl, ek16, EK H16 C16, k2, p2, k, p, st, st, rfl, keep16, KK H16 C16, now.v, now.v, _, rfl, _, rfl, iteN (dec_no rfl) ?_⟩
    refine ⟨_, rfl, k2, dk16, _, rfl, ek16, rfl, k2, p2, st, rfl, keep16, by omega, fun H17 l17 cl17 s17 l17n e17 pcl17 => ?_⟩
    exact ⟨_, rfl, dLog (logOf st), dLog (logOf st), dp_log e17 pcl17, dp_log (s17 _ _ e16) (Paired.mapP pcl16 fun _ _ z => ChgAt.im (K := K) z (Same.im s17)), sh, sh, _, rfl, iteN (by rw [eqv]; rfl) ⟨rfl, C16.trans (Same.ch s17), hF16.same s17⟩⟩
  rintro σ17 H17 ⟨rfl, C17, hF17⟩
  clear pcl13 pcl11 pcl10 pcl9 pcl8 pcl7 pcl5
  refine fun d dd hd hdd ned => ⟨d, dd, rfl, upd_same, fun H18 kp18 ed18 => ⟨rfl, ?_⟩⟩
  have s18 := mk_end hd hdd ned kp18
  have C18 := C17.trans (Same.ch s18)
  have hF18 := hF17.same s18
  have df : d ≠ f := fun e => by
    obtain ⟨_, _, _, ef⟩ := hF17
    rw [← e, hd] at ef
    cases ef
  have dnH : H d = none := by
    cases z : H d with
    | none => rfl
    | some o =>
      have := C17.at z df
      rw [hd] at this
      cases this
  have small := now.s
  have wlen := web_len now.v small (by omega) (by omega)
  refine ⟨fun σ H' => (∃ o8, σ = [some (.ref f), some (.ref sa), some (.ref k), some (.ref wl), some (.ref lg), some (.ref k2), some (.int (part : Int)), some (.ref d), o8]) ∧ Ch K (fun b => b = f) H H' ∧ FeedAt H' f ∧ ∃ k3 p3 st3, DeskAt K H' d k3 ∧ KeepAt K H' k3 p3 st3 ∧ st3.1 = st.1, ?_, ?_⟩
  · obtain ⟨dxl, _, _, exl, _⟩ := id (XL H18 C18)
    refine ⟨_, rfl, 1, rfl, wl, _, _, _, rfl, rfl, SqL.of (WL H18 C18), lastI, xl, dxl, _, rfl, exl, xl, st.1, rfl, XL H18 C18, now.v, small, by omega, by omega, fun H19 s19 => ⟨_, rfl, ⟨_, rfl⟩, _, _, rfl, rfl, by decide +kernel, Nat.le_trans (Nat.add_le_add_right wlen 2) (by decide), fun rl hrl => ?_⟩⟩
    have s20 := same_upd (o := .lst ((Txt.split (webS st.1) "\n").map V.str)) hrl
    have erl : (upd H19 rl (.lst ((Txt.split (webS st.1) "\n").map V.str))) rl = some (.lst ((rowsOf st.1).map V.str)) := upd_same.trans (by rw [web_split now.v small])
    generalize (upd H19 rl (.lst ((Txt.split (webS st.1) "\n").map V.str))) = H20 at s20 erl ⊢
    have s1820 := s19.trans s20
    have C20 := C18.trans (Same.ch s1820)
    have rlf : rl ≠ f := fun e => by
      obtain ⟨_, _, _, ef⟩ := hF18.same s19
      rw [← e, hrl] at ef
      cases ef
    refine ⟨rl, rfl, ⟨_, SqL.of erl⟩, ?_⟩
    refine for_list (xs := (rowsOf st.1).map V.str) (fun i σ H' => (∃ o8, σ = [some (.ref f), some (.ref sa), some (.ref k), some (.ref wl), some (.ref lg), some (.ref k2), some (.int (part : Int)), some (.ref d), o8]) ∧ Ch K (fun b => b = f) H H' ∧ FeedAt H' f ∧ H' rl = some (.lst ((rowsOf st.1).map V.str)) ∧
        ((i = 0 ∧ ∃ dx, H' d = some (.ins (He.ga K "Desk") dx [("keeper", .non)])) ∨ (∃ k3 p3 st3 j, i = j + 1 ∧ DeskAt K H' d k3 ∧ KeepAt K H' k3 p3 st3 ∧ st3.1 = (st.1.1, st.1.2.take j) ∧ st3.2.length = j ∧ H k3 = none ∧ H p3 = none ∧ p3 ≠ rl)))
      ⟨⟨_, rfl⟩, C20, hF18.same s1820, erl, .inl ⟨rfl, dd, s1820 _ _ ed18⟩⟩ (fun i σ H' _ z => SqL.of z.2.2.2.1) (fun i x σ H' hx z => ?_) fun σ H' z => ?_
    · obtain ⟨⟨o8, rfl⟩, C, hFF, er, z⟩ := z
      rcases z with ⟨rfl, dx, ed⟩ | ⟨k3, p3, st3, j, rfl, ⟨dx, ed⟩, kp3, es3, el3, k3n, p3n, p3r⟩
      · have ex : V.str (postRow st.1.1) = x := Option.some.inj hx
        subst ex
        refine ⟨_, rfl, d, dx, _, rfl, ed, rfl, _, rfl, d, _, rfl, .inl ⟨dx, _, st.1.1, rfl, ed, now.v.posts, now.v.ne, by omega, fun y H'' k3 p3 c3 edd kp3 k3n p3n => ?_⟩⟩
        have C3 : Ch K (fun b => b = f) H H'' := ((C.mono (S' := fun b => b = f ∨ b = d) fun b h => .inl h).trans (c3.mono fun b h => .inr h)).fresh fun b h => h.elim .inl fun e => .inr (by rw [e]; exact dnH)
        have noH : ∀ y : Addr, H' y = none → H y = none := fun y e => by
          cases z : H y with
          | none => rfl
          | some o =>
            have := C.at z (fun e2 => by
              obtain ⟨_, _, _, ef⟩ := hFF
              rw [e2, ef] at e
              cases e)
            rw [e] at this
            cases this
        exact ⟨⟨_, rfl⟩, C3, hFF.at c3 (fun e => df e.symm), c3.at er (ne_of er ed (by intro z; cases z)), .inr ⟨k3, p3, _, 0, rfl, edd, kp3, by rw [List.take_zero], rfl, noH _ k3n, noH _ p3n, fun e => by rw [e, er] at p3n; cases p3n⟩⟩
      · have hx2 : ((st.1.2.map tieRow).map V.str)[j]? = some x := hx
        rw [List.getElem?_map, List.getElem?_map] at hx2
        obtain ⟨row, hz1, hz2⟩ := Option.map_eq_some_iff.mp hx2
        obtain ⟨t, et, hz3⟩ := Option.map_eq_some_iff.mp hz1
        subst hz2 hz3
        have jl : j < st.1.2.length := (List.getElem?_eq_some_iff.mp et).1
        have g := tie_good now.v small (List.mem_of_getElem? et)
        have vpre : ∀ n, Valid (st.1.1, st.1.2.take n) := fun n => ⟨now.v.ne, now.v.posts, by rw [List.map_take]; exact now.v.ties.take n, fun u hu => now.v.ok u (List.mem_of_mem_take hu)⟩
        obtain ⟨w3, q3⟩ := st3
        dsimp only at es3 el3
        subst es3
        obtain ⟨dk3, wa3, ra3, ek3, _⟩ := kp3.web
        have dk : d ≠ k3 := ne_of ed ek3 (by intro z; exact absurd (congrArg List.length (HO.ins.inj z).2.2) (by simp))
        have ep3 : ∃ as : List Addr, H' p3 = some (.lst (as.map V.ref)) := by
          obtain ⟨_, _, _, as, _, _, _, ep, _⟩ := id kp3
          exact ⟨as, ep⟩
        obtain ⟨as3, ep3⟩ := ep3
        have dp : d ≠ p3 := ne_of ed ep3 (by intro z; cases z)
        have lt3 : (st.1.2.take j).length ≤ 90 := by rw [List.length_take]; omega
        have ap : apply (st.1.1, st.1.2.take j) (.tie t) = some (st.1.1, st.1.2.take (j + 1)) := by
          rw [take_snoc et]
          refine chk_yes ?_
          have := vpre (j + 1)
          rw [take_snoc et] at this
          exact this
        refine ⟨_, rfl, d, dx, _, rfl, ed, rfl, _, rfl, d, _, rfl, .inr (.inl ⟨k3, p3, _, t, _, rfl, g, ⟨dx, ed⟩, kp3, vpre j, ⟨by show st.1.1.length ≤ 900; omega, by show (st.1.2.take j).length ≤ 900; omega, fun z hz => name_len (now.v.posts.1 z hz), fun u hu => name_len (now.v.ties.1 _ (List.mem_map_of_mem (List.mem_of_mem_take hu)))⟩, by show q3.length ≤ 900; omega, ap, by show (st.1.2.take (j + 1)).length ≤ 1000; rw [List.length_take]; omega, fun y H'' c3 kp4 => ?_⟩)⟩
        have C3 : Ch K (fun b => b = f) H H'' := ((C.mono (S' := fun b => b = f ∨ b = k3 ∨ b = p3) fun b h => .inl h).trans (c3.mono fun b h => .inr h)).fresh fun b h => by
          rcases h with e | e | e
          · exact .inl e
          · exact .inr (by rw [e]; exact k3n)
          · exact .inr (by rw [e]; exact p3n)
        refine ⟨⟨_, rfl⟩, C3, hFF.at c3 (fun z => z.elim (hFF.ni ek3) (hFF.nr ep3)), c3.at er (fun z => z.elim (ne_of er ek3 (by intro z; cases z)) fun e => p3r e.symm), .inr ⟨k3, p3, _, j + 1, rfl, ⟨dx, c3.at ed fun z => z.elim dk dp⟩, kp4, rfl, ?_, k3n, p3n, p3r⟩⟩
        show (q3 ++ [_]).length = j + 1
        rw [List.length_append, el3]
        rfl
    · obtain ⟨⟨o8, rfl⟩, C, hFF, er, z⟩ := z
      rcases z with ⟨e, _⟩ | ⟨k3, p3, st3, j, e, ed, kp3, es3, _⟩
      · rw [List.length_map] at e
        simp [rowsOf] at e
      · refine ⟨⟨_, rfl⟩, C, hFF, k3, p3, st3, ed, kp3, ?_⟩
        rw [es3]
        have : j = st.1.2.length := by
          rw [List.length_map] at e
          simp [rowsOf] at e
          omega
        rw [this, List.take_length]
  rintro σ21 H21 ⟨⟨o8, rfl⟩, C21, hF21, k3, p3, ⟨w3, q3⟩, ⟨dx, ed⟩, kp3, es3⟩
  dsimp only at es3
  subst es3
  refine ⟨_, rfl, d, dx, _, rfl, ed, rfl, d, _, rfl, .inr (.inr ⟨k3, p3, _, rfl, ⟨dx, ed⟩, kp3, now.v, small, by show st.1.1.length ≤ 100; omega, by show st.1.2.length ≤ 100; omega, fun H22 s22 => ?_⟩)⟩
  have C22 := C21.trans (Same.ch s22)
  obtain ⟨dxl, _, _, exl, _⟩ := id (XL H22 C22)
  have rlen : (webS st.1).length + ((webS st.1).length + 1) * (Str.ofString " ; ").length ≤ 16777216 := by
    have : (Str.ofString " ; ").length = 3 := by decide +kernel
    rw [this]
    omega
  dsimp only [Prod.fst]
  generalize hR : Txt.replace (webS st.1) (Str.ofString "\n") (Str.ofString " ; ") = R
  refine ⟨_, rfl, 1, rfl, wl, _, _, _, rfl, rfl, SqL.of (WL H22 C22), lastI, xl, dxl, _, rfl, exl, xl, st.1, rfl, XL H22 C22, now.v, small, by omega, by omega, fun H23 s23 => ⟨_, rfl, _, rfl, rlen, ?_⟩⟩
  rw [hR]
  have s223 := s22.trans s23
  have C23 := C21.trans (Same.ch s223)
  have ed23 := s223 _ _ ed
  have fin := q H23 C23 (hF21.same s223)
  refine ⟨rfl, _, rfl, iteY (decide_eq_true rfl) ?_⟩
  refine ⟨_, rfl, d, dx, _, rfl, ed23, d, k3, p3, (st.1, q3), rfl, ⟨dx, ed23⟩, kp3.same s223, by show st.1.2.length ≤ 1000; omega, st.1.2.length, rfl, by omega, _, rfl, k, dk, _, rfl, EK H23 C23, k, p, st, rfl, KK H23 C23, by omega, _, rfl, by omega, rfl, ?_⟩
  have e : (decide (V.int (st.1.2.length : Int) = V.int (st.1.2.length : Int))) = true := decide_eq_true rfl
  rw [← e] at fin
  exact fin
end
end Wy
set_option Elab.async false
set_option linter.all false
set_option maxRecDepth 100000
set_option maxHeartbeats 0
namespace Wy
open PySem PySem.Spec PyProof.Rows L2 StX
def undoN : Nat → Kst → Kst
  | 0, st => st
  | n + 1, st => undoSt (undoN n st)
theorem webs_len (st : Kst) : (webs st).length = st.2.length + 1 := by simp [webs]
theorem webs_lastI (st : Kst) : (webs st)[(webs st).length - 1]? = some st.1 := by
  unfold webs
  simp
theorem webs_undoN {st : Kst} : ∀ {j : Nat}, j ≤ st.2.length → webs (undoN j st) = (webs st).take ((webs st).length - j)
  | 0, _ => by
    rw [Nat.sub_zero, List.take_length]
    rfl
  | j + 1, h => by
    have ih := webs_undoN (st := st) (j := j) (by omega)
    have l := webs_len st
    show webs (undoSt (undoN j st)) = _
    rw [webs_undo, ih, List.length_take, List.take_take]
    congr 1
    omega
theorem undoN_len {st : Kst} {j : Nat} (h : j ≤ st.2.length) : (undoN j st).2.length = st.2.length - j := by
  have a := congrArg List.length (webs_undoN h)
  rw [webs_len, List.length_take, webs_len] at a
  omega
theorem undoN_web {st : Kst} {j : Nat} (h : j ≤ st.2.length) : (webs st)[st.2.length - j]? = some (undoN j st).1 := by
  have a := webs_lastI (undoN j st)
  have l := webs_len st
  rw [webs_undoN h, List.length_take] at a
  rw [List.getElem?_take_of_lt (by omega)] at a
  rw [← a]
  congr 1
  omega
theorem Ok.undoN {n : Nat} {w0 : Wb} {st : Kst} (h : Ok n w0 st) : ∀ j, Ok n w0 (undoN j st)
  | 0 => h
  | j + 1 => (h.undoN j).undo
theorem Ok.origin {n : Nat} {w0 : Wb} {st : Kst} (h : Ok n w0 st) (e : st.2 = []) : st.1 = w0 := by
  have := h.run.webs
  unfold webs logOf at this
  rw [e] at this
  exact List.head_eq_of_cons_eq this
def dTold (z : Str) (i : Int) : PyData := .tuple [.str z, .int i]
theorem sh_told {z : Str} {i : Int} (h : PyData.strOk z = true) : SeqAt.shaped (dTold z i) = true := by
  unfold SeqAt.shaped
  have e1 : (dTold z i).canLay0 = true := by simp only [dTold, PyData.canLay0, PyData.canLayAll0, h, Bool.and_self]
  rw [e1, Bool.true_and]
  refine decide_eq_true ?_
  simp only [dTold, PyData.depth, PyData.depthAll]
  decide
theorem eqv_told (z : Str) (i : Int) : PyData.eqv (dTold z i) (dTold z i) = true := by
  simp [dTold, PyData.eqv, PyData.eqvAll]
theorem dp_told {K : PySem.W.Frag} {H : Hp} {a : Addr} {z : Str} {i : Int} (h : H a = some (.tup [.str z, .int i])) : Dp K H (.ref a) (dTold z i) := .tup (SqT.of h) (.cons (.str _) (.cons (.int _) .nil))
theorem sql_same {K : PySem.W.Frag} {H H' : Hp} {a : Addr} {xs : List V} (h : SqL K H a xs) (s : Same H H') : SqL K H' a xs := h.imp (fun r => by
  rcases r with r | ⟨o, r⟩
  · exact .inl (s _ _ r)
  · exact .inr ⟨o, s _ _ r⟩) id
structure LS (K : PySem.W.Frag) (H0 H : Hp) (f sa wa k p : Addr) (w0 : Wb) (ws : List Str) (st : Kst) (n : Nat) : Prop where
  same : Same H0 H
  feed : FeedAt H f
  fn : H0 f = none
  start : WebAt K H sa w0
  words : StrsAt H wa ws
  keep : KeepAt K H k p st
  kn : H0 k = none
  pn : H0 p = none
  ok : Ok n w0 st
  wne : ws.length = 12
section
variable {K : PySem.W.Frag} {H0 H H' : Hp} {f sa wa k p wl : Addr} {w0 : Wb} {ws : List Str} {st : Kst} {n : Nat}
theorem same_ch {S : Addr → Prop} (s : Same H0 H) (c : Ch K S H H') (h : ∀ b, S b → H0 b = none) : Same H0 H' := fun a o e => c.at (s a o e) fun z => by
  rw [h a z] at e
  cases e
theorem KeepAt.pl {k p : Addr} {st : Kst} (h : KeepAt K H k p st) : ∃ as : List Addr, H p = some (.lst (as.map V.ref)) := by
  obtain ⟨_, _, _, as, _, _, _, ep, _⟩ := h
  exact ⟨as, ep⟩
theorem KeepAt.ki {k p : Addr} {st : Kst} (h : KeepAt K H k p st) : ∃ C dx fs, H k = some (.ins C dx fs) := by
  obtain ⟨_, _, _, as, e, _⟩ := h
  exact ⟨_, _, _, e⟩
theorem LS.fk (h : LS K H0 H f sa wa k p w0 ws st n) : f ≠ k := by
  obtain ⟨_, _, _, e⟩ := h.keep.ki
  exact h.feed.ni e
theorem LS.fp (h : LS K H0 H f sa wa k p w0 ws st n) : f ≠ p := by
  obtain ⟨_, e⟩ := h.keep.pl
  exact h.feed.nr e
theorem LS.wk (h : LS K H0 H f sa wa k p w0 ws st n) : wa ≠ k := by
  obtain ⟨_, _, _, e⟩ := h.keep.ki
  exact ne_of h.words e (by intro z; cases z)
theorem LS.wp (h : LS K H0 H f sa wa k p w0 ws st n) : wa ≠ p := by
  obtain ⟨as, e⟩ := h.keep.pl
  refine ne_of h.words e ?_
  intro z
  have z2 := HO.lst.inj z
  have l := h.wne
  cases ws with
  | nil => cases l
  | cons a r =>
    cases as with
    | nil => cases z2
    | cons b s =>
      have := List.head_eq_of_cons_eq z2
      cases this
theorem LS.sameStep (h : LS K H0 H f sa wa k p w0 ws st n) (s : Same H H') : LS K H0 H' f sa wa k p w0 ws st n :=
  ⟨h.same.trans s, h.feed.same s, h.fn, h.start.im (Same.im s), s _ _ h.words, h.keep.same s, h.kn, h.pn, h.ok, h.wne⟩
theorem LS.feedStep (h : LS K H0 H f sa wa k p w0 ws st n) (c : Ch K (fun b => b = f) H H') (hF : FeedAt H' f) : LS K H0 H' f sa wa k p w0 ws st n :=
  ⟨same_ch h.same c fun b e => by rw [e]; exact h.fn, hF, h.fn, h.start.im c.im, c.at h.words (h.feed.ns h.words), h.keep.ch c (Ne.symm h.fk) (Ne.symm h.fp), h.kn, h.pn, h.ok, h.wne⟩
theorem LS.keepStep {p' : Addr} {st' : Kst} {m : Nat} (h : LS K H0 H f sa wa k p w0 ws st n) (c : Ch K (fun b => b = k ∨ b = p) H H') (hp : p' = p ∨ H p' = none) (hk : KeepAt K H' k p' st') (ok : Ok m w0 st') : LS K H0 H' f sa wa k p' w0 ws st' m :=
  ⟨same_ch h.same c fun b e => e.elim (fun e => by rw [e]; exact h.kn) fun e => by rw [e]; exact h.pn, h.feed.at c fun z => z.elim h.fk h.fp, h.fn, h.start.im c.im, c.at h.words fun z => z.elim h.wk h.wp, hk, h.kn, hp.elim (fun e => by rw [e]; exact h.pn) fun e => Same.none h.same e, ok, h.wne⟩
theorem WebL.ch {S : Addr → Prop} {W : List Wb} (h : WebL K H wl W) (c : Ch K S H H') (n : ¬ S wl) : WebL K H' wl W := by
  obtain ⟨as, e, p⟩ := h
  exact ⟨as, c.at e n, Paired.mapP p fun _ _ z => z.im c.im⟩
theorem WebL.same {W : List Wb} (h : WebL K H wl W) (s : Same H H') : WebL K H' wl W := h.ch (Same.ch (S := fun _ => False) s) fun z => z
theorem WebL.ne {W : List Wb} (h : WebL K H wl W) (hF : FeedAt H f) : wl ≠ f := by
  obtain ⟨as, e, p⟩ := h
  exact Ne.symm (hF.nr e)
theorem WebL.nk {W : List Wb} (h : WebL K H wl W) {C dx : Addr} {fs : List (Str × V)} (e2 : H k = some (.ins C dx fs)) : wl ≠ k := by
  obtain ⟨as, e, p⟩ := h
  exact ne_of e e2 (by intro z; cases z)
theorem WebL.live {W : List Wb} (h : WebL K H wl W) : H wl ≠ none := by
  obtain ⟨as, e, p⟩ := h
  rw [e]
  intro z
  cases z
theorem WebL.last (h : WebL K H wl (webs st)) : ∃ (aw : List Addr) (xl : Addr), H wl = some (.lst ((aw ++ [xl]).map V.ref)) ∧ WebAt K H xl st.1 ∧ Paired (WebAt K H) aw (st.2.map (·.1)) ∧ aw.length = st.2.length ∧ atI ((aw ++ [xl]).map V.ref) (-1) = some (.ref xl) := by
  obtain ⟨aw, e, p⟩ := h
  have ne : aw ≠ [] := fun z => by
    rw [z] at p
    have := paired_len p
    simp [webs] at this
  obtain ⟨aw', xl, rfl⟩ : ∃ aw' xl, aw = aw' ++ [xl] := ⟨aw.dropLast, aw.getLast ne, (List.dropLast_concat_getLast ne).symm⟩
  obtain ⟨ws', b, e2, p2, hx⟩ := paired_snoc p
  obtain ⟨e3, e4⟩ := List.append_inj' e2 rfl
  have e5 : st.1 = b := List.head_eq_of_cons_eq e4
  subst e5
  rw [← e3] at p2
  refine ⟨aw', xl, e, hx, p2, ?_, ?_⟩
  · rw [paired_len p2, List.length_map]
  · rw [List.map_append]
    exact atI_last _ _
theorem WebL.len (h : WebL K H wl (webs st)) : ∃ aw : List Addr, H wl = some (.lst (aw.map V.ref)) ∧ aw.length = st.2.length + 1 ∧ Paired (WebAt K H) aw (webs st) := by
  obtain ⟨aw, e, p⟩ := h
  exact ⟨aw, e, by rw [paired_len p]; simp [webs], p⟩
end
section
variable {P : Program} {w : World} {K : PySem.W.Frag} {mg : Str → Option Value} {base : Heap}
theorem sc_law : FnScope ["_law_script", "_law_k", "_law_feed_here", "_law_spots", "_law_bonds", "_law_start", "_law_words_here", "_law_keeper", "_law_webs", "_law_turn", "_law_form", "_law_some_here", "_law_due", "_law_told", "_law_web_here"] ["_law_script"] (defScope s_law) := ⟨rfl, rfl, rfl, by decide +kernel, rfl, by decide +kernel, by decide +kernel⟩
def sp_law (K : PySem.W.Frag) : Sp := fun vs H Q _ => ∃ (l : Addr) (ns : List Int), vs = [.ref l] ∧ SqL K H l (ns.map V.int) ∧ ns.length ≤ 100 ∧ ∀ H', Q (.bl true) H'
theorem ok_law (T : W0 P w K mg) : ∃ fd, (FunD K d_law.name d_law.qual d_law.params d_law.body d_law.scope (d_law.dvs K) (d_law.kws K) (d_law.at_ K) fd) ∧ FnOk P w K mg base (L2.CX P w) 15 (d_law.at_ K) fd ["_law_script"] (sp_law K) := by
  obtain ⟨fd, F⟩ := T.d_law
  refine ⟨fd, F, F.ok sc_law ?_ fun cdv A outer s H vs Q E hr h => ⟨_, (pss_cons (ps_for (passes_of rfl) rfl (pi_range1 (by rfl) T.f_range (pa_cons (pe_callB (call_max2 rfl) (by rfl) T.f_max (by decide +kernel) (pa_cons pe_int (pa_cons (pe_callB (call_min2 rfl) (by rfl) T.f_min (by decide +kernel) (pa_cons pe_int (pa_cons (pe_callB call_len_seq (by rfl) T.f_len PySem.boot_len (pa_cons (pv 0) pa_nil)) pa_nil))) pa_nil))) pa_nil)) (pg_name (i := 1) sc_law.nd rfl (Or.inl rfl)) (pss_cons (ps_set (i := 2) sc_law.nd rfl (Or.inl rfl) (eCall (ok_L_feed T) (hr.mono (by decide)) passL (by rfl) (pa_cons (pv 0) (pa_cons (pv 1) pa_nil)))) (pss_cons (ps_asg (eCall (ok_L_web T) (hr.mono (by decide)) passL (by rfl) (pa_cons (pv 2) (pa_cons (pe_op op_add pe_int (eCall (ok_L_take T) (hr.mono (by decide)) passL (by rfl) (pa_cons (pv 2) (pa_cons pe_int pa_nil)))) (pa_cons (eCall (ok_L_take T) (hr.mono (by decide)) passL (by rfl) (pa_cons (pv 2) (pa_cons pe_int pa_nil))) (pa_cons pe_int pa_nil))))) (kTupG (K := K) (n := 2) rfl rfl (pgs_cons (pg_name (i := 3) sc_law.nd rfl (Or.inl rfl)) (pgs_cons (pg_name (i := 4) sc_law.nd rfl (Or.inl rfl)) pgs_nil)))) (pss_cons (ps_par (i := 5) (j := 6) (by rfl) sc_law.nd rfl rfl (by decide) rfl rfl (pa_cons (eMake (ok_Web_init T) (hr.mono (by decide)) (passes_call (takes_of rfl rfl rfl rfl) (fun _ _ _ _ h => h)) (by rfl) (pa_cons (pv 3) (pa_cons (pv 4) pa_nil))) (pa_cons (eCall (ok_L_words T) (hr.mono (by decide)) passL (by rfl) (pa_cons (pv 2) (pa_cons pe_int pa_nil))) pa_nil)) (by rfl)) (pss_cons (ps_par (i := 7) (j := 8) (by rfl) sc_law.nd rfl rfl (by decide) rfl rfl (pa_cons (eMake (ok_Keeper_init T) (hr.mono (by decide)) passL (by rfl) (pa_cons (pv 5) pa_nil)) (pa_cons (pe_lst (pa_cons (pv 5) pa_nil)) pa_nil)) (by rfl)) (pss_cons (ps_for (passes_of rfl) rfl (pi_range1 (by rfl) T.f_range (pa_cons (pe_op op_add pe_int (eCall (ok_L_take T) (hr.mono (by decide)) passL (by rfl) (pa_cons (pv 2) (pa_cons pe_int pa_nil)))) pa_nil)) (pg_name (i := 9) sc_law.nd rfl (Or.inl rfl)) (pss_cons (ps_par (i := 10) (j := 11) (by rfl) sc_law.nd rfl rfl (by decide) rfl rfl (pa_cons (eCall (ok_L_take T) (hr.mono (by decide)) passL (by rfl) (pa_cons (pv 2) (pa_cons pe_int pa_nil))) (pa_cons (eCall (ok_L_some T) (hr.mono (by decide)) passL (by rfl) (pa_cons (pv 2) (pa_cons (pe_ix (kIxL (K := K) rfl) (pv 8) (pe_un un_neg pe_int) (fun _ _ => rfl)) (pa_cons (pv 6) pa_nil)))) pa_nil)) (by rfl)) (C8.pss_cut (ps_if (pt_cmpR op_eq (pv 10) pe_int (nomark _)) (pss_cons (ps_if (pt_cmpR op_ne (eMeth0 (ok_Keeper_undo T) T.c_Keeper (hr.mono (by decide)) passL (pv 7)) (pe_cmpR op_gt (pe_callB call_len_seq (by rfl) T.f_len PySem.boot_len (pa_cons (pv 8) pa_nil)) pe_int (nomark _)) (nomark _)) (pss_one (ps_ret pe_bl)) pss_nil) (pss_cons (ps_set (i := 8) sc_law.nd rfl (Or.inl rfl) (pe_slice sl_list (pv 8) po_none (po_some (pe_callB (call_max2 rfl) (by rfl) T.f_max (by decide +kernel) (pa_cons pe_int (pa_cons (pe_op op_sub (pe_callB call_len_seq (by rfl) T.f_len PySem.boot_len (pa_cons (pv 8) pa_nil)) pe_int) pa_nil)))))) (pss_one (ps_set (i := 11) sc_law.nd rfl (Or.inl rfl) (pe_lst pa_nil))))) (pss_one (ps_if (pt_cmpR op_lt (pv 10) pe_int (nomark _)) (pss_cons (ps_set (i := 11) sc_law.nd rfl (Or.inl rfl) (pe_slice sl_list (pv 11) po_none (po_some pe_int))) (pss_cons (ps_set (i := 12) sc_law.nd rfl (Or.inl rfl) (eCall (ok_L_webs_of T) (hr.mono (by decide)) passL (by rfl) (pa_cons (pv 5) (pa_cons (eMeth0 (ok_Keeper_log T) T.c_Keeper (hr.mono (by decide)) passL (pv 7)) (pa_cons (pv 11) pa_nil))))) (pss_cons (ps_if (pt_cmpR op_ne (eCall (ok_L_done T) (hr.mono (by decide)) passL (by rfl) (pa_cons (pv 7) (pa_cons (pe_ix (kIxL (K := K) rfl) (pv 11) pe_int (fun _ _ => rfl)) pa_nil))) (pe_cmpR (oNeNil hr.units0) (pv 12) (pe_lst pa_nil) (nomark _)) (nomark _)) (pss_one (ps_ret pe_bl)) pss_nil) (pss_one (ps_set (i := 8) sc_law.nd rfl (Or.inl rfl) (pe_op op_cat (pv 8) (pv 12))))))) (pss_cons (ps_set (i := 12) sc_law.nd rfl (Or.inl rfl) (eCall (ok_L_webs_of T) (hr.mono (by decide)) passL (by rfl) (pa_cons (pv 5) (pa_cons (eMeth0 (ok_Keeper_log T) T.c_Keeper (hr.mono (by decide)) passL (pv 7)) (pa_cons (pv 11) pa_nil))))) (pss_cons (ps_set (i := 13) sc_law.nd rfl (Or.inl rfl) (eCall (ok_L_at_once T) (hr.mono (by decide)) passL (by rfl) (pa_cons (pv 7) (pa_cons (pv 11) (pa_cons (pe_cmpR op_eq (pv 10) pe_int (nomark _)) pa_nil))))) (pss_cons (ps_if (pt_cmpR (kNeD (K := K) rfl hr.units) (pv 13) (pe_ifExp (pt_cmpR op_eq (pe_callB call_len_seq (by rfl) T.f_len PySem.boot_len (pa_cons (pv 12) pa_nil)) (pe_callB call_len_seq (by rfl) T.f_len PySem.boot_len (pa_cons (pv 11) pa_nil)) (nomark _)) (pe_tup (pa_cons pe_str (pa_cons (pe_callB call_len_seq (by rfl) T.f_len PySem.boot_len (pa_cons (pv 11) pa_nil)) pa_nil))) (pe_tup (pa_cons pe_str (pa_cons (pe_callB call_len_seq (by rfl) T.f_len PySem.boot_len (pa_cons (pv 12) pa_nil)) pa_nil)))) (nomark _)) (pss_one (ps_ret pe_bl)) pss_nil) (pss_one (ps_set (i := 8) sc_law.nd rfl (Or.inl rfl) (pe_op op_cat (pv 8) (pe_ifExp (PW.pt (pw_or (pt_cmpR op_eq (pv 10) pe_int (nomark _)) (pw_or1 (pt_cmpR op_eq (pe_callB call_len_seq (by rfl) T.f_len PySem.boot_len (pa_cons (pv 12) pa_nil)) (pe_callB call_len_seq (by rfl) T.f_len PySem.boot_len (pa_cons (pv 11) pa_nil)) (nomark _))))) (pv 12) (pe_lst pa_nil))))))))))) (pss_one (ps_if (pt_not (pt_val (eCall (ok_L_stands_right T) (hr.mono (by decide)) passL (by rfl) (pa_cons (pv 2) (pa_cons (pv 5) (pa_cons (pv 7) (pa_cons (pv 8) pa_nil))))))) (pss_one (ps_ret pe_bl)) pss_nil))))) (pss_cons (ps_for (passes_of rfl) rfl (pi_list (pe_slice sl_list (pe_revL (pv 8)) (po_some pe_int) po_none)) (pg_name (i := 14) sc_law.nd rfl (Or.inl rfl)) (pss_one (ps_if (PW.pt (pw_or (pt_cmpR op_notBl (eMeth0 (ok_Keeper_undo T) T.c_Keeper (hr.mono (by decide)) passL (pv 7)) pe_bl (nomark _)) (pw_or1 (pt_cmpR (oNeO (ok_Web_eq T) T.ne_Web (hr.mono (by decide)) passL) (eMeth0 (ok_Keeper_web T) T.c_Keeper (hr.mono (by decide)) passL (pv 7)) (pv 14) (nomark _))))) (pss_one (ps_ret pe_bl)) pss_nil))) (pss_one (ps_if (PW.pt (pw_or (pt_cmpR op_notBl (eMeth0 (ok_Keeper_undo T) T.c_Keeper (hr.mono (by decide)) passL (pv 7)) pe_bl (nomark _)) (pw_or (pt_cmpR (oNeO (ok_Keeper_eq T) T.ne_Keeper (hr.mono (by decide)) passL) (pv 7) (eMake (ok_Keeper_init T) (hr.mono (by decide)) passL (by rfl) (pa_cons (pv 5) pa_nil)) (nomark _)) (pw_or1 (pt_cmpR (kNeD (K := K) rfl hr.units) (eMeth0 (ok_Keeper_log T) T.c_Keeper (hr.mono (by decide)) passL (pv 7)) (pe_lst pa_nil) (nomark _)))))) (pss_one (ps_ret pe_bl)) pss_nil))))))))) (pss_one (ps_ret pe_bl))), ?_⟩⟩
  · rintro vs H Q E ⟨l, ns, rfl, _⟩
    rfl
  obtain ⟨l, ns, rfl, hl, ln, q⟩ := h
  refine ⟨_, rfl, l, _, rfl, .inl hl, _, _, rfl, _, _, rfl, _, rfl, by split <;> (try split) <;> omega, by split <;> (try split) <;> omega, ?_⟩
  refine for_range (fun i σ H' => (∃ o1 o2 o3 o4 o5 o6 o7 o8 o9 o10 o11 o12 o13 o14, σ = [some (.ref l), o1, o2, o3, o4, o5, o6, o7, o8, o9, o10, o11, o12, o13, o14]) ∧ Same H H')
    ⟨⟨_, _, _, _, _, _, _, _, _, _, _, _, _, _, rfl⟩, same_rfl⟩ (fun i σ H0 hi z => ?_) fun σ H' z => q H'
  obtain ⟨⟨o1, o2, o3, o4, o5, o6, o7, o8, o9, o10, o11, o12, o13, o14, rfl⟩, sH⟩ := z
  have hi2 : i ≤ 2 := by
    revert hi
    split <;> (try split) <;> omega
  have hl0 := sql_same hl sH
  refine ⟨_, rfl, _, rfl, l, ns, i, by rw [Int.zero_add], hl0, ln, by omega, fun H1 f s1 fn hF1 => ?_⟩
  refine ⟨_, rfl, _, rfl, f, 5, rfl, hF1, by decide, by decide, fun H2 r1 c2 hF2 a0 a1 => ?_⟩
  obtain ⟨n1, rfl⟩ := Int.eq_ofNat_of_zero_le a0
  refine ⟨_, _, rfl, rfl, _, rfl, f, 5, rfl, hF2, by decide, by decide, fun H3 r2 c3 hF3 b0 b1 => ?_⟩
  obtain ⟨n2, rfl⟩ := Int.eq_ofNat_of_zero_le b0
  refine ⟨f, n1 + 1, n2, 9, ?_, hF3, by omega, by omega, by omega, by decide, fun H4 t pa ta W c4 hF4 et hp ht v e1 e2 e3 => ?_⟩
  · rw [show ((n1 + 1 : Nat) : Int) = 1 + (n1 : Int) by omega]
    rfl
  refine ⟨t, _, rfl, SqT.of et, rfl, _, _, rfl, _, _, rfl, rfl, ?_⟩
  have c14 := (c2.trans c3).trans c4
  have s4 : Same H0 H4 := same_ch s1 c14 fun b e => by rw [e]; exact fn
  have smW : Small W := fun t ht => Int.le_trans (e3 t ht) (by decide)
  have wok : WOk 5 W := ⟨by omega, by omega, v, smW⟩
  refine ⟨_, rfl, _, rfl, fun x dx hx hdx ne => ?_⟩
  have s5 := mk_same (o := .own x) (u := .ins (He.ga K "Web") dx []) hx hdx ne
  refine ⟨x, pa, ta, dx, W, rfl, upd_same, s5 _ _ hp, ht.im (K := K) (Same.im s5), ⟨by omega, by omega, fun z hz => name_len (v.posts.1 z hz), fun t ht => name_len (v.ties.1 _ (List.mem_map_of_mem ht))⟩, fun _ H5 kp wx => ⟨rfl, ?_⟩, fun nv => absurd v nv⟩
  have s45 := mk_end hx hdx ne kp
  have hF5 := hF4.same s45
  refine ⟨_, rfl, f, 12, rfl, hF5, by decide, by decide, fun H6 wa ws c6 hF6 wan hws wsl gws => ⟨_, _, rfl, ?_⟩⟩
  have s6 : Same H0 H6 := same_ch (s4.trans s45) c6 fun b e => by rw [e]; exact fn
  have wx6 : WebAt K H6 x W := wx.im c6.im
  refine ⟨_, rfl, fun k dk hk hdk nek => ?_⟩
  have s7 := mk_same (o := .own k) (u := .ins (He.ga K "Keeper") dk []) hk hdk nek
  refine ⟨k, x, dk, W, rfl, upd_same, wx6.im (Same.im s7), fun H7 p kp7 pn keep => ⟨rfl, _, rfl, (by show 1 ≤ sizeLine; decide), fun wl hwl => ⟨_, _, rfl, ?_⟩⟩⟩
  have s67 := mk_end hk hdk nek kp7
  have s8 := same_upd (o := .lst [V.ref x]) hwl
  have kn6 : H6 k = none := hk
  have pn6 : H6 p = none := Same.none s7 pn
  have wlp0 : wl ≠ p := fun e => by
    obtain ⟨as, ep⟩ := keep.pl
    rw [← e, hwl] at ep
    cases ep
  have ls0 : LS K H0 (upd H7 wl (.lst [V.ref x])) f x wa k p W ws (W, []) 5 :=
    ⟨(s6.trans s67).trans s8, (hF6.same s67).same s8, fn, (wx6.im (Same.im s67)).im (Same.im s8), s8 _ _ (s67 _ _ hws), keep.same s8, Same.none s6 kn6, Same.none s6 pn6, wok.ok, wsl⟩
  have wl0 : WebL K (upd H7 wl (.lst [V.ref x])) wl (webs (W, [])) := ⟨[x], upd_same, .cons ((wx6.im (Same.im s67)).im (Same.im s8)) .nil⟩
  generalize upd H7 wl (.lst [V.ref x]) = H8 at ls0 wl0 ⊢
  refine ⟨_, rfl, f, 4, rfl, ls0.feed, by decide, by decide, fun H9 r9 c9 hF9 d0 d1 => ⟨_, _, rfl, rfl, _, rfl, by omega, by omega, ?_⟩⟩
  obtain ⟨n9, rfl⟩ := Int.eq_ofNat_of_zero_le d0
  have ls9 := ls0.feedStep c9 hF9
  have wl9 := wl0.ch c9 (wl0.ne ls0.feed)
  refine for_range (fun j σ H' => (∃ wl p st o9 o10 o11 o12 o13 o14, σ = [some (.ref l), some (.int (0 + (i : Int))), some (.ref f), some (.ref pa), some (.ref ta), some (.ref x), some (.ref wa), some (.ref k), some (.ref wl), o9, o10, o11, o12, o13, o14] ∧ LS K H0 H' f x wa k p W ws st (5 + 3 * j) ∧ WebL K H' wl (webs st) ∧ wl ≠ p))
    ⟨wl, p, (W, []), _, _, _, _, _, _, rfl, ls9, wl9, wlp0⟩ (fun j σ H' hj z => ?_) fun σ H' z => ?_
  · obtain ⟨wl, p, st, o9, o10, o11, o12, o13, o14, rfl, ls, wls, wlp⟩ := z
    have hj2 : j ≤ 4 := by omega
    refine ⟨_, rfl, f, 5, rfl, ls.feed, by decide, by decide, fun H10 fm c10 hF10 f0 f1 => ?_⟩
    obtain ⟨fm, rfl⟩ := Int.eq_ofNat_of_zero_le f0
    have ls10 := ls.feedStep c10 hF10
    have wl10 := wls.ch c10 (wls.ne ls.feed)
    obtain ⟨aw, xl, ewl, hxl, _, _, lastI⟩ := wl10.last
    have now := ls10.ok.now
    have np := now.p
    have nt := now.t
    have nl := ls10.ok.l
    refine ⟨_, rfl, _, rfl, 1, rfl, wl, _, _, _, rfl, rfl, SqL.of ewl, lastI, _, rfl, f, xl, wa, st.1, ws, rfl, ls10.feed, hxl, ls10.words, now.v, by omega, by omega, gws, wsl, fun H11 D as cs c11 hF11 Dn eD pcs cl1 cl3 hcs => ⟨_, _, rfl, ?_⟩⟩
    have ls11 := ls10.feedStep c11 hF11
    have wl11 := wl10.ch c11 (wl10.ne ls10.feed)
    clear hxl ewl lastI
    have asl : as.length = cs.length := paired_len pcs
    have DnH : D ≠ wl := fun e => wl10.live (by rw [← e]; exact Dn)
    have Dp : D ≠ p := fun e => by
      obtain ⟨_, ep⟩ := ls10.keep.pl
      rw [← e, Dn] at ep
      cases ep
    obtain ⟨dk11, _, _, ek11, _⟩ := ls11.keep.web
    have Dk : D ≠ k := ne_of eD ek11 (by intro z; cases z)
    refine ⟨fun σ H' => (∃ wl p st o10 o11 o12 o13 o14, σ = [some (.ref l), some (.int (0 + (i : Int))), some (.ref f), some (.ref pa), some (.ref ta), some (.ref x), some (.ref wa), some (.ref k), some (.ref wl), some (.int (0 + (j : Int))), o10, o11, o12, o13, o14] ∧ LS K H0 H' f x wa k p W ws st (5 + 3 * (j + 1)) ∧ WebL K H' wl (webs st) ∧ wl ≠ p), ?_, ?_⟩
    · refine ⟨_, rfl, rfl, _, rfl, iteB (fun e0 => ?_) fun e0 => ?_⟩
      · obtain ⟨aw, ewl, awl, paw⟩ := wl11.len
        refine ⟨_, rfl, k, dk11, _, rfl, ek11, rfl, k, p, st, rfl, ls11.keep, fun H12 c12 keep12 => ?_⟩
        have ls12 := ls11.keepStep c12 (.inl rfl) keep12 (ls11.ok.undo.mono (show 5 + 3 * j ≤ 5 + 3 * (j + 1) by omega))
        have wlk : wl ≠ k := wl11.nk ek11
        have ewl12 := c12.at ewl (fun z => z.elim wlk wlp)
        have paw12 : Paired (WebAt K H12) aw (webs st) := Paired.mapP paw fun _ _ z => z.im c12.im
        refine ⟨_, rfl, wl, _, rfl, .inl (SqL.of ewl12), _, _, rfl, rfl, rfl, _, rfl, iteN (ne_no (congrArg V.bl ?_)) ?_⟩
        · rw [List.length_map, awl]
          cases q0 : st.2 with
          | nil => decide
          | cons a b => exact (decide_eq_true (by rw [List.length_cons]; omega)).symm
        refine ⟨_, rfl, _, rfl, wl, _, rfl, .inl (SqL.of ewl12), _, _, rfl, rfl, _, _, rfl, _, rfl, wl, _, rfl, SqL.of ewl12, fun wl2 hwl2 => ?_⟩
        have ec : cutV (aw.map V.ref) none (some (if ((aw.map V.ref).length : Int) - 1 > 1 then ((aw.map V.ref).length : Int) - 1 else 1)) = (aw.take (max 1 ((webs st).length - 1))).map V.ref := by
          have : (if ((aw.map V.ref).length : Int) - 1 > 1 then ((aw.map V.ref).length : Int) - 1 else 1) = ((max 1 ((webs st).length - 1) : Nat) : Int) := by
            rw [← paired_len paw, List.length_map]
            split <;> omega
          rw [this, cutV_take, List.map_take]
        have s13 := same_upd (o := .lst (cutV (aw.map V.ref) none (some (if ((aw.map V.ref).length : Int) - 1 > 1 then ((aw.map V.ref).length : Int) - 1 else 1)))) hwl2
        have wl13 : WebL K (upd H12 wl2 (.lst (cutV (aw.map V.ref) none (some (if ((aw.map V.ref).length : Int) - 1 > 1 then ((aw.map V.ref).length : Int) - 1 else 1))))) wl2 (webs (undoSt st)) := ⟨aw.take (max 1 ((webs st).length - 1)), upd_same.trans (by rw [ec]), by
          rw [webs_undo]
          exact paired_take _ (Paired.mapP paw12 fun _ _ z => z.im (Same.im s13))⟩
        have wl2p : wl2 ≠ p := fun e => by
          obtain ⟨_, ep⟩ := ls12.keep.pl
          rw [← e, hwl2] at ep
          cases ep
        refine ⟨(by show 0 ≤ sizeLine; decide), fun D2 hD2 => ⟨wl2, p, undoSt st, _, _, _, _, _, rfl, (ls12.sameStep s13).sameStep (same_upd hD2), wl13.same (same_upd hD2), wl2p⟩⟩
      · refine ⟨_, rfl, _, _, rfl, rfl, _, rfl, iteB (fun e1 => ?_) fun e1 => ?_⟩
        · refine ⟨_, rfl, _, rfl, D, _, rfl, SqL.of eD, fun D2 hD2 => ?_⟩
          have ec : cutV (as.map V.ref) none (some 1) = (as.take 1).map V.ref := by
            show cutV (as.map V.ref) none (some ((1 : Nat) : Int)) = _
            rw [cutV_take, List.map_take]
          have s12 := same_upd (o := .lst (cutV (as.map V.ref) none (some 1))) hD2
          have eD2 : (upd H11 D2 (.lst (cutV (as.map V.ref) none (some 1)))) D2 = some (.lst ((as.take 1).map V.ref)) := upd_same.trans (by rw [ec])
          have D2p : D2 ≠ p := fun e => by
            obtain ⟨_, ep⟩ := ls11.keep.pl
            rw [← e, hD2] at ep
            cases ep
          generalize upd H11 D2 (.lst (cutV (as.map V.ref) none (some 1))) = H12 at s12 eD2 ⊢
          have ls12 := ls11.sameStep s12
          have wl12 := wl11.same s12
          have pcs12 : Paired (ChgAt H12) as cs := Paired.mapP pcs fun _ _ z => ChgAt.im (K := K) z (Same.im s12)
          cases pcs12 with
          | nil => exact absurd cl1 (by decide)
          | @cons b c rs cr hb hrest =>
          have okc := hcs c (List.mem_cons_self ..)
          obtain ⟨dk12, _, _, ek12, _⟩ := ls12.keep.web
          refine ⟨_, rfl, _, rfl, k, dk12, _, rfl, ek12, rfl, k, p, st, rfl, ls12.keep, by omega, fun H13 lg cl s13 lgn elg pcl => ⟨_, rfl, ?_⟩⟩
          have ls13 := ls12.sameStep s13
          refine ⟨x, lg, D2, W, st, [c], 5 + 3 * j, rfl, ls13.start, ⟨cl, elg, pcl⟩, ⟨[b], s13 _ _ eD2, .cons (ChgAt.im (K := K) hb (Same.im s13)) .nil⟩, ls13.ok, by omega, by show 1 ≤ 200; decide, fun d hd => by rw [List.mem_singleton.mp hd]; exact okc, fun H14 du aw2 s14 dun edu pdu => ?_⟩
          have ls14 := ls13.sameStep s14
          have wl14 := (wl12.same s13).same s14
          have eD14 := s14 _ _ (s13 _ _ eD2)
          have hb14 : ChgAt H14 b c := ChgAt.im (K := K) (ChgAt.im (K := K) hb (Same.im s13)) (Same.im s14)
          obtain ⟨aw, ewl, awl, paw⟩ := wl14.len
          obtain ⟨dk14, _, _, ek14, _⟩ := ls14.keep.web
          have wlk : wl ≠ k := wl14.nk ek14
          have dup : du ≠ p := fun e => by
            obtain ⟨_, ep⟩ := ls13.keep.pl
            rw [← e, dun] at ep
            cases ep
          have duk : du ≠ k := ne_of edu ek14 (by intro z; cases z)
          have aw2l : aw2.length = (plays st [c]).2 := by rw [paired_len pdu, dues_len]
          have fin : ∀ (H15 : Hp) (st' : Kst), LS K H0 H15 f x wa k p W ws st' (5 + 3 * (j + 1)) → H15 wl = some (.lst (aw.map V.ref)) → H15 du = some (.lst (aw2.map V.ref)) → Ch K (fun b => b = k ∨ b = p) H14 H15 → webs st' = webs st ++ dues st.1 [c] → ∀ wl2, H15 wl2 = none → ∀ o10 o11 o12 o13 o14, (∃ wl p st o10' o11' o12' o13' o14', [some (V.ref l), some (.int (0 + (i : Int))), some (.ref f), some (.ref pa), some (.ref ta), some (.ref x), some (.ref wa), some (.ref k), some (.ref wl2), some (.int (0 + (j : Int))), o10, o11, o12, o13, o14] = [some (.ref l), some (.int (0 + (i : Int))), some (.ref f), some (.ref pa), some (.ref ta), some (.ref x), some (.ref wa), some (.ref k), some (.ref wl), some (.int (0 + (j : Int))), o10', o11', o12', o13', o14'] ∧ LS K H0 (upd H15 wl2 (.lst (aw.map V.ref ++ aw2.map V.ref))) f x wa k p W ws st (5 + 3 * (j + 1)) ∧ WebL K (upd H15 wl2 (.lst (aw.map V.ref ++ aw2.map V.ref))) wl (webs st) ∧ wl ≠ p) := fun H15 st' ls15 e1 e2 c15 ew wl2 hwl2 o10 o11 o12 o13 o14 => by
            have s16 := same_upd (o := .lst (aw.map V.ref ++ aw2.map V.ref)) hwl2
            refine ⟨wl2, p, st', _, _, _, _, _, rfl, ls15.sameStep s16, ⟨aw ++ aw2, upd_same.trans (by rw [List.map_append]), ?_⟩, fun e => ?_⟩
            · rw [ew]
              exact paired_app (Paired.mapP paw fun _ _ z => (z.im c15.im).im (Same.im s16)) (Paired.mapP pdu fun _ _ z => (z.im c15.im).im (Same.im s16))
            · obtain ⟨_, ep⟩ := ls15.keep.pl
              rw [← e, hwl2] at ep
              cases ep
          refine ⟨_, rfl, _, rfl, D2, _, _, _, rfl, rfl, SqL.of eD14, atI_nat (j := 0) rfl, k, p, b, st, c, rfl, hb14, ls14.keep, ls14.ok.fit.mono (by omega), okc.1, fun w' ew H15 c15 keep15 => ?_, fun en H15 s15 => ?_⟩
          · have ls15 := ls14.keepStep c15 (.inl rfl) keep15 ((ls14.ok.step okc ew).mono (show 5 + 3 * j + 1 ≤ 5 + 3 * (j + 1) by omega))
            have pl : plays st [c] = ((w', st.2 ++ [(st.1, c)]), 1) := by rw [plays_yes ew, plays_nil]
            rw [pl] at aw2l
            have edu15 := c15.at edu (fun z => z.elim duk dup)
            have ewl15 := c15.at ewl (fun z => z.elim wlk wlp)
            refine ⟨_, rfl, (by show 0 ≤ sizeLine; decide), fun u hu => ⟨du, u, _, rfl, rfl, (same_upd hu) _ _ edu15, upd_same, rfl, _, rfl, iteN (ne_no (congrArg V.bl ?_)) ?_⟩⟩
            · cases aw2 with
              | nil => cases aw2l
              | cons a r => rfl
            have s16 := same_upd (o := .lst []) hu
            refine ⟨_, rfl, _, rfl, wl, du, _, _, rfl, rfl, s16 _ _ ewl15, s16 _ _ edu15, le_size (by rw [List.length_map, List.length_map]; omega), fun wl2 hwl2 => ?_⟩
            exact fin _ _ (ls15.sameStep s16) (s16 _ _ ewl15) (s16 _ _ edu15) (c15.trans (Same.ch s16)) (by rw [dues_yes ew, dues]; unfold webs; rw [List.map_append, List.append_assoc, List.append_assoc]; rfl) wl2 hwl2 _ _ _ _ _
          · have pl : plays st [c] = (st, 0) := plays_no en
            rw [pl] at aw2l
            have ls15 := ls14.sameStep s15
            refine ⟨_, rfl, (by show 0 ≤ sizeLine; decide), fun u hu => ⟨du, u, _, rfl, rfl, (same_upd hu) _ _ (s15 _ _ edu), upd_same, rfl, _, rfl, iteN (ne_no (congrArg V.bl ?_)) ?_⟩⟩
            · cases aw2 with
              | nil => rfl
              | cons a r => cases aw2l
            have s16 := s15.trans (same_upd (o := .lst []) hu)
            refine ⟨_, rfl, _, rfl, wl, du, _, _, rfl, rfl, s16 _ _ ewl, s16 _ _ edu, le_size (by rw [List.length_map, List.length_map]; omega), fun wl2 hwl2 => ?_⟩
            have ls16 := ls14.sameStep s16
            exact fin _ st ⟨ls16.same, ls16.feed, ls16.fn, ls16.start, ls16.words, ls16.keep, ls16.kn, ls16.pn, ls16.ok.mono (by omega), ls16.wne⟩ (s16 _ _ ewl) (s16 _ _ edu) (Same.ch s16) (by rw [dues_no en, List.append_nil]) wl2 hwl2 _ _ _ _ _
        · have f34 : fm = 3 ∨ fm = 4 := by
            have z1 : ¬ fm = 0 := fun z => of_decide_eq_false e0 (by rw [z]; rfl)
            have z2 : ¬ fm < 3 := fun z => by
              have z3 : decide ((fm : Int) < 3) = false := e1
              exact of_decide_eq_false z3 (by omega)
            omega
          obtain ⟨dk11, _, _, ek11, _⟩ := ls11.keep.web
          refine ⟨_, rfl, _, rfl, k, dk11, _, rfl, ek11, rfl, k, p, st, rfl, ls11.keep, by omega, fun H13 lg cl s13 lgn elg pcl => ⟨_, rfl, ?_⟩⟩
          have ls13 := ls11.sameStep s13
          have pcs13 : Paired (ChgAt H13) as cs := Paired.mapP pcs fun _ _ z => ChgAt.im (K := K) z (Same.im s13)
          refine ⟨x, lg, D, W, st, cs, 5 + 3 * j, rfl, ls13.start, ⟨cl, elg, pcl⟩, ⟨as, s13 _ _ eD, pcs13⟩, ls13.ok, by omega, by omega, hcs, fun H14 du aw2 s14 dun edu pdu => ?_⟩
          have ls14 := ls13.sameStep s14
          have wl14 := (wl11.same s13).same s14
          have eD14 := s14 _ _ (s13 _ _ eD)
          have pcs14 : Paired (ChgAt H14) as cs := Paired.mapP pcs13 fun _ _ z => ChgAt.im (K := K) z (Same.im s14)
          obtain ⟨aw, ewl, awl, paw⟩ := wl14.len
          obtain ⟨dk14, _, _, ek14, _⟩ := ls14.keep.web
          have wlk : wl ≠ k := wl14.nk ek14
          have dup : du ≠ p := fun e => by
            obtain ⟨_, ep⟩ := ls13.keep.pl
            rw [← e, dun] at ep
            cases ep
          have duk : du ≠ k := ne_of edu ek14 (by intro z; cases z)
          have aw2l : aw2.length = (plays st cs).2 := by rw [paired_len pdu, dues_len]
          have ple := plays_le st cs
          have fin : ∀ (H15 : Hp) (p' : Addr) (st' : Kst), LS K H0 H15 f x wa k p' W ws st' (5 + 3 * (j + 1)) → H15 wl = some (.lst (aw.map V.ref)) → ∀ (dl : List Wb) (aw3 : List Addr), Paired (WebAt K H14) aw3 dl → Ch K (fun b => b = k ∨ b = p) H14 H15 → webs st' = webs st ++ dl → ∀ wl2, H15 wl2 = none → ∀ o10 o11 o12 o13 o14, (∃ wl p st o10' o11' o12' o13' o14', [some (V.ref l), some (.int (0 + (i : Int))), some (.ref f), some (.ref pa), some (.ref ta), some (.ref x), some (.ref wa), some (.ref k), some (.ref wl2), some (.int (0 + (j : Int))), o10, o11, o12, o13, o14] = [some (.ref l), some (.int (0 + (i : Int))), some (.ref f), some (.ref pa), some (.ref ta), some (.ref x), some (.ref wa), some (.ref k), some (.ref wl), some (.int (0 + (j : Int))), o10', o11', o12', o13', o14'] ∧ LS K H0 (upd H15 wl2 (.lst (aw.map V.ref ++ aw3.map V.ref))) f x wa k p W ws st (5 + 3 * (j + 1)) ∧ WebL K (upd H15 wl2 (.lst (aw.map V.ref ++ aw3.map V.ref))) wl (webs st) ∧ wl ≠ p) := fun H15 p' st' ls15 e1 dl aw3 pdl c15 ew wl2 hwl2 o10 o11 o12 o13 o14 => by
            have s16 := same_upd (o := .lst (aw.map V.ref ++ aw3.map V.ref)) hwl2
            refine ⟨wl2, p', st', _, _, _, _, _, rfl, ls15.sameStep s16, ⟨aw ++ aw3, upd_same.trans (by rw [List.map_append]), ?_⟩, fun e => ?_⟩
            · rw [ew]
              exact paired_app (Paired.mapP paw fun _ _ z => (z.im c15.im).im (Same.im s16)) (Paired.mapP pdl fun _ _ z => (z.im c15.im).im (Same.im s16))
            · obtain ⟨_, ep⟩ := ls15.keep.pl
              rw [← e, hwl2] at ep
              cases ep
          refine ⟨_, rfl, _, rfl, _, rfl, rfl, k, p, D, st, cs, 5 + 3 * j, decide (V.int (fm : Int) = V.int 3), rfl, ⟨as, eD14, pcs14⟩, ls14.keep, ls14.ok.fit, by omega, fun c hc => (hcs c hc).1, Dp, fun full H15 t c15 keep15 et => ?_, fun part H15 p' t c15 hp' keep15 et => ?_⟩
          · have ls15 := ls14.keepStep c15 (.inl rfl) keep15 ((ls14.ok.plays hcs).mono (show 5 + 3 * j + cs.length ≤ 5 + 3 * (j + 1) by omega))
            have edu15 := c15.at edu (fun z => z.elim duk dup)
            have ewl15 := c15.at ewl (fun z => z.elim wlk wlp)
            have eD15 := c15.at eD14 (fun z => z.elim Dk Dp)
            have leq : aw2.length = as.length := by rw [aw2l, full, asl]
            refine ⟨_, rfl, _, rfl, du, _, rfl, .inl (SqL.of edu15), _, rfl, D, _, rfl, .inl (SqL.of eD15), rfl, _, rfl, iteY (decide_eq_true (by rw [List.length_map, List.length_map, leq])) ?_⟩
            refine ⟨_, rfl, D, _, rfl, .inl (SqL.of eD15), (by show 2 ≤ sizeLine; decide), fun u hu => ?_⟩
            have s16 := same_upd (o := .tup [V.str ("made" : Str), V.int (as.map V.ref).length]) hu
            refine ⟨dTold "made" cs.length, dTold "made" (as.map V.ref).length, dp_told (s16 _ _ et), dp_told upd_same, sh_told (by decide +kernel), sh_told (by decide +kernel), _, rfl, iteN ?_ ?_⟩
            · rw [List.length_map, asl, eqv_told]
              rfl
            have ls16 := ls15.sameStep s16
            have ewl16 := s16 _ _ ewl15
            have edu16 := s16 _ _ edu15
            have eD16 := s16 _ _ eD15
            have c16 : Ch K (fun b => b = k ∨ b = p) H14 _ := c15.trans (Same.ch s16)
            refine ⟨_, rfl, _, rfl, rfl, _, rfl, iteB (fun e4 => ⟨_, rfl, wl, du, _, _, rfl, rfl, ewl16, edu16, le_size (by rw [List.length_map, List.length_map]; omega), fun wl2 hwl2 => ?_⟩) fun e4 => ⟨_, rfl, du, _, rfl, .inl (SqL.of edu16), _, rfl, D, _, rfl, .inl (SqL.of eD16), rfl, _, rfl, iteY (decide_eq_true (by rw [List.length_map, List.length_map, leq])) ⟨_, rfl, wl, du, _, _, rfl, rfl, ewl16, edu16, le_size (by rw [List.length_map, List.length_map]; omega), fun wl2 hwl2 => ?_⟩⟩⟩
            · exact fin _ _ _ ls16 ewl16 (dues st.1 cs) aw2 pdu c16 (plays_webs st cs) wl2 hwl2 _ _ _ _ _
            · exact fin _ _ _ ls16 ewl16 (dues st.1 cs) aw2 pdu c16 (plays_webs st cs) wl2 hwl2 _ _ _ _ _
          · have edu15 := c15.at edu (fun z => z.elim duk dup)
            have ewl15 := c15.at ewl (fun z => z.elim wlk wlp)
            have eD15 := c15.at eD14 (fun z => z.elim Dk Dp)
            have lne : ¬ V.int ((aw2.map V.ref).length : Int) = V.int ((as.map V.ref).length : Int) := fun z => by
              have z2 := V.int.inj z
              rw [List.length_map, List.length_map, aw2l, asl] at z2
              omega
            refine ⟨_, rfl, _, rfl, du, _, rfl, .inl (SqL.of edu15), _, rfl, D, _, rfl, .inl (SqL.of eD15), rfl, _, rfl, iteN (decide_eq_false lne) ?_⟩
            refine ⟨_, rfl, du, _, rfl, .inl (SqL.of edu15), (by show 2 ≤ sizeLine; decide), fun u hu => ?_⟩
            have s16 := same_upd (o := .tup [V.str ("no" : Str), V.int (aw2.map V.ref).length]) hu
            refine ⟨dTold "no" (plays st cs).2, dTold "no" (aw2.map V.ref).length, dp_told (s16 _ _ et), dp_told upd_same, sh_told (by decide +kernel), sh_told (by decide +kernel), _, rfl, iteN ?_ ?_⟩
            · rw [List.length_map, aw2l, eqv_told]
              rfl
            have ewl16 := s16 _ _ ewl15
            have edu16 := s16 _ _ edu15
            have eD16 := s16 _ _ eD15
            have c16 : Ch K (fun b => b = k ∨ b = p) H14 _ := c15.trans (Same.ch s16)
            rcases f34 with rfl | rfl
            · have kp15 : KeepAt K H15 k p' st := by
                have z := keep15
                rw [if_pos (show decide (V.int ((3 : Nat) : Int) = V.int 3) = true by decide)] at z
                exact z
              have ls16 := (ls14.keepStep c15 hp' kp15 (ls14.ok.mono (show 5 + 3 * j ≤ 5 + 3 * (j + 1) by omega))).sameStep s16
              refine ⟨_, rfl, _, rfl, rfl, _, rfl, iteN (by decide) ⟨_, rfl, du, _, rfl, .inl (SqL.of edu16), _, rfl, D, _, rfl, .inl (SqL.of eD16), rfl, _, rfl, iteN (decide_eq_false lne) ⟨(by show 0 ≤ sizeLine; decide), fun v hv => ⟨wl, v, _, _, rfl, rfl, (same_upd hv) _ _ ewl16, upd_same, le_size (by rw [List.length_map]; show _ + 0 ≤ _; omega), fun wl2 hwl2 => ?_⟩⟩⟩⟩
              have s17 := same_upd (o := .lst []) hv
              exact fin _ _ _ (ls16.sameStep s17) (s17 _ _ ewl16) [] [] .nil (c16.trans (Same.ch s17)) (by rw [List.append_nil]) wl2 hwl2 _ _ _ _ _
            · have kp15 : KeepAt K H15 k p' (plays st cs).1 := by
                have z := keep15
                rw [if_neg (show ¬ decide (V.int ((4 : Nat) : Int) = V.int 3) = true by decide)] at z
                exact z
              have ls16 := (ls14.keepStep c15 hp' kp15 ((ls14.ok.plays hcs).mono (show 5 + 3 * j + cs.length ≤ 5 + 3 * (j + 1) by omega))).sameStep s16
              refine ⟨_, rfl, _, rfl, rfl, _, rfl, iteY (by decide) ⟨_, rfl, wl, du, _, _, rfl, rfl, ewl16, edu16, le_size (by rw [List.length_map, List.length_map]; omega), fun wl2 hwl2 => ?_⟩⟩
              exact fin _ _ _ ls16 ewl16 (dues st.1 cs) aw2 pdu c16 (plays_webs st cs) wl2 hwl2 _ _ _ _ _
    rintro σ20 H20 ⟨wl, p, st, o10, o11, o12, o13, o14, rfl, ls, wls, wlp⟩
    refine ⟨_, rfl, _, rfl, _, rfl, _, rfl, f, x, k, p, wl, W, st, rfl, ls.feed, ls.start, ls.keep, wls, ls.ok.mono (by omega), fun H21 c21 hF21 => ⟨_, rfl, iteN rfl ?_⟩⟩
    exact ⟨wl, p, st, _, _, _, _, _, _, rfl, ls.feedStep c21 hF21, wls.ch c21 (wls.ne ls.feed), wlp⟩
  · obtain ⟨wl, p, st, o9, o10, o11, o12, o13, o14, rfl, ls, wls, wlp⟩ := z
    obtain ⟨aw, ewl, awl, paw⟩ := wls.len
    have nl := ls.ok.l
    have wln := webs_len st
    have b90 : 5 + 3 * ((2 : Int) + (n9 : Int)).toNat ≤ 90 := by omega
    refine ⟨_, rfl, wl, _, rfl, SqL.of ewl, fun r1 hr1 => ⟨_, rfl, r1, _, rfl, SqL.of upd_same, fun r2 hr2 => ?_⟩⟩
    have s1' := same_upd (o := .lst (aw.map V.ref).reverse) hr1
    have ec : cutV (aw.map V.ref).reverse (some 1) none = (aw.reverse.drop 1).map V.ref := by
      show cutV _ (some ((1 : Nat) : Int)) none = _
      rw [cutV_drop, ← List.map_reverse, List.map_drop]
    have s2' := s1'.trans (same_upd (o := .lst (cutV (aw.map V.ref).reverse (some 1) none)) hr2)
    have er2 : (upd (upd H' r1 (.lst (aw.map V.ref).reverse)) r2 (.lst (cutV (aw.map V.ref).reverse (some 1) none))) r2 = some (.lst ((aw.reverse.drop 1).map V.ref)) := upd_same.trans (by rw [ec])
    have r2n : H' r2 = none := Same.none s1' hr2
    have r2p : r2 ≠ p := fun e => by
      obtain ⟨_, ep⟩ := ls.keep.pl
      rw [← e, r2n] at ep
      cases ep
    have r2k : r2 ≠ k := fun e => by
      obtain ⟨_, _, _, ek⟩ := ls.keep.ki
      rw [← e, r2n] at ek
      cases ek
    generalize (upd (upd H' r1 (.lst (aw.map V.ref).reverse)) r2 (.lst (cutV (aw.map V.ref).reverse (some 1) none))) = H10 at s2' er2 ⊢
    have ls10 := ls.sameStep s2'
    have paw10 : Paired (WebAt K H10) aw (webs st) := Paired.mapP paw fun _ _ z => z.im (Same.im s2')
    refine ⟨r2, rfl, ⟨_, SqL.of er2⟩, ?_⟩
    refine for_list (xs := (aw.reverse.drop 1).map V.ref) (fun j σ H' => (∃ o9 o10 o11 o12 o13 o14, σ = [some (.ref l), some (.int (0 + (i : Int))), some (.ref f), some (.ref pa), some (.ref ta), some (.ref x), some (.ref wa), some (.ref k), some (.ref wl), o9, o10, o11, o12, o13, o14]) ∧ LS K H0 H' f x wa k p W ws (undoN j st) (5 + 3 * ((2 : Int) + (n9 : Int)).toNat) ∧ H' r2 = some (.lst ((aw.reverse.drop 1).map V.ref)) ∧ Paired (WebAt K H') aw (webs st))
      ⟨⟨_, _, _, _, _, _, rfl⟩, ls10, er2, paw10⟩ (fun j σ H' _ z => SqL.of z.2.2.1) (fun j y σ H11 hy z => ?_) fun σ H11 z => ?_
    · obtain ⟨⟨o9, o10, o11, o12, o13, o14, rfl⟩, ls11, er11, paw11⟩ := z
      rw [List.getElem?_map] at hy
      obtain ⟨b, hb1, hb2⟩ := Option.map_eq_some_iff.mp hy
      subst hb2
      rw [List.getElem?_drop] at hb1
      have jl : 1 + j < aw.length := by
        have := (List.getElem?_eq_some_iff.mp hb1).1
        rw [List.length_reverse] at this
        exact this
      rw [List.getElem?_reverse jl] at hb1
      have jst : j + 1 ≤ st.2.length := by omega
      have ej : aw.length - 1 - (1 + j) = st.2.length - (j + 1) := by omega
      rw [ej] at hb1
      obtain ⟨wb, ewb, hwb⟩ := paired_get' paw11 hb1
      have ewb2 : wb = (undoN (j + 1) st).1 := Option.some.inj (ewb.symm.trans (undoN_web jst))
      subst ewb2
      obtain ⟨dk11, _, _, ek11, _⟩ := ls11.keep.web
      have ulen := undoN_len (st := st) (j := j) (by omega)
      refine ⟨_, rfl, k, dk11, _, rfl, ek11, rfl, k, p, undoN j st, rfl, ls11.keep, fun H12 c12 keep12 => ?_⟩
      have ok12 : Ok (5 + 3 * ((2 : Int) + (n9 : Int)).toNat) W (undoN (j + 1) st) := ls11.ok.undo
      have ls12 := ls11.keepStep (st' := undoN (j + 1) st) c12 (.inl rfl) keep12 ok12
      refine ⟨_, _, rfl, rfl, _, rfl, iteN (dec_no ?_) ?_⟩
      · cases q0 : (undoN j st).2 with
        | nil =>
          rw [q0] at ulen
          simp at ulen
          omega
        | cons a r => rfl
      obtain ⟨dk12, _, _, ek12, _⟩ := ls12.keep.web
      refine ⟨_, rfl, k, dk12, _, rfl, ek12, rfl, k, p, undoN (j + 1) st, rfl, ls12.keep, fun wa' hwa' => ?_⟩
      obtain ⟨dwa, _, _, ewa, _⟩ := id hwa'
      have hwb12 := hwb.im c12.im
      obtain ⟨dxb, _, _, exb, _⟩ := id hwb12
      exact ⟨_, rfl, wa', dwa, _, b, dxb, _, rfl, rfl, ewa, exb, wa', b, _, _, rfl, hwa', hwb12, ok12.now.v, ok12.now.v, _, rfl, _, rfl, iteN (dec_no rfl) ⟨⟨_, _, _, _, _, _, rfl⟩, ls12, c12.at er11 (fun z => z.elim r2k r2p), Paired.mapP paw11 fun _ _ z => z.im c12.im⟩⟩
    · obtain ⟨⟨o9, o10, o11, o12, o13, o14, rfl⟩, ls11, er11, paw11⟩ := z
      have xl' : ((aw.reverse.drop 1).map V.ref).length = st.2.length := by
        rw [List.length_map, List.length_drop, List.length_reverse, awl]
        omega
      rw [xl'] at ls11
      have ulen := undoN_len (st := st) (j := st.2.length) (Nat.le_refl _)
      have ue : (undoN st.2.length st).2 = [] := List.length_eq_zero_iff.mp (by omega)
      have u1 := ls11.ok.origin ue
      have su : undoN st.2.length st = (W, []) := Prod.ext u1 ue
      rw [su] at ls11
      obtain ⟨dk11, _, _, ek11, _⟩ := ls11.keep.web
      refine ⟨_, rfl, k, dk11, _, rfl, ek11, rfl, k, p, (W, []), rfl, ls11.keep, fun H12 c12 keep12 => ?_⟩
      have ls12 := ls11.keepStep (st' := (W, [])) c12 (.inl rfl) keep12 ls11.ok
      refine ⟨_, _, rfl, rfl, _, rfl, iteN (dec_no rfl) ?_⟩
      refine ⟨_, rfl, _, rfl, fun k2 dk2 hk2 hdk2 ne2 => ?_⟩
      have s7 := mk_same (o := .own k2) (u := .ins (He.ga K "Keeper") dk2 []) hk2 hdk2 ne2
      refine ⟨k2, x, dk2, W, rfl, upd_same, ls12.start.im (Same.im s7), fun H13 p2 kp2 hp2 keep2 => ⟨rfl, ?_⟩⟩
      have s8 := mk_end hk2 hdk2 ne2 kp2
      have ls13 := ls12.sameStep s8
      obtain ⟨dk13, _, _, ek13, _⟩ := ls13.keep.web
      obtain ⟨dk2', _, _, ek2, _⟩ := keep2.web
      have v := ls13.ok.now.v
      refine ⟨k, dk13, _, k2, dk2', _, rfl, rfl, ek13, ek2, k, p, k2, p2, (W, []), (W, []), rfl, ls13.keep, keep2, v, v, _, rfl, _, rfl, iteN (dec_no rfl) ?_⟩
      refine ⟨_, rfl, k, dk13, _, rfl, ek13, rfl, k, p, (W, []), rfl, ls13.keep, Nat.zero_le _, fun H14 lg cl s14 lgn elg pcl => ⟨(by show 0 ≤ sizeLine; decide), fun u hu => ?_⟩⟩
      have s15 := same_upd (o := .lst []) hu
      refine ⟨dLog [], .list [], dp_log (s15 _ _ elg) (Paired.mapP pcl fun _ _ z => ChgAt.im (K := K) z (Same.im s15)), .lst (SqL.of upd_same) .nil, by decide +kernel, by decide +kernel, _, rfl, iteN (by decide +kernel) ?_⟩
      exact ⟨⟨_, _, _, _, _, _, _, _, _, _, _, _, _, _, rfl⟩, sH.trans ((ls13.sameStep s14).sameStep s15).same⟩
end
end Wy
set_option Elab.async false
set_option linter.all false
set_option maxRecDepth 100000
set_option maxHeartbeats 0
namespace Wy
open PySem PySem.Spec PyProof.Rows L2
theorem facts {w : World} {K : PySem.W.Frag} {h : Heap} {mg : Str → Option Value} {f : Addr} (X : K.In h) (G : h.Ns mainGlobals mg) (hfa : mg ("law" : Str) = some (.ref f)) (c : SaysW exW w K) :
    ∃ fd : FuncData, (∀ (s : Shared) (v : Value), BindsTo s fd ⟨[v], []⟩ [("_law_script", v)]) ∧ ∀ base : Heap, FnOk R.prog w K mg base (L2.CX R.prog w) 15 f fd ["_law_script"] (sp_law K) := by
  have T : W0 R.prog w K mg := ⟨c, by rfl, by decide +kernel, ⟨h, X, G⟩⟩
  have e := hfa.symm.trans T.g_law
  cases e
  obtain ⟨fd0, F0⟩ := T.d_law
  refine ⟨fd0, ?_, fun base => ?_⟩
  · have b := FunD.bindsA (ps := ["_law_script"]) F0 fun _ _ _ _ _ _ us hl => match us, hl with | [_], _ => rfl
    exact fun s v => b s [v] rfl
  · obtain ⟨fd, F, G2⟩ := ok_law (base := base) T
    have e : fd = fd0 := by
      obtain ⟨oc, od, dV, kV, doc, pm, an, cdv, ct, osl, e1, lk, _⟩ := F.ex
      obtain ⟨oc', od', dV', kV', doc', pm', an', cdv', ct', osl', e1', lk', _⟩ := F0.ex
      have z := lk.symm.trans lk'
      have z2 := Option.some.inj z
      injection z2 with _ _ z3
      injection z3
    rw [← e]
    exact G2
theorem wyWalk {l : PySem.W.OpenLaw} {n k : Nat} {q : Program} {ls : List Str} {XP : (Str → Option Value) → Heap → Prop} {YP : World → Heap → Prop} {d : DefRec} {CXw : World → CXT} {x : Str}
    (hn : l.most = some n) (hn2 : n ≤ sizeLine) (hdf : d.params.defaults = []) (hr : Room k callerA)
    (F : ∀ w mg fa h, YP w h → h.Ns mainGlobals mg → mg d.name = some (.ref fa) → ∃ (K : PySem.W.Frag) (fd : FuncData) (sp : Sp), K.In h ∧ (∀ s u, BindsTo s fd ⟨[u], []⟩ [(x, u)]) ∧
      (∀ H a (ns : List Int), ns.length ≤ n → Only H → SqL K H a (ns.map V.int) → sp [.ref a] H (fun v _ => v = .bl true) fun _ _ _ => False) ∧ ∀ base, FnOk l.prog w K mg base (CXw w) k fa fd [x] sp)
    (hC : ∀ w H s e s', CXw w [] H s (fun _ _ _ => False) e s' → False) : PySem.W.WalkO q ls XP YP l.row.toRowW d [] (fun f vs => PySem.call f vs) :=
  Att.attach_call hn hdf fun w s₀ s₁ mg mb fa o pm cd doc a vs ns G Y ho hd hcd hmg hobj hints hlen hg => by
    obtain ⟨K, fd, sp, KX, hb, hsp, hF⟩ := F w mg fa _ Y G.T.g hmg
    exact law_call (CX := CXw w) KX G.T.g G.T.b G.T.builtins G.T.nolimit hg hobj hints (Nat.le_trans hlen hn2) hr (fun base _ _ => hF base) hb (fun H hO hS => hsp H a ns hlen hO hS) fun H e s' => hC w H s₁ e s'
end Wy
open PySem PySem.W PySem.Calls PyProof.Rows
theorem PySem.Challenge.cw_wayround_k72_whole_logs_played_again_holds : PySem.Challenge.rw_wayround_k72_whole_logs_played_again.Holds := by
  w_on; o_law
  refine HandSHeadRun.head_any (r := Wy.R) (q := view Wy.R.prog [103]) (H := Wy.hk) (ob := Wy.ob) (M := 12000) (loose := Wy.loose) (d := HandSHeadRun.topDef Wy.R.prog 103) (kwd := []) Wy.ob_eq
    (by kernel_rfl) (fun s => by kernel_rfl) Wy.run (by kernel_rfl) (by kernel_rfl) (by kernel_rfl) (by rfl) (by first | assumption | decide +kernel) (by decide +kernel) ⟨rfl, rfl, rfl, rfl, rfl, by decide +kernel⟩ ?hw ?hc
  case hw => w_witness2
  case hc =>
    refine Wy.wyWalk (l := PySem.Challenge.rw_wayround_k72_whole_logs_played_again) (n := 63) (k := 15) (x := "_law_script") (CXw := fun w => L2.CX Wy.R.prog w) rfl (by decide) (by kernel_rfl) ⟨rfl, by decide, by decide⟩ ?F (fun w H s e s' z => ?c)
    case c =>
      obtain ⟨_, _, _, _, _, _, _, _, _, _, _, _, y⟩ := z
      exact y
    intro w mg fa h Y G hmg0
    obtain ⟨K, KX, c⟩ := Y
    have hmg : mg ("law" : PySem.Str) = some (.ref fa) := by
      have e : (HandSHeadRun.topDef Wy.R.prog 103).name = ("law" : PySem.Str) := by kernel_rfl
      rw [← e]
      exact hmg0
    obtain ⟨fd, hb, hF⟩ := Wy.facts KX G hmg c
    exact ⟨K, fd, Wy.sp_law K, KX, hb, fun H a ns hl _ hS => ⟨a, ns, rfl, hS, Nat.le_trans hl (by decide), fun _ => rfl⟩, hF⟩
