import PyProof.Rows.All
import Wide.All
import OpenK.AllK
import Wide.FinOn
import KE.KStateDown
import Lean
import HandS.ForMost
import HandS.ForExc
import HandS.More
import HandS.Defaults
import HandS.Head0
import HandS.Head1
import HandS.Head2
import HandS.HeadEnd
import HandS.HeadHook1
import HandS.HeadHook2
import HandS.HeadHook3
import HandS.HeadHook4
import HandS.HeadWalk
import HandS.ExcField
import KE.KExcInit
import PySem.Challenge.RW_duedeeds_k38_whole_trials
import HandS.IsInst
import HandS.Property
import HandS.ClsMeth
import HandS.FStr
import HandS.Style
import HandS.TupAny
import HandS.Deep
import HandS.WrittenGet
import HandS.RaiseMore
import HandS.Walk
import HandS.MakeKwOnly
import HandS.Comp
import HandS.Text
import HandS.SetFor
import HandS.Strs
import HandS.TupSets
import HandS.Zip0
import HandS.Dict
import PyProof.DictUpdate
import PyProof.RulesMatch
import KE.KDictPairs
import HandS.Small
import KE.KOpsOwn
import KE.KWithOwn
import HandS.HotCalls
import HandS.ExcInit
import HandS.Lambda
import HandS.CallLocal
import HandS.NestedK
set_option Elab.async false
set_option linter.all false
set_option maxRecDepth 100000
set_option maxHeartbeats 5000000
namespace DD
open PySem PySem.Spec
open PyProof.Rows L2
/-! ### the text by places -/
def top (i : Nat) : Stmt := PySem.Challenge.pw_duedeeds_k38_whole_trials.main.body.getD i (.Pass ⟨0, 0, 0, 0⟩)
def recA (K : PySem.W.Frag) (p : Addr) (t : String) : Addr := match PySem.W.recIn K p t with
  | some (.ref g :: _) => g
  | _ => 0
abbrev s_is_word : Stmt := top 22
def a_is_word (K : PySem.W.Frag) : Addr := He.ga K "is_word"
abbrev s_is_who : Stmt := top 23
def a_is_who (K : PySem.W.Frag) : Addr := He.ga K "is_who"
abbrev s_is_whole : Stmt := top 24
def a_is_whole (K : PySem.W.Frag) : Addr := He.ga K "is_whole"
abbrev s_are_unlike : Stmt := top 25
def a_are_unlike (K : PySem.W.Frag) : Addr := He.ga K "are_unlike"
abbrev s_are_whos : Stmt := top 33
def a_are_whos (K : PySem.W.Frag) : Addr := He.ga K "are_whos"
abbrev s_is_formed : Stmt := top 34
def a_is_formed (K : PySem.W.Frag) : Addr := He.ga K "is_formed"
abbrev s_children_of : Stmt := top 35
def a_children_of (K : PySem.W.Frag) : Addr := He.ga K "children_of"
abbrev s_placed_parts : Stmt := top 36
def a_placed_parts (K : PySem.W.Frag) : Addr := He.ga K "placed_parts"
abbrev s_first_unformed : Stmt := top 37
def a_first_unformed (K : PySem.W.Frag) : Addr := He.ga K "first_unformed"
abbrev s_levels_of : Stmt := top 38
def a_levels_of (K : PySem.W.Frag) : Addr := He.ga K "levels_of"
abbrev s_does_begin_done : Stmt := top 39
def a_does_begin_done (K : PySem.W.Frag) : Addr := He.ga K "does_begin_done"
abbrev s_term_fault : Stmt := top 40
def a_term_fault (K : PySem.W.Frag) : Addr := He.ga K "term_fault"
abbrev s_whos_in : Stmt := top 43
def a_whos_in (K : PySem.W.Frag) : Addr := He.ga K "whos_in"
abbrev s_ends_open : Stmt := top 44
def a_ends_open (K : PySem.W.Frag) : Addr := He.ga K "ends_open"
abbrev s_in_brackets : Stmt := top 45
def a_in_brackets (K : PySem.W.Frag) : Addr := He.ga K "in_brackets"
abbrev s_part_text : Stmt := top 46
def a_part_text (K : PySem.W.Frag) : Addr := He.ga K "part_text"
abbrev s_else_text : Stmt := top 47
def a_else_text (K : PySem.W.Frag) : Addr := He.ga K "else_text"
abbrev s_when_text : Stmt := top 48
def a_when_text (K : PySem.W.Frag) : Addr := He.ga K "when_text"
abbrev s_term_text : Stmt := top 49
def a_term_text (K : PySem.W.Frag) : Addr := He.ga K "term_text"
abbrev s_is_over : Stmt := top 50
def a_is_over (K : PySem.W.Frag) : Addr := He.ga K "is_over"
abbrev s_is_anyone : Stmt := top 51
def a_is_anyone (K : PySem.W.Frag) : Addr := He.ga K "is_anyone"
abbrev s_parties_of : Stmt := top 56
def a_parties_of (K : PySem.W.Frag) : Addr := He.ga K "parties_of"
abbrev s_breach_of : Stmt := top 57
def a_breach_of (K : PySem.W.Frag) : Addr := He.ga K "breach_of"
abbrev s_blamed_in : Stmt := top 58
def a_blamed_in (K : PySem.W.Frag) : Addr := He.ga K "blamed_in"
abbrev s_begun : Stmt := top 59
def a_begun (K : PySem.W.Frag) : Addr := He.ga K "begun"
abbrev s_begun_then : Stmt := top 60
def a_begun_then (K : PySem.W.Frag) : Addr := He.ga K "begun_then"
abbrev s_continued : Stmt := top 61
def a_continued (K : PySem.W.Frag) : Addr := He.ga K "continued"
abbrev s_joined_and : Stmt := top 62
def a_joined_and (K : PySem.W.Frag) : Addr := He.ga K "joined_and"
abbrev s_joined_or : Stmt := top 63
def a_joined_or (K : PySem.W.Frag) : Addr := He.ga K "joined_or"
abbrev s_until_of : Stmt := top 64
def a_until_of (K : PySem.W.Frag) : Addr := He.ga K "until_of"
abbrev s_in_force : Stmt := top 65
def a_in_force (K : PySem.W.Frag) : Addr := He.ga K "in_force"
abbrev s_matches : Stmt := top 66
def a_matches (K : PySem.W.Frag) : Addr := He.ga K "matches"
abbrev s_is_permitted : Stmt := top 67
def a_is_permitted (K : PySem.W.Frag) : Addr := He.ga K "is_permitted"
abbrev s_remainder_after : Stmt := top 69
def a_remainder_after (K : PySem.W.Frag) : Addr := He.ga K "remainder_after"
abbrev s_handed : Stmt := top 70
def a_handed (K : PySem.W.Frag) : Addr := He.ga K "handed"
abbrev s_stepped : Stmt := top 71
def a_stepped (K : PySem.W.Frag) : Addr := He.ga K "stepped"
abbrev s_verdict_of : Stmt := top 72
def a_verdict_of (K : PySem.W.Frag) : Addr := He.ga K "verdict_of"
abbrev s_force_row : Stmt := top 75
def a_force_row (K : PySem.W.Frag) : Addr := He.ga K "force_row"
abbrev s_under : Stmt := top 77
def a_under (K : PySem.W.Frag) : Addr := He.ga K "under"
abbrev s_need_words : Stmt := top 80
def a_need_words (K : PySem.W.Frag) : Addr := He.ga K "need_words"
abbrev s_are_parties : Stmt := top 97
def a_are_parties (K : PySem.W.Frag) : Addr := He.ga K "are_parties"
abbrev s_are_roles : Stmt := top 98
def a_are_roles (K : PySem.W.Frag) : Addr := He.ga K "are_roles"
abbrev s_first_stranger : Stmt := top 99
def a_first_stranger (K : PySem.W.Frag) : Addr := He.ga K "first_stranger"
abbrev s_L_begin : Stmt := top 102
def a_L_begin (K : PySem.W.Frag) : Addr := He.ga K "_law_begin"
abbrev s_L_next : Stmt := top 103
def a_L_next (K : PySem.W.Frag) : Addr := He.ga K "_law_next"
abbrev s_L_pick : Stmt := top 104
def a_L_pick (K : PySem.W.Frag) : Addr := He.ga K "_law_pick"
abbrev s_L_reserved : Stmt := top 105
def a_L_reserved (K : PySem.W.Frag) : Addr := He.ga K "_law_reserved"
abbrev s_L_words : Stmt := top 106
def a_L_words (K : PySem.W.Frag) : Addr := He.ga K "_law_words"
abbrev s_L_world : Stmt := top 107
def a_L_world (K : PySem.W.Frag) : Addr := He.ga K "_law_world"
abbrev s_L_who : Stmt := top 108
def a_L_who (K : PySem.W.Frag) : Addr := He.ga K "_law_who"
abbrev s_L_leaf : Stmt := top 109
def a_L_leaf (K : PySem.W.Frag) : Addr := He.ga K "_law_leaf"
abbrev s_L_starts_done : Stmt := top 110
def a_L_starts_done (K : PySem.W.Frag) : Addr := He.ga K "_law_starts_done"
abbrev s_L_term : Stmt := top 111
def a_L_term (K : PySem.W.Frag) : Addr := He.ga K "_law_term"
abbrev s_L_alphabet : Stmt := top 112
def a_L_alphabet (K : PySem.W.Frag) : Addr := He.ga K "_law_alphabet"
abbrev s_L_event : Stmt := top 113
def a_L_event (K : PySem.W.Frag) : Addr := He.ga K "_law_event"
abbrev s_L_row : Stmt := top 114
def a_L_row (K : PySem.W.Frag) : Addr := He.ga K "_law_row"
abbrev s_L_contract : Stmt := top 115
def a_L_contract (K : PySem.W.Frag) : Addr := He.ga K "_law_contract"
abbrev s_L_shown : Stmt := top 116
def a_L_shown (K : PySem.W.Frag) : Addr := He.ga K "_law_shown"
abbrev s_L_led : Stmt := top 117
def a_L_led (K : PySem.W.Frag) : Addr := He.ga K "_law_led"
abbrev s_L_back : Stmt := top 118
def a_L_back (K : PySem.W.Frag) : Addr := He.ga K "_law_back"
abbrev s_L_far_back : Stmt := top 119
def a_L_far_back (K : PySem.W.Frag) : Addr := He.ga K "_law_far_back"
abbrev s_L_within : Stmt := top 120
def a_L_within (K : PySem.W.Frag) : Addr := He.ga K "_law_within"
abbrev s_L_refusal_right : Stmt := top 121
def a_L_refusal_right (K : PySem.W.Frag) : Addr := He.ga K "_law_refusal_right"
abbrev s_L_blocks_right : Stmt := top 122
def a_L_blocks_right (K : PySem.W.Frag) : Addr := He.ga K "_law_blocks_right"
abbrev s_law : Stmt := top 123
def a_law (K : PySem.W.Frag) : Addr := He.ga K "law"
abbrev s_Step_init : Stmt := inClass (top 68) 0
def a_Step_init (K : PySem.W.Frag) : Addr := He.ma K (He.ga K "Step") "__init__"
abbrev s_Step_begin : Stmt := inClass (top 68) 1
def a_Step_begin (K : PySem.W.Frag) : Addr := He.ma K (He.ga K "Step") "begin"
abbrev s_Step_is_act_of : Stmt := inClass (top 68) 2
def a_Step_is_act_of (K : PySem.W.Frag) : Addr := He.ma K (He.ga K "Step") "is_act_of"
abbrev s_Step_after_day : Stmt := inClass (top 68) 3
def a_Step_after_day (K : PySem.W.Frag) : Addr := He.ma K (He.ga K "Step") "after_day"
abbrev s_Step_after_act : Stmt := inClass (top 68) 4
def a_Step_after_act (K : PySem.W.Frag) : Addr := He.ma K (He.ga K "Step") "after_act"
abbrev s_Step_after : Stmt := inClass (top 68) 5
def a_Step_after (K : PySem.W.Frag) : Addr := He.ma K (He.ga K "Step") "after"
abbrev s_Trial_init : Stmt := inClass (top 74) 0
def a_Trial_init (K : PySem.W.Frag) : Addr := He.ma K (He.ga K "Trial") "__init__"
abbrev s_Trial_enter : Stmt := inClass (top 74) 1
def a_Trial_enter (K : PySem.W.Frag) : Addr := He.ma K (He.ga K "Trial") "__enter__"
abbrev s_Trial_exit : Stmt := inClass (top 74) 2
def a_Trial_exit (K : PySem.W.Frag) : Addr := He.ma K (He.ga K "Trial") "__exit__"
abbrev s_Case_init : Stmt := inClass (top 76) 0
def a_Case_init (K : PySem.W.Frag) : Addr := He.ma K (He.ga K "Case") "__init__"
abbrev s_Case_state_after : Stmt := inClass (top 76) 8
def a_Case_state_after (K : PySem.W.Frag) : Addr := He.ma K (He.ga K "Case") "state_after"
abbrev s_Case_come : Stmt := inClass (top 76) 10
def a_Case_come (K : PySem.W.Frag) : Addr := He.ma K (He.ga K "Case") "come"
abbrev s_Case_back : Stmt := inClass (top 76) 11
def a_Case_back (K : PySem.W.Frag) : Addr := He.ma K (He.ga K "Case") "back"
abbrev s_Case_trial : Stmt := inClass (top 76) 13
def a_Case_trial (K : PySem.W.Frag) : Addr := He.ma K (He.ga K "Case") "trial"
abbrev s_Case_standing : Stmt := inClass (top 76) 7
def a_Case_standing (K : PySem.W.Frag) : Addr := He.ma K (He.ga K "Case") "standing"
abbrev s_Case_len : Stmt := inClass (top 76) 14
def a_Case_len (K : PySem.W.Frag) : Addr := He.ma K (He.ga K "Case") "__len__"
abbrev s_Case_iadd : Stmt := inClass (top 76) 18
def a_Case_iadd (K : PySem.W.Frag) : Addr := He.ma K (He.ga K "Case") "__iadd__"
abbrev s_Case_isub : Stmt := inClass (top 76) 19
def a_Case_isub (K : PySem.W.Frag) : Addr := He.ma K (He.ga K "Case") "__isub__"
abbrev s_Event_init : Stmt := inClass (top 81) 0
def a_Event_init (K : PySem.W.Frag) : Addr := He.ma K (He.ga K "Event") "__init__"
abbrev s_Term_init : Stmt := inClass (top 95) 0
def a_Term_init (K : PySem.W.Frag) : Addr := He.ma K (He.ga K "Term") "__init__"
abbrev s_Contract_init : Stmt := inClass (top 100) 0
def a_Contract_init (K : PySem.W.Frag) : Addr := He.ma K (He.ga K "Contract") "__init__"
abbrev s_Contract_role_names : Stmt := inClass (top 100) 6
def a_Contract_role_names (K : PySem.W.Frag) : Addr := He.ma K (He.ga K "Contract") "role_names"
abbrev s_Contract_first_state : Stmt := inClass (top 100) 7
def a_Contract_first_state (K : PySem.W.Frag) : Addr := He.ma K (He.ga K "Contract") "first_state"
abbrev s_Contract_need_event : Stmt := inClass (top 100) 8
def a_Contract_need_event (K : PySem.W.Frag) : Addr := He.ma K (He.ga K "Contract") "need_event"
abbrev s_Contract_next_state : Stmt := inClass (top 100) 10
def a_Contract_next_state (K : PySem.W.Frag) : Addr := He.ma K (He.ga K "Contract") "next_state"
abbrev s_NothingToUndo_init : Stmt := inClass (top 11) 0
def a_NothingToUndo_init (K : PySem.W.Frag) : Addr := He.ma K (He.ga K "NothingToUndo") "__init__"
abbrev s_Case_events : Stmt := inClass (top 76) 2
def a_Case_events (K : PySem.W.Frag) : Addr := recA K (He.ma K (He.ga K "Case") "events") "property"
abbrev s_Case_verdict : Stmt := inClass (top 76) 3
def a_Case_verdict (K : PySem.W.Frag) : Addr := recA K (He.ma K (He.ga K "Case") "verdict") "property"
abbrev s_Case_since : Stmt := inClass (top 76) 4
def a_Case_since (K : PySem.W.Frag) : Addr := recA K (He.ma K (He.ga K "Case") "since") "property"
abbrev s_Case_remainder : Stmt := inClass (top 76) 5
def a_Case_remainder (K : PySem.W.Frag) : Addr := recA K (He.ma K (He.ga K "Case") "remainder") "property"
abbrev s_Event_words : Stmt := inClass (top 81) 5
def a_Event_words (K : PySem.W.Frag) : Addr := recA K (He.ma K (He.ga K "Event") "words") "property"
abbrev s_Term_of : Stmt := inClass (top 95) 1
def a_Term_of (K : PySem.W.Frag) : Addr := recA K (He.ma K (He.ga K "Term") "of") "classmethod"
abbrev s_Event_act : Stmt := inClass (top 81) 1
def a_Event_act (K : PySem.W.Frag) : Addr := recA K (He.ma K (He.ga K "Event") "act") "staticmethod"
abbrev s_Event_hand : Stmt := inClass (top 81) 2
def a_Event_hand (K : PySem.W.Frag) : Addr := recA K (He.ma K (He.ga K "Event") "hand") "staticmethod"
abbrev s_Event_day : Stmt := inClass (top 81) 3
def a_Event_day (K : PySem.W.Frag) : Addr := recA K (He.ma K (He.ga K "Event") "day") "staticmethod"
def c_Step (K : PySem.W.Frag) : Addr := He.ga K "Step"
def c_Trial (K : PySem.W.Frag) : Addr := He.ga K "Trial"
def c_Case (K : PySem.W.Frag) : Addr := He.ga K "Case"
def c_Event (K : PySem.W.Frag) : Addr := He.ga K "Event"
def c_Term (K : PySem.W.Frag) : Addr := He.ga K "Term"
def c_Contract (K : PySem.W.Frag) : Addr := He.ga K "Contract"
def c_NothingToUndo (K : PySem.W.Frag) : Addr := He.ga K "NothingToUndo"
def o_RESERVED (K : PySem.W.Frag) : Addr := He.ga K "RESERVED"
def o_DONE (K : PySem.W.Frag) : Addr := He.ga K "DONE"
def o_GROUPS (K : PySem.W.Frag) : Addr := He.ga K "GROUPS"
def o_DUTIES (K : PySem.W.Frag) : Addr := He.ga K "DUTIES"
def o_SIZES (K : PySem.W.Frag) : Addr := He.ga K "SIZES"
def o_RANKS (K : PySem.W.Frag) : Addr := He.ga K "RANKS"
def fdOf (K : PySem.W.Frag) (a : Addr) : FuncData := match K.lookup a with
  | some ⟨_, _, .func fd, _⟩ => fd
  | _ => default
/-! ### what the head is asked -/
structure Ent where
  at_ : PySem.W.Frag → Addr
  name : Str
  qual : Str
  st : Stmt
def ents0 : List Ent := [⟨a_is_word, Str.ofString "is_word", Str.ofString "is_word", s_is_word⟩, ⟨a_is_who, Str.ofString "is_who", Str.ofString "is_who", s_is_who⟩, ⟨a_is_whole, Str.ofString "is_whole", Str.ofString "is_whole", s_is_whole⟩, ⟨a_are_unlike, Str.ofString "are_unlike", Str.ofString "are_unlike", s_are_unlike⟩, ⟨a_are_whos, Str.ofString "are_whos", Str.ofString "are_whos", s_are_whos⟩, ⟨a_is_formed, Str.ofString "is_formed", Str.ofString "is_formed", s_is_formed⟩, ⟨a_children_of, Str.ofString "children_of", Str.ofString "children_of", s_children_of⟩, ⟨a_placed_parts, Str.ofString "placed_parts", Str.ofString "placed_parts", s_placed_parts⟩, ⟨a_first_unformed, Str.ofString "first_unformed", Str.ofString "first_unformed", s_first_unformed⟩, ⟨a_levels_of, Str.ofString "levels_of", Str.ofString "levels_of", s_levels_of⟩]
def ents1 : List Ent := [⟨a_does_begin_done, Str.ofString "does_begin_done", Str.ofString "does_begin_done", s_does_begin_done⟩, ⟨a_term_fault, Str.ofString "term_fault", Str.ofString "term_fault", s_term_fault⟩, ⟨a_whos_in, Str.ofString "whos_in", Str.ofString "whos_in", s_whos_in⟩, ⟨a_ends_open, Str.ofString "ends_open", Str.ofString "ends_open", s_ends_open⟩, ⟨a_in_brackets, Str.ofString "in_brackets", Str.ofString "in_brackets", s_in_brackets⟩, ⟨a_part_text, Str.ofString "part_text", Str.ofString "part_text", s_part_text⟩, ⟨a_else_text, Str.ofString "else_text", Str.ofString "else_text", s_else_text⟩, ⟨a_when_text, Str.ofString "when_text", Str.ofString "when_text", s_when_text⟩, ⟨a_term_text, Str.ofString "term_text", Str.ofString "term_text", s_term_text⟩, ⟨a_is_over, Str.ofString "is_over", Str.ofString "is_over", s_is_over⟩]
def ents2 : List Ent := [⟨a_is_anyone, Str.ofString "is_anyone", Str.ofString "is_anyone", s_is_anyone⟩, ⟨a_parties_of, Str.ofString "parties_of", Str.ofString "parties_of", s_parties_of⟩, ⟨a_breach_of, Str.ofString "breach_of", Str.ofString "breach_of", s_breach_of⟩, ⟨a_blamed_in, Str.ofString "blamed_in", Str.ofString "blamed_in", s_blamed_in⟩, ⟨a_begun, Str.ofString "begun", Str.ofString "begun", s_begun⟩, ⟨a_begun_then, Str.ofString "begun_then", Str.ofString "begun_then", s_begun_then⟩, ⟨a_continued, Str.ofString "continued", Str.ofString "continued", s_continued⟩, ⟨a_joined_and, Str.ofString "joined_and", Str.ofString "joined_and", s_joined_and⟩, ⟨a_joined_or, Str.ofString "joined_or", Str.ofString "joined_or", s_joined_or⟩, ⟨a_until_of, Str.ofString "until_of", Str.ofString "until_of", s_until_of⟩]
def ents3 : List Ent := [⟨a_in_force, Str.ofString "in_force", Str.ofString "in_force", s_in_force⟩, ⟨a_matches, Str.ofString "matches", Str.ofString "matches", s_matches⟩, ⟨a_is_permitted, Str.ofString "is_permitted", Str.ofString "is_permitted", s_is_permitted⟩, ⟨a_remainder_after, Str.ofString "remainder_after", Str.ofString "remainder_after", s_remainder_after⟩, ⟨a_handed, Str.ofString "handed", Str.ofString "handed", s_handed⟩, ⟨a_stepped, Str.ofString "stepped", Str.ofString "stepped", s_stepped⟩, ⟨a_verdict_of, Str.ofString "verdict_of", Str.ofString "verdict_of", s_verdict_of⟩, ⟨a_force_row, Str.ofString "force_row", Str.ofString "force_row", s_force_row⟩, ⟨a_under, Str.ofString "under", Str.ofString "under", s_under⟩, ⟨a_need_words, Str.ofString "need_words", Str.ofString "need_words", s_need_words⟩]
def ents4 : List Ent := [⟨a_are_parties, Str.ofString "are_parties", Str.ofString "are_parties", s_are_parties⟩, ⟨a_are_roles, Str.ofString "are_roles", Str.ofString "are_roles", s_are_roles⟩, ⟨a_first_stranger, Str.ofString "first_stranger", Str.ofString "first_stranger", s_first_stranger⟩, ⟨a_L_begin, Str.ofString "_law_begin", Str.ofString "_law_begin", s_L_begin⟩, ⟨a_L_next, Str.ofString "_law_next", Str.ofString "_law_next", s_L_next⟩, ⟨a_L_pick, Str.ofString "_law_pick", Str.ofString "_law_pick", s_L_pick⟩, ⟨a_L_reserved, Str.ofString "_law_reserved", Str.ofString "_law_reserved", s_L_reserved⟩, ⟨a_L_words, Str.ofString "_law_words", Str.ofString "_law_words", s_L_words⟩, ⟨a_L_world, Str.ofString "_law_world", Str.ofString "_law_world", s_L_world⟩, ⟨a_L_who, Str.ofString "_law_who", Str.ofString "_law_who", s_L_who⟩]
def ents5 : List Ent := [⟨a_L_leaf, Str.ofString "_law_leaf", Str.ofString "_law_leaf", s_L_leaf⟩, ⟨a_L_starts_done, Str.ofString "_law_starts_done", Str.ofString "_law_starts_done", s_L_starts_done⟩, ⟨a_L_term, Str.ofString "_law_term", Str.ofString "_law_term", s_L_term⟩, ⟨a_L_alphabet, Str.ofString "_law_alphabet", Str.ofString "_law_alphabet", s_L_alphabet⟩, ⟨a_L_event, Str.ofString "_law_event", Str.ofString "_law_event", s_L_event⟩, ⟨a_L_row, Str.ofString "_law_row", Str.ofString "_law_row", s_L_row⟩, ⟨a_L_contract, Str.ofString "_law_contract", Str.ofString "_law_contract", s_L_contract⟩, ⟨a_L_shown, Str.ofString "_law_shown", Str.ofString "_law_shown", s_L_shown⟩, ⟨a_L_led, Str.ofString "_law_led", Str.ofString "_law_led", s_L_led⟩, ⟨a_L_back, Str.ofString "_law_back", Str.ofString "_law_back", s_L_back⟩]
def ents6 : List Ent := [⟨a_L_far_back, Str.ofString "_law_far_back", Str.ofString "_law_far_back", s_L_far_back⟩, ⟨a_L_within, Str.ofString "_law_within", Str.ofString "_law_within", s_L_within⟩, ⟨a_L_refusal_right, Str.ofString "_law_refusal_right", Str.ofString "_law_refusal_right", s_L_refusal_right⟩, ⟨a_L_blocks_right, Str.ofString "_law_blocks_right", Str.ofString "_law_blocks_right", s_L_blocks_right⟩, ⟨a_law, Str.ofString "law", Str.ofString "law", s_law⟩, ⟨a_Step_init, Str.ofString "__init__", Str.ofString "Step.__init__", s_Step_init⟩, ⟨a_Step_begin, Str.ofString "begin", Str.ofString "Step.begin", s_Step_begin⟩, ⟨a_Step_is_act_of, Str.ofString "is_act_of", Str.ofString "Step.is_act_of", s_Step_is_act_of⟩, ⟨a_Step_after_day, Str.ofString "after_day", Str.ofString "Step.after_day", s_Step_after_day⟩, ⟨a_Step_after_act, Str.ofString "after_act", Str.ofString "Step.after_act", s_Step_after_act⟩]
def ents7 : List Ent := [⟨a_Step_after, Str.ofString "after", Str.ofString "Step.after", s_Step_after⟩, ⟨a_Trial_init, Str.ofString "__init__", Str.ofString "Trial.__init__", s_Trial_init⟩, ⟨a_Trial_enter, Str.ofString "__enter__", Str.ofString "Trial.__enter__", s_Trial_enter⟩, ⟨a_Trial_exit, Str.ofString "__exit__", Str.ofString "Trial.__exit__", s_Trial_exit⟩, ⟨a_Case_init, Str.ofString "__init__", Str.ofString "Case.__init__", s_Case_init⟩, ⟨a_Case_state_after, Str.ofString "state_after", Str.ofString "Case.state_after", s_Case_state_after⟩, ⟨a_Case_come, Str.ofString "come", Str.ofString "Case.come", s_Case_come⟩, ⟨a_Case_back, Str.ofString "back", Str.ofString "Case.back", s_Case_back⟩, ⟨a_Case_trial, Str.ofString "trial", Str.ofString "Case.trial", s_Case_trial⟩, ⟨a_Case_standing, Str.ofString "standing", Str.ofString "Case.standing", s_Case_standing⟩]
def ents8 : List Ent := [⟨a_Case_len, Str.ofString "__len__", Str.ofString "Case.__len__", s_Case_len⟩, ⟨a_Case_iadd, Str.ofString "__iadd__", Str.ofString "Case.__iadd__", s_Case_iadd⟩, ⟨a_Case_isub, Str.ofString "__isub__", Str.ofString "Case.__isub__", s_Case_isub⟩, ⟨a_Event_init, Str.ofString "__init__", Str.ofString "Event.__init__", s_Event_init⟩, ⟨a_Term_init, Str.ofString "__init__", Str.ofString "Term.__init__", s_Term_init⟩, ⟨a_Contract_init, Str.ofString "__init__", Str.ofString "Contract.__init__", s_Contract_init⟩, ⟨a_Contract_role_names, Str.ofString "role_names", Str.ofString "Contract.role_names", s_Contract_role_names⟩, ⟨a_Contract_first_state, Str.ofString "first_state", Str.ofString "Contract.first_state", s_Contract_first_state⟩, ⟨a_Contract_need_event, Str.ofString "need_event", Str.ofString "Contract.need_event", s_Contract_need_event⟩, ⟨a_Contract_next_state, Str.ofString "next_state", Str.ofString "Contract.next_state", s_Contract_next_state⟩]
def ents9 : List Ent := [⟨a_NothingToUndo_init, Str.ofString "__init__", Str.ofString "NothingToUndo.__init__", s_NothingToUndo_init⟩, ⟨a_Case_events, Str.ofString "events", Str.ofString "Case.events", s_Case_events⟩, ⟨a_Case_verdict, Str.ofString "verdict", Str.ofString "Case.verdict", s_Case_verdict⟩, ⟨a_Case_since, Str.ofString "since", Str.ofString "Case.since", s_Case_since⟩, ⟨a_Case_remainder, Str.ofString "remainder", Str.ofString "Case.remainder", s_Case_remainder⟩, ⟨a_Event_words, Str.ofString "words", Str.ofString "Event.words", s_Event_words⟩, ⟨a_Term_of, Str.ofString "of", Str.ofString "Term.of", s_Term_of⟩, ⟨a_Event_act, Str.ofString "act", Str.ofString "Event.act", s_Event_act⟩, ⟨a_Event_hand, Str.ofString "hand", Str.ofString "Event.hand", s_Event_hand⟩, ⟨a_Event_day, Str.ofString "day", Str.ofString "Event.day", s_Event_day⟩]
def ents : List Ent := ents0 ++ (ents1 ++ (ents2 ++ (ents3 ++ (ents4 ++ (ents5 ++ (ents6 ++ (ents7 ++ (ents8 ++ (ents9)))))))))
def fa0 : List He.Fa := [.glo (Str.ofString "is_word"), .glo (Str.ofString "is_who"), .glo (Str.ofString "is_whole"), .glo (Str.ofString "are_unlike"), .glo (Str.ofString "are_whos"), .glo (Str.ofString "is_formed"), .glo (Str.ofString "children_of"), .glo (Str.ofString "placed_parts"), .glo (Str.ofString "first_unformed"), .glo (Str.ofString "levels_of")]
def fa1 : List He.Fa := [.glo (Str.ofString "does_begin_done"), .glo (Str.ofString "term_fault"), .glo (Str.ofString "whos_in"), .glo (Str.ofString "ends_open"), .glo (Str.ofString "in_brackets"), .glo (Str.ofString "part_text"), .glo (Str.ofString "else_text"), .glo (Str.ofString "when_text"), .glo (Str.ofString "term_text"), .glo (Str.ofString "is_over")]
def fa2 : List He.Fa := [.glo (Str.ofString "is_anyone"), .glo (Str.ofString "parties_of"), .glo (Str.ofString "breach_of"), .glo (Str.ofString "blamed_in"), .glo (Str.ofString "begun"), .glo (Str.ofString "begun_then"), .glo (Str.ofString "continued"), .glo (Str.ofString "joined_and"), .glo (Str.ofString "joined_or"), .glo (Str.ofString "until_of")]
def fa3 : List He.Fa := [.glo (Str.ofString "in_force"), .glo (Str.ofString "matches"), .glo (Str.ofString "is_permitted"), .glo (Str.ofString "remainder_after"), .glo (Str.ofString "handed"), .glo (Str.ofString "stepped"), .glo (Str.ofString "verdict_of"), .glo (Str.ofString "force_row"), .glo (Str.ofString "under"), .glo (Str.ofString "need_words")]
def fa4 : List He.Fa := [.glo (Str.ofString "are_parties"), .glo (Str.ofString "are_roles"), .glo (Str.ofString "first_stranger"), .glo (Str.ofString "_law_begin"), .glo (Str.ofString "_law_next"), .glo (Str.ofString "_law_pick"), .glo (Str.ofString "_law_reserved"), .glo (Str.ofString "_law_words"), .glo (Str.ofString "_law_world"), .glo (Str.ofString "_law_who")]
def fa5 : List He.Fa := [.glo (Str.ofString "_law_leaf"), .glo (Str.ofString "_law_starts_done"), .glo (Str.ofString "_law_term"), .glo (Str.ofString "_law_alphabet"), .glo (Str.ofString "_law_event"), .glo (Str.ofString "_law_row"), .glo (Str.ofString "_law_contract"), .glo (Str.ofString "_law_shown"), .glo (Str.ofString "_law_led"), .glo (Str.ofString "_law_back")]
def fa6 : List He.Fa := [.glo (Str.ofString "_law_far_back"), .glo (Str.ofString "_law_within"), .glo (Str.ofString "_law_refusal_right"), .glo (Str.ofString "_law_blocks_right"), .glo (Str.ofString "law"), .glo (Str.ofString "Step"), .glo (Str.ofString "Trial"), .glo (Str.ofString "Case"), .glo (Str.ofString "Event"), .glo (Str.ofString "Term")]
def fa7 : List He.Fa := [.glo (Str.ofString "Contract"), .glo (Str.ofString "NothingToUndo"), .glo (Str.ofString "RESERVED"), .glo (Str.ofString "DONE"), .glo (Str.ofString "GROUPS"), .glo (Str.ofString "DUTIES"), .glo (Str.ofString "SIZES"), .glo (Str.ofString "RANKS"), .free (Str.ofString "all"), .free (Str.ofString "any")]
def fa8 : List He.Fa := [.free (Str.ofString "dict"), .free (Str.ofString "enumerate"), .free (Str.ofString "int"), .free (Str.ofString "isinstance"), .free (Str.ofString "bool"), .free (Str.ofString "len"), .free (Str.ofString "list"), .free (Str.ofString "max"), .free (Str.ofString "range"), .free (Str.ofString "set")]
def fa9 : List He.Fa := [.free (Str.ofString "sorted"), .free (Str.ofString "str"), .free (Str.ofString "tuple"), .int (Str.ofString "LONGEST") (12), .int (Str.ofString "MAX_DAYS") (30), .int (Str.ofString "MAX_TIMES") (9), .int (Str.ofString "MAX_PARTS") (40), .int (Str.ofString "MAX_LEVELS") (8), .int (Str.ofString "MOST_WHOS") (4), .int (Str.ofString "MOST_PARTIES") (4)]
def fa10 : List He.Fa := [.int (Str.ofString "MOST_ROLES") (3), .str (Str.ofString "LETTERS") (Str.ofString "abcdefghijklmnopqrstuvwxyz"), .str (Str.ofString "ANYONE") (Str.ofString "anyone"), .str (Str.ofString "DAY") (Str.ofString "day"), .str (Str.ofString "ACT") (Str.ofString "act"), .str (Str.ofString "HANDS") (Str.ofString "hands"), .cls (Str.ofString "Step"), .mkr (Str.ofString "Step"), .cls (Str.ofString "Trial"), .mkr (Str.ofString "Trial")]
def fa11 : List He.Fa := [.cls (Str.ofString "Case"), .mkr (Str.ofString "Case"), .cls (Str.ofString "Event"), .mkr (Str.ofString "Event"), .cls (Str.ofString "Term"), .mkr (Str.ofString "Term"), .cls (Str.ofString "Contract"), .mkr (Str.ofString "Contract"), .noat (Str.ofString "Step") (Str.ofString "own_words"), .noat (Str.ofString "Step") (Str.ofString "own_parties")]
def fa12 : List He.Fa := [.noat (Str.ofString "Step") (Str.ofString "own_holders"), .noat (Str.ofString "Step") (Str.ofString "is_let"), .noat (Str.ofString "Trial") (Str.ofString "own_case"), .noat (Str.ofString "Trial") (Str.ofString "kept_events"), .noat (Str.ofString "Trial") (Str.ofString "kept_states"), .noat (Str.ofString "Case") (Str.ofString "own_contract"), .noat (Str.ofString "Case") (Str.ofString "own_events"), .noat (Str.ofString "Case") (Str.ofString "own_states"), .noat (Str.ofString "Event") (Str.ofString "own_words"), .noat (Str.ofString "Event") (Str.ofString "own_rank")]
def fa13 : List He.Fa := [.noat (Str.ofString "Term") (Str.ofString "own_told"), .noat (Str.ofString "Contract") (Str.ofString "own_parties"), .noat (Str.ofString "Contract") (Str.ofString "own_roles"), .noat (Str.ofString "Contract") (Str.ofString "own_term"), .meth (Str.ofString "Step") (Str.ofString "__init__"), .meth (Str.ofString "Step") (Str.ofString "begin"), .meth (Str.ofString "Step") (Str.ofString "is_act_of"), .meth (Str.ofString "Step") (Str.ofString "after_day"), .meth (Str.ofString "Step") (Str.ofString "after_act"), .meth (Str.ofString "Step") (Str.ofString "after")]
def fa14 : List He.Fa := [.meth (Str.ofString "Trial") (Str.ofString "__init__"), .meth (Str.ofString "Trial") (Str.ofString "__enter__"), .meth (Str.ofString "Trial") (Str.ofString "__exit__"), .meth (Str.ofString "Case") (Str.ofString "__init__"), .meth (Str.ofString "Case") (Str.ofString "state_after"), .meth (Str.ofString "Case") (Str.ofString "come"), .meth (Str.ofString "Case") (Str.ofString "back"), .meth (Str.ofString "Case") (Str.ofString "trial"), .meth (Str.ofString "Case") (Str.ofString "standing"), .meth (Str.ofString "Case") (Str.ofString "__len__")]
def fa15 : List He.Fa := [.meth (Str.ofString "Case") (Str.ofString "__iadd__"), .meth (Str.ofString "Case") (Str.ofString "__isub__"), .meth (Str.ofString "Event") (Str.ofString "__init__"), .meth (Str.ofString "Term") (Str.ofString "__init__"), .meth (Str.ofString "Contract") (Str.ofString "__init__"), .meth (Str.ofString "Contract") (Str.ofString "role_names"), .meth (Str.ofString "Contract") (Str.ofString "first_state"), .meth (Str.ofString "Contract") (Str.ofString "need_event"), .meth (Str.ofString "Contract") (Str.ofString "next_state")]
def fas : List He.Fa := fa0 ++ (fa1 ++ (fa2 ++ (fa3 ++ (fa4 ++ (fa5 ++ (fa6 ++ (fa7 ++ (fa8 ++ (fa9 ++ (fa10 ++ (fa11 ++ (fa12 ++ (fa13 ++ (fa14 ++ (fa15)))))))))))))))
/-- a property -/
def propB (K : PySem.W.Frag) (C : Addr) (f : Str) : Bool := He.eqO (PySem.W.findIn K (.ref C) f) (some (some (.ref (He.ma K C f)))) && (He.eqO (PySem.W.specialIn K (.ref (He.ma K C f)) "__get__") (some (some (.builtin "property.__get__"))) &&
  (decide (PySem.W.takesIn K (.ref (He.ma K C f)) = some true) && (match PySem.W.recIn K (He.ma K C f) "property" with
    | some (.ref g :: _) => decide (g = recA K (He.ma K C f) "property")
    | _ => false)))
def getB (K : PySem.W.Frag) (C : Addr) (m : Str) (kind : String) (get : String) : Bool := (match PySem.W.findCls K (.ref C) (.type "type") m with
    | some (.get (.builtin b) (.ref p) .none (.ref D)) => decide (b = get) && (decide (p = He.ma K C m) && decide (D = C))
    | _ => false) && ((match PySem.W.recIn K (He.ma K C m) kind with
    | some (.ref g :: _) => decide (g = recA K (He.ma K C m) kind)
    | _ => false) && PySem.W.fnIn K (recA K (He.ma K C m) kind))
def readB (K : PySem.W.Frag) (C : Addr) : Bool := PySem.W.readsIn K C (.type "type") && He.eqO (PySem.W.specialIn K (.ref C) "__getattribute__") (some (some (.builtin "type.__getattribute__")))
def instB (K : PySem.W.Frag) (C : Addr) : Bool := He.eqO (PySem.W.findIn K (.ref C) "__class__") (some (some (.builtin "object.__class__"))) && (He.eqO (PySem.W.specialIn K (.builtin "object.__class__") "__get__") (some (some (.builtin "getset_descriptor.__get__"))) &&
  (decide (PySem.W.takesIn K (.builtin "object.__class__") = some true) && decide (PySem.W.mroIn K C (.type "object") = some true)))
def x_tup_RESERVED : PySem.W.Frag → Bool := fun K => He.tupB K "RESERVED" [.str (Str.ofString "act"), .str (Str.ofString "and"), .str (Str.ofString "anyone"), .str (Str.ofString "breach"), .str (Str.ofString "day"), .str (Str.ofString "does"), .str (Str.ofString "done"), .str (Str.ofString "else"), .str (Str.ofString "for"), .str (Str.ofString "forever"), .str (Str.ofString "hands"), .str (Str.ofString "may"), .str (Str.ofString "must"), .str (Str.ofString "not"), .str (Str.ofString "or"), .str (Str.ofString "parties"), .str (Str.ofString "repeat"), .str (Str.ofString "role"), .str (Str.ofString "so"), .str (Str.ofString "term"), .str (Str.ofString "then"), .str (Str.ofString "to"), .str (Str.ofString "until"), .str (Str.ofString "wait"), .str (Str.ofString "when"), .str (Str.ofString "within")]
def x_tup_DONE : PySem.W.Frag → Bool := fun K => He.tupB K "DONE" [.str (Str.ofString "done")]
def x_tup_GROUPS : PySem.W.Frag → Bool := fun K => He.tupB K "GROUPS" [.str (Str.ofString "then"), .str (Str.ofString "and"), .str (Str.ofString "or")]
def x_tup_DUTIES : PySem.W.Frag → Bool := fun K => He.tupB K "DUTIES" [.str (Str.ofString "must"), .str (Str.ofString "ban")]
def x_val_SIZES : PySem.W.Frag → Bool := fun K => He.valsB K (o_SIZES K) [(Str.ofString "done", .int 1), (Str.ofString "breach", .int 2), (Str.ofString "wait", .int 2), (Str.ofString "must", .int 5), (Str.ofString "ban", .int 5), (Str.ofString "may", .int 4), (Str.ofString "when", .int 6), (Str.ofString "then", .int 2), (Str.ofString "and", .int 2), (Str.ofString "or", .int 2), (Str.ofString "until", .int 4), (Str.ofString "repeat", .int 3), (Str.ofString "forever", .int 2)]
def x_val_RANKS : PySem.W.Frag → Bool := fun K => He.valsB K (o_RANKS K) [(Str.ofString "act", .int 0), (Str.ofString "hands", .int 1), (Str.ofString "day", .int 2)]
def x_prop_Case_events : PySem.W.Frag → Bool := fun K => propB K (c_Case K) "events"
def x_prop_Case_verdict : PySem.W.Frag → Bool := fun K => propB K (c_Case K) "verdict"
def x_prop_Case_since : PySem.W.Frag → Bool := fun K => propB K (c_Case K) "since"
def x_prop_Case_remainder : PySem.W.Frag → Bool := fun K => propB K (c_Case K) "remainder"
def x_prop_Event_words : PySem.W.Frag → Bool := fun K => propB K (c_Event K) "words"
def x_cm_Term_of : PySem.W.Frag → Bool := fun K => getB K (c_Term K) "of" "classmethod" "classmethod.__get__"
def x_sm_Event_act : PySem.W.Frag → Bool := fun K => getB K (c_Event K) "act" "staticmethod" "staticmethod.__get__"
def x_sm_Event_hand : PySem.W.Frag → Bool := fun K => getB K (c_Event K) "hand" "staticmethod" "staticmethod.__get__"
def x_sm_Event_day : PySem.W.Frag → Bool := fun K => getB K (c_Event K) "day" "staticmethod" "staticmethod.__get__"
def x_read_Term : PySem.W.Frag → Bool := fun K => readB K (c_Term K)
def x_inst_Term : PySem.W.Frag → Bool := fun K => instB K (c_Term K)
def x_read_Event : PySem.W.Frag → Bool := fun K => readB K (c_Event K)
def x_inst_Event : PySem.W.Frag → Bool := fun K => instB K (c_Event K)
def x_self_Case : PySem.W.Frag → Bool := fun K => PySem.W.selfFirst K (c_Case K)
def x_noseq_Case : PySem.W.Frag → Bool := fun K => PySem.W.noSeq K (c_Case K)
def x_exc_N : PySem.W.Frag → Bool := fun K => PySem.W.excInitIn K (c_NothingToUndo K) [.type "RuntimeError", .type "Exception", .type "BaseException", .type "object"] "RuntimeError.__new__"
def x_excO_N : PySem.W.Frag → Bool := fun K => PySem.W.excOver K (c_NothingToUndo K) [.type "RuntimeError", .type "Exception", .type "BaseException", .type "object"]
def x_excS_N : PySem.W.Frag → Bool := fun K => He.eqO (PySem.W.findIn K (.ref (c_NothingToUndo K)) "__setattr__") (some (some (.builtin "object.__setattr__")))
def x_excI_N : PySem.W.Frag → Bool := fun K => He.eqO (PySem.W.findIn K (.ref (c_NothingToUndo K)) "__init__") (some (some (.ref (a_NothingToUndo_init K)))) && PySem.W.isFn K (.ref (a_NothingToUndo_init K))
def x_excC_N : PySem.W.Frag → Bool := fun K => He.eqO (PySem.W.findIn K (.ref (c_NothingToUndo K)) "count") (some none)
def x_excT_N : PySem.W.Frag → Bool := fun K => decide (PySem.W.typeIn K (.ref (c_NothingToUndo K)) = some (.type "type"))
def x_excK_N : PySem.W.Frag → Bool := fun K => PySem.W.keepIn K (.ref (c_NothingToUndo K))
def x_excM_N : PySem.W.Frag → Bool := fun K => decide (PySem.W.exmOne K (.ref (c_NothingToUndo K)) (.ref (c_NothingToUndo K)) = some true)
def x_excX_N : PySem.W.Frag → Bool := fun K => xfB K (c_NothingToUndo K)
def x_tabs_ne : PySem.W.Frag → Bool := fun K => decide ((He.cT K (Str.ofString "_law_within", none)).2 ≠ (He.cT K (Str.ofString "_law_blocks_right", none)).2)
def exL0 : List (PySem.W.Frag → Bool) := [x_tup_RESERVED, x_tup_DONE, x_tup_GROUPS, x_tup_DUTIES, x_val_SIZES, x_val_RANKS, x_prop_Case_events, x_prop_Case_verdict, x_prop_Case_since, x_prop_Case_remainder]
def exL1 : List (PySem.W.Frag → Bool) := [x_prop_Event_words, x_cm_Term_of, x_sm_Event_act, x_sm_Event_hand, x_sm_Event_day, x_read_Term, x_inst_Term, x_read_Event, x_inst_Event, x_self_Case]
def exL2 : List (PySem.W.Frag → Bool) := [x_noseq_Case, x_exc_N, x_excO_N, x_excS_N, x_excI_N, x_excC_N, x_excT_N, x_excK_N, x_excM_N, x_excX_N]
def exL3 : List (PySem.W.Frag → Bool) := [x_tabs_ne]
def exL : List (PySem.W.Frag → Bool) := exL0 ++ (exL1 ++ (exL2 ++ (exL3)))
def tabs : List He.Tab := [(o_SIZES, [Str.ofString "done", Str.ofString "breach", Str.ofString "wait", Str.ofString "must", Str.ofString "ban", Str.ofString "may", Str.ofString "when", Str.ofString "then", Str.ofString "and", Str.ofString "or", Str.ofString "until", Str.ofString "repeat", Str.ofString "forever"]), (o_RANKS, [Str.ofString "act", Str.ofString "hands", Str.ofString "day"])]
def lams : List He.Defn := [(Str.ofString "_law_within", none), (Str.ofString "_law_blocks_right", none)]
/-! ### what the head tells -/
def isN : Value → Bool
  | .none => true
  | _ => false
def fnAt (K : PySem.W.Frag) (a : Addr) : He.FnW := match K.lookup a with
  | some ⟨_, _, .func fd, _⟩ => (some (fd.name, fd.qualname, fd.params, fd.body, fd.scope, fd.globals, fd.closure, fd.builtins))
  | _ => none
def Ent.val (e : Ent) : He.FnW := some (e.name, e.qual, defArgs e.st, .stmts (defBody e.st), defScope e.st, mainGlobals, [], builtinsNs)
def Ent.ok (K : PySem.W.Frag) (e : Ent) : Bool := PySem.W.keepIn K (.ref (e.at_ K)) && (match K.lookup (e.at_ K) with
  | some ⟨_, _, .func fd, _⟩ => PySem.W.codeIn K fd.code e.qual && isN fd.defaults
  | _ => false)
theorem Ent.funD {K : PySem.W.Frag} {e : Ent} (h : fnAt K (e.at_ K) = e.val) (c : e.ok K = true) : FunD K e.name e.qual (defArgs e.st) (defBody e.st) (defScope e.st) [] [] (e.at_ K) (fdOf K (e.at_ K)) := by
  obtain ⟨kp, c2⟩ := He.ba c
  unfold fnAt at h
  unfold fdOf
  cases q : K.lookup (e.at_ K) with
  | none => rw [q] at c2; cases c2
  | some o =>
    obtain ⟨oc, od, dt, osl⟩ := o
    rw [q] at c2 h
    cases dt with
    | func fd =>
      obtain ⟨m1, m2, m3, m4, m5, m6, m7, m8, m9, m10, m11, m12, m13, m14, m15⟩ := fd
      have h2 : (some (m1, m2, m3, m4, m5, m6, m7, m15) : He.FnW) = some (e.name, e.qual, defArgs e.st, .stmts (defBody e.st), defScope e.st, mainGlobals, [], builtinsNs) := h
      simp only [Option.some.injEq, Prod.mk.injEq] at h2
      obtain ⟨r1, r2, r3, r4, r5, r6, r7, r8⟩ := h2
      subst r1 r2 r3 r4 r5 r6 r7 r8
      obtain ⟨k1, k2⟩ := He.ba (show (PySem.W.codeIn K m13 e.qual && isN m8) = true from c2)
      cases m8 with
      | none => exact ⟨⟨oc, od, .none, m9, m10, m11, m12, m13, m14, osl, rfl, q, k1, .inl ⟨rfl, rfl⟩, .inl rfl⟩, kp⟩
      | _ => cases k2
    | _ => cases c2
/-- the head's words of this program -/
structure Says (w : World) (h : Heap) (K : PySem.W.Frag) : Prop where
  x : He.SaysX fas [] tabs lams (fun K => (exL.all fun f => f K) && ents.all fun e => e.ok K) w h K
  fns : ents.map (fun e => fnAt K (e.at_ K)) = ents.map Ent.val
structure Txt (w : World) (K : PySem.W.Frag) (mg : Str → Option Value) : Prop where
  ex_ : ∃ h, K.In h ∧ h.Ns mainGlobals mg ∧ Says w h K
section
variable {w : World} {K : PySem.W.Frag} {mg : Str → Option Value}
theorem Txt.fa_ (T : Txt w K mg) (i : Nat) {f : He.Fa} (e : fas[i]? = some f) : f.ok K = true := by
  obtain ⟨h, X, G, S⟩ := T.ex_
  exact S.x.t.d.fact i e
theorem Txt.glo (T : Txt w K mg) (i : Nat) {x : Str} (e : fas[i]? = some (.glo x)) : mg x = some (.ref (He.ga K x)) := by
  obtain ⟨h, X, G, S⟩ := id T.ex_
  exact He.glo_ok X G (T.fa_ i e)
theorem Txt.free (T : Txt w K mg) (i : Nat) {x : Str} (e : fas[i]? = some (.free x)) : mg x = none := by
  obtain ⟨h, X, G, S⟩ := id T.ex_
  exact He.free_ok X G (T.fa_ i e)
theorem Txt.int_ (T : Txt w K mg) (i : Nat) {x : Str} {z : Int} (e : fas[i]? = some (.int x z)) : ∃ t, mg x = some (.int z t) := by
  obtain ⟨h, X, G, S⟩ := id T.ex_
  exact He.int_ok X G (T.fa_ i e)
theorem Txt.str_ (T : Txt w K mg) (i : Nat) {x z : Str} (e : fas[i]? = some (.str x z)) : ∃ t, mg x = some (.str z t) := by
  obtain ⟨h, X, G, S⟩ := id T.ex_
  exact He.str_ok X G (T.fa_ i e)
theorem Txt.cls_ (T : Txt w K mg) (i : Nat) {x : Str} (e : fas[i]? = some (.cls x)) : Cls K (He.ga K x) := He.cls_ok (T.fa_ i e)
theorem Txt.mkr_ (T : Txt w K mg) (i : Nat) {x : Str} (e : fas[i]? = some (.mkr x)) : Mk K (He.ga K x) (He.ma K (He.ga K x) "__init__") := He.mkr_ok (T.fa_ i e)
theorem Txt.noat_ (T : Txt w K mg) (i : Nat) {x f : Str} (e : fas[i]? = some (.noat x f)) : NoAttr K (He.ga K x) f := He.noat_ok (T.fa_ i e)
theorem Txt.meth_ (T : Txt w K mg) (i : Nat) {x f : Str} (e : fas[i]? = some (.meth x f)) : Meth K (He.ga K x) f (He.ma K (He.ga K x) f) := He.meth_ok (T.fa_ i e)
theorem Txt.ex (T : Txt w K mg) (i : Nat) {f : PySem.W.Frag → Bool} (e : exL[i]? = some f) : f K = true := by
  obtain ⟨h, X, G, S⟩ := T.ex_
  exact List.all_eq_true.mp (He.ba S.x.more).1 f (List.mem_of_getElem? e)
theorem Txt.fn (T : Txt w K mg) (i : Nat) {e : Ent} (h : ents[i]? = some e) : FunD K e.name e.qual (defArgs e.st) (defBody e.st) (defScope e.st) [] [] (e.at_ K) (fdOf K (e.at_ K)) := by
  obtain ⟨h0, X, G, S⟩ := T.ex_
  have e2 : (ents.map fun e => fnAt K (e.at_ K))[i]? = (ents.map Ent.val)[i]? := by rw [S.fns]
  (rw [List.getElem?_map, List.getElem?_map, h] at e2)
  exact Ent.funD (Option.some.inj e2) (List.all_eq_true.mp (He.ba S.x.more).2 e (List.mem_of_getElem? h))
theorem Txt.tab (T : Txt w K mg) (i : Nat) {t : He.Tab} (e : tabs[i]? = some t) : ∃ es n, KDict K w (t.1 K) es n := by
  obtain ⟨h, X, G, S⟩ := T.ex_
  exact S.x.t.tab i e
end
section
variable {w : World} {K : PySem.W.Frag} {mg : Str → Option Value}
theorem Txt.g_is_word (T : Txt w K mg) : mg (Str.ofString "is_word") = some (.ref (a_is_word K)) := T.glo 0 rfl
theorem Txt.g_is_who (T : Txt w K mg) : mg (Str.ofString "is_who") = some (.ref (a_is_who K)) := T.glo 1 rfl
theorem Txt.g_is_whole (T : Txt w K mg) : mg (Str.ofString "is_whole") = some (.ref (a_is_whole K)) := T.glo 2 rfl
theorem Txt.g_are_unlike (T : Txt w K mg) : mg (Str.ofString "are_unlike") = some (.ref (a_are_unlike K)) := T.glo 3 rfl
theorem Txt.g_are_whos (T : Txt w K mg) : mg (Str.ofString "are_whos") = some (.ref (a_are_whos K)) := T.glo 4 rfl
theorem Txt.g_is_formed (T : Txt w K mg) : mg (Str.ofString "is_formed") = some (.ref (a_is_formed K)) := T.glo 5 rfl
theorem Txt.g_children_of (T : Txt w K mg) : mg (Str.ofString "children_of") = some (.ref (a_children_of K)) := T.glo 6 rfl
theorem Txt.g_placed_parts (T : Txt w K mg) : mg (Str.ofString "placed_parts") = some (.ref (a_placed_parts K)) := T.glo 7 rfl
theorem Txt.g_first_unformed (T : Txt w K mg) : mg (Str.ofString "first_unformed") = some (.ref (a_first_unformed K)) := T.glo 8 rfl
theorem Txt.g_levels_of (T : Txt w K mg) : mg (Str.ofString "levels_of") = some (.ref (a_levels_of K)) := T.glo 9 rfl
theorem Txt.g_does_begin_done (T : Txt w K mg) : mg (Str.ofString "does_begin_done") = some (.ref (a_does_begin_done K)) := T.glo 10 rfl
theorem Txt.g_term_fault (T : Txt w K mg) : mg (Str.ofString "term_fault") = some (.ref (a_term_fault K)) := T.glo 11 rfl
theorem Txt.g_whos_in (T : Txt w K mg) : mg (Str.ofString "whos_in") = some (.ref (a_whos_in K)) := T.glo 12 rfl
theorem Txt.g_ends_open (T : Txt w K mg) : mg (Str.ofString "ends_open") = some (.ref (a_ends_open K)) := T.glo 13 rfl
theorem Txt.g_in_brackets (T : Txt w K mg) : mg (Str.ofString "in_brackets") = some (.ref (a_in_brackets K)) := T.glo 14 rfl
theorem Txt.g_part_text (T : Txt w K mg) : mg (Str.ofString "part_text") = some (.ref (a_part_text K)) := T.glo 15 rfl
theorem Txt.g_else_text (T : Txt w K mg) : mg (Str.ofString "else_text") = some (.ref (a_else_text K)) := T.glo 16 rfl
theorem Txt.g_when_text (T : Txt w K mg) : mg (Str.ofString "when_text") = some (.ref (a_when_text K)) := T.glo 17 rfl
theorem Txt.g_term_text (T : Txt w K mg) : mg (Str.ofString "term_text") = some (.ref (a_term_text K)) := T.glo 18 rfl
theorem Txt.g_is_over (T : Txt w K mg) : mg (Str.ofString "is_over") = some (.ref (a_is_over K)) := T.glo 19 rfl
theorem Txt.g_is_anyone (T : Txt w K mg) : mg (Str.ofString "is_anyone") = some (.ref (a_is_anyone K)) := T.glo 20 rfl
theorem Txt.g_parties_of (T : Txt w K mg) : mg (Str.ofString "parties_of") = some (.ref (a_parties_of K)) := T.glo 21 rfl
theorem Txt.g_breach_of (T : Txt w K mg) : mg (Str.ofString "breach_of") = some (.ref (a_breach_of K)) := T.glo 22 rfl
theorem Txt.g_blamed_in (T : Txt w K mg) : mg (Str.ofString "blamed_in") = some (.ref (a_blamed_in K)) := T.glo 23 rfl
theorem Txt.g_begun (T : Txt w K mg) : mg (Str.ofString "begun") = some (.ref (a_begun K)) := T.glo 24 rfl
theorem Txt.g_begun_then (T : Txt w K mg) : mg (Str.ofString "begun_then") = some (.ref (a_begun_then K)) := T.glo 25 rfl
theorem Txt.g_continued (T : Txt w K mg) : mg (Str.ofString "continued") = some (.ref (a_continued K)) := T.glo 26 rfl
theorem Txt.g_joined_and (T : Txt w K mg) : mg (Str.ofString "joined_and") = some (.ref (a_joined_and K)) := T.glo 27 rfl
theorem Txt.g_joined_or (T : Txt w K mg) : mg (Str.ofString "joined_or") = some (.ref (a_joined_or K)) := T.glo 28 rfl
theorem Txt.g_until_of (T : Txt w K mg) : mg (Str.ofString "until_of") = some (.ref (a_until_of K)) := T.glo 29 rfl
theorem Txt.g_in_force (T : Txt w K mg) : mg (Str.ofString "in_force") = some (.ref (a_in_force K)) := T.glo 30 rfl
theorem Txt.g_matches (T : Txt w K mg) : mg (Str.ofString "matches") = some (.ref (a_matches K)) := T.glo 31 rfl
theorem Txt.g_is_permitted (T : Txt w K mg) : mg (Str.ofString "is_permitted") = some (.ref (a_is_permitted K)) := T.glo 32 rfl
theorem Txt.g_remainder_after (T : Txt w K mg) : mg (Str.ofString "remainder_after") = some (.ref (a_remainder_after K)) := T.glo 33 rfl
theorem Txt.g_handed (T : Txt w K mg) : mg (Str.ofString "handed") = some (.ref (a_handed K)) := T.glo 34 rfl
theorem Txt.g_stepped (T : Txt w K mg) : mg (Str.ofString "stepped") = some (.ref (a_stepped K)) := T.glo 35 rfl
theorem Txt.g_verdict_of (T : Txt w K mg) : mg (Str.ofString "verdict_of") = some (.ref (a_verdict_of K)) := T.glo 36 rfl
theorem Txt.g_force_row (T : Txt w K mg) : mg (Str.ofString "force_row") = some (.ref (a_force_row K)) := T.glo 37 rfl
theorem Txt.g_under (T : Txt w K mg) : mg (Str.ofString "under") = some (.ref (a_under K)) := T.glo 38 rfl
theorem Txt.g_need_words (T : Txt w K mg) : mg (Str.ofString "need_words") = some (.ref (a_need_words K)) := T.glo 39 rfl
theorem Txt.g_are_parties (T : Txt w K mg) : mg (Str.ofString "are_parties") = some (.ref (a_are_parties K)) := T.glo 40 rfl
theorem Txt.g_are_roles (T : Txt w K mg) : mg (Str.ofString "are_roles") = some (.ref (a_are_roles K)) := T.glo 41 rfl
theorem Txt.g_first_stranger (T : Txt w K mg) : mg (Str.ofString "first_stranger") = some (.ref (a_first_stranger K)) := T.glo 42 rfl
theorem Txt.g_L_begin (T : Txt w K mg) : mg (Str.ofString "_law_begin") = some (.ref (a_L_begin K)) := T.glo 43 rfl
theorem Txt.g_L_next (T : Txt w K mg) : mg (Str.ofString "_law_next") = some (.ref (a_L_next K)) := T.glo 44 rfl
theorem Txt.g_L_pick (T : Txt w K mg) : mg (Str.ofString "_law_pick") = some (.ref (a_L_pick K)) := T.glo 45 rfl
theorem Txt.g_L_reserved (T : Txt w K mg) : mg (Str.ofString "_law_reserved") = some (.ref (a_L_reserved K)) := T.glo 46 rfl
theorem Txt.g_L_words (T : Txt w K mg) : mg (Str.ofString "_law_words") = some (.ref (a_L_words K)) := T.glo 47 rfl
theorem Txt.g_L_world (T : Txt w K mg) : mg (Str.ofString "_law_world") = some (.ref (a_L_world K)) := T.glo 48 rfl
theorem Txt.g_L_who (T : Txt w K mg) : mg (Str.ofString "_law_who") = some (.ref (a_L_who K)) := T.glo 49 rfl
theorem Txt.g_L_leaf (T : Txt w K mg) : mg (Str.ofString "_law_leaf") = some (.ref (a_L_leaf K)) := T.glo 50 rfl
theorem Txt.g_L_starts_done (T : Txt w K mg) : mg (Str.ofString "_law_starts_done") = some (.ref (a_L_starts_done K)) := T.glo 51 rfl
theorem Txt.g_L_term (T : Txt w K mg) : mg (Str.ofString "_law_term") = some (.ref (a_L_term K)) := T.glo 52 rfl
theorem Txt.g_L_alphabet (T : Txt w K mg) : mg (Str.ofString "_law_alphabet") = some (.ref (a_L_alphabet K)) := T.glo 53 rfl
theorem Txt.g_L_event (T : Txt w K mg) : mg (Str.ofString "_law_event") = some (.ref (a_L_event K)) := T.glo 54 rfl
theorem Txt.g_L_row (T : Txt w K mg) : mg (Str.ofString "_law_row") = some (.ref (a_L_row K)) := T.glo 55 rfl
theorem Txt.g_L_contract (T : Txt w K mg) : mg (Str.ofString "_law_contract") = some (.ref (a_L_contract K)) := T.glo 56 rfl
theorem Txt.g_L_shown (T : Txt w K mg) : mg (Str.ofString "_law_shown") = some (.ref (a_L_shown K)) := T.glo 57 rfl
theorem Txt.g_L_led (T : Txt w K mg) : mg (Str.ofString "_law_led") = some (.ref (a_L_led K)) := T.glo 58 rfl
theorem Txt.g_L_back (T : Txt w K mg) : mg (Str.ofString "_law_back") = some (.ref (a_L_back K)) := T.glo 59 rfl
theorem Txt.g_L_far_back (T : Txt w K mg) : mg (Str.ofString "_law_far_back") = some (.ref (a_L_far_back K)) := T.glo 60 rfl
theorem Txt.g_L_within (T : Txt w K mg) : mg (Str.ofString "_law_within") = some (.ref (a_L_within K)) := T.glo 61 rfl
theorem Txt.g_L_refusal_right (T : Txt w K mg) : mg (Str.ofString "_law_refusal_right") = some (.ref (a_L_refusal_right K)) := T.glo 62 rfl
theorem Txt.g_L_blocks_right (T : Txt w K mg) : mg (Str.ofString "_law_blocks_right") = some (.ref (a_L_blocks_right K)) := T.glo 63 rfl
theorem Txt.g_law (T : Txt w K mg) : mg (Str.ofString "law") = some (.ref (a_law K)) := T.glo 64 rfl
theorem Txt.g_Step (T : Txt w K mg) : mg (Str.ofString "Step") = some (.ref (c_Step K)) := T.glo 65 rfl
theorem Txt.g_Trial (T : Txt w K mg) : mg (Str.ofString "Trial") = some (.ref (c_Trial K)) := T.glo 66 rfl
theorem Txt.g_Case (T : Txt w K mg) : mg (Str.ofString "Case") = some (.ref (c_Case K)) := T.glo 67 rfl
theorem Txt.g_Event (T : Txt w K mg) : mg (Str.ofString "Event") = some (.ref (c_Event K)) := T.glo 68 rfl
theorem Txt.g_Term (T : Txt w K mg) : mg (Str.ofString "Term") = some (.ref (c_Term K)) := T.glo 69 rfl
theorem Txt.g_Contract (T : Txt w K mg) : mg (Str.ofString "Contract") = some (.ref (c_Contract K)) := T.glo 70 rfl
theorem Txt.g_NothingToUndo (T : Txt w K mg) : mg (Str.ofString "NothingToUndo") = some (.ref (c_NothingToUndo K)) := T.glo 71 rfl
theorem Txt.g_RESERVED (T : Txt w K mg) : mg (Str.ofString "RESERVED") = some (.ref (o_RESERVED K)) := T.glo 72 rfl
theorem Txt.g_DONE (T : Txt w K mg) : mg (Str.ofString "DONE") = some (.ref (o_DONE K)) := T.glo 73 rfl
theorem Txt.g_GROUPS (T : Txt w K mg) : mg (Str.ofString "GROUPS") = some (.ref (o_GROUPS K)) := T.glo 74 rfl
theorem Txt.g_DUTIES (T : Txt w K mg) : mg (Str.ofString "DUTIES") = some (.ref (o_DUTIES K)) := T.glo 75 rfl
theorem Txt.g_SIZES (T : Txt w K mg) : mg (Str.ofString "SIZES") = some (.ref (o_SIZES K)) := T.glo 76 rfl
theorem Txt.g_RANKS (T : Txt w K mg) : mg (Str.ofString "RANKS") = some (.ref (o_RANKS K)) := T.glo 77 rfl
theorem Txt.n_all (T : Txt w K mg) : mg (Str.ofString "all") = none := T.free 78 rfl
theorem Txt.n_any (T : Txt w K mg) : mg (Str.ofString "any") = none := T.free 79 rfl
theorem Txt.n_dict (T : Txt w K mg) : mg (Str.ofString "dict") = none := T.free 80 rfl
theorem Txt.n_enumerate (T : Txt w K mg) : mg (Str.ofString "enumerate") = none := T.free 81 rfl
theorem Txt.n_int (T : Txt w K mg) : mg (Str.ofString "int") = none := T.free 82 rfl
theorem Txt.n_isinstance (T : Txt w K mg) : mg (Str.ofString "isinstance") = none := T.free 83 rfl
theorem Txt.n_bool (T : Txt w K mg) : mg (Str.ofString "bool") = none := T.free 84 rfl
theorem Txt.n_len (T : Txt w K mg) : mg (Str.ofString "len") = none := T.free 85 rfl
theorem Txt.n_list (T : Txt w K mg) : mg (Str.ofString "list") = none := T.free 86 rfl
theorem Txt.n_max (T : Txt w K mg) : mg (Str.ofString "max") = none := T.free 87 rfl
theorem Txt.n_range (T : Txt w K mg) : mg (Str.ofString "range") = none := T.free 88 rfl
theorem Txt.n_set (T : Txt w K mg) : mg (Str.ofString "set") = none := T.free 89 rfl
theorem Txt.n_sorted (T : Txt w K mg) : mg (Str.ofString "sorted") = none := T.free 90 rfl
theorem Txt.n_str (T : Txt w K mg) : mg (Str.ofString "str") = none := T.free 91 rfl
theorem Txt.n_tuple (T : Txt w K mg) : mg (Str.ofString "tuple") = none := T.free 92 rfl
theorem Txt.i_LONGEST (T : Txt w K mg) : ∃ t, mg (Str.ofString "LONGEST") = some (.int 12 t) := T.int_ 93 rfl
theorem Txt.i_MAX_DAYS (T : Txt w K mg) : ∃ t, mg (Str.ofString "MAX_DAYS") = some (.int 30 t) := T.int_ 94 rfl
theorem Txt.i_MAX_TIMES (T : Txt w K mg) : ∃ t, mg (Str.ofString "MAX_TIMES") = some (.int 9 t) := T.int_ 95 rfl
theorem Txt.i_MAX_PARTS (T : Txt w K mg) : ∃ t, mg (Str.ofString "MAX_PARTS") = some (.int 40 t) := T.int_ 96 rfl
theorem Txt.i_MAX_LEVELS (T : Txt w K mg) : ∃ t, mg (Str.ofString "MAX_LEVELS") = some (.int 8 t) := T.int_ 97 rfl
theorem Txt.i_MOST_WHOS (T : Txt w K mg) : ∃ t, mg (Str.ofString "MOST_WHOS") = some (.int 4 t) := T.int_ 98 rfl
theorem Txt.i_MOST_PARTIES (T : Txt w K mg) : ∃ t, mg (Str.ofString "MOST_PARTIES") = some (.int 4 t) := T.int_ 99 rfl
theorem Txt.i_MOST_ROLES (T : Txt w K mg) : ∃ t, mg (Str.ofString "MOST_ROLES") = some (.int 3 t) := T.int_ 100 rfl
theorem Txt.z_LETTERS (T : Txt w K mg) : ∃ t, mg (Str.ofString "LETTERS") = some (.str (Str.ofString "abcdefghijklmnopqrstuvwxyz") t) := T.str_ 101 rfl
theorem Txt.z_ANYONE (T : Txt w K mg) : ∃ t, mg (Str.ofString "ANYONE") = some (.str (Str.ofString "anyone") t) := T.str_ 102 rfl
theorem Txt.z_DAY (T : Txt w K mg) : ∃ t, mg (Str.ofString "DAY") = some (.str (Str.ofString "day") t) := T.str_ 103 rfl
theorem Txt.z_ACT (T : Txt w K mg) : ∃ t, mg (Str.ofString "ACT") = some (.str (Str.ofString "act") t) := T.str_ 104 rfl
theorem Txt.z_HANDS (T : Txt w K mg) : ∃ t, mg (Str.ofString "HANDS") = some (.str (Str.ofString "hands") t) := T.str_ 105 rfl
theorem Txt.cl_Step (T : Txt w K mg) : Cls K (c_Step K) := T.cls_ 106 rfl
theorem Txt.mk_Step (T : Txt w K mg) : Mk K (c_Step K) (a_Step_init K) := T.mkr_ 107 rfl
theorem Txt.cl_Trial (T : Txt w K mg) : Cls K (c_Trial K) := T.cls_ 108 rfl
theorem Txt.mk_Trial (T : Txt w K mg) : Mk K (c_Trial K) (a_Trial_init K) := T.mkr_ 109 rfl
theorem Txt.cl_Case (T : Txt w K mg) : Cls K (c_Case K) := T.cls_ 110 rfl
theorem Txt.mk_Case (T : Txt w K mg) : Mk K (c_Case K) (a_Case_init K) := T.mkr_ 111 rfl
theorem Txt.cl_Event (T : Txt w K mg) : Cls K (c_Event K) := T.cls_ 112 rfl
theorem Txt.mk_Event (T : Txt w K mg) : Mk K (c_Event K) (a_Event_init K) := T.mkr_ 113 rfl
theorem Txt.cl_Term (T : Txt w K mg) : Cls K (c_Term K) := T.cls_ 114 rfl
theorem Txt.mk_Term (T : Txt w K mg) : Mk K (c_Term K) (a_Term_init K) := T.mkr_ 115 rfl
theorem Txt.cl_Contract (T : Txt w K mg) : Cls K (c_Contract K) := T.cls_ 116 rfl
theorem Txt.mk_Contract (T : Txt w K mg) : Mk K (c_Contract K) (a_Contract_init K) := T.mkr_ 117 rfl
theorem Txt.no_Step_own_words (T : Txt w K mg) : NoAttr K (c_Step K) (Str.ofString "own_words") := T.noat_ 118 rfl
theorem Txt.no_Step_own_parties (T : Txt w K mg) : NoAttr K (c_Step K) (Str.ofString "own_parties") := T.noat_ 119 rfl
theorem Txt.no_Step_own_holders (T : Txt w K mg) : NoAttr K (c_Step K) (Str.ofString "own_holders") := T.noat_ 120 rfl
theorem Txt.no_Step_is_let (T : Txt w K mg) : NoAttr K (c_Step K) (Str.ofString "is_let") := T.noat_ 121 rfl
theorem Txt.no_Trial_own_case (T : Txt w K mg) : NoAttr K (c_Trial K) (Str.ofString "own_case") := T.noat_ 122 rfl
theorem Txt.no_Trial_kept_events (T : Txt w K mg) : NoAttr K (c_Trial K) (Str.ofString "kept_events") := T.noat_ 123 rfl
theorem Txt.no_Trial_kept_states (T : Txt w K mg) : NoAttr K (c_Trial K) (Str.ofString "kept_states") := T.noat_ 124 rfl
theorem Txt.no_Case_own_contract (T : Txt w K mg) : NoAttr K (c_Case K) (Str.ofString "own_contract") := T.noat_ 125 rfl
theorem Txt.no_Case_own_events (T : Txt w K mg) : NoAttr K (c_Case K) (Str.ofString "own_events") := T.noat_ 126 rfl
theorem Txt.no_Case_own_states (T : Txt w K mg) : NoAttr K (c_Case K) (Str.ofString "own_states") := T.noat_ 127 rfl
theorem Txt.no_Event_own_words (T : Txt w K mg) : NoAttr K (c_Event K) (Str.ofString "own_words") := T.noat_ 128 rfl
theorem Txt.no_Event_own_rank (T : Txt w K mg) : NoAttr K (c_Event K) (Str.ofString "own_rank") := T.noat_ 129 rfl
theorem Txt.no_Term_own_told (T : Txt w K mg) : NoAttr K (c_Term K) (Str.ofString "own_told") := T.noat_ 130 rfl
theorem Txt.no_Contract_own_parties (T : Txt w K mg) : NoAttr K (c_Contract K) (Str.ofString "own_parties") := T.noat_ 131 rfl
theorem Txt.no_Contract_own_roles (T : Txt w K mg) : NoAttr K (c_Contract K) (Str.ofString "own_roles") := T.noat_ 132 rfl
theorem Txt.no_Contract_own_term (T : Txt w K mg) : NoAttr K (c_Contract K) (Str.ofString "own_term") := T.noat_ 133 rfl
theorem Txt.m_Step_init (T : Txt w K mg) : Meth K (c_Step K) (Str.ofString "__init__") (a_Step_init K) := T.meth_ 134 rfl
theorem Txt.m_Step_begin (T : Txt w K mg) : Meth K (c_Step K) (Str.ofString "begin") (a_Step_begin K) := T.meth_ 135 rfl
theorem Txt.m_Step_is_act_of (T : Txt w K mg) : Meth K (c_Step K) (Str.ofString "is_act_of") (a_Step_is_act_of K) := T.meth_ 136 rfl
theorem Txt.m_Step_after_day (T : Txt w K mg) : Meth K (c_Step K) (Str.ofString "after_day") (a_Step_after_day K) := T.meth_ 137 rfl
theorem Txt.m_Step_after_act (T : Txt w K mg) : Meth K (c_Step K) (Str.ofString "after_act") (a_Step_after_act K) := T.meth_ 138 rfl
theorem Txt.m_Step_after (T : Txt w K mg) : Meth K (c_Step K) (Str.ofString "after") (a_Step_after K) := T.meth_ 139 rfl
theorem Txt.m_Trial_init (T : Txt w K mg) : Meth K (c_Trial K) (Str.ofString "__init__") (a_Trial_init K) := T.meth_ 140 rfl
theorem Txt.m_Trial_enter (T : Txt w K mg) : Meth K (c_Trial K) (Str.ofString "__enter__") (a_Trial_enter K) := T.meth_ 141 rfl
theorem Txt.m_Trial_exit (T : Txt w K mg) : Meth K (c_Trial K) (Str.ofString "__exit__") (a_Trial_exit K) := T.meth_ 142 rfl
theorem Txt.m_Case_init (T : Txt w K mg) : Meth K (c_Case K) (Str.ofString "__init__") (a_Case_init K) := T.meth_ 143 rfl
theorem Txt.m_Case_state_after (T : Txt w K mg) : Meth K (c_Case K) (Str.ofString "state_after") (a_Case_state_after K) := T.meth_ 144 rfl
theorem Txt.m_Case_come (T : Txt w K mg) : Meth K (c_Case K) (Str.ofString "come") (a_Case_come K) := T.meth_ 145 rfl
theorem Txt.m_Case_back (T : Txt w K mg) : Meth K (c_Case K) (Str.ofString "back") (a_Case_back K) := T.meth_ 146 rfl
theorem Txt.m_Case_trial (T : Txt w K mg) : Meth K (c_Case K) (Str.ofString "trial") (a_Case_trial K) := T.meth_ 147 rfl
theorem Txt.m_Case_standing (T : Txt w K mg) : Meth K (c_Case K) (Str.ofString "standing") (a_Case_standing K) := T.meth_ 148 rfl
theorem Txt.m_Case_len (T : Txt w K mg) : Meth K (c_Case K) (Str.ofString "__len__") (a_Case_len K) := T.meth_ 149 rfl
theorem Txt.m_Case_iadd (T : Txt w K mg) : Meth K (c_Case K) (Str.ofString "__iadd__") (a_Case_iadd K) := T.meth_ 150 rfl
theorem Txt.m_Case_isub (T : Txt w K mg) : Meth K (c_Case K) (Str.ofString "__isub__") (a_Case_isub K) := T.meth_ 151 rfl
theorem Txt.m_Event_init (T : Txt w K mg) : Meth K (c_Event K) (Str.ofString "__init__") (a_Event_init K) := T.meth_ 152 rfl
theorem Txt.m_Term_init (T : Txt w K mg) : Meth K (c_Term K) (Str.ofString "__init__") (a_Term_init K) := T.meth_ 153 rfl
theorem Txt.m_Contract_init (T : Txt w K mg) : Meth K (c_Contract K) (Str.ofString "__init__") (a_Contract_init K) := T.meth_ 154 rfl
theorem Txt.m_Contract_role_names (T : Txt w K mg) : Meth K (c_Contract K) (Str.ofString "role_names") (a_Contract_role_names K) := T.meth_ 155 rfl
theorem Txt.m_Contract_first_state (T : Txt w K mg) : Meth K (c_Contract K) (Str.ofString "first_state") (a_Contract_first_state K) := T.meth_ 156 rfl
theorem Txt.m_Contract_need_event (T : Txt w K mg) : Meth K (c_Contract K) (Str.ofString "need_event") (a_Contract_need_event K) := T.meth_ 157 rfl
theorem Txt.m_Contract_next_state (T : Txt w K mg) : Meth K (c_Contract K) (Str.ofString "next_state") (a_Contract_next_state K) := T.meth_ 158 rfl
theorem Txt.f_is_word (T : Txt w K mg) : FunD K (Str.ofString "is_word") (Str.ofString "is_word") (defArgs s_is_word) (defBody s_is_word) (defScope s_is_word) [] [] (a_is_word K) (fdOf K (a_is_word K)) := T.fn 0 rfl
theorem Txt.f_is_who (T : Txt w K mg) : FunD K (Str.ofString "is_who") (Str.ofString "is_who") (defArgs s_is_who) (defBody s_is_who) (defScope s_is_who) [] [] (a_is_who K) (fdOf K (a_is_who K)) := T.fn 1 rfl
theorem Txt.f_is_whole (T : Txt w K mg) : FunD K (Str.ofString "is_whole") (Str.ofString "is_whole") (defArgs s_is_whole) (defBody s_is_whole) (defScope s_is_whole) [] [] (a_is_whole K) (fdOf K (a_is_whole K)) := T.fn 2 rfl
theorem Txt.f_are_unlike (T : Txt w K mg) : FunD K (Str.ofString "are_unlike") (Str.ofString "are_unlike") (defArgs s_are_unlike) (defBody s_are_unlike) (defScope s_are_unlike) [] [] (a_are_unlike K) (fdOf K (a_are_unlike K)) := T.fn 3 rfl
theorem Txt.f_are_whos (T : Txt w K mg) : FunD K (Str.ofString "are_whos") (Str.ofString "are_whos") (defArgs s_are_whos) (defBody s_are_whos) (defScope s_are_whos) [] [] (a_are_whos K) (fdOf K (a_are_whos K)) := T.fn 4 rfl
theorem Txt.f_is_formed (T : Txt w K mg) : FunD K (Str.ofString "is_formed") (Str.ofString "is_formed") (defArgs s_is_formed) (defBody s_is_formed) (defScope s_is_formed) [] [] (a_is_formed K) (fdOf K (a_is_formed K)) := T.fn 5 rfl
theorem Txt.f_children_of (T : Txt w K mg) : FunD K (Str.ofString "children_of") (Str.ofString "children_of") (defArgs s_children_of) (defBody s_children_of) (defScope s_children_of) [] [] (a_children_of K) (fdOf K (a_children_of K)) := T.fn 6 rfl
theorem Txt.f_placed_parts (T : Txt w K mg) : FunD K (Str.ofString "placed_parts") (Str.ofString "placed_parts") (defArgs s_placed_parts) (defBody s_placed_parts) (defScope s_placed_parts) [] [] (a_placed_parts K) (fdOf K (a_placed_parts K)) := T.fn 7 rfl
theorem Txt.f_first_unformed (T : Txt w K mg) : FunD K (Str.ofString "first_unformed") (Str.ofString "first_unformed") (defArgs s_first_unformed) (defBody s_first_unformed) (defScope s_first_unformed) [] [] (a_first_unformed K) (fdOf K (a_first_unformed K)) := T.fn 8 rfl
theorem Txt.f_levels_of (T : Txt w K mg) : FunD K (Str.ofString "levels_of") (Str.ofString "levels_of") (defArgs s_levels_of) (defBody s_levels_of) (defScope s_levels_of) [] [] (a_levels_of K) (fdOf K (a_levels_of K)) := T.fn 9 rfl
theorem Txt.f_does_begin_done (T : Txt w K mg) : FunD K (Str.ofString "does_begin_done") (Str.ofString "does_begin_done") (defArgs s_does_begin_done) (defBody s_does_begin_done) (defScope s_does_begin_done) [] [] (a_does_begin_done K) (fdOf K (a_does_begin_done K)) := T.fn 10 rfl
theorem Txt.f_term_fault (T : Txt w K mg) : FunD K (Str.ofString "term_fault") (Str.ofString "term_fault") (defArgs s_term_fault) (defBody s_term_fault) (defScope s_term_fault) [] [] (a_term_fault K) (fdOf K (a_term_fault K)) := T.fn 11 rfl
theorem Txt.f_whos_in (T : Txt w K mg) : FunD K (Str.ofString "whos_in") (Str.ofString "whos_in") (defArgs s_whos_in) (defBody s_whos_in) (defScope s_whos_in) [] [] (a_whos_in K) (fdOf K (a_whos_in K)) := T.fn 12 rfl
theorem Txt.f_ends_open (T : Txt w K mg) : FunD K (Str.ofString "ends_open") (Str.ofString "ends_open") (defArgs s_ends_open) (defBody s_ends_open) (defScope s_ends_open) [] [] (a_ends_open K) (fdOf K (a_ends_open K)) := T.fn 13 rfl
theorem Txt.f_in_brackets (T : Txt w K mg) : FunD K (Str.ofString "in_brackets") (Str.ofString "in_brackets") (defArgs s_in_brackets) (defBody s_in_brackets) (defScope s_in_brackets) [] [] (a_in_brackets K) (fdOf K (a_in_brackets K)) := T.fn 14 rfl
theorem Txt.f_part_text (T : Txt w K mg) : FunD K (Str.ofString "part_text") (Str.ofString "part_text") (defArgs s_part_text) (defBody s_part_text) (defScope s_part_text) [] [] (a_part_text K) (fdOf K (a_part_text K)) := T.fn 15 rfl
theorem Txt.f_else_text (T : Txt w K mg) : FunD K (Str.ofString "else_text") (Str.ofString "else_text") (defArgs s_else_text) (defBody s_else_text) (defScope s_else_text) [] [] (a_else_text K) (fdOf K (a_else_text K)) := T.fn 16 rfl
theorem Txt.f_when_text (T : Txt w K mg) : FunD K (Str.ofString "when_text") (Str.ofString "when_text") (defArgs s_when_text) (defBody s_when_text) (defScope s_when_text) [] [] (a_when_text K) (fdOf K (a_when_text K)) := T.fn 17 rfl
theorem Txt.f_term_text (T : Txt w K mg) : FunD K (Str.ofString "term_text") (Str.ofString "term_text") (defArgs s_term_text) (defBody s_term_text) (defScope s_term_text) [] [] (a_term_text K) (fdOf K (a_term_text K)) := T.fn 18 rfl
theorem Txt.f_is_over (T : Txt w K mg) : FunD K (Str.ofString "is_over") (Str.ofString "is_over") (defArgs s_is_over) (defBody s_is_over) (defScope s_is_over) [] [] (a_is_over K) (fdOf K (a_is_over K)) := T.fn 19 rfl
theorem Txt.f_is_anyone (T : Txt w K mg) : FunD K (Str.ofString "is_anyone") (Str.ofString "is_anyone") (defArgs s_is_anyone) (defBody s_is_anyone) (defScope s_is_anyone) [] [] (a_is_anyone K) (fdOf K (a_is_anyone K)) := T.fn 20 rfl
theorem Txt.f_parties_of (T : Txt w K mg) : FunD K (Str.ofString "parties_of") (Str.ofString "parties_of") (defArgs s_parties_of) (defBody s_parties_of) (defScope s_parties_of) [] [] (a_parties_of K) (fdOf K (a_parties_of K)) := T.fn 21 rfl
theorem Txt.f_breach_of (T : Txt w K mg) : FunD K (Str.ofString "breach_of") (Str.ofString "breach_of") (defArgs s_breach_of) (defBody s_breach_of) (defScope s_breach_of) [] [] (a_breach_of K) (fdOf K (a_breach_of K)) := T.fn 22 rfl
theorem Txt.f_blamed_in (T : Txt w K mg) : FunD K (Str.ofString "blamed_in") (Str.ofString "blamed_in") (defArgs s_blamed_in) (defBody s_blamed_in) (defScope s_blamed_in) [] [] (a_blamed_in K) (fdOf K (a_blamed_in K)) := T.fn 23 rfl
theorem Txt.f_begun (T : Txt w K mg) : FunD K (Str.ofString "begun") (Str.ofString "begun") (defArgs s_begun) (defBody s_begun) (defScope s_begun) [] [] (a_begun K) (fdOf K (a_begun K)) := T.fn 24 rfl
theorem Txt.f_begun_then (T : Txt w K mg) : FunD K (Str.ofString "begun_then") (Str.ofString "begun_then") (defArgs s_begun_then) (defBody s_begun_then) (defScope s_begun_then) [] [] (a_begun_then K) (fdOf K (a_begun_then K)) := T.fn 25 rfl
theorem Txt.f_continued (T : Txt w K mg) : FunD K (Str.ofString "continued") (Str.ofString "continued") (defArgs s_continued) (defBody s_continued) (defScope s_continued) [] [] (a_continued K) (fdOf K (a_continued K)) := T.fn 26 rfl
theorem Txt.f_joined_and (T : Txt w K mg) : FunD K (Str.ofString "joined_and") (Str.ofString "joined_and") (defArgs s_joined_and) (defBody s_joined_and) (defScope s_joined_and) [] [] (a_joined_and K) (fdOf K (a_joined_and K)) := T.fn 27 rfl
theorem Txt.f_joined_or (T : Txt w K mg) : FunD K (Str.ofString "joined_or") (Str.ofString "joined_or") (defArgs s_joined_or) (defBody s_joined_or) (defScope s_joined_or) [] [] (a_joined_or K) (fdOf K (a_joined_or K)) := T.fn 28 rfl
theorem Txt.f_until_of (T : Txt w K mg) : FunD K (Str.ofString "until_of") (Str.ofString "until_of") (defArgs s_until_of) (defBody s_until_of) (defScope s_until_of) [] [] (a_until_of K) (fdOf K (a_until_of K)) := T.fn 29 rfl
theorem Txt.f_in_force (T : Txt w K mg) : FunD K (Str.ofString "in_force") (Str.ofString "in_force") (defArgs s_in_force) (defBody s_in_force) (defScope s_in_force) [] [] (a_in_force K) (fdOf K (a_in_force K)) := T.fn 30 rfl
theorem Txt.f_matches (T : Txt w K mg) : FunD K (Str.ofString "matches") (Str.ofString "matches") (defArgs s_matches) (defBody s_matches) (defScope s_matches) [] [] (a_matches K) (fdOf K (a_matches K)) := T.fn 31 rfl
theorem Txt.f_is_permitted (T : Txt w K mg) : FunD K (Str.ofString "is_permitted") (Str.ofString "is_permitted") (defArgs s_is_permitted) (defBody s_is_permitted) (defScope s_is_permitted) [] [] (a_is_permitted K) (fdOf K (a_is_permitted K)) := T.fn 32 rfl
theorem Txt.f_remainder_after (T : Txt w K mg) : FunD K (Str.ofString "remainder_after") (Str.ofString "remainder_after") (defArgs s_remainder_after) (defBody s_remainder_after) (defScope s_remainder_after) [] [] (a_remainder_after K) (fdOf K (a_remainder_after K)) := T.fn 33 rfl
theorem Txt.f_handed (T : Txt w K mg) : FunD K (Str.ofString "handed") (Str.ofString "handed") (defArgs s_handed) (defBody s_handed) (defScope s_handed) [] [] (a_handed K) (fdOf K (a_handed K)) := T.fn 34 rfl
theorem Txt.f_stepped (T : Txt w K mg) : FunD K (Str.ofString "stepped") (Str.ofString "stepped") (defArgs s_stepped) (defBody s_stepped) (defScope s_stepped) [] [] (a_stepped K) (fdOf K (a_stepped K)) := T.fn 35 rfl
theorem Txt.f_verdict_of (T : Txt w K mg) : FunD K (Str.ofString "verdict_of") (Str.ofString "verdict_of") (defArgs s_verdict_of) (defBody s_verdict_of) (defScope s_verdict_of) [] [] (a_verdict_of K) (fdOf K (a_verdict_of K)) := T.fn 36 rfl
theorem Txt.f_force_row (T : Txt w K mg) : FunD K (Str.ofString "force_row") (Str.ofString "force_row") (defArgs s_force_row) (defBody s_force_row) (defScope s_force_row) [] [] (a_force_row K) (fdOf K (a_force_row K)) := T.fn 37 rfl
theorem Txt.f_under (T : Txt w K mg) : FunD K (Str.ofString "under") (Str.ofString "under") (defArgs s_under) (defBody s_under) (defScope s_under) [] [] (a_under K) (fdOf K (a_under K)) := T.fn 38 rfl
theorem Txt.f_need_words (T : Txt w K mg) : FunD K (Str.ofString "need_words") (Str.ofString "need_words") (defArgs s_need_words) (defBody s_need_words) (defScope s_need_words) [] [] (a_need_words K) (fdOf K (a_need_words K)) := T.fn 39 rfl
theorem Txt.f_are_parties (T : Txt w K mg) : FunD K (Str.ofString "are_parties") (Str.ofString "are_parties") (defArgs s_are_parties) (defBody s_are_parties) (defScope s_are_parties) [] [] (a_are_parties K) (fdOf K (a_are_parties K)) := T.fn 40 rfl
theorem Txt.f_are_roles (T : Txt w K mg) : FunD K (Str.ofString "are_roles") (Str.ofString "are_roles") (defArgs s_are_roles) (defBody s_are_roles) (defScope s_are_roles) [] [] (a_are_roles K) (fdOf K (a_are_roles K)) := T.fn 41 rfl
theorem Txt.f_first_stranger (T : Txt w K mg) : FunD K (Str.ofString "first_stranger") (Str.ofString "first_stranger") (defArgs s_first_stranger) (defBody s_first_stranger) (defScope s_first_stranger) [] [] (a_first_stranger K) (fdOf K (a_first_stranger K)) := T.fn 42 rfl
theorem Txt.f_L_begin (T : Txt w K mg) : FunD K (Str.ofString "_law_begin") (Str.ofString "_law_begin") (defArgs s_L_begin) (defBody s_L_begin) (defScope s_L_begin) [] [] (a_L_begin K) (fdOf K (a_L_begin K)) := T.fn 43 rfl
theorem Txt.f_L_next (T : Txt w K mg) : FunD K (Str.ofString "_law_next") (Str.ofString "_law_next") (defArgs s_L_next) (defBody s_L_next) (defScope s_L_next) [] [] (a_L_next K) (fdOf K (a_L_next K)) := T.fn 44 rfl
theorem Txt.f_L_pick (T : Txt w K mg) : FunD K (Str.ofString "_law_pick") (Str.ofString "_law_pick") (defArgs s_L_pick) (defBody s_L_pick) (defScope s_L_pick) [] [] (a_L_pick K) (fdOf K (a_L_pick K)) := T.fn 45 rfl
theorem Txt.f_L_reserved (T : Txt w K mg) : FunD K (Str.ofString "_law_reserved") (Str.ofString "_law_reserved") (defArgs s_L_reserved) (defBody s_L_reserved) (defScope s_L_reserved) [] [] (a_L_reserved K) (fdOf K (a_L_reserved K)) := T.fn 46 rfl
theorem Txt.f_L_words (T : Txt w K mg) : FunD K (Str.ofString "_law_words") (Str.ofString "_law_words") (defArgs s_L_words) (defBody s_L_words) (defScope s_L_words) [] [] (a_L_words K) (fdOf K (a_L_words K)) := T.fn 47 rfl
theorem Txt.f_L_world (T : Txt w K mg) : FunD K (Str.ofString "_law_world") (Str.ofString "_law_world") (defArgs s_L_world) (defBody s_L_world) (defScope s_L_world) [] [] (a_L_world K) (fdOf K (a_L_world K)) := T.fn 48 rfl
theorem Txt.f_L_who (T : Txt w K mg) : FunD K (Str.ofString "_law_who") (Str.ofString "_law_who") (defArgs s_L_who) (defBody s_L_who) (defScope s_L_who) [] [] (a_L_who K) (fdOf K (a_L_who K)) := T.fn 49 rfl
theorem Txt.f_L_leaf (T : Txt w K mg) : FunD K (Str.ofString "_law_leaf") (Str.ofString "_law_leaf") (defArgs s_L_leaf) (defBody s_L_leaf) (defScope s_L_leaf) [] [] (a_L_leaf K) (fdOf K (a_L_leaf K)) := T.fn 50 rfl
theorem Txt.f_L_starts_done (T : Txt w K mg) : FunD K (Str.ofString "_law_starts_done") (Str.ofString "_law_starts_done") (defArgs s_L_starts_done) (defBody s_L_starts_done) (defScope s_L_starts_done) [] [] (a_L_starts_done K) (fdOf K (a_L_starts_done K)) := T.fn 51 rfl
theorem Txt.f_L_term (T : Txt w K mg) : FunD K (Str.ofString "_law_term") (Str.ofString "_law_term") (defArgs s_L_term) (defBody s_L_term) (defScope s_L_term) [] [] (a_L_term K) (fdOf K (a_L_term K)) := T.fn 52 rfl
theorem Txt.f_L_alphabet (T : Txt w K mg) : FunD K (Str.ofString "_law_alphabet") (Str.ofString "_law_alphabet") (defArgs s_L_alphabet) (defBody s_L_alphabet) (defScope s_L_alphabet) [] [] (a_L_alphabet K) (fdOf K (a_L_alphabet K)) := T.fn 53 rfl
theorem Txt.f_L_event (T : Txt w K mg) : FunD K (Str.ofString "_law_event") (Str.ofString "_law_event") (defArgs s_L_event) (defBody s_L_event) (defScope s_L_event) [] [] (a_L_event K) (fdOf K (a_L_event K)) := T.fn 54 rfl
theorem Txt.f_L_row (T : Txt w K mg) : FunD K (Str.ofString "_law_row") (Str.ofString "_law_row") (defArgs s_L_row) (defBody s_L_row) (defScope s_L_row) [] [] (a_L_row K) (fdOf K (a_L_row K)) := T.fn 55 rfl
theorem Txt.f_L_contract (T : Txt w K mg) : FunD K (Str.ofString "_law_contract") (Str.ofString "_law_contract") (defArgs s_L_contract) (defBody s_L_contract) (defScope s_L_contract) [] [] (a_L_contract K) (fdOf K (a_L_contract K)) := T.fn 56 rfl
theorem Txt.f_L_shown (T : Txt w K mg) : FunD K (Str.ofString "_law_shown") (Str.ofString "_law_shown") (defArgs s_L_shown) (defBody s_L_shown) (defScope s_L_shown) [] [] (a_L_shown K) (fdOf K (a_L_shown K)) := T.fn 57 rfl
theorem Txt.f_L_led (T : Txt w K mg) : FunD K (Str.ofString "_law_led") (Str.ofString "_law_led") (defArgs s_L_led) (defBody s_L_led) (defScope s_L_led) [] [] (a_L_led K) (fdOf K (a_L_led K)) := T.fn 58 rfl
theorem Txt.f_L_back (T : Txt w K mg) : FunD K (Str.ofString "_law_back") (Str.ofString "_law_back") (defArgs s_L_back) (defBody s_L_back) (defScope s_L_back) [] [] (a_L_back K) (fdOf K (a_L_back K)) := T.fn 59 rfl
theorem Txt.f_L_far_back (T : Txt w K mg) : FunD K (Str.ofString "_law_far_back") (Str.ofString "_law_far_back") (defArgs s_L_far_back) (defBody s_L_far_back) (defScope s_L_far_back) [] [] (a_L_far_back K) (fdOf K (a_L_far_back K)) := T.fn 60 rfl
theorem Txt.f_L_within (T : Txt w K mg) : FunD K (Str.ofString "_law_within") (Str.ofString "_law_within") (defArgs s_L_within) (defBody s_L_within) (defScope s_L_within) [] [] (a_L_within K) (fdOf K (a_L_within K)) := T.fn 61 rfl
theorem Txt.f_L_refusal_right (T : Txt w K mg) : FunD K (Str.ofString "_law_refusal_right") (Str.ofString "_law_refusal_right") (defArgs s_L_refusal_right) (defBody s_L_refusal_right) (defScope s_L_refusal_right) [] [] (a_L_refusal_right K) (fdOf K (a_L_refusal_right K)) := T.fn 62 rfl
theorem Txt.f_L_blocks_right (T : Txt w K mg) : FunD K (Str.ofString "_law_blocks_right") (Str.ofString "_law_blocks_right") (defArgs s_L_blocks_right) (defBody s_L_blocks_right) (defScope s_L_blocks_right) [] [] (a_L_blocks_right K) (fdOf K (a_L_blocks_right K)) := T.fn 63 rfl
theorem Txt.f_law (T : Txt w K mg) : FunD K (Str.ofString "law") (Str.ofString "law") (defArgs s_law) (defBody s_law) (defScope s_law) [] [] (a_law K) (fdOf K (a_law K)) := T.fn 64 rfl
theorem Txt.f_Step_init (T : Txt w K mg) : FunD K (Str.ofString "__init__") (Str.ofString "Step.__init__") (defArgs s_Step_init) (defBody s_Step_init) (defScope s_Step_init) [] [] (a_Step_init K) (fdOf K (a_Step_init K)) := T.fn 65 rfl
theorem Txt.f_Step_begin (T : Txt w K mg) : FunD K (Str.ofString "begin") (Str.ofString "Step.begin") (defArgs s_Step_begin) (defBody s_Step_begin) (defScope s_Step_begin) [] [] (a_Step_begin K) (fdOf K (a_Step_begin K)) := T.fn 66 rfl
theorem Txt.f_Step_is_act_of (T : Txt w K mg) : FunD K (Str.ofString "is_act_of") (Str.ofString "Step.is_act_of") (defArgs s_Step_is_act_of) (defBody s_Step_is_act_of) (defScope s_Step_is_act_of) [] [] (a_Step_is_act_of K) (fdOf K (a_Step_is_act_of K)) := T.fn 67 rfl
theorem Txt.f_Step_after_day (T : Txt w K mg) : FunD K (Str.ofString "after_day") (Str.ofString "Step.after_day") (defArgs s_Step_after_day) (defBody s_Step_after_day) (defScope s_Step_after_day) [] [] (a_Step_after_day K) (fdOf K (a_Step_after_day K)) := T.fn 68 rfl
theorem Txt.f_Step_after_act (T : Txt w K mg) : FunD K (Str.ofString "after_act") (Str.ofString "Step.after_act") (defArgs s_Step_after_act) (defBody s_Step_after_act) (defScope s_Step_after_act) [] [] (a_Step_after_act K) (fdOf K (a_Step_after_act K)) := T.fn 69 rfl
theorem Txt.f_Step_after (T : Txt w K mg) : FunD K (Str.ofString "after") (Str.ofString "Step.after") (defArgs s_Step_after) (defBody s_Step_after) (defScope s_Step_after) [] [] (a_Step_after K) (fdOf K (a_Step_after K)) := T.fn 70 rfl
theorem Txt.f_Trial_init (T : Txt w K mg) : FunD K (Str.ofString "__init__") (Str.ofString "Trial.__init__") (defArgs s_Trial_init) (defBody s_Trial_init) (defScope s_Trial_init) [] [] (a_Trial_init K) (fdOf K (a_Trial_init K)) := T.fn 71 rfl
theorem Txt.f_Trial_enter (T : Txt w K mg) : FunD K (Str.ofString "__enter__") (Str.ofString "Trial.__enter__") (defArgs s_Trial_enter) (defBody s_Trial_enter) (defScope s_Trial_enter) [] [] (a_Trial_enter K) (fdOf K (a_Trial_enter K)) := T.fn 72 rfl
theorem Txt.f_Trial_exit (T : Txt w K mg) : FunD K (Str.ofString "__exit__") (Str.ofString "Trial.__exit__") (defArgs s_Trial_exit) (defBody s_Trial_exit) (defScope s_Trial_exit) [] [] (a_Trial_exit K) (fdOf K (a_Trial_exit K)) := T.fn 73 rfl
theorem Txt.f_Case_init (T : Txt w K mg) : FunD K (Str.ofString "__init__") (Str.ofString "Case.__init__") (defArgs s_Case_init) (defBody s_Case_init) (defScope s_Case_init) [] [] (a_Case_init K) (fdOf K (a_Case_init K)) := T.fn 74 rfl
theorem Txt.f_Case_state_after (T : Txt w K mg) : FunD K (Str.ofString "state_after") (Str.ofString "Case.state_after") (defArgs s_Case_state_after) (defBody s_Case_state_after) (defScope s_Case_state_after) [] [] (a_Case_state_after K) (fdOf K (a_Case_state_after K)) := T.fn 75 rfl
theorem Txt.f_Case_come (T : Txt w K mg) : FunD K (Str.ofString "come") (Str.ofString "Case.come") (defArgs s_Case_come) (defBody s_Case_come) (defScope s_Case_come) [] [] (a_Case_come K) (fdOf K (a_Case_come K)) := T.fn 76 rfl
theorem Txt.f_Case_back (T : Txt w K mg) : FunD K (Str.ofString "back") (Str.ofString "Case.back") (defArgs s_Case_back) (defBody s_Case_back) (defScope s_Case_back) [] [] (a_Case_back K) (fdOf K (a_Case_back K)) := T.fn 77 rfl
theorem Txt.f_Case_trial (T : Txt w K mg) : FunD K (Str.ofString "trial") (Str.ofString "Case.trial") (defArgs s_Case_trial) (defBody s_Case_trial) (defScope s_Case_trial) [] [] (a_Case_trial K) (fdOf K (a_Case_trial K)) := T.fn 78 rfl
theorem Txt.f_Case_standing (T : Txt w K mg) : FunD K (Str.ofString "standing") (Str.ofString "Case.standing") (defArgs s_Case_standing) (defBody s_Case_standing) (defScope s_Case_standing) [] [] (a_Case_standing K) (fdOf K (a_Case_standing K)) := T.fn 79 rfl
theorem Txt.f_Case_len (T : Txt w K mg) : FunD K (Str.ofString "__len__") (Str.ofString "Case.__len__") (defArgs s_Case_len) (defBody s_Case_len) (defScope s_Case_len) [] [] (a_Case_len K) (fdOf K (a_Case_len K)) := T.fn 80 rfl
theorem Txt.f_Case_iadd (T : Txt w K mg) : FunD K (Str.ofString "__iadd__") (Str.ofString "Case.__iadd__") (defArgs s_Case_iadd) (defBody s_Case_iadd) (defScope s_Case_iadd) [] [] (a_Case_iadd K) (fdOf K (a_Case_iadd K)) := T.fn 81 rfl
theorem Txt.f_Case_isub (T : Txt w K mg) : FunD K (Str.ofString "__isub__") (Str.ofString "Case.__isub__") (defArgs s_Case_isub) (defBody s_Case_isub) (defScope s_Case_isub) [] [] (a_Case_isub K) (fdOf K (a_Case_isub K)) := T.fn 82 rfl
theorem Txt.f_Event_init (T : Txt w K mg) : FunD K (Str.ofString "__init__") (Str.ofString "Event.__init__") (defArgs s_Event_init) (defBody s_Event_init) (defScope s_Event_init) [] [] (a_Event_init K) (fdOf K (a_Event_init K)) := T.fn 83 rfl
theorem Txt.f_Term_init (T : Txt w K mg) : FunD K (Str.ofString "__init__") (Str.ofString "Term.__init__") (defArgs s_Term_init) (defBody s_Term_init) (defScope s_Term_init) [] [] (a_Term_init K) (fdOf K (a_Term_init K)) := T.fn 84 rfl
theorem Txt.f_Contract_init (T : Txt w K mg) : FunD K (Str.ofString "__init__") (Str.ofString "Contract.__init__") (defArgs s_Contract_init) (defBody s_Contract_init) (defScope s_Contract_init) [] [] (a_Contract_init K) (fdOf K (a_Contract_init K)) := T.fn 85 rfl
theorem Txt.f_Contract_role_names (T : Txt w K mg) : FunD K (Str.ofString "role_names") (Str.ofString "Contract.role_names") (defArgs s_Contract_role_names) (defBody s_Contract_role_names) (defScope s_Contract_role_names) [] [] (a_Contract_role_names K) (fdOf K (a_Contract_role_names K)) := T.fn 86 rfl
theorem Txt.f_Contract_first_state (T : Txt w K mg) : FunD K (Str.ofString "first_state") (Str.ofString "Contract.first_state") (defArgs s_Contract_first_state) (defBody s_Contract_first_state) (defScope s_Contract_first_state) [] [] (a_Contract_first_state K) (fdOf K (a_Contract_first_state K)) := T.fn 87 rfl
theorem Txt.f_Contract_need_event (T : Txt w K mg) : FunD K (Str.ofString "need_event") (Str.ofString "Contract.need_event") (defArgs s_Contract_need_event) (defBody s_Contract_need_event) (defScope s_Contract_need_event) [] [] (a_Contract_need_event K) (fdOf K (a_Contract_need_event K)) := T.fn 88 rfl
theorem Txt.f_Contract_next_state (T : Txt w K mg) : FunD K (Str.ofString "next_state") (Str.ofString "Contract.next_state") (defArgs s_Contract_next_state) (defBody s_Contract_next_state) (defScope s_Contract_next_state) [] [] (a_Contract_next_state K) (fdOf K (a_Contract_next_state K)) := T.fn 89 rfl
theorem Txt.f_NothingToUndo_init (T : Txt w K mg) : FunD K (Str.ofString "__init__") (Str.ofString "NothingToUndo.__init__") (defArgs s_NothingToUndo_init) (defBody s_NothingToUndo_init) (defScope s_NothingToUndo_init) [] [] (a_NothingToUndo_init K) (fdOf K (a_NothingToUndo_init K)) := T.fn 90 rfl
theorem Txt.f_Case_events (T : Txt w K mg) : FunD K (Str.ofString "events") (Str.ofString "Case.events") (defArgs s_Case_events) (defBody s_Case_events) (defScope s_Case_events) [] [] (a_Case_events K) (fdOf K (a_Case_events K)) := T.fn 91 rfl
theorem Txt.f_Case_verdict (T : Txt w K mg) : FunD K (Str.ofString "verdict") (Str.ofString "Case.verdict") (defArgs s_Case_verdict) (defBody s_Case_verdict) (defScope s_Case_verdict) [] [] (a_Case_verdict K) (fdOf K (a_Case_verdict K)) := T.fn 92 rfl
theorem Txt.f_Case_since (T : Txt w K mg) : FunD K (Str.ofString "since") (Str.ofString "Case.since") (defArgs s_Case_since) (defBody s_Case_since) (defScope s_Case_since) [] [] (a_Case_since K) (fdOf K (a_Case_since K)) := T.fn 93 rfl
theorem Txt.f_Case_remainder (T : Txt w K mg) : FunD K (Str.ofString "remainder") (Str.ofString "Case.remainder") (defArgs s_Case_remainder) (defBody s_Case_remainder) (defScope s_Case_remainder) [] [] (a_Case_remainder K) (fdOf K (a_Case_remainder K)) := T.fn 94 rfl
theorem Txt.f_Event_words (T : Txt w K mg) : FunD K (Str.ofString "words") (Str.ofString "Event.words") (defArgs s_Event_words) (defBody s_Event_words) (defScope s_Event_words) [] [] (a_Event_words K) (fdOf K (a_Event_words K)) := T.fn 95 rfl
theorem Txt.f_Term_of (T : Txt w K mg) : FunD K (Str.ofString "of") (Str.ofString "Term.of") (defArgs s_Term_of) (defBody s_Term_of) (defScope s_Term_of) [] [] (a_Term_of K) (fdOf K (a_Term_of K)) := T.fn 96 rfl
theorem Txt.f_Event_act (T : Txt w K mg) : FunD K (Str.ofString "act") (Str.ofString "Event.act") (defArgs s_Event_act) (defBody s_Event_act) (defScope s_Event_act) [] [] (a_Event_act K) (fdOf K (a_Event_act K)) := T.fn 97 rfl
theorem Txt.f_Event_hand (T : Txt w K mg) : FunD K (Str.ofString "hand") (Str.ofString "Event.hand") (defArgs s_Event_hand) (defBody s_Event_hand) (defScope s_Event_hand) [] [] (a_Event_hand K) (fdOf K (a_Event_hand K)) := T.fn 98 rfl
theorem Txt.f_Event_day (T : Txt w K mg) : FunD K (Str.ofString "day") (Str.ofString "Event.day") (defArgs s_Event_day) (defBody s_Event_day) (defScope s_Event_day) [] [] (a_Event_day K) (fdOf K (a_Event_day K)) := T.fn 99 rfl
theorem Txt.x_tup_RESERVED (T : Txt w K mg) : x_tup_RESERVED K = true := T.ex 0 rfl
theorem Txt.x_tup_DONE (T : Txt w K mg) : x_tup_DONE K = true := T.ex 1 rfl
theorem Txt.x_tup_GROUPS (T : Txt w K mg) : x_tup_GROUPS K = true := T.ex 2 rfl
theorem Txt.x_tup_DUTIES (T : Txt w K mg) : x_tup_DUTIES K = true := T.ex 3 rfl
theorem Txt.x_val_SIZES (T : Txt w K mg) : x_val_SIZES K = true := T.ex 4 rfl
theorem Txt.x_val_RANKS (T : Txt w K mg) : x_val_RANKS K = true := T.ex 5 rfl
theorem Txt.x_prop_Case_events (T : Txt w K mg) : x_prop_Case_events K = true := T.ex 6 rfl
theorem Txt.x_prop_Case_verdict (T : Txt w K mg) : x_prop_Case_verdict K = true := T.ex 7 rfl
theorem Txt.x_prop_Case_since (T : Txt w K mg) : x_prop_Case_since K = true := T.ex 8 rfl
theorem Txt.x_prop_Case_remainder (T : Txt w K mg) : x_prop_Case_remainder K = true := T.ex 9 rfl
theorem Txt.x_prop_Event_words (T : Txt w K mg) : x_prop_Event_words K = true := T.ex 10 rfl
theorem Txt.x_cm_Term_of (T : Txt w K mg) : x_cm_Term_of K = true := T.ex 11 rfl
theorem Txt.x_sm_Event_act (T : Txt w K mg) : x_sm_Event_act K = true := T.ex 12 rfl
theorem Txt.x_sm_Event_hand (T : Txt w K mg) : x_sm_Event_hand K = true := T.ex 13 rfl
theorem Txt.x_sm_Event_day (T : Txt w K mg) : x_sm_Event_day K = true := T.ex 14 rfl
theorem Txt.x_read_Term (T : Txt w K mg) : x_read_Term K = true := T.ex 15 rfl
theorem Txt.x_inst_Term (T : Txt w K mg) : x_inst_Term K = true := T.ex 16 rfl
theorem Txt.x_read_Event (T : Txt w K mg) : x_read_Event K = true := T.ex 17 rfl
theorem Txt.x_inst_Event (T : Txt w K mg) : x_inst_Event K = true := T.ex 18 rfl
theorem Txt.x_self_Case (T : Txt w K mg) : x_self_Case K = true := T.ex 19 rfl
theorem Txt.x_noseq_Case (T : Txt w K mg) : x_noseq_Case K = true := T.ex 20 rfl
theorem Txt.x_exc_N (T : Txt w K mg) : x_exc_N K = true := T.ex 21 rfl
theorem Txt.x_excO_N (T : Txt w K mg) : x_excO_N K = true := T.ex 22 rfl
theorem Txt.x_excS_N (T : Txt w K mg) : x_excS_N K = true := T.ex 23 rfl
theorem Txt.x_excI_N (T : Txt w K mg) : x_excI_N K = true := T.ex 24 rfl
theorem Txt.x_excC_N (T : Txt w K mg) : x_excC_N K = true := T.ex 25 rfl
theorem Txt.x_excT_N (T : Txt w K mg) : x_excT_N K = true := T.ex 26 rfl
theorem Txt.x_excK_N (T : Txt w K mg) : x_excK_N K = true := T.ex 27 rfl
theorem Txt.x_excM_N (T : Txt w K mg) : x_excM_N K = true := T.ex 28 rfl
theorem Txt.x_excX_N (T : Txt w K mg) : x_excX_N K = true := T.ex 29 rfl
theorem Txt.x_tabs_ne (T : Txt w K mg) : x_tabs_ne K = true := T.ex 30 rfl
theorem Txt.t_SIZES (T : Txt w K mg) : ∃ es n, KDict K w (o_SIZES K) es n := T.tab 0 rfl
theorem Txt.t_RANKS (T : Txt w K mg) : ∃ es n, KDict K w (o_RANKS K) es n := T.tab 1 rfl
end
end DD
namespace DD
open PySem PySem.Spec
open PyProof.Rows L2
/-! ### the head: the top's run in the kernel, once for each answer of one row of the world -/
def nm0 : List PySem.Str := [Str.ofString "_wall", Str.ofString "DeedsError", Str.ofString "StateError", Str.ofString "BadText", Str.ofString "BadTerm", Str.ofString "BadWho", Str.ofString "BadHead", Str.ofString "BadEvent", Str.ofString "BadPlace", Str.ofString "BadNumber", Str.ofString "NothingToUndo", Str.ofString "LETTERS", Str.ofString "FIGURES", Str.ofString "RESERVED", Str.ofString "LONGEST", Str.ofString "MAX_DAYS", Str.ofString "MAX_TIMES", Str.ofString "MAX_PARTS", Str.ofString "MAX_LEVELS", Str.ofString "ANYONE", Str.ofString "is_word", Str.ofString "is_who", Str.ofString "is_whole", Str.ofString "are_unlike", Str.ofString "number_in", Str.ofString "DONE", Str.ofString "MOST_WHOS", Str.ofString "GROUPS", Str.ofString "DUTIES", Str.ofString "SIZES", Str.ofString "are_whos", Str.ofString "is_formed", Str.ofString "children_of", Str.ofString "placed_parts", Str.ofString "first_unformed"]
def nm1 : List PySem.Str := [Str.ofString "levels_of", Str.ofString "does_begin_done", Str.ofString "term_fault", Str.ofString "part_at", Str.ofString "acts_in", Str.ofString "whos_in", Str.ofString "ends_open", Str.ofString "in_brackets", Str.ofString "part_text", Str.ofString "else_text", Str.ofString "when_text", Str.ofString "term_text", Str.ofString "is_over", Str.ofString "is_anyone", Str.ofString "DAY", Str.ofString "ACT", Str.ofString "HANDS", Str.ofString "parties_of", Str.ofString "breach_of", Str.ofString "blamed_in", Str.ofString "begun", Str.ofString "begun_then", Str.ofString "continued", Str.ofString "joined_and", Str.ofString "joined_or", Str.ofString "until_of", Str.ofString "in_force", Str.ofString "matches", Str.ofString "is_permitted", Str.ofString "Step", Str.ofString "remainder_after", Str.ofString "handed", Str.ofString "stepped", Str.ofString "verdict_of", Str.ofString "Trial"]
def nm2 : List PySem.Str := [Str.ofString "force_row", Str.ofString "Case", Str.ofString "under", Str.ofString "RANKS", Str.ofString "need_words", Str.ofString "Event", Str.ofString "BRACKETS", Str.ofString "MOST_OPEN", Str.ofString "MOST_PARTIES", Str.ofString "MOST_ROLES", Str.ofString "tokens_of", Str.ofString "LineReader", Str.ofString "need_text", Str.ofString "term_in", Str.ofString "read_parties", Str.ofString "read_role", Str.ofString "contract_in", Str.ofString "Term", Str.ofString "are_parties", Str.ofString "are_roles", Str.ofString "first_stranger", Str.ofString "Contract", Str.ofString "_law_begin", Str.ofString "_law_next", Str.ofString "_law_pick", Str.ofString "_law_reserved", Str.ofString "_law_words", Str.ofString "_law_world", Str.ofString "_law_who", Str.ofString "_law_leaf", Str.ofString "_law_starts_done", Str.ofString "_law_term", Str.ofString "_law_alphabet", Str.ofString "_law_event", Str.ofString "_law_row"]
def nm3 : List PySem.Str := [Str.ofString "_law_contract", Str.ofString "_law_shown", Str.ofString "_law_led", Str.ofString "_law_back", Str.ofString "_law_far_back", Str.ofString "_law_within", Str.ofString "_law_refusal_right", Str.ofString "_law_blocks_right"]
def names : List PySem.Str := nm0 ++ (nm1 ++ (nm2 ++ nm3))
/-- addresses written out before they are used -/
def force {α : Type} : List Nat → (List Nat → α) → α
  | [], k => k []
  | a :: r, k => HandSHeadRun.frNat a fun a => force r fun r => k (a :: r)
theorem force_eq {α : Type} : ∀ (l : List Nat) (k : List Nat → α), force l k = k l
  | [], _ => rfl
  | a :: r, k => by
    show HandSHeadRun.frNat a (fun a => force r fun r => k (a :: r)) = _
    rw [HandSHeadRun.frNat_eq, force_eq]
def valR : Value → List Nat
  | .ref a => [a]
  | _ => []
def insG (g : Addr → Option Obj) (a : Addr) : List Nat := match g a with
  | some ⟨_, _, .dict es _, _⟩ => es.toList.flatMap fun e => valR e.val
  | some ⟨_, _, .fields vs, _⟩ => (match Nat.ble vs.size 8 with
    | true => vs.toList.flatMap valR
    | false => [])
  | some ⟨_, _, .func fd, _⟩ => valR fd.code
  | some ⟨_, _, .cls cd, _⟩ => [cd.ns]
  | _ => []
/-- the module's objects, their classes' dicts, what these hold, the functions within, all code objects -/
def stage (g : Addr → Option Obj) : List Nat → Nat → List Nat
  | l, 0 => l
  | l, n + 1 => force (l.flatMap (insG g)) fun l' => l ++ stage g l' n
def asY (g : Addr → Option Obj) : List Nat := cStatics :: stage g [mainGlobals] 5
abbrev AlY : Type := He.AlX × List He.FnW
def obsK (g : Addr → Option Obj) (K : PySem.W.Frag) : AlY := ((He.obsT fas [] tabs K, ((exL.all fun f => f K) && ents.all fun e => e.ok K) && He.tabsB g lams K), ents.map fun e => fnAt K (e.at_ K))
def obsY (g : Addr → Option Obj) : AlY := force (asY g) fun as => obsK g (He.frT g as)
theorem says_of {g : Addr → Option Obj} {w : World} {h : Heap} {as : List Addr} (hg : g = h.get?) (e : obsK g (He.frT g as) = (He.valX [] tabs w, ents.map Ent.val)) : Says w h (He.frT h.get? as) := by
  subst hg
  have e1 : (He.obsT fas [] tabs (He.frT h.get? as), ((exL.all fun f => f (He.frT h.get? as)) && ents.all fun z => z.ok (He.frT h.get? as)) && He.tabsB h.get? lams (He.frT h.get? as)) = (He.valT [] tabs w, true) := congrArg (fun z : AlY => z.1) e
  obtain ⟨e2, e3⟩ := Prod.mk.inj e1
  obtain ⟨e4, e5⟩ := He.ba e3
  have one : ∀ p ∈ lams, PySem.W.codeHdIn (He.frT h.get? as) (He.cT (He.frT h.get? as) p).1 (He.cT (He.frT h.get? as) p).2 = true ∧ ∃ o, h.get? (He.cT (He.frT h.get? as) p).2 = some o ∧ He.emptyTab o = true := fun p hp => by
    obtain ⟨b1, b2⟩ := He.ba (List.all_eq_true.mp e5 p hp)
    refine ⟨b1, ?_⟩
    cases q : h.get? (He.cT (He.frT h.get? as) p).2 with
    | none => rw [q] at b2; cases b2
    | some o => rw [q] at b2; exact ⟨o, rfl, b2⟩
  refine ⟨⟨e2, e4, fun p hp => (one p hp).1, fun p hp => ?_, fun p hp => ?_⟩, congrArg (fun z : AlY => z.2) e⟩
  · obtain ⟨o, q1, q2⟩ := (one p hp).2
    exact He.frT_none q1 q2
  · obtain ⟨o, q1, q2⟩ := (one p hp).2
    rw [q1, He.emptyTab_eq q2]
def valY (w : World) : AlY := (He.valX [] tabs w, ents.map Ent.val)
def hookY : PySem.W.Hook where
  α := AlY
  obs := fun s => obsY s.heap.get?
  val := fun w => valY w
  says := fun w h => ∃ K : PySem.W.Frag, K.In h ∧ Says w h K
  of := fun w s e => ⟨_, He.frT_in (as := asY s.heap.get?), says_of rfl ((force_eq _ _).symm.trans e)⟩
  keeps := fun w h h' ⟨K, hK, c⟩ k => ⟨K, PySem.W.Frag.In.keeps hK k, ⟨c.x.t, c.x.more, c.x.hd, c.x.out, fun p hp => k _ _ (c.x.empty p hp)⟩, c.fns⟩
abbrev R : PySem.W.OpenRow := PySem.W.OpenLaw.row PySem.Challenge.rw_duedeeds_k38_whole_trials
def obY (s : PySem.W.SharedT) : AlY := obsY (HandSHeadRun.getT s)
theorem obY_eq (s : PySem.W.SharedT) : obY s = hookY.obs s.abs := by
  have e : HandSHeadRun.getT s = s.abs.heap.get? := funext (HandSHeadRun.getT_eq s)
  show obsY (HandSHeadRun.getT s) = obsY s.abs.heap.get?
  rw [e]
noncomputable section
abbrev kOf (s : PySem.W.SharedT) (as : List Nat) : PySem.W.Frag := He.frT (HandSHeadRun.getT s) as
def ob1 (s : PySem.W.SharedT) : He.AlT × Bool := force (asY (HandSHeadRun.getT s)) fun as => (He.obsT fas [] tabs (kOf s as), He.tabsB (HandSHeadRun.getT s) lams (kOf s as))
def ob2 (s : PySem.W.SharedT) : Bool := force (asY (HandSHeadRun.getT s)) fun as => ents.all fun e => e.ok (kOf s as)
def ob3 (s : PySem.W.SharedT) : List He.FnW × Bool := force (asY (HandSHeadRun.getT s)) fun as => (ents.map fun e => fnAt (kOf s as) (e.at_ (kOf s as)), exL.all fun f => f (kOf s as))
abbrev vw : Program := PySem.W.view R.prog [123]
def looks (w : World) (s : PySem.W.SharedT) := (HandSHeadRun.looksF R.prog (PySem.W.boot_heap w.params) s.abs, HandSHeadRun.seenQ vw names (PySem.importedModules R.prog.main.body) (fun s => PySem.W.xlAt vw [] s && PySem.W.recOk R.toRowW.records s) s.abs)
def endR (w : World) (os : OsState) := HandSHeadRun.endF (HandSHeadRun.stepQ (HandSHeadRun.denQ HandSHeadRun.tabQ) R.prog w) 20000 R.prog w os
abbrev wF (w : World) : World := w.withFollow "special-get-raises" false
abbrev wT (w : World) : World := w.withFollow "special-get-raises" true
theorem run_lF (w : World) (os : OsState) : (endR (wF w) os).map (looks (wF w)) = some (true, PySem.W.openGood vw names) := by kernel_rfl
theorem run_1F (w : World) (os : OsState) : (endR (wF w) os).map ob1 = some (He.valT [] tabs (wF w), true) := by kernel_rfl
theorem run_2F (w : World) (os : OsState) : (endR (wF w) os).map ob2 = some true := by kernel_rfl
theorem run_3F (w : World) (os : OsState) : (endR (wF w) os).map ob3 = some (ents.map Ent.val, true) := by kernel_rfl
theorem run_lT (w : World) (os : OsState) : (endR (wT w) os).map (looks (wT w)) = some (true, PySem.W.openGood vw names) := by kernel_rfl
theorem run_1T (w : World) (os : OsState) : (endR (wT w) os).map ob1 = some (He.valT [] tabs (wT w), true) := by kernel_rfl
theorem run_2T (w : World) (os : OsState) : (endR (wT w) os).map ob2 = some true := by kernel_rfl
theorem run_3T (w : World) (os : OsState) : (endR (wT w) os).map ob3 = some (ents.map Ent.val, true) := by kernel_rfl
theorem run_join {w : World} (h0 : ∀ os, (endR w os).map (looks w) = some (true, PySem.W.openGood vw names)) (h1 : ∀ os, (endR w os).map ob1 = some (He.valT [] tabs w, true)) (h2 : ∀ os, (endR w os).map ob2 = some true) (h3 : ∀ os, (endR w os).map ob3 = some (ents.map Ent.val, true)) :
    HandSHeadRun.RunEq R vw hookY obY 20000 names w := by
  intro os
  have e0 := h0 os
  have e1 := h1 os
  have e2 := h2 os
  have e3 := h3 os
  show (endR w os).map (fun s => ((looks w s).1, (looks w s).2, obY s)) = _
  cases q : endR w os with
  | none => rw [q] at e0; cases e0
  | some s =>
    rw [q] at e0 e1 e2 e3
    have a0 : looks w s = _ := Option.some.inj e0
    have a1 : ob1 s = _ := Option.some.inj e1
    have a2 : ob2 s = _ := Option.some.inj e2
    have a3 : ob3 s = _ := Option.some.inj e3
    have b1 : (He.obsT fas [] tabs (kOf s (asY (HandSHeadRun.getT s))), He.tabsB (HandSHeadRun.getT s) lams (kOf s (asY (HandSHeadRun.getT s)))) = (He.valT [] tabs w, true) := (force_eq _ _).symm.trans a1
    have b2 : (ents.all fun e => e.ok (kOf s (asY (HandSHeadRun.getT s)))) = true := (force_eq _ _).symm.trans a2
    have b3 : (ents.map fun e => fnAt (kOf s (asY (HandSHeadRun.getT s))) (e.at_ (kOf s (asY (HandSHeadRun.getT s)))), exL.all fun f => f (kOf s (asY (HandSHeadRun.getT s)))) = (ents.map Ent.val, true) := (force_eq _ _).symm.trans a3
    have c1 := congrArg Prod.fst b1
    have c2 := congrArg Prod.snd b1
    have c3 := congrArg Prod.fst b3
    have c4 := congrArg Prod.snd b3
    dsimp only at c1 c2 c3 c4
    have hob : obY s = hookY.val w := by
      show force (asY (HandSHeadRun.getT s)) (fun as => obsK (HandSHeadRun.getT s) (He.frT (HandSHeadRun.getT s) as)) = valY w
      rw [force_eq]
      show ((He.obsT fas [] tabs (kOf s (asY (HandSHeadRun.getT s))), ((exL.all fun f => f (kOf s (asY (HandSHeadRun.getT s)))) && ents.all fun e => e.ok (kOf s (asY (HandSHeadRun.getT s)))) && He.tabsB (HandSHeadRun.getT s) lams (kOf s (asY (HandSHeadRun.getT s)))), ents.map fun e => fnAt (kOf s (asY (HandSHeadRun.getT s))) (e.at_ (kOf s (asY (HandSHeadRun.getT s))))) = valY w
      rw [c1, c2, c3, c4, b2]
      rfl
    rw [Option.map_some, a0, hob]
    exact rfl
theorem run (w : World) : HandSHeadRun.RunEq R vw hookY obY 20000 names w :=
  PySem.W.byRow2 "special-get-raises" (P := fun w => HandSHeadRun.RunEq R vw hookY obY 20000 names w) (fun w => run_join (run_lF w) (run_1F w) (run_2F w) (run_3F w)) (fun w => run_join (run_lT w) (run_1T w) (run_2T w) (run_3T w)) w
end
end DD
namespace DD
open PySem PySem.Spec
open PyProof.Rows L2
def N_is_word : List Str := ["thing", "sign"]
def ps_is_word : List Str := ["thing"]
theorem sc_is_word : FnScope N_is_word ps_is_word (defScope s_is_word) := ⟨rfl, rfl, rfl, by decide +kernel, rfl, by decide +kernel, by decide +kernel⟩
theorem Txt.b_is_word {w : World} {K : PySem.W.Frag} {mg : Str → Option Value} (T : Txt w K mg) : Binds K (fdOf K (a_is_word K)) ps_is_word [] := FunD.bindsN T.f_is_word (fun _ _ _ _ _ _ us hl => match us, hl with | [_], _ => rfl)
theorem Txt.k_is_word {w : World} {K : PySem.W.Frag} {mg : Str → Option Value} (T : Txt w K mg) : PySem.W.keepIn K (.ref (a_is_word K)) = true := T.f_is_word.kp
def N_is_who : List Str := ["thing"]
def ps_is_who : List Str := ["thing"]
theorem sc_is_who : FnScope N_is_who ps_is_who (defScope s_is_who) := ⟨rfl, rfl, rfl, by decide +kernel, rfl, by decide +kernel, by decide +kernel⟩
theorem Txt.b_is_who {w : World} {K : PySem.W.Frag} {mg : Str → Option Value} (T : Txt w K mg) : Binds K (fdOf K (a_is_who K)) ps_is_who [] := FunD.bindsN T.f_is_who (fun _ _ _ _ _ _ us hl => match us, hl with | [_], _ => rfl)
theorem Txt.k_is_who {w : World} {K : PySem.W.Frag} {mg : Str → Option Value} (T : Txt w K mg) : PySem.W.keepIn K (.ref (a_is_who K)) = true := T.f_is_who.kp
def N_is_whole : List Str := ["thing", "least", "most"]
def ps_is_whole : List Str := ["thing", "least", "most"]
theorem sc_is_whole : FnScope N_is_whole ps_is_whole (defScope s_is_whole) := ⟨rfl, rfl, rfl, by decide +kernel, rfl, by decide +kernel, by decide +kernel⟩
theorem Txt.b_is_whole {w : World} {K : PySem.W.Frag} {mg : Str → Option Value} (T : Txt w K mg) : Binds K (fdOf K (a_is_whole K)) ps_is_whole [] := FunD.bindsN T.f_is_whole (fun _ _ _ _ _ _ us hl => match us, hl with | [_, _, _], _ => rfl)
theorem Txt.k_is_whole {w : World} {K : PySem.W.Frag} {mg : Str → Option Value} (T : Txt w K mg) : PySem.W.keepIn K (.ref (a_is_whole K)) = true := T.f_is_whole.kp
def N_are_unlike : List Str := ["things", "at", "thing"]
def ps_are_unlike : List Str := ["things"]
theorem sc_are_unlike : FnScope N_are_unlike ps_are_unlike (defScope s_are_unlike) := ⟨rfl, rfl, rfl, by decide +kernel, rfl, by decide +kernel, by decide +kernel⟩
theorem Txt.b_are_unlike {w : World} {K : PySem.W.Frag} {mg : Str → Option Value} (T : Txt w K mg) : Binds K (fdOf K (a_are_unlike K)) ps_are_unlike [] := FunD.bindsN T.f_are_unlike (fun _ _ _ _ _ _ us hl => match us, hl with | [_], _ => rfl)
theorem Txt.k_are_unlike {w : World} {K : PySem.W.Frag} {mg : Str → Option Value} (T : Txt w K mg) : PySem.W.keepIn K (.ref (a_are_unlike K)) = true := T.f_are_unlike.kp
def N_are_whos : List Str := ["thing", "one"]
def ps_are_whos : List Str := ["thing"]
theorem sc_are_whos : FnScope N_are_whos ps_are_whos (defScope s_are_whos) := ⟨rfl, rfl, rfl, by decide +kernel, rfl, by decide +kernel, by decide +kernel⟩
theorem Txt.b_are_whos {w : World} {K : PySem.W.Frag} {mg : Str → Option Value} (T : Txt w K mg) : Binds K (fdOf K (a_are_whos K)) ps_are_whos [] := FunD.bindsN T.f_are_whos (fun _ _ _ _ _ _ us hl => match us, hl with | [_], _ => rfl)
theorem Txt.k_are_whos {w : World} {K : PySem.W.Frag} {mg : Str → Option Value} (T : Txt w K mg) : PySem.W.keepIn K (.ref (a_are_whos K)) = true := T.f_are_whos.kp
def N_is_formed : List Str := ["thing", "word"]
def ps_is_formed : List Str := ["thing"]
theorem sc_is_formed : FnScope N_is_formed ps_is_formed (defScope s_is_formed) := ⟨rfl, rfl, rfl, by decide +kernel, rfl, by decide +kernel, by decide +kernel⟩
theorem Txt.b_is_formed {w : World} {K : PySem.W.Frag} {mg : Str → Option Value} (T : Txt w K mg) : Binds K (fdOf K (a_is_formed K)) ps_is_formed [] := FunD.bindsN T.f_is_formed (fun _ _ _ _ _ _ us hl => match us, hl with | [_], _ => rfl)
theorem Txt.k_is_formed {w : World} {K : PySem.W.Frag} {mg : Str → Option Value} (T : Txt w K mg) : PySem.W.keepIn K (.ref (a_is_formed K)) = true := T.f_is_formed.kp
def N_children_of : List Str := ["told", "word"]
def ps_children_of : List Str := ["told"]
theorem sc_children_of : FnScope N_children_of ps_children_of (defScope s_children_of) := ⟨rfl, rfl, rfl, by decide +kernel, rfl, by decide +kernel, by decide +kernel⟩
theorem Txt.b_children_of {w : World} {K : PySem.W.Frag} {mg : Str → Option Value} (T : Txt w K mg) : Binds K (fdOf K (a_children_of K)) ps_children_of [] := FunD.bindsN T.f_children_of (fun _ _ _ _ _ _ us hl => match us, hl with | [_], _ => rfl)
theorem Txt.k_children_of {w : World} {K : PySem.W.Frag} {mg : Str → Option Value} (T : Txt w K mg) : PySem.W.keepIn K (.ref (a_children_of K)) = true := T.f_children_of.kp
def N_placed_parts : List Str := ["told", "found", "waiting", "place", "part", "kids", "at"]
def ps_placed_parts : List Str := ["told"]
theorem sc_placed_parts : FnScope N_placed_parts ps_placed_parts (defScope s_placed_parts) := ⟨rfl, rfl, rfl, by decide +kernel, rfl, by decide +kernel, by decide +kernel⟩
theorem Txt.b_placed_parts {w : World} {K : PySem.W.Frag} {mg : Str → Option Value} (T : Txt w K mg) : Binds K (fdOf K (a_placed_parts K)) ps_placed_parts [] := FunD.bindsN T.f_placed_parts (fun _ _ _ _ _ _ us hl => match us, hl with | [_], _ => rfl)
theorem Txt.k_placed_parts {w : World} {K : PySem.W.Frag} {mg : Str → Option Value} (T : Txt w K mg) : PySem.W.keepIn K (.ref (a_placed_parts K)) = true := T.f_placed_parts.kp
def N_first_unformed : List Str := ["thing", "waiting", "place", "part", "kids", "at"]
def ps_first_unformed : List Str := ["thing"]
theorem sc_first_unformed : FnScope N_first_unformed ps_first_unformed (defScope s_first_unformed) := ⟨rfl, rfl, rfl, by decide +kernel, rfl, by decide +kernel, by decide +kernel⟩
theorem Txt.b_first_unformed {w : World} {K : PySem.W.Frag} {mg : Str → Option Value} (T : Txt w K mg) : Binds K (fdOf K (a_first_unformed K)) ps_first_unformed [] := FunD.bindsN T.f_first_unformed (fun _ _ _ _ _ _ us hl => match us, hl with | [_], _ => rfl)
theorem Txt.k_first_unformed {w : World} {K : PySem.W.Frag} {mg : Str → Option Value} (T : Txt w K mg) : PySem.W.keepIn K (.ref (a_first_unformed K)) = true := T.f_first_unformed.kp
def N_levels_of : List Str := ["told", "place", "part"]
def ps_levels_of : List Str := ["told"]
theorem sc_levels_of : FnScope N_levels_of ps_levels_of (defScope s_levels_of) := ⟨rfl, rfl, rfl, by decide +kernel, rfl, by decide +kernel, by decide +kernel⟩
theorem Txt.b_levels_of {w : World} {K : PySem.W.Frag} {mg : Str → Option Value} (T : Txt w K mg) : Binds K (fdOf K (a_levels_of K)) ps_levels_of [] := FunD.bindsN T.f_levels_of (fun _ _ _ _ _ _ us hl => match us, hl with | [_], _ => rfl)
theorem Txt.k_levels_of {w : World} {K : PySem.W.Frag} {mg : Str → Option Value} (T : Txt w K mg) : PySem.W.keepIn K (.ref (a_levels_of K)) = true := T.f_levels_of.kp
def N_does_begin_done : List Str := ["told", "word", "kid"]
def ps_does_begin_done : List Str := ["told"]
theorem sc_does_begin_done : FnScope N_does_begin_done ps_does_begin_done (defScope s_does_begin_done) := ⟨rfl, rfl, rfl, by decide +kernel, rfl, by decide +kernel, by decide +kernel⟩
theorem Txt.b_does_begin_done {w : World} {K : PySem.W.Frag} {mg : Str → Option Value} (T : Txt w K mg) : Binds K (fdOf K (a_does_begin_done K)) ps_does_begin_done [] := FunD.bindsN T.f_does_begin_done (fun _ _ _ _ _ _ us hl => match us, hl with | [_], _ => rfl)
theorem Txt.k_does_begin_done {w : World} {K : PySem.W.Frag} {mg : Str → Option Value} (T : Txt w K mg) : PySem.W.keepIn K (.ref (a_does_begin_done K)) = true := T.f_does_begin_done.kp
def N_term_fault : List Str := ["thing", "place", "spot", "part"]
def ps_term_fault : List Str := ["thing"]
theorem sc_term_fault : FnScope N_term_fault ps_term_fault (defScope s_term_fault) := ⟨rfl, rfl, rfl, by decide +kernel, rfl, by decide +kernel, by decide +kernel⟩
theorem Txt.b_term_fault {w : World} {K : PySem.W.Frag} {mg : Str → Option Value} (T : Txt w K mg) : Binds K (fdOf K (a_term_fault K)) ps_term_fault [] := FunD.bindsN T.f_term_fault (fun _ _ _ _ _ _ us hl => match us, hl with | [_], _ => rfl)
theorem Txt.k_term_fault {w : World} {K : PySem.W.Frag} {mg : Str → Option Value} (T : Txt w K mg) : PySem.W.keepIn K (.ref (a_term_fault K)) = true := T.f_term_fault.kp
def N_whos_in : List Str := ["part"]
def ps_whos_in : List Str := ["part"]
theorem sc_whos_in : FnScope N_whos_in ps_whos_in (defScope s_whos_in) := ⟨rfl, rfl, rfl, by decide +kernel, rfl, by decide +kernel, by decide +kernel⟩
theorem Txt.b_whos_in {w : World} {K : PySem.W.Frag} {mg : Str → Option Value} (T : Txt w K mg) : Binds K (fdOf K (a_whos_in K)) ps_whos_in [] := FunD.bindsN T.f_whos_in (fun _ _ _ _ _ _ us hl => match us, hl with | [_], _ => rfl)
theorem Txt.k_whos_in {w : World} {K : PySem.W.Frag} {mg : Str → Option Value} (T : Txt w K mg) : PySem.W.keepIn K (.ref (a_whos_in K)) = true := T.f_whos_in.kp
def N_ends_open : List Str := ["told", "word"]
def ps_ends_open : List Str := ["told"]
theorem sc_ends_open : FnScope N_ends_open ps_ends_open (defScope s_ends_open) := ⟨rfl, rfl, rfl, by decide +kernel, rfl, by decide +kernel, by decide +kernel⟩
theorem Txt.b_ends_open {w : World} {K : PySem.W.Frag} {mg : Str → Option Value} (T : Txt w K mg) : Binds K (fdOf K (a_ends_open K)) ps_ends_open [] := FunD.bindsN T.f_ends_open (fun _ _ _ _ _ _ us hl => match us, hl with | [_], _ => rfl)
theorem Txt.k_ends_open {w : World} {K : PySem.W.Frag} {mg : Str → Option Value} (T : Txt w K mg) : PySem.W.keepIn K (.ref (a_ends_open K)) = true := T.f_ends_open.kp
def N_in_brackets : List Str := ["text"]
def ps_in_brackets : List Str := ["text"]
theorem sc_in_brackets : FnScope N_in_brackets ps_in_brackets (defScope s_in_brackets) := ⟨rfl, rfl, rfl, by decide +kernel, rfl, by decide +kernel, by decide +kernel⟩
theorem Txt.b_in_brackets {w : World} {K : PySem.W.Frag} {mg : Str → Option Value} (T : Txt w K mg) : Binds K (fdOf K (a_in_brackets K)) ps_in_brackets [] := FunD.bindsN T.f_in_brackets (fun _ _ _ _ _ _ us hl => match us, hl with | [_], _ => rfl)
theorem Txt.k_in_brackets {w : World} {K : PySem.W.Frag} {mg : Str → Option Value} (T : Txt w K mg) : PySem.W.keepIn K (.ref (a_in_brackets K)) = true := T.f_in_brackets.kp
def N_part_text : List Str := ["told", "text"]
def ps_part_text : List Str := ["told"]
theorem sc_part_text : FnScope N_part_text ps_part_text (defScope s_part_text) := ⟨rfl, rfl, rfl, by decide +kernel, rfl, by decide +kernel, by decide +kernel⟩
theorem Txt.b_part_text {w : World} {K : PySem.W.Frag} {mg : Str → Option Value} (T : Txt w K mg) : Binds K (fdOf K (a_part_text K)) ps_part_text [] := FunD.bindsN T.f_part_text (fun _ _ _ _ _ _ us hl => match us, hl with | [_], _ => rfl)
theorem Txt.k_part_text {w : World} {K : PySem.W.Frag} {mg : Str → Option Value} (T : Txt w K mg) : PySem.W.keepIn K (.ref (a_part_text K)) = true := T.f_part_text.kp
def N_else_text : List Str := ["other"]
def ps_else_text : List Str := ["other"]
theorem sc_else_text : FnScope N_else_text ps_else_text (defScope s_else_text) := ⟨rfl, rfl, rfl, by decide +kernel, rfl, by decide +kernel, by decide +kernel⟩
theorem Txt.b_else_text {w : World} {K : PySem.W.Frag} {mg : Str → Option Value} (T : Txt w K mg) : Binds K (fdOf K (a_else_text K)) ps_else_text [] := FunD.bindsN T.f_else_text (fun _ _ _ _ _ _ us hl => match us, hl with | [_], _ => rfl)
theorem Txt.k_else_text {w : World} {K : PySem.W.Frag} {mg : Str → Option Value} (T : Txt w K mg) : PySem.W.keepIn K (.ref (a_else_text K)) = true := T.f_else_text.kp
def N_when_text : List Str := ["told", "word", "who", "act", "days", "part", "other", "inner"]
def ps_when_text : List Str := ["told"]
theorem sc_when_text : FnScope N_when_text ps_when_text (defScope s_when_text) := ⟨rfl, rfl, rfl, by decide +kernel, rfl, by decide +kernel, by decide +kernel⟩
theorem Txt.b_when_text {w : World} {K : PySem.W.Frag} {mg : Str → Option Value} (T : Txt w K mg) : Binds K (fdOf K (a_when_text K)) ps_when_text [] := FunD.bindsN T.f_when_text (fun _ _ _ _ _ _ us hl => match us, hl with | [_], _ => rfl)
theorem Txt.k_when_text {w : World} {K : PySem.W.Frag} {mg : Str → Option Value} (T : Txt w K mg) : PySem.W.keepIn K (.ref (a_when_text K)) = true := T.f_when_text.kp
def N_term_text : List Str := ["told", "kid"]
def ps_term_text : List Str := ["told"]
theorem sc_term_text : FnScope N_term_text ps_term_text (defScope s_term_text) := ⟨rfl, rfl, rfl, by decide +kernel, rfl, by decide +kernel, by decide +kernel⟩
theorem Txt.b_term_text {w : World} {K : PySem.W.Frag} {mg : Str → Option Value} (T : Txt w K mg) : Binds K (fdOf K (a_term_text K)) ps_term_text [] := FunD.bindsN T.f_term_text (fun _ _ _ _ _ _ us hl => match us, hl with | [_], _ => rfl)
theorem Txt.k_term_text {w : World} {K : PySem.W.Frag} {mg : Str → Option Value} (T : Txt w K mg) : PySem.W.keepIn K (.ref (a_term_text K)) = true := T.f_term_text.kp
def N_is_over : List Str := ["told"]
def ps_is_over : List Str := ["told"]
theorem sc_is_over : FnScope N_is_over ps_is_over (defScope s_is_over) := ⟨rfl, rfl, rfl, by decide +kernel, rfl, by decide +kernel, by decide +kernel⟩
theorem Txt.b_is_over {w : World} {K : PySem.W.Frag} {mg : Str → Option Value} (T : Txt w K mg) : Binds K (fdOf K (a_is_over K)) ps_is_over [] := FunD.bindsN T.f_is_over (fun _ _ _ _ _ _ us hl => match us, hl with | [_], _ => rfl)
theorem Txt.k_is_over {w : World} {K : PySem.W.Frag} {mg : Str → Option Value} (T : Txt w K mg) : PySem.W.keepIn K (.ref (a_is_over K)) = true := T.f_is_over.kp
def N_is_anyone : List Str := ["who"]
def ps_is_anyone : List Str := ["who"]
theorem sc_is_anyone : FnScope N_is_anyone ps_is_anyone (defScope s_is_anyone) := ⟨rfl, rfl, rfl, by decide +kernel, rfl, by decide +kernel, by decide +kernel⟩
theorem Txt.b_is_anyone {w : World} {K : PySem.W.Frag} {mg : Str → Option Value} (T : Txt w K mg) : Binds K (fdOf K (a_is_anyone K)) ps_is_anyone [] := FunD.bindsN T.f_is_anyone (fun _ _ _ _ _ _ us hl => match us, hl with | [_], _ => rfl)
theorem Txt.k_is_anyone {w : World} {K : PySem.W.Frag} {mg : Str → Option Value} (T : Txt w K mg) : PySem.W.keepIn K (.ref (a_is_anyone K)) = true := T.f_is_anyone.kp
def N_parties_of : List Str := ["who", "parties", "holders"]
def ps_parties_of : List Str := ["who", "parties", "holders"]
theorem sc_parties_of : FnScope N_parties_of ps_parties_of (defScope s_parties_of) := ⟨rfl, rfl, rfl, by decide +kernel, rfl, by decide +kernel, by decide +kernel⟩
theorem Txt.b_parties_of {w : World} {K : PySem.W.Frag} {mg : Str → Option Value} (T : Txt w K mg) : Binds K (fdOf K (a_parties_of K)) ps_parties_of [] := FunD.bindsN T.f_parties_of (fun _ _ _ _ _ _ us hl => match us, hl with | [_, _, _], _ => rfl)
theorem Txt.k_parties_of {w : World} {K : PySem.W.Frag} {mg : Str → Option Value} (T : Txt w K mg) : PySem.W.keepIn K (.ref (a_parties_of K)) = true := T.f_parties_of.kp
def N_breach_of : List Str := ["found", "party"]
def ps_breach_of : List Str := ["found"]
theorem sc_breach_of : FnScope N_breach_of ps_breach_of (defScope s_breach_of) := ⟨rfl, rfl, rfl, by decide +kernel, rfl, by decide +kernel, by decide +kernel⟩
theorem Txt.b_breach_of {w : World} {K : PySem.W.Frag} {mg : Str → Option Value} (T : Txt w K mg) : Binds K (fdOf K (a_breach_of K)) ps_breach_of [] := FunD.bindsN T.f_breach_of (fun _ _ _ _ _ _ us hl => match us, hl with | [_], _ => rfl)
theorem Txt.k_breach_of {w : World} {K : PySem.W.Frag} {mg : Str → Option Value} (T : Txt w K mg) : PySem.W.keepIn K (.ref (a_breach_of K)) = true := T.f_breach_of.kp
def N_blamed_in : List Str := ["kids", "kid", "party"]
def ps_blamed_in : List Str := ["kids"]
theorem sc_blamed_in : FnScope N_blamed_in ps_blamed_in (defScope s_blamed_in) := ⟨rfl, rfl, rfl, by decide +kernel, rfl, by decide +kernel, by decide +kernel⟩
theorem Txt.b_blamed_in {w : World} {K : PySem.W.Frag} {mg : Str → Option Value} (T : Txt w K mg) : Binds K (fdOf K (a_blamed_in K)) ps_blamed_in [] := FunD.bindsN T.f_blamed_in (fun _ _ _ _ _ _ us hl => match us, hl with | [_], _ => rfl)
theorem Txt.k_blamed_in {w : World} {K : PySem.W.Frag} {mg : Str → Option Value} (T : Txt w K mg) : PySem.W.keepIn K (.ref (a_blamed_in K)) = true := T.f_blamed_in.kp
def N_begun : List Str := ["told", "parties", "holders", "word", "kids", "again", "kid", "who", "party"]
def ps_begun : List Str := ["told", "parties", "holders"]
theorem sc_begun : FnScope N_begun ps_begun (defScope s_begun) := ⟨rfl, rfl, rfl, by decide +kernel, rfl, by decide +kernel, by decide +kernel⟩
theorem Txt.b_begun {w : World} {K : PySem.W.Frag} {mg : Str → Option Value} (T : Txt w K mg) : Binds K (fdOf K (a_begun K)) ps_begun [] := FunD.bindsN T.f_begun (fun _ _ _ _ _ _ us hl => match us, hl with | [_, _, _], _ => rfl)
theorem Txt.k_begun {w : World} {K : PySem.W.Frag} {mg : Str → Option Value} (T : Txt w K mg) : PySem.W.keepIn K (.ref (a_begun K)) = true := T.f_begun.kp
def N_begun_then : List Str := ["kids", "parties", "holders", "at", "kid", "first", "later"]
def ps_begun_then : List Str := ["kids", "parties", "holders"]
theorem sc_begun_then : FnScope N_begun_then ps_begun_then (defScope s_begun_then) := ⟨rfl, rfl, rfl, by decide +kernel, rfl, by decide +kernel, by decide +kernel⟩
theorem Txt.b_begun_then {w : World} {K : PySem.W.Frag} {mg : Str → Option Value} (T : Txt w K mg) : Binds K (fdOf K (a_begun_then K)) ps_begun_then [] := FunD.bindsN T.f_begun_then (fun _ _ _ _ _ _ us hl => match us, hl with | [_, _, _], _ => rfl)
theorem Txt.k_begun_then {w : World} {K : PySem.W.Frag} {mg : Str → Option Value} (T : Txt w K mg) : PySem.W.keepIn K (.ref (a_begun_then K)) = true := T.f_begun_then.kp
def N_continued : List Str := ["first", "later", "parties", "holders"]
def ps_continued : List Str := ["first", "later", "parties", "holders"]
theorem sc_continued : FnScope N_continued ps_continued (defScope s_continued) := ⟨rfl, rfl, rfl, by decide +kernel, rfl, by decide +kernel, by decide +kernel⟩
theorem Txt.b_continued {w : World} {K : PySem.W.Frag} {mg : Str → Option Value} (T : Txt w K mg) : Binds K (fdOf K (a_continued K)) ps_continued [] := FunD.bindsN T.f_continued (fun _ _ _ _ _ _ us hl => match us, hl with | [_, _, _, _], _ => rfl)
theorem Txt.k_continued {w : World} {K : PySem.W.Frag} {mg : Str → Option Value} (T : Txt w K mg) : PySem.W.keepIn K (.ref (a_continued K)) = true := T.f_continued.kp
def N_joined_and : List Str := ["kids", "blamed", "left", "kid"]
def ps_joined_and : List Str := ["kids"]
theorem sc_joined_and : FnScope N_joined_and ps_joined_and (defScope s_joined_and) := ⟨rfl, rfl, rfl, by decide +kernel, rfl, by decide +kernel, by decide +kernel⟩
theorem Txt.b_joined_and {w : World} {K : PySem.W.Frag} {mg : Str → Option Value} (T : Txt w K mg) : Binds K (fdOf K (a_joined_and K)) ps_joined_and [] := FunD.bindsN T.f_joined_and (fun _ _ _ _ _ _ us hl => match us, hl with | [_], _ => rfl)
theorem Txt.k_joined_and {w : World} {K : PySem.W.Frag} {mg : Str → Option Value} (T : Txt w K mg) : PySem.W.keepIn K (.ref (a_joined_and K)) = true := T.f_joined_and.kp
def N_joined_or : List Str := ["kids", "blamed", "left", "kid"]
def ps_joined_or : List Str := ["kids"]
theorem sc_joined_or : FnScope N_joined_or ps_joined_or (defScope s_joined_or) := ⟨rfl, rfl, rfl, by decide +kernel, rfl, by decide +kernel, by decide +kernel⟩
theorem Txt.b_joined_or {w : World} {K : PySem.W.Frag} {mg : Str → Option Value} (T : Txt w K mg) : Binds K (fdOf K (a_joined_or K)) ps_joined_or [] := FunD.bindsN T.f_joined_or (fun _ _ _ _ _ _ us hl => match us, hl with | [_], _ => rfl)
theorem Txt.k_joined_or {w : World} {K : PySem.W.Frag} {mg : Str → Option Value} (T : Txt w K mg) : PySem.W.keepIn K (.ref (a_joined_or K)) = true := T.f_joined_or.kp
def N_until_of : List Str := ["kid", "who", "act"]
def ps_until_of : List Str := ["kid", "who", "act"]
theorem sc_until_of : FnScope N_until_of ps_until_of (defScope s_until_of) := ⟨rfl, rfl, rfl, by decide +kernel, rfl, by decide +kernel, by decide +kernel⟩
theorem Txt.b_until_of {w : World} {K : PySem.W.Frag} {mg : Str → Option Value} (T : Txt w K mg) : Binds K (fdOf K (a_until_of K)) ps_until_of [] := FunD.bindsN T.f_until_of (fun _ _ _ _ _ _ us hl => match us, hl with | [_, _, _], _ => rfl)
theorem Txt.k_until_of {w : World} {K : PySem.W.Frag} {mg : Str → Option Value} (T : Txt w K mg) : PySem.W.keepIn K (.ref (a_until_of K)) = true := T.f_until_of.kp
def N_in_force : List Str := ["told", "word", "kid", "part"]
def ps_in_force : List Str := ["told"]
theorem sc_in_force : FnScope N_in_force ps_in_force (defScope s_in_force) := ⟨rfl, rfl, rfl, by decide +kernel, rfl, by decide +kernel, by decide +kernel⟩
theorem Txt.b_in_force {w : World} {K : PySem.W.Frag} {mg : Str → Option Value} (T : Txt w K mg) : Binds K (fdOf K (a_in_force K)) ps_in_force [] := FunD.bindsN T.f_in_force (fun _ _ _ _ _ _ us hl => match us, hl with | [_], _ => rfl)
theorem Txt.k_in_force {w : World} {K : PySem.W.Frag} {mg : Str → Option Value} (T : Txt w K mg) : PySem.W.keepIn K (.ref (a_in_force K)) = true := T.f_in_force.kp
def N_matches : List Str := ["who", "act", "words", "holders"]
def ps_matches : List Str := ["who", "act", "words", "holders"]
theorem sc_matches : FnScope N_matches ps_matches (defScope s_matches) := ⟨rfl, rfl, rfl, by decide +kernel, rfl, by decide +kernel, by decide +kernel⟩
theorem Txt.b_matches {w : World} {K : PySem.W.Frag} {mg : Str → Option Value} (T : Txt w K mg) : Binds K (fdOf K (a_matches K)) ps_matches [] := FunD.bindsN T.f_matches (fun _ _ _ _ _ _ us hl => match us, hl with | [_, _, _, _], _ => rfl)
theorem Txt.k_matches {w : World} {K : PySem.W.Frag} {mg : Str → Option Value} (T : Txt w K mg) : PySem.W.keepIn K (.ref (a_matches K)) = true := T.f_matches.kp
def N_is_permitted : List Str := ["told", "words", "holders", "part"]
def ps_is_permitted : List Str := ["told", "words", "holders"]
theorem sc_is_permitted : FnScope N_is_permitted ps_is_permitted (defScope s_is_permitted) := ⟨rfl, rfl, rfl, by decide +kernel, rfl, by decide +kernel, by decide +kernel⟩
theorem Txt.b_is_permitted {w : World} {K : PySem.W.Frag} {mg : Str → Option Value} (T : Txt w K mg) : Binds K (fdOf K (a_is_permitted K)) ps_is_permitted [] := FunD.bindsN T.f_is_permitted (fun _ _ _ _ _ _ us hl => match us, hl with | [_, _, _], _ => rfl)
theorem Txt.k_is_permitted {w : World} {K : PySem.W.Frag} {mg : Str → Option Value} (T : Txt w K mg) : PySem.W.keepIn K (.ref (a_is_permitted K)) = true := T.f_is_permitted.kp
def N_remainder_after : List Str := ["told", "words", "parties", "holders"]
def ps_remainder_after : List Str := ["told", "words", "parties", "holders"]
theorem sc_remainder_after : FnScope N_remainder_after ps_remainder_after (defScope s_remainder_after) := ⟨rfl, rfl, rfl, by decide +kernel, rfl, by decide +kernel, by decide +kernel⟩
theorem Txt.b_remainder_after {w : World} {K : PySem.W.Frag} {mg : Str → Option Value} (T : Txt w K mg) : Binds K (fdOf K (a_remainder_after K)) ps_remainder_after [] := FunD.bindsN T.f_remainder_after (fun _ _ _ _ _ _ us hl => match us, hl with | [_, _, _, _], _ => rfl)
theorem Txt.k_remainder_after {w : World} {K : PySem.W.Frag} {mg : Str → Option Value} (T : Txt w K mg) : PySem.W.keepIn K (.ref (a_remainder_after K)) = true := T.f_remainder_after.kp
def N_handed : List Str := ["words", "holders"]
def ps_handed : List Str := ["words", "holders"]
theorem sc_handed : FnScope N_handed ps_handed (defScope s_handed) := ⟨rfl, rfl, rfl, by decide +kernel, rfl, by decide +kernel, by decide +kernel⟩
theorem Txt.b_handed {w : World} {K : PySem.W.Frag} {mg : Str → Option Value} (T : Txt w K mg) : Binds K (fdOf K (a_handed K)) ps_handed [] := FunD.bindsN T.f_handed (fun _ _ _ _ _ _ us hl => match us, hl with | [_, _], _ => rfl)
theorem Txt.k_handed {w : World} {K : PySem.W.Frag} {mg : Str → Option Value} (T : Txt w K mg) : PySem.W.keepIn K (.ref (a_handed K)) = true := T.f_handed.kp
def N_stepped : List Str := ["state", "words", "parties", "told", "holders"]
def ps_stepped : List Str := ["state", "words", "parties"]
theorem sc_stepped : FnScope N_stepped ps_stepped (defScope s_stepped) := ⟨rfl, rfl, rfl, by decide +kernel, rfl, by decide +kernel, by decide +kernel⟩
theorem Txt.b_stepped {w : World} {K : PySem.W.Frag} {mg : Str → Option Value} (T : Txt w K mg) : Binds K (fdOf K (a_stepped K)) ps_stepped [] := FunD.bindsN T.f_stepped (fun _ _ _ _ _ _ us hl => match us, hl with | [_, _, _], _ => rfl)
theorem Txt.k_stepped {w : World} {K : PySem.W.Frag} {mg : Str → Option Value} (T : Txt w K mg) : PySem.W.keepIn K (.ref (a_stepped K)) = true := T.f_stepped.kp
def N_verdict_of : List Str := ["told"]
def ps_verdict_of : List Str := ["told"]
theorem sc_verdict_of : FnScope N_verdict_of ps_verdict_of (defScope s_verdict_of) := ⟨rfl, rfl, rfl, by decide +kernel, rfl, by decide +kernel, by decide +kernel⟩
theorem Txt.b_verdict_of {w : World} {K : PySem.W.Frag} {mg : Str → Option Value} (T : Txt w K mg) : Binds K (fdOf K (a_verdict_of K)) ps_verdict_of [] := FunD.bindsN T.f_verdict_of (fun _ _ _ _ _ _ us hl => match us, hl with | [_], _ => rfl)
theorem Txt.k_verdict_of {w : World} {K : PySem.W.Frag} {mg : Str → Option Value} (T : Txt w K mg) : PySem.W.keepIn K (.ref (a_verdict_of K)) = true := T.f_verdict_of.kp
def N_force_row : List Str := ["told"]
def ps_force_row : List Str := ["told"]
theorem sc_force_row : FnScope N_force_row ps_force_row (defScope s_force_row) := ⟨rfl, rfl, rfl, by decide +kernel, rfl, by decide +kernel, by decide +kernel⟩
theorem Txt.b_force_row {w : World} {K : PySem.W.Frag} {mg : Str → Option Value} (T : Txt w K mg) : Binds K (fdOf K (a_force_row K)) ps_force_row [] := FunD.bindsN T.f_force_row (fun _ _ _ _ _ _ us hl => match us, hl with | [_], _ => rfl)
theorem Txt.k_force_row {w : World} {K : PySem.W.Frag} {mg : Str → Option Value} (T : Txt w K mg) : PySem.W.keepIn K (.ref (a_force_row K)) = true := T.f_force_row.kp
def N_under : List Str := ["manager", "deed", "found", "probe"]
def ps_under : List Str := ["manager", "deed"]
theorem sc_under : FnScope N_under ps_under (defScope s_under) := ⟨rfl, rfl, rfl, by decide +kernel, rfl, by decide +kernel, by decide +kernel⟩
theorem Txt.b_under {w : World} {K : PySem.W.Frag} {mg : Str → Option Value} (T : Txt w K mg) : Binds K (fdOf K (a_under K)) ps_under [] := FunD.bindsN T.f_under (fun _ _ _ _ _ _ us hl => match us, hl with | [_, _], _ => rfl)
theorem Txt.k_under {w : World} {K : PySem.W.Frag} {mg : Str → Option Value} (T : Txt w K mg) : PySem.W.keepIn K (.ref (a_under K)) = true := T.f_under.kp
def N_need_words : List Str := ["things", "thing"]
def ps_need_words : List Str := ["things"]
theorem sc_need_words : FnScope N_need_words ps_need_words (defScope s_need_words) := ⟨rfl, rfl, rfl, by decide +kernel, rfl, by decide +kernel, by decide +kernel⟩
theorem Txt.b_need_words {w : World} {K : PySem.W.Frag} {mg : Str → Option Value} (T : Txt w K mg) : Binds K (fdOf K (a_need_words K)) ps_need_words [] := FunD.bindsN T.f_need_words (fun _ _ _ _ _ _ us hl => match us, hl with | [_], _ => rfl)
theorem Txt.k_need_words {w : World} {K : PySem.W.Frag} {mg : Str → Option Value} (T : Txt w K mg) : PySem.W.keepIn K (.ref (a_need_words K)) = true := T.f_need_words.kp
def N_are_parties : List Str := ["thing", "party"]
def ps_are_parties : List Str := ["thing"]
theorem sc_are_parties : FnScope N_are_parties ps_are_parties (defScope s_are_parties) := ⟨rfl, rfl, rfl, by decide +kernel, rfl, by decide +kernel, by decide +kernel⟩
theorem Txt.b_are_parties {w : World} {K : PySem.W.Frag} {mg : Str → Option Value} (T : Txt w K mg) : Binds K (fdOf K (a_are_parties K)) ps_are_parties [] := FunD.bindsN T.f_are_parties (fun _ _ _ _ _ _ us hl => match us, hl with | [_], _ => rfl)
theorem Txt.k_are_parties {w : World} {K : PySem.W.Frag} {mg : Str → Option Value} (T : Txt w K mg) : PySem.W.keepIn K (.ref (a_are_parties K)) = true := T.f_are_parties.kp
def N_are_roles : List Str := ["thing", "parties", "pair"]
def ps_are_roles : List Str := ["thing", "parties"]
theorem sc_are_roles : FnScope N_are_roles ps_are_roles (defScope s_are_roles) := ⟨rfl, rfl, rfl, by decide +kernel, rfl, by decide +kernel, by decide +kernel⟩
theorem Txt.b_are_roles {w : World} {K : PySem.W.Frag} {mg : Str → Option Value} (T : Txt w K mg) : Binds K (fdOf K (a_are_roles K)) ps_are_roles [] := FunD.bindsN T.f_are_roles (fun _ _ _ _ _ _ us hl => match us, hl with | [_, _], _ => rfl)
theorem Txt.k_are_roles {w : World} {K : PySem.W.Frag} {mg : Str → Option Value} (T : Txt w K mg) : PySem.W.keepIn K (.ref (a_are_roles K)) = true := T.f_are_roles.kp
def N_first_stranger : List Str := ["told", "names", "place", "part", "who"]
def ps_first_stranger : List Str := ["told", "names"]
theorem sc_first_stranger : FnScope N_first_stranger ps_first_stranger (defScope s_first_stranger) := ⟨rfl, rfl, rfl, by decide +kernel, rfl, by decide +kernel, by decide +kernel⟩
theorem Txt.b_first_stranger {w : World} {K : PySem.W.Frag} {mg : Str → Option Value} (T : Txt w K mg) : Binds K (fdOf K (a_first_stranger K)) ps_first_stranger [] := FunD.bindsN T.f_first_stranger (fun _ _ _ _ _ _ us hl => match us, hl with | [_, _], _ => rfl)
theorem Txt.k_first_stranger {w : World} {K : PySem.W.Frag} {mg : Str → Option Value} (T : Txt w K mg) : PySem.W.keepIn K (.ref (a_first_stranger K)) = true := T.f_first_stranger.kp
def N_L_begin : List Str := ["_law_script"]
def ps_L_begin : List Str := ["_law_script"]
theorem sc_L_begin : FnScope N_L_begin ps_L_begin (defScope s_L_begin) := ⟨rfl, rfl, rfl, by decide +kernel, rfl, by decide +kernel, by decide +kernel⟩
theorem Txt.b_L_begin {w : World} {K : PySem.W.Frag} {mg : Str → Option Value} (T : Txt w K mg) : Binds K (fdOf K (a_L_begin K)) ps_L_begin [] := FunD.bindsN T.f_L_begin (fun _ _ _ _ _ _ us hl => match us, hl with | [_], _ => rfl)
theorem Txt.k_L_begin {w : World} {K : PySem.W.Frag} {mg : Str → Option Value} (T : Txt w K mg) : PySem.W.keepIn K (.ref (a_L_begin K)) = true := T.f_L_begin.kp
def N_L_next : List Str := ["_law_draw", "_law_many", "_law_cell", "_law_cells", "_law_number", "_law_k"]
def ps_L_next : List Str := ["_law_draw", "_law_many"]
theorem sc_L_next : FnScope N_L_next ps_L_next (defScope s_L_next) := ⟨rfl, rfl, rfl, by decide +kernel, rfl, by decide +kernel, by decide +kernel⟩
theorem Txt.b_L_next {w : World} {K : PySem.W.Frag} {mg : Str → Option Value} (T : Txt w K mg) : Binds K (fdOf K (a_L_next K)) ps_L_next [] := FunD.bindsN T.f_L_next (fun _ _ _ _ _ _ us hl => match us, hl with | [_, _], _ => rfl)
theorem Txt.k_L_next {w : World} {K : PySem.W.Frag} {mg : Str → Option Value} (T : Txt w K mg) : PySem.W.keepIn K (.ref (a_L_next K)) = true := T.f_L_next.kp
def N_L_pick : List Str := ["_law_draw", "_law_some"]
def ps_L_pick : List Str := ["_law_draw", "_law_some"]
theorem sc_L_pick : FnScope N_L_pick ps_L_pick (defScope s_L_pick) := ⟨rfl, rfl, rfl, by decide +kernel, rfl, by decide +kernel, by decide +kernel⟩
theorem Txt.b_L_pick {w : World} {K : PySem.W.Frag} {mg : Str → Option Value} (T : Txt w K mg) : Binds K (fdOf K (a_L_pick K)) ps_L_pick [] := FunD.bindsN T.f_L_pick (fun _ _ _ _ _ _ us hl => match us, hl with | [_, _], _ => rfl)
theorem Txt.k_L_pick {w : World} {K : PySem.W.Frag} {mg : Str → Option Value} (T : Txt w K mg) : PySem.W.keepIn K (.ref (a_L_pick K)) = true := T.f_L_pick.kp
def N_L_reserved : List Str := ["_law_some"]
def ps_L_reserved : List Str := []
theorem sc_L_reserved : FnScope N_L_reserved ps_L_reserved (defScope s_L_reserved) := ⟨rfl, rfl, rfl, by decide +kernel, rfl, by decide +kernel, by decide +kernel⟩
theorem Txt.b_L_reserved {w : World} {K : PySem.W.Frag} {mg : Str → Option Value} (T : Txt w K mg) : Binds K (fdOf K (a_L_reserved K)) ps_L_reserved [] := FunD.bindsN T.f_L_reserved (fun _ _ _ _ _ _ us hl => match us, hl with | [], _ => rfl)
theorem Txt.k_L_reserved {w : World} {K : PySem.W.Frag} {mg : Str → Option Value} (T : Txt w K mg) : PySem.W.keepIn K (.ref (a_L_reserved K)) = true := T.f_L_reserved.kp
def N_L_words : List Str := ["_law_draw", "_law_many", "_law_letters", "_law_found", "_law_size", "_law_signs", "_law_word", "_law_free", "_law_k", "_law_sign"]
def ps_L_words : List Str := ["_law_draw", "_law_many"]
theorem sc_L_words : FnScope N_L_words ps_L_words (defScope s_L_words) := ⟨rfl, rfl, rfl, by decide +kernel, rfl, by decide +kernel, by decide +kernel⟩
theorem Txt.b_L_words {w : World} {K : PySem.W.Frag} {mg : Str → Option Value} (T : Txt w K mg) : Binds K (fdOf K (a_L_words K)) ps_L_words [] := FunD.bindsN T.f_L_words (fun _ _ _ _ _ _ us hl => match us, hl with | [_, _], _ => rfl)
theorem Txt.k_L_words {w : World} {K : PySem.W.Frag} {mg : Str → Option Value} (T : Txt w K mg) : PySem.W.keepIn K (.ref (a_L_words K)) = true := T.f_L_words.kp
def N_L_world : List Str := ["_law_draw", "_law_most", "_law_acts", "_law_words_here", "_law_people", "_law_jobs", "_law_deeds", "_law_pairs", "_law_world_here", "_law_job"]
def ps_L_world : List Str := ["_law_draw", "_law_most", "_law_acts"]
theorem sc_L_world : FnScope N_L_world ps_L_world (defScope s_L_world) := ⟨rfl, rfl, rfl, by decide +kernel, rfl, by decide +kernel, by decide +kernel⟩
theorem Txt.b_L_world {w : World} {K : PySem.W.Frag} {mg : Str → Option Value} (T : Txt w K mg) : Binds K (fdOf K (a_L_world K)) ps_L_world [] := FunD.bindsN T.f_L_world (fun _ _ _ _ _ _ us hl => match us, hl with | [_, _, _], _ => rfl)
theorem Txt.k_L_world {w : World} {K : PySem.W.Frag} {mg : Str → Option Value} (T : Txt w K mg) : PySem.W.keepIn K (.ref (a_L_world K)) = true := T.f_L_world.kp
def N_L_who : List Str := ["_law_draw", "_law_world_here", "_law_jobs", "_law_pair"]
def ps_L_who : List Str := ["_law_draw", "_law_world_here"]
theorem sc_L_who : FnScope N_L_who ps_L_who (defScope s_L_who) := ⟨rfl, rfl, rfl, by decide +kernel, rfl, by decide +kernel, by decide +kernel⟩
theorem Txt.b_L_who {w : World} {K : PySem.W.Frag} {mg : Str → Option Value} (T : Txt w K mg) : Binds K (fdOf K (a_L_who K)) ps_L_who [] := FunD.bindsN T.f_L_who (fun _ _ _ _ _ _ us hl => match us, hl with | [_, _], _ => rfl)
theorem Txt.k_L_who {w : World} {K : PySem.W.Frag} {mg : Str → Option Value} (T : Txt w K mg) : PySem.W.keepIn K (.ref (a_L_who K)) = true := T.f_L_who.kp
def N_L_leaf : List Str := ["_law_draw", "_law_world_here", "_law_who_here", "_law_feat", "_law_days", "_law_more", "_law_whos", "_law_some", "_law_turn"]
def ps_L_leaf : List Str := ["_law_draw", "_law_world_here"]
theorem sc_L_leaf : FnScope N_L_leaf ps_L_leaf (defScope s_L_leaf) := ⟨rfl, rfl, rfl, by decide +kernel, rfl, by decide +kernel, by decide +kernel⟩
theorem Txt.b_L_leaf {w : World} {K : PySem.W.Frag} {mg : Str → Option Value} (T : Txt w K mg) : Binds K (fdOf K (a_L_leaf K)) ps_L_leaf [] := FunD.bindsN T.f_L_leaf (fun _ _ _ _ _ _ us hl => match us, hl with | [_, _], _ => rfl)
theorem Txt.k_L_leaf {w : World} {K : PySem.W.Frag} {mg : Str → Option Value} (T : Txt w K mg) : PySem.W.keepIn K (.ref (a_L_leaf K)) = true := T.f_L_leaf.kp
def N_L_starts_done : List Str := ["_law_tree", "_law_k"]
def ps_L_starts_done : List Str := ["_law_tree"]
theorem sc_L_starts_done : FnScope N_L_starts_done ps_L_starts_done (defScope s_L_starts_done) := ⟨rfl, rfl, rfl, by decide +kernel, rfl, by decide +kernel, by decide +kernel⟩
theorem Txt.b_L_starts_done {w : World} {K : PySem.W.Frag} {mg : Str → Option Value} (T : Txt w K mg) : Binds K (fdOf K (a_L_starts_done K)) ps_L_starts_done [] := FunD.bindsN T.f_L_starts_done (fun _ _ _ _ _ _ us hl => match us, hl with | [_], _ => rfl)
theorem Txt.k_L_starts_done {w : World} {K : PySem.W.Frag} {mg : Str → Option Value} (T : Txt w K mg) : PySem.W.keepIn K (.ref (a_L_starts_done K)) = true := T.f_L_starts_done.kp
def N_L_term : List Str := ["_law_draw", "_law_world_here", "_law_deep", "_law_way", "_law_first", "_law_who_here", "_law_feat", "_law_days", "_law_kids", "_law_k", "_law_last"]
def ps_L_term : List Str := ["_law_draw", "_law_world_here", "_law_deep"]
theorem sc_L_term : FnScope N_L_term ps_L_term (defScope s_L_term) := ⟨rfl, rfl, rfl, by decide +kernel, rfl, by decide +kernel, by decide +kernel⟩
theorem Txt.b_L_term {w : World} {K : PySem.W.Frag} {mg : Str → Option Value} (T : Txt w K mg) : Binds K (fdOf K (a_L_term K)) ps_L_term [] := FunD.bindsN T.f_L_term (fun _ _ _ _ _ _ us hl => match us, hl with | [_, _, _], _ => rfl)
theorem Txt.k_L_term {w : World} {K : PySem.W.Frag} {mg : Str → Option Value} (T : Txt w K mg) : PySem.W.keepIn K (.ref (a_L_term K)) = true := T.f_L_term.kp
def N_L_alphabet : List Str := ["_law_world_here", "_law_people", "_law_found", "_law_who_here", "_law_feat", "_law_job", "_law_rest", "_law_k", "_law_pair"]
def ps_L_alphabet : List Str := ["_law_world_here"]
theorem sc_L_alphabet : FnScope N_L_alphabet ps_L_alphabet (defScope s_L_alphabet) := ⟨rfl, rfl, rfl, by decide +kernel, rfl, by decide +kernel, by decide +kernel⟩
theorem Txt.b_L_alphabet {w : World} {K : PySem.W.Frag} {mg : Str → Option Value} (T : Txt w K mg) : Binds K (fdOf K (a_L_alphabet K)) ps_L_alphabet [] := FunD.bindsN T.f_L_alphabet (fun _ _ _ _ _ _ us hl => match us, hl with | [_], _ => rfl)
theorem Txt.k_L_alphabet {w : World} {K : PySem.W.Frag} {mg : Str → Option Value} (T : Txt w K mg) : PySem.W.keepIn K (.ref (a_L_alphabet K)) = true := T.f_L_alphabet.kp
def N_L_event : List Str := ["_law_words_here"]
def ps_L_event : List Str := ["_law_words_here"]
theorem sc_L_event : FnScope N_L_event ps_L_event (defScope s_L_event) := ⟨rfl, rfl, rfl, by decide +kernel, rfl, by decide +kernel, by decide +kernel⟩
theorem Txt.b_L_event {w : World} {K : PySem.W.Frag} {mg : Str → Option Value} (T : Txt w K mg) : Binds K (fdOf K (a_L_event K)) ps_L_event [] := FunD.bindsN T.f_L_event (fun _ _ _ _ _ _ us hl => match us, hl with | [_], _ => rfl)
theorem Txt.k_L_event {w : World} {K : PySem.W.Frag} {mg : Str → Option Value} (T : Txt w K mg) : PySem.W.keepIn K (.ref (a_L_event K)) = true := T.f_L_event.kp
def N_L_row : List Str := ["_law_draw", "_law_world_here", "_law_many", "_law_some", "_law_k"]
def ps_L_row : List Str := ["_law_draw", "_law_world_here", "_law_many"]
theorem sc_L_row : FnScope N_L_row ps_L_row (defScope s_L_row) := ⟨rfl, rfl, rfl, by decide +kernel, rfl, by decide +kernel, by decide +kernel⟩
theorem Txt.b_L_row {w : World} {K : PySem.W.Frag} {mg : Str → Option Value} (T : Txt w K mg) : Binds K (fdOf K (a_L_row K)) ps_L_row [] := FunD.bindsN T.f_L_row (fun _ _ _ _ _ _ us hl => match us, hl with | [_, _, _], _ => rfl)
theorem Txt.k_L_row {w : World} {K : PySem.W.Frag} {mg : Str → Option Value} (T : Txt w K mg) : PySem.W.keepIn K (.ref (a_L_row K)) = true := T.f_L_row.kp
def N_L_contract : List Str := ["_law_world_here", "_law_tree"]
def ps_L_contract : List Str := ["_law_world_here", "_law_tree"]
theorem sc_L_contract : FnScope N_L_contract ps_L_contract (defScope s_L_contract) := ⟨rfl, rfl, rfl, by decide +kernel, rfl, by decide +kernel, by decide +kernel⟩
theorem Txt.b_L_contract {w : World} {K : PySem.W.Frag} {mg : Str → Option Value} (T : Txt w K mg) : Binds K (fdOf K (a_L_contract K)) ps_L_contract [] := FunD.bindsN T.f_L_contract (fun _ _ _ _ _ _ us hl => match us, hl with | [_, _], _ => rfl)
theorem Txt.k_L_contract {w : World} {K : PySem.W.Frag} {mg : Str → Option Value} (T : Txt w K mg) : PySem.W.keepIn K (.ref (a_L_contract K)) = true := T.f_L_contract.kp
def N_L_shown : List Str := ["_law_case", "_law_words_here", "_law_event_here"]
def ps_L_shown : List Str := ["_law_case"]
theorem sc_L_shown : FnScope N_L_shown ps_L_shown (defScope s_L_shown) := ⟨rfl, rfl, rfl, by decide +kernel, rfl, by decide +kernel, by decide +kernel⟩
theorem Txt.b_L_shown {w : World} {K : PySem.W.Frag} {mg : Str → Option Value} (T : Txt w K mg) : Binds K (fdOf K (a_L_shown K)) ps_L_shown [] := FunD.bindsN T.f_L_shown (fun _ _ _ _ _ _ us hl => match us, hl with | [_], _ => rfl)
theorem Txt.k_L_shown {w : World} {K : PySem.W.Frag} {mg : Str → Option Value} (T : Txt w K mg) : PySem.W.keepIn K (.ref (a_L_shown K)) = true := T.f_L_shown.kp
def N_L_led : List Str := ["_law_draw", "_law_probe", "_law_world_here", "_law_many", "_law_words_here"]
def ps_L_led : List Str := ["_law_draw", "_law_probe", "_law_world_here", "_law_many"]
theorem sc_L_led : FnScope N_L_led ps_L_led (defScope s_L_led) := ⟨rfl, rfl, rfl, by decide +kernel, rfl, by decide +kernel, by decide +kernel⟩
theorem Txt.b_L_led {w : World} {K : PySem.W.Frag} {mg : Str → Option Value} (T : Txt w K mg) : Binds K (fdOf K (a_L_led K)) ps_L_led [] := FunD.bindsN T.f_L_led (fun _ _ _ _ _ _ us hl => match us, hl with | [_, _, _, _], _ => rfl)
theorem Txt.k_L_led {w : World} {K : PySem.W.Frag} {mg : Str → Option Value} (T : Txt w K mg) : PySem.W.keepIn K (.ref (a_L_led K)) = true := T.f_L_led.kp
def N_L_back : List Str := ["_law_probe", "_law_many"]
def ps_L_back : List Str := ["_law_probe", "_law_many"]
theorem sc_L_back : FnScope N_L_back ps_L_back (defScope s_L_back) := ⟨rfl, rfl, rfl, by decide +kernel, rfl, by decide +kernel, by decide +kernel⟩
theorem Txt.b_L_back {w : World} {K : PySem.W.Frag} {mg : Str → Option Value} (T : Txt w K mg) : Binds K (fdOf K (a_L_back K)) ps_L_back [] := FunD.bindsN T.f_L_back (fun _ _ _ _ _ _ us hl => match us, hl with | [_, _], _ => rfl)
theorem Txt.k_L_back {w : World} {K : PySem.W.Frag} {mg : Str → Option Value} (T : Txt w K mg) : PySem.W.keepIn K (.ref (a_L_back K)) = true := T.f_L_back.kp
def N_L_far_back : List Str := ["_law_probe"]
def ps_L_far_back : List Str := ["_law_probe"]
theorem sc_L_far_back : FnScope N_L_far_back ps_L_far_back (defScope s_L_far_back) := ⟨rfl, rfl, rfl, by decide +kernel, rfl, by decide +kernel, by decide +kernel⟩
theorem Txt.b_L_far_back {w : World} {K : PySem.W.Frag} {mg : Str → Option Value} (T : Txt w K mg) : Binds K (fdOf K (a_L_far_back K)) ps_L_far_back [] := FunD.bindsN T.f_L_far_back (fun _ _ _ _ _ _ us hl => match us, hl with | [_], _ => rfl)
theorem Txt.k_L_far_back {w : World} {K : PySem.W.Frag} {mg : Str → Option Value} (T : Txt w K mg) : PySem.W.keepIn K (.ref (a_L_far_back K)) = true := T.f_L_far_back.kp
def N_L_within : List Str := ["_law_draw", "_law_probe", "_law_world_here", "_law_first", "_law_second"]
def ps_L_within : List Str := ["_law_draw", "_law_probe", "_law_world_here"]
theorem sc_L_within : FnScope N_L_within ps_L_within (defScope s_L_within) := ⟨rfl, rfl, rfl, by decide +kernel, rfl, by decide +kernel, by decide +kernel⟩
theorem Txt.b_L_within {w : World} {K : PySem.W.Frag} {mg : Str → Option Value} (T : Txt w K mg) : Binds K (fdOf K (a_L_within K)) ps_L_within [] := FunD.bindsN T.f_L_within (fun _ _ _ _ _ _ us hl => match us, hl with | [_, _, _], _ => rfl)
theorem Txt.k_L_within {w : World} {K : PySem.W.Frag} {mg : Str → Option Value} (T : Txt w K mg) : PySem.W.keepIn K (.ref (a_L_within K)) = true := T.f_L_within.kp
def N_L_refusal_right : List Str := ["_law_case", "_law_due", "_law_found", "e"]
def ps_L_refusal_right : List Str := ["_law_case", "_law_due"]
theorem sc_L_refusal_right : FnScope N_L_refusal_right ps_L_refusal_right (defScope s_L_refusal_right) := ⟨rfl, rfl, rfl, by decide +kernel, rfl, by decide +kernel, by decide +kernel⟩
theorem Txt.b_L_refusal_right {w : World} {K : PySem.W.Frag} {mg : Str → Option Value} (T : Txt w K mg) : Binds K (fdOf K (a_L_refusal_right K)) ps_L_refusal_right [] := FunD.bindsN T.f_L_refusal_right (fun _ _ _ _ _ _ us hl => match us, hl with | [_, _], _ => rfl)
theorem Txt.k_L_refusal_right {w : World} {K : PySem.W.Frag} {mg : Str → Option Value} (T : Txt w K mg) : PySem.W.keepIn K (.ref (a_L_refusal_right K)) = true := T.f_L_refusal_right.kp
def N_L_blocks_right : List Str := ["_law_draw", "_law_case", "_law_world_here", "_law_due", "_law_told"]
def ps_L_blocks_right : List Str := ["_law_draw", "_law_case", "_law_world_here"]
theorem sc_L_blocks_right : FnScope N_L_blocks_right ps_L_blocks_right (defScope s_L_blocks_right) := ⟨rfl, rfl, rfl, by decide +kernel, rfl, by decide +kernel, by decide +kernel⟩
theorem Txt.b_L_blocks_right {w : World} {K : PySem.W.Frag} {mg : Str → Option Value} (T : Txt w K mg) : Binds K (fdOf K (a_L_blocks_right K)) ps_L_blocks_right [] := FunD.bindsN T.f_L_blocks_right (fun _ _ _ _ _ _ us hl => match us, hl with | [_, _, _], _ => rfl)
theorem Txt.k_L_blocks_right {w : World} {K : PySem.W.Frag} {mg : Str → Option Value} (T : Txt w K mg) : PySem.W.keepIn K (.ref (a_L_blocks_right K)) = true := T.f_L_blocks_right.kp
def N_law : List Str := ["_law_script", "_law_draw", "_law_turn", "_law_world_here", "_law_told", "_law_case", "_law_rows", "_law_words_here", "_law_due"]
def ps_law : List Str := ["_law_script"]
theorem sc_law : FnScope N_law ps_law (defScope s_law) := ⟨rfl, rfl, rfl, by decide +kernel, rfl, by decide +kernel, by decide +kernel⟩
theorem Txt.b_law {w : World} {K : PySem.W.Frag} {mg : Str → Option Value} (T : Txt w K mg) : Binds K (fdOf K (a_law K)) ps_law [] := FunD.bindsN T.f_law (fun _ _ _ _ _ _ us hl => match us, hl with | [_], _ => rfl)
theorem Txt.k_law {w : World} {K : PySem.W.Frag} {mg : Str → Option Value} (T : Txt w K mg) : PySem.W.keepIn K (.ref (a_law K)) = true := T.f_law.kp
def N_Step_init : List Str := ["self", "words", "parties", "holders", "is_let"]
def ps_Step_init : List Str := ["self", "words", "parties", "holders", "is_let"]
theorem sc_Step_init : FnScope N_Step_init ps_Step_init (defScope s_Step_init) := ⟨rfl, rfl, rfl, by decide +kernel, rfl, by decide +kernel, by decide +kernel⟩
theorem Txt.b_Step_init {w : World} {K : PySem.W.Frag} {mg : Str → Option Value} (T : Txt w K mg) : Binds K (fdOf K (a_Step_init K)) ps_Step_init [] := FunD.bindsN T.f_Step_init (fun _ _ _ _ _ _ us hl => match us, hl with | [_, _, _, _, _], _ => rfl)
theorem Txt.k_Step_init {w : World} {K : PySem.W.Frag} {mg : Str → Option Value} (T : Txt w K mg) : PySem.W.keepIn K (.ref (a_Step_init K)) = true := T.f_Step_init.kp
def N_Step_begin : List Str := ["self", "told"]
def ps_Step_begin : List Str := ["self", "told"]
theorem sc_Step_begin : FnScope N_Step_begin ps_Step_begin (defScope s_Step_begin) := ⟨rfl, rfl, rfl, by decide +kernel, rfl, by decide +kernel, by decide +kernel⟩
theorem Txt.b_Step_begin {w : World} {K : PySem.W.Frag} {mg : Str → Option Value} (T : Txt w K mg) : Binds K (fdOf K (a_Step_begin K)) ps_Step_begin [] := FunD.bindsN T.f_Step_begin (fun _ _ _ _ _ _ us hl => match us, hl with | [_, _], _ => rfl)
theorem Txt.k_Step_begin {w : World} {K : PySem.W.Frag} {mg : Str → Option Value} (T : Txt w K mg) : PySem.W.keepIn K (.ref (a_Step_begin K)) = true := T.f_Step_begin.kp
def N_Step_is_act_of : List Str := ["self", "who", "act"]
def ps_Step_is_act_of : List Str := ["self", "who", "act"]
theorem sc_Step_is_act_of : FnScope N_Step_is_act_of ps_Step_is_act_of (defScope s_Step_is_act_of) := ⟨rfl, rfl, rfl, by decide +kernel, rfl, by decide +kernel, by decide +kernel⟩
theorem Txt.b_Step_is_act_of {w : World} {K : PySem.W.Frag} {mg : Str → Option Value} (T : Txt w K mg) : Binds K (fdOf K (a_Step_is_act_of K)) ps_Step_is_act_of [] := FunD.bindsN T.f_Step_is_act_of (fun _ _ _ _ _ _ us hl => match us, hl with | [_, _, _], _ => rfl)
theorem Txt.k_Step_is_act_of {w : World} {K : PySem.W.Frag} {mg : Str → Option Value} (T : Txt w K mg) : PySem.W.keepIn K (.ref (a_Step_is_act_of K)) = true := T.f_Step_is_act_of.kp
def N_Step_after_day : List Str := ["self", "told", "days"]
def ps_Step_after_day : List Str := ["self", "told"]
theorem sc_Step_after_day : FnScope N_Step_after_day ps_Step_after_day (defScope s_Step_after_day) := ⟨rfl, rfl, rfl, by decide +kernel, rfl, by decide +kernel, by decide +kernel⟩
theorem Txt.b_Step_after_day {w : World} {K : PySem.W.Frag} {mg : Str → Option Value} (T : Txt w K mg) : Binds K (fdOf K (a_Step_after_day K)) ps_Step_after_day [] := FunD.bindsN T.f_Step_after_day (fun _ _ _ _ _ _ us hl => match us, hl with | [_, _], _ => rfl)
theorem Txt.k_Step_after_day {w : World} {K : PySem.W.Frag} {mg : Str → Option Value} (T : Txt w K mg) : PySem.W.keepIn K (.ref (a_Step_after_day K)) = true := T.f_Step_after_day.kp
def N_Step_after_act : List Str := ["self", "told"]
def ps_Step_after_act : List Str := ["self", "told"]
theorem sc_Step_after_act : FnScope N_Step_after_act ps_Step_after_act (defScope s_Step_after_act) := ⟨rfl, rfl, rfl, by decide +kernel, rfl, by decide +kernel, by decide +kernel⟩
theorem Txt.b_Step_after_act {w : World} {K : PySem.W.Frag} {mg : Str → Option Value} (T : Txt w K mg) : Binds K (fdOf K (a_Step_after_act K)) ps_Step_after_act [] := FunD.bindsN T.f_Step_after_act (fun _ _ _ _ _ _ us hl => match us, hl with | [_, _], _ => rfl)
theorem Txt.k_Step_after_act {w : World} {K : PySem.W.Frag} {mg : Str → Option Value} (T : Txt w K mg) : PySem.W.keepIn K (.ref (a_Step_after_act K)) = true := T.f_Step_after_act.kp
def N_Step_after : List Str := ["self", "told", "word", "kids", "kid"]
def ps_Step_after : List Str := ["self", "told"]
theorem sc_Step_after : FnScope N_Step_after ps_Step_after (defScope s_Step_after) := ⟨rfl, rfl, rfl, by decide +kernel, rfl, by decide +kernel, by decide +kernel⟩
theorem Txt.b_Step_after {w : World} {K : PySem.W.Frag} {mg : Str → Option Value} (T : Txt w K mg) : Binds K (fdOf K (a_Step_after K)) ps_Step_after [] := FunD.bindsN T.f_Step_after (fun _ _ _ _ _ _ us hl => match us, hl with | [_, _], _ => rfl)
theorem Txt.k_Step_after {w : World} {K : PySem.W.Frag} {mg : Str → Option Value} (T : Txt w K mg) : PySem.W.keepIn K (.ref (a_Step_after K)) = true := T.f_Step_after.kp
def N_Trial_init : List Str := ["self", "case"]
def ps_Trial_init : List Str := ["self", "case"]
theorem sc_Trial_init : FnScope N_Trial_init ps_Trial_init (defScope s_Trial_init) := ⟨rfl, rfl, rfl, by decide +kernel, rfl, by decide +kernel, by decide +kernel⟩
theorem Txt.b_Trial_init {w : World} {K : PySem.W.Frag} {mg : Str → Option Value} (T : Txt w K mg) : Binds K (fdOf K (a_Trial_init K)) ps_Trial_init [] := FunD.bindsN T.f_Trial_init (fun _ _ _ _ _ _ us hl => match us, hl with | [_, _], _ => rfl)
theorem Txt.k_Trial_init {w : World} {K : PySem.W.Frag} {mg : Str → Option Value} (T : Txt w K mg) : PySem.W.keepIn K (.ref (a_Trial_init K)) = true := T.f_Trial_init.kp
def N_Trial_enter : List Str := ["self"]
def ps_Trial_enter : List Str := ["self"]
theorem sc_Trial_enter : FnScope N_Trial_enter ps_Trial_enter (defScope s_Trial_enter) := ⟨rfl, rfl, rfl, by decide +kernel, rfl, by decide +kernel, by decide +kernel⟩
theorem Txt.b_Trial_enter {w : World} {K : PySem.W.Frag} {mg : Str → Option Value} (T : Txt w K mg) : Binds K (fdOf K (a_Trial_enter K)) ps_Trial_enter [] := FunD.bindsN T.f_Trial_enter (fun _ _ _ _ _ _ us hl => match us, hl with | [_], _ => rfl)
theorem Txt.k_Trial_enter {w : World} {K : PySem.W.Frag} {mg : Str → Option Value} (T : Txt w K mg) : PySem.W.keepIn K (.ref (a_Trial_enter K)) = true := T.f_Trial_enter.kp
def N_Trial_exit : List Str := ["self", "kind", "value", "trace"]
def ps_Trial_exit : List Str := ["self", "kind", "value", "trace"]
theorem sc_Trial_exit : FnScope N_Trial_exit ps_Trial_exit (defScope s_Trial_exit) := ⟨rfl, rfl, rfl, by decide +kernel, rfl, by decide +kernel, by decide +kernel⟩
theorem Txt.b_Trial_exit {w : World} {K : PySem.W.Frag} {mg : Str → Option Value} (T : Txt w K mg) : Binds K (fdOf K (a_Trial_exit K)) ps_Trial_exit [] := FunD.bindsN T.f_Trial_exit (fun _ _ _ _ _ _ us hl => match us, hl with | [_, _, _, _], _ => rfl)
theorem Txt.k_Trial_exit {w : World} {K : PySem.W.Frag} {mg : Str → Option Value} (T : Txt w K mg) : PySem.W.keepIn K (.ref (a_Trial_exit K)) = true := T.f_Trial_exit.kp
def N_Case_init : List Str := ["self", "contract"]
def ps_Case_init : List Str := ["self", "contract"]
theorem sc_Case_init : FnScope N_Case_init ps_Case_init (defScope s_Case_init) := ⟨rfl, rfl, rfl, by decide +kernel, rfl, by decide +kernel, by decide +kernel⟩
theorem Txt.b_Case_init {w : World} {K : PySem.W.Frag} {mg : Str → Option Value} (T : Txt w K mg) : Binds K (fdOf K (a_Case_init K)) ps_Case_init [] := FunD.bindsN T.f_Case_init (fun _ _ _ _ _ _ us hl => match us, hl with | [_, _], _ => rfl)
theorem Txt.k_Case_init {w : World} {K : PySem.W.Frag} {mg : Str → Option Value} (T : Txt w K mg) : PySem.W.keepIn K (.ref (a_Case_init K)) = true := T.f_Case_init.kp
def N_Case_state_after : List Str := ["self", "event"]
def ps_Case_state_after : List Str := ["self", "event"]
theorem sc_Case_state_after : FnScope N_Case_state_after ps_Case_state_after (defScope s_Case_state_after) := ⟨rfl, rfl, rfl, by decide +kernel, rfl, by decide +kernel, by decide +kernel⟩
theorem Txt.b_Case_state_after {w : World} {K : PySem.W.Frag} {mg : Str → Option Value} (T : Txt w K mg) : Binds K (fdOf K (a_Case_state_after K)) ps_Case_state_after [] := FunD.bindsN T.f_Case_state_after (fun _ _ _ _ _ _ us hl => match us, hl with | [_, _], _ => rfl)
theorem Txt.k_Case_state_after {w : World} {K : PySem.W.Frag} {mg : Str → Option Value} (T : Txt w K mg) : PySem.W.keepIn K (.ref (a_Case_state_after K)) = true := T.f_Case_state_after.kp
def N_Case_come : List Str := ["self", "event", "state"]
def ps_Case_come : List Str := ["self", "event"]
theorem sc_Case_come : FnScope N_Case_come ps_Case_come (defScope s_Case_come) := ⟨rfl, rfl, rfl, by decide +kernel, rfl, by decide +kernel, by decide +kernel⟩
theorem Txt.b_Case_come {w : World} {K : PySem.W.Frag} {mg : Str → Option Value} (T : Txt w K mg) : Binds K (fdOf K (a_Case_come K)) ps_Case_come [] := FunD.bindsN T.f_Case_come (fun _ _ _ _ _ _ us hl => match us, hl with | [_, _], _ => rfl)
theorem Txt.k_Case_come {w : World} {K : PySem.W.Frag} {mg : Str → Option Value} (T : Txt w K mg) : PySem.W.keepIn K (.ref (a_Case_come K)) = true := T.f_Case_come.kp
def N_Case_back : List Str := ["self", "count"]
def ps_Case_back : List Str := ["self", "count"]
theorem sc_Case_back : FnScope N_Case_back ps_Case_back (defScope s_Case_back) := ⟨rfl, rfl, rfl, by decide +kernel, rfl, by decide +kernel, by decide +kernel⟩
theorem Txt.b_Case_back {w : World} {K : PySem.W.Frag} {mg : Str → Option Value} (T : Txt w K mg) : Binds K (fdOf K (a_Case_back K)) ps_Case_back [] := FunD.bindsN T.f_Case_back (fun _ _ _ _ _ _ us hl => match us, hl with | [_, _], _ => rfl)
theorem Txt.k_Case_back {w : World} {K : PySem.W.Frag} {mg : Str → Option Value} (T : Txt w K mg) : PySem.W.keepIn K (.ref (a_Case_back K)) = true := T.f_Case_back.kp
def N_Case_trial : List Str := ["self"]
def ps_Case_trial : List Str := ["self"]
theorem sc_Case_trial : FnScope N_Case_trial ps_Case_trial (defScope s_Case_trial) := ⟨rfl, rfl, rfl, by decide +kernel, rfl, by decide +kernel, by decide +kernel⟩
theorem Txt.b_Case_trial {w : World} {K : PySem.W.Frag} {mg : Str → Option Value} (T : Txt w K mg) : Binds K (fdOf K (a_Case_trial K)) ps_Case_trial [] := FunD.bindsN T.f_Case_trial (fun _ _ _ _ _ _ us hl => match us, hl with | [_], _ => rfl)
theorem Txt.k_Case_trial {w : World} {K : PySem.W.Frag} {mg : Str → Option Value} (T : Txt w K mg) : PySem.W.keepIn K (.ref (a_Case_trial K)) = true := T.f_Case_trial.kp
def N_Case_standing : List Str := ["self", "told"]
def ps_Case_standing : List Str := ["self"]
theorem sc_Case_standing : FnScope N_Case_standing ps_Case_standing (defScope s_Case_standing) := ⟨rfl, rfl, rfl, by decide +kernel, rfl, by decide +kernel, by decide +kernel⟩
theorem Txt.b_Case_standing {w : World} {K : PySem.W.Frag} {mg : Str → Option Value} (T : Txt w K mg) : Binds K (fdOf K (a_Case_standing K)) ps_Case_standing [] := FunD.bindsN T.f_Case_standing (fun _ _ _ _ _ _ us hl => match us, hl with | [_], _ => rfl)
theorem Txt.k_Case_standing {w : World} {K : PySem.W.Frag} {mg : Str → Option Value} (T : Txt w K mg) : PySem.W.keepIn K (.ref (a_Case_standing K)) = true := T.f_Case_standing.kp
def N_Case_len : List Str := ["self"]
def ps_Case_len : List Str := ["self"]
theorem sc_Case_len : FnScope N_Case_len ps_Case_len (defScope s_Case_len) := ⟨rfl, rfl, rfl, by decide +kernel, rfl, by decide +kernel, by decide +kernel⟩
theorem Txt.b_Case_len {w : World} {K : PySem.W.Frag} {mg : Str → Option Value} (T : Txt w K mg) : Binds K (fdOf K (a_Case_len K)) ps_Case_len [] := FunD.bindsN T.f_Case_len (fun _ _ _ _ _ _ us hl => match us, hl with | [_], _ => rfl)
theorem Txt.k_Case_len {w : World} {K : PySem.W.Frag} {mg : Str → Option Value} (T : Txt w K mg) : PySem.W.keepIn K (.ref (a_Case_len K)) = true := T.f_Case_len.kp
def N_Case_iadd : List Str := ["self", "other"]
def ps_Case_iadd : List Str := ["self", "other"]
theorem sc_Case_iadd : FnScope N_Case_iadd ps_Case_iadd (defScope s_Case_iadd) := ⟨rfl, rfl, rfl, by decide +kernel, rfl, by decide +kernel, by decide +kernel⟩
theorem Txt.b_Case_iadd {w : World} {K : PySem.W.Frag} {mg : Str → Option Value} (T : Txt w K mg) : Binds K (fdOf K (a_Case_iadd K)) ps_Case_iadd [] := FunD.bindsN T.f_Case_iadd (fun _ _ _ _ _ _ us hl => match us, hl with | [_, _], _ => rfl)
theorem Txt.k_Case_iadd {w : World} {K : PySem.W.Frag} {mg : Str → Option Value} (T : Txt w K mg) : PySem.W.keepIn K (.ref (a_Case_iadd K)) = true := T.f_Case_iadd.kp
def N_Case_isub : List Str := ["self", "other"]
def ps_Case_isub : List Str := ["self", "other"]
theorem sc_Case_isub : FnScope N_Case_isub ps_Case_isub (defScope s_Case_isub) := ⟨rfl, rfl, rfl, by decide +kernel, rfl, by decide +kernel, by decide +kernel⟩
theorem Txt.b_Case_isub {w : World} {K : PySem.W.Frag} {mg : Str → Option Value} (T : Txt w K mg) : Binds K (fdOf K (a_Case_isub K)) ps_Case_isub [] := FunD.bindsN T.f_Case_isub (fun _ _ _ _ _ _ us hl => match us, hl with | [_, _], _ => rfl)
theorem Txt.k_Case_isub {w : World} {K : PySem.W.Frag} {mg : Str → Option Value} (T : Txt w K mg) : PySem.W.keepIn K (.ref (a_Case_isub K)) = true := T.f_Case_isub.kp
def N_Event_init : List Str := ["self", "words"]
def ps_Event_init : List Str := ["self", "words"]
theorem sc_Event_init : FnScope N_Event_init ps_Event_init (defScope s_Event_init) := ⟨rfl, rfl, rfl, by decide +kernel, rfl, by decide +kernel, by decide +kernel⟩
theorem Txt.b_Event_init {w : World} {K : PySem.W.Frag} {mg : Str → Option Value} (T : Txt w K mg) : Binds K (fdOf K (a_Event_init K)) ps_Event_init [] := FunD.bindsN T.f_Event_init (fun _ _ _ _ _ _ us hl => match us, hl with | [_, _], _ => rfl)
theorem Txt.k_Event_init {w : World} {K : PySem.W.Frag} {mg : Str → Option Value} (T : Txt w K mg) : PySem.W.keepIn K (.ref (a_Event_init K)) = true := T.f_Event_init.kp
def N_Term_init : List Str := ["self", "told"]
def ps_Term_init : List Str := ["self", "told"]
theorem sc_Term_init : FnScope N_Term_init ps_Term_init (defScope s_Term_init) := ⟨rfl, rfl, rfl, by decide +kernel, rfl, by decide +kernel, by decide +kernel⟩
theorem Txt.b_Term_init {w : World} {K : PySem.W.Frag} {mg : Str → Option Value} (T : Txt w K mg) : Binds K (fdOf K (a_Term_init K)) ps_Term_init [] := FunD.bindsN T.f_Term_init (fun _ _ _ _ _ _ us hl => match us, hl with | [_, _], _ => rfl)
theorem Txt.k_Term_init {w : World} {K : PySem.W.Frag} {mg : Str → Option Value} (T : Txt w K mg) : PySem.W.keepIn K (.ref (a_Term_init K)) = true := T.f_Term_init.kp
def N_Contract_init : List Str := ["self", "parties", "term", "roles", "fault", "role", "party"]
def ps_Contract_init : List Str := ["self", "parties", "term", "roles"]
theorem sc_Contract_init : FnScope N_Contract_init ps_Contract_init (defScope s_Contract_init) := ⟨rfl, rfl, rfl, by decide +kernel, rfl, by decide +kernel, by decide +kernel⟩
def N_Contract_role_names : List Str := ["self", "role", "party"]
def ps_Contract_role_names : List Str := ["self"]
theorem sc_Contract_role_names : FnScope N_Contract_role_names ps_Contract_role_names (defScope s_Contract_role_names) := ⟨rfl, rfl, rfl, by decide +kernel, rfl, by decide +kernel, by decide +kernel⟩
theorem Txt.b_Contract_role_names {w : World} {K : PySem.W.Frag} {mg : Str → Option Value} (T : Txt w K mg) : Binds K (fdOf K (a_Contract_role_names K)) ps_Contract_role_names [] := FunD.bindsN T.f_Contract_role_names (fun _ _ _ _ _ _ us hl => match us, hl with | [_], _ => rfl)
theorem Txt.k_Contract_role_names {w : World} {K : PySem.W.Frag} {mg : Str → Option Value} (T : Txt w K mg) : PySem.W.keepIn K (.ref (a_Contract_role_names K)) = true := T.f_Contract_role_names.kp
def N_Contract_first_state : List Str := ["self", "holders"]
def ps_Contract_first_state : List Str := ["self"]
theorem sc_Contract_first_state : FnScope N_Contract_first_state ps_Contract_first_state (defScope s_Contract_first_state) := ⟨rfl, rfl, rfl, by decide +kernel, rfl, by decide +kernel, by decide +kernel⟩
theorem Txt.b_Contract_first_state {w : World} {K : PySem.W.Frag} {mg : Str → Option Value} (T : Txt w K mg) : Binds K (fdOf K (a_Contract_first_state K)) ps_Contract_first_state [] := FunD.bindsN T.f_Contract_first_state (fun _ _ _ _ _ _ us hl => match us, hl with | [_], _ => rfl)
theorem Txt.k_Contract_first_state {w : World} {K : PySem.W.Frag} {mg : Str → Option Value} (T : Txt w K mg) : PySem.W.keepIn K (.ref (a_Contract_first_state K)) = true := T.f_Contract_first_state.kp
def N_Contract_need_event : List Str := ["self", "event", "words", "people", "party"]
def ps_Contract_need_event : List Str := ["self", "event"]
theorem sc_Contract_need_event : FnScope N_Contract_need_event ps_Contract_need_event (defScope s_Contract_need_event) := ⟨rfl, rfl, rfl, by decide +kernel, rfl, by decide +kernel, by decide +kernel⟩
theorem Txt.b_Contract_need_event {w : World} {K : PySem.W.Frag} {mg : Str → Option Value} (T : Txt w K mg) : Binds K (fdOf K (a_Contract_need_event K)) ps_Contract_need_event [] := FunD.bindsN T.f_Contract_need_event (fun _ _ _ _ _ _ us hl => match us, hl with | [_, _], _ => rfl)
theorem Txt.k_Contract_need_event {w : World} {K : PySem.W.Frag} {mg : Str → Option Value} (T : Txt w K mg) : PySem.W.keepIn K (.ref (a_Contract_need_event K)) = true := T.f_Contract_need_event.kp
def N_Contract_next_state : List Str := ["self", "state", "event"]
def ps_Contract_next_state : List Str := ["self", "state", "event"]
theorem sc_Contract_next_state : FnScope N_Contract_next_state ps_Contract_next_state (defScope s_Contract_next_state) := ⟨rfl, rfl, rfl, by decide +kernel, rfl, by decide +kernel, by decide +kernel⟩
theorem Txt.b_Contract_next_state {w : World} {K : PySem.W.Frag} {mg : Str → Option Value} (T : Txt w K mg) : Binds K (fdOf K (a_Contract_next_state K)) ps_Contract_next_state [] := FunD.bindsN T.f_Contract_next_state (fun _ _ _ _ _ _ us hl => match us, hl with | [_, _, _], _ => rfl)
theorem Txt.k_Contract_next_state {w : World} {K : PySem.W.Frag} {mg : Str → Option Value} (T : Txt w K mg) : PySem.W.keepIn K (.ref (a_Contract_next_state K)) = true := T.f_Contract_next_state.kp
def N_NothingToUndo_init : List Str := ["self", "count"]
def ps_NothingToUndo_init : List Str := ["self", "count"]
theorem sc_NothingToUndo_init : FnScope N_NothingToUndo_init ps_NothingToUndo_init (defScope s_NothingToUndo_init) := ⟨rfl, rfl, rfl, by decide +kernel, rfl, by decide +kernel, by decide +kernel⟩
theorem Txt.b_NothingToUndo_init {w : World} {K : PySem.W.Frag} {mg : Str → Option Value} (T : Txt w K mg) : Binds K (fdOf K (a_NothingToUndo_init K)) ps_NothingToUndo_init [] := FunD.bindsN T.f_NothingToUndo_init (fun _ _ _ _ _ _ us hl => match us, hl with | [_, _], _ => rfl)
theorem Txt.k_NothingToUndo_init {w : World} {K : PySem.W.Frag} {mg : Str → Option Value} (T : Txt w K mg) : PySem.W.keepIn K (.ref (a_NothingToUndo_init K)) = true := T.f_NothingToUndo_init.kp
def N_Case_events : List Str := ["self"]
def ps_Case_events : List Str := ["self"]
theorem sc_Case_events : FnScope N_Case_events ps_Case_events (defScope s_Case_events) := ⟨rfl, rfl, rfl, by decide +kernel, rfl, by decide +kernel, by decide +kernel⟩
theorem Txt.b_Case_events {w : World} {K : PySem.W.Frag} {mg : Str → Option Value} (T : Txt w K mg) : Binds K (fdOf K (a_Case_events K)) ps_Case_events [] := FunD.bindsN T.f_Case_events (fun _ _ _ _ _ _ us hl => match us, hl with | [_], _ => rfl)
theorem Txt.k_Case_events {w : World} {K : PySem.W.Frag} {mg : Str → Option Value} (T : Txt w K mg) : PySem.W.keepIn K (.ref (a_Case_events K)) = true := T.f_Case_events.kp
def N_Case_verdict : List Str := ["self"]
def ps_Case_verdict : List Str := ["self"]
theorem sc_Case_verdict : FnScope N_Case_verdict ps_Case_verdict (defScope s_Case_verdict) := ⟨rfl, rfl, rfl, by decide +kernel, rfl, by decide +kernel, by decide +kernel⟩
theorem Txt.b_Case_verdict {w : World} {K : PySem.W.Frag} {mg : Str → Option Value} (T : Txt w K mg) : Binds K (fdOf K (a_Case_verdict K)) ps_Case_verdict [] := FunD.bindsN T.f_Case_verdict (fun _ _ _ _ _ _ us hl => match us, hl with | [_], _ => rfl)
theorem Txt.k_Case_verdict {w : World} {K : PySem.W.Frag} {mg : Str → Option Value} (T : Txt w K mg) : PySem.W.keepIn K (.ref (a_Case_verdict K)) = true := T.f_Case_verdict.kp
def N_Case_since : List Str := ["self", "state"]
def ps_Case_since : List Str := ["self"]
theorem sc_Case_since : FnScope N_Case_since ps_Case_since (defScope s_Case_since) := ⟨rfl, rfl, rfl, by decide +kernel, rfl, by decide +kernel, by decide +kernel⟩
theorem Txt.b_Case_since {w : World} {K : PySem.W.Frag} {mg : Str → Option Value} (T : Txt w K mg) : Binds K (fdOf K (a_Case_since K)) ps_Case_since [] := FunD.bindsN T.f_Case_since (fun _ _ _ _ _ _ us hl => match us, hl with | [_], _ => rfl)
theorem Txt.k_Case_since {w : World} {K : PySem.W.Frag} {mg : Str → Option Value} (T : Txt w K mg) : PySem.W.keepIn K (.ref (a_Case_since K)) = true := T.f_Case_since.kp
def N_Case_remainder : List Str := ["self"]
def ps_Case_remainder : List Str := ["self"]
theorem sc_Case_remainder : FnScope N_Case_remainder ps_Case_remainder (defScope s_Case_remainder) := ⟨rfl, rfl, rfl, by decide +kernel, rfl, by decide +kernel, by decide +kernel⟩
theorem Txt.b_Case_remainder {w : World} {K : PySem.W.Frag} {mg : Str → Option Value} (T : Txt w K mg) : Binds K (fdOf K (a_Case_remainder K)) ps_Case_remainder [] := FunD.bindsN T.f_Case_remainder (fun _ _ _ _ _ _ us hl => match us, hl with | [_], _ => rfl)
theorem Txt.k_Case_remainder {w : World} {K : PySem.W.Frag} {mg : Str → Option Value} (T : Txt w K mg) : PySem.W.keepIn K (.ref (a_Case_remainder K)) = true := T.f_Case_remainder.kp
def N_Event_words : List Str := ["self"]
def ps_Event_words : List Str := ["self"]
theorem sc_Event_words : FnScope N_Event_words ps_Event_words (defScope s_Event_words) := ⟨rfl, rfl, rfl, by decide +kernel, rfl, by decide +kernel, by decide +kernel⟩
theorem Txt.b_Event_words {w : World} {K : PySem.W.Frag} {mg : Str → Option Value} (T : Txt w K mg) : Binds K (fdOf K (a_Event_words K)) ps_Event_words [] := FunD.bindsN T.f_Event_words (fun _ _ _ _ _ _ us hl => match us, hl with | [_], _ => rfl)
theorem Txt.k_Event_words {w : World} {K : PySem.W.Frag} {mg : Str → Option Value} (T : Txt w K mg) : PySem.W.keepIn K (.ref (a_Event_words K)) = true := T.f_Event_words.kp
def N_Term_of : List Str := ["cls", "told", "fault"]
def ps_Term_of : List Str := ["cls", "told"]
theorem sc_Term_of : FnScope N_Term_of ps_Term_of (defScope s_Term_of) := ⟨rfl, rfl, rfl, by decide +kernel, rfl, by decide +kernel, by decide +kernel⟩
theorem Txt.b_Term_of {w : World} {K : PySem.W.Frag} {mg : Str → Option Value} (T : Txt w K mg) : Binds K (fdOf K (a_Term_of K)) ps_Term_of [] := FunD.bindsN T.f_Term_of (fun _ _ _ _ _ _ us hl => match us, hl with | [_, _], _ => rfl)
theorem Txt.k_Term_of {w : World} {K : PySem.W.Frag} {mg : Str → Option Value} (T : Txt w K mg) : PySem.W.keepIn K (.ref (a_Term_of K)) = true := T.f_Term_of.kp
def N_Event_act : List Str := ["party", "act"]
def ps_Event_act : List Str := ["party", "act"]
theorem sc_Event_act : FnScope N_Event_act ps_Event_act (defScope s_Event_act) := ⟨rfl, rfl, rfl, by decide +kernel, rfl, by decide +kernel, by decide +kernel⟩
theorem Txt.b_Event_act {w : World} {K : PySem.W.Frag} {mg : Str → Option Value} (T : Txt w K mg) : Binds K (fdOf K (a_Event_act K)) ps_Event_act [] := FunD.bindsN T.f_Event_act (fun _ _ _ _ _ _ us hl => match us, hl with | [_, _], _ => rfl)
theorem Txt.k_Event_act {w : World} {K : PySem.W.Frag} {mg : Str → Option Value} (T : Txt w K mg) : PySem.W.keepIn K (.ref (a_Event_act K)) = true := T.f_Event_act.kp
def N_Event_hand : List Str := ["party", "role", "other"]
def ps_Event_hand : List Str := ["party", "role", "other"]
theorem sc_Event_hand : FnScope N_Event_hand ps_Event_hand (defScope s_Event_hand) := ⟨rfl, rfl, rfl, by decide +kernel, rfl, by decide +kernel, by decide +kernel⟩
theorem Txt.b_Event_hand {w : World} {K : PySem.W.Frag} {mg : Str → Option Value} (T : Txt w K mg) : Binds K (fdOf K (a_Event_hand K)) ps_Event_hand [] := FunD.bindsN T.f_Event_hand (fun _ _ _ _ _ _ us hl => match us, hl with | [_, _, _], _ => rfl)
theorem Txt.k_Event_hand {w : World} {K : PySem.W.Frag} {mg : Str → Option Value} (T : Txt w K mg) : PySem.W.keepIn K (.ref (a_Event_hand K)) = true := T.f_Event_hand.kp
def N_Event_day : List Str := []
def ps_Event_day : List Str := []
theorem sc_Event_day : FnScope N_Event_day ps_Event_day (defScope s_Event_day) := ⟨rfl, rfl, rfl, by decide +kernel, rfl, by decide +kernel, by decide +kernel⟩
theorem Txt.b_Event_day {w : World} {K : PySem.W.Frag} {mg : Str → Option Value} (T : Txt w K mg) : Binds K (fdOf K (a_Event_day K)) ps_Event_day [] := FunD.bindsN T.f_Event_day (fun _ _ _ _ _ _ us hl => match us, hl with | [], _ => rfl)
theorem Txt.k_Event_day {w : World} {K : PySem.W.Frag} {mg : Str → Option Value} (T : Txt w K mg) : PySem.W.keepIn K (.ref (a_Event_day K)) = true := T.f_Event_day.kp
end DD
namespace DD
open PySem PySem.Spec
open PyProof.Rows L2
/-! ### operators of several kinds -/
def uAdd (K : PySem.W.Frag) : R2 := fun x y H Q => (rI0 fun i j => .int (i + j)) x y H Q ∨ (∃ i j, x = .str i ∧ y = .str j ∧ i.length + j.length ≤ sizeLine ∧ Q (.str (i ++ j)) H) ∨ rCat x y H Q ∨ rCatA K x y H Q
def uMul : R2 := fun x y H Q => (rI CMul fun i j => .int (i * j)) x y H Q ∨ rRep x y H Q
def uEq (K : PySem.W.Frag) : R2 := fun x y H Q => rEq x y H Q ∨ rEqD K x y H Q
def uNe (K : PySem.W.Frag) : R2 := fun x y H Q => rNe x y H Q ∨ rNeD K x y H Q
def uSl (K : PySem.W.Frag) : V → Option Int → Option Int → Hp → VK → Prop := fun x lo hi H Q => rSlL K x lo hi H Q ∨ rSlA K x lo hi H Q
section
variable {X : Cx}
theorem u_add : OpR X (binaryOp .Add) (uAdd X.K) := op_add.or (op_add_str.or (op_cat.or op_catA))
theorem u_mul : OpR X (binaryOp .Mult) uMul := op_mul.or op_rep
theorem u_eq (hu : X.A.units + 64 < cLine) : OpR X (compareOp .Eq) (uEq X.K) := op_eq.or (op_eqD hu)
theorem u_ne (hu : X.A.units + 64 < cLine) : OpR X (compareOp .NotEq) (uNe X.K) := op_ne.or (op_neD hu)
theorem u_sl : SlR X (uSl X.K) := sl_list.or sl_tupA
end
/-! ### the module's constants -/
section
variable {X : Cx} {x : Str} {pos : Pos}
theorem pe_cI {i : Int} (hg : Gl X x) (hm : ∃ t, X.mg x = some (.int i t)) (hd : (x == ("__debug__" : Str)) = false := by decide) : PE X (.Name x pos) (tC (.int i)) := let ⟨_, e⟩ := hm; pe_glob hg e ⟨_, rfl⟩ hd
theorem pe_cS {z : Str} (hg : Gl X x) (hm : ∃ t, X.mg x = some (.str z t)) (hd : (x == ("__debug__" : Str)) = false := by decide) : PE X (.Name x pos) (tC (.str z)) := let ⟨_, e⟩ := hm; pe_glob hg e ⟨_, rfl⟩ hd
theorem pe_cR {a : Addr} (hg : Gl X x) (hm : X.mg x = some (.ref a)) (hd : (x == ("__debug__" : Str)) = false := by decide) : PE X (.Name x pos) (tC (.ref a)) := pe_glob hg hm rfl hd
end
/-! ### the rules that look at the written part, with that part given: within a comprehension's block it must not hang on the block -/
def rJoin (K : PySem.W.Frag) : V → List V → Hp → VK → Prop := fun x xs H Q => ∃ a p, ∃ ys : List Str, x = .str a ∧ xs = [.ref p] ∧ (SqL K H p (ys.map V.str) ∨ SqT K H p (ys.map V.str)) ∧ (ys.map (·.length)).sum + ys.length * a.length ≤ 16777216 ∧ Q (.str (Txt.join a ys)) H
def rListOf (K : PySem.W.Frag) : List V → Hp → VK → Prop := fun xs H Q => ∃ p ys, xs = [.ref p] ∧ (SqL K H p ys ∨ SqT K H p ys) ∧ ∀ l, H l = none → Q (.ref l) (upd H l (.lst ys))
def rTupleOf (K : PySem.W.Frag) : List V → Hp → VK → Prop := fun xs H Q => ∃ p ys, xs = [.ref p] ∧ ((SqL K H p ys ∧ ∀ l, H l = none → Q (.ref l) (upd H l (.tup ys))) ∨ (SqT K H p ys ∧ Q (.ref p) H))
def rLenK (K : PySem.W.Frag) : List V → Hp → VK → Prop := fun xs H Q => ∃ x n, xs = [x] ∧ LenV K x H n ∧ Q (.int n) H
section
variable {X : Cx} (K : PySem.W.Frag) (hK : X.K = K)
theorem k_add (hK : X.K = K := by rfl) : OpR X (binaryOp .Add) (uAdd K) := hK ▸ u_add
theorem k_eq (hu : X.A.units + 64 < cLine) (hK : X.K = K := by rfl) : OpR X (compareOp .Eq) (uEq K) := hK ▸ u_eq hu
theorem k_ne (hu : X.A.units + 64 < cLine) (hK : X.K = K := by rfl) : OpR X (compareOp .NotEq) (uNe K) := hK ▸ u_ne hu
theorem k_sl (hK : X.K = K := by rfl) : SlR X (uSl K) := hK ▸ u_sl
theorem k_ix (hK : X.K = K := by rfl) : IxR X (rIx K) := hK ▸ ix_seq
theorem k_ixD (hK : X.K = K := by rfl) : IxR X (rIxD K X.w) := hK ▸ ix_kdict
theorem k_in (hK : X.K = K := by rfl) : OpR X (compareOp .In) (rIn K false) := hK ▸ op_in_seq
theorem k_notIn (hK : X.K = K := by rfl) : OpR X (compareOp .NotIn) (rIn K true) := hK ▸ op_notIn_seq
theorem k_inD (hu : X.A.units + 65 < cLine) (hK : X.K = K := by rfl) : OpR X (compareOp .In) (rInD K) := hK ▸ op_inD hu
theorem k_len (hK : X.K = K := by rfl) : CallR X (.builtin "len") (rLenK K) := hK ▸ call_len
theorem k_isi (hK : X.K = K := by rfl) : CallR X (.builtin "isinstance") (rIsi K) := hK ▸ call_isi
theorem k_all (hc : X.calm = true) (hK : X.K = K := by rfl) : CallR X (.builtin "all") (rAll K) := hK ▸ cr_all hc
theorem k_any (hc : X.calm = true) (hK : X.K = K := by rfl) : CallR X (.builtin "any") (rAny K) := hK ▸ cr_any hc
theorem k_max (hc : X.calm = true) (hK : X.K = K := by rfl) : CallR X (.builtin "max") (rMax K) := hK ▸ cr_max hc
theorem k_list (hK : X.K = K := by rfl) : CallR X (.type "list") (rListOf K) := hK ▸ call_list_of
theorem k_tuple (hK : X.K = K := by rfl) : CallR X (.type "tuple") (rTupleOf K) := hK ▸ call_tuple_of
theorem k_index (hu : X.A.units + 65 < cLine) (hK : X.K = K := by rfl) : MtR X "list.index" (rIndexD K) := hK ▸ mt_indexD hu
variable {pos p2 apos cpos : Pos} {e : Expr} {es : List Expr} {te : TE} {f : Str}
theorem k_fld (he : PE X e te) (hb : attributeBase e f X.env (eval e X.env) = eval e X.env) (hK : X.K = K := by rfl) : PE X (.Attribute e f pos) (tFld K te f) := hK ▸ pe_fld he hb
theorem k_tup {k : Nat} {t : TGs} {n : Nat} (hc : X.calm = true) (h : PGs X es t) (hn : (assignEach es X.env).length = n := by rfl) (hst : (assignEach es X.env).findIdx? (·.1) = none := by rfl) (hK : X.K = K := by rfl) : PG X (.Tuple es k pos) (gTup K n t) := hK ▸ pg_tup hc h hn hst
theorem k_piL {tg l : Expr} {tl : TE} (h : PE X l tl) (hK : X.K = K := by rfl) : PI X tg l (iList K tl) := hK ▸ pi_list h
theorem k_piT {tg l : Expr} {tl : TE} (h : PE X l tl) (hK : X.K = K := by rfl) : PI X tg l (iTup K tl) := hK ▸ pi_tup h
theorem k_bm0 {o : Expr} {to : TE} {name : Str} {T id : String} {r : V → List V → Hp → VK → Prop} (pa : PlainAttrs T) (slot : Slot T name id) (hty : typeOf (.builtin id) = pure (.type "method_descriptor")) (hm : MtR X id r) (ho : PE X o to)
    (hbase : attributeBase o name X.env (eval o X.env) = eval o X.env := by rfl) (hline : (apos.endLine == cpos.line) = true := by rfl) (hK : X.K = K := by rfl) : PE X (.Call (.Attribute o name apos) [] [] cpos) (tBM0 K T r to) := hK ▸ pe_bm0 pa slot hty hm ho hbase hline
theorem k_bm {o : Expr} {to : TE} {t : TA} {name : Str} {T id : String} {r : V → List V → Hp → VK → Prop} (pa : PlainAttrs T) (slot : Slot T name id) (hty : typeOf (.builtin id) = pure (.type "method_descriptor")) (hm : MtR X id r) (ho : PE X o to) (ha : PA X (e :: es) t) (hbase : attributeBase o name X.env (eval o X.env) = eval o X.env := by rfl) (hfew : ((backTo cpos (starEach (e :: es) X.env)).all (fun x => !x.1) && (backToKw cpos (keywordEach [] X.env)).all (fun x => x.1.isSome) && decide ((e :: es).length + ([] : List Keyword).length + (if ([] : List Keyword).isEmpty then 0 else 1) < 30)) = true := by rfl)
    (hline : (apos.endLine == cpos.line) = true := by rfl) (hs : starEach (e :: es) X.env = (false, eval e X.env) :: starEach es X.env := by rfl) (hplain : (backTo cpos (starEach es X.env)).any (·.1) = false := by rfl) (hK : X.K = K := by rfl) :
    PE X (.Call (.Attribute o name apos) (e :: es) [] cpos) (tBM K T r to t) := hK ▸ pe_bm pa slot hty hm ho ha hbase hfew hline hs hplain
theorem k_join {o : Expr} {to : TE} (ho : PE X o to) (he : PE X e te) (hs : starEach [e] X.env = [(false, eval e X.env)] := by rfl) (hbase : attributeBase o "join" X.env (eval o X.env) = eval o X.env := by rfl) (hline : (apos.endLine == pos.line) = true := by rfl) (hK : X.K = K := by rfl) :
    PE X (.Call (.Attribute o "join" apos) [e] [] pos) (tM1 (rJoin K) to te) := hK ▸ pe_join ho he hs hbase hline
end
/-! ### a def that lets nothing out -/
section
variable {base : Heap} {mg : Str → Option Value} {K : PySem.W.Frag} {w : World} {P : Program}
theorem ok0 {x qual : Str} {params : Arguments} {body : List Stmt} {scope : Scope} {f : Addr} {fd : FuncData} {N ps : List Str} {k : Nat} {sp : Sp} (F : FunD K x qual params body scope [] [] f fd) (S : FnScope N ps scope) (len : ∀ vs H Q E, sp vs H Q E → vs.length = ps.length)
    (hb : ∀ (cdv : Value) (A : Around) (outer : List Env) (s : Shared) (H : Hp) (vs : List V) (Q : VK) (E : XK), Room k (A.deeper (envOfC qual scope s.heap.objs.size f cdv)) → sp vs H Q E →
      ∃ t, PSs (cxOf CX0 P w K mg base N qual scope f cdv A outer s H E).nox body t ∧ t { nx := fun _ H' => Q .non H', rt := Q } (start N vs) H) : FnOk P w K mg base CX0 (k + 1) f fd ps sp :=
  F.ok S len fun cdv A outer s H vs Q E hr h => let ⟨t, d, q⟩ := hb cdv A outer s H vs Q E hr h; ⟨t, d.nox, q⟩
end
/-! ### heaps -/
theorem _root_.L2.Same.new {H : Hp} {p : Addr} {o : HO} (h : H p = none) : Same H (upd H p o) := fun b u q => by rw [upd_ne (ne_of_none q h)]; exact q
theorem _root_.L2.Same.rd {H H' : Hp} {a : Addr} {u : HO} (e : Same H H') (h : Rd H a u) : Rd H' a u := by
  rcases h with h | ⟨o, h⟩
  · exact .inl (e _ _ h)
  · exact .inr ⟨o, e _ _ h⟩
theorem _root_.L2.Same.tup {K : PySem.W.Frag} {H H' : Hp} {a : Addr} {xs : List V} (e : Same H H') (h : SqT K H a xs) : SqT K H' a xs := h.imp e.rd id
theorem _root_.L2.Same.lst {K : PySem.W.Frag} {H H' : Hp} {a : Addr} {xs : List V} (e : Same H H') (h : SqL K H a xs) : SqL K H' a xs := h.imp e.rd id
theorem small {n : Nat} (h : n ≤ 100000) : n ≤ sizeLine := Nat.le_trans h (by decide)
theorem smallLt {n : Nat} (h : n ≤ 100000) : n < sizeLine := Nat.lt_of_le_of_lt h (by decide)
/-! ### items by written places -/
theorem at0 {x0 : V} {r : List V} : atI (x0 :: r) 0 = some x0 := atI_nat (j := 0) rfl
theorem at1 {x0 x1 : V} {r : List V} : atI (x0 :: x1 :: r) 1 = some x1 := atI_nat (j := 1) rfl
theorem at2 {x0 x1 x2 : V} {r : List V} : atI (x0 :: x1 :: x2 :: r) 2 = some x2 := atI_nat (j := 2) rfl
theorem at3 {x0 x1 x2 x3 : V} {r : List V} : atI (x0 :: x1 :: x2 :: x3 :: r) 3 = some x3 := atI_nat (j := 3) rfl
theorem at4 {x0 x1 x2 x3 x4 : V} {r : List V} : atI (x0 :: x1 :: x2 :: x3 :: x4 :: r) 4 = some x4 := atI_nat (j := 4) rfl
theorem at5 {x0 x1 x2 x3 x4 x5 : V} {r : List V} : atI (x0 :: x1 :: x2 :: x3 :: x4 :: x5 :: r) 5 = some x5 := atI_nat (j := 5) rfl
end DD
namespace DD
open PySem PySem.Spec
open PyProof.Rows L2
section
variable {base : Heap} {mg : Str → Option Value} {K : PySem.W.Frag} {w : World} {P : Program}
/-! ### is_over, verdict_of, is_anyone -/
def overB (h : Str) : Bool := inV (.str h) [.str "done", .str "breach"]
def sp_is_over (K : PySem.W.Frag) : Sp := fun vs H Q _ => ∃ (a : Addr) (h : Str) (xs : List V), vs = [.ref a] ∧ SqT K H a (.str h :: xs) ∧ ∀ H', Same H H' → Q (.bl (overB h)) H'
theorem ok_is_over (T : Txt w K mg) : FnOk P w K mg base CX0 1 (a_is_over K) (fdOf K (a_is_over K)) ps_is_over (sp_is_over K) := by
  refine ok0 T.f_is_over sc_is_over (fun vs H Q E h => ?_) (fun cdv A outer s H vs Q E hr h => ?_)
  · obtain ⟨a, h, xs, rfl, _⟩ := h; rfl
  · obtain ⟨a, h, xs, rfl, hS, k⟩ := h
    refine ⟨_, (pss_one (ps_ret (pe_cmpR op_in_seq (pe_ix ix_seq (pv 0) pe_int (fun _ _ => rfl)) (pe_tup (pa_cons pe_str (pa_cons pe_str pa_nil))) (by rfl)))), ?_⟩
    refine ⟨_, rfl, .inr (.inl ⟨a, _, 0, .str h, rfl, rfl, hS, at0, ?_⟩)⟩
    refine ⟨small (by decide), fun p hp => ⟨p, _, rfl, .inr (SqT.of upd_same), rfl, rfl, ?_⟩⟩
    exact k _ (Same.new hp)
def spVerdict (K : PySem.W.Frag) : Sp := fun vs H Q _ => ∃ (a : Addr) (h : Str) (xs : List V), vs = [.ref a] ∧ SqT K H a (.str h :: xs) ∧
  (overB h = true → ∀ H', Same H H' → Q (.ref a) H') ∧ (overB h = false → ∀ p H', Same H H' → H p = none → H' p = some (.tup [.str "open"]) → Q (.ref p) H')
theorem ok_verdict_of (T : Txt w K mg) : FnOk P w K mg base CX0 2 (a_verdict_of K) (fdOf K (a_verdict_of K)) ps_verdict_of (spVerdict K) := by
  have G_is_over := ok_is_over (P := P) (base := base) T
  refine ok0 T.f_verdict_of sc_verdict_of (fun vs H Q E h => ?_) (fun cdv A outer s H vs Q E hr h => ?_)
  · obtain ⟨a, h, xs, rfl, _⟩ := h; rfl
  · obtain ⟨a, h, xs, rfl, hS, k1, k2⟩ := h
    have hr_is_over := hr
    refine ⟨_, (pss_one (ps_ret (pe_ifExp (pt_val (pe_call G_is_over hr_is_over rfl T.g_is_over T.k_is_over T.b_is_over .nil pass0 (pa_cons (pv 0) pa_nil))) (pv 0) (pe_tup (pa_cons pe_str pa_nil))))), ?_⟩
    refine ⟨_, rfl, a, h, xs, rfl, hS, fun H1 s1 => ⟨_, rfl, ite2 (fun c => ?_) (fun c => ?_)⟩⟩
    · exact ⟨_, rfl, k1 c _ s1⟩
    · exact ⟨small (by decide), fun p hp => k2 (Bool.not_eq_true _ ▸ c) p _ (s1.trans (Same.new hp)) (s1.free hp) upd_same⟩
end
end DD
namespace DD
open PySem PySem.Spec
open PyProof.Rows L2
/-! ## The mathematics: terms and remainders -/
inductive Gr where | thn | and | or
  deriving DecidableEq
/-- a told term, a remainder; duty true: must, duty false: ban -/
inductive Tm where
  | done
  | breach (ws : List Str)
  | wait (k : Int)
  | duty (b : Bool) (w a : Str) (k : Int)
  | dutyE (b : Bool) (w a : Str) (k : Int) (o : Tm)
  | may (w a : Str) (k : Int)
  | whn (w a : Str) (k : Int) (p : Tm)
  | whnE (w a : Str) (k : Int) (p o : Tm)
  | grp (g : Gr) (ks : List Tm)
  | til (p : Tm) (w a : Str)
  | rep (k : Int) (p : Tm)
  | ever (p : Tm)
def Gr.str : Gr → Str
  | .thn => "then"
  | .and => "and"
  | .or => "or"
def dutyS (b : Bool) : Str := if b then "must" else "ban"
abbrev pS (x : Str) : PyData := .str x
mutual
def Tm.d : Tm → PyData
  | .done => .tuple [pS "done"]
  | .breach ws => .tuple [pS "breach", .tuple (ws.map pS)]
  | .wait k => .tuple [pS "wait", .int k]
  | .duty b w a k => .tuple [pS (dutyS b), pS w, pS a, .int k, .none]
  | .dutyE b w a k o => .tuple [pS (dutyS b), pS w, pS a, .int k, o.d]
  | .may w a k => .tuple [pS "may", pS w, pS a, .int k]
  | .whn w a k p => .tuple [pS "when", pS w, pS a, .int k, p.d, .none]
  | .whnE w a k p o => .tuple [pS "when", pS w, pS a, .int k, p.d, o.d]
  | .grp g ks => .tuple [pS g.str, .tuple (dAll ks)]
  | .til p w a => .tuple [pS "until", p.d, pS w, pS a]
  | .rep k p => .tuple [pS "repeat", .int k, p.d]
  | .ever p => .tuple [pS "forever", p.d]
def dAll : List Tm → List PyData
  | [] => []
  | t :: r => t.d :: dAll r
end
theorem dAll_map : ∀ l : List Tm, dAll l = l.map Tm.d
  | [] => rfl
  | t :: r => by rw [dAll, dAll_map r, List.map_cons]
/-- the head of the tuple, what is behind it -/
def Tm.hd : Tm → Str
  | .done => "done" | .breach _ => "breach" | .wait _ => "wait" | .duty b .. => dutyS b | .dutyE b .. => dutyS b | .may .. => "may" | .whn .. => "when" | .whnE .. => "when" | .grp g _ => g.str | .til .. => "until" | .rep .. => "repeat" | .ever _ => "forever"
def Tm.tl : Tm → List PyData
  | .done => [] | .breach ws => [.tuple (ws.map pS)] | .wait k => [.int k] | .duty _ w a k => [pS w, pS a, .int k, .none] | .dutyE _ w a k o => [pS w, pS a, .int k, o.d] | .may w a k => [pS w, pS a, .int k]
  | .whn w a k p => [pS w, pS a, .int k, p.d, .none] | .whnE w a k p o => [pS w, pS a, .int k, p.d, o.d] | .grp _ ks => [.tuple (dAll ks)] | .til p w a => [p.d, pS w, pS a] | .rep k p => [.int k, p.d] | .ever p => [p.d]
theorem Tm.d_eq (t : Tm) : t.d = .tuple (pS t.hd :: t.tl) := by cases t <;> rfl
def Tm.kids : Tm → List Tm
  | .dutyE _ _ _ _ o => [o] | .whn _ _ _ p => [p] | .whnE _ _ _ p o => [p, o] | .grp _ ks => ks | .til p _ _ => [p] | .rep _ p => [p] | .ever p => [p] | _ => []
def Tm.over : Tm → Bool
  | .done => true | .breach _ => true | _ => false
/-! ### does a term begin done -/
mutual
def Tm.bd : Tm → Bool
  | .done => true
  | .grp .thn ks => bdAll ks
  | .grp .and ks => bdAll ks
  | .grp .or ks => bdAny ks
  | .til p _ _ => p.bd
  | .rep _ p => p.bd
  | _ => false
def bdAll : List Tm → Bool
  | [] => true
  | t :: r => t.bd && bdAll r
def bdAny : List Tm → Bool
  | [] => false
  | t :: r => t.bd || bdAny r
end
theorem bdAll_eq : ∀ l : List Tm, bdAll l = l.all Tm.bd
  | [] => rfl
  | t :: r => by rw [bdAll, bdAll_eq r, List.all_cons]
theorem bdAny_eq : ∀ l : List Tm, bdAny l = l.any Tm.bd
  | [] => rfl
  | t :: r => by rw [bdAny, bdAny_eq r, List.any_cons]
/-! ### the number of parts -/
mutual
def Tm.parts : Tm → Nat
  | .dutyE _ _ _ _ o => o.parts + 1
  | .whn _ _ _ p => p.parts + 1
  | .whnE _ _ _ p o => p.parts + o.parts + 1
  | .grp _ ks => partsAll ks + 1
  | .til p _ _ => p.parts + 1
  | .rep _ p => p.parts + 1
  | .ever p => p.parts + 1
  | _ => 1
def partsAll : List Tm → Nat
  | [] => 0
  | t :: r => t.parts + partsAll r
end
theorem parts_kids (t : Tm) : t.parts = partsAll t.kids + 1 := by cases t <;> simp [Tm.parts, Tm.kids, partsAll]
theorem partsAll_append (a b : List Tm) : partsAll (a ++ b) = partsAll a + partsAll b := by
  induction a with
  | nil => simp [partsAll]
  | cons t r ih => simp only [List.cons_append, partsAll, ih]; omega
/-! ### texts -/
mutual
def Tm.ends : Tm → Bool
  | .duty .. => true
  | .dutyE _ _ _ _ o => o.ends
  | .whn .. => true
  | .whnE _ _ _ _ o => o.ends
  | .rep _ p => p.ends
  | .ever p => p.ends
  | _ => false
end
def brk (x : Str) : Str := (("(" : Str) ++ x) ++ (")" : Str)
def Tm.wraps : Tm → Bool
  | .grp .. => true | .til .. => true | _ => false
def numS (k : Int) : Str := (toString k : String)
def Tm.par (t : Tm) (x : Str) : Str := if t.wraps then brk x else x
mutual
def Tm.text : Tm → Str
  | .done => "done"
  | .breach ws => ("breach " : Str) ++ Txt.join " " ws
  | .wait k => (Str.empty ++ ("wait " : Str)) ++ numS k
  | .duty true w a k => (((((Str.empty ++ w) ++ (" must " : Str)) ++ a) ++ (" within " : Str)) ++ numS k) ++ ("" : Str)
  | .duty false w a k => (((((Str.empty ++ w) ++ (" must not " : Str)) ++ a) ++ (" for " : Str)) ++ numS k) ++ ("" : Str)
  | .dutyE true w a k o => (((((Str.empty ++ w) ++ (" must " : Str)) ++ a) ++ (" within " : Str)) ++ numS k) ++ ((" else " : Str) ++ o.par o.text)
  | .dutyE false w a k o => (((((Str.empty ++ w) ++ (" must not " : Str)) ++ a) ++ (" for " : Str)) ++ numS k) ++ ((" else " : Str) ++ o.par o.text)
  | .may w a k => ((((Str.empty ++ w) ++ (" may " : Str)) ++ a) ++ (" within " : Str)) ++ numS k
  | .whn w a k p => ((((((((Str.empty ++ ("when " : Str)) ++ w) ++ (" does " : Str)) ++ a) ++ (" within " : Str)) ++ numS k) ++ (" so " : Str)) ++ p.par p.text) ++ ("" : Str)
  | .whnE w a k p o => ((((((((Str.empty ++ ("when " : Str)) ++ w) ++ (" does " : Str)) ++ a) ++ (" within " : Str)) ++ numS k) ++ (" so " : Str)) ++ (if p.ends then brk (p.par p.text) else p.par p.text)) ++ ((" else " : Str) ++ o.par o.text)
  | .grp g ks => Txt.join (((Str.empty ++ (" " : Str)) ++ g.str) ++ (" " : Str)) (ptexts ks)
  | .til p w a => ((((Str.empty ++ p.par p.text) ++ (" until " : Str)) ++ w) ++ (" does " : Str)) ++ a
  | .rep k p => (((Str.empty ++ ("repeat " : Str)) ++ numS k) ++ (" " : Str)) ++ p.par p.text
  | .ever p => ("forever " : Str) ++ p.par p.text
def ptexts : List Tm → List Str
  | [] => []
  | t :: r => t.par t.text :: ptexts r
end
def Tm.ptext (t : Tm) : Str := t.par t.text
theorem ptexts_map : ∀ l : List Tm, ptexts l = l.map Tm.ptext
  | [] => rfl
  | t :: r => by rw [ptexts, ptexts_map r, List.map_cons]; rfl
/-! ### parts in force -/
mutual
def Tm.force : Tm → List Tm
  | .done => []
  | .breach _ => []
  | .grp .thn ks => forceHd ks
  | .grp .and ks => forceAll ks
  | .grp .or ks => forceAll ks
  | .til p _ _ => p.force
  | .wait k => [.wait k]
  | .duty b w a k => [.duty b w a k]
  | .dutyE b w a k o => [.dutyE b w a k o]
  | .may w a k => [.may w a k]
  | .whn w a k p => [.whn w a k p]
  | .whnE w a k p o => [.whnE w a k p o]
  | .rep k p => [.rep k p]
  | .ever p => [.ever p]
def forceHd : List Tm → List Tm
  | [] => []
  | t :: _ => t.force
def forceAll : List Tm → List Tm
  | [] => []
  | t :: r => t.force ++ forceAll r
end
theorem forceAll_eq : ∀ l : List Tm, forceAll l = l.flatMap Tm.force
  | [] => rfl
  | t :: r => by rw [forceAll, forceAll_eq r, List.flatMap_cons]
def Tm.leaf : Tm → Bool
  | .wait _ => true | .duty .. => true | .dutyE .. => true | .may .. => true | .whn .. => true | .whnE .. => true | _ => false
/-- the row of a part in force -/
def Tm.row : Tm → PyData
  | .wait k => .tuple [pS "wait", .none, .none, .int k]
  | .duty b w a k => .tuple [pS (dutyS b), pS w, pS a, .int k]
  | .dutyE b w a k _ => .tuple [pS (dutyS b), pS w, pS a, .int k]
  | .may w a k => .tuple [pS "may", pS w, pS a, .int k]
  | .whn w a k _ => .tuple [pS "when", pS w, pS a, .int k]
  | .whnE w a k _ _ => .tuple [pS "when", pS w, pS a, .int k]
  | _ => .none
/-! ### words -/
def letters : Str := "abcdefghijklmnopqrstuvwxyz"
def reserved : List Str := ["act", "and", "anyone", "breach", "day", "does", "done", "else", "for", "forever", "hands", "may", "must", "not", "or", "parties", "repeat", "role", "so", "term", "then", "to", "until", "wait", "when", "within"]
def wordB (x : Str) : Bool := decide (1 ≤ x.length) && (decide (x.length ≤ 12) && (!(inV (.str x) (reserved.map V.str)) && x.cps.toList.all fun c => decide (c ∈ letters.cps.toList)))
def anyone : Str := "anyone"
/-! ### what is drawn: terms of n levels, whos among nm -/
def Who (nm : List Str) (x : Str) : Prop := (x ∈ nm ∧ wordB x = true) ∨ x = anyone
inductive St (nm : List Str) : Nat → Tm → Prop where
  | done {n} : St nm (n + 1) .done
  | breach {n ws} (h1 : 1 ≤ ws.length) (h2 : ws.length ≤ 2) (h3 : ws.Nodup) (h4 : ∀ x ∈ ws, Who nm x) : St nm (n + 1) (.breach ws)
  | wait {n k} (h1 : 1 ≤ k) (h2 : k ≤ 30) : St nm (n + 1) (.wait k)
  | duty {n b w a k} (hw : Who nm w) (ha : wordB a = true) (h1 : 1 ≤ k) (h2 : k ≤ 30) : St nm (n + 1) (.duty b w a k)
  | dutyE {n b w a k o} (hw : Who nm w) (ha : wordB a = true) (h1 : 1 ≤ k) (h2 : k ≤ 30) (ho : St nm n o) : St nm (n + 1) (.dutyE b w a k o)
  | may {n w a k} (hw : Who nm w) (ha : wordB a = true) (h1 : 1 ≤ k) (h2 : k ≤ 30) : St nm (n + 1) (.may w a k)
  | whn {n w a k p} (hw : Who nm w) (ha : wordB a = true) (h1 : 1 ≤ k) (h2 : k ≤ 30) (hp : St nm n p) : St nm (n + 1) (.whn w a k p)
  | whnE {n w a k p o} (hw : Who nm w) (ha : wordB a = true) (h1 : 1 ≤ k) (h2 : k ≤ 30) (hp : St nm n p) (ho : St nm n o) : St nm (n + 1) (.whnE w a k p o)
  | grp {n g ks} (h1 : 2 ≤ ks.length) (h2 : ks.length ≤ 3) (hk : ∀ t ∈ ks, St nm n t) : St nm (n + 1) (.grp g ks)
  | til {n p w a} (hp : St nm n p) (hw : Who nm w) (ha : wordB a = true) : St nm (n + 1) (.til p w a)
  | rep {n k p} (h1 : 1 ≤ k) (h2 : k ≤ 3) (hp : St nm n p) : St nm (n + 1) (.rep k p)
  | ever {n p} (hp : St nm n p) (hb : p.bd = false) : St nm (n + 1) (.ever p)
def Tm.isRep : Tm → Bool
  | .rep .. => true | .ever _ => true | _ => false
/-! ### remainders of terms of n levels; pp: the parties -/
inductive Rm (nm pp : List Str) : Nat → Tm → Prop where
  | done {n} : Rm nm pp (n + 1) .done
  | breach {n ps} (h1 : ps ≠ []) (h2 : ps.Nodup) (h3 : ∀ x ∈ ps, x ∈ pp) : Rm nm pp (n + 1) (.breach ps)
  | wait {n k} (h1 : 1 ≤ k) (h2 : k ≤ 30) : Rm nm pp (n + 1) (.wait k)
  | duty {n b w a k} (hw : Who nm w) (ha : wordB a = true) (h1 : 1 ≤ k) (h2 : k ≤ 30) : Rm nm pp (n + 1) (.duty b w a k)
  | dutyE {n b w a k o} (hw : Who nm w) (ha : wordB a = true) (h1 : 1 ≤ k) (h2 : k ≤ 30) (ho : St nm n o) : Rm nm pp (n + 1) (.dutyE b w a k o)
  | may {n w a k} (hw : Who nm w) (ha : wordB a = true) (h1 : 1 ≤ k) (h2 : k ≤ 30) : Rm nm pp (n + 1) (.may w a k)
  | whn {n w a k p} (hw : Who nm w) (ha : wordB a = true) (h1 : 1 ≤ k) (h2 : k ≤ 30) (hp : St nm n p) : Rm nm pp (n + 1) (.whn w a k p)
  | whnE {n w a k p o} (hw : Who nm w) (ha : wordB a = true) (h1 : 1 ≤ k) (h2 : k ≤ 30) (hp : St nm n p) (ho : St nm n o) : Rm nm pp (n + 1) (.whnE w a k p o)
  | thn {n f r} (hf : Rm nm pp n f) (h1 : r ≠ []) (h2 : r.length ≤ 2) (hr : ∀ t ∈ r, St nm n t) : Rm nm pp (n + 1) (.grp .thn (f :: r))
  | thr {n f k} (hf : Rm nm pp n f) (hk : St nm (n + 1) k) (hi : k.isRep = true) : Rm nm pp (n + 1) (.grp .thn [f, k])
  | grp {n g ks} (hg : g ≠ .thn) (h1 : 2 ≤ ks.length) (h2 : ks.length ≤ 3) (hk : ∀ t ∈ ks, Rm nm pp n t) : Rm nm pp (n + 1) (.grp g ks)
  | til {n p w a} (hp : Rm nm pp n p) (hw : Who nm w) (ha : wordB a = true) : Rm nm pp (n + 1) (.til p w a)
theorem St.up {nm : List Str} : ∀ {n : Nat} {t : Tm}, St nm n t → St nm (n + 1) t := by
  intro n t h
  induction h with
  | done => exact .done
  | breach h1 h2 h3 h4 => exact .breach h1 h2 h3 h4
  | wait h1 h2 => exact .wait h1 h2
  | duty hw ha h1 h2 => exact .duty hw ha h1 h2
  | dutyE hw ha h1 h2 _ ih => exact .dutyE hw ha h1 h2 ih
  | may hw ha h1 h2 => exact .may hw ha h1 h2
  | whn hw ha h1 h2 _ ih => exact .whn hw ha h1 h2 ih
  | whnE hw ha h1 h2 _ _ i1 i2 => exact .whnE hw ha h1 h2 i1 i2
  | grp h1 h2 _ ih => exact .grp h1 h2 ih
  | til _ hw ha ih => exact .til ih hw ha
  | rep h1 h2 _ ih => exact .rep h1 h2 ih
  | ever _ hb ih => exact .ever ih hb
theorem St.mono {nm : List Str} {n m : Nat} {t : Tm} (h : St nm n t) (l : n ≤ m) : St nm m t := by
  obtain ⟨k, rfl⟩ := Nat.exists_eq_add_of_le l
  induction k with
  | zero => exact h
  | succ k ih => exact (ih (by omega)).up
theorem Rm.up {nm pp : List Str} : ∀ {n : Nat} {t : Tm}, Rm nm pp n t → Rm nm pp (n + 1) t := by
  intro n t h
  induction h with
  | done => exact .done
  | breach h1 h2 h3 => exact .breach h1 h2 h3
  | wait h1 h2 => exact .wait h1 h2
  | duty hw ha h1 h2 => exact .duty hw ha h1 h2
  | dutyE hw ha h1 h2 ho => exact .dutyE hw ha h1 h2 ho.up
  | may hw ha h1 h2 => exact .may hw ha h1 h2
  | whn hw ha h1 h2 hp => exact .whn hw ha h1 h2 hp.up
  | whnE hw ha h1 h2 hp ho => exact .whnE hw ha h1 h2 hp.up ho.up
  | thn _ h1 h2 hr ih => exact .thn ih h1 h2 fun t ht => (hr t ht).up
  | thr _ hk hi ih => exact .thr ih hk.up hi
  | grp hg h1 h2 _ ih => exact .grp hg h1 h2 ih
  | til _ hw ha ih => exact .til ih hw ha
theorem Rm.mono {nm pp : List Str} {n m : Nat} {t : Tm} (h : Rm nm pp n t) (l : n ≤ m) : Rm nm pp m t := by
  obtain ⟨k, rfl⟩ := Nat.exists_eq_add_of_le l
  induction k with
  | zero => exact h
  | succ k ih => exact (ih (by omega)).up
/-! ### texts are small -/
def okS (x : Str) : Prop := PyData.strOk x = true ∧ x.length ≤ 12
inductive Tx : Nat → Tm → Prop where
  | done {n} : Tx (n + 1) .done
  | breach {n ws} (h1 : ws.length ≤ 3) (h2 : ∀ x ∈ ws, okS x) : Tx (n + 1) (.breach ws)
  | wait {n k} (h1 : 1 ≤ k) (h2 : k ≤ 30) : Tx (n + 1) (.wait k)
  | duty {n b w a k} (hw : okS w) (ha : okS a) (h1 : 1 ≤ k) (h2 : k ≤ 30) : Tx (n + 1) (.duty b w a k)
  | dutyE {n b w a k o} (hw : okS w) (ha : okS a) (h1 : 1 ≤ k) (h2 : k ≤ 30) (ho : Tx n o) : Tx (n + 1) (.dutyE b w a k o)
  | may {n w a k} (hw : okS w) (ha : okS a) (h1 : 1 ≤ k) (h2 : k ≤ 30) : Tx (n + 1) (.may w a k)
  | whn {n w a k p} (hw : okS w) (ha : okS a) (h1 : 1 ≤ k) (h2 : k ≤ 30) (hp : Tx n p) : Tx (n + 1) (.whn w a k p)
  | whnE {n w a k p o} (hw : okS w) (ha : okS a) (h1 : 1 ≤ k) (h2 : k ≤ 30) (hp : Tx n p) (ho : Tx n o) : Tx (n + 1) (.whnE w a k p o)
  | grp {n g ks} (h1 : 1 ≤ ks.length) (h2 : ks.length ≤ 3) (hk : ∀ t ∈ ks, Tx n t) : Tx (n + 1) (.grp g ks)
  | til {n p w a} (hp : Tx n p) (hw : okS w) (ha : okS a) : Tx (n + 1) (.til p w a)
  | rep {n k p} (h1 : 1 ≤ k) (h2 : k ≤ 30) (hp : Tx n p) : Tx (n + 1) (.rep k p)
  | ever {n p} (hp : Tx n p) : Tx (n + 1) (.ever p)
end DD
namespace DD
open PySem PySem.Spec
open PyProof.Rows L2
/-! ### texts: length, code points -/
theorem len_app (x y : Str) : (x ++ y).length = x.length + y.length := Str.length_append x y
theorem ok_iff (x : Str) : PyData.strOk x = true ↔ ∀ c ∈ x.cps.toList, c < 0x110000 := by
  unfold PyData.strOk
  (rw [← Array.all_toList, List.all_eq_true])
  exact ⟨fun h c hc => of_decide_eq_true (h c hc), fun h c hc => decide_eq_true (h c hc)⟩
theorem cps_app (x y : Str) : (x ++ y).cps.toList = x.cps.toList ++ y.cps.toList := by
  show (x.cps ++ y.cps).toList = _
  simp
theorem ok_app {x y : Str} (hx : PyData.strOk x = true) (hy : PyData.strOk y = true) : PyData.strOk (x ++ y) = true := by
  rw [ok_iff] at *
  intro c hc
  rw [cps_app, List.mem_append] at hc
  exact hc.elim (hx c) (hy c)
theorem mem_joinL {S : List Nat} {c : Nat} : ∀ {l : List (List Nat)}, c ∈ TL.joinL S l → c ∈ S ∨ ∃ p ∈ l, c ∈ p
  | [], h => by simp [TL.joinL] at h
  | [a], h => by
    simp [TL.joinL] at h
    exact .inr ⟨a, by simp, h⟩
  | a :: b :: r, h => by
    have h2 : c ∈ a ++ (S ++ TL.joinL S (b :: r)) := h
    rcases List.mem_append.mp h2 with h3 | h3
    · exact .inr ⟨a, by simp, h3⟩
    · rcases List.mem_append.mp h3 with h4 | h4
      · exact .inl h4
      · rcases mem_joinL h4 with q | ⟨p, hp, hc⟩
        · exact .inl q
        · exact .inr ⟨p, List.mem_cons_of_mem _ hp, hc⟩
theorem ok_join {x : Str} {ys : List Str} (hx : PyData.strOk x = true) (hy : ∀ y ∈ ys, PyData.strOk y = true) : PyData.strOk (Txt.join x ys) = true := by
  rw [ok_iff] at *
  intro c hc
  have e : (Txt.join x ys).cps.toList = TL.joinL x.cps.toList (ys.map fun y => y.cps.toList) := by
    rw [TL.join_eq]
    exact TL.tl_join x ys
  rw [e] at hc
  rcases mem_joinL hc with q | ⟨p, hp, q⟩
  · exact hx c q
  · obtain ⟨y, hy1, rfl⟩ := List.mem_map.mp hp
    exact (ok_iff y).mp (hy y hy1) c q
theorem sum_le {l : List Nat} {b : Nat} (h : ∀ x ∈ l, x ≤ b) : l.sum ≤ l.length * b := by
  induction l with
  | nil => simp
  | cons a r ih =>
    have h1 := h a (by simp)
    have h2 := ih fun x hx => h x (by simp [hx])
    (simp only [List.sum_cons, List.length_cons])
    have : (r.length + 1) * b = r.length * b + b := by rw [Nat.add_mul, Nat.one_mul]
    omega
theorem sum_map_le {α : Type} {l : List α} {f : α → Nat} {b : Nat} (h : ∀ x ∈ l, f x ≤ b) : (l.map f).sum ≤ l.length * b := by
  have := sum_le (l := l.map f) (b := b) (by simpa using h)
  rwa [List.length_map] at this
theorem len_join {x : Str} {ys : List Str} {b n m : Nat} (hy : ∀ y ∈ ys, y.length ≤ b) (hn : ys.length ≤ n) (hm : x.length ≤ m) : (ys.map (·.length)).sum + ys.length * x.length ≤ n * b + n * m ∧ (Txt.join x ys).length ≤ n * b + n * m := by
  have h1 := sum_map_le (f := fun y : Str => y.length) hy
  have h2 : (Txt.join x ys).length ≤ (ys.map (·.length)).sum + ys.length * x.length := by
    rw [TL.join_eq]
    exact StrLaws.join_length_le x ys
  have h3 : ys.length * b ≤ n * b := Nat.mul_le_mul_right b hn
  have h4 : ys.length * x.length ≤ n * m := Nat.mul_le_mul hn hm
  omega
theorem numS_ok {k : Int} (h1 : 1 ≤ k) (h2 : k ≤ 30) : PyData.strOk (numS k) = true ∧ (numS k).length ≤ 2 ∧ k.natAbs.log2 < 1920 := by
  have key : ∀ n : Nat, n < 31 → PyData.strOk (numS (n : Int)) = true ∧ (numS (n : Int)).length ≤ 2 ∧ ((n : Int)).natAbs.log2 < 1920 := by decide +kernel
  (have e : k = ((k.toNat : Nat) : Int) := by omega)
  rw [e]
  exact key k.toNat (by omega)
theorem word_ok {x : Str} (h : wordB x = true) : okS x := by
  obtain ⟨h1, h2⟩ := He.ba h
  obtain ⟨h3, h4⟩ := He.ba h2
  obtain ⟨h5, h6⟩ := He.ba h4
  refine ⟨(ok_iff x).mpr fun c hc => ?_, of_decide_eq_true h3⟩
  have h7 := of_decide_eq_true (List.all_eq_true.mp h6 c hc)
  have h8 : ∀ c ∈ letters.cps.toList, c < 0x110000 := by decide +kernel
  exact h8 c h7
theorem word_len {x : Str} (h : wordB x = true) : 1 ≤ x.length ∧ x.length ≤ 12 := by
  obtain ⟨h1, h2⟩ := He.ba h
  exact ⟨of_decide_eq_true h1, of_decide_eq_true (He.ba h2).1⟩
theorem anyone_ok : okS anyone := ⟨by decide +kernel, by decide +kernel⟩
theorem Who.ok {nm : List Str} {x : Str} (h : Who nm x) : okS x := by
  rcases h with h | rfl
  · exact word_ok h.2
  · exact anyone_ok
/-! ### what is drawn is small -/
theorem St.tx {nm : List Str} : ∀ {n : Nat} {t : Tm}, St nm n t → Tx n t := by
  intro n t h
  induction h with
  | done => exact .done
  | breach h1 h2 h3 h4 => exact .breach (by omega) fun x hx => (h4 x hx).ok
  | wait h1 h2 => exact .wait h1 h2
  | duty hw ha h1 h2 => exact .duty hw.ok (word_ok ha) h1 h2
  | dutyE hw ha h1 h2 _ ih => exact .dutyE hw.ok (word_ok ha) h1 h2 ih
  | may hw ha h1 h2 => exact .may hw.ok (word_ok ha) h1 h2
  | whn hw ha h1 h2 _ ih => exact .whn hw.ok (word_ok ha) h1 h2 ih
  | whnE hw ha h1 h2 _ _ i1 i2 => exact .whnE hw.ok (word_ok ha) h1 h2 i1 i2
  | grp h1 h2 _ ih => exact .grp (by omega) h2 ih
  | til _ hw ha ih => exact .til ih hw.ok (word_ok ha)
  | rep h1 h2 _ ih => exact .rep h1 (by omega) ih
  | ever _ hb ih => exact .ever ih
theorem Tx.up : ∀ {n : Nat} {t : Tm}, Tx n t → Tx (n + 1) t := by
  intro n t h
  induction h with
  | done => exact .done
  | breach h1 h2 => exact .breach h1 h2
  | wait h1 h2 => exact .wait h1 h2
  | duty hw ha h1 h2 => exact .duty hw ha h1 h2
  | dutyE hw ha h1 h2 _ ih => exact .dutyE hw ha h1 h2 ih
  | may hw ha h1 h2 => exact .may hw ha h1 h2
  | whn hw ha h1 h2 _ ih => exact .whn hw ha h1 h2 ih
  | whnE hw ha h1 h2 _ _ i1 i2 => exact .whnE hw ha h1 h2 i1 i2
  | grp h1 h2 _ ih => exact .grp h1 h2 ih
  | til _ hw ha ih => exact .til ih hw ha
  | rep h1 h2 _ ih => exact .rep h1 h2 ih
  | ever _ ih => exact .ever ih
theorem Tx.mono {n m : Nat} {t : Tm} (h : Tx n t) (l : n ≤ m) : Tx m t := by
  obtain ⟨k, rfl⟩ := Nat.exists_eq_add_of_le l
  induction k with
  | zero => exact h
  | succ k ih => exact (ih (by omega)).up
/-- a list of unlike items among others is no longer -/
theorem nodup_le {α : Type} [DecidableEq α] : ∀ {l m : List α}, l.Nodup → (∀ x ∈ l, x ∈ m) → l.length ≤ m.length
  | [], _, _, _ => (Nat.zero_le _)
  | a :: r, m, hn, hm => by
    have h1 := List.nodup_cons.mp hn
    have h2 : a ∈ m := hm a (by simp)
    have h3 := nodup_le (l := r) (m := m.erase a) h1.2 fun x hx => (List.mem_erase_of_ne (fun e => h1.1 (by rw [← e]; exact hx))).mpr (hm x (by simp [hx]))
    rw [List.length_erase_of_mem h2] at h3
    have h4 : 0 < m.length := List.length_pos_of_mem h2
    simp only [List.length_cons]
    omega
/-- the parties: words, three at most -/
structure Pp (pp : List Str) : Prop where
  few : pp.length ≤ 3
  word : ∀ x ∈ pp, wordB x = true
theorem Rm.tx {nm pp : List Str} (hp : Pp pp) : ∀ {n : Nat} {t : Tm}, Rm nm pp n t → Tx (n + 2) t := by
  intro n t h
  induction h with
  | done => exact .done
  | breach h1 h2 h3 => exact .breach (Nat.le_trans (nodup_le h2 h3) hp.few) fun x hx => word_ok (hp.word x (h3 x hx))
  | wait h1 h2 => exact .wait h1 h2
  | duty hw ha h1 h2 => exact .duty hw.ok (word_ok ha) h1 h2
  | dutyE hw ha h1 h2 ho => exact .dutyE hw.ok (word_ok ha) h1 h2 (ho.tx.mono (by omega))
  | may hw ha h1 h2 => exact .may hw.ok (word_ok ha) h1 h2
  | whn hw ha h1 h2 hp => exact .whn hw.ok (word_ok ha) h1 h2 (hp.tx.mono (by omega))
  | whnE hw ha h1 h2 hp ho => exact .whnE hw.ok (word_ok ha) h1 h2 (hp.tx.mono (by omega)) (ho.tx.mono (by omega))
  | thn _ h1 h2 hr ih => exact .grp (by simp) (by simp; omega) fun t ht => (List.mem_cons.mp ht).elim (fun e => by rw [e]; exact ih) fun ht => (hr t ht).tx.mono (by omega)
  | thr _ hk hi ih => exact .grp (by simp) (by simp) fun t ht => (List.mem_cons.mp ht).elim (fun e => by rw [e]; exact ih) fun ht => by rw [List.mem_singleton.mp ht]; exact hk.tx.mono (by omega)
  | grp hg h1 h2 _ ih => exact .grp (by omega) h2 ih
  | til _ hw ha ih => exact .til ih hw.ok (word_ok ha)
def tb : Nat → Nat
  | 0 => 0
  | n + 1 => 100 + 3 * (tb n + 12)
theorem par_le {t : Tm} {x : Str} {b : Nat} (h : x.length ≤ b) : (t.par x).length ≤ b + 2 := by
  unfold Tm.par brk
  have e1 : ("(" : Str).length = 1 := by decide +kernel
  have e2 : (")" : Str).length = 1 := by decide +kernel
  split
  · rw [len_app, len_app]; omega
  · omega
theorem brk_le {x : Str} {b : Nat} (h : x.length ≤ b) : (brk x).length ≤ b + 2 := by
  unfold brk
  have e1 : ("(" : Str).length = 1 := by decide +kernel
  have e2 : (")" : Str).length = 1 := by decide +kernel
  rw [len_app, len_app]; omega
theorem brk_ok {x : Str} (h : PyData.strOk x = true) : PyData.strOk (brk x) = true := ok_app (ok_app (by decide +kernel) h) (by decide +kernel)
theorem par_ok {t : Tm} {x : Str} (h : PyData.strOk x = true) : PyData.strOk (t.par x) = true := by
  unfold Tm.par
  split
  · exact brk_ok h
  · exact h
theorem Tx.len : ∀ {n : Nat} {t : Tm}, Tx n t → t.text.length ≤ tb n := by
  intro n t h
  have e0 : Str.empty.length = 0 := by decide +kernel
  have e1 : (" must " : Str).length = 6 := by decide +kernel
  have e2 : (" within " : Str).length = 8 := by decide +kernel
  have e3 : ("" : Str).length = 0 := by decide +kernel
  have e4 : (" must not " : Str).length = 10 := by decide +kernel
  have e5 : (" for " : Str).length = 5 := by decide +kernel
  have e6 : (" else " : Str).length = 6 := by decide +kernel
  have e7 : (" may " : Str).length = 5 := by decide +kernel
  have e8 : ("when " : Str).length = 5 := by decide +kernel
  have e9 : (" does " : Str).length = 6 := by decide +kernel
  have e10 : (" so " : Str).length = 4 := by decide +kernel
  have e11 : (" until " : Str).length = 7 := by decide +kernel
  have e12 : ("repeat " : Str).length = 7 := by decide +kernel
  have e13 : ("forever " : Str).length = 8 := by decide +kernel
  have e14 : ("wait " : Str).length = 5 := by decide +kernel
  have e15 : ("breach " : Str).length = 7 := by decide +kernel
  have e16 : (" " : Str).length = 1 := by decide +kernel
  have e17 : ("done" : Str).length = 4 := by decide +kernel
  induction h with
  | done => simp only [Tm.text, tb]; omega
  | breach h1 h2 =>
    have := (len_join (x := " ") (m := 1) (fun y hy => (h2 y hy).2) h1 (by omega)).2
    simp only [Tm.text, tb, len_app]; omega
  | wait h1 h2 => have := (numS_ok h1 h2).2.1; simp only [Tm.text, tb, len_app]; omega
  | @duty n b w a k hw ha h1 h2 => have := (numS_ok h1 h2).2.1; have := hw.2; have := ha.2; cases b <;> simp only [Tm.text, tb, len_app] <;> omega
  | @dutyE n b w a k o hw ha h1 h2 ho ih => have := (numS_ok h1 h2).2.1; have := hw.2; have := ha.2; have := par_le (t := o) ih; cases b <;> simp only [Tm.text, tb, len_app] <;> omega
  | may hw ha h1 h2 => have := (numS_ok h1 h2).2.1; have := hw.2; have := ha.2; simp only [Tm.text, tb, len_app]; omega
  | @whn n w a k p hw ha h1 h2 hp ih => have := (numS_ok h1 h2).2.1; have := hw.2; have := ha.2; have := par_le (t := p) ih; simp only [Tm.text, tb, len_app]; omega
  | @whnE n w a k p o hw ha h1 h2 hp ho i1 i2 =>
    have := (numS_ok h1 h2).2.1; have := hw.2; have := ha.2; have q1 := par_le (t := p) i1; have := par_le (t := o) i2; have := brk_le q1
    simp only [Tm.text, tb, len_app]
    split <;> omega
  | @grp n g ks h1 h2 hk ih =>
    have hl : ∀ y ∈ ptexts ks, y.length ≤ tb n + 2 := fun y hy => by
      rw [ptexts_map] at hy
      obtain ⟨t, ht, rfl⟩ := List.mem_map.mp hy
      exact par_le (ih t ht)
    have hs : (((Str.empty ++ (" " : Str)) ++ g.str) ++ (" " : Str)).length ≤ 6 := by cases g <;> decide +kernel
    have := (len_join (x := ((Str.empty ++ (" " : Str)) ++ g.str) ++ (" " : Str)) (n := 3) (m := 6) hl (by rw [ptexts_map, List.length_map]; exact h2) hs).2
    simp only [Tm.text, tb]; omega
  | @til n p w a hp hw ha ih => have := hw.2; have := ha.2; have := par_le (t := p) ih; simp only [Tm.text, tb, len_app]; omega
  | @rep n k p h1 h2 hp ih => have := (numS_ok h1 h2).2.1; have := par_le (t := p) ih; simp only [Tm.text, tb, len_app]; omega
  | @ever n p hp ih => have := par_le (t := p) ih; simp only [Tm.text, tb, len_app]; omega
theorem Tx.okt : ∀ {n : Nat} {t : Tm}, Tx n t → PyData.strOk t.text = true := by
  intro n t h
  induction h with
  | done => decide +kernel
  | breach h1 h2 => exact ok_app (by decide +kernel) (ok_join (by decide +kernel) fun y hy => (h2 y hy).1)
  | wait h1 h2 => exact ok_app (by decide +kernel) (numS_ok h1 h2).1
  | @duty n b w a k hw ha h1 h2 => cases b <;> exact ok_app (ok_app (ok_app (ok_app (ok_app (ok_app (by decide +kernel) hw.1) (by decide +kernel)) ha.1) (by decide +kernel)) (numS_ok h1 h2).1) (by decide +kernel)
  | @dutyE n b w a k o hw ha h1 h2 ho ih => cases b <;> exact ok_app (ok_app (ok_app (ok_app (ok_app (ok_app (by decide +kernel) hw.1) (by decide +kernel)) ha.1) (by decide +kernel)) (numS_ok h1 h2).1) (ok_app (by decide +kernel) (par_ok ih))
  | may hw ha h1 h2 => exact ok_app (ok_app (ok_app (ok_app (ok_app (by decide +kernel) hw.1) (by decide +kernel)) ha.1) (by decide +kernel)) (numS_ok h1 h2).1
  | whn hw ha h1 h2 hp ih => exact ok_app (ok_app (ok_app (ok_app (ok_app (ok_app (ok_app (ok_app (ok_app (by decide +kernel) (by decide +kernel)) hw.1) (by decide +kernel)) ha.1) (by decide +kernel)) (numS_ok h1 h2).1) (by decide +kernel)) (par_ok ih)) (by decide +kernel)
  | whnE hw ha h1 h2 hp ho i1 i2 =>
    refine ok_app (ok_app (ok_app (ok_app (ok_app (ok_app (ok_app (ok_app (ok_app (by decide +kernel) (by decide +kernel)) hw.1) (by decide +kernel)) ha.1) (by decide +kernel)) (numS_ok h1 h2).1) (by decide +kernel)) ?_) (ok_app (by decide +kernel) (par_ok i2))
    split
    · exact brk_ok (par_ok i1)
    · exact par_ok i1
  | @grp n g ks h1 h2 hk ih =>
    refine ok_join (by cases g <;> decide +kernel) fun y hy => ?_
    rw [ptexts_map] at hy
    obtain ⟨t, ht, rfl⟩ := List.mem_map.mp hy
    exact par_ok (ih t ht)
  | til hp hw ha ih => exact ok_app (ok_app (ok_app (ok_app (ok_app (by decide +kernel) (par_ok ih)) (by decide +kernel)) hw.1) (by decide +kernel)) ha.1
  | rep h1 h2 hp ih => exact ok_app (ok_app (ok_app (ok_app (by decide +kernel) (by decide +kernel)) (numS_ok h1 h2).1) (by decide +kernel)) (par_ok ih)
  | ever hp ih => exact ok_app (by decide +kernel) (par_ok ih)
end DD
namespace DD
open PySem PySem.Spec
open PyProof.Rows L2
/-! ### tuples stay, whatever runs -/
def tupO : HO → Bool
  | .tup _ => true | .frz _ _ => true | _ => false
def KT (H H' : Hp) : Prop := ∀ a o, H a = some o → tupO o = true → H' a = some o
theorem KT.refl (H : Hp) : KT H H := fun _ _ h _ => h
theorem KT.trans {H H1 H2 : Hp} (a : KT H H1) (b : KT H1 H2) : KT H H2 := fun c o h s => b c o (a c o h s) s
theorem _root_.L2.Same.kt {H H' : Hp} (e : Same H H') : KT H H' := fun a o h _ => e a o h
theorem KT.upd {H : Hp} {p : Addr} {o : HO} (h : ∀ u, H p = some u → tupO u = false) : KT H (upd H p o) := fun a u q s => by
  rw [upd_ne]
  · exact q
  · intro e
    rw [e] at q
    rw [h u q] at s
    cases s
theorem KT.updL {H : Hp} {p : Addr} {o : HO} {xs : List V} (h : H p = some (.lst xs)) : KT H (L2.upd H p o) := KT.upd fun u q => by rw [h] at q; cases q; rfl
theorem KT.updD {H : Hp} {p : Addr} {o : HO} {xs : List (Key × V)} (h : H p = some (.dK xs)) : KT H (L2.upd H p o) := KT.upd fun u q => by rw [h] at q; cases q; rfl
theorem KT.updI {H : Hp} {p C dx : Addr} {o : HO} {xs : List (Str × V)} (h : H p = some (.ins C dx xs)) : KT H (L2.upd H p o) := KT.upd fun u q => by rw [h] at q; cases q; rfl
theorem KT.rd {H H' : Hp} {a : Addr} {xs : List V} (e : KT H H') (h : Rd H a (.tup xs)) : Rd H' a (.tup xs) := by
  rcases h with h | ⟨o, h⟩
  · exact .inl (e _ _ h rfl)
  · exact .inr ⟨o, e _ _ h rfl⟩
mutual
/-- data of texts, numbers and tuples at a value -/
inductive DT (K : PySem.W.Frag) (H : Hp) : V → PyData → Prop
  | non : DT K H .non .none
  | bl (b : Bool) : DT K H (.bl b) (.bool b)
  | int (i : Int) : DT K H (.int i) (.int i)
  | str (x : Str) : DT K H (.str x) (.str x)
  | tup {a : Addr} {xs : List V} {ds : List PyData} : SqT K H a xs → DTs K H xs ds → DT K H (.ref a) (.tuple ds)
inductive DTs (K : PySem.W.Frag) (H : Hp) : List V → List PyData → Prop
  | nil : DTs K H [] []
  | cons {v : V} {vs : List V} {d : PyData} {ds : List PyData} : DT K H v d → DTs K H vs ds → DTs K H (v :: vs) (d :: ds)
end
section
variable {K : PySem.W.Frag} {H H' : Hp} {a : Addr} {xs : List V} {v : V} {d : PyData}
theorem KT.tup (e : KT H H') (h : SqT K H a xs) : SqT K H' a xs := h.imp e.rd id
mutual
theorem KT.dt (e : KT H H') : ∀ {v : V} {d : PyData}, DT K H v d → DT K H' v d
  | _, _, .non => .non
  | _, _, .bl b => .bl b
  | _, _, .int i => .int i
  | _, _, .str x => .str x
  | _, _, .tup h q => .tup (e.tup h) (KT.dts e q)
theorem KT.dts (e : KT H H') : ∀ {vs : List V} {ds : List PyData}, DTs K H vs ds → DTs K H' vs ds
  | _, _, .nil => .nil
  | _, _, .cons h q => .cons (KT.dt e h) (KT.dts e q)
end
mutual
theorem DT.dp : ∀ {v : V} {d : PyData}, DT K H v d → Dp K H v d
  | _, _, .non => .non
  | _, _, .bl b => .bl b
  | _, _, .int i => .int i
  | _, _, .str x => .str x
  | _, _, .tup h q => .tup h (DTs.dps q)
theorem DTs.dps : ∀ {vs : List V} {ds : List PyData}, DTs K H vs ds → DpAll K H vs ds
  | _, _, .nil => .nil
  | _, _, .cons h q => .cons (DT.dp h) (DTs.dps q)
end
theorem _root_.L2.Same.dt (e : Same H H') (h : DT K H v d) : DT K H' v d := e.kt.dt h
theorem _root_.L2.Same.dts {vs : List V} {ds : List PyData} (e : Same H H') (h : DTs K H vs ds) : DTs K H' vs ds := e.kt.dts h
theorem dps_len : ∀ {vs : List V} {ds : List PyData}, DTs K H vs ds → vs.length = ds.length
  | _, _, .nil => rfl
  | _, _, .cons _ q => by rw [List.length_cons, List.length_cons, dps_len q]
theorem dps_get : ∀ {vs : List V} {ds : List PyData} {i : Nat} {v : V}, DTs K H vs ds → vs[i]? = some v → ∃ d, ds[i]? = some d ∧ DT K H v d
  | _, _, i, v, .nil, h => by simp at h
  | _, _, 0, v, .cons h q, e => by
    have e2 := Option.some.inj e
    exact ⟨_, rfl, e2 ▸ h⟩
  | _, _, i + 1, v, .cons h q, e => dps_get (i := i) q e
theorem dps_getD : ∀ {vs : List V} {ds : List PyData} {i : Nat} {d : PyData}, DTs K H vs ds → ds[i]? = some d → ∃ v, vs[i]? = some v ∧ DT K H v d
  | _, _, i, v, .nil, h => by simp at h
  | _, _, 0, v, .cons h q, e => by
    have e2 := Option.some.inj e
    exact ⟨_, rfl, e2 ▸ h⟩
  | _, _, i + 1, v, .cons h q, e => dps_getD (i := i) q e
theorem dps_append : ∀ {vs us : List V} {ds es : List PyData}, DTs K H vs ds → DTs K H us es → DTs K H (vs ++ us) (ds ++ es)
  | _, _, _, _, .nil, s => s
  | _, _, _, _, .cons h q, s => .cons h (dps_append q s)
theorem dps_take : ∀ {vs : List V} {ds : List PyData} (n : Nat), DTs K H vs ds → DTs K H (vs.take n) (ds.take n)
  | _, _, 0, _ => .nil
  | _, _, _ + 1, .nil => .nil
  | _, _, n + 1, .cons h q => .cons h (dps_take n q)
theorem dps_drop : ∀ {vs : List V} {ds : List PyData} (n : Nat), DTs K H vs ds → DTs K H (vs.drop n) (ds.drop n)
  | _, _, 0, r => r
  | _, _, _ + 1, .nil => .nil
  | _, _, n + 1, .cons h q => dps_drop n q
/-- the values and the data of a list by their places -/
theorem dts_of {vs : List V} : ∀ {ds : List PyData}, vs.length = ds.length → (∀ (i : Nat) v d, vs[i]? = some v → ds[i]? = some d → DT K H v d) → DTs K H vs ds := by
  induction vs with
  | nil => intro ds hl _; cases ds with
    | nil => exact .nil
    | cons d r => simp at hl
  | cons v r ih => intro ds hl h; cases ds with
    | nil => simp at hl
    | cons d q => exact .cons (h 0 v d rfl rfl) (ih (by simpa using hl) fun i v d h1 h2 => h (i + 1) v d h1 h2)
theorem dps_strs : ∀ ws : List Str, DTs K H (ws.map V.str) (ws.map pS)
  | [] => .nil
  | x :: r => .cons (.str x) (dps_strs r)
theorem strs_of : ∀ {ws : List Str} {vs : List V}, DTs K H vs (ws.map pS) → vs = ws.map V.str
  | [], _, .nil => rfl
  | x :: r, _, .cons h q => by
    cases h
    rw [List.map_cons, strs_of q]
/-! ### a term's tuple -/
theorem tm_at {t : Tm} (h : DT K H v t.d) : ∃ a vs, v = .ref a ∧ SqT K H a (.str t.hd :: vs) ∧ DTs K H vs t.tl := by
  rw [t.d_eq] at h
  cases h with
  | tup hs q => cases q with
    | cons h1 q => cases h1; exact ⟨_, _, rfl, hs, q⟩
theorem tm_mk {t : Tm} {vs : List V} (hs : SqT K H a (.str t.hd :: vs)) (q : DTs K H vs t.tl) : DT K H (.ref a) t.d := by
  rw [t.d_eq]
  exact .tup hs (.cons (.str _) q)
theorem tm_done (h : DT K H v Tm.done.d) : ∃ a, v = .ref a ∧ SqT K H a [.str "done"] := by
  obtain ⟨a, vs, rfl, hs, q⟩ := tm_at h
  cases q; exact ⟨a, rfl, hs⟩
theorem tm_breach {ws : List Str} (h : DT K H v (Tm.breach ws).d) : ∃ a b, v = .ref a ∧ SqT K H a [.str "breach", .ref b] ∧ SqT K H b (ws.map V.str) := by
  obtain ⟨a, vs, rfl, hs, q⟩ := tm_at h
  cases q with
  | cons h1 q => cases q; cases h1 with
    | tup h2 q2 => rw [strs_of q2] at h2; exact ⟨a, _, rfl, hs, h2⟩
theorem tm_wait {k : Int} (h : DT K H v (Tm.wait k).d) : ∃ a, v = .ref a ∧ SqT K H a [.str "wait", .int k] := by
  obtain ⟨a, vs, rfl, hs, q⟩ := tm_at h
  cases q with
  | cons h1 q => cases q; cases h1; exact ⟨a, rfl, hs⟩
theorem tm_duty {b : Bool} {w x : Str} {k : Int} (h : DT K H v (Tm.duty b w x k).d) : ∃ a, v = .ref a ∧ SqT K H a [.str (dutyS b), .str w, .str x, .int k, .non] := by
  obtain ⟨a, vs, rfl, hs, q⟩ := tm_at h
  cases q with
  | cons h1 q => cases q with
    | cons h2 q => cases q with
      | cons h3 q => cases q with
        | cons h4 q => cases q; cases h1; cases h2; cases h3; cases h4; exact ⟨a, rfl, hs⟩
theorem tm_dutyE {b : Bool} {w x : Str} {k : Int} {o : Tm} (h : DT K H v (Tm.dutyE b w x k o).d) : ∃ a u, v = .ref a ∧ SqT K H a [.str (dutyS b), .str w, .str x, .int k, u] ∧ DT K H u o.d := by
  obtain ⟨a, vs, rfl, hs, q⟩ := tm_at h
  cases q with
  | cons h1 q => cases q with
    | cons h2 q => cases q with
      | cons h3 q => cases q with
        | cons h4 q => cases q; cases h1; cases h2; cases h3; exact ⟨a, _, rfl, hs, h4⟩
theorem tm_may {w x : Str} {k : Int} (h : DT K H v (Tm.may w x k).d) : ∃ a, v = .ref a ∧ SqT K H a [.str "may", .str w, .str x, .int k] := by
  obtain ⟨a, vs, rfl, hs, q⟩ := tm_at h
  cases q with
  | cons h1 q => cases q with
    | cons h2 q => cases q with
      | cons h3 q => cases q; cases h1; cases h2; cases h3; exact ⟨a, rfl, hs⟩
theorem tm_whn {w x : Str} {k : Int} {p : Tm} (h : DT K H v (Tm.whn w x k p).d) : ∃ a u, v = .ref a ∧ SqT K H a [.str "when", .str w, .str x, .int k, u, .non] ∧ DT K H u p.d := by
  obtain ⟨a, vs, rfl, hs, q⟩ := tm_at h
  cases q with
  | cons h1 q => cases q with
    | cons h2 q => cases q with
      | cons h3 q => cases q with
        | cons h4 q => cases q with
          | cons h5 q => cases q; cases h1; cases h2; cases h3; cases h5; exact ⟨a, _, rfl, hs, h4⟩
theorem tm_whnE {w x : Str} {k : Int} {p o : Tm} (h : DT K H v (Tm.whnE w x k p o).d) : ∃ a u y, v = .ref a ∧ SqT K H a [.str "when", .str w, .str x, .int k, u, y] ∧ DT K H u p.d ∧ DT K H y o.d := by
  obtain ⟨a, vs, rfl, hs, q⟩ := tm_at h
  cases q with
  | cons h1 q => cases q with
    | cons h2 q => cases q with
      | cons h3 q => cases q with
        | cons h4 q => cases q with
          | cons h5 q => cases q; cases h1; cases h2; cases h3; exact ⟨a, _, _, rfl, hs, h4, h5⟩
theorem tm_grp {g : Gr} {ks : List Tm} (h : DT K H v (Tm.grp g ks).d) : ∃ a b us, v = .ref a ∧ SqT K H a [.str g.str, .ref b] ∧ SqT K H b us ∧ DTs K H us (ks.map Tm.d) := by
  obtain ⟨a, vs, rfl, hs, q⟩ := tm_at h
  cases q with
  | cons h1 q => cases q; cases h1 with
    | tup h2 q2 => rw [dAll_map] at q2; exact ⟨a, _, _, rfl, hs, h2, q2⟩
theorem tm_til {w x : Str} {p : Tm} (h : DT K H v (Tm.til p w x).d) : ∃ a u, v = .ref a ∧ SqT K H a [.str "until", u, .str w, .str x] ∧ DT K H u p.d := by
  obtain ⟨a, vs, rfl, hs, q⟩ := tm_at h
  cases q with
  | cons h1 q => cases q with
    | cons h2 q => cases q with
      | cons h3 q => cases q; cases h2; cases h3; exact ⟨a, _, rfl, hs, h1⟩
theorem tm_rep {k : Int} {p : Tm} (h : DT K H v (Tm.rep k p).d) : ∃ a u, v = .ref a ∧ SqT K H a [.str "repeat", .int k, u] ∧ DT K H u p.d := by
  obtain ⟨a, vs, rfl, hs, q⟩ := tm_at h
  cases q with
  | cons h1 q => cases q with
    | cons h2 q => cases q; cases h1; exact ⟨a, _, rfl, hs, h2⟩
theorem tm_ever {p : Tm} (h : DT K H v (Tm.ever p).d) : ∃ a u, v = .ref a ∧ SqT K H a [.str "forever", u] ∧ DT K H u p.d := by
  obtain ⟨a, vs, rfl, hs, q⟩ := tm_at h
  cases q with
  | cons h1 q => cases q; exact ⟨a, _, rfl, hs, h1⟩
end
/-! ### tests on written words -/
theorem yes {c A B : Prop} [Decidable c] (h : c) (a : A) : if c then A else B := by rw [if_pos h]; exact a
theorem no {c A B : Prop} [Decidable c] (h : ¬ c) (b : B) : if c then A else B := by rw [if_neg h]; exact b
end DD
namespace DD
open PySem PySem.Spec
open PyProof.Rows L2
/-! ### comprehensions: what is made, item by item (none: left out) -/
theorem fm_snoc (os : List (Option V)) (o : Option V) : (os ++ [o]).filterMap id = os.filterMap id ++ o.toList := by
  rw [List.filterMap_append]
  cases o <;> rfl
theorem fm_len (os : List (Option V)) : (os.filterMap id).length ≤ os.length := List.length_filterMap_le id os
theorem snoc_at {α : Type} {l : List α} {a : α} {P : Nat → α → Prop} (h : ∀ i o, l[i]? = some o → P i o) (ha : P l.length a) : ∀ i o, (l ++ [a])[i]? = some o → P i o := fun i o e => by
  by_cases hi : i < l.length
  · rw [List.getElem?_append_left hi] at e
    exact h i o e
  · rw [List.getElem?_append_right (by omega)] at e
    have : i - l.length = 0 := by
      by_cases q : i - l.length = 0
      · exact q
      · rw [List.getElem?_eq_none (by simp; omega)] at e
        cases e
    rw [this] at e
    have e2 := Option.some.inj e
    have e3 : i = l.length := by omega
    rw [e3, ← e2]
    exact ha
theorem lc_g {J : It} {n : Nat} {G : Hp → Prop} {Y : Nat → Hp → V → Hp → Prop} (w : Walk J n G Y) {g : TG} {tt : TT} {te : TE} {vs : List Nat} {σ : L2.St} {H1 : Hp} {D : Addr} {Qd : Hp → Prop} (R : Nat → Option V → Hp → Prop)
    (hR : ∀ i o H H', KT H H' → R i o H → R i o H') (hD : H1 D = none) (hn : n ≤ 100000) (hG : ∀ H, Same H1 H → G H)
    (hs : ∀ i x H H' (Kt : V → Hp → Prop) (Kf : Hp → Prop), i < n → Same H1 H → Y i H x H' → (∀ y H4, Same H H4 → R i (some y) H4 → Kt y H4) → (∀ H3, Same H H3 → R i none H3 → Kf H3) →
      g x (wipe σ vs) H' fun σ2 H2 => wipe σ2 vs = wipe σ vs ∧ tt σ2 H2 fun b H3 => if b = true then te σ2 H3 Kt else Kf H3)
    (hd : ∀ (os : List (Option V)) H, Same H1 H → os.length = n → (∀ i o, os[i]? = some o → R i o H) → H D = some (.lst (os.filterMap id)) → Qd H) :
    ∃ W : Nat → Nat → Hp → Prop, (∃ m, W 0 m (upd H1 D (.lst []))) ∧ ∀ i m H, W i m H → (J.stop i H ∧ Qd H) ∨ (J.go i H ∧ ∃ Nx : Hp → Prop, (∀ H', Nx H' → ∃ m', m' < m ∧ W (i + 1) m' H') ∧ ∀ x H', J.yld i H x H' → g x (wipe σ vs) H' fun σ2 H2 => wipe σ2 vs = wipe σ vs ∧ tt σ2 H2 fun b H3 => if b = true then te σ2 H3 fun y H4 => ∃ acc, H4 D = some (.lst acc) ∧ acc.length < sizeLine ∧ Nx (upd H4 D (.lst (acc ++ [y]))) else Nx H3) := by
  refine lc_it w (fun i H => ∃ os : List (Option V), Same H1 H ∧ os.length = i ∧ (∀ j o, os[j]? = some o → R j o H) ∧ H D = some (.lst (os.filterMap id))) ?_ ?_ ?_ ?_
  · exact ⟨[], Same.new hD, rfl, fun j o e => by simp at e, upd_same⟩
  · rintro i H hi ⟨os, s, _⟩
    exact hG H s
  · rintro i x H H' hi ⟨os, s, hl, hr, hl2⟩ hy
    refine hs i x H H' _ _ hi s hy (fun y H4 s4 r4 => ?_) fun H3 s3 r3 => ?_
    · have k4 : KT H4 (upd H4 D (.lst (os.filterMap id ++ [y]))) := KT.updL (s4 _ _ hl2)
      refine ⟨os.filterMap id, s4 _ _ hl2, smallLt (Nat.le_trans (fm_len os) (by omega)), os ++ [some y], fun b u e => ?_, by simp [hl], ?_, by rw [upd_same, fm_snoc]; rfl⟩
      · have q : b ≠ D := fun z => by rw [z, hD] at e; cases e
        rw [upd_ne q]
        exact s4 _ _ (s _ _ e)
      · exact snoc_at (P := fun j o => R j o (upd H4 D (.lst (os.filterMap id ++ [y])))) (fun j o e => hR _ _ _ _ k4 (hR _ _ _ _ s4.kt (hr j o e))) (by rw [hl]; exact hR _ _ _ _ k4 r4)
    · refine ⟨os ++ [none], fun b u e => s3 _ _ (s _ _ e), by simp [hl], ?_, by rw [fm_snoc, s3 _ _ hl2]; simp⟩
      exact snoc_at (P := fun j o => R j o H3) (fun j o e => hR _ _ _ _ s3.kt (hr j o e)) (by rw [hl]; exact r3)
  · rintro H ⟨os, s, hl, hr, hl2⟩
    exact hd os H s hl hr hl2
/-! ### lists of values as lists of what they are -/
theorem pickL {α : Type} (f : α → V) : ∀ (ys : List V) (P : Nat → α → Prop), (∀ i y, ys[i]? = some y → ∃ a, y = f a ∧ P i a) → ∃ as : List α, ys = as.map f ∧ ∀ i a, as[i]? = some a → P i a
  | [], P, _ => ⟨[], rfl, fun i a e => by simp at e⟩
  | y :: r, P, h => by
    obtain ⟨a, e1, p⟩ := h 0 y rfl
    obtain ⟨as, e2, q⟩ := pickL f r (fun i a => P (i + 1) a) fun i y e => h (i + 1) y e
    refine ⟨a :: as, by rw [e1, e2]; rfl, fun i b e => ?_⟩
    cases i with
    | zero => have := Option.some.inj e; rw [← this]; exact p
    | succ i => exact q i b e
theorem pickD {K : PySem.W.Frag} {H : Hp} : ∀ (ys : List V) (P : Nat → PyData → Prop), (∀ i y, ys[i]? = some y → ∃ d, DT K H y d ∧ P i d) → ∃ ds : List PyData, DTs K H ys ds ∧ ∀ i d, ds[i]? = some d → P i d
  | [], P, _ => ⟨[], .nil, fun i a e => by simp at e⟩
  | y :: r, P, h => by
    obtain ⟨d, e1, p⟩ := h 0 y rfl
    obtain ⟨ds, e2, q⟩ := pickD r (fun i d => P (i + 1) d) fun i y e => h (i + 1) y e
    refine ⟨d :: ds, .cons e1 e2, fun i b e => ?_⟩
    cases i with
    | zero => have := Option.some.inj e; rw [← this]; exact p
    | succ i => exact q i b e
theorem map_of {α β : Type} {f : α → β} : ∀ {bs : List β} {xs : List α}, bs.length = xs.length → (∀ (i : Nat) b, bs[i]? = some b → ∃ c, xs[i]? = some c ∧ b = f c) → bs = xs.map f
  | [], [], _, _ => rfl
  | [], _ :: _, h, _ => (by simp at h)
  | _ :: _, [], h, _ => (by simp at h)
  | b :: r, x :: q, h, k => by
    obtain ⟨c, e1, e2⟩ := k 0 b rfl
    have e3 : x = c := Option.some.inj e1
    rw [List.map_cons, ← map_of (bs := r) (xs := q) (by simpa using h) fun i b e => k (i + 1) b e, e2, e3]
/-- without a test: every item is there -/
theorem all_some : ∀ {os : List (Option V)}, (∀ (i : Nat) (o : Option V), os[i]? = some o → o ≠ none) → ∃ ys : List V, os = ys.map some
  | [], _ => ⟨[], rfl⟩
  | none :: r, h => absurd rfl (h 0 none rfl)
  | some y :: r, h => by
    obtain ⟨ys, e⟩ := all_some (os := r) fun i o q => h (i + 1) o q
    exact ⟨y :: ys, by rw [e]; rfl⟩
theorem fm_some (ys : List V) : (ys.map some).filterMap id = ys := by
  induction ys with
  | nil => rfl
  | cons y r ih => rw [List.map_cons, List.filterMap_cons]; simp [ih]
/-- a comprehension without a test -/
theorem lc_n {J : It} {n : Nat} {G : Hp → Prop} {Y : Nat → Hp → V → Hp → Prop} (w : Walk J n G Y) {g : TG} {te : TE} {vs : List Nat} {σ : L2.St} {H1 : Hp} {D : Addr} {Qd : Hp → Prop} (R : Nat → V → Hp → Prop)
    (hR : ∀ i o H H', KT H H' → R i o H → R i o H') (hD : H1 D = none) (hn : n ≤ 100000) (hG : ∀ H, Same H1 H → G H)
    (hs : ∀ i x H H' (Kt : V → Hp → Prop), i < n → Same H1 H → Y i H x H' → (∀ y H4, Same H H4 → R i y H4 → Kt y H4) → g x (wipe σ vs) H' fun σ2 H2 => wipe σ2 vs = wipe σ vs ∧ te σ2 H2 Kt)
    (hd : ∀ (ys : List V) H, Same H1 H → ys.length = n → (∀ i y, ys[i]? = some y → R i y H) → H D = some (.lst ys) → Qd H) :
    ∃ W : Nat → Nat → Hp → Prop, (∃ m, W 0 m (upd H1 D (.lst []))) ∧ ∀ i m H, W i m H → (J.stop i H ∧ Qd H) ∨ (J.go i H ∧ ∃ Nx : Hp → Prop, (∀ H', Nx H' → ∃ m', m' < m ∧ W (i + 1) m' H') ∧ ∀ x H', J.yld i H x H' → g x (wipe σ vs) H' fun σ2 H2 => wipe σ2 vs = wipe σ vs ∧ tYes σ2 H2 fun b H3 => if b = true then te σ2 H3 fun y H4 => ∃ acc, H4 D = some (.lst acc) ∧ acc.length < sizeLine ∧ Nx (upd H4 D (.lst (acc ++ [y]))) else Nx H3) := by
  refine lc_g w (fun i o H => ∃ y, o = some y ∧ R i y H) (fun i o H H' k ⟨y, e, r⟩ => ⟨y, e, hR _ _ _ _ k r⟩) hD hn hG (fun i x H H' Kt Kf hi s hy k1 k2 => ?_) fun os H s hl hr hq => ?_
  · exact hs i x H H' Kt hi s hy fun y H4 s4 r4 => k1 y H4 s4 ⟨y, rfl, r4⟩
  · obtain ⟨ys, rfl⟩ := all_some fun i o e z => by
      obtain ⟨y, e2, _⟩ := hr i o e
      rw [z] at e2
      cases e2
    rw [fm_some] at hq
    refine hd ys H s (by simpa using hl) (fun i y e => ?_) hq
    obtain ⟨y', e2, r⟩ := hr i (some y) (by rw [List.getElem?_map, e]; rfl)
    rw [Option.some.inj e2]
    exact r
end DD
namespace DD
open PySem PySem.Spec
open PyProof.Rows L2
section
variable {base : Heap} {mg : Str → Option Value} {K : PySem.W.Frag} {w : World} {P : Program}
theorem reserved_at (T : Txt w K mg) (H : Hp) : SqT K H (o_RESERVED K) (reserved.map V.str) := He.tupB_ok (x := "RESERVED") (vs := [.str (Str.ofString "act"), .str (Str.ofString "and"), .str (Str.ofString "anyone"), .str (Str.ofString "breach"), .str (Str.ofString "day"), .str (Str.ofString "does"), .str (Str.ofString "done"), .str (Str.ofString "else"), .str (Str.ofString "for"), .str (Str.ofString "forever"), .str (Str.ofString "hands"), .str (Str.ofString "may"), .str (Str.ofString "must"), .str (Str.ofString "not"), .str (Str.ofString "or"), .str (Str.ofString "parties"), .str (Str.ofString "repeat"), .str (Str.ofString "role"), .str (Str.ofString "so"), .str (Str.ofString "term"), .str (Str.ofString "then"), .str (Str.ofString "to"), .str (Str.ofString "until"), .str (Str.ofString "wait"), .str (Str.ofString "when"), .str (Str.ofString "within")]) T.x_tup_RESERVED H
def sp_is_word : Sp := fun vs H Q _ => ∃ x : Str, vs = [.str x] ∧ x.length ≤ 100000 ∧ ∀ H', Same H H' → Q (.bl (wordB x)) H'
theorem ok_is_word (T : Txt w K mg) : FnOk P w K mg base CX0 1 (a_is_word K) (fdOf K (a_is_word K)) ps_is_word sp_is_word := by
  refine ok0 T.f_is_word sc_is_word (fun vs H Q E h => ?_) (fun cdv A outer s H vs Q E hr h => ?_)
  · obtain ⟨x, rfl, _⟩ := h; rfl
  · obtain ⟨x, rfl, hx, k⟩ := h
    refine ⟨_, (pss_cons (ps_if (PW.pt (pw_or (pt_not (pt_val (pe_callB (k_isi K) (by rfl) T.n_isinstance (by decide +kernel) (pa_cons (pv 0) (pa_cons (pe_bltn (v := .ty "str") (by rfl) T.n_str (by decide +kernel) rfl) pa_nil))))) (pw_or (pt_not (pt_chain op_le op_le pe_int (pe_callB (k_len K) (by rfl) T.n_len (by decide +kernel) (pa_cons (pv 0) pa_nil)) (pe_cI rfl T.i_LONGEST))) (pw_or1 (pt_cmpR (k_in K) (pv 0) (pe_cR rfl T.g_RESERVED) (by rfl)))))) (pss_one (ps_ret pe_bl)) pss_nil) (pss_one (ps_ret (pe_callB (k_all K rfl) (by rfl) T.n_all (by decide +kernel) (pa_cons (pe_lc (own := [("sign", 1)]) (by rfl) sc_is_word.nd (pi_str (pv 0)) (blkOk_by (own := [("sign", 1)]) (N := N_is_word) (sc := defScope s_is_word) (by decide +kernel)) (fun _ _ _ _ _ => (pg_name (i := 1) sc_is_word.nd rfl (Or.inl rfl) (Or.inr rfl))) (fun _ _ _ _ _ => pts_nil) (fun _ _ _ _ _ => (pe_cmpR op_in_sign (pv 1) (pe_cS rfl T.z_LETTERS) (by rfl)))) pa_nil))))), ?_⟩
    refine ⟨_, rfl, _, _, _, _, _, rfl, .ty _, .base (.str x), kit_ty (b := "str") (r := true) (by decide +kernel), _, rfl, no (by decide) ?_⟩
    have f1 : ¬ (1 ≤ x.length) → wordB x = false := fun z => by unfold wordB; rw [decide_eq_false z]; rfl
    have f2 : ¬ (x.length ≤ 12) → wordB x = false := fun z => by unfold wordB; rw [decide_eq_false z, Bool.false_and, Bool.and_false]
    refine ⟨_, rfl, .str x, _, rfl, ⟨small hx, rfl⟩, _, _, rfl, rfl, _, rfl, ite2 (fun c1 => ?_) (fun c1 => ?_)⟩
    · refine ⟨_, _, rfl, rfl, _, rfl, ite2 (fun c2 => yes rfl (f2 (fun z => ?_) ▸ k H (Same.refl H))) (fun c2 => ?_)⟩
      · rw [decide_eq_true (show (x.length : Int) ≤ 12 by omega)] at c2
        cases c2
      · have h1 : 1 ≤ x.length := by have := of_decide_eq_true c1; omega
        have h2 : x.length ≤ 12 := by
          have q : decide ((x.length : Int) ≤ 12) = true := by
            cases e : decide ((x.length : Int) ≤ 12) with
            | true => rfl
            | false => rw [e] at c2; exact absurd rfl c2
          have := of_decide_eq_true q; omega
        refine ⟨_, rfl, _, _, rfl, .inr (reserved_at T H), rfl, by decide +kernel, _, rfl, ite2 (fun c3 => ?_) (fun c3 => ?_)⟩
        · have c3' : inV (.str x) (reserved.map V.str) = true := c3
          have e : wordB x = false := by
            unfold wordB; rw [c3', Bool.not_true, Bool.false_and, Bool.and_false, Bool.and_false]
          exact e ▸ k H (Same.refl H)
        · have c3' : inV (.str x) (reserved.map V.str) = false := Bool.not_eq_true _ ▸ c3
          refine ⟨_, rfl, x, rfl, fun D hD => ?_⟩
          refine lc_n (walk_str (z := x)) (fun i v _ => ∃ c, x.cps[i]? = some c ∧ v = .bl (decide (c ∈ letters.cps.toList))) (fun i o H H' _ h => h) hD ?_ (fun H _ => trivial) ?_ ?_
          · show x.length ≤ 100000; exact hx
          · rintro i v H1 H2 Kt hi s1 ⟨rfl, c, hc, rfl⟩ kk
            exact ⟨rfl, _, rfl, c, letters, rfl, rfl, kk _ _ (Same.refl _) ⟨c, hc, rfl⟩⟩
          · intro ys H1 s1 hl hy hD1
            obtain ⟨bs, rfl, hb⟩ := pickL V.bl ys (fun i b => ∃ c, x.cps[i]? = some c ∧ b = decide (c ∈ letters.cps.toList)) fun i y e => by
              obtain ⟨c, e1, e2⟩ := hy i y e
              exact ⟨_, e2, c, e1, rfl⟩
            refine ⟨D, bs, rfl, SqL.of hD1, ?_⟩
            have e : wordB x = bs.all id := by
              unfold wordB
              rw [c3', decide_eq_true h1, decide_eq_true h2, Bool.not_false, Bool.true_and, Bool.true_and, Bool.true_and]
              have e2 : bs = x.cps.toList.map fun c => decide (c ∈ letters.cps.toList) := map_of (by simpa using hl) fun i b q => by
                obtain ⟨c, e1, e2⟩ := hb i b q
                exact ⟨c, by rw [Array.getElem?_toList]; exact e1, e2⟩
              rw [e2, List.all_map]; rfl
            exact e ▸ k H1 s1
    · refine ⟨_, rfl, yes rfl ?_⟩
      exact f1 (fun z => c1 (decide_eq_true (by omega))) ▸ k H (Same.refl H)
/-! ### is_who, is_whole, is_anyone -/
def whoB (x : Str) : Bool := wordB x || decide (x = anyone)
def sp_is_who : Sp := fun vs H Q _ => ∃ x : Str, vs = [.str x] ∧ x.length ≤ 100000 ∧ ∀ H', Same H H' → Q (.bl (whoB x)) H'
theorem dec_s {x y : Str} : decide (V.str x = V.str y) = decide (x = y) := by
  by_cases h : x = y
  · rw [h]; simp
  · rw [decide_eq_false h, decide_eq_false fun q => h (V.str.inj q)]
theorem ok_is_who (T : Txt w K mg) : FnOk P w K mg base CX0 2 (a_is_who K) (fdOf K (a_is_who K)) ps_is_who sp_is_who := by
  have G_is_word := ok_is_word (P := P) (base := base) T
  refine ok0 T.f_is_who sc_is_who (fun vs H Q E h => ?_) (fun cdv A outer s H vs Q E hr h => ?_)
  · obtain ⟨x, rfl, _⟩ := h; rfl
  · obtain ⟨x, rfl, hx, k⟩ := h
    have hr_is_word := hr
    have hU64 := hr.units
    refine ⟨_, (pss_one (ps_ret (pe_or (pe_call G_is_word hr_is_word rfl T.g_is_word T.k_is_word T.b_is_word .nil pass0 (pa_cons (pv 0) pa_nil)) (pe_one (pe_and (pe_callB (k_isi K) (by rfl) T.n_isinstance (by decide +kernel) (pa_cons (pv 0) (pa_cons (pe_bltn (v := .ty "str") (by rfl) T.n_str (by decide +kernel) rfl) pa_nil))) (pe_one (pe_cmpR (k_eq K hU64) (pv 0) (pe_cS rfl T.z_ANYONE) (nomark _)))))))), ?_⟩
    refine ⟨_, rfl, x, rfl, hx, fun H1 s1 => ⟨_, rfl, ite2 (fun c => ?_) (fun c => ?_)⟩⟩
    · have e : whoB x = true := by unfold whoB; rw [c]; rfl
      exact e ▸ k H1 s1
    · have c' : wordB x = false := Bool.not_eq_true _ ▸ c
      refine ⟨_, rfl, _, _, _, _, _, rfl, .ty _, .base (.str x), kit_ty (b := "str") (r := true) (by decide +kernel), _, rfl, yes rfl ?_⟩
      refine ⟨_, rfl, .inl ⟨rfl, ?_⟩⟩
      have e : whoB x = decide (V.str x = V.str (Str.ofString "anyone")) := by rw [dec_s]; unfold whoB; rw [c']; rfl
      exact e ▸ k H1 s1
def sp_is_whole : Sp := fun vs H Q _ => ∃ i a b : Int, vs = [.int i, .int a, .int b] ∧ ∀ H', Same H H' → Q (.bl (decide (a ≤ i) && decide (i ≤ b))) H'
theorem ok_is_whole (T : Txt w K mg) : FnOk P w K mg base CX0 1 (a_is_whole K) (fdOf K (a_is_whole K)) ps_is_whole sp_is_whole := by
  refine ok0 T.f_is_whole sc_is_whole (fun vs H Q E h => ?_) (fun cdv A outer s H vs Q E hr h => ?_)
  · obtain ⟨i, a, b, rfl, _⟩ := h; rfl
  · obtain ⟨i, a, b, rfl, k⟩ := h
    refine ⟨_, (pss_one (ps_ret (pe_and (pe_callB (k_isi K) (by rfl) T.n_isinstance (by decide +kernel) (pa_cons (pv 0) (pa_cons (pe_bltn (v := .ty "int") (by rfl) T.n_int (by decide +kernel) rfl) pa_nil))) (pe_and (pe_not (pe_callB (k_isi K) (by rfl) T.n_isinstance (by decide +kernel) (pa_cons (pv 0) (pa_cons (pe_bltn (v := .ty "bool") (by rfl) T.n_bool (by decide +kernel) rfl) pa_nil)))) (pe_one (pe_chain op_le op_le (pv 1) (pv 0) (pv 2))))))), ?_⟩
    refine ⟨_, rfl, _, _, _, _, _, rfl, .ty _, .base (.int i), kit_ty (b := "int") (r := true) (by decide +kernel), _, rfl, yes rfl ?_⟩
    refine ⟨_, rfl, _, _, _, _, _, rfl, .ty _, .base (.int i), kit_ty (b := "bool") (r := false) (by decide +kernel), _, rfl, _, rfl, yes rfl ?_⟩
    refine ⟨_, rfl, _, rfl, _, _, rfl, rfl, _, rfl, ite2 (fun c => ?_) (fun c => ?_)⟩
    · refine ⟨_, rfl, _, _, rfl, rfl, ?_⟩
      have q := k H (Same.refl H)
      rw [c, Bool.true_and] at q
      exact q
    · have c' : decide (a ≤ i) = false := Bool.not_eq_true _ ▸ c
      have q := k H (Same.refl H)
      rw [c', Bool.false_and] at q
      exact q
def sp_is_anyone : Sp := fun vs H Q _ => ∃ x : Str, vs = [.str x] ∧ ∀ H', Same H H' → Q (.bl (decide (x = anyone))) H'
theorem ok_is_anyone (T : Txt w K mg) : FnOk P w K mg base CX0 1 (a_is_anyone K) (fdOf K (a_is_anyone K)) ps_is_anyone sp_is_anyone := by
  refine ok0 T.f_is_anyone sc_is_anyone (fun vs H Q E h => ?_) (fun cdv A outer s H vs Q E hr h => ?_)
  · obtain ⟨x, rfl, _⟩ := h; rfl
  · obtain ⟨x, rfl, k⟩ := h
    have hU64 := hr.units
    refine ⟨_, (pss_one (ps_ret (pe_cmpR (k_eq K hU64) (pv 0) (pe_cS rfl T.z_ANYONE) (nomark _)))), ?_⟩
    refine ⟨_, rfl, .inl ⟨rfl, ?_⟩⟩
    have e : decide (x = anyone) = decide (V.str x = V.str (Str.ofString "anyone")) := by rw [dec_s]; rfl
    exact e ▸ k H (Same.refl H)
/-! ### are_unlike, are_whos -/
theorem inV_str {x : Str} {xs : List Str} : inV (.str x) (xs.map V.str) = decide (x ∈ xs) := by
  unfold inV
  induction xs with
  | nil => simp
  | cons y r ih =>
    rw [List.map_cons, List.any_cons, ih]
    show (eqV (.str y) (.str x) || _) = _
    have e : eqV (.str y) (.str x) = decide (x = y) := by
      show (y == x) = _
      by_cases q : x = y
      · rw [q]; simp
      · rw [decide_eq_false q]; exact beq_eq_false_iff_ne.mpr fun z => q z.symm
    rw [e]
    simp [List.mem_cons]
theorem flat_strs (xs : List Str) : (xs.map V.str).all flatV = true := List.all_eq_true.mpr fun v hv => by
  obtain ⟨x, _, rfl⟩ := List.mem_map.mp hv
  rfl
theorem str_at {xs : List Str} {i : Nat} {y : V} (h : (xs.map V.str)[i]? = some y) : ∃ x, xs[i]? = some x ∧ y = .str x := by
  rw [List.getElem?_map] at h
  cases q : xs[i]? with
  | none => rw [q] at h; cases h
  | some x => rw [q] at h; exact ⟨x, rfl, (Option.some.inj h).symm⟩
theorem cut_to (xs : List V) (i : Nat) (hi : i ≤ xs.length) : cutV xs none (some (i : Int)) = xs.take i := by
  unfold cutV
  rw [HT.sIx_none, HT.sIx_nat, List.drop_zero, Nat.min_eq_left hi, Nat.sub_zero]
theorem cut_from (xs : List V) (i : Nat) (hi : i ≤ xs.length) : cutV xs (some (i : Int)) none = xs.drop i := by
  unfold cutV
  rw [HT.sIx_none, HT.sIx_nat, Nat.min_eq_left hi, List.take_of_length_le (by rw [List.length_drop]; omega)]
theorem not_before {xs : List Str} (hn : xs.Nodup) {i : Nat} {x : Str} (h : xs[i]? = some x) : x ∉ xs.take i := fun hm => by
  (obtain ⟨j, hj⟩ := List.getElem?_of_mem hm)
  rw [List.getElem?_take] at hj
  split at hj
  · rename_i q
    have := nd_ix hn hj h
    omega
  · cases hj
def sp_are_unlike (K : PySem.W.Frag) : Sp := fun vs H Q _ => ∃ (l : Addr) (xs : List Str), vs = [.ref l] ∧ SqL K H l (xs.map V.str) ∧ xs.Nodup ∧ xs.length ≤ 1000 ∧ ∀ H', Same H H' → Q (.bl true) H'
theorem ok_are_unlike (T : Txt w K mg) : FnOk P w K mg base CX0 1 (a_are_unlike K) (fdOf K (a_are_unlike K)) ps_are_unlike (sp_are_unlike K) := by
  refine ok0 T.f_are_unlike sc_are_unlike (fun vs H Q E h => ?_) (fun cdv A outer s H vs Q E hr h => ?_)
  · obtain ⟨l, xs, rfl, _⟩ := h; rfl
  · obtain ⟨l, xs, rfl, hS, hn, hl, k⟩ := h
    refine ⟨_, (pss_one (ps_ret (pe_callB (k_all K rfl) (by rfl) T.n_all (by decide +kernel) (pa_cons (pe_lc (own := [("at", 1), ("thing", 2)]) (by rfl) sc_are_unlike.nd (pi_enum (by rfl) T.n_enumerate (pa_cons (pv 0) pa_nil)) (blkOk_by (own := [("at", 1), ("thing", 2)]) (N := N_are_unlike) (sc := defScope s_are_unlike) (by decide +kernel)) (fun _ _ _ _ _ => (k_tup K (n := 2) rfl (pgs_cons (pg_name (i := 1) sc_are_unlike.nd rfl (Or.inl rfl) (Or.inr rfl)) (pgs_cons (pg_name (i := 2) sc_are_unlike.nd rfl (Or.inl rfl) (Or.inr rfl)) pgs_nil)))) (fun _ _ _ _ _ => pts_nil) (fun _ _ _ _ _ => (pe_cmpR (k_notIn K) (pv 2) (pe_slice (k_sl K) (pv 0) po_none (po_some (pv 1))) (by rfl)))) pa_nil)))), ?_⟩
    refine ⟨_, rfl, l, _, rfl, hS, fun D hD => ?_⟩
    refine lc_n (walk_enum (xs := xs.map V.str)) (fun i v _ => v = .bl true) (fun i o H H' _ h => h) hD (by rw [List.length_map]; omega) (fun H1 s1 => s1.lst hS) ?_ ?_
    · rintro i v H1 H2 Kt hi s1 ⟨t, x, y, rfl, ht, rfl, e1, e2⟩ kk
      rw [List.length_map] at hi
      have e1' := Option.some.inj e1
      subst e1'
      refine ⟨t, _, rfl, SqT.of upd_same, rfl, _, _, rfl, _, _, rfl, rfl, rfl, ?_⟩
      have s2 : Same H1 (upd H1 t (.tup [.int (i : Nat), y])) := Same.new ht
      obtain ⟨x, hx, rfl⟩ := str_at e2
      refine ⟨_, rfl, _, rfl, _, rfl, _, rfl, .inl ⟨l, _, rfl, s2.lst (s1.lst hS), fun p hp => ?_⟩⟩
      rw [cut_to _ _ (by rw [List.length_map]; omega), ← List.map_take]
      refine ⟨p, _, rfl, .inl (SqL.of upd_same), rfl, flat_strs _, ?_⟩
      refine kk _ _ (s2.trans (Same.new hp)) ?_
      show V.bl (!inV (.str x) ((xs.take i).map V.str)) = _
      rw [inV_str, decide_eq_false (not_before hn hx)]; rfl
    · intro ys H1 s1 hl2 hy hD1
      obtain ⟨bs, rfl, hb⟩ := pickL V.bl ys (fun i b => b = true) fun i y e => ⟨true, hy i y e, rfl⟩
      refine ⟨D, bs, rfl, SqL.of hD1, ?_⟩
      have e : bs.all id = true := List.all_eq_true.mpr fun b hb2 => by
        obtain ⟨i, hi⟩ := List.getElem?_of_mem hb2
        exact hb i b hi
      rw [e]
      exact k H1 s1
end
end DD
namespace DD
open PySem PySem.Spec
open PyProof.Rows L2
/-! ### the told data can be compared -/
theorem lay_all {ds : List PyData} (h : ∀ d ∈ ds, d.canLay0 = true) : PyData.canLayAll0 ds = true := by
  induction ds with
  | nil => rfl
  | cons d r ih => rw [PyData.canLayAll0, h d (by simp), ih fun x hx => h x (by simp [hx])]; rfl
theorem depth_all {ds : List PyData} {n : Nat} (h : ∀ d ∈ ds, d.depth ≤ n) : PyData.depthAll ds ≤ n := by
  induction ds with
  | nil => exact Nat.zero_le _
  | cons d r ih =>
    rw [PyData.depthAll]
    exact Nat.max_le.mpr ⟨h d (by simp), ih fun x hx => h x (by simp [hx])⟩
def Fit (n : Nat) (d : PyData) : Prop := d.canLay0 = true ∧ d.depth ≤ n
theorem Fit.tup {n : Nat} {ds : List PyData} (h : ∀ d ∈ ds, Fit n d) : Fit (n + 1) (.tuple ds) :=
  ⟨by rw [PyData.canLay0]; exact lay_all fun d hd => (h d hd).1, by rw [PyData.depth]; exact Nat.succ_le_succ (depth_all fun d hd => (h d hd).2)⟩
theorem Fit.lst {n : Nat} {ds : List PyData} (h : ∀ d ∈ ds, Fit n d) : Fit (n + 1) (.list ds) :=
  ⟨by rw [PyData.canLay0]; exact lay_all fun d hd => (h d hd).1, by rw [PyData.depth]; exact Nat.succ_le_succ (depth_all fun d hd => (h d hd).2)⟩
theorem Fit.str {n : Nat} {x : Str} (h : PyData.strOk x = true) : Fit n (.str x) := ⟨by rw [PyData.canLay0]; exact h, by rw [PyData.depth]; exact Nat.zero_le _⟩
theorem Fit.int {n : Nat} {i : Int} : Fit n (.int i) := ⟨by rw [PyData.canLay0], by rw [PyData.depth]; exact Nat.zero_le _⟩
theorem Fit.non {n : Nat} : Fit n .none := ⟨by rw [PyData.canLay0], by rw [PyData.depth]; exact Nat.zero_le _⟩
theorem Fit.mono {n m : Nat} {d : PyData} (h : Fit n d) (l : n ≤ m) : Fit m d := ⟨h.1, Nat.le_trans h.2 l⟩
theorem Fit.shaped {n : Nat} {d : PyData} (h : Fit n d) (l : n ≤ 64) : SeqAt.shaped d = true := by
  unfold SeqAt.shaped
  rw [h.1, decide_eq_true (Nat.le_trans h.2 l)]; rfl
theorem Fit.eqv {n : Nat} {d : PyData} (h : Fit n d) : PyData.eqv d d = true := SeqAt.eqv_refl d h.1
theorem all1 {α : Type} {P : α → Prop} {a : α} (h : P a) : ∀ x ∈ [a], P x := fun x hx => by rw [List.mem_singleton.mp hx]; exact h
theorem allC {α : Type} {P : α → Prop} {a : α} {l : List α} (h : P a) (k : ∀ x ∈ l, P x) : ∀ x ∈ a :: l, P x := fun x hx => (List.mem_cons.mp hx).elim (fun e => by rw [e]; exact h) (k x)
theorem allN {α : Type} {P : α → Prop} : ∀ x ∈ ([] : List α), P x := fun x hx => by cases hx
theorem okStrs {ws : List Str} {n : Nat} (h : ∀ x ∈ ws, okS x) : ∀ d ∈ ws.map pS, Fit n d := fun d hd => by
  obtain ⟨x, hx, rfl⟩ := List.mem_map.mp hd
  exact .str (h x hx).1
theorem duty_ok (b : Bool) : PyData.strOk (dutyS b) = true := by cases b <;> decide +kernel
theorem Tx.fit : ∀ {n : Nat} {t : Tm}, Tx n t → Fit (2 * n) t.d := by
  intro n t h
  induction h with
  | done => exact (Fit.tup (n := 0) (all1 (.str (by decide +kernel)))).mono (by omega)
  | breach h1 h2 => exact (Fit.tup (n := 1) (allC (.str (by decide +kernel)) (all1 (Fit.tup (n := 0) (okStrs h2))))).mono (by omega)
  | wait h1 h2 => exact (Fit.tup (n := 0) (allC (.str (by decide +kernel)) (all1 .int))).mono (by omega)
  | @duty n b w a k hw ha h1 h2 => exact (Fit.tup (n := 0) (allC (.str (duty_ok b)) (allC (.str hw.1) (allC (.str ha.1) (allC .int (all1 .non)))))).mono (by omega)
  | @dutyE n b w a k o hw ha h1 h2 ho ih => exact (Fit.tup (n := 2 * n) (allC (.str (duty_ok b)) (allC (.str hw.1) (allC (.str ha.1) (allC .int (all1 ih)))))).mono (by omega)
  | may hw ha h1 h2 => exact (Fit.tup (n := 0) (allC (.str (by decide +kernel)) (allC (.str hw.1) (allC (.str ha.1) (all1 .int))))).mono (by omega)
  | @whn n w a k p hw ha h1 h2 hp ih => exact (Fit.tup (n := 2 * n) (allC (.str (by decide +kernel)) (allC (.str hw.1) (allC (.str ha.1) (allC .int (allC ih (all1 .non))))))).mono (by omega)
  | @whnE n w a k p o hw ha h1 h2 hp ho i1 i2 => exact (Fit.tup (n := 2 * n) (allC (.str (by decide +kernel)) (allC (.str hw.1) (allC (.str ha.1) (allC .int (allC i1 (all1 i2))))))).mono (by omega)
  | @grp n g ks h1 h2 hk ih =>
    refine (Fit.tup (n := 2 * n + 1) (allC (.str (by cases g <;> decide +kernel)) (all1 (Fit.tup ?_)))).mono (by omega)
    rw [dAll_map]
    intro d hd
    obtain ⟨t, ht, rfl⟩ := List.mem_map.mp hd
    exact ih t ht
  | @til n p w a hp hw ha ih => exact (Fit.tup (n := 2 * n) (allC (.str (by decide +kernel)) (allC ih (allC (.str hw.1) (all1 (.str ha.1)))))).mono (by omega)
  | @rep n k p h1 h2 hp ih => exact (Fit.tup (n := 2 * n) (allC (.str (by decide +kernel)) (allC .int (all1 ih)))).mono (by omega)
  | @ever n p hp ih => exact (Fit.tup (n := 2 * n) (allC (.str (by decide +kernel)) (all1 ih))).mono (by omega)
theorem eqv_tup (d : PyData) (ds : List PyData) : PyData.eqv (.tuple (d :: ds)) (.tuple []) = false := by rw [PyData.eqv, PyData.eqvAll]
/-- a term is done exactly if its tuple equals DONE -/
theorem eqv_done (t : Tm) : PyData.eqv t.d Tm.done.d = (match t with | .done => true | _ => false) := by
  rw [t.d_eq]
  show PyData.eqv (.tuple (pS t.hd :: t.tl)) (.tuple [pS "done"]) = _
  rw [PyData.eqv, PyData.eqvAll]
  cases t with
  | done => decide +kernel
  | duty b => cases b <;> simp [Tm.hd, Tm.tl, PyData.eqvAll]
  | dutyE b => cases b <;> simp [Tm.hd, Tm.tl, PyData.eqvAll]
  | _ => simp [Tm.hd, Tm.tl, PyData.eqvAll]
section
variable {K : PySem.W.Frag} {H H' : Hp} {a : Addr} {xs : List V} {v : V} {d : PyData}
theorem tyx_tup (h : SqT K H a xs) : TyX K H (.ref a) (.type "tuple") := by
  rcases h with (h | ⟨o, h⟩) | ⟨o, its, n, h, c, _⟩
  · exact .base (.tup h)
  · exact .fTuple h
  · exact .kTuple h c
theorem dts_cons {vs : List V} {ds : List PyData} (h : DTs K H vs (d :: ds)) : ∃ u r, vs = u :: r ∧ DT K H u d ∧ DTs K H r ds := by
  cases h with
  | cons h q => exact ⟨_, _, rfl, h, q⟩
theorem dts_nil {vs : List V} (h : DTs K H vs []) : vs = [] := by cases h; rfl
theorem dt_str {x : Str} (h : DT K H v (.str x)) : v = .str x := by cases h; rfl
theorem dt_int {i : Int} (h : DT K H v (.int i)) : v = .int i := by cases h; rfl
theorem dt_non (h : DT K H v .none) : v = .non := by cases h; rfl
theorem dt_tup {ds : List PyData} (h : DT K H v (.tuple ds)) : ∃ b us, v = .ref b ∧ SqT K H b us ∧ DTs K H us ds := by
  cases h with
  | tup h q => exact ⟨_, _, rfl, h, q⟩
end
end DD
namespace DD
open PySem PySem.Spec
open PyProof.Rows L2
section
variable {base : Heap} {mg : Str → Option Value} {K : PySem.W.Frag} {w : World} {P : Program}
/-! ### are_whos -/
def sp_are_whos (K : PySem.W.Frag) : Sp := fun vs H Q _ => ∃ (a : Addr) (ws : List Str), vs = [.ref a] ∧ SqT K H a (ws.map V.str) ∧ 1 ≤ ws.length ∧ ws.length ≤ 4 ∧ ws.Nodup ∧ (∀ x ∈ ws, whoB x = true ∧ x.length ≤ 12) ∧ ∀ H', Same H H' → Q (.bl true) H'
theorem ok_are_whos (T : Txt w K mg) : FnOk P w K mg base CX0 3 (a_are_whos K) (fdOf K (a_are_whos K)) ps_are_whos (sp_are_whos K) := by
  have G_is_who := ok_is_who (P := P) (base := base) T
  have G_are_unlike := ok_are_unlike (P := P) (base := base) T
  refine ok0 T.f_are_whos sc_are_whos (fun vs H Q E h => ?_) (fun cdv A outer s H vs Q E hr h => ?_)
  · obtain ⟨a, ws, rfl, _⟩ := h; rfl
  · obtain ⟨a, ws, rfl, hS, h1, h2, hn, hw, k⟩ := h
    have hr_is_who := hr
    have hr_are_unlike : Room 1 _ := hr.mono (by decide)
    refine ⟨_, (pss_cons (ps_if (PW.pt (pw_or (pt_not (pt_val (pe_callB (k_isi K) (by rfl) T.n_isinstance (by decide +kernel) (pa_cons (pv 0) (pa_cons (pe_bltn (v := .ty "tuple") (by rfl) T.n_tuple (by decide +kernel) rfl) pa_nil))))) (pw_or1 (pt_not (pt_chain op_le op_le pe_int (pe_callB (k_len K) (by rfl) T.n_len (by decide +kernel) (pa_cons (pv 0) pa_nil)) (pe_cI rfl T.i_MOST_WHOS)))))) (pss_one (ps_ret pe_bl)) pss_nil) (pss_one (ps_ret (pe_and (pe_callB (k_all K rfl) (by rfl) T.n_all (by decide +kernel) (pa_cons (pe_lc (own := [("one", 1)]) (by rfl) sc_are_whos.nd (k_piT K (pv 0)) (blkOk_by (own := [("one", 1)]) (N := N_are_whos) (sc := defScope s_are_whos) (by decide +kernel)) (fun _ _ _ _ _ => (pg_name (i := 1) sc_are_whos.nd rfl (Or.inl rfl) (Or.inr rfl))) (fun _ _ _ _ _ => pts_nil) (fun _ _ _ _ _ => (pe_call G_is_who hr_is_who rfl T.g_is_who T.k_is_who T.b_is_who .nil pass0 (pa_cons (pv 1) pa_nil)))) pa_nil)) (pe_one (pe_call G_are_unlike hr_are_unlike rfl T.g_are_unlike T.k_are_unlike T.b_are_unlike .nil pass0 (pa_cons (pe_callTy (k_list K) (by rfl) T.n_list (by decide +kernel) (pa_cons (pv 0) pa_nil)) pa_nil))))))), ?_⟩
    refine ⟨_, rfl, _, _, _, _, _, rfl, .ty _, tyx_tup hS, kit_ty (b := "tuple") (r := true) (by decide +kernel), _, rfl, no (by decide) ?_⟩
    refine ⟨_, rfl, _, _, rfl, .inr ⟨_, hS, rfl⟩, ?_⟩
    rw [List.length_map]
    refine ⟨1, (ws.length : Int), rfl, rfl, _, rfl, yes (decide_eq_true (by omega)) ⟨(ws.length : Int), 4, rfl, rfl, _, rfl, ?_⟩⟩
    rw [decide_eq_true (show ((ws.length : Nat) : Int) ≤ 4 by omega)]
    refine no (by decide) ?_
    refine ⟨_, rfl, a, rfl, ⟨_, hS⟩, fun D hD => ?_⟩
    refine lc_n (walk_tup (xs := ws.map V.str)) (fun i v _ => v = .bl true) (fun i o H H' _ h => h) hD (by rw [List.length_map]; omega) (fun H1 s1 => s1.tup hS) ?_ ?_
    · rintro i v H1 H2 Kt hi s1 ⟨rfl, e⟩ kk
      obtain ⟨x, hx, rfl⟩ := str_at e
      obtain ⟨q1, q2⟩ := hw x (List.mem_of_getElem? hx)
      refine ⟨rfl, _, rfl, x, rfl, by omega, fun H3 s3 => ?_⟩
      rw [q1]
      exact kk _ _ s3 rfl
    · intro ys H1 s1 hl2 hy hD1
      obtain ⟨bs, rfl, hb⟩ := pickL V.bl ys (fun i b => b = true) fun i y e => ⟨true, hy i y e, rfl⟩
      refine ⟨D, bs, rfl, SqL.of hD1, ?_⟩
      have e : bs.all id = true := List.all_eq_true.mpr fun b hb2 => by
        obtain ⟨i, hi⟩ := List.getElem?_of_mem hb2
        exact hb i b hi
      rw [e]
      refine ⟨true, rfl, yes rfl ⟨_, rfl, a, _, rfl, .inr (s1.tup hS), fun l hl => ?_⟩⟩
      exact ⟨l, ws, rfl, SqL.of upd_same, hn, by omega, fun H3 s3 => k H3 (s1.trans ((Same.new hl).trans s3))⟩
/-! ### is_formed -/
theorem Who.whoB {nm : List Str} {x : Str} (h : Who nm x) : whoB x = true := by
  unfold DD.whoB
  rcases h with h | rfl
  · rw [h.2]; rfl
  · simp
theorem sizes_at (T : Txt w K mg) (t : Tm) : ∃ u, PySem.W.nsIn K (o_SIZES K) t.hd = some (some u) ∧ L2.RelV (.int ((t.tl.length + 1 : Nat) : Int)) u := by
  have key : ∀ q, q ∈ _ → _ := fun q hq => He.valsB_ok T.x_val_SIZES (q := q) hq
  cases t with
  | done => exact key ("done", .int 1) (by simp)
  | breach ws => exact key ("breach", .int 2) (by simp)
  | wait k => exact key ("wait", .int 2) (by simp)
  | duty b => cases b with
    | true => exact key ("must", .int 5) (by simp)
    | false => exact key ("ban", .int 5) (by simp)
  | dutyE b => cases b with
    | true => exact key ("must", .int 5) (by simp)
    | false => exact key ("ban", .int 5) (by simp)
  | may => exact key ("may", .int 4) (by simp)
  | whn => exact key ("when", .int 6) (by simp)
  | whnE => exact key ("when", .int 6) (by simp)
  | grp g => cases g with
    | thn => exact key ("then", .int 2) (by simp)
    | and => exact key ("and", .int 2) (by simp)
    | or => exact key ("or", .int 2) (by simp)
  | til => exact key ("until", .int 4) (by simp)
  | rep => exact key ("repeat", .int 3) (by simp)
  | ever => exact key ("forever", .int 2) (by simp)
/-! ### tests on a word in a slot, on the head of a tuple -/
section
variable {σ : L2.St} {H : Hp} {i : Nat} {h z : Str} {a : Addr} {r : List V} {Q : Bool → Hp → Prop}
theorem dec_f (h : decide (i = i) = true) : True := trivial
theorem tt_eqY (hσ : σ[i]? = some (some (.str z))) (q : Q true H) : tTest (tOp (uEq K) (tVar i) (tC (.str z))) σ H Q :=
  ⟨_, hσ, .inl ⟨rfl, _, rfl, by rw [decide_eq_true (rfl : V.str z = V.str z)]; exact q⟩⟩
theorem tt_eqN (hσ : σ[i]? = some (some (.str h))) (ne : ¬ h = z) (q : Q false H) : tTest (tOp (uEq K) (tVar i) (tC (.str z))) σ H Q :=
  ⟨_, hσ, .inl ⟨rfl, _, rfl, by rw [decide_eq_false fun e => ne (V.str.inj e)]; exact q⟩⟩
theorem tt_neN (hσ : σ[i]? = some (some (.str z))) (q : Q false H) : tTest (tOp (uNe K) (tVar i) (tC (.str z))) σ H Q :=
  ⟨_, hσ, .inl ⟨rfl, _, rfl, by rw [decide_eq_true (rfl : V.str z = V.str z)]; exact q⟩⟩
theorem tt_neY (hσ : σ[i]? = some (some (.str h))) (ne : ¬ h = z) (q : Q true H) : tTest (tOp (uNe K) (tVar i) (tC (.str z))) σ H Q :=
  ⟨_, hσ, .inl ⟨rfl, _, rfl, by rw [decide_eq_false fun e => ne (V.str.inj e)]; exact q⟩⟩
theorem hd_at (hσ : σ[i]? = some (some (.ref a))) (hS : SqT K H a (.str h :: r)) {Q : VK} (q : Q (.str h) H) : tOp (rIx K) (tVar i) (tC (.int 0)) σ H Q := ⟨_, hσ, .inr (.inl ⟨a, _, 0, _, rfl, rfl, hS, at0, q⟩)⟩
theorem tt_hdY (hσ : σ[i]? = some (some (.ref a))) (hS : SqT K H a (.str z :: r)) (q : Q true H) : tTest (tOp (uEq K) (tOp (rIx K) (tVar i) (tC (.int 0))) (tC (.str z))) σ H Q :=
  hd_at hσ hS (.inl ⟨rfl, _, rfl, by rw [decide_eq_true (rfl : V.str z = V.str z)]; exact q⟩)
theorem tt_hdN (hσ : σ[i]? = some (some (.ref a))) (hS : SqT K H a (.str h :: r)) (ne : ¬ h = z) (q : Q false H) : tTest (tOp (uEq K) (tOp (rIx K) (tVar i) (tC (.int 0))) (tC (.str z))) σ H Q :=
  hd_at hσ hS (.inl ⟨rfl, _, rfl, by rw [decide_eq_false fun e => ne (V.str.inj e)]; exact q⟩)
theorem tt_hnN (hσ : σ[i]? = some (some (.ref a))) (hS : SqT K H a (.str z :: r)) (q : Q false H) : tTest (tOp (uNe K) (tOp (rIx K) (tVar i) (tC (.int 0))) (tC (.str z))) σ H Q :=
  hd_at hσ hS (.inl ⟨rfl, _, rfl, by rw [decide_eq_true (rfl : V.str z = V.str z)]; exact q⟩)
theorem tt_hnY (hσ : σ[i]? = some (some (.ref a))) (hS : SqT K H a (.str h :: r)) (ne : ¬ h = z) (q : Q true H) : tTest (tOp (uNe K) (tOp (rIx K) (tVar i) (tC (.int 0))) (tC (.str z))) σ H Q :=
  hd_at hσ hS (.inl ⟨rfl, _, rfl, by rw [decide_eq_false fun e => ne (V.str.inj e)]; exact q⟩)
def tStrs : List Str → TA
  | [] => tNil
  | x :: r => tCons (tC (.str x)) (tStrs r)
theorem strs_run : ∀ (zs : List Str) {σ : L2.St} {H : Hp} {Q : List V → Hp → Prop}, Q (zs.map V.str) H → tStrs zs σ H Q
  | [], _, _, _, q => q
  | x :: r, σ, H, Q, q => strs_run r (Q := fun xs H2 => Q (.str x :: xs) H2) q
theorem tup_strs (zs : List Str) (hz : zs.length ≤ 100000) {Q : VK} (q : ∀ p, H p = none → Q (.ref p) (upd H p (.tup (zs.map V.str)))) : tTup (tStrs zs) σ H Q :=
  strs_run zs ⟨small (by rw [List.length_map]; exact hz), q⟩
theorem in_strs {x : Str} {zs : List Str} {p : Addr} {H : Hp} {b : Bool} (hp : SqT K H p (zs.map V.str)) (hb : decide (x ∈ zs) = b) {Q : Bool → Hp → Prop} (q : Q b H) : rIn K false (.str x) (.ref p) H fun x H' => ∃ k, x = .bl k ∧ Q k H' :=
  ⟨p, _, rfl, .inr hp, rfl, flat_strs zs, _, rfl, by
    show Q (inV (.str x) (zs.map V.str)) H
    rw [inV_str, hb]; exact q⟩
/-- x in (z, ..), the tuple made on the way -/
theorem tt_in (zs : List Str) {b : Bool} (hz : zs.length ≤ 100000) (hσ : σ[i]? = some (some (.str h))) (hb : decide (h ∈ zs) = b) (q : ∀ p, H p = none → Q b (upd H p (.tup (zs.map V.str)))) : tTest (tOp (rIn K false) (tVar i) (tTup (tStrs zs))) σ H Q :=
  ⟨_, hσ, tup_strs zs hz fun p hp => in_strs (SqT.of upd_same) hb (q p hp)⟩
theorem tt_hin (zs : List Str) {b : Bool} (hz : zs.length ≤ 100000) (hσ : σ[i]? = some (some (.ref a))) (hS : SqT K H a (.str h :: r)) (hb : decide (h ∈ zs) = b) (q : ∀ p, H p = none → Q b (upd H p (.tup (zs.map V.str)))) : tTest (tOp (rIn K false) (tOp (rIx K) (tVar i) (tC (.int 0))) (tTup (tStrs zs))) σ H Q :=
  hd_at hσ hS (tup_strs zs hz fun p hp => in_strs (SqT.of upd_same) hb (q p hp))
theorem tt_inW (zs : List Str) {b : Bool} (hz : zs.length ≤ 100000) (hσ : σ[i]? = some (some (.str h))) (hb : decide (h ∈ zs) = b) (q : ∀ H', Same H H' → Q b H') : tTest (tOp (rIn K false) (tVar i) (tTup (tStrs zs))) σ H Q :=
  tt_in zs hz hσ hb fun _ hp => q _ (Same.new hp)
theorem tt_hinW (zs : List Str) {b : Bool} (hz : zs.length ≤ 100000) (hσ : σ[i]? = some (some (.ref a))) (hS : SqT K H a (.str h :: r)) (hb : decide (h ∈ zs) = b) (q : ∀ H', Same H H' → Q b H') : tTest (tOp (rIn K false) (tOp (rIx K) (tVar i) (tC (.int 0))) (tTup (tStrs zs))) σ H Q :=
  tt_hin zs hz hσ hS hb fun _ hp => q _ (Same.new hp)
/-- x in G, a tuple of the module's -/
theorem tt_inG {zs : List Str} {g : Addr} {b : Bool} (hg : SqT K H g (zs.map V.str)) (hσ : σ[i]? = some (some (.str h))) (hb : decide (h ∈ zs) = b) (q : Q b H) : tTest (tOp (rIn K false) (tVar i) (tC (.ref g))) σ H Q := ⟨_, hσ, in_strs hg hb q⟩
theorem tt_hinG {zs : List Str} {g : Addr} {b : Bool} (hg : SqT K H g (zs.map V.str)) (hσ : σ[i]? = some (some (.ref a))) (hS : SqT K H a (.str h :: r)) (hb : decide (h ∈ zs) = b) (q : Q b H) : tTest (tOp (rIn K false) (tOp (rIx K) (tVar i) (tC (.int 0))) (tC (.ref g))) σ H Q := hd_at hσ hS (in_strs hg hb q)
end
def groupS : List Str := ["then", "and", "or"]
theorem groups_at (T : Txt w K mg) (H : Hp) : SqT K H (o_GROUPS K) (groupS.map V.str) := He.tupB_ok (x := "GROUPS") (vs := [.str (Str.ofString "then"), .str (Str.ofString "and"), .str (Str.ofString "or")]) T.x_tup_GROUPS H
def dutiesS : List Str := ["must", "ban"]
theorem duties_at (T : Txt w K mg) (H : Hp) : SqT K H (o_DUTIES K) (dutiesS.map V.str) := He.tupB_ok (x := "DUTIES") (vs := [.str (Str.ofString "must"), .str (Str.ofString "ban")]) T.x_tup_DUTIES H
theorem done_at (T : Txt w K mg) (H : Hp) : SqT K H (o_DONE K) [.str "done"] := He.tupB_ok (x := "DONE") (vs := [.str (Str.ofString "done")]) T.x_tup_DONE H
/-- the n-th of a tuple in a slot -/
theorem ixT {σ : L2.St} {H : Hp} {i : Nat} {a : Addr} {xs : List V} {v : V} {n : Int} {Q : VK} (hσ : σ[i]? = some (some (.ref a))) (hS : SqT K H a xs) (e : atI xs n = some v) (q : Q v H) : tOp (rIx K) (tVar i) (tC (.int n)) σ H Q := ⟨_, hσ, .inr (.inl ⟨a, _, n, _, rfl, rfl, hS, e, q⟩)⟩
theorem orNe {σ : L2.St} {H : Hp} {i : Nat} {h z : Str} {R : TE} {Q : VK} (hσ : σ[i]? = some (some (.str h))) (ne : ¬ h = z) (q : Q (.bl true) H) : tOrV (tOp (uNe K) (tVar i) (tC (.str z))) R σ H Q :=
  ⟨_, hσ, .inl ⟨rfl, _, rfl, by rw [decide_eq_false fun e => ne (V.str.inj e)]; exact yes rfl q⟩⟩
theorem orNeN {σ : L2.St} {H : Hp} {i : Nat} {z : Str} {R : TE} {Q : VK} (hσ : σ[i]? = some (some (.str z))) (q : R σ H Q) : tOrV (tOp (uNe K) (tVar i) (tC (.str z))) R σ H Q :=
  ⟨_, hσ, .inl ⟨rfl, _, rfl, by rw [decide_eq_true (rfl : V.str z = V.str z)]; exact no (by decide) q⟩⟩
theorem wwd {σ : L2.St} {H : Hp} {a : Addr} {v0 : V} {w x : Str} {i : Int} {r : List V} {nm : List Str} {Q : VK} (hσ : σ[0]? = some (some (.ref a))) (hS : SqT K H a (v0 :: .str w :: .str x :: .int i :: r)) (hw : Who nm w) (hx : wordB x = true) (i1 : 1 ≤ i) (i2 : i ≤ 30) (k : ∀ H', Same H H' → Q (.bl true) H') :
    tAndV (tCall sp_is_who [] E0 (tCons (tOp (rIx K) (tVar 0) (tC (.int 1))) tNil)) (tAndV (tCall sp_is_word [] E0 (tCons (tOp (rIx K) (tVar 0) (tC (.int 2))) tNil)) (tCall sp_is_whole [] E0 (tCons (tOp (rIx K) (tVar 0) (tC (.int 3))) (tCons (tC (.int 1)) (tCons (tC (.int 30)) tNil))))) σ H Q := by
  refine ixT hσ hS at1 ⟨w, rfl, by have := hw.ok.2; omega, fun H1 s1 => ?_⟩
  rw [hw.whoB]
  refine ⟨true, rfl, yes rfl (ixT hσ (s1.tup hS) at2 ⟨x, rfl, by have := (word_ok hx).2; omega, fun H2 s2 => ?_⟩)⟩
  rw [hx]
  refine ⟨true, rfl, yes rfl (ixT hσ (s2.tup (s1.tup hS)) at3 ⟨_, _, _, rfl, fun H3 s3 => ?_⟩)⟩
  rw [decide_eq_true i1, decide_eq_true i2]
  exact k _ (s1.trans (s2.trans s3))
def sp_is_formed (K : PySem.W.Frag) : Sp := fun vs H Q _ => ∃ (v : V) (t : Tm) (nm : List Str) (n : Nat), vs = [v] ∧ DT K H v t.d ∧ St nm n t ∧ n ≤ 8 ∧ ∀ H', Same H H' → Q (.bl true) H'
theorem ok_is_formed (T : Txt w K mg) : FnOk P w K mg base CX0 4 (a_is_formed K) (fdOf K (a_is_formed K)) ps_is_formed (sp_is_formed K) := by
  have G_is_who := ok_is_who (P := P) (base := base) T
  have G_is_word := ok_is_word (P := P) (base := base) T
  have G_is_whole := ok_is_whole (P := P) (base := base) T
  have G_are_whos := ok_are_whos (P := P) (base := base) T
  refine ok0 T.f_is_formed sc_is_formed (fun vs H Q E h => ?_) (fun cdv A outer s H vs Q E hr h => ?_)
  · obtain ⟨a, ws, _, _, rfl, _⟩ := h; rfl
  · obtain ⟨v, t, nm, n, rfl, hD, hst, hn, k⟩ := h
    have hr_is_who : Room 2 _ := hr.mono (by decide)
    have hr_is_word : Room 1 _ := hr.mono (by decide)
    have hr_is_whole : Room 1 _ := hr.mono (by decide)
    have hr_are_whos := hr
    have hU64 := hr.units
    obtain ⟨es, en, kd_SIZES⟩ := T.t_SIZES
    refine ⟨_, (pss_cons (ps_if (PW.pt (pw_or (pt_not (pt_val (pe_callB (k_isi K) (by rfl) T.n_isinstance (by decide +kernel) (pa_cons (pv 0) (pa_cons (pe_bltn (v := .ty "tuple") (by rfl) T.n_tuple (by decide +kernel) rfl) pa_nil))))) (pw_or (pt_cmpR (k_eq K hU64) (pv 0) (pe_tup pa_nil) (nomark _)) (pw_or1 (pt_not (pt_val (pe_callB (k_isi K) (by rfl) T.n_isinstance (by decide +kernel) (pa_cons (pe_ix (k_ix K) (pv 0) pe_int (fun _ _ => rfl)) (pa_cons (pe_bltn (v := .ty "str") (by rfl) T.n_str (by decide +kernel) rfl) pa_nil))))))))) (pss_one (ps_ret pe_bl)) pss_nil) (pss_cons (ps_set (i := 1) sc_is_formed.nd rfl (Or.inl rfl) (pe_ix (k_ix K) (pv 0) pe_int (fun _ _ => rfl))) (pss_cons (ps_if (PW.pt (pw_or (pt_cmpR (op_notIn_kd kd_SIZES) (pv 1) (pe_cR rfl T.g_SIZES) (by rfl)) (pw_or1 (pt_cmpR (k_ne K hU64) (pe_callB (k_len K) (by rfl) T.n_len (by decide +kernel) (pa_cons (pv 0) pa_nil)) (pe_ix (k_ixD K) (pe_cR rfl T.g_SIZES) (pv 1) (fun _ _ => rfl)) (nomark _))))) (pss_one (ps_ret pe_bl)) pss_nil) (pss_cons (ps_if (pt_cmpR (k_eq K hU64) (pv 1) pe_str (nomark _)) (pss_one (ps_ret (pe_call G_are_whos hr_are_whos rfl T.g_are_whos T.k_are_whos T.b_are_whos .nil pass0 (pa_cons (pe_ix (k_ix K) (pv 0) pe_int (fun _ _ => rfl)) pa_nil)))) pss_nil) (pss_cons (ps_if (pt_cmpR (k_eq K hU64) (pv 1) pe_str (nomark _)) (pss_one (ps_ret (pe_call G_is_whole hr_is_whole rfl T.g_is_whole T.k_is_whole T.b_is_whole .nil pass0 (pa_cons (pe_ix (k_ix K) (pv 0) pe_int (fun _ _ => rfl)) (pa_cons pe_int (pa_cons (pe_cI rfl T.i_MAX_DAYS) pa_nil)))))) pss_nil) (pss_cons (ps_if (pt_cmpR (k_in K) (pv 1) (pe_tup (pa_cons pe_str (pa_cons pe_str (pa_cons pe_str (pa_cons pe_str pa_nil))))) (by rfl)) (pss_one (ps_ret (pe_and (pe_call G_is_who hr_is_who rfl T.g_is_who T.k_is_who T.b_is_who .nil pass0 (pa_cons (pe_ix (k_ix K) (pv 0) pe_int (fun _ _ => rfl)) pa_nil)) (pe_and (pe_call G_is_word hr_is_word rfl T.g_is_word T.k_is_word T.b_is_word .nil pass0 (pa_cons (pe_ix (k_ix K) (pv 0) pe_int (fun _ _ => rfl)) pa_nil)) (pe_one (pe_call G_is_whole hr_is_whole rfl T.g_is_whole T.k_is_whole T.b_is_whole .nil pass0 (pa_cons (pe_ix (k_ix K) (pv 0) pe_int (fun _ _ => rfl)) (pa_cons pe_int (pa_cons (pe_cI rfl T.i_MAX_DAYS) pa_nil))))))))) pss_nil) (pss_cons (ps_if (pt_cmpR (k_in K) (pv 1) (pe_cR rfl T.g_GROUPS) (by rfl)) (pss_one (ps_ret (pe_and (pe_callB (k_isi K) (by rfl) T.n_isinstance (by decide +kernel) (pa_cons (pe_ix (k_ix K) (pv 0) pe_int (fun _ _ => rfl)) (pa_cons (pe_bltn (v := .ty "tuple") (by rfl) T.n_tuple (by decide +kernel) rfl) pa_nil))) (pe_one (pe_cmpR op_gt (pe_callB (k_len K) (by rfl) T.n_len (by decide +kernel) (pa_cons (pe_ix (k_ix K) (pv 0) pe_int (fun _ _ => rfl)) pa_nil)) pe_int (nomark _)))))) pss_nil) (pss_cons (ps_if (pt_cmpR (k_eq K hU64) (pv 1) pe_str (nomark _)) (pss_one (ps_ret (pe_and (pe_call G_is_who hr_is_who rfl T.g_is_who T.k_is_who T.b_is_who .nil pass0 (pa_cons (pe_ix (k_ix K) (pv 0) pe_int (fun _ _ => rfl)) pa_nil)) (pe_one (pe_call G_is_word hr_is_word rfl T.g_is_word T.k_is_word T.b_is_word .nil pass0 (pa_cons (pe_ix (k_ix K) (pv 0) pe_int (fun _ _ => rfl)) pa_nil)))))) pss_nil) (pss_one (ps_ret (pe_or (pe_cmpR (k_ne K hU64) (pv 1) pe_str (nomark _)) (pe_one (pe_call G_is_whole hr_is_whole rfl T.g_is_whole T.k_is_whole T.b_is_whole .nil pass0 (pa_cons (pe_ix (k_ix K) (pv 0) pe_int (fun _ _ => rfl)) (pa_cons pe_int (pa_cons (pe_cI rfl T.i_MAX_TIMES) pa_nil)))))))))))))))), ?_⟩
    obtain ⟨a, us, rfl, hS, hU⟩ := tm_at hD
    have hsh : SeqAt.shaped t.d = true := (hst.tx.fit).shaped (by omega)
    refine ⟨_, rfl, _, _, _, _, _, rfl, .ty _, tyx_tup hS, kit_ty (b := "tuple") (r := true) (by decide +kernel), _, rfl, no (by decide) ?_⟩
    refine ⟨_, rfl, (by show 0 ≤ sizeLine; decide), fun p0 hp0 => ?_⟩
    have s0 : Same H (upd H p0 (.tup [])) := Same.new hp0
    refine .inr ⟨t.d, .tuple [], (s0.dt hD).dp, .tup (SqT.of upd_same) .nil, hsh, by decide +kernel, _, rfl, ?_⟩
    rw [t.d_eq, eqv_tup]
    refine no (by decide) (ixT rfl (s0.tup hS) at0 ?_)
    refine ⟨_, _, _, _, _, rfl, .ty _, .base (.str _), kit_ty (b := "str") (r := true) (by decide +kernel), _, rfl, no (by decide) ?_⟩
    refine ixT rfl (s0.tup hS) at0 ?_
    obtain ⟨u0, hu1, hu2⟩ := sizes_at T t
    refine ⟨_, rfl, _, some u0, rfl, rfl, hu1, _, rfl, no (by simp) ?_⟩
    have hlen : us.length = t.tl.length := dps_len hU
    refine ⟨_, rfl, _, _, rfl, .inr ⟨_, s0.tup hS, rfl⟩, _, rfl, _, _, _, rfl, rfl, ⟨es, en, u0, kd_SIZES.at_, kd_SIZES.lit, hu1, hu2⟩, .inl ⟨rfl, _, rfl, ?_⟩⟩
    rw [decide_eq_true (show V.int (((V.str t.hd :: us).length : Nat) : Int) = V.int ((t.tl.length + 1 : Nat) : Int) by rw [List.length_cons, hlen])]
    refine no (by simp) ?_
    have kk := k _ s0
    have hS1 := s0.tup hS
    have hU1 := s0.dts hU
    cases hst with
    | done =>
      cases dts_nil hU1
      refine tt_eqN (h := "done") rfl (by decide +kernel) (no (by decide) (tt_eqN (h := "done") rfl (by decide +kernel) (no (by decide) (tt_in (h := "done") (b := false) ["must", "ban", "may", "when"] (by decide) rfl (by decide +kernel) fun p hp => no (by decide) ?_))))
      have s1 := s0.trans (Same.new (o := .tup (List.map V.str ["must", "ban", "may", "when"])) hp)
      refine tt_inG (h := "done") (b := false) (groups_at T _) rfl (by decide +kernel) (no (by decide) (tt_eqN (h := "done") rfl (by decide +kernel) (no (by decide) ?_)))
      exact orNe (h := "done") rfl (by decide +kernel) (k _ s1)
    | @breach n ws h1 h2 h3 h4 =>
      obtain ⟨u1, r, rfl, q1, q⟩ := dts_cons hU1
      cases dts_nil q; cases q1 with
      | tup q2 q3 =>
        rw [strs_of q3] at q2
        exact tt_eqY rfl (yes rfl (ixT rfl hS1 at1 ⟨_, ws, rfl, q2, h1, by omega, h3, fun x hx => ⟨(h4 x hx).whoB, (h4 x hx).ok.2⟩, fun H3 s3 => k _ (s0.trans s3)⟩))
    | wait h1 h2 =>
      obtain ⟨u1, r, rfl, q1, q⟩ := dts_cons hU1
      cases dts_nil q; cases dt_int q1
      exact tt_eqN (h := "wait") rfl (by decide +kernel) (no (by decide) (tt_eqY rfl (yes rfl (ixT rfl hS1 at1 ⟨_, _, _, rfl, fun H3 s3 => by
        rw [decide_eq_true h1, decide_eq_true h2]
        exact k _ (s0.trans s3)⟩))))
    | @duty n b ww aa kk hw ha h1 h2 =>
      obtain ⟨u1, r, rfl, q1, q⟩ := dts_cons hU1
      obtain ⟨u2, r, rfl, q2, q⟩ := dts_cons q
      obtain ⟨u3, r, rfl, q3, q⟩ := dts_cons q
      cases dt_str q1; cases dt_str q2; cases dt_int q3
      refine tt_eqN (h := dutyS b) rfl (by cases b <;> decide +kernel) (no (by decide) (tt_eqN (h := dutyS b) rfl (by cases b <;> decide +kernel) (no (by decide) (tt_in (h := dutyS b) (b := true) ["must", "ban", "may", "when"] (by decide) rfl (by cases b <;> decide +kernel) fun p hp => yes rfl ?_))))
      have s1 := Same.new (o := .tup (List.map V.str ["must", "ban", "may", "when"])) hp
      exact wwd rfl (s1.tup hS1) hw ha h1 h2 fun H3 s3 => k _ (s0.trans (s1.trans s3))
    | @dutyE n b ww aa kk o hw ha h1 h2 ho =>
      obtain ⟨u1, r, rfl, q1, q⟩ := dts_cons hU1
      obtain ⟨u2, r, rfl, q2, q⟩ := dts_cons q
      obtain ⟨u3, r, rfl, q3, q⟩ := dts_cons q
      cases dt_str q1; cases dt_str q2; cases dt_int q3
      refine tt_eqN (h := dutyS b) rfl (by cases b <;> decide +kernel) (no (by decide) (tt_eqN (h := dutyS b) rfl (by cases b <;> decide +kernel) (no (by decide) (tt_in (h := dutyS b) (b := true) ["must", "ban", "may", "when"] (by decide) rfl (by cases b <;> decide +kernel) fun p hp => yes rfl ?_))))
      have s1 := Same.new (o := .tup (List.map V.str ["must", "ban", "may", "when"])) hp
      exact wwd rfl (s1.tup hS1) hw ha h1 h2 fun H3 s3 => k _ (s0.trans (s1.trans s3))
    | may hw ha h1 h2 =>
      obtain ⟨u1, r, rfl, q1, q⟩ := dts_cons hU1
      obtain ⟨u2, r, rfl, q2, q⟩ := dts_cons q
      obtain ⟨u3, r, rfl, q3, q⟩ := dts_cons q
      cases dt_str q1; cases dt_str q2; cases dt_int q3
      refine tt_eqN (h := "may") rfl (by decide +kernel) (no (by decide) (tt_eqN (h := "may") rfl (by decide +kernel) (no (by decide) (tt_in (h := "may") (b := true) ["must", "ban", "may", "when"] (by decide) rfl (by decide +kernel) fun p hp => yes rfl ?_))))
      have s1 := Same.new (o := .tup (List.map V.str ["must", "ban", "may", "when"])) hp
      exact wwd rfl (s1.tup hS1) hw ha h1 h2 fun H3 s3 => k _ (s0.trans (s1.trans s3))
    | whn hw ha h1 h2 hp =>
      obtain ⟨u1, r, rfl, q1, q⟩ := dts_cons hU1
      obtain ⟨u2, r, rfl, q2, q⟩ := dts_cons q
      obtain ⟨u3, r, rfl, q3, q⟩ := dts_cons q
      cases dt_str q1; cases dt_str q2; cases dt_int q3
      refine tt_eqN (h := "when") rfl (by decide +kernel) (no (by decide) (tt_eqN (h := "when") rfl (by decide +kernel) (no (by decide) (tt_in (h := "when") (b := true) ["must", "ban", "may", "when"] (by decide) rfl (by decide +kernel) fun p hp => yes rfl ?_))))
      have s1 := Same.new (o := .tup (List.map V.str ["must", "ban", "may", "when"])) hp
      exact wwd rfl (s1.tup hS1) hw ha h1 h2 fun H3 s3 => k _ (s0.trans (s1.trans s3))
    | whnE hw ha h1 h2 hp ho =>
      obtain ⟨u1, r, rfl, q1, q⟩ := dts_cons hU1
      obtain ⟨u2, r, rfl, q2, q⟩ := dts_cons q
      obtain ⟨u3, r, rfl, q3, q⟩ := dts_cons q
      cases dt_str q1; cases dt_str q2; cases dt_int q3
      refine tt_eqN (h := "when") rfl (by decide +kernel) (no (by decide) (tt_eqN (h := "when") rfl (by decide +kernel) (no (by decide) (tt_in (h := "when") (b := true) ["must", "ban", "may", "when"] (by decide) rfl (by decide +kernel) fun p hp => yes rfl ?_))))
      have s1 := Same.new (o := .tup (List.map V.str ["must", "ban", "may", "when"])) hp
      exact wwd rfl (s1.tup hS1) hw ha h1 h2 fun H3 s3 => k _ (s0.trans (s1.trans s3))
    | @grp n g ks h1 h2 hk =>
      obtain ⟨u1, r, rfl, q1, q⟩ := dts_cons hU1
      cases dts_nil q; obtain ⟨b, us, rfl, q2, q3⟩ := dt_tup q1
      refine tt_eqN (h := g.str) rfl (by cases g <;> decide +kernel) (no (by decide) (tt_eqN (h := g.str) rfl (by cases g <;> decide +kernel) (no (by decide) (tt_in (h := g.str) (b := false) ["must", "ban", "may", "when"] (by decide) rfl (by cases g <;> decide +kernel) fun p hp => no (by decide) ?_))))
      have s1 := Same.new (o := .tup (List.map V.str ["must", "ban", "may", "when"])) hp
      refine tt_inG (h := g.str) (b := true) (groups_at T _) rfl (by cases g <;> decide +kernel) (yes rfl ?_)
      refine ixT rfl (s1.tup hS1) at1 ⟨_, _, _, _, _, rfl, .ty _, tyx_tup (s1.tup q2), kit_ty (b := "tuple") (r := true) (by decide +kernel), _, rfl, yes rfl ?_⟩
      refine ixT rfl (s1.tup hS1) at1 ⟨_, _, rfl, .inr ⟨_, s1.tup q2, rfl⟩, _, _, rfl, rfl, ?_⟩
      have e : us.length = ks.length := by rw [dps_len q3, dAll_map, List.length_map]
      show Q (.bl (decide ((1 : Int) < ((us.length : Nat) : Int)))) _
      rw [decide_eq_true (show (1 : Int) < ((us.length : Nat) : Int) by omega)]
      exact k _ (s0.trans s1)
    | @til n p ww aa hp hw ha =>
      obtain ⟨u1, r, rfl, q1, q⟩ := dts_cons hU1
      obtain ⟨u2, r, rfl, q2, q⟩ := dts_cons q
      obtain ⟨u3, r, rfl, q3, q⟩ := dts_cons q
      cases dts_nil q; cases dt_str q2; cases dt_str q3
      refine tt_eqN (h := "until") rfl (by decide +kernel) (no (by decide) (tt_eqN (h := "until") rfl (by decide +kernel) (no (by decide) (tt_in (h := "until") (b := false) ["must", "ban", "may", "when"] (by decide) rfl (by decide +kernel) fun p hp => no (by decide) ?_))))
      have s1 := Same.new (o := .tup (List.map V.str ["must", "ban", "may", "when"])) hp
      refine tt_inG (h := "until") (b := false) (groups_at T _) rfl (by decide +kernel) (no (by decide) (tt_eqY rfl (yes rfl ?_)))
      refine ixT rfl (s1.tup hS1) at2 ⟨ww, rfl, by have := hw.ok.2; omega, fun H3 s3 => ?_⟩
      rw [hw.whoB]
      refine ⟨true, rfl, yes rfl (ixT rfl (s3.tup (s1.tup hS1)) at3 ⟨aa, rfl, by have := (word_ok ha).2; omega, fun H4 s4 => ?_⟩)⟩
      rw [ha]
      exact k _ (s0.trans (s1.trans (s3.trans s4)))
    | @rep n i p h1 h2 hp =>
      obtain ⟨u1, r, rfl, q1, q⟩ := dts_cons hU1
      cases dt_int q1
      refine tt_eqN (h := "repeat") rfl (by decide +kernel) (no (by decide) (tt_eqN (h := "repeat") rfl (by decide +kernel) (no (by decide) (tt_in (h := "repeat") (b := false) ["must", "ban", "may", "when"] (by decide) rfl (by decide +kernel) fun p hp => no (by decide) ?_))))
      have s1 := Same.new (o := .tup (List.map V.str ["must", "ban", "may", "when"])) hp
      refine tt_inG (h := "repeat") (b := false) (groups_at T _) rfl (by decide +kernel) (no (by decide) (tt_eqN (h := "repeat") rfl (by decide +kernel) (no (by decide) ?_)))
      refine orNeN rfl (ixT rfl (s1.tup hS1) at1 ⟨_, _, _, rfl, fun H3 s3 => ?_⟩)
      rw [decide_eq_true h1, decide_eq_true (show i ≤ 9 by omega)]
      exact k _ (s0.trans (s1.trans s3))
    | ever hp hb =>
      refine tt_eqN (h := "forever") rfl (by decide +kernel) (no (by decide) (tt_eqN (h := "forever") rfl (by decide +kernel) (no (by decide) (tt_in (h := "forever") (b := false) ["must", "ban", "may", "when"] (by decide) rfl (by decide +kernel) fun p hp => no (by decide) ?_))))
      have s1 := s0.trans (Same.new (o := .tup (List.map V.str ["must", "ban", "may", "when"])) hp)
      refine tt_inG (h := "forever") (b := false) (groups_at T _) rfl (by decide +kernel) (no (by decide) (tt_eqN (h := "forever") rfl (by decide +kernel) (no (by decide) ?_)))
      exact orNe (h := "forever") rfl (by decide +kernel) (k _ s1)
end
end DD
namespace DD
open PySem PySem.Spec
open PyProof.Rows L2
section
variable {base : Heap} {mg : Str → Option Value} {K : PySem.W.Frag} {w : World} {P : Program}
/-- t + u, tuples -/
theorem catT {x y : Addr} {xs ys : List V} {H : Hp} {Q : VK} (hx : SqT K H x xs) (hy : SqT K H y ys) (hl : xs.length + ys.length ≤ 100000) (k : ∀ p H', Same H H' → SqT K H' p (xs ++ ys) → Q (.ref p) H') : uAdd K (.ref x) (.ref y) H Q :=
  .inr (.inr (.inr ⟨x, y, xs, ys, rfl, rfl, hx, hy, small hl, fun e => k y H (Same.refl H) (by rw [e]; exact hy), fun _ e => k x H (Same.refl H) (by rw [e, List.append_nil]; exact hx), fun _ _ p hp => k p _ (Same.new hp) (SqT.of upd_same)⟩))
theorem dt_ref {H : Hp} {v : V} {t : Tm} (h : DT K H v t.d) : ∃ a, v = .ref a := let ⟨a, _, e, _⟩ := tm_at h; ⟨a, e⟩
/-! ### children_of -/
def sp_children_of (K : PySem.W.Frag) : Sp := fun vs H Q _ => ∃ (v : V) (t : Tm), vs = [v] ∧ DT K H v t.d ∧ ∀ l us H', Same H H' → H l = none → H' l = some (.lst us) → DTs K H' us (t.kids.map Tm.d) → Q (.ref l) H'
theorem ok_children_of (T : Txt w K mg) : FnOk P w K mg base CX0 1 (a_children_of K) (fdOf K (a_children_of K)) ps_children_of (sp_children_of K) := by
  refine ok0 T.f_children_of sc_children_of (fun vs H Q E h => ?_) (fun cdv A outer s H vs Q E hr h => ?_)
  · obtain ⟨v, t, rfl, _⟩ := h; rfl
  · obtain ⟨v, t, rfl, hD, k⟩ := h
    have hU64 := hr.units
    have S := Same.refl H
    refine ⟨_, (pss_cons (ps_set (i := 1) sc_children_of.nd rfl (Or.inl rfl) (pe_ix (k_ix K) (pv 0) pe_int (fun _ _ => rfl))) (pss_cons (ps_if (pt_cmpR (k_in K) (pv 1) (pe_cR rfl T.g_DUTIES) (by rfl)) (pss_one (ps_ret (pe_ifExp (pt_cmpR op_isN (pe_ix (k_ix K) (pv 0) pe_int (fun _ _ => rfl)) pe_non (nomark _)) (pe_lst pa_nil) (pe_lst (pa_cons (pe_ix (k_ix K) (pv 0) pe_int (fun _ _ => rfl)) pa_nil))))) pss_nil) (pss_cons (ps_if (pt_cmpR (k_eq K hU64) (pv 1) pe_str (nomark _)) (pss_one (ps_ret (pe_ifExp (pt_cmpR op_isN (pe_ix (k_ix K) (pv 0) pe_int (fun _ _ => rfl)) pe_non (nomark _)) (pe_lst (pa_cons (pe_ix (k_ix K) (pv 0) pe_int (fun _ _ => rfl)) pa_nil)) (pe_lst (pa_cons (pe_ix (k_ix K) (pv 0) pe_int (fun _ _ => rfl)) (pa_cons (pe_ix (k_ix K) (pv 0) pe_int (fun _ _ => rfl)) pa_nil)))))) pss_nil) (pss_cons (ps_if (pt_cmpR (k_in K) (pv 1) (pe_cR rfl T.g_GROUPS) (by rfl)) (pss_one (ps_ret (pe_callTy (k_list K) (by rfl) T.n_list (by decide +kernel) (pa_cons (pe_ix (k_ix K) (pv 0) pe_int (fun _ _ => rfl)) pa_nil)))) pss_nil) (pss_cons (ps_if (pt_cmpR (k_in K) (pv 1) (pe_tup (pa_cons pe_str (pa_cons pe_str pa_nil))) (by rfl)) (pss_one (ps_ret (pe_lst (pa_cons (pe_ix (k_ix K) (pv 0) pe_int (fun _ _ => rfl)) pa_nil)))) pss_nil) (pss_one (ps_ret (pe_ifExp (pt_cmpR (k_eq K hU64) (pv 1) pe_str (nomark _)) (pe_lst (pa_cons (pe_ix (k_ix K) (pv 0) pe_int (fun _ _ => rfl)) pa_nil)) (pe_lst pa_nil))))))))), ?_⟩
    have k0 : ∀ {H'}, Same H H' → t.kids = [] → tLst tNil (start N_children_of [v]) H' Q := fun s e => ⟨small (by decide), fun p hp => k p [] _ (s.trans (Same.new hp)) (s.free hp) upd_same (by rw [e]; exact .nil)⟩
    have k1 : ∀ {H' u p}, Same H H' → t.kids = [p] → DT K H u p.d → [u].length ≤ sizeLine ∧ ∀ l, H' l = none → Q (.ref l) (upd H' l (.lst [u])) := fun s e d => ⟨small (by simp), fun p hp => k p _ _ (s.trans (Same.new hp)) (s.free hp) upd_same (by rw [e]; exact .cons ((s.trans (Same.new hp)).dt d) .nil)⟩
    cases t with
    | done =>
      obtain ⟨a, rfl, hS⟩ := tm_done hD
      refine ixT rfl hS at0 ?_
      refine tt_inG (h := "done") (b := false) (duties_at T _) rfl (by decide +kernel) (no (by decide) (tt_eqN (h := "done") rfl (by decide +kernel) (no (by decide) (tt_inG (h := "done") (b := false) (groups_at T _) rfl (by decide +kernel) (no (by decide) (tt_inW (h := "done") (b := false) ["until", "forever"] (by decide) rfl (by decide +kernel) (fun Hs1 ss1 => no (by decide) (?_))))))))
      have S := (S.trans ss1)
      refine tt_eqN (h := "done") rfl (by decide +kernel) (no (by decide) (k0 S rfl))
    | breach =>
      obtain ⟨a, b, rfl, hS, hB⟩ := tm_breach hD
      refine ixT rfl hS at0 ?_
      refine tt_inG (h := "breach") (b := false) (duties_at T _) rfl (by decide +kernel) (no (by decide) (tt_eqN (h := "breach") rfl (by decide +kernel) (no (by decide) (tt_inG (h := "breach") (b := false) (groups_at T _) rfl (by decide +kernel) (no (by decide) (tt_inW (h := "breach") (b := false) ["until", "forever"] (by decide) rfl (by decide +kernel) (fun Hs1 ss1 => no (by decide) (?_))))))))
      have S := (S.trans ss1)
      refine tt_eqN (h := "breach") rfl (by decide +kernel) (no (by decide) (k0 S rfl))
    | wait =>
      obtain ⟨a, rfl, hS⟩ := tm_wait hD
      refine ixT rfl hS at0 ?_
      refine tt_inG (h := "wait") (b := false) (duties_at T _) rfl (by decide +kernel) (no (by decide) (tt_eqN (h := "wait") rfl (by decide +kernel) (no (by decide) (tt_inG (h := "wait") (b := false) (groups_at T _) rfl (by decide +kernel) (no (by decide) (tt_inW (h := "wait") (b := false) ["until", "forever"] (by decide) rfl (by decide +kernel) (fun Hs1 ss1 => no (by decide) (?_))))))))
      have S := (S.trans ss1)
      refine tt_eqN (h := "wait") rfl (by decide +kernel) (no (by decide) (k0 S rfl))
    | may =>
      obtain ⟨a, rfl, hS⟩ := tm_may hD
      refine ixT rfl hS at0 ?_
      refine tt_inG (h := "may") (b := false) (duties_at T _) rfl (by decide +kernel) (no (by decide) (tt_eqN (h := "may") rfl (by decide +kernel) (no (by decide) (tt_inG (h := "may") (b := false) (groups_at T _) rfl (by decide +kernel) (no (by decide) (tt_inW (h := "may") (b := false) ["until", "forever"] (by decide) rfl (by decide +kernel) (fun Hs1 ss1 => no (by decide) (?_))))))))
      have S := (S.trans ss1)
      refine tt_eqN (h := "may") rfl (by decide +kernel) (no (by decide) (k0 S rfl))
    | duty b =>
      obtain ⟨a, rfl, hS⟩ := tm_duty hD
      refine ixT rfl hS at0 ?_
      refine tt_inG (h := dutyS b) (b := true) (duties_at T _) rfl (by cases b <;> decide +kernel) (yes rfl (?_))
      exact ixT rfl hS at4 ⟨rfl, _, rfl, yes (by decide) (k0 S rfl)⟩
    | dutyE b =>
      obtain ⟨a, u, rfl, hS, hu⟩ := tm_dutyE hD
      refine ixT rfl hS at0 ?_
      refine tt_inG (h := dutyS b) (b := true) (duties_at T _) rfl (by cases b <;> decide +kernel) (yes rfl (?_))
      obtain ⟨u, rfl⟩ := dt_ref hu
      exact ixT rfl hS at4 ⟨rfl, _, rfl, no (by simp) (ixT rfl hS at4 (k1 S rfl hu))⟩
    | whn =>
      obtain ⟨a, u, rfl, hS, hu⟩ := tm_whn hD
      refine ixT rfl hS at0 ?_
      refine tt_inG (h := "when") (b := false) (duties_at T _) rfl (by decide +kernel) (no (by decide) (tt_eqY rfl (yes rfl (?_))))
      exact ixT rfl hS at5 ⟨rfl, _, rfl, yes (by decide) (ixT rfl hS at4 (k1 S rfl hu))⟩
    | whnE =>
      obtain ⟨a, u, y, rfl, hS, hu, hy⟩ := tm_whnE hD
      refine ixT rfl hS at0 ?_
      refine tt_inG (h := "when") (b := false) (duties_at T _) rfl (by decide +kernel) (no (by decide) (tt_eqY rfl (yes rfl (?_))))
      obtain ⟨y, rfl⟩ := dt_ref hy
      exact ixT rfl hS at5 ⟨rfl, _, rfl, no (by simp) (ixT rfl hS at4 (ixT rfl hS at5 ⟨small (by simp), fun p hp => have s := Same.new hp; k p _ _ s hp upd_same (.cons (s.dt hu) (.cons (s.dt hy) .nil))⟩))⟩
    | grp g =>
      obtain ⟨a, b, us, rfl, hS, hB, hU⟩ := tm_grp hD
      refine ixT rfl hS at0 ?_
      refine tt_inG (h := g.str) (b := false) (duties_at T _) rfl (by cases g <;> decide +kernel) (no (by decide) (?_))
      cases g <;> refine tt_eqN (h := Gr.str _) rfl (by decide +kernel) (no (by decide) (tt_inG (h := Gr.str _) (b := true) (groups_at T _) rfl (by decide +kernel) (yes rfl (ixT rfl hS at1 ⟨b, us, rfl, .inr hB, fun p hp => ?_⟩)))) <;> exact k p _ _ (Same.new hp) hp upd_same ((Same.new hp).dts hU)
    | til =>
      obtain ⟨a, u, rfl, hS, hu⟩ := tm_til hD
      refine ixT rfl hS at0 ?_
      refine tt_inG (h := "until") (b := false) (duties_at T _) rfl (by decide +kernel) (no (by decide) (tt_eqN (h := "until") rfl (by decide +kernel) (no (by decide) (tt_inG (h := "until") (b := false) (groups_at T _) rfl (by decide +kernel) (no (by decide) (tt_inW (h := "until") (b := true) ["until", "forever"] (by decide) rfl (by decide +kernel) (fun Hs1 ss1 => yes rfl (?_))))))))
      have S := (S.trans ss1)
      exact ixT rfl (S.tup hS) at1 (k1 S rfl hu)
    | ever =>
      obtain ⟨a, u, rfl, hS, hu⟩ := tm_ever hD
      refine ixT rfl hS at0 ?_
      refine tt_inG (h := "forever") (b := false) (duties_at T _) rfl (by decide +kernel) (no (by decide) (tt_eqN (h := "forever") rfl (by decide +kernel) (no (by decide) (tt_inG (h := "forever") (b := false) (groups_at T _) rfl (by decide +kernel) (no (by decide) (tt_inW (h := "forever") (b := true) ["until", "forever"] (by decide) rfl (by decide +kernel) (fun Hs1 ss1 => yes rfl (?_))))))))
      have S := (S.trans ss1)
      exact ixT rfl (S.tup hS) at1 (k1 S rfl hu)
    | rep =>
      obtain ⟨a, u, rfl, hS, hu⟩ := tm_rep hD
      refine ixT rfl hS at0 ?_
      refine tt_inG (h := "repeat") (b := false) (duties_at T _) rfl (by decide +kernel) (no (by decide) (tt_eqN (h := "repeat") rfl (by decide +kernel) (no (by decide) (tt_inG (h := "repeat") (b := false) (groups_at T _) rfl (by decide +kernel) (no (by decide) (tt_inW (h := "repeat") (b := false) ["until", "forever"] (by decide) rfl (by decide +kernel) (fun Hs1 ss1 => no (by decide) (tt_eqY rfl (yes rfl (?_))))))))))
      have S := (S.trans ss1)
      exact ixT rfl (S.tup hS) at2 (k1 S rfl hu)
end
end DD
namespace DD
open PySem PySem.Spec
open PyProof.Rows L2
section
variable {base : Heap} {mg : Str → Option Value} {K : PySem.W.Frag} {w : World} {P : Program}
/-! ### a list against the empty list -/
def Fd (K : PySem.W.Frag) (H : Hp) (v : V) : Prop := ∃ d, DT K H v d ∧ Fit 60 d
theorem KT.fd {H H' : Hp} (k : KT H H') {v : V} (h : Fd K H v) : Fd K H' v := let ⟨d, a, b⟩ := h; ⟨d, k.dt a, b⟩
theorem fd_dts {H : Hp} : ∀ {vs : List V}, (∀ v ∈ vs, Fd K H v) → ∃ ds, DTs K H vs ds ∧ ∀ d ∈ ds, Fit 60 d
  | [], _ => ⟨[], .nil, fun d h => by cases h⟩
  | v :: r, h => by
    obtain ⟨d, h1, h2⟩ := h v (by simp)
    obtain ⟨ds, h3, h4⟩ := fd_dts (vs := r) fun u hu => h u (by simp [hu])
    exact ⟨d :: ds, .cons h1 h3, allC h2 h4⟩
theorem fd_str {H : Hp} {x : Str} (h : PyData.strOk x = true) : Fd K H (.str x) := ⟨_, .str x, .str h⟩
theorem eqv_nil (ds : List PyData) : PyData.eqv (.list ds) (.list []) = ds.isEmpty := by cases ds <;> simp [PyData.eqv, PyData.eqvAll]
theorem lst_vs_nil {l : Addr} {vs : List V} {H : Hp} (hl : SqL K H l vs) (hd : ∀ v ∈ vs, Fd K H v) : ∃ d, Dp K H (.ref l) d ∧ SeqAt.shaped d = true ∧ PyData.eqv d (.list []) = vs.isEmpty := by
  obtain ⟨ds, h1, h2⟩ := fd_dts hd
  refine ⟨.list ds, .lst hl (DTs.dps h1), (Fit.lst h2).shaped (by omega), ?_⟩
  rw [eqv_nil]
  cases h1 <;> rfl
theorem ne_nil {l : Addr} {vs : List V} {σ : L2.St} {H : Hp} {Q : VK} (hl : SqL K H l vs) (hd : ∀ v ∈ vs, Fd K H v) (q : ∀ H', Same H H' → Q (.bl (!vs.isEmpty)) H') : tLst tNil σ H fun y H1 => uNe K (.ref l) y H1 Q :=
  ⟨small (by decide), fun p hp => have s := Same.new hp; by
    obtain ⟨d, h1, h2, h3⟩ := lst_vs_nil (s.lst hl) fun v hv => s.kt.fd (hd v hv)
    have := q _ s
    rw [← h3] at this
    exact .inr ⟨d, .list [], h1, .lst (SqL.of upd_same) .nil, h2, by decide +kernel, this⟩⟩
theorem eq_nil {l : Addr} {vs : List V} {σ : L2.St} {H : Hp} {Q : VK} (hl : SqL K H l vs) (hd : ∀ v ∈ vs, Fd K H v) (q : ∀ H', Same H H' → Q (.bl vs.isEmpty) H') : tLst tNil σ H fun y H1 => uEq K (.ref l) y H1 Q :=
  ⟨small (by decide), fun p hp => have s := Same.new hp; by
    obtain ⟨d, h1, h2, h3⟩ := lst_vs_nil (s.lst hl) fun v hv => s.kt.fd (hd v hv)
    have := q _ s
    rw [← h3] at this
    exact .inr ⟨d, .list [], h1, .lst (SqL.of upd_same) .nil, h2, by decide +kernel, this⟩⟩
/-! ### parts with their places -/
theorem St.kid {nm : List Str} {n : Nat} {t k : Tm} (h : St nm n t) (hk : k ∈ t.kids) : ∃ m, n = m + 1 ∧ St nm m k := by
  cases h with
  | dutyE _ _ _ _ ho => rw [List.mem_singleton.mp hk]; exact ⟨_, rfl, ho⟩
  | whn _ _ _ _ hp => rw [List.mem_singleton.mp hk]; exact ⟨_, rfl, hp⟩
  | whnE _ _ _ _ hp ho => exact (List.mem_cons.mp hk).elim (fun e => by rw [e]; exact ⟨_, rfl, hp⟩) fun hk => by rw [List.mem_singleton.mp hk]; exact ⟨_, rfl, ho⟩
  | grp _ _ hks => exact ⟨_, rfl, hks k hk⟩
  | til hp => rw [List.mem_singleton.mp hk]; exact ⟨_, rfl, hp⟩
  | rep _ _ hp => rw [List.mem_singleton.mp hk]; exact ⟨_, rfl, hp⟩
  | ever hp => rw [List.mem_singleton.mp hk]; exact ⟨_, rfl, hp⟩
  | _ => cases hk
theorem St.few {nm : List Str} {n : Nat} {t : Tm} (h : St nm n t) : t.kids.length ≤ 3 := by cases h <;> simp [Tm.kids] <;> assumption
theorem parts_pos (t : Tm) : 1 ≤ t.parts := by rw [parts_kids]; omega
theorem partsAll_reverse (l : List Tm) : partsAll l.reverse = partsAll l := by
  induction l with
  | nil => rfl
  | cons t r ih => rw [List.reverse_cons, partsAll_append, ih]; simp only [partsAll]; omega
theorem partsAll_len (l : List Tm) : l.length ≤ partsAll l := by
  induction l with
  | nil => exact Nat.zero_le _
  | cons t r ih => have := parts_pos t; simp only [partsAll, List.length_cons]; omega
theorem _root_.L2.Same.upd {H H' : Hp} {a : Addr} {o : HO} (e : Same H H') (h : H a = none) : Same H (L2.upd H' a o) := fun b u q => by
  rw [upd_ne (fun z => by rw [z] at q; rw [h] at q; cases q)]
  exact e b u q
/-- a pair (place, part) -/
def Pl (K : PySem.W.Frag) (H : Hp) (nm : List Str) (n : Nat) (v : V) (t : Tm) : Prop := ∃ (e p : Addr) (ps : List Int) (u : V) (m : Nat), v = .ref e ∧ SqT K H e [.ref p, u] ∧ SqT K H p (ps.map V.int) ∧ DT K H u t.d ∧ St nm m t ∧ ps.length + m ≤ n
theorem KT.pl {H H' : Hp} (k : KT H H') {nm : List Str} {n : Nat} {v : V} {t : Tm} (h : Pl K H nm n v t) : Pl K H' nm n v t := by
  obtain ⟨e, p, ps, u, m, h0, h1, h2, h3, h4, h5⟩ := h
  exact ⟨e, p, ps, u, m, h0, k.tup h1, k.tup h2, k.dt h3, h4, h5⟩
theorem dps_ints {H : Hp} : ∀ ps : List Int, DTs K H (ps.map V.int) (ps.map PyData.int)
  | [] => .nil
  | i :: r => .cons (.int i) (dps_ints r)
theorem Pl.fd {H : Hp} {nm : List Str} {n : Nat} {v : V} {t : Tm} (h : Pl K H nm n v t) (hn : n ≤ 20) : Fd K H v := by
  obtain ⟨e, p, ps, u, m, rfl, h1, h2, h3, h4, h5⟩ := h
  refine ⟨.tuple [.tuple (ps.map PyData.int), t.d], .tup h1 (.cons (.tup h2 (dps_ints ps)) (.cons h3 .nil)), ?_⟩
  refine (Fit.tup (n := 2 * m + 1) (allC (Fit.tup (n := 2 * m) fun d hd => ?_) (all1 (h4.tx.fit.mono (by omega))))).mono (by omega)
  obtain ⟨i, _, rfl⟩ := List.mem_map.mp hd
  exact .int
def sumP (es : List (V × Tm)) : Nat := partsAll (es.map Prod.snd)
def Pls (K : PySem.W.Frag) (H : Hp) (nm : List Str) (n : Nat) (es : List (V × Tm)) : Prop := ∀ e ∈ es, Pl K H nm n e.1 e.2
theorem KT.pls {H H' : Hp} (k : KT H H') {nm : List Str} {n : Nat} {es : List (V × Tm)} (h : Pls K H nm n es) : Pls K H' nm n es := fun e he => k.pl (h e he)
theorem pls_app {H : Hp} {nm : List Str} {n : Nat} {es fs : List (V × Tm)} (h : Pls K H nm n es) (g : Pls K H nm n fs) : Pls K H nm n (es ++ fs) := fun e he => (List.mem_append.mp he).elim (h e) (g e)
theorem pls_fd {H : Hp} {nm : List Str} {n : Nat} {es : List (V × Tm)} (h : Pls K H nm n es) (hn : n ≤ 20) : ∀ v ∈ es.map Prod.fst, Fd K H v := fun v hv => by
  obtain ⟨e, he, rfl⟩ := List.mem_map.mp hv
  exact (h e he).fd hn
/-- the last of a list -/
theorem snoc_of {α : Type} {l : List α} (h : l ≠ []) : ∃ i a, l = i ++ [a] := ⟨l.dropLast, l.getLast h, (List.dropLast_concat_getLast h).symm⟩
/-- what the kids' comprehension made -/
theorem kids_pl {H : Hp} {nm : List Str} {n : Nat} : ∀ (ys : List V) (ks : List Tm), ys.length = ks.length → (∀ (i : Nat) y, ys[i]? = some y → ∃ k, ks[i]? = some k ∧ Pl K H nm n y k) → ∃ es : List (V × Tm), ys = es.map Prod.fst ∧ ks = es.map Prod.snd ∧ Pls K H nm n es
  | [], [], _, _ => ⟨[], rfl, rfl, fun e he => by cases he⟩
  | [], _ :: _, h, _ => (by simp at h)
  | _ :: _, [], h, _ => (by simp at h)
  | y :: r, k :: q, h, f => by
    obtain ⟨es, e1, e2, e3⟩ := kids_pl r q (by simpa using h) fun i y e => f (i + 1) y e
    obtain ⟨k', hk, hp⟩ := f 0 y rfl
    cases hk
    exact ⟨(y, k) :: es, by rw [e1]; rfl, by rw [e2]; rfl, allC (P := fun e : V × Tm => Pl K H nm n e.1 e.2) hp e3⟩
def sp_placed_parts (K : PySem.W.Frag) : Sp := fun vs H Q _ => ∃ (v : V) (t : Tm) (nm : List Str) (n : Nat), vs = [v] ∧ DT K H v t.d ∧ St nm n t ∧ n ≤ 20 ∧ t.parts ≤ 1000 ∧ ∀ l es H', Same H H' → H l = none → H' l = some (.lst (es.map Prod.fst)) → Pls K H' nm n es → es.length = t.parts → Q (.ref l) H'
theorem ok_placed_parts (T : Txt w K mg) : FnOk P w K mg base CX0 2 (a_placed_parts K) (fdOf K (a_placed_parts K)) ps_placed_parts (sp_placed_parts K) := by
  have G_children_of := ok_children_of (P := P) (base := base) T
  refine ok0 T.f_placed_parts sc_placed_parts (fun vs H Q E h => ?_) (fun cdv A outer s H vs Q E hr h => ?_)
  · obtain ⟨v, t, _, _, rfl, _⟩ := h; rfl
  · obtain ⟨v, t, nm, n, rfl, hD, hst, hn, hp, k⟩ := h
    have hU64 := hr.units
    have hr_children_of := hr
    refine ⟨_, (pss_cons (ps_set (i := 1) sc_placed_parts.nd rfl (Or.inl rfl) (pe_lst pa_nil)) (pss_cons (ps_set (i := 2) sc_placed_parts.nd rfl (Or.inl rfl) (pe_lst (pa_cons (pe_tup (pa_cons (pe_tup pa_nil) (pa_cons (pv 0) pa_nil))) pa_nil))) (pss_cons (ps_while PassesOwn.never (pt_cmpR (k_ne K hU64) (pv 2) (pe_lst pa_nil) (nomark _)) (pss_cons (ps_asg (k_bm0 K PySem.F.plainAttrs_list PySem.F.slot_list_pop PySem.F.type_list_pop mt_pop (pv 2)) (k_tup K (n := 2) rfl (pgs_cons (pg_name (i := 3) sc_placed_parts.nd rfl (Or.inr rfl) (Or.inl rfl)) (pgs_cons (pg_name (i := 4) sc_placed_parts.nd rfl (Or.inl rfl) (Or.inl rfl)) pgs_nil)))) (pss_cons (ps_expr (k_bm K PySem.F.plainAttrs_list PySem.F.slot_list_append PySem.F.type_list_append mt_append (pv 1) (pa_cons (pe_tup (pa_cons (pv 3) (pa_cons (pv 4) pa_nil))) pa_nil))) (pss_cons (ps_set (i := 5) sc_placed_parts.nd rfl (Or.inr rfl) (pe_call G_children_of hr_children_of rfl T.g_children_of T.k_children_of T.b_children_of .nil pass0 (pa_cons (pv 4) pa_nil))) (pss_one (ps_expr (k_bm K PySem.F.plainAttrs_list PySem.F.slot_list_extend PySem.F.type_list_extend mt_extend (pv 2) (pa_cons (pe_revL (pe_lc (own := [("at", 6)]) (by rfl) sc_placed_parts.nd (pi_range1 rfl T.n_range (pa_cons (pe_callB (k_len K) (by rfl) T.n_len (by decide +kernel) (pa_cons (pv 5) pa_nil)) pa_nil)) (blkOk_by (own := [("at", 6)]) (N := N_placed_parts) (sc := defScope s_placed_parts) (by decide +kernel)) (fun _ _ _ _ _ => (pg_name (i := 6) sc_placed_parts.nd rfl (Or.inl rfl) (Or.inr rfl))) (fun _ _ _ _ _ => pts_nil) (fun _ _ _ _ _ => (pe_tup (pa_cons (pe_op (k_add K) (pv 3) (pe_tup (pa_cons (pv 6) pa_nil))) (pa_cons (pe_ix (k_ix K) (pv 5) (pv 6) (fun _ _ => rfl)) pa_nil)))))) pa_nil)))))))) (pss_one (ps_ret (pv 1)))))), ?_⟩
    refine ⟨small (by decide), fun F hF => ?_⟩
    have sF := Same.new (o := .lst []) hF
    refine ⟨small (by decide), fun p0 hp0 => ⟨_, rfl, small (by simp), fun e0 he0 => ⟨small (by simp), fun wt hwt => ?_⟩⟩⟩
    have s0 := Same.new (o := .tup []) hp0
    have s1 := s0.trans (Same.new (o := .tup [.ref p0, v]) he0)
    have s2 := s1.trans (Same.new (o := .lst [.ref e0]) hwt)
    refine ⟨fun m σ H' => ∃ (x3 x4 x5 : Option V) (es fs : List (V × Tm)), σ = [some v, some (.ref F), some (.ref wt), x3, x4, x5, none] ∧ Same H H' ∧ H' F = some (.lst (fs.map Prod.fst)) ∧ H' wt = some (.lst (es.map Prod.fst)) ∧ Pls K H' nm n es ∧ Pls K H' nm n fs ∧ fs.length + sumP es = t.parts ∧ m = sumP es, ⟨_, none, none, none, [(.ref e0, t)], [], rfl, sF.trans s2, s2 _ _ upd_same, upd_same, ?_, (fun e he => nomatch he), ?_, rfl⟩, ?_⟩
    · exact all1 (P := fun e : V × Tm => Pl K _ nm n e.1 e.2) ⟨e0, p0, [], v, n, rfl, SqT.of (by rw [upd_ne (fun z => by rw [z] at hwt; rw [upd_same] at hwt; cases hwt)]; exact upd_same), (Same.trans (Same.new he0) (Same.new hwt)).tup (SqT.of upd_same), (sF.trans s2).dt hD, hst, by simp⟩
    · simp [sumP, partsAll]
    rintro m σ H1 ⟨x3, x4, x5, es, fs, rfl, S1, hF1, hW1, he1, hf1, hsum, rfl⟩
    refine ⟨_, rfl, ne_nil (SqL.of hW1) (pls_fd he1 (by omega)) fun H2 S2 => ⟨_, rfl, ?_⟩⟩
    have fn : F ≠ wt := fun z => by rw [← z] at hwt; rw [s1 _ _ upd_same] at hwt; cases hwt
    have fw : H wt = none := by
      cases q : H wt with
      | none => rfl
      | some u => rw [s1 _ _ (sF _ _ q)] at hwt; cases hwt
    (refine ite2 (fun c => ?_) (fun c => ?_))
    · have hes : es ≠ [] := fun z => by rw [z] at c; exact absurd c (by decide)
      obtain ⟨iz, ⟨u, tt⟩, rfl⟩ := snoc_of hes
      have hpl : Pl K H1 nm n u tt := he1 (u, tt) (by simp)
      obtain ⟨e, p, ps, u2, m, e0, h1, h2, h3, h4, h5⟩ := hpl
      cases e0
      refine ⟨_, fun σ' H' q => ⟨sumP iz + partsAll tt.kids, ?_, q⟩, ?_⟩
      · rw [show sumP (iz ++ [(V.ref e, tt)]) = sumP iz + tt.parts by simp [sumP, partsAll_append, partsAll], parts_kids tt]; omega
      have hW2 := S2 _ _ hW1
      refine ⟨_, rfl, .inl ⟨rfl, _, SqL.of hW2⟩, wt, _, .ref e, rfl, rfl, hW2, ?_, ?_⟩
      · simp
      have S3 : Same H (upd H2 wt (.lst ((iz ++ [(V.ref e, tt)]).map Prod.fst).dropLast)) := (S1.trans S2).upd fw
      have K3 : KT H2 (upd H2 wt (.lst ((iz ++ [(V.ref e, tt)]).map Prod.fst).dropLast)) := KT.updL hW2
      have hF3 : (upd H2 wt (.lst ((iz ++ [(V.ref e, tt)]).map Prod.fst).dropLast)) F = some (.lst (fs.map Prod.fst)) := by rw [upd_ne fn]; exact S2 _ _ hF1
      have hW3 : (upd H2 wt (.lst ((iz ++ [(V.ref e, tt)]).map Prod.fst).dropLast)) wt = some (.lst (iz.map Prod.fst)) := by rw [upd_same]; simp
      have K13 := S2.kt.trans K3
      have hiz : Pls K _ nm n iz := K13.pls fun e he => he1 e (by simp [he])
      have hfs := K13.pls hf1
      have h1 := K13.tup h1; have h2 := K13.tup h2; have h3 := K13.dt h3
      generalize (upd H2 wt (.lst ((iz ++ [(V.ref e, tt)]).map Prod.fst).dropLast)) = H3 at S3 hF3 hW3 hiz hfs h1 h2 h3 ⊢
      refine ⟨e, _, rfl, h1, rfl, _, _, rfl, _, _, rfl, rfl, ?_⟩
      refine ⟨_, rfl, .inl ⟨rfl, _, SqL.of hF3⟩, _, rfl, _, rfl, small (by simp), fun e4 he4 => ?_⟩
      have s4 := Same.new (o := .tup [.ref p, u2]) he4
      have hl4 : (fs.map Prod.fst).length < sizeLine := smallLt (by rw [List.length_map]; omega)
      refine ⟨F, fs.map Prod.fst, .ref e4, rfl, rfl, s4 _ _ hF3, hl4, ?_⟩
      have S5 : Same H (upd (upd H3 e4 (.tup [.ref p, u2])) F (.lst (fs.map Prod.fst ++ [.ref e4]))) := (S3.trans s4).upd hF
      have K5 : KT H3 (upd (upd H3 e4 (.tup [.ref p, u2])) F (.lst (fs.map Prod.fst ++ [.ref e4]))) := s4.kt.trans (KT.updL (s4 _ _ hF3))
      have hW5 : (upd (upd H3 e4 (.tup [.ref p, u2])) F (.lst (fs.map Prod.fst ++ [.ref e4]))) wt = some (.lst (iz.map Prod.fst)) := by rw [upd_ne (fun z => fn z.symm)]; exact s4 _ _ hW3
      have hF5 : (upd (upd H3 e4 (.tup [.ref p, u2])) F (.lst (fs.map Prod.fst ++ [.ref e4]))) F = some (.lst ((fs ++ [(V.ref e4, tt)]).map Prod.fst)) := by rw [upd_same, List.map_append]; rfl
      have hiz := K5.pls hiz
      have he4' : SqT K (upd (upd H3 e4 (.tup [.ref p, u2])) F (.lst (fs.map Prod.fst ++ [.ref e4]))) e4 [.ref p, u2] := (KT.updL (s4 _ _ hF3)).tup (SqT.of upd_same)
      have hfs : Pls K _ nm n (fs ++ [(V.ref e4, tt)]) := pls_app (K5.pls hfs) (all1 (P := fun e : V × Tm => Pl K _ nm n e.1 e.2) ⟨e4, p, ps, u2, m, rfl, he4', K5.tup h2, K5.dt h3, h4, h5⟩)
      have h2 := K5.tup h2; have h3 := K5.dt h3
      clear he4' K5
      generalize (upd (upd H3 e4 (.tup [.ref p, u2])) F (.lst (fs.map Prod.fst ++ [.ref e4]))) = H5 at S5 hF5 hW5 hiz hfs h2 h3 ⊢
      refine ⟨_, rfl, u2, tt, rfl, h3, fun l us H6 S6 hl hl6 hus => ?_⟩
      have hul : us.length = tt.kids.length := by rw [dps_len hus, List.length_map]
      have hk3 : tt.kids.length ≤ 3 := h4.few
      refine ⟨_, rfl, .inl ⟨rfl, _, SqL.of (S6 _ _ hW5)⟩, _, rfl, _, _, rfl, .inl ⟨_, SqL.of hl6, rfl⟩, _, rfl, by omega, by omega, fun D hD => ?_⟩
      refine lc_n (walk_range (lo := 0) (n := ((us.length : Nat) : Int).toNat)) (fun i y H' => ∃ k, tt.kids[i]? = some k ∧ Pl K H' nm n y k) (fun i o H H' kk ⟨k, h1, h2⟩ => ⟨k, h1, kk.pl h2⟩) hD (by omega) (fun H1 s1 => trivial) ?_ ?_
      · rintro i v H1 H2 Kt hi S7 ⟨rfl, rfl⟩ kk
        refine ⟨rfl, _, rfl, _, rfl, small (by simp), fun q1 hq1 => ?_⟩
        have S8 := Same.new (o := .tup [.int (0 + (i : Nat))]) hq1
        refine catT ((S6.trans (S7.trans S8)).tup h2) (SqT.of upd_same) (by simp; omega) fun q2 H8 S9 hq2 => ?_
        have hi' : i < us.length := by simpa using hi
        obtain ⟨ui, hui⟩ : ∃ u, us[i]? = some u := ⟨us[i], List.getElem?_eq_getElem hi'⟩
        obtain ⟨d, hd1, hd2⟩ := dps_get hus hui
        rw [List.getElem?_map] at hd1
        cases hki : tt.kids[i]? with
        | none => rw [hki] at hd1; cases hd1
        | some kid =>
          rw [hki] at hd1; cases hd1
          have S10 := S7.trans (S8.trans S9)
          refine ⟨_, rfl, _, rfl, .inl ⟨l, us, (0 + (i : Nat) : Int), ui, rfl, rfl, S10.lst (SqL.of hl6), by rw [Int.zero_add]; exact atI_nat hui, small (by simp), fun q3 hq3 => ?_⟩⟩
          have S11 := Same.new (o := .tup [.ref q2, ui]) hq3
          obtain ⟨m', rfl, hkd⟩ := h4.kid (List.mem_of_getElem? hki)
          refine kk _ _ (S8.trans (S9.trans S11)) ⟨kid, hki, q3, q2, ps ++ [(0 + (i : Nat) : Int)], ui, m', rfl, SqT.of upd_same, S11.tup (by rw [List.map_append]; exact hq2), (S10.trans S11).dt hd2, hkd, by simp; omega⟩
      · intro ys H7 S7 hyl hy hD7
        obtain ⟨ks, rfl, hks, hpk⟩ := kids_pl ys tt.kids (by rw [hyl]; omega) hy
        refine ⟨D, _, rfl, SqL.of hD7, fun q1 hq1 => ?_⟩
        have S8 := Same.new (o := .lst (ks.map Prod.fst).reverse) hq1
        have S9 := (S5.trans S6).trans (S7.trans S8)
        have hW8 := S8 _ _ (S7 _ _ (S6 _ _ hW5))
        have hF8 := S8 _ _ (S7 _ _ (S6 _ _ hF5))
        have hsm : fs.length + 1 + (sumP iz + partsAll tt.kids) = t.parts := by
          have := parts_kids tt
          rw [show sumP (iz ++ [(V.ref e, tt)]) = sumP iz + tt.parts by simp [sumP, partsAll_append, partsAll]] at hsum
          omega
        have hil : iz.length ≤ sumP iz := by have := partsAll_len (iz.map Prod.snd); rw [List.length_map] at this; exact this
        have hkl : ks.length ≤ 3 := by have := congrArg List.length hks; rw [List.length_map] at this; omega
        refine ⟨_, _, _, _, rfl, rfl, hW8, upd_same, small (by simp; omega), ?_⟩
        have K9 := KT.updL (o := .lst (iz.map Prod.fst ++ (ks.map Prod.fst).reverse)) hW8
        have K8 := (S6.trans (S7.trans S8)).kt.trans K9
        refine ⟨_, _, _, iz ++ ks.reverse, fs ++ [(.ref e4, tt)], rfl, S9.upd fw, by rw [upd_ne fn]; exact hF8, by rw [upd_same, List.map_append, List.map_reverse], pls_app (K8.pls hiz) (fun x hx => (S8.kt.trans K9).pls hpk x (List.mem_reverse.mp hx)), K8.pls hfs, ?_, ?_⟩
        · simp only [sumP, List.map_append, List.map_reverse, partsAll_append, partsAll_reverse, ← hks, List.length_append, List.length_singleton]
          simp only [sumP] at hsm
          omega
        · simp only [sumP, List.map_append, List.map_reverse, partsAll_append, partsAll_reverse, ← hks]
    · have hes : es = [] := by cases es with
        | nil => rfl
        | cons a r => exact absurd rfl c
      subst hes
      exact ⟨_, rfl, k F fs H2 (S1.trans S2) hF (S2 _ _ hF1) (S2.kt.pls hf1) (by simpa [sumP, partsAll] using hsum)⟩
/-! ### first_unformed -/
def sp_first_unformed (K : PySem.W.Frag) : Sp := fun vs H Q _ => ∃ (v : V) (t : Tm) (nm : List Str) (n : Nat), vs = [v] ∧ DT K H v t.d ∧ St nm n t ∧ n ≤ 8 ∧ t.parts ≤ 1000 ∧ ∀ H', Same H H' → Q .non H'
theorem ok_first_unformed (T : Txt w K mg) : FnOk P w K mg base CX0 5 (a_first_unformed K) (fdOf K (a_first_unformed K)) ps_first_unformed (sp_first_unformed K) := by
  have G_children_of := ok_children_of (P := P) (base := base) T
  have G_is_formed := ok_is_formed (P := P) (base := base) T
  refine ok0 T.f_first_unformed sc_first_unformed (fun vs H Q E h => ?_) (fun cdv A outer s H vs Q E hr h => ?_)
  · obtain ⟨v, t, _, _, rfl, _⟩ := h; rfl
  · obtain ⟨v, t, nm, n, rfl, hD, hst, hn, hp, k⟩ := h
    have hU64 := hr.units
    have hr_children_of : Room 1 _ := hr.mono (by decide)
    have hr_is_formed := hr
    refine ⟨_, (pss_cons (ps_set (i := 1) sc_first_unformed.nd rfl (Or.inl rfl) (pe_lst (pa_cons (pe_tup (pa_cons (pe_tup pa_nil) (pa_cons (pv 0) pa_nil))) pa_nil))) (pss_cons (ps_while PassesOwn.never (pt_cmpR (k_ne K hU64) (pv 1) (pe_lst pa_nil) (nomark _)) (pss_cons (ps_asg (k_bm0 K PySem.F.plainAttrs_list PySem.F.slot_list_pop PySem.F.type_list_pop mt_pop (pv 1)) (k_tup K (n := 2) rfl (pgs_cons (pg_name (i := 2) sc_first_unformed.nd rfl (Or.inr rfl) (Or.inl rfl)) (pgs_cons (pg_name (i := 3) sc_first_unformed.nd rfl (Or.inl rfl) (Or.inl rfl)) pgs_nil)))) (pss_cons (ps_if (pt_not (pt_val (pe_call G_is_formed hr_is_formed rfl T.g_is_formed T.k_is_formed T.b_is_formed .nil pass0 (pa_cons (pv 3) pa_nil)))) (pss_one (ps_ret (pv 2))) pss_nil) (pss_cons (ps_set (i := 4) sc_first_unformed.nd rfl (Or.inr rfl) (pe_call G_children_of hr_children_of rfl T.g_children_of T.k_children_of T.b_children_of .nil pass0 (pa_cons (pv 3) pa_nil))) (pss_one (ps_expr (k_bm K PySem.F.plainAttrs_list PySem.F.slot_list_extend PySem.F.type_list_extend mt_extend (pv 1) (pa_cons (pe_revL (pe_lc (own := [("at", 5)]) (by rfl) sc_first_unformed.nd (pi_range1 rfl T.n_range (pa_cons (pe_callB (k_len K) (by rfl) T.n_len (by decide +kernel) (pa_cons (pv 4) pa_nil)) pa_nil)) (blkOk_by (own := [("at", 5)]) (N := N_first_unformed) (sc := defScope s_first_unformed) (by decide +kernel)) (fun _ _ _ _ _ => (pg_name (i := 5) sc_first_unformed.nd rfl (Or.inl rfl) (Or.inr rfl))) (fun _ _ _ _ _ => pts_nil) (fun _ _ _ _ _ => (pe_tup (pa_cons (pe_op (k_add K) (pv 2) (pe_tup (pa_cons (pv 5) pa_nil))) (pa_cons (pe_ix (k_ix K) (pv 4) (pv 5) (fun _ _ => rfl)) pa_nil)))))) pa_nil)))))))) (pss_one (ps_ret pe_non)))), ?_⟩
    refine ⟨small (by decide), fun p0 hp0 => ⟨_, rfl, small (by simp), fun e0 he0 => ⟨small (by simp), fun wt hwt => ?_⟩⟩⟩
    have s0 := Same.new (o := .tup []) hp0
    have s1 := s0.trans (Same.new (o := .tup [.ref p0, v]) he0)
    have s2 := s1.trans (Same.new (o := .lst [.ref e0]) hwt)
    refine ⟨fun m σ H' => ∃ (x3 x4 x5 : Option V) (es : List (V × Tm)), σ = [some v, some (.ref wt), x3, x4, x5, none] ∧ Same H H' ∧ H' wt = some (.lst (es.map Prod.fst)) ∧ Pls K H' nm n es ∧ sumP es ≤ t.parts ∧ m = sumP es, ⟨_, none, none, none, [(.ref e0, t)], rfl, s2, upd_same, ?_, ?_, rfl⟩, ?_⟩
    · exact all1 (P := fun e : V × Tm => Pl K _ nm n e.1 e.2) ⟨e0, p0, [], v, n, rfl, SqT.of (by rw [upd_ne (fun z => by rw [z] at hwt; rw [upd_same] at hwt; cases hwt)]; exact upd_same), (Same.trans (Same.new he0) (Same.new hwt)).tup (SqT.of upd_same), s2.dt hD, hst, by simp⟩
    · simp [sumP, partsAll]
    rintro m σ H1 ⟨x3, x4, x5, es, rfl, S1, hW1, he1, hsum, rfl⟩
    refine ⟨_, rfl, ne_nil (SqL.of hW1) (pls_fd he1 (by omega)) fun H2 S2 => ⟨_, rfl, ?_⟩⟩
    have fw : H wt = none := by
      cases q : H wt with
      | none => rfl
      | some u => rw [s1 _ _ q] at hwt; cases hwt
    (refine ite2 (fun c => ?_) (fun c => ?_))
    · have hes : es ≠ [] := fun z => by rw [z] at c; exact absurd c (by decide)
      obtain ⟨iz, ⟨u, tt⟩, rfl⟩ := snoc_of hes
      have hpl : Pl K H1 nm n u tt := he1 (u, tt) (by simp)
      obtain ⟨e, p, ps, u2, m, e0, h1, h2, h3, h4, h5⟩ := hpl
      cases e0
      refine ⟨_, fun σ' H' q => ⟨sumP iz + partsAll tt.kids, ?_, q⟩, ?_⟩
      · rw [show sumP (iz ++ [(V.ref e, tt)]) = sumP iz + tt.parts by simp [sumP, partsAll_append, partsAll], parts_kids tt]; omega
      have hW2 := S2 _ _ hW1
      refine ⟨_, rfl, .inl ⟨rfl, _, SqL.of hW2⟩, wt, _, .ref e, rfl, rfl, hW2, ?_, ?_⟩
      · simp
      have S3 : Same H (upd H2 wt (.lst ((iz ++ [(V.ref e, tt)]).map Prod.fst).dropLast)) := (S1.trans S2).upd fw
      have K3 : KT H2 (upd H2 wt (.lst ((iz ++ [(V.ref e, tt)]).map Prod.fst).dropLast)) := KT.updL hW2
      have hW3 : (upd H2 wt (.lst ((iz ++ [(V.ref e, tt)]).map Prod.fst).dropLast)) wt = some (.lst (iz.map Prod.fst)) := by rw [upd_same]; simp
      have K13 := S2.kt.trans K3
      have hiz : Pls K _ nm n iz := K13.pls fun e he => he1 e (by simp [he])
      have h1 := K13.tup h1; have h2 := K13.tup h2; have h3 := K13.dt h3
      generalize (upd H2 wt (.lst ((iz ++ [(V.ref e, tt)]).map Prod.fst).dropLast)) = H3 at S3 hW3 hiz h1 h2 h3 ⊢
      refine ⟨e, _, rfl, h1, rfl, _, _, rfl, _, _, rfl, rfl, ?_⟩
      refine ⟨_, rfl, u2, tt, nm, m, rfl, h3, h4, by omega, fun H5 S45 => ⟨_, rfl, no (by decide) ?_⟩⟩
      have S5 : Same H H5 := S3.trans S45
      have hW5 := S45 _ _ hW3
      have hiz := S45.kt.pls hiz
      have h2 := S45.tup h2; have h3 := S45.dt h3
      refine ⟨_, rfl, u2, tt, rfl, h3, fun l us H6 S6 hl hl6 hus => ?_⟩
      have hul : us.length = tt.kids.length := by rw [dps_len hus, List.length_map]
      have hk3 : tt.kids.length ≤ 3 := h4.few
      refine ⟨_, rfl, .inl ⟨rfl, _, SqL.of (S6 _ _ hW5)⟩, _, rfl, _, _, rfl, .inl ⟨_, SqL.of hl6, rfl⟩, _, rfl, by omega, by omega, fun D hD => ?_⟩
      refine lc_n (walk_range (lo := 0) (n := ((us.length : Nat) : Int).toNat)) (fun i y H' => ∃ k, tt.kids[i]? = some k ∧ Pl K H' nm n y k) (fun i o H H' kk ⟨k, h1, h2⟩ => ⟨k, h1, kk.pl h2⟩) hD (by omega) (fun H1 s1 => trivial) ?_ ?_
      · rintro i v H1 H2 Kt hi S7 ⟨rfl, rfl⟩ kk
        refine ⟨rfl, _, rfl, _, rfl, small (by simp), fun q1 hq1 => ?_⟩
        have S8 := Same.new (o := .tup [.int (0 + (i : Nat))]) hq1
        refine catT ((S6.trans (S7.trans S8)).tup h2) (SqT.of upd_same) (by simp; omega) fun q2 H8 S9 hq2 => ?_
        have hi' : i < us.length := by simpa using hi
        obtain ⟨ui, hui⟩ : ∃ u, us[i]? = some u := ⟨us[i], List.getElem?_eq_getElem hi'⟩
        obtain ⟨d, hd1, hd2⟩ := dps_get hus hui
        rw [List.getElem?_map] at hd1
        cases hki : tt.kids[i]? with
        | none => rw [hki] at hd1; cases hd1
        | some kid =>
          rw [hki] at hd1; cases hd1
          have S10 := S7.trans (S8.trans S9)
          refine ⟨_, rfl, _, rfl, .inl ⟨l, us, (0 + (i : Nat) : Int), ui, rfl, rfl, S10.lst (SqL.of hl6), by rw [Int.zero_add]; exact atI_nat hui, small (by simp), fun q3 hq3 => ?_⟩⟩
          have S11 := Same.new (o := .tup [.ref q2, ui]) hq3
          obtain ⟨m', rfl, hkd⟩ := h4.kid (List.mem_of_getElem? hki)
          refine kk _ _ (S8.trans (S9.trans S11)) ⟨kid, hki, q3, q2, ps ++ [(0 + (i : Nat) : Int)], ui, m', rfl, SqT.of upd_same, S11.tup (by rw [List.map_append]; exact hq2), (S10.trans S11).dt hd2, hkd, by simp; omega⟩
      · intro ys H7 S7 hyl hy hD7
        obtain ⟨ks, rfl, hks, hpk⟩ := kids_pl ys tt.kids (by rw [hyl]; omega) hy
        refine ⟨D, _, rfl, SqL.of hD7, fun q1 hq1 => ?_⟩
        have S8 := Same.new (o := .lst (ks.map Prod.fst).reverse) hq1
        have S9 := (S5.trans S6).trans (S7.trans S8)
        have hW8 := S8 _ _ (S7 _ _ (S6 _ _ hW5))
        have hsm : 1 + (sumP iz + partsAll tt.kids) ≤ t.parts := by
          have := parts_kids tt
          rw [show sumP (iz ++ [(V.ref e, tt)]) = sumP iz + tt.parts by simp [sumP, partsAll_append, partsAll]] at hsum
          omega
        have hil : iz.length ≤ sumP iz := by have := partsAll_len (iz.map Prod.snd); rw [List.length_map] at this; exact this
        have hkl : ks.length ≤ 3 := by have := congrArg List.length hks; rw [List.length_map] at this; omega
        refine ⟨_, _, _, _, rfl, rfl, hW8, upd_same, small (by simp; omega), ?_⟩
        have K9 := KT.updL (o := .lst (iz.map Prod.fst ++ (ks.map Prod.fst).reverse)) hW8
        have K8 := (S6.trans (S7.trans S8)).kt.trans K9
        refine ⟨_, _, _, iz ++ ks.reverse, rfl, S9.upd fw, by rw [upd_same, List.map_append, List.map_reverse], pls_app (K8.pls hiz) (fun x hx => (S8.kt.trans K9).pls hpk x (List.mem_reverse.mp hx)), ?_, ?_⟩
        · simp only [sumP, List.map_append, List.map_reverse, partsAll_append, partsAll_reverse, ← hks]
          simp only [sumP] at hsm
          omega
        · simp only [sumP, List.map_append, List.map_reverse, partsAll_append, partsAll_reverse, ← hks]
    · have hes : es = [] := by cases es with
        | nil => rfl
        | cons a r => exact absurd rfl c
      subst hes
      exact k H2 (S1.trans S2)
end
end DD
namespace DD
open PySem PySem.Spec
open PyProof.Rows L2
section
variable {base : Heap} {mg : Str → Option Value} {K : PySem.W.Frag} {w : World} {P : Program}
theorem St.pos {nm : List Str} {n : Nat} {t : Tm} (h : St nm n t) : 1 ≤ n := by cases h <;> omega
/-! ### levels_of -/
def sp_levels_of (K : PySem.W.Frag) : Sp := fun vs H Q _ => ∃ (v : V) (t : Tm) (nm : List Str) (n : Nat), vs = [v] ∧ DT K H v t.d ∧ St nm n t ∧ n ≤ 20 ∧ t.parts ≤ 1000 ∧ ∀ (m : Int) H', Same H H' → m ≤ n → Q (.int m) H'
theorem ok_levels_of (T : Txt w K mg) : FnOk P w K mg base CX0 3 (a_levels_of K) (fdOf K (a_levels_of K)) ps_levels_of (sp_levels_of K) := by
  have G_placed_parts := ok_placed_parts (P := P) (base := base) T
  refine ok0 T.f_levels_of sc_levels_of (fun vs H Q E h => ?_) (fun cdv A outer s H vs Q E hr h => ?_)
  · obtain ⟨v, t, _, _, rfl, _⟩ := h; rfl
  · obtain ⟨v, t, nm, n, rfl, hD, hst, hn, hp, k⟩ := h
    have hr_placed_parts := hr
    refine ⟨_, (pss_one (ps_ret (pe_op (k_add K) (pe_callB (k_max K rfl) (by rfl) T.n_max (by decide +kernel) (pa_cons (pe_lc (own := [("place", 1), ("part", 2)]) (by rfl) sc_levels_of.nd (k_piL K (pe_call G_placed_parts hr_placed_parts rfl T.g_placed_parts T.k_placed_parts T.b_placed_parts .nil pass0 (pa_cons (pv 0) pa_nil))) (blkOk_by (own := [("place", 1), ("part", 2)]) (N := N_levels_of) (sc := defScope s_levels_of) (by decide +kernel)) (fun _ _ _ _ _ => (k_tup K (n := 2) rfl (pgs_cons (pg_name (i := 1) sc_levels_of.nd rfl (Or.inl rfl) (Or.inr rfl)) (pgs_cons (pg_name (i := 2) sc_levels_of.nd rfl (Or.inl rfl) (Or.inr rfl)) pgs_nil)))) (fun _ _ _ _ _ => pts_nil) (fun _ _ _ _ _ => (pe_callB (k_len K) (by rfl) T.n_len (by decide +kernel) (pa_cons (pv 1) pa_nil)))) pa_nil)) pe_int))), ?_⟩
    refine ⟨_, rfl, v, t, nm, n, rfl, hD, hst, hn, hp, fun l es H1 S1 hl hl1 hpl hlen => ⟨_, rfl, ⟨_, SqL.of hl1⟩, fun D hD => ?_⟩⟩
    refine lc_n (walk_list (xs := es.map Prod.fst)) (fun i v _ => ∃ k : Int, v = .int k ∧ k + 1 ≤ n) (fun i o H H' _ h => h) hD (by rw [List.length_map]; omega) (fun H2 s2 => s2.lst (SqL.of hl1)) ?_ ?_
    · rintro i x H2 H3 Kt hi s2 ⟨rfl, e⟩ kk
      have hm := List.mem_of_getElem? e
      obtain ⟨e1, he1, rfl⟩ := List.mem_map.mp hm
      obtain ⟨e, p, ps, u, m, e0, h1, h2, h3, h4, h5⟩ := s2.kt.pls hpl e1 he1
      have := h4.pos
      refine ⟨e, _, e0, h1, rfl, _, _, rfl, _, _, rfl, rfl, rfl, ?_⟩
      refine ⟨_, rfl, _, _, rfl, .inr ⟨_, h2, rfl⟩, kk _ _ (Same.refl _) ⟨_, rfl, ?_⟩⟩
      rw [List.length_map]; omega
    · intro ys H2 s2 hl2 hy hD1
      obtain ⟨ks, rfl, hk⟩ := pickL V.int ys (fun i k => k + 1 ≤ n) fun i y e => let ⟨k, e1, e2⟩ := hy i y e; ⟨k, e1, e2⟩
      refine ⟨D, ks, rfl, SqL.of hD1, ?_, fun m hm _ => ?_⟩
      · have := parts_pos t
        simp only [List.length_map] at hl2; omega
      · obtain ⟨i, hi⟩ := List.getElem?_of_mem hm
        have := hk i m hi
        exact .inl ⟨_, _, rfl, rfl, k _ _ (S1.trans s2) this⟩
theorem te_eqY {σ : L2.St} {H : Hp} {i : Nat} {z : Str} {Q : VK} (hσ : σ[i]? = some (some (.str z))) (q : Q (.bl true) H) : tOp (uEq K) (tVar i) (tC (.str z)) σ H Q :=
  ⟨_, hσ, .inl ⟨rfl, by rw [decide_eq_true (rfl : V.str z = V.str z)]; exact q⟩⟩
theorem te_eqN {σ : L2.St} {H : Hp} {i : Nat} {h z : Str} {Q : VK} (hσ : σ[i]? = some (some (.str h))) (ne : ¬ h = z) (q : Q (.bl false) H) : tOp (uEq K) (tVar i) (tC (.str z)) σ H Q :=
  ⟨_, hσ, .inl ⟨rfl, by rw [decide_eq_false fun e => ne (V.str.inj e)]; exact q⟩⟩
/-- what stands at a kid's place -/
theorem kid_at {H : Hp} {us : List V} {ks : List Tm} {i : Nat} {x : V} (hU : DTs K H us (ks.map Tm.d)) (e : us[i]? = some x) : ∃ t, ks[i]? = some t ∧ DT K H x t.d := by
  obtain ⟨d, h1, h2⟩ := dps_get hU e
  rw [List.getElem?_map] at h1
  cases q : ks[i]? with
  | none => rw [q] at h1; cases h1
  | some t => rw [q] at h1; cases h1; exact ⟨t, rfl, h2⟩
theorem kids_len {H : Hp} {us : List V} {ks : List Tm} (hU : DTs K H us (ks.map Tm.d)) : us.length = ks.length := by rw [dps_len hU, List.length_map]
/-- answers of a test on each kid -/
theorem bools_of {f : Tm → Bool} {ks : List Tm} {n : Nat} {ys : List V} (hl : ys.length = n) (hn : n = ks.length) (h : ∀ (i : Nat) y, ys[i]? = some y → ∃ t, ks[i]? = some t ∧ y = .bl (f t)) : ys = (ks.map f).map V.bl := by
  rw [List.map_map]
  exact map_of (f := fun t => V.bl (f t)) (by rw [hl, hn]) h
/-! ### does_begin_done -/
def sp_does_begin_done (K : PySem.W.Frag) (n : Nat) : Sp := fun vs H Q _ => ∃ (v : V) (t : Tm) (nm : List Str), vs = [v] ∧ DT K H v t.d ∧ St nm n t ∧ ∀ H', Same H H' → Q (.bl t.bd) H'
theorem ok_does_begin_done (T : Txt w K mg) : ∀ n, FnOk P w K mg base CX0 (n + 2) (a_does_begin_done K) (fdOf K (a_does_begin_done K)) ps_does_begin_done (sp_does_begin_done K n) := by
  have G_children_of := ok_children_of (P := P) (base := base) T
  intro n
  induction n with
  | zero =>
    refine ok0 T.f_does_begin_done sc_does_begin_done (fun vs H Q E h => ?_) (fun cdv A outer s H vs Q E hr h => ?_)
    · obtain ⟨v, t, _, rfl, _⟩ := h; rfl
    · obtain ⟨v, t, nm, rfl, hD, hst, k⟩ := h
      cases hst
  | succ n ih =>
    have G_does_begin_done := ih
    refine ok0 T.f_does_begin_done sc_does_begin_done (fun vs H Q E h => ?_) (fun cdv A outer s H vs Q E hr h => ?_)
    · obtain ⟨v, t, _, rfl, _⟩ := h; rfl
    · obtain ⟨v, t, nm, rfl, hD, hst, k⟩ := h
      have hU64 := hr.units
      have hr_children_of : Room 1 _ := hr.mono (by omega)
      have hr_does_begin_done := hr
      refine ⟨_, (pss_cons (ps_set (i := 1) sc_does_begin_done.nd rfl (Or.inl rfl) (pe_ix (k_ix K) (pv 0) pe_int (fun _ _ => rfl))) (pss_cons (ps_if (pt_cmpR (k_in K) (pv 1) (pe_tup (pa_cons pe_str (pa_cons pe_str pa_nil))) (by rfl)) (pss_one (ps_ret (pe_callB (k_all K rfl) (by rfl) T.n_all (by decide +kernel) (pa_cons (pe_lc (own := [("kid", 2)]) (by rfl) sc_does_begin_done.nd (k_piT K (pe_ix (k_ix K) (pv 0) pe_int (fun _ _ => rfl))) (blkOk_by (own := [("kid", 2)]) (N := N_does_begin_done) (sc := defScope s_does_begin_done) (by decide +kernel)) (fun _ _ _ _ _ => (pg_name (i := 2) sc_does_begin_done.nd rfl (Or.inl rfl) (Or.inr rfl))) (fun _ _ _ _ _ => pts_nil) (fun _ _ _ _ _ => (pe_call G_does_begin_done hr_does_begin_done rfl T.g_does_begin_done T.k_does_begin_done T.b_does_begin_done .nil pass0 (pa_cons (pv 2) pa_nil)))) pa_nil)))) pss_nil) (pss_cons (ps_if (pt_cmpR (k_eq K hU64) (pv 1) pe_str (nomark _)) (pss_one (ps_ret (pe_callB (k_any K rfl) (by rfl) T.n_any (by decide +kernel) (pa_cons (pe_lc (own := [("kid", 2)]) (by rfl) sc_does_begin_done.nd (k_piT K (pe_ix (k_ix K) (pv 0) pe_int (fun _ _ => rfl))) (blkOk_by (own := [("kid", 2)]) (N := N_does_begin_done) (sc := defScope s_does_begin_done) (by decide +kernel)) (fun _ _ _ _ _ => (pg_name (i := 2) sc_does_begin_done.nd rfl (Or.inl rfl) (Or.inr rfl))) (fun _ _ _ _ _ => pts_nil) (fun _ _ _ _ _ => (pe_call G_does_begin_done hr_does_begin_done rfl T.g_does_begin_done T.k_does_begin_done T.b_does_begin_done .nil pass0 (pa_cons (pv 2) pa_nil)))) pa_nil)))) pss_nil) (pss_cons (ps_if (pt_cmpR (k_in K) (pv 1) (pe_tup (pa_cons pe_str (pa_cons pe_str pa_nil))) (by rfl)) (pss_one (ps_ret (pe_call G_does_begin_done hr_does_begin_done rfl T.g_does_begin_done T.k_does_begin_done T.b_does_begin_done .nil pass0 (pa_cons (pe_ix (k_ix K) (pe_call G_children_of hr_children_of rfl T.g_children_of T.k_children_of T.b_children_of .nil pass0 (pa_cons (pv 0) pa_nil)) pe_int (fun _ _ => rfl)) pa_nil)))) pss_nil) (pss_one (ps_ret (pe_cmpR (k_eq K hU64) (pv 1) pe_str (nomark _)))))))), ?_⟩
      have S := Same.refl H
      have lcK : ∀ {b : Addr} {us : List V} {ks : List Tm} {H1 : Hp} {σ : L2.St} {D : Addr} {Q2 : Hp → Prop}, σ.length = 3 → SqT K H1 b us → DTs K H1 us (ks.map Tm.d) → (∀ t ∈ ks, St nm n t) → ks.length ≤ 3 → H1 D = none → (∀ H2, Same H1 H2 → SqL K H2 D ((ks.map Tm.bd).map V.bl) → Q2 H2) → _ := fun {b us ks H1 σ D Q2} hσ hB hU hks h2 hD kk =>
        lc_n (σ := σ) (vs := [2]) (g := gName 2) (te := tCall (sp_does_begin_done K n) [] E0 (tCons (tVar 2) tNil)) (H1 := H1) (D := D) (Qd := Q2) (walk_tup (xs := us)) (fun i v _ => ∃ t, ks[i]? = some t ∧ v = .bl t.bd) (fun i o H H' _ h => h) hD (by rw [kids_len hU]; omega) (fun H1 s1 => s1.tup hB)
          (by
            rintro i x H2 H3 Kt hi s2 ⟨rfl, e⟩ k2
            obtain ⟨t, ht, hd⟩ := kid_at (s2.dts hU) e
            refine ⟨?_, _, ?_, x, t, nm, rfl, hd, hks t (List.mem_of_getElem? ht), fun H4 s4 => k2 _ _ s4 ⟨t, ht, rfl⟩⟩
            · obtain ⟨a1, a2, a3, rfl⟩ : ∃ a1 a2 a3, σ = [a1, a2, a3] := by
                rcases σ with _ | ⟨a1, _ | ⟨a2, _ | ⟨a3, _ | ⟨a4, r⟩⟩⟩⟩ <;> simp at hσ
                exact ⟨_, _, _, rfl⟩
              rfl
            · obtain ⟨a1, a2, a3, rfl⟩ : ∃ a1 a2 a3, σ = [a1, a2, a3] := by
                rcases σ with _ | ⟨a1, _ | ⟨a2, _ | ⟨a3, _ | ⟨a4, r⟩⟩⟩⟩ <;> simp at hσ
                exact ⟨_, _, _, rfl⟩
              rfl)
          (fun ys H2 s2 hl hy hD2 => by
            have e := bools_of (f := Tm.bd) hl (kids_len hU) hy
            subst e
            exact kk H2 s2 (SqL.of hD2))
      cases hst with
      | done =>
        obtain ⟨a, rfl, hS⟩ := tm_done hD
        refine ixT rfl hS at0 ?_
        refine tt_inW (h := "done") (b := false) ["then", "and"] (by decide) rfl (by decide +kernel) (fun Hs1 ss1 => no (by decide) (tt_eqN (h := "done") rfl (by decide +kernel) (no (by decide) (tt_inW (h := "done") (b := false) ["until", "repeat"] (by decide) rfl (by decide +kernel) (fun Hs2 ss2 => no (by decide) (?_))))))
        have S := ((S.trans ss1).trans ss2)
        exact te_eqY rfl (k _ S)
      | breach =>
        obtain ⟨a, b, rfl, hS, hB⟩ := tm_breach hD
        refine ixT rfl hS at0 ?_
        refine tt_inW (h := "breach") (b := false) ["then", "and"] (by decide) rfl (by decide +kernel) (fun Hs1 ss1 => no (by decide) (tt_eqN (h := "breach") rfl (by decide +kernel) (no (by decide) (tt_inW (h := "breach") (b := false) ["until", "repeat"] (by decide) rfl (by decide +kernel) (fun Hs2 ss2 => no (by decide) (?_))))))
        have S := ((S.trans ss1).trans ss2)
        exact te_eqN (h := "breach") rfl (by decide +kernel) (k _ S)
      | wait =>
        obtain ⟨a, rfl, hS⟩ := tm_wait hD
        refine ixT rfl hS at0 ?_
        refine tt_inW (h := "wait") (b := false) ["then", "and"] (by decide) rfl (by decide +kernel) (fun Hs1 ss1 => no (by decide) (tt_eqN (h := "wait") rfl (by decide +kernel) (no (by decide) (tt_inW (h := "wait") (b := false) ["until", "repeat"] (by decide) rfl (by decide +kernel) (fun Hs2 ss2 => no (by decide) (?_))))))
        have S := ((S.trans ss1).trans ss2)
        exact te_eqN (h := "wait") rfl (by decide +kernel) (k _ S)
      | may =>
        obtain ⟨a, rfl, hS⟩ := tm_may hD
        refine ixT rfl hS at0 ?_
        refine tt_inW (h := "may") (b := false) ["then", "and"] (by decide) rfl (by decide +kernel) (fun Hs1 ss1 => no (by decide) (tt_eqN (h := "may") rfl (by decide +kernel) (no (by decide) (tt_inW (h := "may") (b := false) ["until", "repeat"] (by decide) rfl (by decide +kernel) (fun Hs2 ss2 => no (by decide) (?_))))))
        have S := ((S.trans ss1).trans ss2)
        exact te_eqN (h := "may") rfl (by decide +kernel) (k _ S)
      | @duty n b =>
        obtain ⟨a, rfl, hS⟩ := tm_duty hD
        refine ixT rfl hS at0 ?_
        refine tt_inW (h := dutyS b) (b := false) ["then", "and"] (by decide) rfl (by cases b <;> decide +kernel) (fun Hs1 ss1 => no (by decide) (tt_eqN (h := dutyS b) rfl (by cases b <;> decide +kernel) (no (by decide) (tt_inW (h := dutyS b) (b := false) ["until", "repeat"] (by decide) rfl (by cases b <;> decide +kernel) (fun Hs2 ss2 => no (by decide) (?_))))))
        have S := ((S.trans ss1).trans ss2)
        exact te_eqN (h := dutyS b) rfl (by cases b <;> decide +kernel) (k _ S)
      | @dutyE n b =>
        obtain ⟨a, u, rfl, hS, hu⟩ := tm_dutyE hD
        refine ixT rfl hS at0 ?_
        refine tt_inW (h := dutyS b) (b := false) ["then", "and"] (by decide) rfl (by cases b <;> decide +kernel) (fun Hs1 ss1 => no (by decide) (tt_eqN (h := dutyS b) rfl (by cases b <;> decide +kernel) (no (by decide) (tt_inW (h := dutyS b) (b := false) ["until", "repeat"] (by decide) rfl (by cases b <;> decide +kernel) (fun Hs2 ss2 => no (by decide) (?_))))))
        have S := ((S.trans ss1).trans ss2)
        exact te_eqN (h := dutyS b) rfl (by cases b <;> decide +kernel) (k _ S)
      | whn =>
        obtain ⟨a, u, rfl, hS, hu⟩ := tm_whn hD
        refine ixT rfl hS at0 ?_
        refine tt_inW (h := "when") (b := false) ["then", "and"] (by decide) rfl (by decide +kernel) (fun Hs1 ss1 => no (by decide) (tt_eqN (h := "when") rfl (by decide +kernel) (no (by decide) (tt_inW (h := "when") (b := false) ["until", "repeat"] (by decide) rfl (by decide +kernel) (fun Hs2 ss2 => no (by decide) (?_))))))
        have S := ((S.trans ss1).trans ss2)
        exact te_eqN (h := "when") rfl (by decide +kernel) (k _ S)
      | whnE =>
        obtain ⟨a, u, y, rfl, hS, hu, hy⟩ := tm_whnE hD
        refine ixT rfl hS at0 ?_
        refine tt_inW (h := "when") (b := false) ["then", "and"] (by decide) rfl (by decide +kernel) (fun Hs1 ss1 => no (by decide) (tt_eqN (h := "when") rfl (by decide +kernel) (no (by decide) (tt_inW (h := "when") (b := false) ["until", "repeat"] (by decide) rfl (by decide +kernel) (fun Hs2 ss2 => no (by decide) (?_))))))
        have S := ((S.trans ss1).trans ss2)
        exact te_eqN (h := "when") rfl (by decide +kernel) (k _ S)
      | ever =>
        obtain ⟨a, u, rfl, hS, hu⟩ := tm_ever hD
        refine ixT rfl hS at0 ?_
        refine tt_inW (h := "forever") (b := false) ["then", "and"] (by decide) rfl (by decide +kernel) (fun Hs1 ss1 => no (by decide) (tt_eqN (h := "forever") rfl (by decide +kernel) (no (by decide) (tt_inW (h := "forever") (b := false) ["until", "repeat"] (by decide) rfl (by decide +kernel) (fun Hs2 ss2 => no (by decide) (?_))))))
        have S := ((S.trans ss1).trans ss2)
        exact te_eqN (h := "forever") rfl (by decide +kernel) (k _ S)
      | @grp n g ks h1 h2 hks =>
        obtain ⟨a, b, us, rfl, hS, hB, hU⟩ := tm_grp hD
        refine ixT rfl hS at0 ?_
        cases g with
        | thn =>
          refine tt_inW (h := "then") (b := true) ["then", "and"] (by decide) rfl (by decide +kernel) (fun Hs1 ss1 => yes rfl (?_))
          have S := (S.trans ss1)
          refine ixT rfl (S.tup hS) at1 ⟨b, rfl, ⟨_, S.tup hB⟩, fun D hD2 => ?_⟩
          refine lcK rfl (S.tup hB) (S.dts hU) hks h2 hD2 fun H2 s2 hl => ⟨D, _, rfl, hl, ?_⟩
          have := k _ (S.trans s2)
          rw [Tm.bd, bdAll_eq] at this
          rw [List.all_map]
          exact this
        | and =>
          refine tt_inW (h := "and") (b := true) ["then", "and"] (by decide) rfl (by decide +kernel) (fun Hs1 ss1 => yes rfl (?_))
          have S := (S.trans ss1)
          refine ixT rfl (S.tup hS) at1 ⟨b, rfl, ⟨_, S.tup hB⟩, fun D hD2 => ?_⟩
          refine lcK rfl (S.tup hB) (S.dts hU) hks h2 hD2 fun H2 s2 hl => ⟨D, _, rfl, hl, ?_⟩
          have := k _ (S.trans s2)
          rw [Tm.bd, bdAll_eq] at this
          rw [List.all_map]
          exact this
        | or =>
          refine tt_inW (h := "or") (b := false) ["then", "and"] (by decide) rfl (by decide +kernel) (fun Hs1 ss1 => no (by decide) (tt_eqY rfl (yes rfl (?_))))
          have S := (S.trans ss1)
          refine ixT rfl (S.tup hS) at1 ⟨b, rfl, ⟨_, S.tup hB⟩, fun D hD2 => ?_⟩
          refine lcK rfl (S.tup hB) (S.dts hU) hks h2 hD2 fun H2 s2 hl => ⟨D, _, rfl, hl, ?_⟩
          have := k _ (S.trans s2)
          rw [Tm.bd, bdAny_eq] at this
          rw [List.any_map]
          exact this
      | til hp hw ha =>
        obtain ⟨a, u, rfl, hS, hu⟩ := tm_til hD
        refine ixT rfl hS at0 ?_
        refine tt_inW (h := "until") (b := false) ["then", "and"] (by decide) rfl (by decide +kernel) (fun Hs1 ss1 => no (by decide) (tt_eqN (h := "until") rfl (by decide +kernel) (no (by decide) (tt_inW (h := "until") (b := true) ["until", "repeat"] (by decide) rfl (by decide +kernel) (fun Hs2 ss2 => yes rfl (?_))))))
        have S := ((S.trans ss1).trans ss2)
        refine ⟨_, rfl, _, _, rfl, S.dt hD, fun l us H2 S2 hl hl2 hus => ?_⟩
        obtain ⟨x, r, rfl, q1, q⟩ := dts_cons hus
        exact .inl ⟨l, _, 0, x, rfl, rfl, SqL.of hl2, at0, x, _, nm, rfl, q1, hp, fun H3 S3 => k _ (S.trans (S2.trans S3))⟩
      | rep h1 h2 hp =>
        obtain ⟨a, u, rfl, hS, hu⟩ := tm_rep hD
        refine ixT rfl hS at0 ?_
        refine tt_inW (h := "repeat") (b := false) ["then", "and"] (by decide) rfl (by decide +kernel) (fun Hs1 ss1 => no (by decide) (tt_eqN (h := "repeat") rfl (by decide +kernel) (no (by decide) (tt_inW (h := "repeat") (b := true) ["until", "repeat"] (by decide) rfl (by decide +kernel) (fun Hs2 ss2 => yes rfl (?_))))))
        have S := ((S.trans ss1).trans ss2)
        refine ⟨_, rfl, _, _, rfl, S.dt hD, fun l us H2 S2 hl hl2 hus => ?_⟩
        obtain ⟨x, r, rfl, q1, q⟩ := dts_cons hus
        exact .inl ⟨l, _, 0, x, rfl, rfl, SqL.of hl2, at0, x, _, nm, rfl, q1, hp, fun H3 S3 => k _ (S.trans (S2.trans S3))⟩
end
end DD
namespace DD
open PySem PySem.Spec
open PyProof.Rows L2
section
variable {base : Heap} {mg : Str → Option Value} {K : PySem.W.Frag} {w : World} {P : Program}
theorem hd_forever (t : Tm) : (∃ p, t = .ever p) ∨ ¬ t.hd = "forever" := by
  have g : ∀ z : Str, ¬ z = "forever" → t.hd = z → ¬ t.hd = "forever" := fun z h e => by rw [e]; exact h
  cases t with
  | ever p => exact .inl ⟨p, rfl⟩
  | duty b => exact .inr (g (dutyS b) (by cases b <;> decide +kernel) rfl)
  | dutyE b => exact .inr (g (dutyS b) (by cases b <;> decide +kernel) rfl)
  | grp b => exact .inr (g b.str (by cases b <;> decide +kernel) rfl)
  | done => exact .inr (g "done" (by decide +kernel) rfl)
  | breach => exact .inr (g "breach" (by decide +kernel) rfl)
  | wait => exact .inr (g "wait" (by decide +kernel) rfl)
  | may => exact .inr (g "may" (by decide +kernel) rfl)
  | whn => exact .inr (g "when" (by decide +kernel) rfl)
  | whnE => exact .inr (g "when" (by decide +kernel) rfl)
  | til => exact .inr (g "until" (by decide +kernel) rfl)
  | rep => exact .inr (g "repeat" (by decide +kernel) rfl)
/-! ### term_fault -/
def sp_term_fault (K : PySem.W.Frag) : Sp := fun vs H Q _ => ∃ (v : V) (t : Tm) (nm : List Str) (n : Nat), vs = [v] ∧ DT K H v t.d ∧ St nm n t ∧ n ≤ 8 ∧ t.parts ≤ 40 ∧ ∀ l H', Same H H' → H' l = some (.lst []) → Q (.ref l) H'
theorem ok_term_fault (T : Txt w K mg) : FnOk P w K mg base CX0 11 (a_term_fault K) (fdOf K (a_term_fault K)) ps_term_fault (sp_term_fault K) := by
  have G_first_unformed := ok_first_unformed (P := P) (base := base) T
  have G_placed_parts := ok_placed_parts (P := P) (base := base) T
  have G_levels_of := ok_levels_of (P := P) (base := base) T
  have G_does_begin_done := ok_does_begin_done (P := P) (base := base) T 8
  refine ok0 T.f_term_fault sc_term_fault (fun vs H Q E h => ?_) (fun cdv A outer s H vs Q E hr h => ?_)
  · obtain ⟨v, t, _, _, rfl, _⟩ := h; rfl
  · obtain ⟨v, t, nm, n, rfl, hD, hst, hn, hp, k⟩ := h
    have hU64 := hr.units
    have hr_first_unformed : Room 5 _ := hr.mono (by omega)
    have hr_placed_parts : Room 2 _ := hr.mono (by omega)
    have hr_levels_of : Room 3 _ := hr.mono (by omega)
    have hr_does_begin_done : Room 10 _ := hr
    refine ⟨_, (pss_cons (ps_set (i := 1) sc_term_fault.nd rfl (Or.inl rfl) (pe_call G_first_unformed hr_first_unformed rfl T.g_first_unformed T.k_first_unformed T.b_first_unformed .nil pass0 (pa_cons (pv 0) pa_nil))) (pss_cons (ps_if (pt_cmpR op_notN (pv 1) pe_non (nomark _)) (pss_one (ps_ret (pe_lst (pa_cons (pv 1) pa_nil)))) pss_nil) (pss_cons (ps_if (PW.pt (pw_or (pt_cmpR op_gt (pe_callB (k_len K) (by rfl) T.n_len (by decide +kernel) (pa_cons (pe_call G_placed_parts hr_placed_parts rfl T.g_placed_parts T.k_placed_parts T.b_placed_parts .nil pass0 (pa_cons (pv 0) pa_nil)) pa_nil)) (pe_cI rfl T.i_MAX_PARTS) (nomark _)) (pw_or1 (pt_cmpR op_gt (pe_call G_levels_of hr_levels_of rfl T.g_levels_of T.k_levels_of T.b_levels_of .nil pass0 (pa_cons (pv 0) pa_nil)) (pe_cI rfl T.i_MAX_LEVELS) (nomark _))))) (pss_one (ps_ret (pe_lst (pa_cons pe_non pa_nil)))) pss_nil) (pss_cons (ps_for PassesOwn.never rfl (k_piL K (pe_call G_placed_parts hr_placed_parts rfl T.g_placed_parts T.k_placed_parts T.b_placed_parts .nil pass0 (pa_cons (pv 0) pa_nil))) (k_tup K (n := 2) rfl (pgs_cons (pg_name (i := 2) sc_term_fault.nd rfl (Or.inl rfl) (Or.inl rfl)) (pgs_cons (pg_name (i := 3) sc_term_fault.nd rfl (Or.inl rfl) (Or.inl rfl)) pgs_nil))) (pss_one (ps_if (PW.pt (pw_and (pt_cmpR (k_eq K hU64) (pe_ix (k_ix K) (pv 3) pe_int (fun _ _ => rfl)) pe_str (nomark _)) (pw_and1 (pt_val (pe_call G_does_begin_done hr_does_begin_done rfl T.g_does_begin_done T.k_does_begin_done T.b_does_begin_done .nil pass0 (pa_cons (pe_ix (k_ix K) (pv 3) pe_int (fun _ _ => rfl)) pa_nil)))))) (pss_one (ps_ret (pe_lst (pa_cons (pv 2) pa_nil)))) pss_nil))) (pss_one (ps_ret (pe_lst pa_nil))))))), ?_⟩
    refine ⟨_, rfl, v, t, nm, n, rfl, hD, hst, hn, by omega, fun H1 S1 => ⟨_, rfl, rfl, _, rfl, no (by decide) ?_⟩⟩
    refine ⟨_, rfl, v, t, nm, n, rfl, S1.dt hD, hst, by omega, by omega, fun l es H2 S2 hl hl2 hpl hlen => ⟨_, _, rfl, .inl ⟨_, SqL.of hl2, rfl⟩, ?_⟩⟩
    have hlen2 : (es.map Prod.fst).length = t.parts := by rw [List.length_map]; exact hlen
    rw [hlen2]
    refine ⟨_, _, rfl, rfl, _, rfl, ?_⟩
    rw [decide_eq_false (show ¬ (40 : Int) < ((t.parts : Nat) : Int) by omega)]
    refine no (by decide) ⟨_, rfl, v, t, nm, n, rfl, (S1.trans S2).dt hD, hst, by omega, by omega, fun m H3 S3 hm => ⟨_, _, rfl, rfl, _, rfl, ?_⟩⟩
    rw [decide_eq_false (show ¬ (8 : Int) < m by omega)]
    refine no (by decide) ?_
    have S13 := S1.trans (S2.trans S3)
    refine ⟨_, rfl, v, t, nm, n, rfl, S13.dt hD, hst, by omega, by omega, fun l es H4 S4 hl hl4 hpl hlen => ⟨l, rfl, ⟨_, SqL.of hl4⟩, ?_⟩⟩
    refine for_it (walk_list (xs := es.map Prod.fst)) (fun i σ H' => ∃ x2 x3, σ = [some v, some .non, x2, x3] ∧ Same H4 H') ⟨_, _, rfl, Same.refl _⟩ (fun i σ H' _ ⟨_, _, _, s⟩ => s.lst (SqL.of hl4)) ?_ ?_
    · rintro i x σ H5 H6 hi ⟨x2, x3, rfl, S5⟩ ⟨rfl, e⟩
      obtain ⟨e1, he1, rfl⟩ := List.mem_map.mp (List.mem_of_getElem? e)
      obtain ⟨e, p, ps, u, m, e0, h1, h2, h3, h4, h5⟩ := S5.kt.pls hpl e1 he1
      refine ⟨e, _, e0, h1, rfl, _, _, rfl, _, _, rfl, rfl, ?_⟩
      rcases hd_forever e1.2 with ⟨p2, e2⟩ | hne
      · rw [e2] at h3 h4
        obtain ⟨a, y, rfl, hS, hy⟩ := tm_ever h3
        cases h4 with
        | ever hp2 hb =>
          refine tt_hdY rfl hS (yes rfl (ixT rfl hS at1 ⟨y, p2, nm, rfl, hy, hp2.mono (by omega), fun H7 S7 => ?_⟩))
          rw [hb]
          exact ⟨_, rfl, no (by decide) ⟨_, _, rfl, S5.trans S7⟩⟩
      · obtain ⟨a, us, rfl, hS, hus⟩ := tm_at h3
        exact tt_hdN rfl hS hne (no (by decide) (no (by decide) ⟨_, _, rfl, S5⟩))
    · rintro σ H5 ⟨x2, x3, rfl, S5⟩
      exact ⟨small (by decide), fun p hp => k p _ (S13.trans (S4.trans (S5.trans (Same.new hp)))) upd_same⟩
end
end DD
namespace DD
open PySem PySem.Spec
open PyProof.Rows L2
section
variable {base : Heap} {mg : Str → Option Value} {K : PySem.W.Frag} {w : World} {P : Program}
/-! ### whos_in, first_stranger -/
def sp_whos_in (K : PySem.W.Frag) : Sp := fun vs H Q _ => ∃ (v : V) (t : Tm) (nm : List Str) (n : Nat), vs = [v] ∧ DT K H v t.d ∧ St nm n t ∧ ∀ l (ws : List Str) H', Same H H' → H' l = some (.lst (ws.map V.str)) → (∀ x ∈ ws, Who nm x) → ws.length ≤ 2 → Q (.ref l) H'
theorem ok_whos_in (T : Txt w K mg) : FnOk P w K mg base CX0 1 (a_whos_in K) (fdOf K (a_whos_in K)) ps_whos_in (sp_whos_in K) := by
  refine ok0 T.f_whos_in sc_whos_in (fun vs H Q E h => ?_) (fun cdv A outer s H vs Q E hr h => ?_)
  · obtain ⟨v, t, _, _, rfl, _⟩ := h; rfl
  · obtain ⟨v, t, nm, n, rfl, hD, hst, k⟩ := h
    have hU64 := hr.units
    refine ⟨_, (pss_cons (ps_if (pt_cmpR (k_eq K hU64) (pe_ix (k_ix K) (pv 0) pe_int (fun _ _ => rfl)) pe_str (nomark _)) (pss_one (ps_ret (pe_callTy (k_list K) (by rfl) T.n_list (by decide +kernel) (pa_cons (pe_ix (k_ix K) (pv 0) pe_int (fun _ _ => rfl)) pa_nil)))) pss_nil) (pss_cons (ps_if (pt_cmpR (k_in K) (pe_ix (k_ix K) (pv 0) pe_int (fun _ _ => rfl)) (pe_tup (pa_cons pe_str (pa_cons pe_str (pa_cons pe_str (pa_cons pe_str pa_nil))))) (by rfl)) (pss_one (ps_ret (pe_lst (pa_cons (pe_ix (k_ix K) (pv 0) pe_int (fun _ _ => rfl)) pa_nil)))) pss_nil) (pss_one (ps_ret (pe_ifExp (pt_cmpR (k_eq K hU64) (pe_ix (k_ix K) (pv 0) pe_int (fun _ _ => rfl)) pe_str (nomark _)) (pe_lst (pa_cons (pe_ix (k_ix K) (pv 0) pe_int (fun _ _ => rfl)) pa_nil)) (pe_lst pa_nil)))))), ?_⟩
    have S := Same.refl H
    have k1 : ∀ {x : Str} {H' : Hp}, Same H H' → Who nm x → ∀ l, H' l = none → Q (.ref l) (upd H' l (.lst [.str x])) := fun {x H'} s h l hl => k l [x] _ (s.trans (Same.new hl)) upd_same (all1 h) (by simp)
    have k0 : ∀ {H' : Hp}, Same H H' → ∀ l, H' l = none → Q (.ref l) (upd H' l (.lst [])) := fun s l hl => k l [] _ (s.trans (Same.new hl)) upd_same allN (by simp)
    cases hst with
    | done =>
      obtain ⟨a, rfl, hS⟩ := tm_done hD
      refine tt_hdN (h := "done") rfl (S.tup hS) (by decide +kernel) (no (by decide) (tt_hinW (h := "done") (b := false) ["must", "ban", "may", "when"] (by decide) rfl (S.tup hS) (by decide +kernel) (fun Hs1 ss1 => no (by decide) (tt_hdN (h := "done") rfl ((S.trans ss1).tup hS) (by decide +kernel) (no (by decide) (?_))))))
      have S := (S.trans ss1)
      exact ⟨small (by simp), fun l hl => k0 S l hl⟩
    | wait h1 h2 =>
      obtain ⟨a, rfl, hS⟩ := tm_wait hD
      refine tt_hdN (h := "wait") rfl (S.tup hS) (by decide +kernel) (no (by decide) (tt_hinW (h := "wait") (b := false) ["must", "ban", "may", "when"] (by decide) rfl (S.tup hS) (by decide +kernel) (fun Hs1 ss1 => no (by decide) (tt_hdN (h := "wait") rfl ((S.trans ss1).tup hS) (by decide +kernel) (no (by decide) (?_))))))
      have S := (S.trans ss1)
      exact ⟨small (by simp), fun l hl => k0 S l hl⟩
    | breach h1 h2 h3 h4 =>
      obtain ⟨a, b, rfl, hS, hB⟩ := tm_breach hD
      refine tt_hdY rfl (S.tup hS) (yes rfl (?_))
      exact ixT rfl hS at1 ⟨b, _, rfl, .inr hB, fun l hl => k l _ _ (Same.new hl) upd_same h4 h2⟩
    | @duty n b ww aa kk hw ha h1 h2 =>
      obtain ⟨a, rfl, hS⟩ := tm_duty hD
      refine tt_hdN (h := dutyS b) rfl (S.tup hS) (by cases b <;> decide +kernel) (no (by decide) (tt_hinW (h := dutyS b) (b := true) ["must", "ban", "may", "when"] (by decide) rfl (S.tup hS) (by cases b <;> decide +kernel) (fun Hs1 ss1 => yes rfl (?_))))
      have S := (S.trans ss1)
      exact ixT rfl (S.tup hS) at1 ⟨small (by simp), fun l hl => k1 S hw l hl⟩
    | @dutyE n b ww aa kk o hw ha h1 h2 ho =>
      obtain ⟨a, u, rfl, hS, hu⟩ := tm_dutyE hD
      refine tt_hdN (h := dutyS b) rfl (S.tup hS) (by cases b <;> decide +kernel) (no (by decide) (tt_hinW (h := dutyS b) (b := true) ["must", "ban", "may", "when"] (by decide) rfl (S.tup hS) (by cases b <;> decide +kernel) (fun Hs1 ss1 => yes rfl (?_))))
      have S := (S.trans ss1)
      exact ixT rfl (S.tup hS) at1 ⟨small (by simp), fun l hl => k1 S hw l hl⟩
    | may hw ha h1 h2 =>
      obtain ⟨a, rfl, hS⟩ := tm_may hD
      refine tt_hdN (h := "may") rfl (S.tup hS) (by decide +kernel) (no (by decide) (tt_hinW (h := "may") (b := true) ["must", "ban", "may", "when"] (by decide) rfl (S.tup hS) (by decide +kernel) (fun Hs1 ss1 => yes rfl (?_))))
      have S := (S.trans ss1)
      exact ixT rfl (S.tup hS) at1 ⟨small (by simp), fun l hl => k1 S hw l hl⟩
    | whn hw ha h1 h2 hp =>
      obtain ⟨a, u, rfl, hS, hu⟩ := tm_whn hD
      refine tt_hdN (h := "when") rfl (S.tup hS) (by decide +kernel) (no (by decide) (tt_hinW (h := "when") (b := true) ["must", "ban", "may", "when"] (by decide) rfl (S.tup hS) (by decide +kernel) (fun Hs1 ss1 => yes rfl (?_))))
      have S := (S.trans ss1)
      exact ixT rfl (S.tup hS) at1 ⟨small (by simp), fun l hl => k1 S hw l hl⟩
    | whnE hw ha h1 h2 hp ho =>
      obtain ⟨a, u, y, rfl, hS, hu, hy⟩ := tm_whnE hD
      refine tt_hdN (h := "when") rfl (S.tup hS) (by decide +kernel) (no (by decide) (tt_hinW (h := "when") (b := true) ["must", "ban", "may", "when"] (by decide) rfl (S.tup hS) (by decide +kernel) (fun Hs1 ss1 => yes rfl (?_))))
      have S := (S.trans ss1)
      exact ixT rfl (S.tup hS) at1 ⟨small (by simp), fun l hl => k1 S hw l hl⟩
    | @grp n g ks h1 h2 hk =>
      obtain ⟨a, b, us, rfl, hS, hB, hU⟩ := tm_grp hD
      refine tt_hdN (h := g.str) rfl (S.tup hS) (by cases g <;> decide +kernel) (no (by decide) (tt_hinW (h := g.str) (b := false) ["must", "ban", "may", "when"] (by decide) rfl (S.tup hS) (by cases g <;> decide +kernel) (fun Hs1 ss1 => no (by decide) (tt_hdN (h := g.str) rfl ((S.trans ss1).tup hS) (by cases g <;> decide +kernel) (no (by decide) (?_))))))
      have S := (S.trans ss1)
      exact ⟨small (by simp), fun l hl => k0 S l hl⟩
    | til hp hw ha =>
      obtain ⟨a, u, rfl, hS, hu⟩ := tm_til hD
      refine tt_hdN (h := "until") rfl (S.tup hS) (by decide +kernel) (no (by decide) (tt_hinW (h := "until") (b := false) ["must", "ban", "may", "when"] (by decide) rfl (S.tup hS) (by decide +kernel) (fun Hs1 ss1 => no (by decide) (tt_hdY rfl ((S.trans ss1).tup hS) (yes rfl (?_))))))
      have S := (S.trans ss1)
      exact ixT rfl (S.tup hS) at2 ⟨small (by simp), fun l hl => k1 S hw l hl⟩
    | rep h1 h2 hp =>
      obtain ⟨a, u, rfl, hS, hu⟩ := tm_rep hD
      refine tt_hdN (h := "repeat") rfl (S.tup hS) (by decide +kernel) (no (by decide) (tt_hinW (h := "repeat") (b := false) ["must", "ban", "may", "when"] (by decide) rfl (S.tup hS) (by decide +kernel) (fun Hs1 ss1 => no (by decide) (tt_hdN (h := "repeat") rfl ((S.trans ss1).tup hS) (by decide +kernel) (no (by decide) (?_))))))
      have S := (S.trans ss1)
      exact ⟨small (by simp), fun l hl => k0 S l hl⟩
    | ever hp hb =>
      obtain ⟨a, u, rfl, hS, hu⟩ := tm_ever hD
      refine tt_hdN (h := "forever") rfl (S.tup hS) (by decide +kernel) (no (by decide) (tt_hinW (h := "forever") (b := false) ["must", "ban", "may", "when"] (by decide) rfl (S.tup hS) (by decide +kernel) (fun Hs1 ss1 => no (by decide) (tt_hdN (h := "forever") rfl ((S.trans ss1).tup hS) (by decide +kernel) (no (by decide) (?_))))))
      have S := (S.trans ss1)
      exact ⟨small (by simp), fun l hl => k0 S l hl⟩
def sp_first_stranger (K : PySem.W.Frag) : Sp := fun vs H Q _ => ∃ (v : V) (t : Tm) (nm : List Str) (n : Nat) (nl : Addr) (ns : List Str), vs = [v, .ref nl] ∧ DT K H v t.d ∧ St nm n t ∧ n ≤ 20 ∧ t.parts ≤ 1000 ∧ SqL K H nl (ns.map V.str) ∧ (∀ x ∈ nm, x ∈ ns) ∧ ∀ l H', Same H H' → H' l = some (.lst []) → Q (.ref l) H'
theorem ok_first_stranger (T : Txt w K mg) : FnOk P w K mg base CX0 3 (a_first_stranger K) (fdOf K (a_first_stranger K)) ps_first_stranger (sp_first_stranger K) := by
  have G_placed_parts := ok_placed_parts (P := P) (base := base) T
  have G_is_anyone := ok_is_anyone (P := P) (base := base) T
  have G_whos_in := ok_whos_in (P := P) (base := base) T
  refine ok0 T.f_first_stranger sc_first_stranger (fun vs H Q E h => ?_) (fun cdv A outer s H vs Q E hr h => ?_)
  · obtain ⟨v, t, _, _, _, _, rfl, _⟩ := h; rfl
  · obtain ⟨v, t, nm, n, nl, ns, rfl, hD, hst, hn, hp, hN, hsub, k⟩ := h
    have hU64 := hr.units
    have hr_placed_parts : Room 2 _ := hr.mono (by omega)
    have hr_is_anyone : Room 1 _ := hr.mono (by omega)
    have hr_whos_in : Room 1 _ := hr.mono (by omega)
    refine ⟨_, (pss_cons (ps_for PassesOwn.never rfl (k_piL K (pe_call G_placed_parts hr_placed_parts rfl T.g_placed_parts T.k_placed_parts T.b_placed_parts .nil pass0 (pa_cons (pv 0) pa_nil))) (k_tup K (n := 2) rfl (pgs_cons (pg_name (i := 2) sc_first_stranger.nd rfl (Or.inl rfl) (Or.inl rfl)) (pgs_cons (pg_name (i := 3) sc_first_stranger.nd rfl (Or.inl rfl) (Or.inl rfl)) pgs_nil))) (pss_one (ps_if (pt_not (pt_val (pe_callB (k_all K rfl) (by rfl) T.n_all (by decide +kernel) (pa_cons (pe_lc (own := [("who", 4)]) (by rfl) sc_first_stranger.nd (k_piL K (pe_call G_whos_in hr_whos_in rfl T.g_whos_in T.k_whos_in T.b_whos_in .nil pass0 (pa_cons (pv 3) pa_nil))) (blkOk_by (own := [("who", 4)]) (N := N_first_stranger) (sc := defScope s_first_stranger) (by decide +kernel)) (fun _ _ _ _ _ => (pg_name (i := 4) sc_first_stranger.nd rfl (Or.inl rfl) (Or.inr rfl))) (fun _ _ _ _ _ => pts_nil) (fun _ _ _ _ _ => (pe_or (pe_call G_is_anyone hr_is_anyone rfl T.g_is_anyone T.k_is_anyone T.b_is_anyone .nil pass0 (pa_cons (pv 4) pa_nil)) (pe_one (pe_cmpR (k_in K) (pv 4) (pv 1) (by rfl)))))) pa_nil)))) (pss_one (ps_ret (pe_lst (pa_cons (pv 2) pa_nil)))) pss_nil))) (pss_one (ps_ret (pe_lst pa_nil)))), ?_⟩
    refine ⟨_, rfl, v, t, nm, n, rfl, hD, hst, by omega, by omega, fun l es H4 S4 hl hl4 hpl hlen => ⟨l, rfl, ⟨_, SqL.of hl4⟩, ?_⟩⟩
    refine for_it (walk_list (xs := es.map Prod.fst)) (fun i σ H' => ∃ x2 x3, σ = [some v, some (.ref nl), x2, x3, none] ∧ Same H4 H') ⟨_, _, rfl, Same.refl _⟩ (fun i σ H' _ ⟨_, _, _, s⟩ => s.lst (SqL.of hl4)) ?_ ?_
    · rintro i x σ H5 H6 hi ⟨x2, x3, rfl, S5⟩ ⟨rfl, e⟩
      obtain ⟨e1, he1, rfl⟩ := List.mem_map.mp (List.mem_of_getElem? e)
      obtain ⟨e, p, ps, u, m, e0, h1, h2, h3, h4, h5⟩ := S5.kt.pls hpl e1 he1
      refine ⟨e, _, e0, h1, rfl, _, _, rfl, _, _, rfl, rfl, ?_⟩
      refine ⟨_, rfl, u, e1.2, nm, m, rfl, h3, h4, fun l7 ws H7 S7 hl7 hws hwl => ⟨l7, rfl, ⟨_, SqL.of hl7⟩, fun D hD7 => ?_⟩⟩
      refine lc_n (walk_list (xs := ws.map V.str)) (fun i v _ => v = .bl true) (fun i o H H' _ h => h) hD7 (by rw [List.length_map]; omega) (fun H8 s8 => s8.lst (SqL.of hl7)) ?_ ?_
      · rintro i x H8 H9 Kt hi s8 ⟨rfl, e⟩ kk
        obtain ⟨x, hx, rfl⟩ := str_at e
        refine ⟨rfl, _, rfl, x, rfl, fun H10 s10 => ⟨_, rfl, ite2 (fun c => ?_) (fun c => ?_)⟩⟩
        · exact kk _ _ s10 rfl
        · have hx2 := hws x (List.mem_of_getElem? hx)
          have hx3 : x ∈ ns := by
            rcases hx2 with ⟨h, _⟩ | h
            · exact hsub x h
            · exact absurd (decide_eq_true h) c
          refine ⟨_, rfl, _, rfl, nl, _, rfl, .inl ((S4.trans (S5.trans (S7.trans (s8.trans s10)))).lst hN), rfl, flat_strs ns, ?_⟩
          refine kk _ _ s10 ?_
          show V.bl (inV (.str x) (ns.map V.str)) = _
          rw [inV_str, decide_eq_true hx3]
      · intro ys H8 s8 hl2 hy hD8
        obtain ⟨bs, rfl, hb⟩ := pickL V.bl ys (fun i b => b = true) fun i y e => ⟨true, hy i y e, rfl⟩
        have e : bs.all id = true := List.all_eq_true.mpr fun b hb2 => by
          obtain ⟨i, hi⟩ := List.getElem?_of_mem hb2
          exact hb i b hi
        refine ⟨D, bs, rfl, SqL.of hD8, ?_⟩
        rw [e]
        exact ⟨true, rfl, no (by decide) ⟨_, _, rfl, S5.trans (S7.trans s8)⟩⟩
    · rintro σ H5 ⟨x2, x3, rfl, S5⟩
      exact ⟨small (by decide), fun p hp => k p _ (S4.trans (S5.trans (Same.new hp))) upd_same⟩
end
end DD
namespace DD
open PySem PySem.Spec
open PyProof.Rows L2
/-! ## set(texts), sorted(set(texts)) -/
section
variable {P : Program} {w : World} {A : Around} {E : Value → Shared → Prop} {s : Shared} {a : Addr}
def rowS (e : Int × Value) : Str := match e.2 with
  | .str x _ => x
  | _ => Str.empty
def TxE (P : Program) (w : World) (e : Int × Value) : Prop := ∃ x u, e.2 = Value.str x u ∧ e.1 = (PySem.strKind P w).hash x
/-- the texts L are the set at a -/
def SetS (P : Program) (w : World) (h : Heap) (a : Addr) (L : List Str) : Prop := ∃ o es ep t, h.get? a = some o ∧ o.ExactSet ∧ o.data = .set es ep t ∧ (∀ e ∈ es.toList, TxE P w e) ∧ (es.toList.map rowS).Perm L ∧ L.Nodup ∧ L.length < 64 ∧
  t.fits es.size = true ∧ Ris t.place.toList ∧ (w.params.followText "set-order" = true ∨ t.led = true)
theorem SetS.stay {h h' : Heap} {L : List Str} (R : SetS P w h a L) (k : ∀ o, h.get? a = some o → h'.get? a = some o) : SetS P w h' a L := let ⟨o, es, ep, t, q, r⟩ := R; ⟨o, es, ep, t, k o q, r⟩
theorem txE_all {l : List (Int × Value)} (g : ∀ e ∈ l, TxE P w e) : ElemsOf (PySem.strKind P w) l := fun e he => by
  obtain ⟨x, u, q1, q2⟩ := g e he
  exact ⟨⟨x, by rw [q1]; exact strKind_is P w x u, q2⟩, by rw [q1]; rfl⟩
theorem txE_is {e : Int × Value} (g : TxE P w e) (x : Str) : (PySem.strKind P w).is x e.2 = true ↔ rowS e = x := by
  obtain ⟨y, u, q1, _⟩ := g
  unfold rowS
  rw [q1]
  constructor
  · intro h
    have h' : Value.isStrOf x (.str y u) = true := h
    obtain ⟨t, ht⟩ := Value.isStrOf_shape h'
    injection ht
  · intro h
    subst h
    exact strKind_is P w _ u
theorem txE_mem {l : List (Int × Value)} (g : ∀ e ∈ l, TxE P w e) (x : Str) : x ∈ l.map rowS ↔ ∃ e ∈ l, (PySem.strKind P w).is x e.2 = true :=
  ⟨fun h => let ⟨e, he, q⟩ := List.mem_map.mp h; ⟨e, he, (txE_is (g e he) x).2 q⟩, fun ⟨e, he, q⟩ => List.mem_map.mpr ⟨e, he, (txE_is (g e he) x).1 q⟩⟩
theorem scan64 {n : Nat} (h : n < 64) : n < scanBound := by unfold scanBound; omega
theorem tailS {g : Bool → Sem Unit} (hg : ∀ (b : Bool) (s1 : Shared) (Q1 : Unit → Shared → Prop), Q1 () s1 → wpAny (model P w) A (g b) Q1 E s1) {o : Obj} {es fs : Array (Int × Value)} {ep : Nat} {t u : SetTable} {L : List Str}
    (ho : s.heap.get? a = some o) (hex : o.ExactSet) (hd : o.data = .set es ep t) (g1 : ∀ e ∈ fs.toList, TxE P w e) (pL : (fs.toList.map rowS).Perm L) (nd : L.Nodup) (few : L.length < 64) (hf : u.fits fs.size = true) (hr : Ris u.place.toList)
    (hl : w.params.followText "set-order" = true ∨ u.led = true) {was : Bool} {R : Option Bool → Shared → Prop} (hR : ∀ h', Heap.SameBut a s.heap h' → SetS P w h' a L → R (some true) { s with heap := h' }) :
    wpAny (model P w) A (do
        storeSet a fs u
        if (!was && u.tooFull) = true then do
            g (relayAll u fs (SetTable.grown fs.size)).2.2
            storeSet a (relayAll u fs (SetTable.grown fs.size)).1 (relayAll u fs (SetTable.grown fs.size)).2.1
            pure (some true) else pure (some true)) R E s := by
  have sz : fs.size = L.length := by rw [← Array.length_toList, ← pL.length_eq, List.length_map]
  have hb : fs.size < scanBound := scan64 (by omega)
  refine wpAny_bind (wpAny_storeSet_of ho hd ?_ (fits_of_scanBound hb))
  have o1 := store_at (es' := fs) (t' := u) ho hd
  have sb := Heap.SameBut.update s.heap a (Obj.putSet fs u)
  split
  · have p2 := relayAll_perm u fs (SetTable.grown fs.size)
    have f2 := relayAll_fits u fs (SetTable.grown fs.size)
    have r2 := relayAll_ris u fs (SetTable.grown fs.size)
    have l2 := relayAll_led u fs (SetTable.grown fs.size)
    generalize relayAll u fs (SetTable.grown fs.size) = Z at p2 f2 r2 l2 ⊢
    obtain ⟨es2, t2, gave⟩ := Z
    dsimp only at p2 f2 r2 l2 ⊢
    have sz2 : es2.size = fs.size := by rw [← Array.length_toList, p2.length_eq, Array.length_toList]
    refine wpAny_bind (hg _ _ _ (wpAny_bind (wpAny_storeSet_of o1 rfl ?_ (fits_of_scanBound (by rw [sz2]; exact hb)))))
    have o2 := store_at (es' := es2) (t' := t2) o1 rfl
    refine wpAny_pure (hR _ (sb.trans (Heap.SameBut.update _ a _)) ⟨_, es2, _, t2, o2, hex, rfl, fun e he => g1 e (p2.mem_iff.mp he), (p2.map rowS).trans pL, nd, few, f2, r2, hl.imp id fun z => by rw [l2]; exact z⟩)
  · exact wpAny_pure (hR _ sb ⟨_, fs, _, u, o1, hex, rfl, g1, pL, nd, few, hf, hr, hl⟩)
theorem addS {L : List Str} {x : Str} {k : Tok} {Q : Bool → Shared → Prop} (R : SetS P w s.heap a L) (room : L.length + 1 < 64)
    (h1 : x ∈ L → Q false s) (h2 : x ∉ L → ∀ h', Heap.SameBut a s.heap h' → SetS P w h' a (x :: L) → Q true { s with heap := h' }) : wpAny (model P w) A (setAddHashed a (.str x k) ((PySem.strKind P w).hash x)) Q E s := by
  obtain ⟨o, es, ep, t, ho, hex, hd, g, pL, nd, few, hf, hr, hl⟩ := R
  have sz : es.size = L.length := by rw [← Array.length_toList, ← pL.length_eq, List.length_map]
  have hkey : (PySem.strKind P w).is x (.str x k) = true := strKind_is P w x k
  have hsc : (Value.str x k).scannable = true := rfl
  have hel : ElemsOf (PySem.strKind P w) es.toList := txE_all g
  have hb : es.size < scanBound := scan64 (by omega)
  (unfold setAddHashed setAddHashedIn)
  (refine wpAny_holding (wpAny_bind (wpAny_setState_of ho hd hf ?_)))
  dsimp only
  rw [byScan_of hsc hb hel]
  simp only [↓reduceIte]
  unfold setAddByScan
  refine wpAny_bind (wpAny_bind (wpAny_rule (wpAny_bind (wpAny_setScan_of hkey ho hd hf hel ?_))))
  cases hfi : List.findIdx? (fun e => (PySem.strKind P w).is x e.2) es.toList with
  | some j =>
    dsimp only
    (obtain ⟨hj, pj, _⟩ := List.findIdx?_eq_some_iff_getElem.mp hfi)
    exact wpAny_pure (wpAny_pure (h1 (pL.mem_iff.mp ((txE_mem g x).2 ⟨es.toList[j], List.getElem_mem hj, pj⟩))))
  | none =>
    dsimp only
    have hn : x ∉ L := fun z => by
      obtain ⟨e, he, q⟩ := (txE_mem g x).1 (pL.mem_iff.mpr z)
      (have c := List.findIdx?_eq_none_iff.mp hfi e he)
      rw [q] at c
      cases c
    have p1 := layNew_perm t es ((PySem.strKind P w).hash x) (.str x k)
    have f1 := layNew_fits t es ((PySem.strKind P w).hash x) (.str x k)
    have r1 := layNew_ris t es ((PySem.strKind P w).hash x) (.str x k) hr
    have l1 := layNew_led t es ((PySem.strKind P w).hash x) (.str x k)
    generalize layNew t es ((PySem.strKind P w).hash x) (.str x k) = Z at p1 f1 r1 l1 ⊢
    obtain ⟨fs, u, was, gave⟩ := Z
    dsimp only at p1 f1 r1 l1 ⊢
    rw [Array.toList_push] at p1
    have pc : fs.toList.Perm (((PySem.strKind P w).hash x, Value.str x k) :: es.toList) := p1.trans (List.perm_append_singleton _ _)
    have pk : (fs.toList.map rowS).Perm (x :: L) := (pc.map rowS).trans (pL.cons x)
    have g1 : ∀ e ∈ fs.toList, TxE P w e := fun e he => (List.mem_cons.mp (pc.mem_iff.mp he)).elim (fun z => by rw [z]; exact ⟨x, k, rfl, rfl⟩) (g e)
    have nd1 : (x :: L).Nodup := List.nodup_cons.mpr ⟨hn, nd⟩
    have few1 : (x :: L).length < 64 := by rw [List.length_cons]; exact room
    have hled : w.params.followText "set-order" = true ∨ u.led = true := hl.imp id fun z => by rw [l1]; exact z
    have gw : ∀ (b : Bool) {s1 : Shared} {Q1 : Unit → Shared → Prop}, Q1 () s1 → wpAny (model P w) A (match b with
        | true => (rule "set.scan.the-table-gave-way")
        | false => pure ()) Q1 E s1 := fun b s1 Q1 q => by cases b <;> first | exact wpAny_pure q | exact wpAny_rule q
    refine wpAny_bind (gw _ ?_)
    split
    · refine wpAny_bind ?_
      (rw [hashByValue_scannable 8 hsc])
      refine wpAny_pure (tailS ?_ ho hex hd g1 pk nd1 few1 ?_ ?_ ?_ ?_)
      · intro b s1 Q1 q; cases b <;> first | exact wpAny_pure q | exact wpAny_rule q
      · first | (split <;> first | exact f1 | exact SetTable.fits_plain_off f1) | exact f1
      · first | (split <;> exact r1) | exact r1
      · (first | (split <;> exact hled) | exact hled)
      · intro h' sb r; dsimp only; exact wpAny_pure (h2 hn h' sb r)
    · (refine wpAny_bind (wpAny_pure ?_))
      simp only [↓reduceIte]
      refine tailS ?_ ho hex hd g1 pk nd1 few1 f1 r1 hled ?_
      · intro b s1 Q1 q; cases b <;> first | exact wpAny_pure q | exact wpAny_rule q
      · intro h' sb r; dsimp only; exact wpAny_pure (h2 hn h' sb r)
theorem mem_take_succ {ts : List Str} {i : Nat} {x y : Str} (e : ts[i]? = some x) : y ∈ ts.take (i + 1) ↔ y = x ∨ y ∈ ts.take i := by
  rw [List.take_add_one, List.mem_append, e]
  simp [or_comm]
/-- the loop that lays the texts in -/
theorem loopS {I : Addr} {fp wr : List Addr} {G : Array GenState → Array GenState → Prop} {n : Nat} {Pv : Nat → Value → Prop} {St : Nat → Shared → Prop} {R : Result → Shared → Prop} (W : WalksS P w A.in1 I fp wr G n Pv St) (S : Addr) (hS : S ∉ fp)
    (ts : List Str) (hn : n = ts.length) (few : ts.length < 63) (hv : ∀ i v, Pv i v → ∃ x t, ts[i]? = some x ∧ v = .str x t) :
    ∀ (k i : Nat) (s : Shared), n - i = k → i ≤ n → St i s → (∃ L, SetS P w s.heap S L ∧ L.length ≤ i ∧ ∀ y, y ∈ L ↔ y ∈ ts.take i) →
      (∀ s' L, Moved (S :: wr) G s s' → SetS P w s'.heap S L → (∀ y, y ∈ L ↔ y ∈ ts) → R (.ok (.ret .none)) s') → codeAny (model P w) A (.builtin "set.update.loop" ⟨[.ref S, .ref I], []⟩) R s := by
  have nw : S ∉ wr := fun h => hS (W.sub _ h)
  have sb : ∀ b ∈ wr, b ∈ S :: wr := fun b hb => List.mem_cons_of_mem _ hb
  intro k
  induction k with
  | zero =>
    intro i s hk hi st ⟨L, r, _, m⟩ q
    obtain rfl : i = n := by omega
    (refine codeAny_builtin PyProof.Rows.F.entry_set_update_loop ?_)
    (rw [Around.under_plainId PyProof.Rows.F.plain_set_update_loop _])
    (show wpAny _ A.in1 (pyNext (.ref I) >>= _) _ _ s)
    refine wpAny_bind (W.done s _ _ st fun s' mv => ?_)
    (show wpAny _ A.in1 (ret Value.none) _ _ s')
    exact wpAny_pure (q s' L (mv.mono sb) (r.stay fun o e => mv.heap S o nw e) fun y => by rw [m y, hn, List.take_length])
  | succ k ih =>
    intro i s hk hi st ⟨L, r, hl, m⟩ q
    have lt : i < n := by omega
    (refine codeAny_builtin PyProof.Rows.F.entry_set_update_loop ?_)
    (rw [Around.under_plainId PyProof.Rows.F.plain_set_update_loop _])
    (show wpAny _ A.in1 (pyNext (.ref I) >>= _) _ _ s)
    refine wpAny_bind (W.item i s _ _ lt st fun v s' pv st' mv => ?_)
    obtain ⟨x, t, hx, rfl⟩ := hv i v pv
    have r' : SetS P w s'.heap S L := r.stay fun o e => mv.heap S o nw e
    show wpAny _ A.in1 (holding [Value.str x t] (setAdd S (.str x t)) >>= _) _ _ s'
    (refine wpAny_bind (wpAny_holding ?_))
    unfold setAdd
    refine wpAny_holding (wpAny_bind ((PySem.strKind P w).pyHash (k := x) (strKind_is _ _ _ _) ?_))
    have mv1 : Moved (S :: wr) G s { s' with toks := s'.toks + 1 } := (mv.mono sb).then_heap (Nat.le_succ _) fun b o _ e => e
    refine addS (s := { s' with toks := s'.toks + 1 }) r' (by omega) (fun hm => ?_) fun hm h' h2 r2 => ?_
    · refine wpAny_pure ⟨plainId_quiet PyProof.Rows.F.plain_set_update_loop _, ih (i + 1) _ (by omega) lt (W.frame _ s' _ _ st' (Nat.le_succ _) fun b _ o e => e) ⟨L, r', by omega, fun y => ?_⟩ fun s2 L2 mv2 r2 m2 => ?_⟩
      · rw [mem_take_succ hx, m y]
        exact ⟨.inr, fun z => z.elim (fun e => by rw [e]; exact (m x).1 hm) id⟩
      · exact q s2 L2 (Moved.trans W.gtrans mv1 mv2) r2 m2
    · refine wpAny_pure ⟨plainId_quiet PyProof.Rows.F.plain_set_update_loop _, ih (i + 1) _ (by omega) lt (W.frame _ s' _ _ st' (Nat.le_succ _) fun b hb o e => ?_) ⟨x :: L, r2, by rw [List.length_cons]; omega, fun y => ?_⟩ fun s3 L3 mv3 r3 m3 => ?_⟩
      · rw [h2.2 b (fun h : b = S => hS (by rw [← h]; exact hb))]; exact e
      · rw [mem_take_succ hx, List.mem_cons, m y]
      · refine q s3 L3 (Moved.trans W.gtrans ((mv.mono sb).then_heap (Nat.le_succ _) fun b o hb e => ?_) mv3) r3 m3
        rw [h2.2 b (fun h : b = S => hb (by rw [h]; exact List.mem_cons_self))]; exact e
theorem freshS {h : Heap} (ho : h.get? a = some { cls := .type "set", dict := none, data := .set #[] 0 (.fresh 0 0 (!w.params.followText "set-order")) }) : SetS P w h a [] :=
  ⟨_, #[], 0, _, ho, ⟨rfl, rfl, rfl⟩, rfl, fun e he => by simp at he, by simp, List.nodup_nil, by decide, by rfl, List.Pairwise.nil, by
    (show _ ∨ (!w.params.followText "set-order") = true)
    (cases w.params.followText "set-order")
    · exact .inr rfl
    · exact .inl rfl⟩
abbrev newSet (w : World) : Obj := { cls := .type "set", dict := none, data := .set #[] 0 (.fresh 0 0 (!w.params.followText "set-order")) }
set_option maxHeartbeats 3300000 in
/-- set(ts), a list of texts -/
theorem call_setS {l : Addr} {its : Array Value} {ts : List Str} {Q : Value → Shared → Prop} (hh : A.handled = none) (hl : s.heap.IsList l its) (hi : PyProof.Rows.StrsAre its.toList ts) (few : ts.length < 63)
    (q : ∀ (h' : Heap) (tk : Nat) (L : List Str), SetS P w h' s.heap.objs.size L → (∀ y, y ∈ L ↔ y ∈ ts) → (∀ b o, s.heap.get? b = some o → h'.get? b = some o) → Q (.ref s.heap.objs.size) { s with heap := h', toks := tk }) : wpAny (model P w) A (call (.type "set") [.ref l]) Q E s := by
  have isz : its.size = ts.length := by rw [← StrsAre.len_eq hi, Array.length_toList]
  (obtain ⟨c, tl, hmro⟩ := PySem.F.called_set.mro)
  (have hmade := PySem.F.called_set.made)
  (have hsub := PySem.F.called_set.sub)
  (refine wpAny_call (codeAny_of_tree ?_))
  (show wpAny _ _ (callAny (.type "set") _) _ _ _)
  (refine wpAny_pure ⟨Code.quiet_builtin _ (by decide +kernel), codeAny_builtin PySem.F.entry_type_call ?_⟩)
  (rw [Around.under_plain (weight_type_call_type "set" [.ref l] []) rfl])
  (have h1 := PySem.F.called_set.notType)
  (have h2 := PySem.F.called_set.canCreate)
  (have hct := PySem.F.typeCall_set_1 (.ref l))
  (repeat (any_goals (first | assumption | wp_step)))
  refine codeAny_mono (code_set_led1 (.ref l) (E := E) (Q₁ := fun ob s1 => ob = .ref s.heap.objs.size ∧ s1 = { s with heap := s.heap.push (newSet w) }) ⟨rfl, rfl⟩) fun r s1 hr => ?_
  cases r with
  | error e => exact hr
  | ok fl =>
    cases fl with
    | ret ob =>
      obtain ⟨rfl, rfl⟩ := hr
      have hS : (s.heap.push (newSet w)).get? s.heap.objs.size = some (newSet w) := Heap.get?_push_size _ rfl
      have hT : Shared.TypeIs { s with heap := s.heap.push (newSet w) } (.ref s.heap.objs.size) "set" := ⟨_, hS, rfl⟩
      (have hli := PySem.F.called_set.init.lookup)
      (have hbi := PySem.F.called_set.init.bind (.ref s.heap.objs.size))
      (repeat (any_goals (first | assumption | wp_step)))
      refine codeAny_mono (codeAny_call_builtin (R := wants (fun r s2 => r = .none ∧ ∃ h' tk L, s2 = { s with heap := h', toks := tk } ∧ SetS P w h' s.heap.objs.size L ∧ (∀ y, y ∈ L ↔ y ∈ ts) ∧ (∀ b o, s.heap.get? b = some o → h'.get? b = some o)) E)
        PySem.F.called_set.init.plain PySem.F.entry_set_init (check_set_init_1 hT ?_)) fun r2 s2 hr2 => ?_
      · (obtain ⟨ol, hol, hcl, nl, hdl⟩ := hl)
        (obtain ⟨ocls, odict, odata, oslots⟩ := ol)
        simp only at hcl hdl
        subst hcl; subst hdl
        have hol' : (s.heap.push (newSet w)).get? l = some { cls := .type "list", dict := odict, data := .seq its nl, slots := oslots } := Heap.get?_push_of_some _ hol
        (have hsls := PySem.F.sub_list_set)
        (have hslf := PySem.F.sub_list_frozenset)
        (have hne : (Value.type "list" == Value.type "dict") = false := by decide)
        have hl1 : (s.heap.push (newSet w)).IsList l its := ⟨_, hol', rfl, nl, rfl⟩
        (unfold Builtin.«set.__init__» noKeywords Builtin.Frozenset.updateFrom)
        generalize hPI : pyIter = PI
        wp_walk
        subst hPI
        refine wpAny_pyIter_list hl1 (wpAny_bind (wpAny_runValue ?_))
        have lS : l < s.heap.objs.size := Heap.lt_size hol
        (have hh3 : A.in1.in1.in1.handled = none := by simp [hh])
        have z1 : (s.heap.push (newSet w)).objs.size = s.heap.objs.size + 1 := Heap.size_push ..
        have neI : l ≠ (s.heap.push (newSet w)).objs.size := Nat.ne_of_lt (by rw [z1]; exact Nat.lt_succ_of_lt lS)
        have nfp : s.heap.objs.size ∉ [(s.heap.push (newSet w)).objs.size, l] := fun z => (List.mem_cons.mp z).elim (fun z => absurd (z.trans z1) (Nat.ne_of_lt (Nat.lt_succ_self _))) fun z => absurd (List.mem_singleton.mp z) (Nat.ne_of_gt lS)
        have hv : ∀ (i : Nat) (v : Value), its[i]? = some v → ∃ x t, ts[i]? = some x ∧ v = .str x t := fun i v hv => by
          have hi2 : i < ts.length := by rw [← isz]; exact (Array.getElem?_eq_some_iff.mp hv).1
          obtain ⟨t, e⟩ := SS.strs_at hi i v (by rw [Array.getElem?_toList]; exact hv)
          refine ⟨ts[i], t, List.getElem?_eq_getElem hi2, ?_⟩
          rw [e, List.getD_eq_getElem?_getD, List.getElem?_eq_getElem hi2]; rfl
        refine loopS ((Walks.list hh3 _ l neI its).toS) s.heap.objs.size nfp ts isz few hv (its.size - 0) 0 _ (by omega) (Nat.zero_le _) ⟨⟨_, Heap.get?_push_size _ rfl, rfl, rfl⟩, (hl1.push _)⟩ ?hS0 ?hR
        case hS0 => exact ⟨[], freshS (Heap.get?_push_of_some _ hS), Nat.zero_le _, fun y => by simp⟩
        case hR =>
          intro s' L mv r' m'
          (obtain ⟨h', g2, d', tk', os'⟩ := s')
          have eg : g2 = s.gens := mv.gens
          have ed : d' = s.drawn := mv.drawn
          have eo : os' = s.os := mv.os
          subst eg; subst ed; subst eo
          show wpAny _ _ _ _ _ _
          refine wpAny_pure ?_
          (show wpAny _ _ (ret Value.none) _ _ _)
          refine wpAny_pure ⟨rfl, h', tk', L, rfl, r', m', fun b o e => ?_⟩
          have b0 : b < s.heap.objs.size := Heap.lt_size e
          refine mv.heap b o (fun z => ?_) (Heap.get?_push_of_some _ (Heap.get?_push_of_some _ e))
          exact (List.mem_cons.mp z).elim (fun z => absurd z (Nat.ne_of_lt b0)) fun z => absurd ((List.mem_singleton.mp z).trans z1) (Nat.ne_of_lt (Nat.lt_succ_of_lt b0))
      · cases r2 with
        | error e => exact hr2
        | ok fl2 =>
          cases fl2 with
          | ret r =>
            obtain ⟨rfl, h', tk, L, rfl, r', m', k'⟩ := hr2
            (repeat (any_goals (first | assumption | wp_step)))
            exact q _ _ _ r' m' k'
          | _ => exact hr2.elim
    | _ => exact hr.elim
end
end DD
namespace DD
open PySem PySem.Spec
open PyProof.Rows L2
section
variable {P : Program} {w : World} {A : Around} {E : Value → Shared → Prop} {s : Shared} {a : Addr}
theorem strs_rows : ∀ (l : List (Int × Value)), (∀ e ∈ l, TxE P w e) → StrsAre (l.map (·.2)) (l.map rowS)
  | [], _ => .nil
  | e :: r, h => by
    obtain ⟨x, t, q, _⟩ := h e List.mem_cons_self
    have e2 : rowS e = x := by unfold rowS; rw [q]
    rw [List.map_cons, List.map_cons, e2, q]
    exact .cons x t (strs_rows r fun u hu => h u (List.mem_cons_of_mem _ hu))
theorem strs_perm {us vs : List Value} {xs : List Str} (p : us.Perm vs) : StrsAre vs xs → ∃ ys, StrsAre us ys ∧ ys.Perm xs := by
  intro h
  refine ⟨us.map fun v => match v with
    | .str x _ => x
    | _ => Str.empty, ?_, ?_⟩
  · have all : ∀ v ∈ us, ∃ x t, v = Value.str x t := fun v hv => by
      have : v ∈ vs := p.mem_iff.mp hv
      clear p hv
      induction h with
      | nil => cases this
      | cons n t hr ih => exact (List.mem_cons.mp this).elim (fun e => ⟨_, _, e⟩) ih
    clear p
    induction us with
    | nil => exact .nil
    | cons v r ih =>
      obtain ⟨x, t, rfl⟩ := all v List.mem_cons_self
      exact .cons x t (ih fun u hu => all u (List.mem_cons_of_mem _ hu))
  · have e : xs = vs.map fun v => match v with
      | .str x _ => x
      | _ => Str.empty := by
      clear p
      induction h with
      | nil => rfl
      | cons n t hr ih => rw [List.map_cons, ← ih]
    rw [e]
    exact p.map _
/-- sorted(set) -/
theorem sortedSetS {L : List Str} {Q : Value → Shared → Prop} (R : SetS P w s.heap a L) (hh : A.handled = none)
    (hQ : ∀ s' p (out : Array Value) (c : Nat) (ys : List Str), (∀ b o, s.heap.get? b = some o → s'.heap.get? b = some o) → s'.gens = s.gens → s'.os = s.os → s.heap.objs.size ≤ p →
      s'.heap.get? p = some (seqObj "list" out c) → StrsAre out.toList ys → ys.Perm L → sortedS ys = true → Q (.ref p) s') : wpAny (model P w) A (call (.builtin "sorted") [.ref a]) Q E s := by
  obtain ⟨o, es, ep, t, ho, hex, hd, g, pL, nd, few, hf, hr, hl⟩ := R
  have sz : es.size = L.length := by rw [← Array.length_toList, ← pL.length_eq, List.length_map]
  (refine Calls.call_function_entry kind_sorted plain_sorted entry_sorted (args_sorted1 _) ?_)
  unfold Builtin.«sorted»
  (refine wpAny_bind (m := checkCount "sorted" 1 1 _) (wpAny_pure ?_))
  refine wpAny_bind (collect_set (A := A.in1) hh ⟨o, ho, hex.1, hd⟩ hf (scan64 (by omega)) hr hl fun s1 vs k1 hz g1 o1 pm => ?_)
  obtain ⟨xs, hxs, px⟩ := strs_perm pm (strs_rows (P := P) (w := w) es.toList g)
  have vl : vs.length = L.length := by rw [pm.length_eq, List.length_map, Array.length_toList]; exact sz
  refine wpAny_bind (wpAny_newList ?_ (by rw [vl, sizeLine_eq]; omega))
  have oL : (s1.heap.push (seqObj "list" vs.toArray 0)).get? s1.heap.objs.size = some (seqObj "list" vs.toArray 0) := Heap.get?_push_size _ rfl
  refine wpAny_bind (wpAny_holding (wpAny_call_entry slot_list_sort ⟨_, oL, rfl⟩ entry_list_sort (list_sort_treeK strKind_oneLt oL hxs.keysOf (fun v1 v2 rest e => keyKind_strs (by rw [← e]; exact hxs)) (by rw [vl]; exact few) fun st' hp hs => ⟨_, rfl, ?_⟩) (args_list_sort _)))
  obtain ⟨ys, a1, a2, a3⟩ := sorted_out_str hxs hp hs
  obtain ⟨c, hc⟩ := sortedHeap_at (vs := vs) (out := (arrOf st').map (·.2)) oL
  refine wpAny_pure ⟨_, rfl, hQ _ s1.heap.objs.size _ c ys (fun b u e => ?_) g1 o1 hz hc a1 (a2.trans (px.trans pL)) a3⟩
  have q := k1 b u e
  have lt := Heap.lt_size q
  show (sortedHeap (s1.heap.push (seqObj "list" vs.toArray 0)) s1.heap.objs.size vs _).get? b = some u
  rw [sortedHeap_old (Nat.ne_of_lt lt) (by rw [size_push']; exact Nat.lt_succ_of_lt lt)]
  (exact Heap.get?_push_of_some _ q)
end
def SetSO (P : Program) (w : World) (a : Addr) (L : List Str) : HO := .ext fun h => SetS P w h a L
theorem setSO_ok {P : Program} {w : World} {H : Hp} {h : Heap} {a : Addr} {L : List Str} (R : SetS P w h a L) : ObjOk P w H h a (SetSO P w a L) := by
  have ⟨o, _, _, _, ho, _⟩ := R
  exact ⟨R, ⟨o, ho⟩, fun h1 h2 p k => SetS.stay p k⟩
section
variable {X : Cx}
/-- set(ts) -/
def rSetS (K : PySem.W.Frag) (P : Program) (w : World) : List V → Hp → VK → Prop := fun xs H Q => ∃ (l : Addr) (ts : List Str), xs = [V.ref l] ∧ SqL K H l (ts.map V.str) ∧ ts.length < 63 ∧ ∀ a L, H a = none → L.Nodup → (∀ y, y ∈ L ↔ y ∈ ts) → Q (.ref a) (upd H a (SetSO P w a L))
theorem cr_setS (hc : X.calm = true) : CallR X (.type "set") (rSetS X.K X.prog X.w) := by
  (intro pins s σ H xs us Q I r h)
  obtain ⟨l, ts, rfl, hl, few, q⟩ := h
  rw [Vals.ref1 r]
  (obtain ⟨its, rv, pl, hz⟩ := I.list hl)
  refine call_setS (P := X.prog) (w := X.w) (I.ok.hd hc) pl.isList (by simpa using strsAre_of rv) few fun h' tk L R m k => ?_
  have nd : L.Nodup := let ⟨_, _, _, _, _, _, _, _, _, nd, _⟩ := R; nd
  exact ⟨.ref s.heap.objs.size, upd H s.heap.objs.size (SetSO X.prog X.w s.heap.objs.size L), I.laid (t' := tk) k (Nat.le_refl _) (setSO_ok R), rfl, q _ L (I.hok.fresh (Nat.le_refl _)) nd m⟩
/-- sorted(a set of texts) -/
def rSortSS (P : Program) (w : World) : List V → Hp → VK → Prop := fun vs H Q => ∃ (a : Addr) (L : List Str), vs = [V.ref a] ∧ H a = some (SetSO P w a L) ∧ ∀ (ys : List Str) (p : Addr), ys.Perm L → sortedS ys = true → H p = none → Q (.ref p) (upd H p (.lst (ys.map V.str)))
theorem cr_sortSS (hc : X.calm = true) : CallR X (.builtin "sorted") (rSortSS X.prog X.w) := by
  (intro pins s σ H vs us Q I r h)
  obtain ⟨a, L, rfl, ha, q⟩ := h
  have R : SetS X.prog X.w s.heap a L := (I.hok a _ ha).1
  have few : L.length < 64 := let ⟨_, _, _, _, _, _, _, _, _, _, few, _⟩ := R; few
  rw [Vals.ref1 r]
  refine sortedSetS R (I.ok.hd hc) fun s' p out c ys k g o hp hg hy pm so => ?_
  (have hn : H p = none := I.hok.fresh hp)
  have hlen : (ys.map V.str).length ≤ sizeLine := by rw [List.length_map, pm.length_eq]; exact small64 few
  have J : Inv X pins σ (upd H p (.lst (ys.map V.str))) { s with heap := s'.heap, gens := s'.gens, drawn := s'.drawn, toks := s'.toks } := I.call (ch := []) (Un.laid k hp hn) (I.hok.laid k hp ⟨hlen, out.toList, c, vals_of_strs hy, hg⟩) (by rw [g]; exact I.bare) fun _ z => nomatch z
  have e : (s' = { s with heap := s'.heap, gens := s'.gens, drawn := s'.drawn, toks := s'.toks }) := by
    cases s'; cases s; cases o; rfl
  rw [e]
  exact ⟨.ref p, _, J, rfl, q ys p pm so hn⟩
end
end DD
namespace DD
open PySem PySem.Spec
open PyProof.Rows L2
/-! ## enumerate(tuple) -/
section
variable {s : Shared} {E : Value → Shared → Prop} {A : Around} {w : World} {P : Program}
theorem tup_draws {it t : Addr} {items : Array Value} (hh : A.handled = none) (ne : t ≠ it) : Draws P w A it [it, t] items.size (fun i v => items[i]? = some v) (fun i h => h.IsTupleIter it t i ∧ h.IsTuple t items) where
  live := fun i h ⟨⟨o, ho, _⟩, _⟩ => ⟨o, ho⟩
  frame := fun i h h' ⟨a, b⟩ k => ⟨a.at fun o q => k it (by simp) o q, let ⟨o, ho, r⟩ := b; ⟨o, k t (by simp) o ho, r⟩⟩
  item := fun i s Q E hi ⟨a, b⟩ hQ => RZ.nextOf_tuple_item a b (Array.getElem?_eq_getElem hi) fun h' a' sb => hQ _ h' s.toks (Array.getElem?_eq_getElem hi) ⟨a', let ⟨o, ho, r⟩ := b; ⟨o, (sb.2 t ne).trans ho, r⟩⟩ sb
  done := fun s Q E ⟨a, b⟩ hE => RZ.nextOf_tuple_end hh a b (by simp) hE
open AutoSeq1 (wpAny_loadPart') in
theorem new_enumT (l : Addr) (items : Array Value) (n : Nat) (dct : Option Addr) (sl : Array (Option Value)) :
    Meets (Builtin.«enumerate.__new__» ⟨[.type "enumerate", .ref l], []⟩) (fun _ R s => s.heap.get? l = some { cls := .type "tuple", dict := dct, data := .seq items n, slots := sl } ∧
      R (.ok (.ret (.ref (s.heap.push { cls := .type "tuple_iterator", data := .fields #[.ref l, .int 0 0] }).objs.size)))
        { s with heap := (s.heap.push { cls := .type "tuple_iterator", data := .fields #[.ref l, .int 0 0] }).push { cls := .type "enumerate", data := .fields #[.none, .bool false, .ref s.heap.objs.size, rawInt 0, .none, .none] } }) := .of_wp fun prog w A R s h => by
    (obtain ⟨hp, g, d, tk, os⟩ := s)
    obtain ⟨hl, h⟩ := h
    have hsub := sub_enumerate
    have hT : Heap.IsTuple (Shared.heap ⟨hp, g, d, tk, os⟩) l items := ⟨_, hl, rfl, n, rfl⟩
    (wp_walk using wpAny_loadPart' hl)
    (refine wpAny_stack_any fun st => wpAny_pure ?_)
    split
    · rename_i c _ _ _ _ _
      cases (c == Value.type "enumerate") <;>
        (wp_walk using wpAny_loadPart' hl, wpAny_pyIter_tuple hT
         exact ⟨_, rfl, h⟩)
    · wp_walk using wpAny_loadPart' hl, wpAny_pyIter_tuple hT
      exact ⟨_, rfl, h⟩
theorem call_enumT {l : Addr} {items : Array Value} {Q : Value → Shared → Prop} (hL : s.heap.IsTuple l items)
    (h : ∀ h', IsEnum h' (s.heap.objs.size + 1) s.heap.objs.size 0 .none → h'.IsTupleIter s.heap.objs.size l 0 → h'.objs.size = s.heap.objs.size + 2 →
      (∀ b o, s.heap.get? b = some o → h'.get? b = some o) → Q (.ref (s.heap.objs.size + 1)) { s with heap := h' }) : wpAny (model P w) A (call (.type "enumerate") [.ref l]) Q E s := by
  (obtain ⟨⟨c, dct, dt, sl⟩, hl, hc, n, hd⟩ := hL)
  obtain rfl : c = .type "tuple" := hc
  obtain rfl : dt = .seq items n := hd
  refine callType_new F.called_enumerate (by decide) (F.typeCall_enumerate_1 _) (F.newCall_enumerate_1 _) (fun ob => F.args_object_init_2 ob _) F.entry_enumerate_new (new_enumT l items n dct sl) ⟨hl, ?_⟩
  have z1 : (s.heap.push { cls := .type "tuple_iterator", data := .fields #[.ref l, .int 0 0] }).objs.size = s.heap.objs.size + 1 := Heap.size_push ..
  show _ ∧ _
  rw [z1]
  have he : IsEnum ((s.heap.push { cls := .type "tuple_iterator", data := .fields #[.ref l, .int 0 0] }).push { cls := .type "enumerate", data := .fields #[.none, .bool false, .ref s.heap.objs.size, rawInt 0, .none, .none] }) (s.heap.objs.size + 1) s.heap.objs.size 0 .none := by
    have q := Heap.get?_push_size (s.heap.push { cls := .type "tuple_iterator", data := .fields #[.ref l, .int 0 0] }) (o := { cls := .type "enumerate", data := .fields #[.none, .bool false, .ref s.heap.objs.size, rawInt 0, .none, .none] }) rfl
    rw [z1] at q
    exact q
  exact ⟨⟨_, he, rfl⟩, h _ he ⟨_, Heap.get?_push_of_some _ (Heap.get?_push_size _ rfl), rfl, rfl⟩ (by rw [Heap.size_push, z1]) fun b o x => Heap.get?_push_of_some _ (Heap.get?_push_of_some _ x)⟩
end
/-- the tuple at a, each item in a new pair -/
def IteT (K : PySem.W.Frag) (a : Addr) : It :=
  ⟨fun i H => ∃ (xs : List V) (x : V), SqT K H a xs ∧ xs[i]? = some x, fun i H v H' => ∃ T x, v = .ref T ∧ H T = none ∧ H' = upd H T (.tup [.int (i : Nat), x]) ∧ ∀ xs, SqT K H a xs → xs[i]? = some x, fun i H => ∃ xs : List V, SqT K H a xs ∧ xs.length ≤ i⟩
theorem turn_enumT {P : Program} {w : World} {K : PySem.W.Frag} {elts : List Expr} {kk : Nat} {tpos : Pos} (a e it : Addr) : Turn P w K (.Tuple elts kk tpos) (IteT K a) [e, it] e (fun i h => (∃ old, IsEnum h e it ((i : Nat) : Int) old) ∧ h.IsTupleIter it a i ∧ e ≠ it) where
  mem := by simp
  obj := fun i h st b hb => by
    (obtain ⟨⟨old, he⟩, ⟨o, ho, hc, hd⟩, _⟩ := st)
    (rcases List.mem_cons.mp hb with z | z)
    · (rw [z]; exact ⟨_, he, fun v q => nomatch q⟩)
    · rw [List.mem_singleton.mp z]; exact ⟨o, ho, fun v q => by rw [hd] at q; cases q⟩
  keep := fun i h h' st k => let ⟨⟨old, he⟩, hi, ne⟩ := st; ⟨⟨old, k e (by simp) _ he⟩, hi.at fun o q => k it (by simp) o q, ne⟩
  item := by
    (intro X hP hw hK hc i pins s σ H E I hf st hg)
    subst hP hw hK
    obtain ⟨⟨old, he⟩, hit, ne⟩ := st
    obtain ⟨xs, x, hq, hx⟩ := hg
    (obtain ⟨its, rv, p, hz⟩ := I.tuple hq)
    (obtain ⟨u, hu, ru⟩ := rv.get hx)
    have le : e < s.heap.objs.size := Heap.lt_size he
    have li : it < s.heap.objs.size := by obtain ⟨_, q, _⟩ := hit; exact Heap.lt_size q
    have at_ : its.toArray[i]? = some u := by simpa using hu
    have nt : a ≠ it := fun z => by
      obtain ⟨o, ho, hc, _⟩ := id p
      obtain ⟨o2, ho2, hc2, _⟩ := id hit
      rw [z, ho2] at ho; cases ho
      exact absurd (hc2.symm.trans hc) (by decide)
    have et : a ≠ e := fun z => by
      obtain ⟨o, ho, hc, _⟩ := id p
      rw [z, he] at ho; cases ho
      exact absurd (show (Value.type "enumerate") = Value.type "tuple" from hc) (by decide)
    refine wpAny_pyNext_enum_itemD (tup_draws (I.ok.hd hc) nt) he ⟨hit, p⟩ (Array.getElem?_eq_some_iff.mp at_).1 ne (by simp; exact ⟨ne, fun z => et z.symm⟩) fun v h' tk hv ho hit' hT hsz hk => ?_
    rw [at_] at hv
    cases hv
    refine ⟨_, rfl, wpAny_letOwnedTupleGo_enum (s := { s with heap := h', toks := tk + 1 }) ho fun h2 he' sb => ?_⟩
    have hT2 : h2.get? s.heap.objs.size = some { cls := .type "tuple", data := .seq #[.int i tk, u] } := (sb.2 _ (Nat.ne_of_gt le)).trans hT
    have new : ObjOk X.prog X.w (upd H s.heap.objs.size (.tup [.int (i : Nat), x])) h2 s.heap.objs.size (.tup [.int (i : Nat), x]) := ⟨by show 2 ≤ sizeLine; decide, [.int i tk, u], .cons ⟨_, rfl⟩ (.cons ru .nil), ⟨_, hT2, rfl, _, rfl⟩⟩
    have I1 : Inv X pins σ (upd H s.heap.objs.size (.tup [.int (i : Nat), x])) { s with heap := h2, toks := tk + 1 } :=
      I.turnedNew (ch := [e, it]) (fun b ob nb q => (sb.2 b (fun z => nb (by simp [z]))).trans (hk b ob (fun z => nb (by simp [z])) (fun z => nb (by simp [z])) q)) hf (Nat.le_refl _) new
    refine ⟨.ref s.heap.objs.size, _, I1, rfl, ⟨_, x, rfl, I.hok.fresh (Nat.le_refl _), rfl, fun ys hy => by rw [I.tuple_inj hy hq]; exact hx⟩, ⟨⟨u, ?_⟩, hit'.1.at fun o q => (sb.2 it (Ne.symm ne)).trans q, ne⟩, fun b hb => ?_⟩
    · (have e1 : ((i + 1 : Nat) : Int) = (i : Int) + 1 := by omega)
      rw [e1]; simpa using he'
    · have lb : b < s.heap.objs.size := (List.mem_cons.mp hb).elim (fun z => by rw [z]; exact le) fun z => by rw [List.mem_singleton.mp z]; exact li
      rw [upd_ne (Nat.ne_of_lt lb)]
      exact (hf b hb).1
  done := by
    (intro X hP hw hK hc i pins s σ H E I hf st hg)
    subst hP hw hK
    obtain ⟨⟨old, he⟩, hit, ne⟩ := st
    obtain ⟨xs, hq, hx⟩ := hg
    (obtain ⟨its, rv, p, hz⟩ := I.tuple hq)
    (obtain ⟨f0, f1, f2, f3, f4, f5⟩ := hf it (by simp))
    have hl := rv.length
    have nt : a ≠ it := fun z => by
      obtain ⟨o, ho, hc, _⟩ := id p
      obtain ⟨o2, ho2, hc2, _⟩ := id hit
      rw [z, ho2] at ho; cases ho
      exact absurd (hc2.symm.trans hc) (by decide)
    have D : Draws X.prog X.w X.A.in1 it [it, a] i (fun _ _ => True) (fun j h => j = i ∧ h.IsTupleIter it a i ∧ h.IsTuple a its.toArray) :=
      { live := fun j h ⟨_, ⟨o, ho, _⟩, _⟩ => ⟨o, ho⟩
        frame := fun j h h' ⟨e0, a1, b1⟩ k => ⟨e0, a1.at fun o q => k it (by simp) o q, let ⟨o, ho, r⟩ := b1; ⟨o, k a (by simp) o ho, r⟩⟩
        item := fun j s Q E lt ⟨e0, _⟩ _ => absurd e0 (Nat.ne_of_lt lt)
        done := fun s Q E ⟨_, a1, b1⟩ hE => RZ.nextOf_tuple_end (I.ok.hd hc) a1 b1 (by simp; omega) hE }
    exact wpAny_pyNext_enum_endD D he ⟨rfl, hit, p⟩ fun h' eb => ⟨rfl, I.turned (t' := s.toks) (fun b o hb q => eb b o hb q) f0 f1 f3 f4 f5⟩
  self := (fun A i s Q E st h => let ⟨⟨_, he⟩, _⟩ := st; wpAny_pyIter_enum he h)
/-- enumerate(t) -/
def iEnumT (K : PySem.W.Frag) (ta : TA) : TI := fun σ H R => ta σ H fun vs H1 => ∃ a xs, vs = [.ref a] ∧ SqT K H1 a xs ∧ R (IteT K a) H1
theorem pi_enumT {X : Cx} {e : Expr} {ta : TA} {p pos tpos : Pos} {elts : List Expr} {kk : Nat} (hg : Gl X "enumerate") (hm : X.mg "enumerate" = none) (ha : PA X [e] ta) (hs : starEach [e] X.env = [(false, eval e X.env)] := by rfl) : PI X (.Tuple elts kk tpos) (.Call (.Name "enumerate" p) [e] [] pos) (iEnumT X.K ta) := by
  (refine ⟨fun pins s σ H R I h => ?_⟩)
  (refine Call_ (ld_blt I hg hm boot_enumerate (PyProof.Rows.callWith_type1 (thn (ha.run pos pins s σ H _ I h) fun us s1 ⟨vs, H1, I1, r1, q1⟩ => ?_) hs rfl)))
  obtain ⟨a, xs, rfl, hq, q⟩ := q1
  (obtain ⟨its, rv, pt, hz⟩ := I1.tuple hq)
  rw [Vals.ref1 r1]
  refine call_enumT pt fun h' he hit hsz hk => wpAny_pyIter_enum he ?_
  refine ⟨s1.heap.objs.size + 1, [s1.heap.objs.size + 1, s1.heap.objs.size], _, _, H1, rfl, I1.kept (t' := s1.toks) hk, turn_enumT a (s1.heap.objs.size + 1) s1.heap.objs.size, ⟨⟨.none, he⟩, hit, Nat.succ_ne_self _⟩, fun b hb => ?_, q⟩
  have le : s1.heap.objs.size ≤ b := (List.mem_cons.mp hb).elim (fun z => by rw [z]; exact Nat.le_succ _) fun z => by rw [List.mem_singleton.mp z]; exact Nat.le_refl _
  exact I1.fpOk le (I1.hok.fresh le)
theorem walk_enumT {K : PySem.W.Frag} {a : Addr} {xs : List V} : Walk (IteT K a) xs.length (fun H => SqT K H a xs) (YPair (fun i => some (.int (i : Nat))) (fun i => xs[i]?)) :=
  ⟨fun i H hi h => ⟨xs, xs[i], h, List.getElem?_eq_getElem hi⟩, fun H h => ⟨xs, h, Nat.le_refl _⟩, fun i H x H' hi h ⟨T, y, e1, e2, e3, e4⟩ => ⟨T, _, y, e1, e2, e3, rfl, e4 xs h⟩⟩
end DD
namespace DD
open PySem PySem.Spec
open PyProof.Rows L2
/-! ### frames: all but one address stays -/
def But (D : Addr) (H H' : Hp) : Prop := ∀ a u, a ≠ D → H a = some u → H' a = some u
theorem But.refl (D : Addr) (H : Hp) : But D H H := fun _ _ _ h => h
theorem But.trans {D : Addr} {H H1 H2 : Hp} (a : But D H H1) (b : But D H1 H2) : But D H H2 := fun c u n h => b c u n (a c u n h)
theorem _root_.L2.Same.but {D : Addr} {H H' : Hp} (e : Same H H') : But D H H' := fun a u _ h => e a u h
theorem But.upd {D : Addr} {H : Hp} {o : HO} : But D H (L2.upd H D o) := fun a u n h => by rw [upd_ne n]; exact h
theorem But.lst {D : Addr} {K : PySem.W.Frag} {H H' : Hp} {l : Addr} {xs : List V} (e : But D H H') (n : l ≠ D) (h : H l = some (.lst xs)) : SqL K H' l xs := SqL.of (e l _ n h)
theorem But.kt {D : Addr} {H H' : Hp} (e : But D H H') (h : ∀ u, H D = some u → tupO u = false) : KT H H' := fun a u q s => by
  by_cases n : a = D
  · rw [n] at q; rw [h u q] at s; cases s
  · exact e a u n q
/-! ### comprehensions with two clauses -/
theorem lc2_g {J : It} {n : Nat} {G : Hp → Prop} {Y : Nat → Hp → V → Hp → Prop} (w : Walk J n G Y) {g g1 : TG} {tt : TT} {wi1 : L2.TI} {te : TE} {vs vs1 : List Nat} {σ : L2.St} {H1 : Hp} {D : Addr} {Qd : Hp → Prop} (R : Nat → List V → Hp → Prop)
    (hR : ∀ i o H H', KT H H' → R i o H → R i o H') (hD : H1 D = none) (hn : n ≤ 90) (hG : ∀ H, Same H1 H → G H)
    (hs : ∀ i x H H' (Kin : L2.St → It → Hp → Prop) (Kf : Hp → Prop), i < n → Same H1 H → (∃ xs, H D = some (.lst xs)) → Y i H x H' → (∀ H3, Same H H3 → R i [] H3 → Kf H3) →
      (∀ σ2 J1 H4 n1 G1 Y1 (R1 : Nat → V → Hp → Prop), Same H H4 → Walk J1 n1 G1 Y1 → n1 ≤ 1000 → (∀ H, But D H4 H → G1 H) → (∀ i o H H', KT H H' → R1 i o H → R1 i o H') →
        (∀ j x H5 H6 (Kt : V → Hp → Prop), j < n1 → But D H4 H5 → Y1 j H5 x H6 → (∀ y H7, Same H5 H7 → R1 j y H7 → Kt y H7) → g1 x (wipe σ2 vs1) H6 fun σ3 H7 => wipe σ3 vs1 = wipe σ2 vs1 ∧ te σ3 H7 Kt) →
        (∀ (ys : List V) H5, But D H4 H5 → ys.length = n1 → (∀ j y, ys[j]? = some y → R1 j y H5) → R i ys H5) → Kin σ2 J1 H4) →
      g x (wipe σ vs) H' fun σ2 H2 => wipe σ2 vs = wipe σ vs ∧ tt σ2 H2 fun b H3 => if b = true then wi1 σ2 H3 (Kin σ2) else Kf H3)
    (hd : ∀ (yss : List (List V)) H, Same H1 H → yss.length = n → (∀ i ys, yss[i]? = some ys → R i ys H) → H D = some (.lst yss.flatten) → Qd H) : ∃ W : Nat → Nat → Hp → Prop, (∃ m, W 0 m (upd H1 D (.lst []))) ∧ ∀ i m H, W i m H → (J.stop i H ∧ Qd H) ∨ (J.go i H ∧ ∃ Nx : Hp → Prop, (∀ H', Nx H' → ∃ m', m' < m ∧ W (i + 1) m' H') ∧ ∀ x H', J.yld i H x H' → g x (wipe σ vs) H' fun σ2 H2 => wipe σ2 vs = wipe σ vs ∧ tt σ2 H2 fun b H3 => if b = true then wi1 σ2 H3 fun J1 H4 => ∃ W1 : Nat → Nat → Hp → Prop, (∃ m, W1 0 m H4) ∧ ∀ j k H, W1 j k H →
          (J1.stop j H ∧ Nx H) ∨ (J1.go j H ∧ ∃ Nx1 : Hp → Prop, (∀ H', Nx1 H' → ∃ k', k' < k ∧ W1 (j + 1) k' H') ∧ ∀ x H', J1.yld j H x H' → g1 x (wipe σ2 vs1) H' fun σ3 H5 => wipe σ3 vs1 = wipe σ2 vs1 ∧ tYes σ3 H5 fun b H6 => if b = true then te σ3 H6 fun y H7 => ∃ acc, H7 D = some (.lst acc) ∧ acc.length < sizeLine ∧ Nx1 (upd H7 D (.lst (acc ++ [y]))) else Nx1 H6)
        else Nx H3) := by
  refine ⟨fun i m H => m = n - i ∧ i ≤ n ∧ ∃ yss : List (List V), Same H1 H ∧ yss.length = i ∧ (∀ j ys, yss[j]? = some ys → R j ys H) ∧ H D = some (.lst yss.flatten) ∧ yss.flatten.length ≤ i * 1000, ⟨n, by simp, Nat.zero_le _, [], Same.new hD, rfl, fun j ys e => by simp at e, upd_same, by simp⟩, ?_⟩
  rintro i m H ⟨rfl, hi, yss, s, hl, hr, hl2, hb⟩
  by_cases lt : i < n
  · refine .inr ⟨w.goes i H lt (hG H s), fun H' => ∃ yss : List (List V), Same H1 H' ∧ yss.length = i + 1 ∧ (∀ j ys, yss[j]? = some ys → R j ys H') ∧ H' D = some (.lst yss.flatten) ∧ yss.flatten.length ≤ (i + 1) * 1000, fun H' q => ⟨n - (i + 1), by omega, rfl, lt, q⟩, fun x H' y => ?_⟩
    refine hs i x H H' _ _ lt s ⟨_, hl2⟩ (w.yields i H x H' lt (hG H s) y) (fun H3 s3 r3 => ?_) fun σ2 J1 H4 n1 G1 Y1 R1 s4 w1 hn1 hG1 hR1 hin hout => ?_
    · refine ⟨yss ++ [[]], fun b u e => s3 _ _ (s _ _ e), by simp [hl], ?_, by rw [s3 _ _ hl2]; simp, by rw [show List.flatten (yss ++ [([] : List V)]) = yss.flatten from by simp]; omega⟩
      exact snoc_at (P := fun j o => R j o H3) (fun j o e => hR _ _ _ _ s3.kt (hr j o e)) (by rw [hl]; exact r3)
    · have hD4 := s4 _ _ hl2
      have kt4 : ∀ {H5 : Hp}, But D H4 H5 → KT H4 H5 := fun b => b.kt fun u q => by rw [hD4] at q; cases q; rfl
      refine ⟨fun j k H5 => k = n1 - j ∧ j ≤ n1 ∧ ∃ ys : List V, But D H4 H5 ∧ ys.length = j ∧ (∀ a y, ys[a]? = some y → R1 a y H5) ∧ H5 D = some (.lst (yss.flatten ++ ys)), ⟨n1, by simp, Nat.zero_le _, [], But.refl _ _, rfl, fun j y e => by simp at e, by simpa using hD4⟩, ?_⟩
      rintro j k H5 ⟨rfl, hj, ys, b5, hy1, hy2, hD5⟩
      by_cases ltj : j < n1
      · refine .inr ⟨w1.goes j H5 ltj (hG1 H5 b5), fun H' => ∃ ys : List V, But D H4 H' ∧ ys.length = j + 1 ∧ (∀ a y, ys[a]? = some y → R1 a y H') ∧ H' D = some (.lst (yss.flatten ++ ys)), fun H' q => ⟨n1 - (j + 1), by omega, rfl, ltj, q⟩, fun x1 H6 y1 => ?_⟩
        have big : i * 1000 ≤ 89 * 1000 := Nat.mul_le_mul_right _ (by omega)
        have key := hin j x1 H5 H6 (fun y H7 => ∃ acc, H7 D = some (.lst acc) ∧ acc.length < sizeLine ∧ (∃ ys : List V, But D H4 (upd H7 D (.lst (acc ++ [y]))) ∧ ys.length = j + 1 ∧ (∀ a z, ys[a]? = some z → R1 a z (upd H7 D (.lst (acc ++ [y])))) ∧ (upd H7 D (.lst (acc ++ [y]))) D = some (.lst (yss.flatten ++ ys))))
          ltj b5 (w1.yields j H5 x1 H6 ltj (hG1 H5 b5) y1) fun y H7 s7 r7 => by
            have hD7 := s7 _ _ hD5
            have k7 : KT H7 (upd H7 D (.lst (yss.flatten ++ ys ++ [y]))) := KT.updL hD7
            refine ⟨yss.flatten ++ ys, hD7, smallLt (by rw [List.length_append]; omega), ys ++ [y], (b5.trans s7.but).trans But.upd, by simp [hy1], ?_, by rw [upd_same, List.append_assoc]⟩
            exact snoc_at (P := fun a z => R1 a z (upd H7 D (.lst (yss.flatten ++ ys ++ [y])))) (fun a z e => hR1 _ _ _ _ k7 (hR1 _ _ _ _ s7.kt (hy2 a z e))) (by rw [hy1]; exact hR1 _ _ _ _ k7 r7)
        exact key
      · obtain rfl : j = n1 := by omega
        refine .inl ⟨w1.stops H5 (hG1 H5 b5), yss ++ [ys], fun b u e => ?_, by simp [hl], ?_, by rw [hD5]; simp, by rw [show (yss ++ [ys]).flatten = yss.flatten ++ ys by simp, List.length_append]; omega⟩
        · have nb : b ≠ D := fun z => by rw [z, hD] at e; cases e
          exact b5 b u nb (s4 _ _ (s _ _ e))
        · exact snoc_at (P := fun j o => R j o H5) (fun j o e => hR _ _ _ _ (s4.kt.trans (kt4 b5)) (hr j o e)) (by rw [hl]; exact hout ys H5 b5 hy1 hy2)
  · obtain rfl : i = n := by omega
    exact .inl ⟨w.stops H (hG H s), hd yss H s hl hr hl2⟩
end DD
namespace DD
open PySem PySem.Spec
open PyProof.Rows L2
section
variable {base : Heap} {mg : Str → Option Value} {K : PySem.W.Frag} {w : World} {P : Program}
/-! ### the contract's names; the holders -/
structure Cn (nm pp rn : List Str) : Prop where
  eq : nm = pp ++ rn
  pk : Pp pp
  ne : pp ≠ []
  few : rn.length ≤ 2
  word : ∀ x ∈ rn, wordB x = true
  nd : (pp ++ rn).Nodup
def hkv (hs : List (Str × Str)) : List (Key × V) := hs.map fun p => (.inr p.1, .str p.2)
def HoldAt (H : Hp) (a : Addr) (rn pp : List Str) : Prop := ∃ hs : List (Str × Str), H a = some (.dK (hkv hs)) ∧ hs.map Prod.fst = rn ∧ ∀ p ∈ hs, p.2 ∈ pp
theorem _root_.L2.Same.hold {H H' : Hp} {a : Addr} {rn pp : List Str} (e : Same H H') (h : HoldAt H a rn pp) : HoldAt H' a rn pp := let ⟨hs, h1, h2⟩ := h; ⟨hs, e _ _ h1, h2⟩
theorem hkv_some {hs : List (Str × Str)} {pp : List Str} (h : ∀ p ∈ hs, p.2 ∈ pp) {x : Str} (hx : x ∈ hs.map Prod.fst) : ∃ y ∈ pp, valV (hkv hs) (.inr x) = some (.str y) := by
  induction hs with
  | nil => cases hx
  | cons p r ih =>
    by_cases e : p.1 = x
    · exact ⟨p.2, h p List.mem_cons_self, valV_pos (p := ((.inr p.1 : Key), V.str p.2)) (by show (Sum.inr p.1 : Key) = .inr x; rw [e])⟩
    · obtain ⟨y, h1, h2⟩ := ih (fun q hq => h q (List.mem_cons_of_mem _ hq)) (by
        rw [List.map_cons] at hx
        exact (List.mem_cons.mp hx).elim (fun z => absurd z.symm e) id)
      exact ⟨y, h1, (valV_neg (p := ((.inr p.1 : Key), V.str p.2)) (fun z => e (Sum.inr.inj z))).trans h2⟩
theorem hkv_none {hs : List (Str × Str)} {x : Str} (hx : x ∉ hs.map Prod.fst) : valV (hkv hs) (.inr x) = none := by
  induction hs with
  | nil => rfl
  | cons p r ih =>
    rw [List.map_cons, List.mem_cons, not_or] at hx
    exact (valV_neg (p := ((.inr p.1 : Key), V.str p.2)) (fun z => hx.1 (Sum.inr.inj z).symm)).trans (ih hx.2)
theorem hold_get {H : Hp} {a : Addr} {rn pp : List Str} (h : HoldAt H a rn pp) {x : Str} : (x ∈ rn → ∃ y ∈ pp, DGet H a (.str x) (some (.str y))) ∧ (x ∉ rn → DGet H a (.str x) none) := by
  obtain ⟨hs, h1, h2, h3⟩ := h
  refine ⟨fun hx => ?_, fun hx => ?_⟩
  · obtain ⟨y, hy, e⟩ := hkv_some h3 (x := x) (by rw [h2]; exact hx)
    exact ⟨y, hy, e ▸ DGet.k (k := .inr x) h1⟩
  · exact hkv_none (hs := hs) (x := x) (by rw [h2]; exact hx) ▸ DGet.k (k := .inr x) h1
/-! ### parties_of -/
def sp_parties_of (K : PySem.W.Frag) : Sp := fun vs H Q _ => ∃ (x : Str) (pt hd : Addr) (nm pp rn : List Str), vs = [.str x, .ref pt, .ref hd] ∧ Cn nm pp rn ∧ Who nm x ∧ SqT K H pt (pp.map V.str) ∧ HoldAt H hd rn pp ∧
  ∀ l (ws : List Str) H', Same H H' → H l = none → H' l = some (.lst (ws.map V.str)) → ws ≠ [] → ws.length ≤ 3 → (∀ y ∈ ws, y ∈ pp) → Q (.ref l) H'
theorem ok_parties_of (T : Txt w K mg) : FnOk P w K mg base CX0 2 (a_parties_of K) (fdOf K (a_parties_of K)) ps_parties_of (sp_parties_of K) := by
  have G_is_anyone := ok_is_anyone (P := P) (base := base) T
  refine ok0 T.f_parties_of sc_parties_of (fun vs H Q E h => ?_) (fun cdv A outer s H vs Q E hr h => ?_)
  · obtain ⟨x, pt, hd, _, _, _, rfl, _⟩ := h; rfl
  · obtain ⟨x, pt, hd, nm, pp, rn, rfl, hc, hw, hP, hH, k⟩ := h
    have hr_is_anyone := hr
    have hU1 := hu_of hr
    refine ⟨_, (pss_cons (ps_if (pt_val (pe_call G_is_anyone hr_is_anyone rfl T.g_is_anyone T.k_is_anyone T.b_is_anyone .nil pass0 (pa_cons (pv 0) pa_nil))) (pss_one (ps_ret (pe_callTy (k_list K) (by rfl) T.n_list (by decide +kernel) (pa_cons (pv 1) pa_nil)))) pss_nil) (pss_one (ps_ret (pe_ifExp (pt_cmp (pc_din hU1 (pv 0) (pv 2))) (pe_lst (pa_cons (pe_dget hU1 (pv 2) (pv 0) (fun _ _ => rfl)) pa_nil)) (pe_lst (pa_cons (pv 0) pa_nil)))))), ?_⟩
    refine ⟨_, rfl, x, rfl, fun H1 s1 => ⟨_, rfl, ite2 (fun c => ?_) (fun c => ?_)⟩⟩
    · exact ⟨_, rfl, pt, _, rfl, .inr (s1.tup hP), fun l hl => k l pp _ (s1.trans (Same.new hl)) (s1.free hl) upd_same hc.ne hc.pk.few fun y hy => hy⟩
    · have hg := hold_get (s1.hold hH) (x := x)
      by_cases hx : x ∈ rn
      · obtain ⟨y, hy, g⟩ := hg.1 hx
        refine ⟨_, rfl, _, rfl, hd, _, rfl, g, _, rfl, yes rfl ⟨_, rfl, _, rfl, hd, _, rfl, g, small (by simp), fun l hl => ?_⟩⟩
        exact k l [y] _ (s1.trans (Same.new hl)) (s1.free hl) upd_same (by simp) (by simp) (all1 hy)
      · refine ⟨_, rfl, _, rfl, hd, _, rfl, hg.2 hx, _, rfl, no (by simp) ⟨_, rfl, small (by simp), fun l hl => ?_⟩⟩
        have hp : x ∈ pp := by
          rcases hw with ⟨h, _⟩ | h
          · rw [hc.eq] at h
            exact (List.mem_append.mp h).elim id fun z => absurd z hx
          · exact absurd (decide_eq_true h) c
        exact k l [x] _ (s1.trans (Same.new hl)) (s1.free hl) upd_same (by simp) (by simp) (all1 hp)
/-! ### breach_of -/
def sp_breach_of (K : PySem.W.Frag) : Sp := fun vs H Q _ => ∃ (l : Addr) (ws : List Str), vs = [.ref l] ∧ SqL K H l (ws.map V.str) ∧ ws.length < 63 ∧ ∀ v (ps : List Str) H', Same H H' → DT K H' v (Tm.breach ps).d → ps.Nodup → (∀ y, y ∈ ps ↔ y ∈ ws) → Q v H'
theorem ok_breach_of (T : Txt w K mg) : FnOk P w K mg base CX0 1 (a_breach_of K) (fdOf K (a_breach_of K)) ps_breach_of (sp_breach_of K) := by
  refine ok0 T.f_breach_of sc_breach_of (fun vs H Q E h => ?_) (fun cdv A outer s H vs Q E hr h => ?_)
  · obtain ⟨l, ws, rfl, _⟩ := h; rfl
  · obtain ⟨l, ws, rfl, hl, few, k⟩ := h
    refine ⟨_, (pss_one (ps_ret (pe_tup (pa_cons pe_str (pa_cons (pe_callTy (k_tuple K) (by rfl) T.n_tuple (by decide +kernel) (pa_cons (pe_callB (cr_sortSS rfl) (by rfl) T.n_sorted (by decide +kernel) (pa_cons (pe_callTy (cr_setS rfl) (by rfl) T.n_set (by decide +kernel) (pa_cons (pe_lc (own := [("party", 1)]) (by rfl) sc_breach_of.nd (k_piL K (pv 0)) (blkOk_by (own := [("party", 1)]) (N := N_breach_of) (sc := defScope s_breach_of) (by decide +kernel)) (fun _ _ _ _ _ => (pg_name (i := 1) sc_breach_of.nd rfl (Or.inl rfl) (Or.inr rfl))) (fun _ _ _ _ _ => pts_nil) (fun _ _ _ _ _ => (pe_callTy SkE.call_str_str (by rfl) T.n_str (by decide +kernel) (pa_cons (pv 1) pa_nil)))) pa_nil)) pa_nil)) pa_nil)) pa_nil))))), ?_⟩
    refine ⟨_, rfl, l, rfl, ⟨_, hl⟩, fun D hD => ?_⟩
    refine lc_n (walk_list (xs := ws.map V.str)) (fun i v _ => ∃ x, ws[i]? = some x ∧ v = .str x) (fun i o H H' _ h => h) hD (by rw [List.length_map]; omega) (fun H2 s2 => s2.lst hl) ?_ ?_
    · rintro i x H2 H3 Kt hi s2 ⟨rfl, e⟩ kk
      obtain ⟨x, hx, rfl⟩ := str_at e
      exact ⟨rfl, _, rfl, x, rfl, kk _ _ (Same.refl _) ⟨x, hx, rfl⟩⟩
    · intro ys H2 s2 hl2 hy hD1
      have e : ys = ws.map V.str := map_of (by rw [hl2, List.length_map]) hy
      subst e
      refine ⟨D, ws, rfl, SqL.of hD1, few, fun a L ha nd hm => ?_⟩
      refine ⟨a, L, rfl, upd_same, fun zs p pm so hp => ?_⟩
      refine ⟨p, _, rfl, .inl ⟨SqL.of upd_same, fun t ht => ⟨small (by simp), fun q hq => ?_⟩⟩⟩
      have s3 := s2.trans ((Same.new (o := SetSO P w a L) ha).trans ((Same.new (o := .lst (zs.map V.str)) hp).trans (Same.new (o := .tup (zs.map V.str)) ht)))
      refine k _ zs _ (s3.trans (Same.new hq)) (.tup (SqT.of upd_same) (.cons (.str _) (.cons (.tup ((Same.new hq).tup (SqT.of upd_same)) (dps_strs zs)) .nil))) (pm.nodup_iff.mpr nd) fun y => ?_
      rw [pm.mem_iff, hm y]
/-! ### blamed_in -/
def Tm.blame : Tm → List Str
  | .breach ws => ws
  | _ => []
def blamed (ks : List Tm) : List Str := ks.flatMap Tm.blame
theorem hd_breach (t : Tm) : (∃ ws, t = .breach ws) ∨ (¬ t.hd = "breach" ∧ t.blame = []) := by
  have g : ∀ z : Str, ¬ z = "breach" → t.hd = z → ¬ t.hd = "breach" := fun z h e => by rw [e]; exact h
  cases t with
  | breach ws => exact .inl ⟨ws, rfl⟩
  | duty b => exact .inr ⟨g (dutyS b) (by cases b <;> decide +kernel) rfl, rfl⟩
  | dutyE b => exact .inr ⟨g (dutyS b) (by cases b <;> decide +kernel) rfl, rfl⟩
  | grp b => exact .inr ⟨g b.str (by cases b <;> decide +kernel) rfl, rfl⟩
  | done => exact .inr ⟨g "done" (by decide +kernel) rfl, rfl⟩
  | wait => exact .inr ⟨g "wait" (by decide +kernel) rfl, rfl⟩
  | may => exact .inr ⟨g "may" (by decide +kernel) rfl, rfl⟩
  | whn => exact .inr ⟨g "when" (by decide +kernel) rfl, rfl⟩
  | whnE => exact .inr ⟨g "when" (by decide +kernel) rfl, rfl⟩
  | til => exact .inr ⟨g "until" (by decide +kernel) rfl, rfl⟩
  | rep => exact .inr ⟨g "repeat" (by decide +kernel) rfl, rfl⟩
  | ever => exact .inr ⟨g "forever" (by decide +kernel) rfl, rfl⟩
def sp_blamed_in (K : PySem.W.Frag) : Sp := fun vs H Q _ => ∃ (l : Addr) (us : List V) (ks : List Tm), vs = [.ref l] ∧ SqL K H l us ∧ DTs K H us (ks.map Tm.d) ∧ ks.length ≤ 3 ∧ (∀ t ∈ ks, t.blame.length ≤ 3) ∧
  ∀ p H', Same H H' → H p = none → H' p = some (.lst ((blamed ks).map V.str)) → Q (.ref p) H'
theorem ok_blamed_in (T : Txt w K mg) : FnOk P w K mg base CX0 1 (a_blamed_in K) (fdOf K (a_blamed_in K)) ps_blamed_in (sp_blamed_in K) := by
  refine ok0 T.f_blamed_in sc_blamed_in (fun vs H Q E h => ?_) (fun cdv A outer s H vs Q E hr h => ?_)
  · obtain ⟨l, us, ks, rfl, _⟩ := h; rfl
  · obtain ⟨l, us, ks, rfl, hl, hU, h3, hb, k⟩ := h
    have hU64 := hr.units
    refine ⟨_, (pss_one (ps_ret (pe_lc2 (own := [("kid", 1), ("party", 2)]) (vs1 := [2]) (by rfl) sc_blamed_in.nd (k_piL K (pv 0)) (blkOk_by (own := [("kid", 1), ("party", 2)]) (N := N_blamed_in) (sc := defScope s_blamed_in) (by decide +kernel)) (by decide) (fun _ _ _ _ _ => (pg_name (i := 1) sc_blamed_in.nd rfl (Or.inl rfl) (Or.inr rfl))) (fun _ _ _ _ _ => (pts_one (pt_cmpR (k_eq K hU64) (pe_ix (k_ix K) (pv 1) pe_int (fun _ _ => rfl)) pe_str (nomark _)))) (fun _ _ _ _ _ => (k_piT K (pe_ix (k_ix K) (pv 1) pe_int (fun _ _ => rfl)))) (fun _ _ _ _ _ => (pg_name (i := 2) sc_blamed_in.nd rfl (Or.inl rfl) (Or.inr rfl))) (fun _ _ _ _ _ => pts_nil) (fun _ _ _ _ _ => (pv 2))))), ?_⟩
    have hul := kids_len hU
    refine ⟨_, rfl, l, rfl, ⟨_, hl⟩, fun D hD => ?_⟩
    refine lc2_g (walk_list (xs := us)) (fun i vs _ => ∃ t, ks[i]? = some t ∧ vs = t.blame.map V.str) (fun i o H H' _ h => h) hD (by omega) (fun H2 s2 => s2.lst hl) ?_ ?_
    · rintro i x H2 H3 Kin Kf hi s2 ⟨accD, hDl⟩ ⟨rfl, e⟩ kf kin
      obtain ⟨t, ht, hd⟩ := kid_at (s2.dts hU) e
      refine ⟨rfl, ?_⟩
      rcases hd_breach t with ⟨ws, rfl⟩ | ⟨hne, hbl⟩
      · obtain ⟨a, b, rfl, hS, hB⟩ := tm_breach hd
        refine tt_hdY rfl hS (yes rfl ?_)
        refine ixT rfl hS at1 ⟨b, rfl, ⟨_, hB⟩, kin _ _ _ _ _ _ (fun j v _ => ∃ x, ws[j]? = some x ∧ v = .str x) (Same.refl _) (walk_tup (xs := ws.map V.str)) ?_ ?_ (fun _ _ _ _ _ h => h) ?_ ?_⟩
        · have := hb _ (List.mem_of_getElem? ht)
          rw [List.length_map]
          exact Nat.le_trans this (by omega)
        · exact fun H5 b5 => (b5.kt fun u q => by rw [hDl] at q; cases q; rfl).tup hB
        · rintro j x H5 H6 Kt hj b5 ⟨rfl, e⟩ kt
          obtain ⟨x, hx, rfl⟩ := str_at e
          exact ⟨rfl, _, rfl, kt _ _ (Same.refl _) ⟨x, hx, rfl⟩⟩
        · intro ys H5 b5 hyl hy
          exact ⟨_, ht, map_of (by rw [hyl, List.length_map]; rfl) hy⟩
      · obtain ⟨a, us2, rfl, hS, hus⟩ := tm_at hd
        exact tt_hdN rfl hS hne (no (by decide) (kf _ (Same.refl _) ⟨t, ht, by rw [hbl]; rfl⟩))
    · intro yss H2 s2 hl2 hy hD2
      have e : yss.flatten = (blamed ks).map V.str := by
        have e1 : yss = ks.map fun t => t.blame.map V.str := map_of (by rw [hl2, hul]) hy
        rw [e1]
        unfold blamed
        rw [List.map_flatMap]
        rfl
      rw [e] at hD2
      exact k D H2 s2 hD hD2
end
end DD
namespace DD
open PySem PySem.Spec
open PyProof.Rows L2
section
variable {base : Heap} {mg : Str → Option Value} {K : PySem.W.Frag} {w : World} {P : Program}
def Tm.isDone : Tm → Bool
  | .done => true
  | _ => false
theorem eqv_isDone (t : Tm) : PyData.eqv t.d Tm.done.d = t.isDone := by rw [eqv_done]; cases t <;> rfl
theorem isDone_iff {t : Tm} : t.isDone = true ↔ t = .done := by cases t <;> simp [Tm.isDone]
theorem done_dt (T : Txt w K mg) (H : Hp) : DT K H (.ref (o_DONE K)) Tm.done.d := .tup (done_at T H) (.cons (.str _) .nil)
theorem done_shaped : SeqAt.shaped Tm.done.d = true := by decide +kernel
theorem vs_done (T : Txt w K mg) {H : Hp} {v : V} {t : Tm} {n : Nat} {Q : VK} (hd : DT K H v t.d) (hx : Tx n t) (hn : n ≤ 30) (q : Q (.bl (!t.isDone)) H) : uNe K v (.ref (o_DONE K)) H Q :=
  .inr ⟨t.d, Tm.done.d, hd.dp, (done_dt T H).dp, hx.fit.shaped (by omega), done_shaped, by rw [eqv_isDone]; exact q⟩
theorem eq_done (T : Txt w K mg) {H : Hp} {v : V} {t : Tm} {n : Nat} {Q : VK} (hd : DT K H v t.d) (hx : Tx n t) (hn : n ≤ 30) (q : Q (.bl t.isDone) H) : uEq K v (.ref (o_DONE K)) H Q :=
  .inr ⟨t.d, Tm.done.d, hd.dp, (done_dt T H).dp, hx.fit.shaped (by omega), done_shaped, by rw [eqv_isDone]; exact q⟩
theorem tx_fd {H : Hp} {v : V} {t : Tm} {n : Nat} (hd : DT K H v t.d) (hx : Tx n t) (hn : n ≤ 30) : Fd K H v := ⟨_, hd, hx.fit.mono (by omega)⟩
theorem tms_fd {H : Hp} : ∀ {us : List V} {ks : List Tm} {n : Nat}, DTs K H us (ks.map Tm.d) → (∀ t ∈ ks, Tx n t) → n ≤ 30 → ∀ v ∈ us, Fd K H v
  | [], [], _, _, _, _ => fun v h => nomatch h
  | u :: r, t :: q, n, h, g, hn => by
    cases h with
    | cons h1 h2 => exact allC (tx_fd h1 (g t (by simp)) hn) (tms_fd h2 (fun x hx => g x (by simp [hx])) hn)
  | [], _ :: _, _, h, _, _ => nomatch h
  | _ :: _, [], _, h, _, _ => nomatch h
/-- what a test leaves of the kids -/
theorem filt {H : Hp} {p : Tm → Bool} : ∀ {os : List (Option V)} {ks : List Tm}, os.length = ks.length → (∀ (i : Nat) o, os[i]? = some o → ∃ k, ks[i]? = some k ∧ ((o = none ∧ p k = false) ∨ ∃ v, o = some v ∧ p k = true ∧ DT K H v k.d)) → DTs K H (os.filterMap id) ((ks.filter p).map Tm.d)
  | [], [], _, _ => .nil
  | [], _ :: _, h, _ => (nomatch h)
  | _ :: _, [], h, _ => (nomatch h)
  | o :: r, k :: q, h, f => by
    have ih := filt (os := r) (ks := q) (by simpa using h) fun i o e => f (i + 1) o e
    obtain ⟨k', e, hk⟩ := f 0 o rfl
    cases e
    rcases hk with ⟨rfl, h2⟩ | ⟨v, rfl, h2, h3⟩
    · rw [List.filter_cons_of_neg (by rw [h2]; decide)]
      exact ih
    · rw [List.filter_cons_of_pos h2]
      exact .cons h3 ih
theorem over_hd (t : Tm) : overB t.hd = t.over := by
  have g : ∀ (z : Str) (b : Bool), overB z = b → t.hd = z → t.over = b → overB t.hd = t.over := fun z b h e1 e2 => by rw [e1, h, e2]
  cases t with
  | duty b => exact g (dutyS b) false (by cases b <;> decide +kernel) rfl rfl
  | dutyE b => exact g (dutyS b) false (by cases b <;> decide +kernel) rfl rfl
  | grp b => exact g (b.str) false (by cases b <;> decide +kernel) rfl rfl
  | done => exact g ("done") true (by decide +kernel) rfl rfl
  | breach => exact g ("breach") true (by decide +kernel) rfl rfl
  | wait => exact g ("wait") false (by decide +kernel) rfl rfl
  | may => exact g ("may") false (by decide +kernel) rfl rfl
  | whn => exact g ("when") false (by decide +kernel) rfl rfl
  | whnE => exact g ("when") false (by decide +kernel) rfl rfl
  | til => exact g ("until") false (by decide +kernel) rfl rfl
  | rep => exact g ("repeat") false (by decide +kernel) rfl rfl
  | ever => exact g ("forever") false (by decide +kernel) rfl rfl
/-! ### until_of -/
def sp_until_of (K : PySem.W.Frag) : Sp := fun vs H Q _ => ∃ (v : V) (t : Tm) (x a : Str) (nm pp : List Str) (n : Nat), vs = [v, .str x, .str a] ∧ DT K H v t.d ∧ Rm nm pp n t ∧ Who nm x ∧ wordB a = true ∧ ∀ v' t' H', Same H H' → DT K H' v' t'.d → Rm nm pp (n + 1) t' → (t' = .done → t = .done) → Q v' H'
theorem ok_until_of (T : Txt w K mg) : FnOk P w K mg base CX0 2 (a_until_of K) (fdOf K (a_until_of K)) ps_until_of (sp_until_of K) := by
  have G_is_over := ok_is_over (P := P) (base := base) T
  refine ok0 T.f_until_of sc_until_of (fun vs H Q E h => ?_) (fun cdv A outer s H vs Q E hr h => ?_)
  · obtain ⟨v, t, x, a, _, _, _, rfl, _⟩ := h; rfl
  · obtain ⟨v, t, x, a, nm, pp, n, rfl, hD, hR, hw, ha, k⟩ := h
    have hr_is_over := hr
    refine ⟨_, (pss_one (ps_ret (pe_ifExp (pt_val (pe_call G_is_over hr_is_over rfl T.g_is_over T.k_is_over T.b_is_over .nil pass0 (pa_cons (pv 0) pa_nil))) (pv 0) (pe_tup (pa_cons pe_str (pa_cons (pv 0) (pa_cons (pv 1) (pa_cons (pv 2) pa_nil)))))))), ?_⟩
    obtain ⟨e, us, rfl, hS, hU⟩ := tm_at hD
    refine ⟨_, rfl, e, _, _, rfl, hS, fun H1 s1 => ⟨_, rfl, ?_⟩⟩
    rw [over_hd]
    (refine ite2 (fun c => ?_) (fun c => ?_))
    · exact ⟨_, rfl, k _ t _ s1 (s1.dt hD) hR.up fun h => h⟩
    · refine ⟨_, rfl, _, rfl, _, rfl, small (by simp), fun p hp => ?_⟩
      have s2 := s1.trans (Same.new (o := .tup [.str "until", .ref e, .str x, .str a]) hp)
      exact k _ (.til t x a) _ s2 (.tup (SqT.of upd_same) (.cons (.str _) (.cons (s2.dt hD) (.cons (.str _) (.cons (.str _) .nil))))) (.til hR hw ha) fun h => nomatch h
theorem Rm.tx2 {nm pp : List Str} (hp : Pp pp) {n : Nat} {t : Tm} (h : Rm nm pp n t) : Tx (n + 2) t := h.tx hp
theorem Rm.blame_ok {nm pp : List Str} (hp : Pp pp) {n : Nat} {t : Tm} (h : Rm nm pp n t) : t.blame.length ≤ 3 ∧ (∀ x ∈ t.blame, x ∈ pp) ∧ (t.blame = [] → ∀ ws, t ≠ .breach ws) := by
  cases h with
  | breach h1 h2 h3 => exact ⟨Nat.le_trans (nodup_le h2 h3) hp.few, h3, fun e => absurd e h1⟩
  | _ => exact ⟨Nat.zero_le _, fun x hx => (nomatch hx), fun _ ws e => nomatch e⟩
theorem blamed_sub {pp : List Str} {nm : List Str} (hp : Pp pp) {n : Nat} {ks : List Tm} (h : ∀ t ∈ ks, Rm nm pp n t) : ∀ x ∈ blamed ks, x ∈ pp := fun x hx => by
  obtain ⟨t, ht, hx⟩ := List.mem_flatMap.mp hx
  exact ((h t ht).blame_ok hp).2.1 x hx
theorem blamed_len {ks : List Tm} (h : ∀ t ∈ ks, t.blame.length ≤ 3) : (blamed ks).length ≤ 3 * ks.length := by
  induction ks with
  | nil => exact Nat.zero_le _
  | cons t r ih =>
    have h1 := h t (by simp)
    have h2 := ih fun x hx => h x (by simp [hx])
    unfold blamed at h2 ⊢
    rw [List.flatMap_cons, List.length_append, List.length_cons]
    omega
theorem rm_breach {nm pp : List Str} {n : Nat} {ps ws : List Str} (nd : ps.Nodup) (m : ∀ y, y ∈ ps ↔ y ∈ ws) (ne : ws ≠ []) (sub : ∀ x ∈ ws, x ∈ pp) : Rm nm pp (n + 1) (.breach ps) := by
  refine .breach (fun e => ?_) nd fun x hx => sub x ((m x).1 hx)
  obtain ⟨a, r, rfl⟩ := List.exists_cons_of_ne_nil ne
  have := (m a).2 (by simp)
  rw [e] at this
  cases this
theorem strs_fd {H : Hp} {ws : List Str} (h : ∀ x ∈ ws, wordB x = true) : ∀ v ∈ ws.map V.str, Fd K H v := fun v hv => by
  obtain ⟨x, hx, rfl⟩ := List.mem_map.mp hv
  exact fd_str (word_ok (h x hx)).1
/-! ### joined_and -/
def sp_joined_and (K : PySem.W.Frag) : Sp := fun vs H Q _ => ∃ (l : Addr) (us : List V) (ks : List Tm) (nm pp : List Str) (n : Nat), vs = [.ref l] ∧ SqL K H l us ∧ DTs K H us (ks.map Tm.d) ∧ ks.length ≤ 3 ∧ Pp pp ∧ (∀ t ∈ ks, Rm nm pp n t) ∧ n ≤ 20 ∧
  ∀ v' t' H', Same H H' → DT K H' v' t'.d → Rm nm pp (n + 1) t' → (t' = .done → ∀ t ∈ ks, t = .done) → Q v' H'
theorem ok_joined_and (T : Txt w K mg) : FnOk P w K mg base CX0 2 (a_joined_and K) (fdOf K (a_joined_and K)) ps_joined_and (sp_joined_and K) := by
  have G_blamed_in := ok_blamed_in (P := P) (base := base) T
  have G_breach_of := ok_breach_of (P := P) (base := base) T
  refine ok0 T.f_joined_and sc_joined_and (fun vs H Q E h => ?_) (fun cdv A outer s H vs Q E hr h => ?_)
  · obtain ⟨l, us, ks, _, _, _, rfl, _⟩ := h; rfl
  · obtain ⟨l, us, ks, nm, pp, n, rfl, hl, hU, h3, hP, hR, hn, k⟩ := h
    have hU64 := hr.units
    have hr_blamed_in := hr
    have hr_breach_of := hr
    refine ⟨_, (pss_cons (ps_set (i := 1) sc_joined_and.nd rfl (Or.inl rfl) (pe_call G_blamed_in hr_blamed_in rfl T.g_blamed_in T.k_blamed_in T.b_blamed_in .nil pass0 (pa_cons (pv 0) pa_nil))) (pss_cons (ps_if (pt_cmpR (k_ne K hU64) (pv 1) (pe_lst pa_nil) (nomark _)) (pss_one (ps_ret (pe_call G_breach_of hr_breach_of rfl T.g_breach_of T.k_breach_of T.b_breach_of .nil pass0 (pa_cons (pv 1) pa_nil)))) pss_nil) (pss_cons (ps_setLc (i := 2) (own := [("kid", 3)]) (by rfl) sc_joined_and.nd rfl rfl (sw_true rfl rfl rfl (by decide +kernel)) (k_piL K (pv 0)) (blkOk_by (own := [("kid", 3)]) (N := N_joined_and) (sc := defScope s_joined_and) (by decide +kernel)) (fun _ _ _ _ _ => (pg_name (i := 3) sc_joined_and.nd rfl (Or.inl rfl) (Or.inr rfl))) (fun _ _ _ _ _ => (pts_one (pt_cmpR (k_ne K hU64) (pv 3) (pe_cR rfl T.g_DONE) (nomark _)))) (fun _ _ _ _ _ => (pv 3))) (pss_cons (ps_if (pt_cmpR op_lt (pe_callB (k_len K) (by rfl) T.n_len (by decide +kernel) (pa_cons (pv 2) pa_nil)) pe_int (nomark _)) (pss_one (ps_ret (pe_ifExp (pt_cmpR (k_ne K hU64) (pv 2) (pe_lst pa_nil) (nomark _)) (pe_ix (k_ix K) (pv 2) pe_int (fun _ _ => rfl)) (pe_cR rfl T.g_DONE)))) pss_nil) (pss_one (ps_ret (pe_tup (pa_cons pe_str (pa_cons (pe_callTy (k_tuple K) (by rfl) T.n_tuple (by decide +kernel) (pa_cons (pv 2) pa_nil)) pa_nil))))))))), ?_⟩
    have hbl : ∀ t ∈ ks, t.blame.length ≤ 3 := fun t ht => ((hR t ht).blame_ok hP).1
    have hsub := blamed_sub hP hR
    have hul := kids_len hU
    refine ⟨_, rfl, l, us, ks, rfl, hl, hU, h3, hbl, fun p H1 s1 hp hp1 => ?_⟩
    refine ⟨_, rfl, ne_nil (SqL.of hp1) (strs_fd fun x hx => hP.word x (hsub x hx)) fun H2 s2 => ⟨_, rfl, ite2 (fun c => ?_) (fun c => ?_)⟩⟩
    · have hne : blamed ks ≠ [] := fun e => by rw [e] at c; exact absurd c (by decide)
      refine ⟨_, rfl, p, _, rfl, s2.lst (SqL.of hp1), by have := blamed_len hbl; omega, fun v ps H3 s3 hd nd hm => ?_⟩
      exact k v _ H3 (s1.trans (s2.trans s3)) hd (rm_breach nd hm hne hsub) fun e => nomatch e
    · have hbe : blamed ks = [] := by
        cases e : blamed ks with
        | nil => rfl
        | cons a r => rw [e] at c; exact absurd rfl c
      have s12 := s1.trans s2
      refine ⟨_, rfl, l, rfl, ⟨_, s12.lst hl⟩, fun D hD => ?_⟩
      refine lc_g (walk_list (xs := us)) (fun i o H' => ∃ t, ks[i]? = some t ∧ ((o = none ∧ (!t.isDone) = false) ∨ ∃ v, o = some v ∧ (!t.isDone) = true ∧ DT K H' v t.d)) (fun i o H H' kk ⟨t, h1, h2⟩ => ⟨t, h1, h2.imp id fun ⟨v, a, b, c⟩ => ⟨v, a, b, kk.dt c⟩⟩) hD (by omega) (fun H3 s3 => (s12.trans s3).lst hl) ?_ ?_
      · rintro i x H3 H4 Kt Kf hi s3 ⟨rfl, e⟩ kt kf
        obtain ⟨t, ht, hd⟩ := kid_at ((s12.trans s3).dts hU) e
        refine ⟨rfl, _, rfl, vs_done T hd ((hR t (List.mem_of_getElem? ht)).tx hP) (by omega) ⟨_, rfl, ?_⟩⟩
        cases ed : t.isDone with
        | false => exact yes rfl ⟨_, rfl, kt _ _ (Same.refl _) ⟨t, ht, .inr ⟨x, rfl, by rw [ed]; rfl, hd⟩⟩⟩
        | true => exact no (by decide) (kf _ (Same.refl _) ⟨t, ht, .inl ⟨rfl, by rw [ed]; rfl⟩⟩)
      · intro os H3 s3 hol ho hD3
        have hF := filt (H := H3) (p := fun t => !t.isDone) (ks := ks) (by rw [hol, hul]) ho
        have hsubs : ∀ t ∈ ks.filter (fun t => !t.isDone), Rm nm pp n t := fun t ht => hR t (List.mem_filter.mp ht).1
        have hlen := kids_len hF
        have hle := List.length_filter_le (fun t => !t.isDone) ks
        have hout : ∀ t ∈ ks, t ∉ ks.filter (fun t => !t.isDone) → t = .done := fun t ht hn => by
          cases e : t.isDone with
          | true => exact isDone_iff.mp e
          | false => exact absurd (List.mem_filter.mpr ⟨ht, by rw [e]; rfl⟩) hn
        generalize os.filterMap id = zs at hD3 hF hlen
        generalize ks.filter (fun t => !t.isDone) = js at hF hsubs hlen hle hout
        have s123 := s12.trans s3
        refine ⟨_, rfl, _, _, rfl, .inl ⟨_, SqL.of hD3, rfl⟩, _, _, rfl, rfl, _, rfl, ?_⟩
        rw [hlen]
        rcases js with _ | ⟨j1, _ | ⟨j2, jr⟩⟩
        · cases dts_nil hF
          refine yes (by decide) ⟨_, rfl, ne_nil (SqL.of hD3) (fun v hv => nomatch hv) fun H4 s4 => ⟨_, rfl, no (by decide) ?_⟩⟩
          exact k _ .done H4 (s123.trans s4) (done_dt T H4) .done fun _ t ht => hout t ht fun h => nomatch h
        · obtain ⟨z, r, rfl, q1, q⟩ := dts_cons hF
          cases dts_nil q
          refine yes (by simp) ⟨_, rfl, ne_nil (SqL.of hD3) (all1 (tx_fd q1 ((hsubs j1 (by simp)).tx hP) (by omega))) fun H4 s4 => ⟨_, rfl, yes (by simp) ?_⟩⟩
          refine ⟨_, rfl, .inl ⟨D, _, 0, z, rfl, rfl, s4.lst (SqL.of hD3), at0, k z j1 H4 (s123.trans s4) (s4.dt q1) (hsubs j1 (by simp)).up fun e t ht => ?_⟩⟩
          by_cases hm : t ∈ [j1]
          · rw [List.mem_singleton.mp hm]; exact e
          · exact hout t ht hm
        · refine no (fun c => absurd (of_decide_eq_true c) (by simp; omega)) ?_
          refine ⟨_, rfl, D, _, rfl, .inl ⟨SqL.of hD3, fun q1 hq1 => ⟨small (by simp), fun q2 hq2 => ?_⟩⟩⟩
          have s4 := Same.new (o := .tup zs) hq1
          have s5 := s4.trans (Same.new (o := .tup [.str "and", .ref q1]) hq2)
          refine k _ (.grp .and (j1 :: j2 :: jr)) _ (s123.trans s5) (.tup (SqT.of upd_same) (.cons (.str _) (.cons (.tup ((Same.new hq2).tup (SqT.of upd_same)) ?_) .nil))) (.grp (by decide) (by simp) (by omega) hsubs) fun e => nomatch e
          rw [dAll_map]
          exact s5.dts hF
theorem u65 {k : Nat} {A : Around} (r : Room (k + 1) A) : A.units + 65 < cLine := by have := r.un; omega
theorem catL {x y : Addr} {xs ys : List V} {H : Hp} {Q : VK} (hx : H x = some (.lst xs)) (hy : H y = some (.lst ys)) (hl : xs.length + ys.length ≤ 100000) (k : ∀ p, H p = none → Q (.ref p) (upd H p (.lst (xs ++ ys)))) : uAdd K (.ref x) (.ref y) H Q :=
  .inr (.inr (.inl ⟨x, y, xs, ys, rfl, rfl, hx, hy, small hl, k⟩))
/-! ### joined_or -/
def Tm.isBr : Tm → Bool
  | .breach _ => true
  | _ => false
theorem isBr_iff {t : Tm} : t.isBr = true ↔ ∃ ws, t = .breach ws := by cases t <;> simp [Tm.isBr]
theorem hd_isBr (t : Tm) : (t.isBr = true ∧ t.hd = "breach") ∨ (t.isBr = false ∧ ¬ t.hd = "breach") := by
  rcases hd_breach t with ⟨ws, rfl⟩ | ⟨h, _⟩
  · exact .inl ⟨rfl, rfl⟩
  · refine .inr ⟨?_, h⟩
    cases e : t.isBr with
    | false => rfl
    | true => obtain ⟨ws, rfl⟩ := isBr_iff.mp e; exact absurd rfl h
def sp_joined_or (K : PySem.W.Frag) : Sp := fun vs H Q _ => ∃ (l : Addr) (us : List V) (ks : List Tm) (nm pp : List Str) (n : Nat), vs = [.ref l] ∧ SqL K H l us ∧ DTs K H us (ks.map Tm.d) ∧ 2 ≤ ks.length ∧ ks.length ≤ 3 ∧ Pp pp ∧ (∀ t ∈ ks, Rm nm pp n t) ∧ n ≤ 20 ∧
  ∀ v' t' H', Same H H' → DT K H' v' t'.d → Rm nm pp (n + 1) t' → (t' = .done → ∃ t ∈ ks, t = .done) → Q v' H'
theorem any_done : ∀ ks : List Tm, (ks.map Tm.d).any (fun z => PyData.eqv z Tm.done.d) = ks.any Tm.isDone
  | [] => rfl
  | t :: r => by rw [List.map_cons, List.any_cons, List.any_cons, eqv_isDone, any_done r]
theorem ok_joined_or (T : Txt w K mg) : FnOk P w K mg base CX0 2 (a_joined_or K) (fdOf K (a_joined_or K)) ps_joined_or (sp_joined_or K) := by
  have G_blamed_in := ok_blamed_in (P := P) (base := base) T
  have G_breach_of := ok_breach_of (P := P) (base := base) T
  refine ok0 T.f_joined_or sc_joined_or (fun vs H Q E h => ?_) (fun cdv A outer s H vs Q E hr h => ?_)
  · obtain ⟨l, us, ks, _, _, _, rfl, _⟩ := h; rfl
  · obtain ⟨l, us, ks, nm, pp, n, rfl, hl, hU, h2, h3, hP, hR, hn, k⟩ := h
    have hU64 := hr.units
    have hU65 := u65 hr
    have hr_blamed_in := hr
    have hr_breach_of := hr
    refine ⟨_, (pss_cons (ps_if (pt_cmpR (k_inD K hU65) (pe_cR rfl T.g_DONE) (pv 0) (by rfl)) (pss_one (ps_ret (pe_cR rfl T.g_DONE))) pss_nil) (pss_cons (ps_par (i := 1) (j := 2) (by rfl) sc_joined_or.nd rfl rfl (by decide) rfl rfl (pa_cons (pe_call G_blamed_in hr_blamed_in rfl T.g_blamed_in T.k_blamed_in T.b_blamed_in .nil pass0 (pa_cons (pv 0) pa_nil)) (pa_cons (pe_lc (own := [("kid", 3)]) (by rfl) sc_joined_or.nd (k_piL K (pv 0)) (blkOk_by (own := [("kid", 3)]) (N := N_joined_or) (sc := defScope s_joined_or) (by decide +kernel)) (fun _ _ _ _ _ => (pg_name (i := 3) sc_joined_or.nd rfl (Or.inl rfl) (Or.inr rfl))) (fun _ _ _ _ _ => (pts_one (pt_cmpR (k_ne K hU64) (pe_ix (k_ix K) (pv 3) pe_int (fun _ _ => rfl)) pe_str (nomark _)))) (fun _ _ _ _ _ => (pv 3))) pa_nil)) (by rfl)) (pss_cons (ps_if (pt_cmpR (k_eq K hU64) (pv 2) (pe_lst pa_nil) (nomark _)) (pss_one (ps_ret (pe_call G_breach_of hr_breach_of rfl T.g_breach_of T.k_breach_of T.b_breach_of .nil pass0 (pa_cons (pv 1) pa_nil)))) pss_nil) (pss_one (ps_ret (pe_tup (pa_cons pe_str (pa_cons (pe_callTy (k_tuple K) (by rfl) T.n_tuple (by decide +kernel) (pa_cons (pe_op (k_add K) (pe_ifExp (pt_cmpR (k_ne K hU64) (pv 1) (pe_lst pa_nil) (nomark _)) (pe_lst (pa_cons (pe_call G_breach_of hr_breach_of rfl T.g_breach_of T.k_breach_of T.b_breach_of .nil pass0 (pa_cons (pv 1) pa_nil)) pa_nil)) (pe_lst pa_nil)) (pv 2)) pa_nil)) pa_nil)))))))), ?_⟩
    have hbl : ∀ t ∈ ks, t.blame.length ≤ 3 := fun t ht => ((hR t ht).blame_ok hP).1
    have hsub := blamed_sub hP hR
    have hul := kids_len hU
    have htx : ∀ t ∈ ks, Tx (n + 2) t := fun t ht => (hR t ht).tx hP
    refine ⟨_, rfl, Tm.done.d, ks.map Tm.d, (done_dt T H).dp, .lst hl hU.dps, done_shaped, (Fit.lst (n := 60) fun d hd => ?_).shaped (by omega), ?_⟩
    · obtain ⟨t, ht, rfl⟩ := List.mem_map.mp hd
      exact (htx t ht).fit.mono (by omega)
    rw [any_done]
    refine ⟨_, rfl, ite2 (fun c => ?_) (fun c => ?_)⟩
    · obtain ⟨t, ht, e⟩ := List.any_eq_true.mp c
      exact k _ .done H (Same.refl H) (done_dt T H) .done fun _ => ⟨t, ht, isDone_iff.mp e⟩
    · have hnd : ∀ t ∈ ks, t ≠ .done := fun t ht e => c (List.any_eq_true.mpr ⟨t, ht, isDone_iff.mpr e⟩)
      refine ⟨_, rfl, l, us, ks, rfl, hl, hU, h3, hbl, fun p H1 s1 hp hp1 => ?_⟩
      refine ⟨_, rfl, l, rfl, ⟨_, s1.lst hl⟩, fun D hD => ?_⟩
      refine lc_g (walk_list (xs := us)) (fun i o H' => ∃ t, ks[i]? = some t ∧ ((o = none ∧ (!t.isBr) = false) ∨ ∃ v, o = some v ∧ (!t.isBr) = true ∧ DT K H' v t.d)) (fun i o H H' kk ⟨t, h1, h2⟩ => ⟨t, h1, h2.imp id fun ⟨v, a, b, c⟩ => ⟨v, a, b, kk.dt c⟩⟩) hD (by omega) (fun H3 s3 => (s1.trans s3).lst hl) ?_ ?_
      · rintro i x H3 H4 Kt Kf hi s3 ⟨rfl, e⟩ kt kf
        obtain ⟨t, ht, hd⟩ := kid_at ((s1.trans s3).dts hU) e
        obtain ⟨a, us2, rfl, hS, hus⟩ := tm_at hd
        refine ⟨rfl, ?_⟩
        rcases hd_isBr t with ⟨e1, e2⟩ | ⟨e1, e2⟩
        · rw [e2] at hS
          exact tt_hnN rfl hS (no (by decide) (kf _ (Same.refl _) ⟨t, ht, .inl ⟨rfl, by rw [e1]; rfl⟩⟩))
        · exact tt_hnY rfl hS e2 (yes rfl ⟨_, rfl, kt _ _ (Same.refl _) ⟨t, ht, .inr ⟨_, rfl, by rw [e1]; rfl, hd⟩⟩⟩)
      · intro os H3 s3 hol ho hD3
        have hF := filt (H := H3) (p := fun t => !t.isBr) (ks := ks) (by rw [hol, hul]) ho
        have hsubs : ∀ t ∈ ks.filter (fun t => !t.isBr), Rm nm pp n t := fun t ht => hR t (List.mem_filter.mp ht).1
        have hlen := kids_len hF
        -- the breach kids
        have hb1 : blamed ks = [] → ks.filter (fun t => !t.isBr) = ks := fun e => List.filter_eq_self.mpr fun t ht => by
          cases q : t.isBr with
          | false => rfl
          | true =>
            obtain ⟨ws, rfl⟩ := isBr_iff.mp q
            exact absurd rfl (((hR _ ht).blame_ok hP).2.2 (List.flatMap_eq_nil_iff.mp e _ ht) ws)
        have hb2 : blamed ks ≠ [] → (ks.filter (fun t => !t.isBr)).length < ks.length := fun e => by
          refine Nat.lt_of_le_of_ne (List.length_filter_le _ ks) fun q => e ?_
          have q2 : ks.filter (fun t => !t.isBr) = ks := List.filter_eq_self.mpr (List.length_filter_eq_length_iff.mp q)
          refine List.flatMap_eq_nil_iff.mpr fun t ht => ?_
          have := List.filter_eq_self.mp q2 t ht
          rcases hd_breach t with ⟨ws, rfl⟩ | ⟨_, h⟩
          · cases this
          · exact h
        generalize os.filterMap id = zs at hD3 hF hlen
        generalize ks.filter (fun t => !t.isBr) = js at hF hsubs hlen hb1 hb2
        have s13 := s1.trans s3
        have hp3 := s3 _ _ hp1
        refine ⟨_, _, rfl, _, rfl, eq_nil (SqL.of hD3) (tms_fd hF (fun t ht => (hsubs t ht).tx hP) (by omega)) fun H4 s4 => ⟨_, rfl, ?_⟩⟩
        have hp4 := s4 _ _ hp3
        have hD4 := s4 _ _ hD3
        have s14 := s13.trans s4
        have hwd : ∀ x ∈ blamed ks, wordB x = true := fun x hx => hP.word x (hsub x hx)
        have hb9 := blamed_len hbl
        refine ite2 (fun c2 => ?_) (fun c2 => ?_)
        · have ez : zs = [] := by cases zs with
            | nil => rfl
            | cons a r => exact Bool.noConfusion c2
          have ej : js = [] := by rw [ez] at hlen; exact List.length_eq_zero_iff.mp hlen.symm
          have hne : blamed ks ≠ [] := fun e => by
            have := hb1 e
            rw [ej] at this
            rw [← this] at h2
            exact absurd h2 (by decide)
          refine ⟨_, rfl, p, _, rfl, SqL.of hp4, by omega, fun v ps H5 s5 hd nd hm => ?_⟩
          exact k v _ H5 (s14.trans s5) hd (rm_breach nd hm hne hsub) fun e => nomatch e
        · have ez : 1 ≤ js.length := by
            rw [← hlen]
            cases zs with
            | nil => exact absurd rfl c2
            | cons a r => exact Nat.succ_le_succ (Nat.zero_le _)
          refine ⟨_, rfl, ne_nil (SqL.of hp4) (strs_fd hwd) fun H5 s5 => ⟨_, rfl, ?_⟩⟩
          have s15 := s14.trans s5
          have hp5 := s5 _ _ hp4
          have hD5 := s5 _ _ hD4
          have hF5 := ((s4.trans s5).dts hF)
          refine ite2 (fun c3 => ?_) (fun c3 => ?_)
          · have hne : blamed ks ≠ [] := fun e => by rw [e] at c3; exact absurd c3 (by decide)
            refine ⟨_, rfl, p, _, rfl, SqL.of hp5, by omega, fun v ps H6 s6 hd nd hm => ⟨small (by simp), fun q0 hq0 => ?_⟩⟩
            have s7 := Same.new (o := .lst [v]) hq0
            have hD7 := s7 _ _ (s6 _ _ hD5)
            have lt := hb2 hne
            refine ⟨_, rfl, catL upd_same hD7 (by simp; omega) fun q1 hq1 => ⟨q1, _, rfl, .inl ⟨SqL.of upd_same, fun q2 hq2 => ⟨small (by simp), fun q3 hq3 => ?_⟩⟩⟩⟩
            have s8 := s7.trans ((Same.new (o := .lst ([v] ++ zs)) hq1).trans ((Same.new (o := .tup ([v] ++ zs)) hq2).trans (Same.new (o := .tup [.str "or", .ref q2]) hq3)))
            refine k _ (.grp .or (.breach ps :: js)) _ (s15.trans (s6.trans s8)) (.tup (SqT.of upd_same) (.cons (.str _) (.cons (.tup ((Same.new hq3).tup (SqT.of upd_same)) ?_) .nil))) (.grp (by decide) (by simp; omega) (by simp; omega) fun t ht => ?_) fun e => nomatch e
            · rw [dAll_map]
              exact .cons (s8.dt hd) ((s6.trans s8).dts hF5)
            · rcases List.mem_cons.mp ht with e | ht
              · rw [e]
                have := (hR (ks.head (by intro z; rw [z] at h2; exact absurd h2 (by decide))) (List.head_mem _))
                cases n with
                | zero => cases this
                | succ n => exact rm_breach nd hm hne hsub
              · exact hsubs t ht
          · have hbe : blamed ks = [] := by
              cases e : blamed ks with
              | nil => rfl
              | cons a r => rw [e] at c3; exact absurd rfl c3
            have ejs := hb1 hbe
            refine ⟨small (by simp), fun q0 hq0 => ?_⟩
            have s7 := Same.new (o := .lst []) hq0
            have hD7 := s7 _ _ hD5
            refine ⟨_, rfl, catL upd_same hD7 (by rw [hlen, ejs]; simp; omega) fun q1 hq1 => ⟨q1, _, rfl, .inl ⟨SqL.of upd_same, fun q2 hq2 => ⟨small (by simp), fun q3 hq3 => ?_⟩⟩⟩⟩
            have s8 := s7.trans ((Same.new (o := .lst ([] ++ zs)) hq1).trans ((Same.new (o := .tup ([] ++ zs)) hq2).trans (Same.new (o := .tup [.str "or", .ref q2]) hq3)))
            refine k _ (.grp .or js) _ (s15.trans s8) (.tup (SqT.of upd_same) (.cons (.str _) (.cons (.tup ((Same.new hq3).tup (SqT.of upd_same)) ?_) .nil))) (.grp (by decide) (by rw [ejs]; exact h2) (by rw [ejs]; exact h3) hsubs) fun e => nomatch e
            rw [dAll_map]
            exact s8.dts hF5
end
end DD
namespace DD
open PySem PySem.Spec
open PyProof.Rows L2
section
variable {base : Heap} {mg : Str → Option Value} {K : PySem.W.Frag} {w : World} {P : Program}
def times : Tm → Nat
  | .rep k _ => k.toNat
  | _ => 0
theorem St.times {nm : List Str} {n : Nat} {t : Tm} (h : St nm n t) : times t ≤ 3 := by
  cases h with
  | rep h1 h2 _ => simp only [DD.times]; omega
  | _ => exact Nat.zero_le _
/-- what begun_then goes through: within measure m, at level N -/
inductive Bt (nm : List Str) : Nat → Nat → List Tm → Prop
  | nil {m N} : Bt nm m N []
  | last {m N n k} (hk : St nm n k) (hm : 4 * n + times k ≤ m) (hn : n ≤ N + 1) : Bt nm m N [k]
  | thn {m N n k r} (hk : St nm n k) (hm : 4 * n + times k ≤ m) (hn : n ≤ N) (h1 : r ≠ []) (h2 : r.length ≤ 2) (hr : ∀ t ∈ r, St nm N t) (hb : k.bd = true → Bt nm m N r) : Bt nm m N (k :: r)
  | thr {m N n k k'} (hk : St nm n k) (hm : 4 * n + times k ≤ m) (hn : n ≤ N) (hk' : St nm (N + 1) k') (hi : k'.isRep = true) (hb : k.bd = true → Bt nm m N [k']) : Bt nm m N [k, k']
theorem Bt.st {nm : List Str} {m N : Nat} {ks : List Tm} (h : Bt nm m N ks) : ∀ t ∈ ks, St nm (N + 1) t := by
  cases h with
  | nil => exact fun t h => nomatch h
  | last hk hm hn => exact all1 (hk.mono hn)
  | thn hk hm hn h1 h2 hr hb => exact allC (hk.mono (by omega)) fun t ht => (hr t ht).up
  | thr hk hm hn hk' hi hb => exact allC (hk.mono (by omega)) (all1 hk')
theorem bt_all {nm : List Str} {m N : Nat} : ∀ {ks : List Tm}, (∀ t ∈ ks, St nm N t) → 4 * N + 3 ≤ m → ks.length ≤ 3 → Bt nm m N ks
  | [], _, _, _ => .nil
  | [k], h, hm, _ => .last (h k (by simp)) (by have := (h k (by simp)).times; omega) (by omega)
  | k :: k2 :: r, h, hm, hl => .thn (h k (by simp)) (by have := (h k (by simp)).times; omega) (Nat.le_refl _) (by simp) (by simpa using hl) (fun t ht => h t (List.mem_cons_of_mem _ ht)) fun _ => bt_all (fun t ht => h t (List.mem_cons_of_mem _ ht)) hm (by simp only [List.length_cons] at hl ⊢; omega)
def sp_begun (K : PySem.W.Frag) (m : Nat) : Sp := fun vs H Q _ => ∃ (v : V) (pt hd : Addr) (t : Tm) (nm pp rn : List Str) (n : Nat), vs = [v, .ref pt, .ref hd] ∧ Cn nm pp rn ∧ DT K H v t.d ∧ St nm n t ∧ 4 * n + times t ≤ m ∧ n ≤ 13 ∧ SqT K H pt (pp.map V.str) ∧ HoldAt H hd rn pp ∧
  ∀ v' t' H', Same H H' → DT K H' v' t'.d → Rm nm pp n t' → (t.bd = false → t' ≠ .done) → Q v' H'
def sp_begun_then (K : PySem.W.Frag) (m : Nat) : Sp := fun vs H Q _ => ∃ (b pt hd : Addr) (us : List V) (ks : List Tm) (nm pp rn : List Str) (N : Nat), vs = [.ref b, .ref pt, .ref hd] ∧ Cn nm pp rn ∧ SqT K H b us ∧ DTs K H us (ks.map Tm.d) ∧ Bt nm m N ks ∧ ks.length ≤ 3 ∧ N ≤ 12 ∧ SqT K H pt (pp.map V.str) ∧ HoldAt H hd rn pp ∧
  ∀ v' t' H', Same H H' → DT K H' v' t'.d → Rm nm pp (N + 1) t' → ((∃ k ∈ ks, k.bd = false) → t' ≠ .done) → Q v' H'
theorem eqv_tup0 (ds : List PyData) : PyData.eqv (.tuple ds) (.tuple []) = ds.isEmpty := by cases ds <;> simp [PyData.eqv, PyData.eqvAll]
theorem tup_vs0 {p : Addr} {us : List V} {ks : List Tm} {n : Nat} {σ : L2.St} {H : Hp} {Q : VK} (hp : SqT K H p us) (hU : DTs K H us (ks.map Tm.d)) (hx : ∀ t ∈ ks, Tx n t) (hn : n ≤ 30) (q : ∀ H', Same H H' → Q (.bl ks.isEmpty) H') : tTup tNil σ H fun y H1 => uEq K (.ref p) y H1 Q :=
  ⟨small (by decide), fun p1 hp1 => have s := Same.new hp1; .inr ⟨.tuple (ks.map Tm.d), .tuple [], .tup (s.tup hp) (s.dts hU).dps, .tup (SqT.of upd_same) .nil, (Fit.tup (n := 60) fun d hd => by
    obtain ⟨t, ht, rfl⟩ := List.mem_map.mp hd
    exact (hx t ht).fit.mono (by omega)).shaped (by omega), by decide +kernel, by
    have := q _ s
    rw [eqv_tup0, List.isEmpty_map]
    exact this⟩⟩
/-- first if first[0] == 'breach' or later == () else ('then', (first,) + later) -/
theorem joinE {nm pp : List Str} (hP : Pp pp) {N i j : Nat} {σ : L2.St} {H : Hp} {Q : VK} {v : V} {p : Addr} {us : List V} {t1 : Tm} {r : List Tm} (hN : N ≤ 12) (hi : σ[i]? = some (some v)) (hj : σ[j]? = some (some (.ref p))) (hD : DT K H v t1.d) (hp : SqT K H p us) (hU : DTs K H us (r.map Tm.d))
    (hr : ∀ t ∈ r, St nm (N + 1) t) (h3 : r.length ≤ 2) (h1 : Rm nm pp (N + 1) t1) (h2 : r ≠ [] → Rm nm pp (N + 1) (.grp .thn (t1 :: r))) (k : ∀ v' t' H', Same H H' → DT K H' v' t'.d → Rm nm pp (N + 1) t' → (t1 ≠ .done → t' ≠ .done) → Q v' H') :
    tIf (tOr (tTest (tOp (uEq K) (tOp (rIx K) (tVar i) (tC (.int 0))) (tC (.str "breach")))) (tTest (tOp (uEq K) (tVar j) (tTup tNil)))) (tVar i) (tTup (tCons (tC (.str "then")) (tCons (tOp (uAdd K) (tTup (tCons (tVar i) tNil)) (tVar j)) tNil))) σ H Q := by
  obtain ⟨a, ts, rfl, hS, hts⟩ := tm_at hD
  have hul := kids_len hU
  have big : ∀ {H1 : Hp}, Same H H1 → r ≠ [] → tTup (tCons (tC (.str "then")) (tCons (tOp (uAdd K) (tTup (tCons (tVar i) tNil)) (tVar j)) tNil)) σ H1 Q := fun {H1} s1 ne => by
    refine ⟨_, hi, small (by simp), fun p1 hp1 => ⟨_, hj, ?_⟩⟩
    have s2 := s1.trans (Same.new (o := .tup [.ref a]) hp1)
    refine catT (SqT.of upd_same) (s2.tup hp) (by simp; omega) fun p2 H2 s3 hp2 => ⟨small (by simp), fun p3 hp3 => ?_⟩
    have s4 := s2.trans (s3.trans (Same.new (o := .tup [.str "then", .ref p2]) hp3))
    refine k _ (.grp .thn (t1 :: r)) _ s4 (.tup (SqT.of upd_same) (.cons (.str _) (.cons (.tup ((Same.new hp3).tup hp2) ?_) .nil))) (h2 ne) fun _ e => nomatch e
    rw [dAll_map]
    exact .cons (s4.dt hD) (s4.dts hU)
  rcases hd_isBr t1 with ⟨e1, e2⟩ | ⟨e1, e2⟩
  · rw [e2] at hS
    exact tt_hdY hi hS (yes rfl (yes rfl ⟨_, hi, k _ t1 H (Same.refl H) hD h1 fun h => h⟩))
  · refine tt_hdN hi hS e2 (no (by decide) ⟨_, hj, tup_vs0 (n := N + 1) hp hU (fun t ht => (hr t ht).tx) (by omega) fun H1 s1 => ⟨_, rfl, ite2 (fun c => ?_) (fun c => ?_)⟩⟩)
    · exact ⟨_, hi, k _ t1 H1 s1 (s1.dt hD) h1 fun h => h⟩
    · exact big s1 fun e => by rw [e] at c; exact c rfl
theorem then_of (T : Txt w K mg) {m : Nat} (G_begun : FnOk P w K mg base CX0 (2 * m + 3) (a_begun K) (fdOf K (a_begun K)) ps_begun (sp_begun K m)) : FnOk P w K mg base CX0 (2 * m + 4) (a_begun_then K) (fdOf K (a_begun_then K)) ps_begun_then (sp_begun_then K m) := by
  refine ok0 T.f_begun_then sc_begun_then (fun vs H Q E h => ?_) (fun cdv A outer s H vs Q E hr h => ?_)
  · obtain ⟨_, _, _, _, _, _, _, _, _, rfl, _⟩ := h; rfl
  · obtain ⟨b, pt, hd, us, ks, nm, pp, rn, N, rfl, hc, hB, hU, hbt, hl3, hN, hP, hH, k⟩ := h
    have hU64 := hr.units
    have hr_begun := hr
    refine ⟨_, (pss_cons (ps_for PassesOwn.never rfl (pi_enumT (by rfl) T.n_enumerate (pa_cons (pv 0) pa_nil)) (k_tup K (n := 2) rfl (pgs_cons (pg_name (i := 3) sc_begun_then.nd rfl (Or.inl rfl) (Or.inl rfl)) (pgs_cons (pg_name (i := 4) sc_begun_then.nd rfl (Or.inl rfl) (Or.inl rfl)) pgs_nil))) (pss_cons (ps_set (i := 5) sc_begun_then.nd rfl (Or.inl rfl) (pe_call G_begun hr_begun rfl T.g_begun T.k_begun T.b_begun .nil pass0 (pa_cons (pv 4) (pa_cons (pv 1) (pa_cons (pv 2) pa_nil))))) (pss_one (ps_if (pt_cmpR (k_ne K hU64) (pv 5) (pe_cR rfl T.g_DONE) (nomark _)) (pss_cons (ps_set (i := 6) sc_begun_then.nd rfl (Or.inl rfl) (pe_slice (k_sl K) (pv 0) (po_some (pe_op (k_add K) (pv 3) pe_int)) po_none)) (pss_one (ps_ret (pe_ifExp (PW.pt (pw_or (pt_cmpR (k_eq K hU64) (pe_ix (k_ix K) (pv 5) pe_int (fun _ _ => rfl)) pe_str (nomark _)) (pw_or1 (pt_cmpR (k_eq K hU64) (pv 6) (pe_tup pa_nil) (nomark _))))) (pv 5) (pe_tup (pa_cons pe_str (pa_cons (pe_op (k_add K) (pe_tup (pa_cons (pv 5) pa_nil)) (pv 6)) pa_nil))))))) pss_nil)))) (pss_one (ps_ret (pe_cR rfl T.g_DONE)))), ?_⟩
    have hul := kids_len hU
    refine ⟨_, rfl, b, us, rfl, hB, ?_⟩
    refine for_it (walk_enumT (xs := us)) (fun i σ H' => ∃ x3 x4 x5 x6, σ = [some (.ref b), some (.ref pt), some (.ref hd), x3, x4, x5, x6] ∧ Same H H' ∧ Bt nm m N (ks.drop i) ∧ ∀ t ∈ ks.take i, t.bd = true) ⟨_, _, _, _, rfl, Same.refl _, hbt, fun t ht => nomatch ht⟩ (fun i σ H' _ ⟨_, _, _, _, _, s, _⟩ => s.tup hB) ?_ ?_
    · rintro i x σ H5 H6 hi ⟨x3, x4, x5, x6, rfl, S5, hbt5, hbd5⟩ ⟨t1, y1, y2, rfl, ht1, rfl, e1, e2⟩
      cases e1
      have S6 := S5.trans (Same.new (o := .tup [.int (i : Nat), y2]) ht1)
      obtain ⟨t, ht, hd0⟩ := kid_at hU e2
      have hdr : ks.drop i = t :: ks.drop (i + 1) := List.drop_eq_getElem?_toList_append.trans (by rw [ht]; rfl)
      rw [hdr] at hbt5
      refine ⟨t1, _, rfl, SqT.of upd_same, rfl, _, _, rfl, _, _, rfl, rfl, ?_⟩
      obtain ⟨n, hk, hm, hn, hst', hl2, h2, hb⟩ : ∃ n, St nm n t ∧ 4 * n + times t ≤ m ∧ n ≤ N + 1 ∧ (∀ t ∈ ks.drop (i + 1), St nm (N + 1) t) ∧ (ks.drop (i + 1)).length ≤ 2 ∧ (∀ t', Rm nm pp n t' → ks.drop (i + 1) ≠ [] → Rm nm pp (N + 1) (.grp .thn (t' :: ks.drop (i + 1)))) ∧ (t.bd = true → Bt nm m N (ks.drop (i + 1))) := by
        generalize ks.drop (i + 1) = r at hbt5
        cases hbt5 with
        | last hk hm hn => exact ⟨_, hk, hm, hn, (fun t h => nomatch h), by simp, fun t' h e => absurd rfl e, fun _ => .nil⟩
        | thn hk hm hn h1 h2 hr hb => exact ⟨_, hk, hm, by omega, fun t ht => (hr t ht).up, h2, fun t' h e => .thn (h.mono hn) h1 h2 hr, hb⟩
        | thr hk hm hn hk' hi hb => exact ⟨_, hk, hm, by omega, all1 hk', by simp, fun t' h e => .thr (h.mono hn) hk' hi, hb⟩
      refine ⟨_, rfl, _, rfl, _, rfl, _, pt, hd, t, nm, pp, rn, n, rfl, hc, S6.dt hd0, hk, hm, by omega, S6.tup hP, S6.hold hH, fun v1 t1 H7 S7 hd1 hR1 hdn => ?_⟩
      have S67 := S6.trans S7
      refine ⟨_, rfl, vs_done T hd1 (hR1.tx hc.pk) (by omega) ⟨_, rfl, ?_⟩⟩
      cases ed : t1.isDone with
      | false =>
        have len : i + 1 ≤ us.length := by omega
        refine yes rfl ⟨_, rfl, _, rfl, .inl ⟨_, _, rfl, rfl, _, rfl, .inr ⟨b, us, rfl, S67.tup hB, fun z => ?_, fun _ p hp => ?_⟩⟩⟩
        · have q := z.1
          rw [show ((i : Nat) : Int) + 1 = ((i + 1 : Nat) : Int) by omega, HT.sIx_nat] at q
          omega
        · rw [show ((i : Nat) : Int) + 1 = ((i + 1 : Nat) : Int) by omega, cut_from _ _ len]
          have s8 := Same.new (o := .tup (us.drop (i + 1))) hp
          refine joinE hc.pk (N := N) hN rfl rfl (s8.dt hd1) (SqT.of upd_same) (r := ks.drop (i + 1)) ?_ hst' hl2 (hR1.mono hn) (h2 t1 hR1) fun v' t' H9 s9 hd9 hr9 hne => k v' t' H9 (S67.trans (s8.trans s9)) hd9 hr9 fun _ => hne fun e => by rw [e] at ed; cases ed
          rw [List.map_drop]
          exact dps_drop _ ((S67.trans s8).dts hU)
      | true =>
        have e1 := isDone_iff.mp ed
        have hbt1 : t.bd = true := by
          cases e : t.bd with
          | true => rfl
          | false => exact absurd e1 (hdn e)
        refine no (by decide) ⟨_, _, _, _, rfl, S67, hb hbt1, ?_⟩
        rw [List.take_add_one, ht]
        exact fun q hq => (List.mem_append.mp hq).elim (hbd5 q) fun hq => by rw [List.mem_singleton.mp hq]; exact hbt1
    · rintro σ H5 ⟨x3, x4, x5, x6, rfl, S5, _, hbd⟩
      refine k _ .done H5 S5 (done_dt T H5) .done fun ⟨q, hq, hb⟩ => ?_
      rw [List.take_of_length_le (by omega)] at hbd
      rw [hbd q hq] at hb
      cases hb
end
end DD
namespace DD
open PySem PySem.Spec
open PyProof.Rows L2
section
variable {base : Heap} {mg : Str → Option Value} {K : PySem.W.Frag} {w : World} {P : Program}
theorem wd_of {nm pp rn : List Str} (hc : Cn nm pp rn) : ∀ x ∈ pp, wordB x = true := hc.pk.word
theorem pickT {H : Hp} : ∀ (ys : List V) (P : Nat → Tm → Prop), (∀ i y, ys[i]? = some y → ∃ t, DT K H y t.d ∧ P i t) → ∃ ts : List Tm, DTs K H ys (ts.map Tm.d) ∧ ∀ i t, ts[i]? = some t → P i t
  | [], P, _ => ⟨[], .nil, fun i a e => nomatch e⟩
  | y :: r, P, h => by
    obtain ⟨t, e1, p⟩ := h 0 y rfl
    obtain ⟨ts, e2, q⟩ := pickT r (fun i t => P (i + 1) t) fun i y e => h (i + 1) y e
    refine ⟨t :: ts, .cons e1 e2, fun i b e => ?_⟩
    cases i with
    | zero => have := Option.some.inj e; rw [← this]; exact p
    | succ i => exact q i b e
theorem ok_begun (T : Txt w K mg) : ∀ m, FnOk P w K mg base CX0 (2 * m + 3) (a_begun K) (fdOf K (a_begun K)) ps_begun (sp_begun K m) := by
  have G_parties_of := ok_parties_of (P := P) (base := base) T
  have G_breach_of := ok_breach_of (P := P) (base := base) T
  have G_joined_and := ok_joined_and (P := P) (base := base) T
  have G_joined_or := ok_joined_or (P := P) (base := base) T
  have G_until_of := ok_until_of (P := P) (base := base) T
  intro m
  induction m with
  | zero =>
    refine ok0 T.f_begun sc_begun (fun vs H Q E h => ?_) (fun cdv A outer s H vs Q E hr h => ?_)
    · obtain ⟨_, _, _, _, _, _, _, _, rfl, _⟩ := h; rfl
    · obtain ⟨v, pt, hd, t, nm, pp, rn, n, rfl, hc, hD, hst, hm, _⟩ := h
      have := hst.pos
      omega
  | succ m ih =>
    have G_begun := ih
    have G_begun_then := then_of T ih
    refine ok0 (k := 2 * m + 4) T.f_begun sc_begun (fun vs H Q E h => ?_) (fun cdv A outer s H vs Q E hr h => ?_)
    · obtain ⟨_, _, _, _, _, _, _, _, rfl, _⟩ := h; rfl
    · obtain ⟨v, pt, hd, t, nm, pp, rn, n, rfl, hc, hD, hst, hm, hn, hP, hH, k⟩ := h
      have hU64 := hr.units
      have hr_begun_then := hr
      have hr_begun : Room (2 * m + 3) _ := hr.mono (by omega)
      have hr_parties_of : Room 2 _ := hr.mono (by omega)
      have hr_breach_of : Room 1 _ := hr.mono (by omega)
      have hr_joined_and : Room 2 _ := hr.mono (by omega)
      have hr_joined_or : Room 2 _ := hr.mono (by omega)
      have hr_until_of : Room 2 _ := hr.mono (by omega)
      refine ⟨_, (pss_cons (ps_set (i := 3) sc_begun.nd rfl (Or.inl rfl) (pe_ix (k_ix K) (pv 0) pe_int (fun _ _ => rfl))) (pss_cons (ps_if (pt_cmpR (k_eq K hU64) (pv 3) pe_str (nomark _)) (pss_one (ps_ret (pe_call G_breach_of hr_breach_of rfl T.g_breach_of T.k_breach_of T.b_breach_of .nil pass0 (pa_cons (pe_lc2 (own := [("who", 7), ("party", 8)]) (vs1 := [8]) (by rfl) sc_begun.nd (k_piT K (pe_ix (k_ix K) (pv 0) pe_int (fun _ _ => rfl))) (blkOk_by (own := [("who", 7), ("party", 8)]) (N := N_begun) (sc := defScope s_begun) (by decide +kernel)) (by decide) (fun _ _ _ _ _ => (pg_name (i := 7) sc_begun.nd rfl (Or.inl rfl) (Or.inr rfl))) (fun _ _ _ _ _ => pts_nil) (fun _ _ _ _ _ => (k_piL K (pe_call G_parties_of hr_parties_of rfl T.g_parties_of T.k_parties_of T.b_parties_of .nil pass0 (pa_cons (pv 7) (pa_cons (pv 1) (pa_cons (pv 2) pa_nil)))))) (fun _ _ _ _ _ => (pg_name (i := 8) sc_begun.nd rfl (Or.inl rfl) (Or.inr rfl))) (fun _ _ _ _ _ => pts_nil) (fun _ _ _ _ _ => (pv 8))) pa_nil)))) pss_nil) (pss_cons (ps_if (pt_cmpR (k_eq K hU64) (pv 3) pe_str (nomark _)) (pss_one (ps_ret (pe_call G_begun_then hr_begun_then rfl T.g_begun_then T.k_begun_then T.b_begun_then .nil pass0 (pa_cons (pe_ix (k_ix K) (pv 0) pe_int (fun _ _ => rfl)) (pa_cons (pv 1) (pa_cons (pv 2) pa_nil)))))) pss_nil) (pss_cons (ps_if (pt_cmpR (k_in K) (pv 3) (pe_cR rfl T.g_GROUPS) (by rfl)) (pss_cons (ps_setLc (i := 4) (own := [("kid", 6)]) (by rfl) sc_begun.nd rfl rfl (sw_true rfl rfl rfl (by decide +kernel)) (k_piT K (pe_ix (k_ix K) (pv 0) pe_int (fun _ _ => rfl))) (blkOk_by (own := [("kid", 6)]) (N := N_begun) (sc := defScope s_begun) (by decide +kernel)) (fun _ _ _ _ _ => (pg_name (i := 6) sc_begun.nd rfl (Or.inl rfl) (Or.inr rfl))) (fun _ _ _ _ _ => pts_nil) (fun _ _ _ _ _ => (pe_call G_begun hr_begun rfl T.g_begun T.k_begun T.b_begun .nil pass0 (pa_cons (pv 6) (pa_cons (pv 1) (pa_cons (pv 2) pa_nil)))))) (pss_one (ps_ret (pe_ifExp (pt_cmpR (k_eq K hU64) (pv 3) pe_str (nomark _)) (pe_call G_joined_and hr_joined_and rfl T.g_joined_and T.k_joined_and T.b_joined_and .nil pass0 (pa_cons (pv 4) pa_nil)) (pe_call G_joined_or hr_joined_or rfl T.g_joined_or T.k_joined_or T.b_joined_or .nil pass0 (pa_cons (pv 4) pa_nil)))))) pss_nil) (pss_cons (ps_if (pt_cmpR (k_eq K hU64) (pv 3) pe_str (nomark _)) (pss_one (ps_ret (pe_call G_until_of hr_until_of rfl T.g_until_of T.k_until_of T.b_until_of .nil pass0 (pa_cons (pe_call G_begun hr_begun rfl T.g_begun T.k_begun T.b_begun .nil pass0 (pa_cons (pe_ix (k_ix K) (pv 0) pe_int (fun _ _ => rfl)) (pa_cons (pv 1) (pa_cons (pv 2) pa_nil)))) (pa_cons (pe_ix (k_ix K) (pv 0) pe_int (fun _ _ => rfl)) (pa_cons (pe_ix (k_ix K) (pv 0) pe_int (fun _ _ => rfl)) pa_nil)))))) pss_nil) (pss_cons (ps_if (pt_cmpR (k_eq K hU64) (pv 3) pe_str (nomark _)) (pss_cons (ps_set (i := 5) sc_begun.nd rfl (Or.inl rfl) (pe_ifExp (pt_cmpR (k_eq K hU64) (pe_ix (k_ix K) (pv 0) pe_int (fun _ _ => rfl)) pe_int (nomark _)) (pe_tup pa_nil) (pe_tup (pa_cons (pe_tup (pa_cons pe_str (pa_cons (pe_op op_sub (pe_ix (k_ix K) (pv 0) pe_int (fun _ _ => rfl)) pe_int) (pa_cons (pe_ix (k_ix K) (pv 0) pe_int (fun _ _ => rfl)) pa_nil)))) pa_nil)))) (pss_one (ps_ret (pe_call G_begun_then hr_begun_then rfl T.g_begun_then T.k_begun_then T.b_begun_then .nil pass0 (pa_cons (pe_op (k_add K) (pe_tup (pa_cons (pe_ix (k_ix K) (pv 0) pe_int (fun _ _ => rfl)) pa_nil)) (pv 5)) (pa_cons (pv 1) (pa_cons (pv 2) pa_nil))))))) pss_nil) (pss_cons (ps_if (pt_cmpR (k_eq K hU64) (pv 3) pe_str (nomark _)) (pss_one (ps_ret (pe_call G_begun_then hr_begun_then rfl T.g_begun_then T.k_begun_then T.b_begun_then .nil pass0 (pa_cons (pe_tup (pa_cons (pe_ix (k_ix K) (pv 0) pe_int (fun _ _ => rfl)) (pa_cons (pv 0) pa_nil))) (pa_cons (pv 1) (pa_cons (pv 2) pa_nil)))))) pss_nil) (pss_one (ps_ret (pv 0)))))))))), ?_⟩
      have S := Same.refl H
      cases hst with
      | done =>
        obtain ⟨a, rfl, hS⟩ := tm_done hD
        refine ixT rfl hS at0 ?_
        refine tt_eqN (h := "done") rfl (by decide +kernel) (no (by decide) (tt_eqN (h := "done") rfl (by decide +kernel) (no (by decide) (tt_inG (h := "done") (b := false) (groups_at T _) rfl (by decide +kernel) (no (by decide) (tt_eqN (h := "done") rfl (by decide +kernel) (no (by decide) (tt_eqN (h := "done") rfl (by decide +kernel) (no (by decide) (tt_eqN (h := "done") rfl (by decide +kernel) (no (by decide) (?_))))))))))))
        exact ⟨_, rfl, k _ .done H S hD .done fun e => nomatch e⟩
      | wait h1 h2 =>
        obtain ⟨a, rfl, hS⟩ := tm_wait hD
        refine ixT rfl hS at0 ?_
        refine tt_eqN (h := "wait") rfl (by decide +kernel) (no (by decide) (tt_eqN (h := "wait") rfl (by decide +kernel) (no (by decide) (tt_inG (h := "wait") (b := false) (groups_at T _) rfl (by decide +kernel) (no (by decide) (tt_eqN (h := "wait") rfl (by decide +kernel) (no (by decide) (tt_eqN (h := "wait") rfl (by decide +kernel) (no (by decide) (tt_eqN (h := "wait") rfl (by decide +kernel) (no (by decide) (?_))))))))))))
        exact ⟨_, rfl, k _ (.wait _) H S hD (.wait h1 h2) fun _ e => nomatch e⟩
      | @duty n b ww aa kk hw ha h1 h2 =>
        obtain ⟨a, rfl, hS⟩ := tm_duty hD
        refine ixT rfl hS at0 ?_
        refine tt_eqN (h := dutyS b) rfl (by cases b <;> decide +kernel) (no (by decide) (tt_eqN (h := dutyS b) rfl (by cases b <;> decide +kernel) (no (by decide) (tt_inG (h := dutyS b) (b := false) (groups_at T _) rfl (by cases b <;> decide +kernel) (no (by decide) (tt_eqN (h := dutyS b) rfl (by cases b <;> decide +kernel) (no (by decide) (tt_eqN (h := dutyS b) rfl (by cases b <;> decide +kernel) (no (by decide) (tt_eqN (h := dutyS b) rfl (by cases b <;> decide +kernel) (no (by decide) (?_))))))))))))
        exact ⟨_, rfl, k _ (.duty b ww aa kk) H S hD (.duty hw ha h1 h2) fun _ e => nomatch e⟩
      | @dutyE n b ww aa kk o hw ha h1 h2 ho =>
        obtain ⟨a, u, rfl, hS, hu⟩ := tm_dutyE hD
        refine ixT rfl hS at0 ?_
        refine tt_eqN (h := dutyS b) rfl (by cases b <;> decide +kernel) (no (by decide) (tt_eqN (h := dutyS b) rfl (by cases b <;> decide +kernel) (no (by decide) (tt_inG (h := dutyS b) (b := false) (groups_at T _) rfl (by cases b <;> decide +kernel) (no (by decide) (tt_eqN (h := dutyS b) rfl (by cases b <;> decide +kernel) (no (by decide) (tt_eqN (h := dutyS b) rfl (by cases b <;> decide +kernel) (no (by decide) (tt_eqN (h := dutyS b) rfl (by cases b <;> decide +kernel) (no (by decide) (?_))))))))))))
        exact ⟨_, rfl, k _ (.dutyE b ww aa kk o) H S hD (.dutyE hw ha h1 h2 ho) fun _ e => nomatch e⟩
      | may hw ha h1 h2 =>
        obtain ⟨a, rfl, hS⟩ := tm_may hD
        refine ixT rfl hS at0 ?_
        refine tt_eqN (h := "may") rfl (by decide +kernel) (no (by decide) (tt_eqN (h := "may") rfl (by decide +kernel) (no (by decide) (tt_inG (h := "may") (b := false) (groups_at T _) rfl (by decide +kernel) (no (by decide) (tt_eqN (h := "may") rfl (by decide +kernel) (no (by decide) (tt_eqN (h := "may") rfl (by decide +kernel) (no (by decide) (tt_eqN (h := "may") rfl (by decide +kernel) (no (by decide) (?_))))))))))))
        exact ⟨_, rfl, k _ (.may _ _ _) H S hD (.may hw ha h1 h2) fun _ e => nomatch e⟩
      | whn hw ha h1 h2 hp =>
        obtain ⟨a, u, rfl, hS, hu⟩ := tm_whn hD
        refine ixT rfl hS at0 ?_
        refine tt_eqN (h := "when") rfl (by decide +kernel) (no (by decide) (tt_eqN (h := "when") rfl (by decide +kernel) (no (by decide) (tt_inG (h := "when") (b := false) (groups_at T _) rfl (by decide +kernel) (no (by decide) (tt_eqN (h := "when") rfl (by decide +kernel) (no (by decide) (tt_eqN (h := "when") rfl (by decide +kernel) (no (by decide) (tt_eqN (h := "when") rfl (by decide +kernel) (no (by decide) (?_))))))))))))
        exact ⟨_, rfl, k _ (.whn _ _ _ _) H S hD (.whn hw ha h1 h2 hp) fun _ e => nomatch e⟩
      | whnE hw ha h1 h2 hp ho =>
        obtain ⟨a, u, y, rfl, hS, hu, hy⟩ := tm_whnE hD
        refine ixT rfl hS at0 ?_
        refine tt_eqN (h := "when") rfl (by decide +kernel) (no (by decide) (tt_eqN (h := "when") rfl (by decide +kernel) (no (by decide) (tt_inG (h := "when") (b := false) (groups_at T _) rfl (by decide +kernel) (no (by decide) (tt_eqN (h := "when") rfl (by decide +kernel) (no (by decide) (tt_eqN (h := "when") rfl (by decide +kernel) (no (by decide) (tt_eqN (h := "when") rfl (by decide +kernel) (no (by decide) (?_))))))))))))
        exact ⟨_, rfl, k _ (.whnE _ _ _ _ _) H S hD (.whnE hw ha h1 h2 hp ho) fun _ e => nomatch e⟩
      | @breach n ws h1 h2 h3 h4 =>
        obtain ⟨a, b, rfl, hS, hB⟩ := tm_breach hD
        refine ixT rfl hS at0 ?_
        refine tt_eqY rfl (yes rfl (?_))
        refine ixT rfl hS at1 ⟨b, rfl, ⟨_, hB⟩, fun D hD0 => ?_⟩
        refine lc2_g (walk_tup (xs := ws.map V.str)) (fun i vs _ => ∃ ps : List Str, vs = ps.map V.str ∧ ps ≠ [] ∧ ps.length ≤ 3 ∧ ∀ y ∈ ps, y ∈ pp) (fun i o H H' _ h => h) hD0 (by rw [List.length_map]; omega) (fun H2 s2 => s2.tup hB) ?_ ?_
        · rintro i x H2 H3 Kin Kf hi s2 ⟨accD, hDl⟩ ⟨rfl, e⟩ kf kin
          obtain ⟨x, hx, rfl⟩ := str_at e
          refine ⟨rfl, _, rfl, _, rfl, _, rfl, x, pt, hd, nm, pp, rn, rfl, hc, h4 x (List.mem_of_getElem? hx), s2.tup hP, s2.hold hH, fun l ps H4 s4 hl0 hl hne hl3 hsub => ?_⟩
          refine ⟨l, rfl, ⟨_, SqL.of hl⟩, kin _ _ _ _ _ _ (fun j v _ => ∃ y, ps[j]? = some y ∧ v = .str y) s4 (walk_list (xs := ps.map V.str)) ?_ ?_ (fun _ _ _ _ _ h => h) ?_ ?_⟩
          · rw [List.length_map]; omega
          · exact fun H5 b5 => b5.lst (fun z => by rw [z, hDl] at hl0; cases hl0) hl
          · rintro j x H5 H6 Kt hj b5 ⟨rfl, e⟩ kt
            obtain ⟨y, hy, rfl⟩ := str_at e
            exact ⟨rfl, _, rfl, kt _ _ (Same.refl _) ⟨y, hy, rfl⟩⟩
          · intro ys H5 b5 hyl hy
            exact ⟨ps, map_of (by rw [hyl, List.length_map]) hy, hne, hl3, hsub⟩
        · intro yss H2 s2 hl2 hy hD2
          have key : ∀ {l : List (List V)}, (∀ ys ∈ l, ∃ ps : List Str, ys = ps.map V.str ∧ ps ≠ [] ∧ ps.length ≤ 3 ∧ ∀ y ∈ ps, y ∈ pp) → ∃ qs : List Str, l.flatten = qs.map V.str ∧ qs.length ≤ 3 * l.length ∧ (∀ y ∈ qs, y ∈ pp) ∧ (l ≠ [] → qs ≠ []) := by
            intro l
            induction l with
            | nil => intro _; exact ⟨[], rfl, Nat.zero_le _, (fun y h => nomatch h), fun h => absurd rfl h⟩
            | cons ys r ih =>
              intro h
              obtain ⟨ps, e1, e2, e3, e4⟩ := h ys (by simp)
              obtain ⟨qs, f1, f2, f3, f4⟩ := ih fun z hz => h z (by simp [hz])
              refine ⟨ps ++ qs, by rw [List.flatten_cons, e1, f1, List.map_append], by rw [List.length_append, List.length_cons]; omega, fun y hy => (List.mem_append.mp hy).elim (e4 y) (f3 y), fun _ e => e2 (List.append_eq_nil_iff.mp e).1⟩
          obtain ⟨qs, f1, f2, f3, f4⟩ := key (l := yss) fun ys hys => let ⟨i, hi⟩ := List.getElem?_of_mem hys; hy i ys hi
          rw [f1] at hD2
          have hl2' : yss.length = ws.length := by rw [hl2, List.length_map]
          have hne : qs ≠ [] := f4 fun e => by rw [e] at hl2'; simp at hl2'; omega
          refine ⟨D, qs, rfl, SqL.of hD2, by omega, fun v ps H3 s3 hd3 nd hm3 => ?_⟩
          exact k v _ H3 (s2.trans s3) hd3 (rm_breach nd hm3 hne f3) fun _ e => nomatch e
      | @grp n g ks h1 h2 hks =>
        obtain ⟨a, b, us, rfl, hS, hB, hU⟩ := tm_grp hD
        refine ixT rfl hS at0 ?_
        have hul := kids_len hU
        simp only [times] at hm
        by_cases hg : g = .thn
        · subst hg
          refine tt_eqN (h := "then") rfl (by decide +kernel) (no (by decide) (tt_eqY rfl (yes rfl (?_))))
          refine ixT rfl hS at1 ⟨_, rfl, _, rfl, b, pt, hd, us, ks, nm, pp, rn, n, rfl, hc, hB, hU, bt_all hks (by omega) h2, h2, by omega, hP, hH, fun v' t' H' s' hd' hr' hb => ?_⟩
          refine k v' t' H' s' hd' hr' fun e => hb ?_
          rw [Tm.bd, bdAll_eq] at e
          obtain ⟨x, hx, e⟩ := List.all_eq_false.mp e
          exact ⟨x, hx, Bool.not_eq_true _ ▸ e⟩
        · refine tt_eqN (h := g.str) rfl (by cases g <;> first | exact absurd rfl hg | decide +kernel) (no (by decide) (tt_eqN (h := g.str) rfl (by cases g <;> first | exact absurd rfl hg | decide +kernel) (no (by decide) (tt_inG (h := g.str) (b := true) (groups_at T _) rfl (by cases g <;> first | exact absurd rfl hg | decide +kernel) (yes rfl (?_))))))
          refine ixT rfl hS at1 ⟨b, rfl, ⟨_, hB⟩, fun D hD0 => ?_⟩
          refine lc_n (walk_tup (xs := us)) (fun i v H' => ∃ kid t', ks[i]? = some kid ∧ DT K H' v t'.d ∧ Rm nm pp n t' ∧ (kid.bd = false → t' ≠ .done)) (by rintro i o H H' kk ⟨a, b, c, d, e⟩; exact ⟨a, b, c, kk.dt d, e⟩) hD0 (by omega) (fun H2 s2 => s2.tup hB) ?_ ?_
          · rintro i x H2 H3 Kt hi s2 ⟨rfl, e⟩ kk
            obtain ⟨t, ht, hd0⟩ := kid_at (s2.dts hU) e
            have hkt := hks t (List.mem_of_getElem? ht)
            have := hkt.times
            exact ⟨rfl, _, rfl, _, rfl, _, rfl, x, pt, hd, t, nm, pp, rn, n, rfl, hc, hd0, hkt, by omega, by omega, s2.tup hP, s2.hold hH, fun v' t' H' s' hd' hr' hb => kk v' H' s' ⟨t, t', ht, hd', hr', hb⟩⟩
          · intro ys H2 s2 hl2 hy hD2
            obtain ⟨ts, hts, hpt⟩ := pickT (H := H2) ys (fun i t' => ∃ kid, ks[i]? = some kid ∧ Rm nm pp n t' ∧ (kid.bd = false → t' ≠ .done)) fun i y e => let ⟨kid, t', a, b, c, d⟩ := hy i y e; ⟨t', b, kid, a, c, d⟩
            have htl : ts.length = ks.length := by rw [← kids_len hts, hl2, hul]
            have hrt : ∀ t ∈ ts, Rm nm pp n t := fun t ht => let ⟨i, hi⟩ := List.getElem?_of_mem ht; let ⟨_, _, c, _⟩ := hpt i t hi; c
            have back : ∀ kid ∈ ks, ∃ t ∈ ts, (kid.bd = false → t ≠ .done) := fun kid hkid => by
              obtain ⟨i, hi⟩ := List.getElem?_of_mem hkid
              have hi2 : i < ts.length := by rw [htl]; exact (List.getElem?_eq_some_iff.mp hi).1
              obtain ⟨k2, hk2, _, d⟩ := hpt i ts[i] (List.getElem?_eq_getElem hi2)
              rw [hi] at hk2
              cases hk2
              exact ⟨_, List.getElem_mem hi2, d⟩
            have fwd : ∀ t ∈ ts, ∃ kid ∈ ks, (kid.bd = false → t ≠ .done) := fun t ht => by
              obtain ⟨i, hi⟩ := List.getElem?_of_mem ht
              obtain ⟨k2, hk2, _, d⟩ := hpt i t hi
              exact ⟨k2, List.mem_of_getElem? hk2, d⟩
            cases g with
            | thn => exact absurd rfl hg
            | and =>
              refine tt_eqY rfl (yes rfl ⟨_, rfl, D, ys, ts, nm, pp, n, rfl, SqL.of hD2, hts, by omega, hc.pk, hrt, by omega, fun v' t' H3 s3 hd3 hr3 hdn => ?_⟩)
              refine k v' t' H3 (s2.trans s3) hd3 hr3 fun e e2 => ?_
              rw [Tm.bd, bdAll_eq] at e
              obtain ⟨x, hx, e⟩ := List.all_eq_false.mp e
              obtain ⟨t, ht, hb⟩ := back x hx
              exact hb (Bool.not_eq_true _ ▸ e) (hdn e2 t ht)
            | or =>
              refine tt_eqN (h := "or") rfl (by decide +kernel) (no (by decide) ⟨_, rfl, D, ys, ts, nm, pp, n, rfl, SqL.of hD2, hts, by omega, by omega, hc.pk, hrt, by omega, fun v' t' H3 s3 hd3 hr3 hdn => ?_⟩)
              refine k v' t' H3 (s2.trans s3) hd3 hr3 fun e e2 => ?_
              rw [Tm.bd, bdAny_eq] at e
              obtain ⟨t, ht, e3⟩ := hdn e2
              obtain ⟨x, hx, hb⟩ := fwd t ht
              exact hb (Bool.eq_false_iff.mpr (List.any_eq_false.mp e x hx)) e3
      | @til n p ww aa hp hw ha =>
        obtain ⟨a, u, rfl, hS, hu⟩ := tm_til hD
        refine ixT rfl hS at0 ?_
        have := hp.times
        simp only [times] at hm
        refine tt_eqN (h := "until") rfl (by decide +kernel) (no (by decide) (tt_eqN (h := "until") rfl (by decide +kernel) (no (by decide) (tt_inG (h := "until") (b := false) (groups_at T _) rfl (by decide +kernel) (no (by decide) (tt_eqY rfl (yes rfl (?_))))))))
        refine ixT rfl hS at1 ⟨_, rfl, _, rfl, u, pt, hd, p, nm, pp, rn, n, rfl, hc, hu, hp, by omega, by omega, hP, hH, fun v1 t1 H1 s1 hd1 hr1 hb1 => ?_⟩
        refine ixT rfl (s1.tup hS) at2 (ixT rfl (s1.tup hS) at3 ⟨v1, t1, ww, aa, nm, pp, n, rfl, hd1, hr1, hw, ha, fun v2 t2 H2 s2 hd2 hr2 hb2 => ?_⟩)
        exact k v2 t2 H2 (s1.trans s2) hd2 hr2 fun e e2 => hb1 e (hb2 e2)
      | @rep n i p h1 h2 hp =>
        obtain ⟨a, u, rfl, hS, hu⟩ := tm_rep hD
        refine ixT rfl hS at0 ?_
        have := hp.times
        have hm' : 4 * (n + 1) + i.toNat ≤ m + 1 := hm
        refine tt_eqN (h := "repeat") rfl (by decide +kernel) (no (by decide) (tt_eqN (h := "repeat") rfl (by decide +kernel) (no (by decide) (tt_inG (h := "repeat") (b := false) (groups_at T _) rfl (by decide +kernel) (no (by decide) (tt_eqN (h := "repeat") rfl (by decide +kernel) (no (by decide) (tt_eqY rfl (yes rfl (?_))))))))))
        refine ixT rfl hS at1 (.inl ⟨rfl, _, rfl, ?_⟩)
        have tupT : ∀ {q1 q2 : Addr} {ys : List V} {ks : List Tm} {H1 : Hp}, Same H H1 → SqT K H1 q1 [u] → SqT K H1 q2 ys → DTs K H1 ys (ks.map Tm.d) → ks.length ≤ 1 → Bt nm m n (p :: ks) → ∀ {Q2 Q3 : VK}, (∀ v' t' H', Same H H' → DT K H' v' t'.d → Rm nm pp (n + 1) t' → (p.bd = false → t' ≠ .done) → Q2 v' H') → (∀ x H3, sp_begun_then K m [x, .ref pt, .ref hd] H3 Q2 E0 → Q3 x H3) →
            uAdd K (.ref q1) (.ref q2) H1 Q3 := fun {q1 q2 ys ks H1} s1 h1 h2 h3 h4 h5 {Q2 Q3} kk k3 =>
          catT h1 h2 (by rw [kids_len h3]; simp; omega) fun q3 H3 s3 h6 => k3 _ _ ⟨q3, pt, hd, _, p :: ks, nm, pp, rn, n, rfl, hc, h6, .cons ((s1.trans s3).dt hu) (s3.dts h3), h5, by simp; omega, by omega, (s1.trans s3).tup hP, (s1.trans s3).hold hH, fun v' t' H' s' hd' hr' hb' => kk v' t' H' (s1.trans (s3.trans s')) hd' hr' fun e => hb' ⟨p, by simp, e⟩⟩
        by_cases hi : i = 1
        · subst hi
          rw [decide_eq_true rfl]
          refine yes rfl ⟨small (by simp), fun q1 hq1 => ?_⟩
          have s1 := Same.new (o := .tup []) hq1
          refine ixT rfl (s1.tup hS) at2 ⟨small (by simp), fun q2 hq2 => ⟨_, rfl, ?_⟩⟩
          have s2 := s1.trans (Same.new (o := .tup [u]) hq2)
          exact tupT s2 (SqT.of upd_same) ((Same.new hq2).tup (SqT.of upd_same)) .nil (by simp) (ks := []) (.last hp (by omega) (by omega)) k fun x H3 h => ⟨_, rfl, _, rfl, h⟩
        · rw [decide_eq_false fun e => hi (V.int.inj e)]
          refine no (by decide) (ixT rfl hS at1 ⟨_, _, rfl, rfl, ixT rfl hS at2 ⟨small (by simp), fun q1 hq1 => ⟨small (by simp), fun q2 hq2 => ?_⟩⟩⟩)
          have s1 := Same.new (o := .tup [.str "repeat", .int (i - 1), u]) hq1
          have s2 := s1.trans (Same.new (o := .tup [.ref q1]) hq2)
          refine ixT rfl (s2.tup hS) at2 ⟨small (by simp), fun q3 hq3 => ⟨_, rfl, ?_⟩⟩
          have s3 := s2.trans (Same.new (o := .tup [u]) hq3)
          have hd1 : DT K (upd (upd (upd H q1 (.tup [.str "repeat", .int (i - 1), u])) q2 (.tup [.ref q1])) q3 (.tup [u])) (.ref q1) (Tm.rep (i - 1) p).d := .tup (((Same.new hq2).trans (Same.new hq3)).tup (SqT.of upd_same)) (.cons (.str _) (.cons (.int _) (.cons (s3.dt hu) .nil)))
          have hst1 : St nm (n + 1) (.rep (i - 1) p) := .rep (by omega) (by omega) hp
          refine tupT s3 (SqT.of upd_same) ((Same.new hq3).tup (SqT.of upd_same)) (.cons hd1 .nil) (by simp) (ks := [.rep (i - 1) p]) (.thr hp (by omega) (Nat.le_refl _) hst1 rfl fun _ => .last hst1 ?_ (Nat.le_refl _)) k fun x H3 h => ⟨_, rfl, _, rfl, h⟩
          show 4 * (n + 1) + (i - 1).toNat ≤ m
          omega
      | @ever n p hp hb =>
        obtain ⟨a, u, rfl, hS, hu⟩ := tm_ever hD
        refine ixT rfl hS at0 ?_
        have := hp.times
        have hm' : 4 * (n + 1) + 0 ≤ m + 1 := hm
        refine tt_eqN (h := "forever") rfl (by decide +kernel) (no (by decide) (tt_eqN (h := "forever") rfl (by decide +kernel) (no (by decide) (tt_inG (h := "forever") (b := false) (groups_at T _) rfl (by decide +kernel) (no (by decide) (tt_eqN (h := "forever") rfl (by decide +kernel) (no (by decide) (tt_eqN (h := "forever") rfl (by decide +kernel) (no (by decide) (tt_eqY rfl (yes rfl (?_))))))))))))
        refine ixT rfl hS at1 ⟨_, rfl, small (by simp), fun q hq => ⟨_, rfl, _, rfl, ?_⟩⟩
        have s1 := Same.new (o := .tup [u, .ref a]) hq
        refine ⟨q, pt, hd, _, [p, .ever p], nm, pp, rn, n, rfl, hc, SqT.of upd_same, .cons (s1.dt hu) (.cons (s1.dt hD) .nil), .thr hp (by omega) (Nat.le_refl _) (.ever hp hb) rfl (fun e => by rw [hb] at e; cases e), by simp, by omega, s1.tup hP, s1.hold hH, fun v' t' H' s' hd' hr' hb' => ?_⟩
        exact k v' t' H' (s1.trans s') hd' hr' fun _ => hb' ⟨p, by simp, hb⟩
end
end DD
namespace DD
open PySem PySem.Spec
open PyProof.Rows L2
section
variable {base : Heap} {mg : Str → Option Value} {K : PySem.W.Frag} {w : World} {P : Program}
/-! ### continued -/
def sp_continued (K : PySem.W.Frag) (m : Nat) : Sp := fun vs H Q _ => ∃ (v : V) (b pt hd : Addr) (us : List V) (t1 : Tm) (ks : List Tm) (nm pp rn : List Str) (N : Nat), vs = [v, .ref b, .ref pt, .ref hd] ∧ Cn nm pp rn ∧ DT K H v t1.d ∧ Rm nm pp (N + 1) t1 ∧ SqT K H b us ∧ DTs K H us (ks.map Tm.d) ∧ Bt nm m N ks ∧ ks.length ≤ 2 ∧
  (ks ≠ [] → Rm nm pp (N + 1) (.grp .thn (t1 :: ks))) ∧ N ≤ 12 ∧ SqT K H pt (pp.map V.str) ∧ HoldAt H hd rn pp ∧ ∀ v' t' H', Same H H' → DT K H' v' t'.d → Rm nm pp (N + 1) t' → Q v' H'
theorem ok_continued (T : Txt w K mg) (m : Nat) : FnOk P w K mg base CX0 (2 * m + 5) (a_continued K) (fdOf K (a_continued K)) ps_continued (sp_continued K m) := by
  have G_begun_then := then_of (P := P) (base := base) T (ok_begun T m)
  refine ok0 T.f_continued sc_continued (fun vs H Q E h => ?_) (fun cdv A outer s H vs Q E hr h => ?_)
  · obtain ⟨_, _, _, _, _, _, _, _, _, _, _, rfl, _⟩ := h; rfl
  · obtain ⟨v, b, pt, hd, us, t1, ks, nm, pp, rn, N, rfl, hc, hD, hR, hB, hU, hbt, hl, h2, hN, hP, hH, k⟩ := h
    have hU64 := hr.units
    have hr_begun_then := hr
    refine ⟨_, (pss_cons (ps_if (pt_cmpR (k_eq K hU64) (pv 0) (pe_cR rfl T.g_DONE) (nomark _)) (pss_one (ps_ret (pe_call G_begun_then hr_begun_then rfl T.g_begun_then T.k_begun_then T.b_begun_then .nil pass0 (pa_cons (pv 1) (pa_cons (pv 2) (pa_cons (pv 3) pa_nil)))))) pss_nil) (pss_one (ps_ret (pe_ifExp (PW.pt (pw_or (pt_cmpR (k_eq K hU64) (pe_ix (k_ix K) (pv 0) pe_int (fun _ _ => rfl)) pe_str (nomark _)) (pw_or1 (pt_cmpR (k_eq K hU64) (pv 1) (pe_tup pa_nil) (nomark _))))) (pv 0) (pe_tup (pa_cons pe_str (pa_cons (pe_op (k_add K) (pe_tup (pa_cons (pv 0) pa_nil)) (pv 1)) pa_nil))))))), ?_⟩
    refine ⟨_, rfl, eq_done T hD (hR.tx hc.pk) (by omega) ⟨_, rfl, ?_⟩⟩
    cases ed : t1.isDone with
    | true =>
      exact yes rfl ⟨_, rfl, _, rfl, _, rfl, b, pt, hd, us, ks, nm, pp, rn, N, rfl, hc, hB, hU, hbt, by omega, hN, hP, hH, fun v' t' H' s' hd' hr' _ => k v' t' H' s' hd' hr'⟩
    | false =>
      exact no (by decide) (joinE hc.pk (N := N) hN rfl rfl hD hB hU hbt.st hl hR h2 fun v' t' H' s' hd' hr' _ => k v' t' H' s' hd' hr')
/-! ### in_force -/
theorem force_len {nm pp : List Str} : ∀ {n : Nat} {t : Tm}, Rm nm pp n t → t.force.length ≤ 3 ^ n := by
  intro n t h
  have one : ∀ n : Nat, 1 ≤ 3 ^ n := fun n => Nat.one_le_pow _ _ (by omega)
  induction h with
  | done => exact Nat.zero_le _
  | breach => exact Nat.zero_le _
  | wait => exact one _
  | duty => exact one _
  | dutyE => exact one _
  | may => exact one _
  | whn => exact one _
  | whnE => exact one _
  | thn _ _ _ _ ih => rw [Nat.pow_succ]; simp only [Tm.force, forceHd]; omega
  | thr _ _ _ ih => rw [Nat.pow_succ]; simp only [Tm.force, forceHd]; omega
  | @grp n g ks hg h1 h2 hk ih =>
    have e : (Tm.grp g ks).force = ks.flatMap Tm.force := by cases g <;> first | exact absurd rfl hg | exact forceAll_eq ks
    rw [e, Nat.pow_succ, Nat.mul_comm]
    have key : ∀ {l : List Tm}, (∀ t ∈ l, t.force.length ≤ 3 ^ n) → (l.flatMap Tm.force).length ≤ l.length * 3 ^ n := by
      intro l
      induction l with
      | nil => intro _; simp
      | cons t r ihl =>
        intro h
        have a := h t (by simp)
        have b := ihl fun x hx => h x (by simp [hx])
        rw [List.flatMap_cons, List.length_append, List.length_cons, Nat.succ_mul]
        omega
    exact Nat.le_trans (key ih) (Nat.mul_le_mul_right _ h2)
  | til _ _ _ ih => rw [Nat.pow_succ]; simp only [Tm.force]; omega
theorem force_leaf {nm pp : List Str} : ∀ {n : Nat} {t : Tm}, Rm nm pp n t → ∀ x ∈ t.force, x.leaf = true ∧ Rm nm pp n x := by
  intro n t h
  induction h with
  | done => exact fun x hx => nomatch hx
  | breach => exact fun x hx => nomatch hx
  | wait h1 h2 => exact all1 ⟨rfl, .wait h1 h2⟩
  | duty hw ha h1 h2 => exact all1 ⟨rfl, .duty hw ha h1 h2⟩
  | dutyE hw ha h1 h2 ho => exact all1 ⟨rfl, .dutyE hw ha h1 h2 ho⟩
  | may hw ha h1 h2 => exact all1 ⟨rfl, .may hw ha h1 h2⟩
  | whn hw ha h1 h2 hp => exact all1 ⟨rfl, .whn hw ha h1 h2 hp⟩
  | whnE hw ha h1 h2 hp ho => exact all1 ⟨rfl, .whnE hw ha h1 h2 hp ho⟩
  | thn _ _ _ _ ih => exact fun x hx => ⟨(ih x hx).1, (ih x hx).2.up⟩
  | thr _ _ _ ih => exact fun x hx => ⟨(ih x hx).1, (ih x hx).2.up⟩
  | @grp n g ks hg h1 h2 hk ih =>
    have e : (Tm.grp g ks).force = ks.flatMap Tm.force := by cases g <;> first | exact absurd rfl hg | exact forceAll_eq ks
    rw [e]
    intro x hx
    obtain ⟨t, ht, hx⟩ := List.mem_flatMap.mp hx
    exact ⟨(ih t ht x hx).1, (ih t ht x hx).2.up⟩
  | til _ _ _ ih => exact fun x hx => ⟨(ih x hx).1, (ih x hx).2.up⟩
def sp_in_force (K : PySem.W.Frag) (n : Nat) : Sp := fun vs H Q _ => ∃ (v : V) (t : Tm) (nm pp : List Str), vs = [v] ∧ DT K H v t.d ∧ Rm nm pp n t ∧ ∀ l us H', Same H H' → H l = none → H' l = some (.lst us) → DTs K H' us (t.force.map Tm.d) → Q (.ref l) H'
theorem dts_flat {H : Hp} : ∀ {yss : List (List V)} {ks : List Tm}, yss.length = ks.length → (∀ (i : Nat) ys, yss[i]? = some ys → ∃ t, ks[i]? = some t ∧ DTs K H ys (t.force.map Tm.d)) → DTs K H yss.flatten ((ks.flatMap Tm.force).map Tm.d)
  | [], [], _, _ => .nil
  | [], _ :: _, h, _ => (nomatch h)
  | _ :: _, [], h, _ => (nomatch h)
  | ys :: r, t :: q, h, f => by
    obtain ⟨t', e, hd⟩ := f 0 ys rfl
    cases e
    rw [List.flatten_cons, List.flatMap_cons, List.map_append]
    exact dps_append hd (dts_flat (by simpa using h) fun i ys e => f (i + 1) ys e)
theorem ok_in_force (T : Txt w K mg) : ∀ n, n ≤ 6 → FnOk P w K mg base CX0 (n + 2) (a_in_force K) (fdOf K (a_in_force K)) ps_in_force (sp_in_force K n) := by
  have G_is_over := ok_is_over (P := P) (base := base) T
  intro n
  induction n with
  | zero =>
    intro _
    refine ok0 T.f_in_force sc_in_force (fun vs H Q E h => ?_) (fun cdv A outer s H vs Q E hr h => ?_)
    · obtain ⟨v, t, _, _, rfl, _⟩ := h; rfl
    · obtain ⟨v, t, nm, pp, rfl, hD, hst, k⟩ := h
      cases hst
  | succ n ih =>
    intro hn
    have G_in_force := ih (by omega)
    refine ok0 T.f_in_force sc_in_force (fun vs H Q E h => ?_) (fun cdv A outer s H vs Q E hr h => ?_)
    · obtain ⟨v, t, _, _, rfl, _⟩ := h; rfl
    · obtain ⟨v, t, nm, pp, rfl, hD, hst, k⟩ := h
      have hU64 := hr.units
      have hr_in_force := hr
      have hr_is_over : Room 1 _ := hr.mono (by omega)
      refine ⟨_, (pss_cons (ps_set (i := 1) sc_in_force.nd rfl (Or.inl rfl) (pe_ix (k_ix K) (pv 0) pe_int (fun _ _ => rfl))) (pss_cons (ps_if (pt_cmpR (k_eq K hU64) (pv 1) pe_str (nomark _)) (pss_one (ps_ret (pe_call G_in_force hr_in_force rfl T.g_in_force T.k_in_force T.b_in_force .nil pass0 (pa_cons (pe_ix (k_ix K) (pe_ix (k_ix K) (pv 0) pe_int (fun _ _ => rfl)) pe_int (fun _ _ => rfl)) pa_nil)))) pss_nil) (pss_cons (ps_if (pt_cmpR (k_in K) (pv 1) (pe_cR rfl T.g_GROUPS) (by rfl)) (pss_one (ps_ret (pe_lc2 (own := [("kid", 2), ("part", 3)]) (vs1 := [3]) (by rfl) sc_in_force.nd (k_piT K (pe_ix (k_ix K) (pv 0) pe_int (fun _ _ => rfl))) (blkOk_by (own := [("kid", 2), ("part", 3)]) (N := N_in_force) (sc := defScope s_in_force) (by decide +kernel)) (by decide) (fun _ _ _ _ _ => (pg_name (i := 2) sc_in_force.nd rfl (Or.inl rfl) (Or.inr rfl))) (fun _ _ _ _ _ => pts_nil) (fun _ _ _ _ _ => (k_piL K (pe_call G_in_force hr_in_force rfl T.g_in_force T.k_in_force T.b_in_force .nil pass0 (pa_cons (pv 2) pa_nil)))) (fun _ _ _ _ _ => (pg_name (i := 3) sc_in_force.nd rfl (Or.inl rfl) (Or.inr rfl))) (fun _ _ _ _ _ => pts_nil) (fun _ _ _ _ _ => (pv 3))))) pss_nil) (pss_cons (ps_if (pt_cmpR (k_eq K hU64) (pv 1) pe_str (nomark _)) (pss_one (ps_ret (pe_call G_in_force hr_in_force rfl T.g_in_force T.k_in_force T.b_in_force .nil pass0 (pa_cons (pe_ix (k_ix K) (pv 0) pe_int (fun _ _ => rfl)) pa_nil)))) pss_nil) (pss_one (ps_ret (pe_ifExp (pt_val (pe_call G_is_over hr_is_over rfl T.g_is_over T.k_is_over T.b_is_over .nil pass0 (pa_cons (pv 0) pa_nil))) (pe_lst pa_nil) (pe_lst (pa_cons (pv 0) pa_nil))))))))), ?_⟩
      have S := Same.refl H
      have k0 : ∀ {H'}, Same H H' → t.force = [] → ∀ p, H' p = none → Q (.ref p) (upd H' p (.lst [])) := fun s e p hp => k p [] _ (s.trans (Same.new hp)) (s.free hp) upd_same (by rw [e]; exact .nil)
      have k1 : ∀ {H'}, Same H H' → t.force = [t] → ∀ p, H' p = none → Q (.ref p) (upd H' p (.lst [v])) := fun s e p hp => k p [v] _ (s.trans (Same.new hp)) (s.free hp) upd_same (by rw [e]; exact .cons ((s.trans (Same.new hp)).dt hD) .nil)
      have p3 : 3 ^ n ≤ 243 := Nat.le_trans (Nat.pow_le_pow_right (by omega) (show n ≤ 5 by omega)) (by decide)
      have fin : ∀ {a : Addr} {h : Str} {r : List V}, v = .ref a → SqT K H a (.str h :: r) → h = t.hd → (t.over = true → t.force = []) → (t.over = false → t.force = [t]) → ∀ {H1 : Hp}, Same H H1 → tIf (tB (tCall (sp_is_over K) [] E0 (tCons (tVar 0) tNil))) (tLst tNil) (tLst (tCons (tVar 0) tNil)) [some v, some (.str h), none, none] H1 Q :=
        fun {a h r} e hS eh f1 f2 {H1} s1 => by
          subst e
          refine ⟨_, rfl, a, h, r, rfl, s1.tup hS, fun H2 s2 => ⟨_, rfl, ?_⟩⟩
          rw [eh, over_hd]
          refine ite2 (fun c => ⟨small (by simp), k0 (s1.trans s2) (f1 c)⟩) (fun c => ⟨_, rfl, small (by simp), k1 (s1.trans s2) (f2 (Bool.not_eq_true _ ▸ c))⟩)
      cases hst with
      | done =>
        obtain ⟨a, rfl, hS⟩ := tm_done hD
        refine ixT rfl hS at0 ?_
        refine tt_eqN (h := "done") rfl (by decide +kernel) (no (by decide) (tt_inG (h := "done") (b := false) (groups_at T _) rfl (by decide +kernel) (no (by decide) (tt_eqN (h := "done") rfl (by decide +kernel) (no (by decide) (?_))))))
        exact fin rfl hS rfl (fun _ => rfl) (fun e => nomatch e) S
      | breach =>
        obtain ⟨a, b, rfl, hS, hB⟩ := tm_breach hD
        refine ixT rfl hS at0 ?_
        refine tt_eqN (h := "breach") rfl (by decide +kernel) (no (by decide) (tt_inG (h := "breach") (b := false) (groups_at T _) rfl (by decide +kernel) (no (by decide) (tt_eqN (h := "breach") rfl (by decide +kernel) (no (by decide) (?_))))))
        exact fin rfl hS rfl (fun _ => rfl) (fun e => nomatch e) S
      | wait =>
        obtain ⟨a, rfl, hS⟩ := tm_wait hD
        refine ixT rfl hS at0 ?_
        refine tt_eqN (h := "wait") rfl (by decide +kernel) (no (by decide) (tt_inG (h := "wait") (b := false) (groups_at T _) rfl (by decide +kernel) (no (by decide) (tt_eqN (h := "wait") rfl (by decide +kernel) (no (by decide) (?_))))))
        exact fin rfl hS rfl (fun e => nomatch e) (fun _ => rfl) S
      | @duty n b =>
        obtain ⟨a, rfl, hS⟩ := tm_duty hD
        refine ixT rfl hS at0 ?_
        refine tt_eqN (h := dutyS b) rfl (by cases b <;> decide +kernel) (no (by decide) (tt_inG (h := dutyS b) (b := false) (groups_at T _) rfl (by cases b <;> decide +kernel) (no (by decide) (tt_eqN (h := dutyS b) rfl (by cases b <;> decide +kernel) (no (by decide) (?_))))))
        exact fin rfl hS rfl (fun e => nomatch e) (fun _ => rfl) S
      | @dutyE n b =>
        obtain ⟨a, u, rfl, hS, hu⟩ := tm_dutyE hD
        refine ixT rfl hS at0 ?_
        refine tt_eqN (h := dutyS b) rfl (by cases b <;> decide +kernel) (no (by decide) (tt_inG (h := dutyS b) (b := false) (groups_at T _) rfl (by cases b <;> decide +kernel) (no (by decide) (tt_eqN (h := dutyS b) rfl (by cases b <;> decide +kernel) (no (by decide) (?_))))))
        exact fin rfl hS rfl (fun e => nomatch e) (fun _ => rfl) S
      | may =>
        obtain ⟨a, rfl, hS⟩ := tm_may hD
        refine ixT rfl hS at0 ?_
        refine tt_eqN (h := "may") rfl (by decide +kernel) (no (by decide) (tt_inG (h := "may") (b := false) (groups_at T _) rfl (by decide +kernel) (no (by decide) (tt_eqN (h := "may") rfl (by decide +kernel) (no (by decide) (?_))))))
        exact fin rfl hS rfl (fun e => nomatch e) (fun _ => rfl) S
      | whn =>
        obtain ⟨a, u, rfl, hS, hu⟩ := tm_whn hD
        refine ixT rfl hS at0 ?_
        refine tt_eqN (h := "when") rfl (by decide +kernel) (no (by decide) (tt_inG (h := "when") (b := false) (groups_at T _) rfl (by decide +kernel) (no (by decide) (tt_eqN (h := "when") rfl (by decide +kernel) (no (by decide) (?_))))))
        exact fin rfl hS rfl (fun e => nomatch e) (fun _ => rfl) S
      | whnE =>
        obtain ⟨a, u, y, rfl, hS, hu, hy⟩ := tm_whnE hD
        refine ixT rfl hS at0 ?_
        refine tt_eqN (h := "when") rfl (by decide +kernel) (no (by decide) (tt_inG (h := "when") (b := false) (groups_at T _) rfl (by decide +kernel) (no (by decide) (tt_eqN (h := "when") rfl (by decide +kernel) (no (by decide) (?_))))))
        exact fin rfl hS rfl (fun e => nomatch e) (fun _ => rfl) S
      | @thn n f r hf h1 h2 hr2 =>
        obtain ⟨a, b, us, rfl, hS, hB, hU⟩ := tm_grp hD
        refine ixT rfl hS at0 ?_
        refine tt_eqY rfl (yes rfl (?_))
        obtain ⟨u, r2, rfl, q1, q2⟩ := dts_cons hU
        exact ixT rfl hS at1 (.inr (.inl ⟨b, _, 0, u, rfl, rfl, hB, at0, u, f, nm, pp, rfl, q1, hf, fun l us H' s' hl hl1 hus => k l us H' s' hl hl1 hus⟩))
      | @thr n f kk hf hk hi =>
        obtain ⟨a, b, us, rfl, hS, hB, hU⟩ := tm_grp hD
        refine ixT rfl hS at0 ?_
        refine tt_eqY rfl (yes rfl (?_))
        obtain ⟨u, r2, rfl, q1, q2⟩ := dts_cons hU
        exact ixT rfl hS at1 (.inr (.inl ⟨b, _, 0, u, rfl, rfl, hB, at0, u, f, nm, pp, rfl, q1, hf, fun l us H' s' hl hl1 hus => k l us H' s' hl hl1 hus⟩))
      | @grp n g ks hg h1 h2 hks =>
        obtain ⟨a, b, us, rfl, hS, hB, hU⟩ := tm_grp hD
        refine ixT rfl hS at0 ?_
        have hul := kids_len hU
        refine tt_eqN (h := g.str) rfl (by cases g <;> first | exact absurd rfl hg | decide +kernel) (no (by decide) (tt_inG (h := g.str) (b := true) (groups_at T _) rfl (by cases g <;> first | exact absurd rfl hg | decide +kernel) (yes rfl (?_))))
        have e : (Tm.grp g ks).force = ks.flatMap Tm.force := by cases g <;> first | exact absurd rfl hg | exact forceAll_eq ks
        rw [e] at k
        refine ixT rfl hS at1 ⟨b, rfl, ⟨_, hB⟩, fun D hD0 => ?_⟩
        refine lc2_g (walk_tup (xs := us)) (fun i vs H' => ∃ t, ks[i]? = some t ∧ DTs K H' vs (t.force.map Tm.d)) (by rintro i o H H' kk ⟨t, a, b⟩; exact ⟨t, a, kk.dts b⟩) hD0 (by omega) (fun H2 s2 => s2.tup hB) ?_ ?_
        · rintro i x H2 H3 Kin Kf hi s2 ⟨accD, hDl⟩ ⟨rfl, e⟩ kf kin
          obtain ⟨t, ht, hd0⟩ := kid_at (s2.dts hU) e
          have hRt := hks t (List.mem_of_getElem? ht)
          refine ⟨rfl, _, rfl, x, t, nm, pp, rfl, hd0, hRt, fun l us2 H4 s4 hl0 hl hus => ?_⟩
          have hll : us2.length = t.force.length := kids_len hus
          have := force_len hRt
          refine ⟨l, rfl, ⟨_, SqL.of hl⟩, kin _ _ _ _ _ _ (fun j v H' => ∃ f, t.force[j]? = some f ∧ DT K H' v f.d) s4 (walk_list (xs := us2)) (by omega) ?_ (by rintro i o H H' kk ⟨t, a, b⟩; exact ⟨t, a, kk.dt b⟩) ?_ ?_⟩
          · exact fun H5 b5 => b5.lst (fun z => by rw [z, hDl] at hl0; cases hl0) hl
          · rintro j y H5 H6 Kt hj b5 ⟨rfl, e⟩ kt
            have hDl4 := s4 _ _ hDl
            obtain ⟨f, hf, hdf⟩ := kid_at (((b5.kt fun u q => by rw [hDl4] at q; cases q; rfl)).dts hus) e
            exact ⟨rfl, _, rfl, kt _ _ (Same.refl _) ⟨f, hf, hdf⟩⟩
          · intro ys H5 b5 hyl hy
            refine ⟨t, ht, dts_of (by rw [hyl, hll, List.length_map]) fun i v d e1 e2 => ?_⟩
            obtain ⟨f, hf, hdf⟩ := hy i v e1
            rw [List.getElem?_map, hf] at e2
            cases e2
            exact hdf
        · intro yss H2 s2 hl2 hy hD2
          exact k D _ H2 s2 hD0 hD2 (dts_flat (by rw [hl2, hul]) hy)
      | @til n p ww aa hp hw ha =>
        obtain ⟨a, u, rfl, hS, hu⟩ := tm_til hD
        refine ixT rfl hS at0 ?_
        refine tt_eqN (h := "until") rfl (by decide +kernel) (no (by decide) (tt_inG (h := "until") (b := false) (groups_at T _) rfl (by decide +kernel) (no (by decide) (tt_eqY rfl (yes rfl (?_))))))
        exact ixT rfl hS at1 ⟨u, p, nm, pp, rfl, hu, hp, k⟩
end
end DD
namespace DD
open PySem PySem.Spec
open PyProof.Rows L2
section
variable {base : Heap} {mg : Str → Option Value} {K : PySem.W.Frag} {w : World} {P : Program}
/-! ### events -/
inductive Ev where
  | act (p a : Str)
  | hands (p r q : Str)
  | day
def Ev.ws : Ev → List Str
  | .act p a => ["act", p, a]
  | .hands p r q => ["hands", p, r, q]
  | .day => ["day"]
def Ev.d (e : Ev) : PyData := .tuple (e.ws.map pS)
def EvOk (pp rn : List Str) : Ev → Prop
  | .act p a => p ∈ pp ∧ wordB a = true
  | .hands p r q => p ∈ pp ∧ r ∈ rn ∧ q ∈ pp
  | .day => True
theorem ev_at {H : Hp} {v : V} {e : Ev} (h : DT K H v e.d) : ∃ a, v = .ref a ∧ SqT K H a (e.ws.map V.str) := by
  obtain ⟨b, us, rfl, hS, q⟩ := dt_tup h
  rw [strs_of q] at hS
  exact ⟨b, rfl, hS⟩
theorem ev_mk {H : Hp} {a : Addr} {e : Ev} (h : SqT K H a (e.ws.map V.str)) : DT K H (.ref a) e.d := .tup h (dps_strs _)
/-! ### matches -/
def sp_matches (K : PySem.W.Frag) : Sp := fun vs H Q _ => ∃ (x a : Str) (wv : V) (hd : Addr) (e : Ev) (pp rn : List Str), vs = [.str x, .str a, wv, .ref hd] ∧ DT K H wv e.d ∧ HoldAt H hd rn pp ∧ ∀ b H', Same H H' → Q (.bl b) H'
theorem eqS {x y : Str} {H : Hp} {Q : VK} (q : ∀ b, Q (.bl b) H) : uEq K (.str x) (.str y) H Q := .inl ⟨rfl, q _⟩
theorem ok_matches (T : Txt w K mg) : FnOk P w K mg base CX0 2 (a_matches K) (fdOf K (a_matches K)) ps_matches (sp_matches K) := by
  have G_is_anyone := ok_is_anyone (P := P) (base := base) T
  refine ok0 T.f_matches sc_matches (fun vs H Q E h => ?_) (fun cdv A outer s H vs Q E hr h => ?_)
  · obtain ⟨_, _, _, _, _, _, _, rfl, _⟩ := h; rfl
  · obtain ⟨x, a, wv, hd, e, pp, rn, rfl, hW, hH, k⟩ := h
    have hU64 := hr.units
    have hU1 := hu_of hr
    have hr_is_anyone := hr
    refine ⟨_, (pss_cons (ps_if (PW.pt (pw_or (pt_cmpR (k_ne K hU64) (pe_ix (k_ix K) (pv 2) pe_int (fun _ _ => rfl)) (pe_cS rfl T.z_ACT) (nomark _)) (pw_or1 (pt_cmpR (k_ne K hU64) (pe_ix (k_ix K) (pv 2) pe_int (fun _ _ => rfl)) (pv 1) (nomark _))))) (pss_one (ps_ret pe_bl)) pss_nil) (pss_one (ps_ret (pe_or (pe_call G_is_anyone hr_is_anyone rfl T.g_is_anyone T.k_is_anyone T.b_is_anyone .nil pass0 (pa_cons (pv 0) pa_nil)) (pe_one (pe_cmpR (k_eq K hU64) (pe_ix (k_ix K) (pv 2) pe_int (fun _ _ => rfl)) (pe_ifExp (pt_cmp (pc_din hU1 (pv 0) (pv 3))) (pe_dget hU1 (pv 3) (pv 0) (fun _ _ => rfl)) (pv 0)) (nomark _))))))), ?_⟩
    obtain ⟨b, rfl, hS⟩ := ev_at hW
    cases e with
    | hands p r q => exact tt_hnY (h := "hands") rfl hS (by decide +kernel) (yes rfl (yes rfl (k _ _ (Same.refl H))))
    | day => exact tt_hnY (h := "day") rfl hS (by decide +kernel) (yes rfl (yes rfl (k _ _ (Same.refl H))))
    | act p c =>
      refine tt_hnN rfl hS (no (by decide) (ixT rfl hS at2 ⟨_, rfl, .inl ⟨rfl, _, rfl, ite2 (fun c => ?_) (fun c => ?_)⟩⟩))
      · exact k _ _ (Same.refl H)
      · refine ⟨_, rfl, x, rfl, fun H1 s1 => ⟨_, rfl, ite2 (fun c => k _ _ s1) (fun c => ?_)⟩⟩
        refine ixT rfl (s1.tup hS) at1 ?_
        have hg := hold_get (s1.hold hH) (x := x)
        by_cases hx : x ∈ rn
        · obtain ⟨y, hy, g⟩ := hg.1 hx
          exact ⟨_, rfl, _, rfl, hd, _, rfl, g, _, rfl, yes rfl ⟨_, rfl, _, rfl, hd, _, rfl, g, eqS fun b => k b _ s1⟩⟩
        · exact ⟨_, rfl, _, rfl, hd, _, rfl, hg.2 hx, _, rfl, no (by simp) ⟨_, rfl, eqS fun b => k b _ s1⟩⟩
/-! ### is_permitted -/
theorem hd_may (t : Tm) : (∃ x a k, t = .may x a k) ∨ ¬ t.hd = "may" := by
  have g : ∀ z : Str, ¬ z = "may" → t.hd = z → ¬ t.hd = "may" := fun z h e => by rw [e]; exact h
  cases t with
  | may x a k => exact .inl ⟨x, a, k, rfl⟩
  | duty b => exact .inr (g (dutyS b) (by cases b <;> decide +kernel) rfl)
  | dutyE b => exact .inr (g (dutyS b) (by cases b <;> decide +kernel) rfl)
  | grp b => exact .inr (g b.str (by cases b <;> decide +kernel) rfl)
  | done => exact .inr (g "done" (by decide +kernel) rfl)
  | wait => exact .inr (g "wait" (by decide +kernel) rfl)
  | breach => exact .inr (g "breach" (by decide +kernel) rfl)
  | whn => exact .inr (g "when" (by decide +kernel) rfl)
  | whnE => exact .inr (g "when" (by decide +kernel) rfl)
  | til => exact .inr (g "until" (by decide +kernel) rfl)
  | rep => exact .inr (g "repeat" (by decide +kernel) rfl)
  | ever => exact .inr (g "forever" (by decide +kernel) rfl)
def sp_is_permitted (K : PySem.W.Frag) : Sp := fun vs H Q _ => ∃ (v wv : V) (hd : Addr) (t : Tm) (e : Ev) (nm pp rn : List Str) (n : Nat), vs = [v, wv, .ref hd] ∧ DT K H v t.d ∧ Rm nm pp n t ∧ n ≤ 6 ∧ DT K H wv e.d ∧ HoldAt H hd rn pp ∧ ∀ b H', Same H H' → Q (.bl b) H'
theorem tandv_eq {σ : L2.St} {H : Hp} {i : Nat} {a : Addr} {h z : Str} {r : List V} {R : TE} {Q : VK} (hσ : σ[i]? = some (some (.ref a))) (hS : SqT K H a (.str h :: r)) (q1 : h = z → R σ H Q) (q2 : ¬ h = z → Q (.bl false) H) : tAndV (tOp (uEq K) (tOp (rIx K) (tVar i) (tC (.int 0))) (tC (.str z))) R σ H Q :=
  hd_at hσ hS (.inl ⟨rfl, _, rfl, by
    by_cases e : h = z
    · rw [decide_eq_true (by rw [e])]; exact yes rfl (q1 e)
    · rw [decide_eq_false fun x => e (V.str.inj x)]; exact no (by decide) (q2 e)⟩)
theorem ok_is_permitted (T : Txt w K mg) : FnOk P w K mg base CX0 9 (a_is_permitted K) (fdOf K (a_is_permitted K)) ps_is_permitted (sp_is_permitted K) := by
  have G_in_force := ok_in_force (P := P) (base := base) T 6 (Nat.le_refl _)
  have G_matches := ok_matches (P := P) (base := base) T
  refine ok0 T.f_is_permitted sc_is_permitted (fun vs H Q E h => ?_) (fun cdv A outer s H vs Q E hr h => ?_)
  · obtain ⟨_, _, _, _, _, _, _, _, _, rfl, _⟩ := h; rfl
  · obtain ⟨v, wv, hd, t, e, nm, pp, rn, n, rfl, hD, hR, hn, hW, hH, k⟩ := h
    have hU64 := hr.units
    have hr_in_force : Room 8 _ := hr
    have hr_matches : Room 2 _ := hr.mono (by omega)
    refine ⟨_, (pss_one (ps_ret (pe_callB (k_any K rfl) (by rfl) T.n_any (by decide +kernel) (pa_cons (pe_lc (own := [("part", 3)]) (by rfl) sc_is_permitted.nd (k_piL K (pe_call G_in_force hr_in_force rfl T.g_in_force T.k_in_force T.b_in_force .nil pass0 (pa_cons (pv 0) pa_nil))) (blkOk_by (own := [("part", 3)]) (N := N_is_permitted) (sc := defScope s_is_permitted) (by decide +kernel)) (fun _ _ _ _ _ => (pg_name (i := 3) sc_is_permitted.nd rfl (Or.inl rfl) (Or.inr rfl))) (fun _ _ _ _ _ => pts_nil) (fun _ _ _ _ _ => (pe_and (pe_cmpR (k_eq K hU64) (pe_ix (k_ix K) (pv 3) pe_int (fun _ _ => rfl)) pe_str (nomark _)) (pe_one (pe_call G_matches hr_matches rfl T.g_matches T.k_matches T.b_matches .nil pass0 (pa_cons (pe_ix (k_ix K) (pv 3) pe_int (fun _ _ => rfl)) (pa_cons (pe_ix (k_ix K) (pv 3) pe_int (fun _ _ => rfl)) (pa_cons (pv 1) (pa_cons (pv 2) pa_nil))))))))) pa_nil)))), ?_⟩
    refine ⟨_, rfl, v, t, nm, pp, rfl, hD, hR.mono hn, fun l us H1 s1 hl0 hl hus => ⟨l, rfl, ⟨_, SqL.of hl⟩, fun D hD0 => ?_⟩⟩
    have hul := kids_len hus
    have hfl := force_len (hR.mono hn)
    have : (3 : Nat) ^ 6 ≤ 1000 := by decide
    refine lc_n (walk_list (xs := us)) (fun i v _ => ∃ b, v = .bl b) (fun i o H H' _ h => h) hD0 (by omega) (fun H2 s2 => s2.lst (SqL.of hl)) ?_ ?_
    · rintro i x H2 H3 Kt hi s2 ⟨rfl, e1⟩ kk
      obtain ⟨f, hf, hdf⟩ := kid_at (s2.dts hus) e1
      obtain ⟨a, ts, rfl, hS, hts⟩ := tm_at hdf
      refine ⟨rfl, ?_⟩
      rcases hd_may f with ⟨x, c, i0, rfl⟩ | hne
      · obtain ⟨a', e2, hS⟩ := tm_may hdf
        cases e2
        refine tandv_eq rfl hS (fun _ => ?_) fun e => absurd rfl e
        exact ixT rfl hS at1 (ixT rfl hS at2 ⟨_, rfl, _, rfl, x, c, wv, hd, e, pp, rn, rfl, (s1.trans s2).dt hW, (s1.trans s2).hold hH, fun b H4 s4 => kk _ _ s4 ⟨b, rfl⟩⟩)
      · exact tandv_eq rfl hS (fun e => absurd e hne) fun _ => kk _ _ (Same.refl _) ⟨_, rfl⟩
    · intro ys H2 s2 hl2 hy hD2
      obtain ⟨bs, rfl, _⟩ := pickL V.bl ys (fun i b => True) fun i y e => let ⟨b, e1⟩ := hy i y e; ⟨b, e1, trivial⟩
      exact ⟨D, bs, rfl, SqL.of hD2, k _ H2 (s1.trans s2)⟩
end
end DD
namespace DD
open PySem PySem.Spec
open PyProof.Rows L2
section
variable {base : Heap} {mg : Str → Option Value} {K : PySem.W.Frag} {w : World} {P : Program}
/-! ### Step -/
def stepF (wv : V) (pt hd : Addr) (b : Bool) : List (Str × V) := [("own_words", wv), ("own_parties", .ref pt), ("own_holders", .ref hd), ("is_let", .bl b)]
def sp_Step_init (K : PySem.W.Frag) : Sp := fun vs H Q _ => ∃ (x dx : Addr) (wv : V) (pt hd : Addr) (b : Bool), vs = [.ref x, wv, .ref pt, .ref hd, .bl b] ∧ H x = some (.ins (c_Step K) dx []) ∧ ∀ H', But x H H' → H' x = some (.ins (c_Step K) dx (stepF wv pt hd b)) → Q .non H'
theorem ok_Step_init (T : Txt w K mg) : FnOk P w K mg base CX0 1 (a_Step_init K) (fdOf K (a_Step_init K)) ps_Step_init (sp_Step_init K) := by
  refine ok0 T.f_Step_init sc_Step_init (fun vs H Q E h => ?_) (fun cdv A outer s H vs Q E hr h => ?_)
  · obtain ⟨_, _, _, _, _, _, rfl, _⟩ := h; rfl
  · obtain ⟨x, dx, wv, pt, hd, b, rfl, hx, k⟩ := h
    refine ⟨_, (pss_cons (ps_fld (pv 0) (pv 1) rfl) (pss_cons (ps_fld (pv 0) (pv 2) rfl) (pss_cons (ps_fld (pv 0) (pv 3) rfl) (pss_one (ps_fld (pv 0) (pv 4) rfl))))), ?_⟩
    refine ⟨_, rfl, _, rfl, x, _, dx, [], rfl, hx, T.cl_Step, T.no_Step_own_words, by decide, ?_⟩
    refine ⟨_, rfl, _, rfl, x, _, dx, [("own_words", wv)], rfl, upd_same, T.cl_Step, T.no_Step_own_parties, by simp, ?_⟩
    refine ⟨_, rfl, _, rfl, x, _, dx, [("own_words", wv), ("own_parties", .ref pt)], rfl, upd_same, T.cl_Step, T.no_Step_own_holders, by simp, ?_⟩
    refine ⟨_, rfl, _, rfl, x, _, dx, [("own_words", wv), ("own_parties", .ref pt), ("own_holders", .ref hd)], rfl, upd_same, T.cl_Step, T.no_Step_is_let, by simp, ?_⟩
    exact k _ (((But.upd.trans But.upd).trans But.upd).trans But.upd) upd_same
def StepAt (K : PySem.W.Frag) (H : Hp) (a : Addr) (e : Ev) (nm pp rn : List Str) : Prop := Cn nm pp rn ∧ EvOk pp rn e ∧ ∃ dx wv pt hd b, H a = some (.ins (c_Step K) dx (stepF wv pt hd b)) ∧ DT K H wv e.d ∧ SqT K H pt (pp.map V.str) ∧ HoldAt H hd rn pp
theorem _root_.L2.Same.step {H H' : Hp} {a : Addr} {e : Ev} {nm pp rn : List Str} (s : Same H H') (h : StepAt K H a e nm pp rn) : StepAt K H' a e nm pp rn := by
  obtain ⟨h1, h2, dx, wv, pt, hd, b, h3, h4, h5, h6⟩ := h
  exact ⟨h1, h2, dx, wv, pt, hd, b, s _ _ h3, s.dt h4, s.tup h5, s.hold h6⟩
theorem is_non {v : V} {t : Tm} {H : Hp} (h : DT K H v t.d) : decide (v = .non) = false := by
  obtain ⟨a, rfl⟩ := dt_ref h
  simp
def sp_Step_begin (K : PySem.W.Frag) : Sp := fun vs H Q _ => ∃ (a : Addr) (v : V) (e : Ev) (nm pp rn : List Str) (n : Nat), vs = [.ref a, v] ∧ StepAt K H a e nm pp rn ∧ 1 ≤ n ∧ n ≤ 8 ∧ (v = .non ∨ ∃ t, DT K H v t.d ∧ St nm n t) ∧ ∀ v' t' H', Same H H' → DT K H' v' t'.d → Rm nm pp n t' → Q v' H'
theorem ok_Step_begin (T : Txt w K mg) : FnOk P w K mg base CX0 84 (a_Step_begin K) (fdOf K (a_Step_begin K)) ps_Step_begin (sp_Step_begin K) := by
  have G_begun := ok_begun (P := P) (base := base) T 40
  refine ok0 T.f_Step_begin sc_Step_begin (fun vs H Q E h => ?_) (fun cdv A outer s H vs Q E hr h => ?_)
  · obtain ⟨_, _, _, _, _, _, _, rfl, _⟩ := h; rfl
  · obtain ⟨a, v, e, nm, pp, rn, n, rfl, ⟨hc, he, dx, wv, pt, hd, b, hA, hW, hP, hH⟩, h1, h8, hv, k⟩ := h
    have hr_begun : Room 83 _ := hr
    refine ⟨_, (pss_one (ps_ret (pe_ifExp (pt_cmpR op_isN (pv 1) pe_non (nomark _)) (pe_cR rfl T.g_DONE) (pe_call G_begun hr_begun rfl T.g_begun T.k_begun T.b_begun .nil pass0 (pa_cons (pv 1) (pa_cons (k_fld K (pv 0) rfl) (pa_cons (k_fld K (pv 0) rfl) pa_nil))))))), ?_⟩
    rcases hv with rfl | ⟨t, hD, hst⟩
    · refine ⟨_, rfl, rfl, _, rfl, yes (by decide) ?_⟩
      obtain ⟨n', rfl⟩ : ∃ n', n = n' + 1 := ⟨n - 1, by omega⟩
      exact k _ .done H (Same.refl H) (done_dt T H) .done
    · refine ⟨_, rfl, rfl, _, rfl, ?_⟩
      rw [is_non hD]
      have := hst.times
      refine no (by decide) ⟨_, rfl, _, rfl, a, _, dx, _, .ref pt, rfl, hA, T.cl_Step, T.no_Step_own_parties, rfl, _, rfl, a, _, dx, _, .ref hd, rfl, hA, T.cl_Step, T.no_Step_own_holders, rfl, ?_⟩
      exact ⟨v, pt, hd, t, nm, pp, rn, n, rfl, hc, hD, hst, by omega, by omega, hP, hH, fun v' t' H' s' hd' hr' _ => k v' t' H' s' hd' hr'⟩
def sp_Step_is_act_of (K : PySem.W.Frag) : Sp := fun vs H Q _ => ∃ (a : Addr) (x c : Str) (e : Ev) (nm pp rn : List Str), vs = [.ref a, .str x, .str c] ∧ StepAt K H a e nm pp rn ∧ ∀ b H', Same H H' → Q (.bl b) H'
theorem ok_Step_is_act_of (T : Txt w K mg) : FnOk P w K mg base CX0 3 (a_Step_is_act_of K) (fdOf K (a_Step_is_act_of K)) ps_Step_is_act_of (sp_Step_is_act_of K) := by
  have G_matches := ok_matches (P := P) (base := base) T
  refine ok0 T.f_Step_is_act_of sc_Step_is_act_of (fun vs H Q E h => ?_) (fun cdv A outer s H vs Q E hr h => ?_)
  · obtain ⟨_, _, _, _, _, _, _, rfl, _⟩ := h; rfl
  · obtain ⟨a, x, c, e, nm, pp, rn, rfl, ⟨hc, he, dx, wv, pt, hd, b, hA, hW, hP, hH⟩, k⟩ := h
    have hr_matches := hr
    refine ⟨_, (pss_one (ps_ret (pe_call G_matches hr_matches rfl T.g_matches T.k_matches T.b_matches .nil pass0 (pa_cons (pv 1) (pa_cons (pv 2) (pa_cons (k_fld K (pv 0) rfl) (pa_cons (k_fld K (pv 0) rfl) pa_nil))))))), ?_⟩
    refine ⟨_, rfl, _, rfl, _, rfl, a, _, dx, _, wv, rfl, hA, T.cl_Step, T.no_Step_own_words, rfl, _, rfl, a, _, dx, _, .ref hd, rfl, hA, T.cl_Step, T.no_Step_own_holders, rfl, ?_⟩
    exact ⟨x, c, wv, hd, e, pp, rn, rfl, hW, hH, k⟩
/-! ### after_day -/
theorem ixLast {σ : L2.St} {H : Hp} {i : Nat} {a : Addr} {xs : List V} {v : V} {Q : VK} (hσ : σ[i]? = some (some (.ref a))) (hS : SqT K H a xs) (e : atI xs (-1) = some v) (q : Q v H) : tOp (rIx K) (tVar i) (tUn (rU fun i => .int (-i)) (tC (.int 1))) σ H Q := ⟨_, hσ, _, rfl, .inr (.inl ⟨a, _, -1, _, rfl, rfl, hS, e, q⟩)⟩
theorem dayLess {σ : L2.St} {H : Hp} {c : Addr} {h ww x : Str} {i : Int} {r : List V} {Q : VK} (h1 : σ[1]? = some (some (.ref c))) (h2 : σ[2]? = some (some (.int i))) (hS : SqT K H c (.str h :: .str ww :: .str x :: .int i :: r)) (hr : r.length ≤ 2)
    (k : ∀ q H', Same H H' → SqT K H' q (.str h :: .str ww :: .str x :: .int (i - 1) :: r) → Q (.ref q) H') :
    tOp (uAdd K) (tOp (uAdd K) (tSl (uSl K) (tVar 1) tNoPart (tPart (tC (.int 3)))) (tTup (tCons (tOp (rI0 fun i j => .int (i - j)) (tVar 2) (tC (.int 1))) tNil))) (tSl (uSl K) (tVar 1) (tPart (tC (.int 4))) tNoPart) σ H Q := by
  refine ⟨_, h1, _, rfl, .inr ⟨c, _, rfl, hS, fun z => ?_, fun _ p hp => ?_⟩⟩
  · have q := z.2
    rw [show (3 : Int) = ((3 : Nat) : Int) from rfl, HT.sIx_nat] at q
    simp only [List.length_cons] at q
    omega
  rw [show (3 : Int) = ((3 : Nat) : Int) from rfl, cut_to _ _ (by simp)]
  have s1 := Same.new (o := .tup (List.take 3 (.str h :: .str ww :: .str x :: .int i :: r))) hp
  refine ⟨_, h2, _, _, rfl, rfl, small (by simp), fun p2 hp2 => ?_⟩
  have s2 := s1.trans (Same.new (o := .tup [.int (i - 1)]) hp2)
  refine catT ((Same.new hp2).tup (SqT.of upd_same)) (SqT.of upd_same) (by simp) fun p3 H3 s3 hp3 => ?_
  refine ⟨_, h1, _, rfl, .inr ⟨c, _, rfl, (s2.trans s3).tup hS, fun z => ?_, fun _ p4 hp4 => ?_⟩⟩
  · have q := z.1
    rw [show (4 : Int) = ((4 : Nat) : Int) from rfl, HT.sIx_nat] at q
    simp only [List.length_cons] at q
    omega
  rw [show (4 : Int) = ((4 : Nat) : Int) from rfl, cut_from _ _ (by simp)]
  have s4 := Same.new (o := .tup (List.drop 4 (.str h :: .str ww :: .str x :: .int i :: r))) hp4
  refine catT (s4.tup hp3) (SqT.of upd_same) (by simp; omega) fun p5 H5 s5 hp5 => k p5 H5 (s2.trans (s3.trans (s4.trans s5))) (by simpa using hp5)
def sp_Step_after_day (K : PySem.W.Frag) : Sp := fun vs H Q _ => ∃ (a : Addr) (v : V) (e : Ev) (t : Tm) (nm pp rn : List Str) (n : Nat), vs = [.ref a, v] ∧ StepAt K H a e nm pp rn ∧ DT K H v t.d ∧ Rm nm pp n t ∧ t.leaf = true ∧ n ≤ 8 ∧ ∀ v' t' H', Same H H' → DT K H' v' t'.d → Rm nm pp n t' → Q v' H'
theorem ok_Step_after_day (T : Txt w K mg) : FnOk P w K mg base CX0 85 (a_Step_after_day K) (fdOf K (a_Step_after_day K)) ps_Step_after_day (sp_Step_after_day K) := by
  have G_Step_begin := ok_Step_begin (P := P) (base := base) T
  have G_breach_of := ok_breach_of (P := P) (base := base) T
  have G_parties_of := ok_parties_of (P := P) (base := base) T
  refine ok0 T.f_Step_after_day sc_Step_after_day (fun vs H Q E h => ?_) (fun cdv A outer s H vs Q E hr h => ?_)
  · obtain ⟨_, _, _, _, _, _, _, _, rfl, _⟩ := h; rfl
  · obtain ⟨a, v, e, t, nm, pp, rn, n, rfl, hSt, hD, hR, hlf, hn, k⟩ := h
    obtain ⟨hc, he, dx, wv, pt, hd, b, hA, hW, hP, hH⟩ := id hSt
    have hU64 := hr.units
    have hr_Step_begin : Room 84 _ := hr
    have hr_breach_of : Room 1 _ := hr.mono (by omega)
    have hr_parties_of : Room 2 _ := hr.mono (by omega)
    refine ⟨_, (pss_cons (ps_set (i := 2) sc_Step_after_day.nd rfl (Or.inl rfl) (pe_ifExp (pt_cmpR (k_eq K hU64) (pe_ix (k_ix K) (pv 1) pe_int (fun _ _ => rfl)) pe_str (nomark _)) (pe_ix (k_ix K) (pv 1) pe_int (fun _ _ => rfl)) (pe_ix (k_ix K) (pv 1) pe_int (fun _ _ => rfl)))) (pss_cons (ps_if (pt_cmpR op_gt (pv 2) pe_int (nomark _)) (pss_one (ps_ret (pe_ifExp (pt_cmpR (k_eq K hU64) (pe_ix (k_ix K) (pv 1) pe_int (fun _ _ => rfl)) pe_str (nomark _)) (pe_tup (pa_cons pe_str (pa_cons (pe_op op_sub (pv 2) pe_int) pa_nil))) (pe_op (k_add K) (pe_op (k_add K) (pe_slice (k_sl K) (pv 1) po_none (po_some pe_int)) (pe_tup (pa_cons (pe_op op_sub (pv 2) pe_int) pa_nil))) (pe_slice (k_sl K) (pv 1) (po_some pe_int) po_none))))) pss_nil) (pss_cons (ps_if (PW.pt (pw_and (pt_cmpR (k_eq K hU64) (pe_ix (k_ix K) (pv 1) pe_int (fun _ _ => rfl)) pe_str (nomark _)) (pw_and1 (pt_cmpR op_isN (pe_ix (k_ix K) (pv 1) pe_int (fun _ _ => rfl)) pe_non (nomark _))))) (pss_one (ps_ret (pe_call G_breach_of hr_breach_of rfl T.g_breach_of T.k_breach_of T.b_breach_of .nil pass0 (pa_cons (pe_call G_parties_of hr_parties_of rfl T.g_parties_of T.k_parties_of T.b_parties_of .nil pass0 (pa_cons (pe_ix (k_ix K) (pv 1) pe_int (fun _ _ => rfl)) (pa_cons (k_fld K (pv 0) rfl) (pa_cons (k_fld K (pv 0) rfl) pa_nil)))) pa_nil)))) pss_nil) (pss_one (ps_ret (pe_ifExp (pt_cmpR (k_in K) (pe_ix (k_ix K) (pv 1) pe_int (fun _ _ => rfl)) (pe_tup (pa_cons pe_str (pa_cons pe_str pa_nil))) (by rfl)) (pe_meth (pv 0) T.cl_Step T.m_Step_begin G_Step_begin hr_Step_begin T.b_Step_begin .nil pass0 (pa_cons (pe_ix (k_ix K) (pv 1) (pe_un un_neg pe_int) (fun _ _ => rfl)) pa_nil)) (pe_cR rfl T.g_DONE))))))), ?_⟩
    have S := Same.refl H
    cases hR with
    | @wait n i h1 h2 =>
      obtain ⟨c, rfl, hS⟩ := tm_wait hD
      refine tt_hdY rfl hS (yes rfl (ixT rfl hS at1 ⟨_, rfl, _, _, rfl, rfl, _, rfl, ite2 (fun c1 => ?_) (fun c1 => ?_)⟩))
      · refine tt_hdY rfl hS (yes rfl ⟨_, rfl, _, _, rfl, rfl, small (by simp), fun q hq => ?_⟩)
        have := of_decide_eq_true c1
        exact k _ (.wait (i - 1)) _ (Same.new hq) (.tup (SqT.of upd_same) (.cons (.str _) (.cons (.int _) .nil))) (.wait (by omega) (by omega))
      · refine tt_hdN (h := "wait") rfl hS (by decide +kernel) (no (by decide) (no (by decide) ?_))
        refine tt_hinW (h := "wait") (b := false) ["must", "when"] (by decide) rfl (S.tup hS) (by decide +kernel) (fun Hs1 ss1 => no (by decide) (?_))
        have S := (S.trans ss1)
        exact k _ .done _ S (done_dt T _) .done
    | @duty n b ww x i hw hx h1 h2 =>
      obtain ⟨c, rfl, hS⟩ := tm_duty hD
      refine tt_hdN (h := dutyS b) rfl hS (by cases b <;> decide +kernel) (no (by decide) (ixT rfl hS at3 ⟨_, rfl, _, _, rfl, rfl, _, rfl, ite2 (fun c1 => ?_) (fun c1 => ?_)⟩))
      · have := of_decide_eq_true c1
        refine tt_hdN (h := dutyS b) rfl hS (by cases b <;> decide +kernel) (no (by decide) ?_)
        exact dayLess rfl rfl hS (by simp) fun q H' s' hq => k _ (.duty b ww x (i - 1)) _ s' (.tup hq (.cons (.str _) (.cons (.str _) (.cons (.str _) (.cons (.int _) (.cons .non .nil)))))) (.duty hw hx (by omega) (by omega))
      · cases b with
        | true =>
          refine tt_hdY rfl hS (yes rfl (ixT rfl hS at4 ⟨rfl, _, rfl, yes (by decide) ?_⟩))
          refine ixT rfl hS at1 ⟨_, rfl, a, _, dx, _, .ref pt, rfl, hA, T.cl_Step, T.no_Step_own_parties, rfl, _, rfl, a, _, dx, _, .ref hd, rfl, hA, T.cl_Step, T.no_Step_own_holders, rfl, ?_⟩
          refine ⟨ww, pt, hd, nm, pp, rn, rfl, hc, hw, hP, hH, fun l ws H1 s1 hl0 hl hne hl3 hsub => ?_⟩
          exact ⟨l, ws, rfl, SqL.of hl, by omega, fun v' ps H2 s2 hd2 nd hm => k v' _ H2 (s1.trans s2) hd2 (rm_breach nd hm hne hsub)⟩
        | false =>
          refine tt_hdN (h := "ban") rfl hS (by decide +kernel) (no (by decide) (no (by decide) ?_))
          refine tt_hinW (h := "ban") (b := false) ["must", "when"] (by decide) rfl (S.tup hS) (by decide +kernel) (fun Hs1 ss1 => no (by decide) (?_))
          have S := (S.trans ss1)
          exact k _ .done _ S (done_dt T _) .done
    | @dutyE n b ww x i o hw hx h1 h2 ho =>
      obtain ⟨c, u, rfl, hS, hu⟩ := tm_dutyE hD
      refine tt_hdN (h := dutyS b) rfl hS (by cases b <;> decide +kernel) (no (by decide) (ixT rfl hS at3 ⟨_, rfl, _, _, rfl, rfl, _, rfl, ite2 (fun c1 => ?_) (fun c1 => ?_)⟩))
      · have := of_decide_eq_true c1
        refine tt_hdN (h := dutyS b) rfl hS (by cases b <;> decide +kernel) (no (by decide) ?_)
        exact dayLess rfl rfl hS (by simp) fun q H' s' hq => k _ (.dutyE b ww x (i - 1) o) _ s' (.tup hq (.cons (.str _) (.cons (.str _) (.cons (.str _) (.cons (.int _) (.cons (s'.dt hu) .nil)))))) (.dutyE hw hx (by omega) (by omega) ho)
      · cases b with
        | true =>
          have hz := is_non hu
          refine tt_hdY rfl hS (yes rfl (ixT rfl hS at4 ⟨rfl, _, rfl, ?_⟩))
          rw [hz]
          refine no (by decide) ?_
          refine tt_hinW (h := "must") (b := true) ["must", "when"] (by decide) rfl (S.tup hS) (by decide +kernel) (fun Hs1 ss1 => yes rfl (?_))
          have S := (S.trans ss1)
          have := ho.pos
          exact ⟨_, rfl, a, dx, _, rfl, S _ _ hA, rfl, ixLast rfl (S.tup hS) rfl ⟨a, u, e, nm, pp, rn, n, rfl, S.step hSt, by omega, by omega, .inr ⟨o, S.dt hu, ho⟩, fun v' t' H' s' hd' hr' => k v' t' H' (S.trans s') hd' hr'.up⟩⟩
        | false =>
          refine tt_hdN (h := "ban") rfl hS (by decide +kernel) (no (by decide) (no (by decide) ?_))
          refine tt_hinW (h := "ban") (b := false) ["must", "when"] (by decide) rfl (S.tup hS) (by decide +kernel) (fun Hs1 ss1 => no (by decide) (?_))
          have S := (S.trans ss1)
          exact k _ .done _ S (done_dt T _) .done
    | @may n ww x i hw hx h1 h2 =>
      obtain ⟨c, rfl, hS⟩ := tm_may hD
      refine tt_hdN (h := "may") rfl hS (by decide +kernel) (no (by decide) (ixT rfl hS at3 ⟨_, rfl, _, _, rfl, rfl, _, rfl, ite2 (fun c1 => ?_) (fun c1 => ?_)⟩))
      · have := of_decide_eq_true c1
        refine tt_hdN (h := "may") rfl hS (by decide +kernel) (no (by decide) ?_)
        exact dayLess rfl rfl hS (by simp) fun q H' s' hq => k _ (.may ww x (i - 1)) _ s' (.tup hq (.cons (.str _) (.cons (.str _) (.cons (.str _) (.cons (.int _) .nil))))) (.may hw hx (by omega) (by omega))
      · refine tt_hdN (h := "may") rfl hS (by decide +kernel) (no (by decide) (no (by decide) ?_))
        refine tt_hinW (h := "may") (b := false) ["must", "when"] (by decide) rfl (S.tup hS) (by decide +kernel) (fun Hs1 ss1 => no (by decide) (?_))
        have S := (S.trans ss1)
        exact k _ .done _ S (done_dt T _) .done
    | @whn n ww x i p hw hx h1 h2 hp =>
      obtain ⟨c, u, rfl, hS, hu⟩ := tm_whn hD
      refine tt_hdN (h := "when") rfl hS (by decide +kernel) (no (by decide) (ixT rfl hS at3 ⟨_, rfl, _, _, rfl, rfl, _, rfl, ite2 (fun c1 => ?_) (fun c1 => ?_)⟩))
      · have := of_decide_eq_true c1
        refine tt_hdN (h := "when") rfl hS (by decide +kernel) (no (by decide) ?_)
        exact dayLess rfl rfl hS (by simp) fun q H' s' hq => k _ (.whn ww x (i - 1) p) _ s' (.tup hq (.cons (.str _) (.cons (.str _) (.cons (.str _) (.cons (.int _) (.cons (s'.dt hu) (.cons .non .nil))))))) (.whn hw hx (by omega) (by omega) hp)
      · refine tt_hdN (h := "when") rfl hS (by decide +kernel) (no (by decide) (no (by decide) ?_))
        refine tt_hinW (h := "when") (b := true) ["must", "when"] (by decide) rfl (S.tup hS) (by decide +kernel) (fun Hs1 ss1 => yes rfl (?_))
        have S := (S.trans ss1)
        have := hp.pos
        exact ⟨_, rfl, a, dx, _, rfl, S _ _ hA, rfl, ixLast rfl (S.tup hS) rfl ⟨a, .non, e, nm, pp, rn, n, rfl, S.step hSt, by omega, by omega, .inl rfl, fun v' t' H' s' hd' hr' => k v' t' H' (S.trans s') hd' hr'.up⟩⟩
    | @whnE n ww x i p o hw hx h1 h2 hp ho =>
      obtain ⟨c, u, y, rfl, hS, hu, hy⟩ := tm_whnE hD
      refine tt_hdN (h := "when") rfl hS (by decide +kernel) (no (by decide) (ixT rfl hS at3 ⟨_, rfl, _, _, rfl, rfl, _, rfl, ite2 (fun c1 => ?_) (fun c1 => ?_)⟩))
      · have := of_decide_eq_true c1
        refine tt_hdN (h := "when") rfl hS (by decide +kernel) (no (by decide) ?_)
        exact dayLess rfl rfl hS (by simp) fun q H' s' hq => k _ (.whnE ww x (i - 1) p o) _ s' (.tup hq (.cons (.str _) (.cons (.str _) (.cons (.str _) (.cons (.int _) (.cons (s'.dt hu) (.cons (s'.dt hy) .nil))))))) (.whnE hw hx (by omega) (by omega) hp ho)
      · refine tt_hdN (h := "when") rfl hS (by decide +kernel) (no (by decide) (no (by decide) ?_))
        refine tt_hinW (h := "when") (b := true) ["must", "when"] (by decide) rfl (S.tup hS) (by decide +kernel) (fun Hs1 ss1 => yes rfl (?_))
        have S := (S.trans ss1)
        have := ho.pos
        exact ⟨_, rfl, a, dx, _, rfl, S _ _ hA, rfl, ixLast rfl (S.tup hS) rfl ⟨a, y, e, nm, pp, rn, n, rfl, S.step hSt, by omega, by omega, .inr ⟨o, S.dt hy, ho⟩, fun v' t' H' s' hd' hr' => k v' t' H' (S.trans s') hd' hr'.up⟩⟩
    | _ => cases hlf
end
end DD
namespace DD
open PySem PySem.Spec
open PyProof.Rows L2
section
variable {base : Heap} {mg : Str → Option Value} {K : PySem.W.Frag} {w : World} {P : Program}
/-! ### after_act -/
def sp_Step_after_act (K : PySem.W.Frag) : Sp := fun vs H Q _ => ∃ (a : Addr) (v : V) (p0 a0 : Str) (t : Tm) (nm pp rn : List Str) (n : Nat), vs = [.ref a, v] ∧ StepAt K H a (.act p0 a0) nm pp rn ∧ DT K H v t.d ∧ Rm nm pp n t ∧ t.leaf = true ∧ n ≤ 8 ∧ ∀ v' t' H', Same H H' → DT K H' v' t'.d → Rm nm pp n t' → Q v' H'
theorem ok_Step_after_act (T : Txt w K mg) : FnOk P w K mg base CX0 85 (a_Step_after_act K) (fdOf K (a_Step_after_act K)) ps_Step_after_act (sp_Step_after_act K) := by
  have G_Step_begin := ok_Step_begin (P := P) (base := base) T
  have G_breach_of := ok_breach_of (P := P) (base := base) T
  refine ok0 T.f_Step_after_act sc_Step_after_act (fun vs H Q E h => ?_) (fun cdv A outer s H vs Q E hr h => ?_)
  · obtain ⟨_, _, _, _, _, _, _, _, _, rfl, _⟩ := h; rfl
  · obtain ⟨a, v, p0, a0, t, nm, pp, rn, n, rfl, hSt, hD, hR, hlf, hn, k⟩ := h
    obtain ⟨hc, he, dx, wv, pt, hd, b0, hA, hW, hP, hH⟩ := id hSt
    have hU64 := hr.units
    have hr_Step_begin : Room 84 _ := hr
    have hr_breach_of : Room 1 _ := hr.mono (by omega)
    refine ⟨_, (pss_cons (ps_if (pt_cmpR (k_eq K hU64) (pe_ix (k_ix K) (pv 1) pe_int (fun _ _ => rfl)) pe_str (nomark _)) (pss_one (ps_ret (pe_meth (pv 0) T.cl_Step T.m_Step_begin G_Step_begin hr_Step_begin T.b_Step_begin .nil pass0 (pa_cons (pe_ix (k_ix K) (pv 1) pe_int (fun _ _ => rfl)) pa_nil)))) pss_nil) (pss_cons (ps_if (pt_cmpR (k_ne K hU64) (pe_ix (k_ix K) (pv 1) pe_int (fun _ _ => rfl)) pe_str (nomark _)) (pss_one (ps_ret (pe_cR rfl T.g_DONE))) pss_nil) (pss_cons (ps_if (pt_val (k_fld K (pv 0) rfl)) (pss_one (ps_ret (pv 1))) pss_nil) (pss_one (ps_ret (pe_ifExp (pt_cmpR op_isN (pe_ix (k_ix K) (pv 1) pe_int (fun _ _ => rfl)) pe_non (nomark _)) (pe_call G_breach_of hr_breach_of rfl T.g_breach_of T.k_breach_of T.b_breach_of .nil pass0 (pa_cons (pe_lst (pa_cons (pe_ix (k_ix K) (k_fld K (pv 0) rfl) pe_int (fun _ _ => rfl)) pa_nil)) pa_nil)) (pe_meth (pv 0) T.cl_Step T.m_Step_begin G_Step_begin hr_Step_begin T.b_Step_begin .nil pass0 (pa_cons (pe_ix (k_ix K) (pv 1) pe_int (fun _ _ => rfl)) pa_nil)))))))), ?_⟩
    have S := Same.refl H
    cases hR with
    | @wait n i h1 h2 =>
      obtain ⟨c, rfl, hS⟩ := tm_wait hD
      refine tt_hdN (h := "wait") rfl (S.tup hS) (by decide +kernel) (no (by decide) (tt_hnY (h := "wait") rfl (S.tup hS) (by decide +kernel) (yes rfl (?_))))
      exact k _ .done _ S (done_dt T _) .done
    | @may n ww x i hw hx h1 h2 =>
      obtain ⟨c, rfl, hS⟩ := tm_may hD
      refine tt_hdN (h := "may") rfl (S.tup hS) (by decide +kernel) (no (by decide) (tt_hnY (h := "may") rfl (S.tup hS) (by decide +kernel) (yes rfl (?_))))
      exact k _ .done _ S (done_dt T _) .done
    | @whn n ww x i p hw hx h1 h2 hp =>
      obtain ⟨c, u, rfl, hS, hu⟩ := tm_whn hD
      refine tt_hdY rfl (S.tup hS) (yes rfl (?_))
      have := hp.pos
      exact ⟨_, rfl, a, dx, _, rfl, hA, rfl, ixT rfl hS at4 ⟨a, u, _, nm, pp, rn, n, rfl, hSt, by omega, by omega, .inr ⟨p, hu, hp⟩, fun v' t' H' s' hd' hr' => k v' t' H' s' hd' hr'.up⟩⟩
    | @whnE n ww x i p o hw hx h1 h2 hp ho =>
      obtain ⟨c, u, y, rfl, hS, hu, hy⟩ := tm_whnE hD
      refine tt_hdY rfl (S.tup hS) (yes rfl (?_))
      have := hp.pos
      exact ⟨_, rfl, a, dx, _, rfl, hA, rfl, ixT rfl hS at4 ⟨a, u, _, nm, pp, rn, n, rfl, hSt, by omega, by omega, .inr ⟨p, hu, hp⟩, fun v' t' H' s' hd' hr' => k v' t' H' s' hd' hr'.up⟩⟩
    | @duty n b ww x i hw hx h1 h2 =>
      obtain ⟨c, rfl, hS⟩ := tm_duty hD
      cases b with
      | true =>
        refine tt_hdN (h := "must") rfl (S.tup hS) (by decide +kernel) (no (by decide) (tt_hnY (h := "must") rfl (S.tup hS) (by decide +kernel) (yes rfl (?_))))
        exact k _ .done _ S (done_dt T _) .done
      | false =>
        refine tt_hdN (h := "ban") rfl (S.tup hS) (by decide +kernel) (no (by decide) (tt_hnN rfl (S.tup hS) (no (by decide) (?_))))
        refine ⟨_, rfl, a, _, dx, _, .bl b0, rfl, hA, T.cl_Step, T.no_Step_is_let, rfl, _, rfl, ite2 (fun c1 => ?_) (fun c1 => ?_)⟩
        · exact ⟨_, rfl, k _ (.duty false ww x i) H S hD (.duty hw hx h1 h2)⟩
        · obtain ⟨d, rfl, hWS⟩ := ev_at hW
          refine ixT rfl hS at4 ⟨rfl, _, rfl, yes (by decide) ⟨_, rfl, a, _, dx, _, .ref d, rfl, hA, T.cl_Step, T.no_Step_own_words, rfl, .inr (.inl ⟨d, _, 1, .str p0, rfl, rfl, hWS, at1, small (by simp), fun l hl => ?_⟩)⟩⟩
          have s1 := Same.new (o := .lst [.str p0]) hl
          exact ⟨l, [p0], rfl, SqL.of upd_same, by simp, fun v' ps H2 s2 hd2 nd hm => k v' _ H2 (s1.trans s2) hd2 (rm_breach nd hm (by simp) (all1 he.1))⟩
    | @dutyE n b ww x i o hw hx h1 h2 ho =>
      obtain ⟨c, u, rfl, hS, hu⟩ := tm_dutyE hD
      cases b with
      | true =>
        refine tt_hdN (h := "must") rfl (S.tup hS) (by decide +kernel) (no (by decide) (tt_hnY (h := "must") rfl (S.tup hS) (by decide +kernel) (yes rfl (?_))))
        exact k _ .done _ S (done_dt T _) .done
      | false =>
        refine tt_hdN (h := "ban") rfl (S.tup hS) (by decide +kernel) (no (by decide) (tt_hnN rfl (S.tup hS) (no (by decide) (?_))))
        refine ⟨_, rfl, a, _, dx, _, .bl b0, rfl, hA, T.cl_Step, T.no_Step_is_let, rfl, _, rfl, ite2 (fun c1 => ?_) (fun c1 => ?_)⟩
        · exact ⟨_, rfl, k _ (.dutyE false ww x i o) H S hD (.dutyE hw hx h1 h2 ho)⟩
        · have hz := is_non hu
          have := ho.pos
          refine ixT rfl hS at4 ⟨rfl, _, rfl, ?_⟩
          rw [hz]
          refine no (by decide) ⟨_, rfl, a, dx, _, rfl, hA, rfl, ixT rfl hS at4 ⟨a, u, _, nm, pp, rn, n, rfl, hSt, by omega, by omega, .inr ⟨o, hu, ho⟩, fun v' t' H' s' hd' hr' => k v' t' H' s' hd' hr'.up⟩⟩
    | _ => cases hlf
/-! ### after -/
def sp_Step_after (K : PySem.W.Frag) (n : Nat) : Sp := fun vs H Q _ => ∃ (a : Addr) (v : V) (e : Ev) (t : Tm) (nm pp rn : List Str), vs = [.ref a, v] ∧ StepAt K H a e nm pp rn ∧ (∀ p r q, e ≠ .hands p r q) ∧ DT K H v t.d ∧ Rm nm pp n t ∧ ∀ v' t' H', Same H H' → DT K H' v' t'.d → Rm nm pp n t' → Q v' H'
theorem ok_Step_after (T : Txt w K mg) : ∀ n, n ≤ 6 → FnOk P w K mg base CX0 (n + 86) (a_Step_after K) (fdOf K (a_Step_after K)) ps_Step_after (sp_Step_after K n) := by
  have G_is_over := ok_is_over (P := P) (base := base) T
  have G_continued := ok_continued (P := P) (base := base) T 40
  have G_joined_and := ok_joined_and (P := P) (base := base) T
  have G_joined_or := ok_joined_or (P := P) (base := base) T
  have G_until_of := ok_until_of (P := P) (base := base) T
  have G_Step_is_act_of := ok_Step_is_act_of (P := P) (base := base) T
  have G_Step_after_day := ok_Step_after_day (P := P) (base := base) T
  have G_Step_after_act := ok_Step_after_act (P := P) (base := base) T
  intro n
  induction n with
  | zero =>
    intro _
    refine ok0 T.f_Step_after sc_Step_after (fun vs H Q E h => ?_) (fun cdv A outer s H vs Q E hr h => ?_)
    · obtain ⟨_, _, _, _, _, _, _, rfl, _⟩ := h; rfl
    · obtain ⟨a, v, e, t, nm, pp, rn, rfl, _, _, _, hR, _⟩ := h
      cases hR
  | succ n ih =>
    intro hn
    have G_Step_after := ih (by omega)
    refine ok0 (k := n + 86) T.f_Step_after sc_Step_after (fun vs H Q E h => ?_) (fun cdv A outer s H vs Q E hr h => ?_)
    · obtain ⟨_, _, _, _, _, _, _, rfl, _⟩ := h; rfl
    · obtain ⟨a, v, e, t, nm, pp, rn, rfl, hSt, hne, hD, hR, k⟩ := h
      have hU64 := hr.units
      have hr_Step_after := hr
      have hr_is_over : Room 1 _ := hr.mono (by omega)
      have hr_continued : Room 85 _ := hr.mono (by omega)
      have hr_joined_and : Room 2 _ := hr.mono (by omega)
      have hr_joined_or : Room 2 _ := hr.mono (by omega)
      have hr_until_of : Room 2 _ := hr.mono (by omega)
      have hr_Step_is_act_of : Room 3 _ := hr.mono (by omega)
      have hr_Step_after_day : Room 85 _ := hr.mono (by omega)
      have hr_Step_after_act : Room 85 _ := hr.mono (by omega)
      obtain ⟨hc, he, dx, wv, pt, hd, b0, hA, hW, hP, hH⟩ := id hSt
      refine ⟨_, (pss_cons (ps_set (i := 2) sc_Step_after.nd rfl (Or.inl rfl) (pe_ix (k_ix K) (pv 1) pe_int (fun _ _ => rfl))) (pss_cons (ps_if (pt_val (pe_call G_is_over hr_is_over rfl T.g_is_over T.k_is_over T.b_is_over .nil pass0 (pa_cons (pv 1) pa_nil))) (pss_one (ps_ret (pv 1))) pss_nil) (pss_cons (ps_if (pt_cmpR (k_eq K hU64) (pv 2) pe_str (nomark _)) (pss_one (ps_ret (pe_call G_continued hr_continued rfl T.g_continued T.k_continued T.b_continued .nil pass0 (pa_cons (pe_meth (pv 0) T.cl_Step T.m_Step_after G_Step_after hr_Step_after T.b_Step_after .nil pass0 (pa_cons (pe_ix (k_ix K) (pe_ix (k_ix K) (pv 1) pe_int (fun _ _ => rfl)) pe_int (fun _ _ => rfl)) pa_nil)) (pa_cons (pe_slice (k_sl K) (pe_ix (k_ix K) (pv 1) pe_int (fun _ _ => rfl)) (po_some pe_int) po_none) (pa_cons (k_fld K (pv 0) rfl) (pa_cons (k_fld K (pv 0) rfl) pa_nil))))))) pss_nil) (pss_cons (ps_if (pt_cmpR (k_in K) (pv 2) (pe_cR rfl T.g_GROUPS) (by rfl)) (pss_cons (ps_setLc (i := 3) (own := [("kid", 4)]) (by rfl) sc_Step_after.nd rfl rfl (sw_true rfl rfl rfl (by decide +kernel)) (k_piT K (pe_ix (k_ix K) (pv 1) pe_int (fun _ _ => rfl))) (blkOk_by (own := [("kid", 4)]) (N := N_Step_after) (sc := defScope s_Step_after) (by decide +kernel)) (fun _ _ _ _ _ => (pg_name (i := 4) sc_Step_after.nd rfl (Or.inl rfl) (Or.inr rfl))) (fun _ _ _ _ _ => pts_nil) (fun _ _ _ _ _ => (pe_meth (pv 0) T.cl_Step T.m_Step_after G_Step_after hr_Step_after T.b_Step_after .nil pass0 (pa_cons (pv 4) pa_nil)))) (pss_one (ps_ret (pe_ifExp (pt_cmpR (k_eq K hU64) (pv 2) pe_str (nomark _)) (pe_call G_joined_and hr_joined_and rfl T.g_joined_and T.k_joined_and T.b_joined_and .nil pass0 (pa_cons (pv 3) pa_nil)) (pe_call G_joined_or hr_joined_or rfl T.g_joined_or T.k_joined_or T.b_joined_or .nil pass0 (pa_cons (pv 3) pa_nil)))))) pss_nil) (pss_cons (ps_if (pt_cmpR (k_eq K hU64) (pv 2) pe_str (nomark _)) (pss_cons (ps_set (i := 4) sc_Step_after.nd rfl (Or.inl rfl) (pe_meth (pv 0) T.cl_Step T.m_Step_after G_Step_after hr_Step_after T.b_Step_after .nil pass0 (pa_cons (pe_ix (k_ix K) (pv 1) pe_int (fun _ _ => rfl)) pa_nil))) (pss_cons (ps_if (PW.pt (pw_and (pt_cmpR (k_ne K hU64) (pe_ix (k_ix K) (pv 4) pe_int (fun _ _ => rfl)) pe_str (nomark _)) (pw_and1 (pt_val (pe_meth (pv 0) T.cl_Step T.m_Step_is_act_of G_Step_is_act_of hr_Step_is_act_of T.b_Step_is_act_of .nil pass0 (pa_cons (pe_ix (k_ix K) (pv 1) pe_int (fun _ _ => rfl)) (pa_cons (pe_ix (k_ix K) (pv 1) pe_int (fun _ _ => rfl)) pa_nil))))))) (pss_one (ps_ret (pe_cR rfl T.g_DONE))) pss_nil) (pss_one (ps_ret (pe_call G_until_of hr_until_of rfl T.g_until_of T.k_until_of T.b_until_of .nil pass0 (pa_cons (pv 4) (pa_cons (pe_ix (k_ix K) (pv 1) pe_int (fun _ _ => rfl)) (pa_cons (pe_ix (k_ix K) (pv 1) pe_int (fun _ _ => rfl)) pa_nil)))))))) pss_nil) (pss_cons (ps_if (pt_cmpR (k_eq K hU64) (pe_ix (k_ix K) (k_fld K (pv 0) rfl) pe_int (fun _ _ => rfl)) (pe_cS rfl T.z_DAY) (nomark _)) (pss_one (ps_ret (pe_meth (pv 0) T.cl_Step T.m_Step_after_day G_Step_after_day hr_Step_after_day T.b_Step_after_day .nil pass0 (pa_cons (pv 1) pa_nil)))) pss_nil) (pss_one (ps_ret (pe_ifExp (PW.pt (pw_and (pt_cmpR (k_ne K hU64) (pv 2) pe_str (nomark _)) (pw_and1 (pt_val (pe_meth (pv 0) T.cl_Step T.m_Step_is_act_of G_Step_is_act_of hr_Step_is_act_of T.b_Step_is_act_of .nil pass0 (pa_cons (pe_ix (k_ix K) (pv 1) pe_int (fun _ _ => rfl)) (pa_cons (pe_ix (k_ix K) (pv 1) pe_int (fun _ _ => rfl)) pa_nil))))))) (pe_meth (pv 0) T.cl_Step T.m_Step_after_act G_Step_after_act hr_Step_after_act T.b_Step_after_act .nil pass0 (pa_cons (pv 1) pa_nil)) (pv 1)))))))))), ?_⟩
      have S := Same.refl H
      -- a leaf's end
      have lf : ∀ {c : Addr} {r : List V} {hs : Str}, v = .ref c → SqT K H c (.str hs :: r) → hs = t.hd → t.leaf = true → (hs = "wait" ∨ ∃ (ww x : Str) (r' : List V), r = .str ww :: .str x :: r') → ∀ {D : Ends} {H1 : Hp}, D.rt = Q → Same H H1 →
          tSeq (tIfS (tTest (tOp (uEq K) (tOp (rIx K) (tFld K (tVar 0) (Str.ofString "own_words")) (tC (.int 0))) (tC (.str "day")))) (tRet (tMeth (c_Step K) (Str.ofString "after_day") (sp_Step_after_day K) [] E0 (tVar 0) (tCons (tVar 1) tNil))) tNext)
            (tRet (tIf (tAnd (tTest (tOp (uNe K) (tVar 2) (tC (.str "wait")))) (tB (tMeth (c_Step K) (Str.ofString "is_act_of") (sp_Step_is_act_of K) [] E0 (tVar 0) (tCons (tOp (rIx K) (tVar 1) (tC (.int 1))) (tCons (tOp (rIx K) (tVar 1) (tC (.int 2))) tNil)))))
              (tMeth (c_Step K) (Str.ofString "after_act") (sp_Step_after_act K) [] E0 (tVar 0) (tCons (tVar 1) tNil)) (tVar 1))) D [some (.ref a), some v, some (.str hs), none, none] H1 := by
        intro c r hs e0 hS eh hl hwx D H1 eD s1
        obtain ⟨d, rfl, hWS⟩ := ev_at hW
        have hA1 := s1 _ _ hA
        have tail : ∀ p0 a0, e = .act p0 a0 → (tRet (tIf (tAnd (tTest (tOp (uNe K) (tVar 2) (tC (.str "wait")))) (tB (tMeth (c_Step K) (Str.ofString "is_act_of") (sp_Step_is_act_of K) [] E0 (tVar 0) (tCons (tOp (rIx K) (tVar 1) (tC (.int 1))) (tCons (tOp (rIx K) (tVar 1) (tC (.int 2))) tNil)))))
              (tMeth (c_Step K) (Str.ofString "after_act") (sp_Step_after_act K) [] E0 (tVar 0) (tCons (tVar 1) tNil)) (tVar 1))) D [some (.ref a), some v, some (.str hs), none, none] H1 := by
          intro p0 a0 ee
          subst ee
          show tIf _ _ _ _ _ D.rt
          rw [eD]
          by_cases hw : hs = "wait"
          · rw [hw]
            exact tt_neN rfl (no (by decide) (no (by decide) ⟨_, rfl, k v t H1 s1 (s1.dt hD) hR⟩))
          · obtain ⟨ww, x, r', rfl⟩ := hwx.elim (fun z => absurd z hw) id
            subst e0
            refine tt_neY rfl hw (yes rfl ⟨_, rfl, a, dx, _, rfl, hA1, rfl, ixT rfl (s1.tup hS) at1 (ixT rfl (s1.tup hS) at2 ⟨a, ww, x, _, nm, pp, rn, rfl, s1.step hSt, fun b H2 s2 => ⟨_, rfl, ite2 (fun c1 => ?_) (fun c1 => ?_)⟩⟩)⟩)
            · exact ⟨_, rfl, a, dx, _, rfl, s2 _ _ hA1, rfl, _, rfl, a, _, p0, a0, t, nm, pp, rn, _, rfl, (s1.trans s2).step hSt, (s1.trans s2).dt hD, hR, hl, by omega, fun v' t' H' s' hd' hr' => k v' t' H' (s1.trans (s2.trans s')) hd' hr'⟩
            · exact ⟨_, rfl, k _ t H2 (s1.trans s2) ((s1.trans s2).dt hD) hR⟩
        refine ⟨_, rfl, a, _, dx, _, .ref d, rfl, hA1, T.cl_Step, T.no_Step_own_words, rfl, ?_⟩
        cases e with
        | hands p r q => exact absurd rfl (hne p r q)
        | day =>
          refine .inr (.inl ⟨d, _, 0, .str "day", rfl, rfl, s1.tup hWS, at0, .inl ⟨rfl, _, rfl, yes (by decide +kernel) ?_⟩⟩)
          show tMeth _ _ _ _ _ _ _ _ _ D.rt
          rw [eD]
          exact ⟨_, rfl, a, dx, _, rfl, hA1, rfl, _, rfl, a, v, _, t, nm, pp, rn, _, rfl, s1.step hSt, s1.dt hD, hR, hl, by omega, fun v' t' H' s' hd' hr' => k v' t' H' (s1.trans s') hd' hr'⟩
        | act p0 a0 =>
          exact .inr (.inl ⟨d, _, 0, .str "act", rfl, rfl, s1.tup hWS, at0, .inl ⟨rfl, _, rfl, no (by decide +kernel) (tail p0 a0 rfl)⟩⟩)
      obtain ⟨c0, us0, rfl, hS0, hU0⟩ := tm_at hD
      refine ixT rfl hS0 at0 ⟨_, rfl, c0, _, _, rfl, hS0, fun H1 s1 => ⟨_, rfl, ?_⟩⟩
      rw [over_hd]
      have S := s1
      cases hR with
      | done => exact yes rfl ⟨_, rfl, k _ .done H1 S (S.dt hD) .done⟩
      | breach h1 h2 h3 => exact yes rfl ⟨_, rfl, k _ (.breach _) H1 S (S.dt hD) (.breach h1 h2 h3)⟩
      | @wait n i h1 h2 =>
        obtain ⟨c, ec, hS⟩ := tm_wait hD
        cases ec
        refine no (fun z => nomatch z) ?_
        refine tt_eqN (h := "wait") rfl (by decide +kernel) (no (by decide) (tt_inG (h := "wait") (b := false) (groups_at T _) rfl (by decide +kernel) (no (by decide) (tt_eqN (h := "wait") rfl (by decide +kernel) (no (by decide) (?_))))))
        exact lf rfl hS rfl rfl (.inl rfl) rfl S
      | @duty n b ww x i hw hx h1 h2 =>
        obtain ⟨c, ec, hS⟩ := tm_duty hD
        cases ec
        refine no (fun z => nomatch z) ?_
        refine tt_eqN (h := dutyS b) rfl (by cases b <;> decide +kernel) (no (by decide) (tt_inG (h := dutyS b) (b := false) (groups_at T _) rfl (by cases b <;> decide +kernel) (no (by decide) (tt_eqN (h := dutyS b) rfl (by cases b <;> decide +kernel) (no (by decide) (?_))))))
        exact lf rfl hS rfl rfl (.inr ⟨_, _, _, rfl⟩) rfl S
      | @dutyE n b ww x i o hw hx h1 h2 ho =>
        obtain ⟨c, u, ec, hS, hu⟩ := tm_dutyE hD
        cases ec
        refine no (fun z => nomatch z) ?_
        refine tt_eqN (h := dutyS b) rfl (by cases b <;> decide +kernel) (no (by decide) (tt_inG (h := dutyS b) (b := false) (groups_at T _) rfl (by cases b <;> decide +kernel) (no (by decide) (tt_eqN (h := dutyS b) rfl (by cases b <;> decide +kernel) (no (by decide) (?_))))))
        exact lf rfl hS rfl rfl (.inr ⟨_, _, _, rfl⟩) rfl S
      | @may n ww x i hw hx h1 h2 =>
        obtain ⟨c, ec, hS⟩ := tm_may hD
        cases ec
        refine no (fun z => nomatch z) ?_
        refine tt_eqN (h := "may") rfl (by decide +kernel) (no (by decide) (tt_inG (h := "may") (b := false) (groups_at T _) rfl (by decide +kernel) (no (by decide) (tt_eqN (h := "may") rfl (by decide +kernel) (no (by decide) (?_))))))
        exact lf rfl hS rfl rfl (.inr ⟨_, _, _, rfl⟩) rfl S
      | @whn n ww x i p hw hx h1 h2 hp =>
        obtain ⟨c, u, ec, hS, hu⟩ := tm_whn hD
        cases ec
        refine no (fun z => nomatch z) ?_
        refine tt_eqN (h := "when") rfl (by decide +kernel) (no (by decide) (tt_inG (h := "when") (b := false) (groups_at T _) rfl (by decide +kernel) (no (by decide) (tt_eqN (h := "when") rfl (by decide +kernel) (no (by decide) (?_))))))
        exact lf rfl hS rfl rfl (.inr ⟨_, _, _, rfl⟩) rfl S
      | @whnE n ww x i p o hw hx h1 h2 hp ho =>
        obtain ⟨c, u, y, ec, hS, hu, hy⟩ := tm_whnE hD
        cases ec
        refine no (fun z => nomatch z) ?_
        refine tt_eqN (h := "when") rfl (by decide +kernel) (no (by decide) (tt_inG (h := "when") (b := false) (groups_at T _) rfl (by decide +kernel) (no (by decide) (tt_eqN (h := "when") rfl (by decide +kernel) (no (by decide) (?_))))))
        exact lf rfl hS rfl rfl (.inr ⟨_, _, _, rfl⟩) rfl S
      | @thn n f r hf h1 h2 hr2 =>
        obtain ⟨c, b, us, ec, hS, hB, hU⟩ := tm_grp hD
        cases ec
        refine no (fun z => nomatch z) ?_
        refine tt_eqY rfl (yes rfl (?_))
        obtain ⟨u, r2, rfl, q1, q2⟩ := dts_cons hU
        refine ⟨_, rfl, a, dx, _, rfl, S _ _ hA, rfl, ixT rfl (S.tup hS) at1 (.inr (.inl ⟨b, _, 0, u, rfl, rfl, S.tup hB, at0, a, u, e, f, nm, pp, rn, rfl, S.step hSt, hne, S.dt q1, hf, fun v1 t1 H2 s2 hd1 hr1 => ?_⟩))⟩
        have S2 := S.trans s2
        have hl2 := kids_len q2
        refine ixT rfl (S2.tup hS) at1 ⟨_, rfl, .inr ⟨b, _, rfl, S2.tup hB, fun z => ?_, fun _ p hp => ?_⟩⟩
        · have q := z.1
          rw [show (1 : Int) = ((1 : Nat) : Int) from rfl, HT.sIx_nat] at q
          simp only [List.length_cons] at q
          omega
        rw [show (1 : Int) = ((1 : Nat) : Int) from rfl, cut_from _ _ (by simp)]
        have s3 := Same.new (o := .tup (List.drop 1 (u :: r2))) hp
        have S3 := S2.trans s3
        have hA3 := S3 _ _ hA
        refine ⟨_, rfl, a, _, dx, _, .ref pt, rfl, hA3, T.cl_Step, T.no_Step_own_parties, rfl, _, rfl, a, _, dx, _, .ref hd, rfl, hA3, T.cl_Step, T.no_Step_own_holders, rfl, ?_⟩
        exact ⟨v1, p, pt, hd, r2, t1, r, nm, pp, rn, n, rfl, hc, s3.dt hd1, hr1.up, SqT.of upd_same, S3.dts q2, bt_all hr2 (by omega) (by omega), h2, fun _ => .thn hr1 h1 h2 hr2, by omega, S3.tup hP, S3.hold hH, fun v' t' H' s' hd' hr' => k v' t' H' (S3.trans s') hd' hr'⟩
      | @thr n f kk hf hk hi =>
        obtain ⟨c, b, us, ec, hS, hB, hU⟩ := tm_grp hD
        cases ec
        refine no (fun z => nomatch z) ?_
        refine tt_eqY rfl (yes rfl (?_))
        obtain ⟨u, r2, rfl, q1, q2⟩ := dts_cons hU
        refine ⟨_, rfl, a, dx, _, rfl, S _ _ hA, rfl, ixT rfl (S.tup hS) at1 (.inr (.inl ⟨b, _, 0, u, rfl, rfl, S.tup hB, at0, a, u, e, f, nm, pp, rn, rfl, S.step hSt, hne, S.dt q1, hf, fun v1 t1 H2 s2 hd1 hr1 => ?_⟩))⟩
        have S2 := S.trans s2
        have hl2 := kids_len q2
        refine ixT rfl (S2.tup hS) at1 ⟨_, rfl, .inr ⟨b, _, rfl, S2.tup hB, fun z => ?_, fun _ p hp => ?_⟩⟩
        · have q := z.1
          rw [show (1 : Int) = ((1 : Nat) : Int) from rfl, HT.sIx_nat] at q
          simp only [List.length_cons] at q
          omega
        rw [show (1 : Int) = ((1 : Nat) : Int) from rfl, cut_from _ _ (by simp)]
        have s3 := Same.new (o := .tup (List.drop 1 (u :: r2))) hp
        have S3 := S2.trans s3
        have hA3 := S3 _ _ hA
        refine ⟨_, rfl, a, _, dx, _, .ref pt, rfl, hA3, T.cl_Step, T.no_Step_own_parties, rfl, _, rfl, a, _, dx, _, .ref hd, rfl, hA3, T.cl_Step, T.no_Step_own_holders, rfl, ?_⟩
        exact ⟨v1, p, pt, hd, r2, t1, [kk], nm, pp, rn, n, rfl, hc, s3.dt hd1, hr1.up, SqT.of upd_same, S3.dts q2, (.last hk (by have := hk.times; omega) (Nat.le_refl _)), by simp, fun _ => .thr hr1 hk hi, by omega, S3.tup hP, S3.hold hH, fun v' t' H' s' hd' hr' => k v' t' H' (S3.trans s') hd' hr'⟩
      | @grp n g ks hg h1 h2 hks =>
        obtain ⟨c, b, us, ec, hS, hB, hU⟩ := tm_grp hD
        cases ec
        have hul := kids_len hU
        refine no (fun z => nomatch z) ?_
        refine tt_eqN (h := g.str) rfl (by cases g <;> first | exact absurd rfl hg | decide +kernel) (no (by decide) (tt_inG (h := g.str) (b := true) (groups_at T _) rfl (by cases g <;> first | exact absurd rfl hg | decide +kernel) (yes rfl (?_))))
        refine ixT rfl (S.tup hS) at1 ⟨b, rfl, ⟨_, S.tup hB⟩, fun D hD0 => ?_⟩
        refine lc_n (walk_tup (xs := us)) (fun i v H' => ∃ t', DT K H' v t'.d ∧ Rm nm pp n t') (by rintro i o H H' kk ⟨a, b, c⟩; exact ⟨a, kk.dt b, c⟩) hD0 (by omega) (fun H2 s2 => (S.trans s2).tup hB) ?_ ?_
        · rintro i x H2 H3 Kt hi s2 ⟨rfl, e2⟩ kk
          have S2 := S.trans s2
          obtain ⟨t, ht, hd0⟩ := kid_at (S2.dts hU) e2
          exact ⟨rfl, _, rfl, a, dx, _, rfl, S2 _ _ hA, rfl, _, rfl, a, x, e, t, nm, pp, rn, rfl, S2.step hSt, hne, hd0, hks t (List.mem_of_getElem? ht), fun v' t' H' s' hd' hr' => kk v' H' s' ⟨t', hd', hr'⟩⟩
        · intro ys H2 s2 hl2 hy hD2
          have S2 := S.trans s2
          obtain ⟨ts, hts, hpt⟩ := pickT (H := H2) ys (fun i t' => Rm nm pp n t') fun i y e => hy i y e
          have htl : ts.length = ks.length := by rw [← kids_len hts, hl2, hul]
          have hrt : ∀ t ∈ ts, Rm nm pp n t := fun t ht => let ⟨i, hi⟩ := List.getElem?_of_mem ht; hpt i t hi
          cases g with
          | thn => exact absurd rfl hg
          | and => exact tt_eqY rfl (yes rfl ⟨_, rfl, D, ys, ts, nm, pp, n, rfl, SqL.of hD2, hts, by omega, hc.pk, hrt, by omega, fun v' t' H3 s3 hd3 hr3 _ => k v' t' H3 (S2.trans s3) hd3 hr3⟩)
          | or => exact tt_eqN (h := "or") rfl (by decide +kernel) (no (by decide) ⟨_, rfl, D, ys, ts, nm, pp, n, rfl, SqL.of hD2, hts, by omega, by omega, hc.pk, hrt, by omega, fun v' t' H3 s3 hd3 hr3 _ => k v' t' H3 (S2.trans s3) hd3 hr3⟩)
      | @til n p ww aa hp hw ha =>
        obtain ⟨c, u, ec, hS, hu⟩ := tm_til hD
        cases ec
        refine no (fun z => nomatch z) ?_
        refine tt_eqN (h := "until") rfl (by decide +kernel) (no (by decide) (tt_inG (h := "until") (b := false) (groups_at T _) rfl (by decide +kernel) (no (by decide) (tt_eqY rfl (yes rfl (?_))))))
        refine ⟨_, rfl, a, dx, _, rfl, S _ _ hA, rfl, ixT rfl (S.tup hS) at1 ⟨a, u, e, p, nm, pp, rn, rfl, S.step hSt, hne, S.dt hu, hp, fun v1 t1 H2 s2 hd1 hr1 => ?_⟩⟩
        have S2 := S.trans s2
        obtain ⟨c1, us1, rfl, hS1, hU1⟩ := tm_at hd1
        have fin : ∀ {H3 : Hp}, Same H2 H3 → tCall (sp_until_of K) [] E0 (tCons (tVar 4) (tCons (tOp (rIx K) (tVar 1) (tC (.int 2))) (tCons (tOp (rIx K) (tVar 1) (tC (.int 3))) tNil))) [some (.ref a), some (.ref c0), some (.str "until"), none, some (.ref c1)] H3 Q := fun {H3} s3 =>
          ⟨_, rfl, ixT rfl ((S2.trans s3).tup hS) at2 (ixT rfl ((S2.trans s3).tup hS) at3 ⟨_, t1, ww, aa, nm, pp, n, rfl, s3.dt hd1, hr1, hw, ha, fun v2 t2 H4 s4 hd2 hr2 _ => k v2 t2 H4 (S2.trans (s3.trans s4)) hd2 hr2⟩)⟩
        by_cases hb : t1.hd = "breach"
        · rw [hb] at hS1
          exact tt_hnN rfl hS1 (no (by decide) (no (by decide) (fin (Same.refl _))))
        · refine tt_hnY rfl hS1 hb (yes rfl ⟨_, rfl, a, dx, _, rfl, S2 _ _ hA, rfl, ixT rfl (S2.tup hS) at2 (ixT rfl (S2.tup hS) at3 ⟨a, ww, aa, _, nm, pp, rn, rfl, S2.step hSt, fun b H3 s3 => ⟨_, rfl, ite2 (fun c1 => ?_) (fun c1 => ?_)⟩⟩)⟩)
          · exact k _ .done H3 (S2.trans s3) (done_dt T H3) .done
          · exact fin s3
end
end DD
namespace DD
open PySem PySem.Spec
open PyProof.Rows L2
/-! ## {**d, k: v} -/
section
variable {prog : Program} {w : World} {κ : Type} [DecidableEq κ] {knd : KeyKind prog w κ} {A : Around} {E : Value → Shared → Prop} {s : Shared}
theorem put_in {d : Addr} {kvs : List (κ × Value)} {k : κ} {key v : Value} {Q : Unit → Shared → Prop} (hkey : knd.is k key = true) (hm : s.heap.DictOf knd d kvs)
    (hQ : ∀ h', h'.DictOf knd d (stored kvs k v) → Heap.SameBut d s.heap h' → Q () { s with heap := h' }) (hsz : kvs.length ≤ sizeLine) : wpAny (model prog w) A (dictPut d (knd.hash k) key v) Q E s := by
  (obtain ⟨o, es, ep, ho, hc, hd, hk, hp, hn⟩ := hm)
  have hes : (es.size ≤ sizeLine) := by
    have e1 := hp.length
    have e2 : es.toList.length = es.size := by simp
    omega
  unfold dictPut
  (refine wpAny_bind (wpAny_dictFind_of hkey ho hd hk ?_))
  have hidx : ((es.findIdx? fun e => knd.is k e.key) = kvs.findIdx? fun kv => decide (kv.1 = k)) := by
    (rw [← hp.findIdx k]; obtain ⟨l⟩ := es; simp)
  cases hi : (es.findIdx? fun e => knd.is k e.key) with
  | some i =>
    refine wpAny_updateDict ho hd (hQ _ ⟨_, _, ep, Heap.get?_update_self _ ho (Obj.isFreed_of_dict (Obj.data_mapDict hd _)), hc.mapDict _, Obj.data_mapDict hd _, hk.modify _ _, ?_, ?_⟩ (Heap.SameBut.update ..))
    · (rw [stored, if_pos (any_of_findIdx_some (hidx ▸ hi))])
      (have hl : (es.toList.findIdx? fun e => knd.is k e.key) = some i := by rw [← hi]; obtain ⟨l⟩ := es; simp)
      have q := hp.modify hn hl v
      obtain ⟨l⟩ := es
      simpa using q
    · (rw [stored, if_pos (any_of_findIdx_some (hidx ▸ hi)), keys_map_store]; exact hn)
  | none =>
    (have hnot : k ∉ kvs.map (·.1) := not_mem_of_findIdx_none (hidx ▸ hi))
    have hany : (¬ (kvs.any fun kv => decide (kv.1 = k)) = true) := by
      rw [List.any_eq_true]
      rintro ⟨kv, hkv, he⟩
      (exact hnot (List.mem_map.mpr ⟨kv, hkv, of_decide_eq_true he⟩))
    refine wpAny_updateDictKeys (hz := hes) ho hd (hQ _ ⟨_, _, ep + 1, Heap.get?_update_self _ ho (Obj.isFreed_of_dict (Obj.data_mapDictKeys hd _)), hc.mapDictKeys _, Obj.data_mapDictKeys hd _, hk.push hkey _, ?_, ?_⟩ (Heap.SameBut.update ..))
    · rw [stored, if_neg hany]
      (have q := hp.append hkey (knd.hash k) v)
      obtain ⟨l⟩ := es
      simpa using q
    · (rw [stored, if_neg hany, List.map_append, List.nodup_append])
      refine ⟨hn, by simp, ?_⟩
      intro a ha b hb
      (simp only [List.map_cons, List.map_nil, List.mem_singleton] at hb)
      subst hb
      exact fun e => hnot (e ▸ ha)
theorem merge_in {d o : Addr} {kvs more : List (κ × Value)} {Q : Unit → Shared → Prop} (hdo : d ≠ o) (hoS : (o == sysModules) = false) (hnr : ∀ k a, knd.is k (.ref a) = false) (hd : s.heap.DictOf knd d kvs) (ho : s.heap.DictOf knd o more)
    (hQ : ∀ h', h'.DictOf knd d (merged kvs more) → h'.DictOf knd o more → Heap.SameBut d s.heap h' → Q () { s with heap := h' }) (hsz : kvs.length + more.length ≤ sizeLine) : wpAny (model prog w) A (mergeMapping d (.ref o) false) Q E s := by
  (obtain ⟨od, esd, epd, hod, hcd, hdd, hkd, hpd, hnd⟩ := id hd)
  (obtain ⟨oo, eso, epo, hoo, hco, hdo', hko, hpo, hno⟩ := id ho)
  (have hlen : more.length = eso.size := by rw [← hpo.length]; simp)
  unfold mergeMapping
  (refine wpAny_bind (wpAny_isInstance ho.typeIs isSubtype_dict_dict ?_))
  rw [if_pos rfl]
  refine wpAny_bind (wpAny_specialOf ho.typeIs F.slot_dict_iter.lookup ?_)
  have eb : ((some (Value.builtin "dict.__iter__") : Option Value) == some (.builtin "dict.__iter__")) = true := by simp
  rw [eb]
  (refine wpAny_bind (wpAny_pure ?_))
  dsimp only
  (rw [if_neg (by rw [hoS]; exact Bool.false_ne_true)])
  have round : wpAny (model prog w) A (do
      let l ← dictEntries o
      let epoch ← dictEpoch o
      forIn (List.range l.size) PUnit.unit fun i (_ : PUnit) => (do
        let l2 ← dictEntries o
        match l2[i]? with
          | some e => do
            holding [e.key, e.val] (if false = true then do
                let f ← dictFind d e.key e.hash
                if f.isSome = true then do
                    rule "dict.merge.duplicate-key"
                    let x ← newExc (Value.type "KeyError") [e.key]
                    raiseNew x
                    dictPut d e.hash e.key e.val
                  else dictPut d e.hash e.key e.val
              else dictPut d e.hash e.key e.val)
            let ep2 ← dictEpoch o
            if (ep2 != epoch) = true then do
                (unsupported "dict.changed-during-merge" : Sem PUnit); pure (ForInStep.yield PUnit.unit) else pure (ForInStep.yield PUnit.unit)
          | _ => do
            (unsupported "dict.changed-during-merge" : Sem PUnit); pure (ForInStep.yield PUnit.unit) : Sem (ForInStep PUnit))
      pure ()) Q E s := by
    refine wpAny_bind (wpAny_dictEntries hoo hdo' (wpAny_bind (wpAny_dictEpoch hoo hdo' ?_)))
    refine wpAny_bind ?_
    refine wpAny_forIn_list _ (fun rest _ s' => ∃ h' i, s' = { s with heap := h' } ∧ rest = List.range' i (eso.size - i) ∧ i ≤ eso.size ∧ h'.DictOf knd d (merged kvs (more.take i)) ∧ h'.get? o = some oo ∧ Heap.SameBut d s.heap h') _ ?_ ?_ _ _
      ⟨s.heap, 0, rfl, by rw [List.range_eq_range']; simp, Nat.zero_le _, by simpa [merged] using hd, hoo, Heap.SameBut.refl _ _⟩
    · (rintro x rest b s' ⟨h', i, rfl, hr, hi, hd', hoo', hs'⟩)
      have lt : i < eso.size := by
        (rcases Nat.lt_or_ge i eso.size with h | h)
        · exact h
        · rw [Nat.sub_eq_zero_of_le h] at hr; cases hr
      obtain ⟨rfl, hrest⟩ : (x = i ∧ rest = List.range' (i + 1) (eso.size - (i + 1))) := by
        rw [show eso.size - i = (eso.size - (i + 1)) + 1 by omega, List.range'_succ] at hr
        injection hr with h1 h2
        exact ⟨h1, h2⟩
      (refine wpAny_bind (wpAny_dictEntries hoo' hdo' ?_))
      rw [Array.getElem?_eq_getElem lt]
      have hml : x < more.length := by rw [hlen]; exact lt
      obtain ⟨hkey, hval⟩ := hpo.get? (e := eso[x]) (k := more[x].1) (v := more[x].2) (by simp [lt]) (List.getElem?_eq_getElem hml)
      obtain ⟨k', hkey', hhash⟩ := hko eso[x] (Array.getElem_mem lt)
      have ek := knd.inj _ _ _ hkey' hkey
      dsimp only
      rw [hhash, hval]
      have hmx : ((merged kvs (more.take x)).length ≤ sizeLine) := by
        (have e1 := merged_length_le kvs (more.take x))
        (have e2 : (more.take x).length ≤ more.length := by rw [List.length_take]; omega)
        omega
      (refine wpAny_bind (wpAny_holding ?_))
      (rw [if_neg Bool.false_ne_true])
      refine put_in hkey' hd' (fun h2 hd2 hs2 => ?_) hmx
      have hoo2 : h2.get? o = some oo := (hs2.2 o (Ne.symm hdo)).trans hoo'
      refine wpAny_bind (wpAny_dictEpoch hoo2 hdo' ?_)
      rw [if_neg (by simp)]
      exact wpAny_pure ⟨h2, x + 1, rfl, hrest, lt, by rw [merged_take_succ kvs more x more[x] (List.getElem?_eq_getElem hml), ← ek]; exact hd2, hoo2, hs'.trans hs2⟩
    · (rintro b s' ⟨h', i, rfl, hr, hi, hd', hoo', hs'⟩)
      have hin : i = eso.size := by
        (rcases Nat.lt_or_ge i eso.size with h | h)
        · rw [show eso.size - i = (eso.size - (i + 1)) + 1 by omega, List.range'_succ] at hr; cases hr
        · exact Nat.le_antisymm hi h
      (refine wpAny_pure (hQ h' ?_ ⟨oo, eso, epo, hoo', hco, hdo', hko, hpo, hno⟩ hs'))
      rw [hin, ← hlen, List.take_length] at hd'
      exact hd'
  (refine wpAny_bind (wpAny_dictEntries hod hdd ?_))
  split
  · refine wpAny_bind (wpAny_dictEntries hoo hdo' (wpAny_bind ?_))
    rw [← Array.forIn_toList]
    refine wpAny_forIn_list _ (fun rest _ s' => s' = s ∧ ∀ e ∈ rest, e ∈ eso.toList) _ ?_ ?_ _ _ ⟨rfl, fun e he => he⟩
    · rintro x rest b s' ⟨rfl, hin⟩
      have hx := hin x (by simp)
      obtain ⟨k', hkey', _⟩ := hko x (by simpa using hx)
      cases q : x.key with
      | ref a => rw [q, hnr] at hkey'; cases hkey'
      | _ => exact wpAny_pure ⟨rfl, fun e he => hin e (by simp [he])⟩
    · rintro b s' ⟨rfl, _⟩
      exact round
  · exact round
end
def tDStar (td tk tv : TE) : TE := fun σ H Q => ∀ p, H p = none → td σ (upd H p (.dK [])) fun x H1 => ∃ (o : Addr) (kvs : List (Key × V)), x = .ref o ∧ H1 p = some (.dK []) ∧ H1 o = some (.dK kvs) ∧ o ≠ p ∧ kvs.length ≤ 1000 ∧
  ∀ q, (upd H1 p (.dK (mergeK [] kvs))) q = none → tPairs [(tk, tv)] σ (upd (upd H1 p (.dK (mergeK [] kvs))) q (.dK [])) fun ps H3 => ∃ (k : Key) (z : V), ps = [(kV k, z)] ∧ H3 q = some (.dK []) ∧ H3 p = some (.dK (mergeK [] kvs)) ∧ Q (.ref p) (upd (upd H3 q (.dK [(k, z)])) p (.dK (putK (mergeK [] kvs) k z)))
section
variable {X : Cx} {dE kE vE : Expr} {td tk tv : TE} {pos : Pos}
theorem pe_dstar (hd : PE X dE td) (hk : PE X kE tk) (hv : PE X vE tv) : PE X (.Dict [none, some kE] [dE, vE] pos) (tDStar td tk tv) := by
  (refine ⟨fun pins s σ H Q I q => ?_⟩)
  rw [arm_eval_Dict]
  (refine wpAny_bind (wpAny_standAt ?_))
  show wpAny _ _ (dictDisplay [(none, do let x ← eval dE X.env; standAt pos; pure x), (some (eval kE X.env), do let x ← eval vE X.env; standAt pos; pure x)]) _ _ _
  unfold dictDisplay
  simp only [List.forIn_cons, List.forIn_nil, bind_assoc, pure_bind, List.isEmpty_nil, if_true, List.nil_append, List.length_cons, List.length_nil, Nat.reduceAdd, Nat.reduceBEq, Bool.false_eq_true, if_false, List.isEmpty_cons]
  (have hn := I.hok.fresh (Nat.le_refl s.heap.objs.size))
  (have I1 := I.laid (a := s.heap.objs.size) (o := .dK []) (h' := s.heap.push { cls := .type "dict", data := .dict #[] }) (t' := s.toks) (fun _ _ q => Heap.get?_push_of_some _ q) (Nat.le_refl _) (dk_empty s.heap I.big))
  have q0 := q _ hn
  (refine wpAny_bind (wpAny_alloc ?_))
  refine wpAny_bind (wpAny_holding (wpAny_bind (thn (hd.run pins _ σ _ _ I1 q0) fun u s1 ⟨x, H1, I2, rx, o, kvs, ex, hp, ho, ne, hl, q1⟩ => wpAny_bind (wpAny_standAt (wpAny_pure ?_)))))
  subst ex
  obtain rfl : u = Value.ref o := rx
  obtain ⟨zp, sp, vs0, r0, dp⟩ := dk_of I2.hok hp
  cases r0
  obtain ⟨zo, so, vs, rel, ddo⟩ := dk_of I2.hok ho
  have hnr : ∀ (k : Key) (a : Addr), (mixKind X.prog X.w).is k (.ref a) = false := fun k a => by cases k <;> rfl
  have hvl : vs.length = kvs.length := rel.length.symm
  have z1 : (mergeK [] kvs).length ≤ 1000 := by
    have := length_mergeK kvs []
    rw [List.length_nil] at this
    omega
  refine wpAny_bind (wpAny_onRaise (wpAny_tryCatch (wpAny_onRaise (wpAny_holding (merge_in (knd := mixKind X.prog X.w) (Ne.symm ne) so hnr dp ddo (fun h1 d1 o1 sb1 => ?_) (by rw [hvl]; exact small (by simp; omega)))))))
  have e1 : ∃ u, h1.get? s.heap.objs.size = some u := let ⟨u, _, _, hu, _⟩ := d1; ⟨u, hu⟩
  have I3 := d_write (t' := s1.toks) I2 (by rw [hp]; exact True.intro) sb1 e1 (dk_new (small (Nat.le_trans z1 (by decide))) sp (KV.merge rel .nil) d1)
  have hn2 := I3.hok.fresh (Nat.le_refl h1.objs.size)
  have I4 := I3.laid (a := h1.objs.size) (o := .dK []) (h' := h1.push { cls := .type "dict", data := .dict #[] }) (t' := s1.toks) (fun _ _ q => Heap.get?_push_of_some _ q) (Nat.le_refl _) (dk_empty h1 I3.big)
  refine wpAny_bind (wpAny_holding (wpAny_subDict (knd := mixKind X.prog X.w) (by simp) (thn ((pps_cons (pos := pos) hk hv pps_nil).run pins _ σ _ _ I4 (q1 _ hn2)) fun ws s2 ⟨ps, H3, I5, rps, k, z, ep, hq3, hp3, qf⟩ => ?_)))
  subst ep
  obtain ⟨rs, cr, kr⟩ := carries_of (P := X.prog) (w := X.w) (kvs := [(k, z)]) rps
  obtain ⟨_, sq, vq, rq, dq⟩ := dk_of I5.hok hq3
  cases rq
  refine ⟨rs, cr, dq, fun h2 d2 sb2 => ?_⟩
  have np : h1.objs.size ≠ s.heap.objs.size := fun z => by
    rw [z, upd_same] at hn2
    cases hn2
  have e2 : ∃ u, h2.get? h1.objs.size = some u := let ⟨u, _, _, hu, _⟩ := d2; ⟨u, hu⟩
  have kr2 : KV [(k, z)] (merged [] rs) := KV.merge (kvs := []) kr .nil
  have I6 := d_write (t' := s2.toks + ws.length) (ob := .dK [(k, z)]) I5 (by rw [hq3]; exact True.intro) sb2 e2 (dk_new (small (by simp)) sq kr2 d2)
  have hp6 : (upd H3 h1.objs.size (.dK [(k, z)])) s.heap.objs.size = some (.dK (mergeK [] kvs)) := by rw [upd_ne (Ne.symm np)]; exact hp3
  obtain ⟨_, sp6, vs6, r6, d6⟩ := dk_of I6.hok hp6
  have hl6 : vs6.length = (mergeK [] kvs).length := r6.length.symm
  refine wpAny_bind (wpAny_onRaise (wpAny_holding (merge_in (knd := mixKind X.prog X.w) (Ne.symm np) sq hnr d6 d2 (fun h3 d3 o3 sb3 => ?_) (by rw [hl6, ← kr2.length]; exact small (by simp; omega)))))
  have e3 : ∃ u, h3.get? s.heap.objs.size = some u := let ⟨u, _, _, hu, _⟩ := d3; ⟨u, hu⟩
  have z2 := length_putK (mergeK [] kvs) k z
  have I7 := d_write (t' := s2.toks + ws.length) (ob := .dK (putK (mergeK [] kvs) k z)) I6 (by rw [hp6]; exact True.intro) sb3 e3 (dk_new (small (by omega)) sp6 (KV.merge kr2 r6) d3)
  exact wpAny_pure ⟨.ref s.heap.objs.size, _, I7, rfl, qf⟩
end
end DD
namespace DD
open PySem PySem.Spec
open PyProof.Rows L2
section
variable {base : Heap} {mg : Str → Option Value} {K : PySem.W.Frag} {w : World} {P : Program}
/-! ### remainder_after -/
def sp_remainder_after (K : PySem.W.Frag) : Sp := fun vs H Q _ => ∃ (v wv : V) (pt hd : Addr) (e : Ev) (t : Tm) (nm pp rn : List Str) (n : Nat), vs = [v, wv, .ref pt, .ref hd] ∧ Cn nm pp rn ∧ EvOk pp rn e ∧ (∀ p r q, e ≠ .hands p r q) ∧ DT K H v t.d ∧ Rm nm pp n t ∧ n ≤ 6 ∧ DT K H wv e.d ∧ SqT K H pt (pp.map V.str) ∧ HoldAt H hd rn pp ∧
  ∀ v' t' H', Same H H' → DT K H' v' t'.d → Rm nm pp n t' → Q v' H'
theorem ok_remainder_after (T : Txt w K mg) : FnOk P w K mg base CX0 94 (a_remainder_after K) (fdOf K (a_remainder_after K)) ps_remainder_after (sp_remainder_after K) := by
  have G_is_over := ok_is_over (P := P) (base := base) T
  have G_Step_init := ok_Step_init (P := P) (base := base) T
  have G_is_permitted := ok_is_permitted (P := P) (base := base) T
  refine ok0 T.f_remainder_after sc_remainder_after (fun vs H Q E h => ?_) (fun cdv A outer s H vs Q E hr h => ?_)
  · obtain ⟨_, _, _, _, _, _, _, _, _, _, rfl, _⟩ := h; rfl
  · obtain ⟨v, wv, pt, hd, e, t, nm, pp, rn, n, rfl, hc, he, hne, hD, hR, hn, hW, hP, hH, k⟩ := h
    have G_Step_after := ok_Step_after (P := P) (base := base) T n hn
    have hr_is_over : Room 1 _ := hr.mono (by omega)
    have hr_Step_init : Room 2 _ := hr.mono (by omega)
    have hr_is_permitted : Room 9 _ := hr.mono (by omega)
    have hr_Step_after : Room (n + 86) _ := hr.mono (by omega)
    refine ⟨_, (pss_cons (ps_if (pt_val (pe_call G_is_over hr_is_over rfl T.g_is_over T.k_is_over T.b_is_over .nil pass0 (pa_cons (pv 0) pa_nil))) (pss_one (ps_ret (pv 0))) pss_nil) (pss_one (ps_ret (pe_meth (pe_make T.mk_Step G_Step_init hr_Step_init rfl T.g_Step T.b_Step_init .nil pass0 (pa_cons (pv 1) (pa_cons (pv 2) (pa_cons (pv 3) (pa_cons (pe_call G_is_permitted hr_is_permitted rfl T.g_is_permitted T.k_is_permitted T.b_is_permitted .nil pass0 (pa_cons (pv 0) (pa_cons (pv 1) (pa_cons (pv 3) pa_nil)))) pa_nil))))) T.cl_Step T.m_Step_after G_Step_after hr_Step_after T.b_Step_after .nil pass0 (pa_cons (pv 0) pa_nil))))), ?_⟩
    obtain ⟨a, us, rfl, hS, hU⟩ := tm_at hD
    refine ⟨_, rfl, a, _, _, rfl, hS, fun H1 s1 => ⟨_, rfl, ite2 (fun c => ?_) (fun c => ?_)⟩⟩
    · exact ⟨_, rfl, k _ t H1 s1 (s1.dt hD) hR⟩
    · refine ⟨_, rfl, _, rfl, _, rfl, _, rfl, _, rfl, _, rfl, .ref a, wv, hd, t, e, nm, pp, rn, n, rfl, s1.dt hD, hR, hn, s1.dt hW, s1.hold hH, fun b H2 s2 => ?_⟩
      intro x dx hx hdx hne2
      refine ⟨x, dx, wv, pt, hd, b, rfl, upd_same, fun H3 b3 hH3 => ⟨rfl, ?_⟩⟩
      have s3 : Same H2 H3 := fun c u q => b3 c u (ne_of_none q hx) (by rw [upd_ne (ne_of_none q hx), upd_ne (ne_of_none q hdx)]; exact q)
      have S := s1.trans (s2.trans s3)
      refine ⟨x, dx, _, rfl, hH3, rfl, _, rfl, x, .ref a, e, t, nm, pp, rn, rfl, ⟨hc, he, dx, wv, pt, hd, b, hH3, S.dt hW, S.tup hP, S.hold hH⟩, hne, S.dt hD, hR, fun v' t' H' s' hd' hr' => k v' t' H' (S.trans s') hd' hr'⟩
/-! ### handed -/
theorem merge_nodup : ∀ (kvs acc : List (Key × V)), ((acc ++ kvs).map Prod.fst).Nodup → mergeK acc kvs = acc ++ kvs
  | [], acc, _ => by simp [mergeK]
  | p :: r, acc, h => by
    have hp : p.1 ∉ acc.map Prod.fst := fun hm => by
      rw [List.map_append, List.nodup_append] at h
      exact h.2.2 _ hm _ (by simp) rfl
    have e : putK acc p.1 p.2 = acc ++ [p] := by
      unfold putK
      rw [if_neg]
      intro c
      obtain ⟨q, hq, e⟩ := List.any_eq_true.mp c
      exact hp (List.mem_map.mpr ⟨q, hq, of_decide_eq_true e⟩)
    show mergeK (putK acc p.1 p.2) r = _
    rw [e, merge_nodup r (acc ++ [p]) (by simpa using h)]
    simp
theorem hkv_keys (hs : List (Str × Str)) : (hkv hs).map Prod.fst = (hs.map Prod.fst).map Sum.inr := by simp [hkv]
def hput (hs : List (Str × Str)) (r q : Str) : List (Str × Str) := hs.map fun p => if p.1 = r then (p.1, q) else p
theorem hkv_put {hs : List (Str × Str)} {r q : Str} (h : r ∈ hs.map Prod.fst) : putK (hkv hs) (.inr r) (.str q) = hkv (hput hs r q) := by
  unfold putK
  rw [if_pos]
  · unfold hkv hput
    (rw [List.map_map, List.map_map])
    (refine List.map_congr_left fun p hp => ?_)
    by_cases e : p.1 = r
    · simp [e]
    · have e2 : ¬ (Sum.inr p.1 : Key) = Sum.inr r := fun z => e (Sum.inr.inj z)
      simp [e, e2]
  · obtain ⟨p, hp, e⟩ := List.mem_map.mp h
    refine List.any_eq_true.mpr ⟨(.inr p.1, .str p.2), List.mem_map.mpr ⟨p, hp, rfl⟩, ?_⟩
    rw [e]; simp
def sp_handed (K : PySem.W.Frag) : Sp := fun vs H Q _ => ∃ (wv : V) (hd : Addr) (p r q : Str) (nm pp rn : List Str), vs = [wv, .ref hd] ∧ Cn nm pp rn ∧ DT K H wv (Ev.hands p r q).d ∧ EvOk pp rn (.hands p r q) ∧ HoldAt H hd rn pp ∧ ∀ hd' H', Same H H' → HoldAt H' hd' rn pp → Q (.ref hd') H'
theorem ok_handed (T : Txt w K mg) : FnOk P w K mg base CX0 1 (a_handed K) (fdOf K (a_handed K)) ps_handed (sp_handed K) := by
  refine ok0 T.f_handed sc_handed (fun vs H Q E h => ?_) (fun cdv A outer s H vs Q E hr h => ?_)
  · obtain ⟨_, _, _, _, _, _, _, _, rfl, _⟩ := h; rfl
  · obtain ⟨wv, hd, p, r, q, nm, pp, rn, rfl, hc, hW, he, hH, k⟩ := h
    have hU64 := hr.units
    have hU1 := hu_of hr
    refine ⟨_, (pss_cons (ps_if (pt_cmpR (k_ne K hU64) (pe_dget hU1 (pv 1) (pe_ix (k_ix K) (pv 0) pe_int (fun _ _ => rfl)) (fun _ _ => rfl)) (pe_ix (k_ix K) (pv 0) pe_int (fun _ _ => rfl)) (nomark _)) (pss_one (ps_ret (pv 1))) pss_nil) (pss_one (ps_ret (pe_dstar (pv 1) (pe_ix (k_ix K) (pv 0) pe_int (fun _ _ => rfl)) (pe_ix (k_ix K) (pv 0) pe_int (fun _ _ => rfl)))))), ?_⟩
    obtain ⟨b, rfl, hS⟩ := ev_at hW
    obtain ⟨y, hy, g⟩ := (hold_get hH (x := r)).1 he.2.1
    refine ⟨_, rfl, ixT rfl hS at2 ⟨hd, _, rfl, g, ixT rfl hS at1 (.inl ⟨rfl, _, rfl, ite2 (fun c => ?_) (fun c => ?_)⟩)⟩⟩
    · exact ⟨_, rfl, k hd H (Same.refl H) hH⟩
    · intro d hd0
      have s1 := Same.new (o := .dK []) hd0
      obtain ⟨hs, h1, h2, h3⟩ := id hH
      have nd : ((hkv hs).map Prod.fst).Nodup := by
        rw [hkv_keys, h2]
        have := (List.nodup_append.mp hc.nd).2.1
        exact List.Pairwise.map _ (fun a b hab z => hab (Sum.inr.inj z)) this
      have em : mergeK [] (hkv hs) = hkv hs := merge_nodup _ [] (by simpa using nd)
      have hne : hd ≠ d := fun z => by rw [z, hd0] at h1; cases h1
      have hln : (hkv hs).length ≤ 2 := by
        have e := congrArg List.length h2
        rw [List.length_map] at e
        unfold hkv
        rw [List.length_map, e]
        exact hc.few
      refine ⟨_, rfl, hd, hkv hs, rfl, upd_same, s1 _ _ h1, hne, by omega, fun d2 hd2 => ?_⟩
      rw [em] at hd2 ⊢
      have s2 : Same H (upd (upd (upd H d (.dK [])) d (.dK (hkv hs))) d2 (.dK [])) := ((s1.upd hd0)).trans (Same.new hd2)
      have n2 : d2 ≠ d := fun z => by rw [z, upd_same] at hd2; cases hd2
      refine ixT rfl (s2.tup hS) at2 (ixT rfl (s2.tup hS) at3 ⟨.inr r, .str q, rfl, upd_same, by rw [upd_ne (Ne.symm n2)]; exact upd_same, ?_⟩)
      have hr2 : r ∈ hs.map Prod.fst := by rw [h2]; exact he.2.1
      rw [hkv_put hr2]
      have hd2n : H d2 = none := by
        cases e : H d2 with
        | none => rfl
        | some u => rw [(s1.upd hd0) _ _ e] at hd2; cases hd2
      refine k d _ ((s2.upd hd2n).upd hd0) ⟨hput hs r q, upd_same, ?_, ?_⟩
      · rw [← h2]
        unfold hput
        rw [List.map_map]
        (refine List.map_congr_left fun p hp => ?_)
        by_cases e : p.1 = r <;> simp [e]
      · intro p hp
        obtain ⟨p0, hp0, rfl⟩ := List.mem_map.mp hp
        by_cases e : p0.1 = r
        · rw [if_pos e]; exact he.2.2
        · rw [if_neg e]; exact h3 p0 hp0
/-! ### stepped -/
/-- a state: (told, holders) -/
def StV (K : PySem.W.Frag) (H : Hp) (nm pp rn : List Str) (n : Nat) (v : V) (t : Tm) : Prop := ∃ (a hd : Addr) (u : V), v = .ref a ∧ SqT K H a [u, .ref hd] ∧ DT K H u t.d ∧ Rm nm pp n t ∧ HoldAt H hd rn pp
def sp_stepped (K : PySem.W.Frag) : Sp := fun vs H Q _ => ∃ (v wv : V) (pt : Addr) (e : Ev) (t : Tm) (nm pp rn : List Str) (n : Nat), vs = [v, wv, .ref pt] ∧ Cn nm pp rn ∧ EvOk pp rn e ∧ StV K H nm pp rn n v t ∧ n ≤ 6 ∧ DT K H wv e.d ∧ SqT K H pt (pp.map V.str) ∧
  ∀ v' t' H', Same H H' → StV K H' nm pp rn n v' t' → Q v' H'
theorem _root_.L2.Same.stv {K : PySem.W.Frag} {H H' : Hp} {nm pp rn : List Str} {n : Nat} {v : V} {t : Tm} (s : Same H H') (h : StV K H nm pp rn n v t) : StV K H' nm pp rn n v t := by
  obtain ⟨a, hd, u, h0, h1, h2, h3, h4⟩ := h
  exact ⟨a, hd, u, h0, s.tup h1, s.dt h2, h3, s.hold h4⟩
theorem ok_stepped (T : Txt w K mg) : FnOk P w K mg base CX0 95 (a_stepped K) (fdOf K (a_stepped K)) ps_stepped (sp_stepped K) := by
  have G_is_over := ok_is_over (P := P) (base := base) T
  have G_handed := ok_handed (P := P) (base := base) T
  have G_remainder_after := ok_remainder_after (P := P) (base := base) T
  refine ok0 T.f_stepped sc_stepped (fun vs H Q E h => ?_) (fun cdv A outer s H vs Q E hr h => ?_)
  · obtain ⟨_, _, _, _, _, _, _, _, _, rfl, _⟩ := h; rfl
  · obtain ⟨v, wv, pt, e, t, nm, pp, rn, n, rfl, hc, he, hSt, hn, hW, hP, k⟩ := h
    have hU64 := hr.units
    have hr_is_over : Room 1 _ := hr.mono (by omega)
    have hr_handed : Room 1 _ := hr.mono (by omega)
    have hr_remainder_after : Room 94 _ := hr
    obtain ⟨a, hd, u, rfl, hA, hD, hR, hH⟩ := id hSt
    refine ⟨_, (pss_cons (ps_asg (pv 0) (k_tup K (n := 2) rfl (pgs_cons (pg_name (i := 3) sc_stepped.nd rfl (Or.inl rfl) (Or.inl rfl)) (pgs_cons (pg_name (i := 4) sc_stepped.nd rfl (Or.inl rfl) (Or.inl rfl)) pgs_nil)))) (pss_cons (ps_if (pt_val (pe_call G_is_over hr_is_over rfl T.g_is_over T.k_is_over T.b_is_over .nil pass0 (pa_cons (pv 3) pa_nil))) (pss_one (ps_ret (pv 0))) pss_nil) (pss_cons (ps_if (pt_cmpR (k_eq K hU64) (pe_ix (k_ix K) (pv 1) pe_int (fun _ _ => rfl)) (pe_cS rfl T.z_HANDS) (nomark _)) (pss_one (ps_ret (pe_tup (pa_cons (pv 3) (pa_cons (pe_call G_handed hr_handed rfl T.g_handed T.k_handed T.b_handed .nil pass0 (pa_cons (pv 1) (pa_cons (pv 4) pa_nil))) pa_nil))))) pss_nil) (pss_one (ps_ret (pe_tup (pa_cons (pe_call G_remainder_after hr_remainder_after rfl T.g_remainder_after T.k_remainder_after T.b_remainder_after .nil pass0 (pa_cons (pv 3) (pa_cons (pv 1) (pa_cons (pv 2) (pa_cons (pv 4) pa_nil))))) (pa_cons (pv 4) pa_nil)))))))), ?_⟩
    obtain ⟨a2, us, rfl, hS, hU⟩ := tm_at hD
    refine ⟨_, rfl, a, _, rfl, hA, rfl, _, _, rfl, _, _, rfl, rfl, ?_⟩
    refine ⟨_, rfl, a2, _, _, rfl, hS, fun H1 s1 => ⟨_, rfl, ite2 (fun c => ?_) (fun c => ?_)⟩⟩
    · exact ⟨_, rfl, k _ t H1 s1 (s1.stv hSt)⟩
    · obtain ⟨b, rfl, hWS⟩ := ev_at hW
      have rest : (∀ p r q, e ≠ .hands p r q) → ∀ {H2 : Hp}, Same H H2 → tTup (tCons (tCall (sp_remainder_after K) [] E0 (tCons (tVar 3) (tCons (tVar 1) (tCons (tVar 2) (tCons (tVar 4) tNil))))) (tCons (tVar 4) tNil)) [some (.ref a), some (.ref b), some (.ref pt), some (.ref a2), some (.ref hd)] H2 Q := fun hne {H2} s2 => by
        refine ⟨_, rfl, _, rfl, _, rfl, _, rfl, .ref a2, .ref b, pt, hd, e, t, nm, pp, rn, n, rfl, hc, he, hne, s2.dt hD, hR, hn, s2.dt hW, s2.tup hP, s2.hold hH, fun v' t' H3 s3 hd3 hr3 => ⟨_, rfl, small (by simp), fun q hq => ?_⟩⟩
        have s4 := Same.new (o := .tup [v', .ref hd]) hq
        exact k _ t' _ (s2.trans (s3.trans s4)) ⟨q, hd, v', rfl, SqT.of upd_same, s4.dt hd3, hr3, (s2.trans (s3.trans s4)).hold hH⟩
      cases e with
      | hands p r q =>
        refine tt_hdY rfl (s1.tup hWS) (yes rfl ⟨_, rfl, _, rfl, _, rfl, .ref b, hd, p, r, q, nm, pp, rn, rfl, hc, s1.dt hW, he, s1.hold hH, fun hd' H2 s2 hh => ⟨small (by simp), fun q2 hq2 => ?_⟩⟩)
        have s3 := Same.new (o := .tup [.ref a2, .ref hd']) hq2
        have S := s1.trans (s2.trans s3)
        exact k _ t _ S ⟨q2, hd', .ref a2, rfl, SqT.of upd_same, S.dt hD, hR, s3.hold hh⟩
      | act p c => exact tt_hdN (h := "act") rfl (s1.tup hWS) (by decide +kernel) (no (by decide) (rest (fun _ _ _ z => nomatch z) s1))
      | day => exact tt_hdN (h := "day") rfl (s1.tup hWS) (by decide +kernel) (no (by decide) (rest (fun _ _ _ z => nomatch z) s1))
end
end DD
namespace DD
open PySem PySem.Spec
open PyProof.Rows L2
/-! ## match a text: case 'z', case _ -/
section
variable {X : Cx}
structure PM (X : Cx) (cases : List MatchCase) (tm : Str → TS) : Prop where
  run : ∀ (pins : List (Addr × Obj)) (s : Shared) (σ : L2.St) (H : Hp) (D : Ends) (x : Str) (v : Value) (first : Bool), Inv X pins σ H s → L2.RelV (.str x) v → tm x D σ H → wpAny (model X.prog X.w) X.A (matchCases cases X.env v first) (SP X pins D) X.xe s
def tMatch (te : TE) (tm : Str → TS) : TS := fun D σ H => te σ H fun v H1 => ∃ x, v = .str x ∧ tm x D σ H1
def mStr (z : Str) (t : TS) (r : Str → TS) : Str → TS := fun x D σ H => if x = z then t D σ H else r x D σ H
theorem ps_match {e : Expr} {cs : List MatchCase} {te : TE} {tm : Str → TS} {pos : Pos} (he : PE X e te) (hm : PM X cs tm) : PS X (.Match e cs pos) (tMatch te tm) := by
  refine ⟨fun pins s σ H D I h => wpAny_Match (thn (he.run pins s σ H _ I h) fun v s1 ⟨y, H1, I1, r1, x, ex, q⟩ => ?_)⟩
  subst ex
  exact hm.run pins s1 σ H1 D x v true I1 r1 q
theorem mcs_nil : PM X [] (fun _ => tNext) := ⟨fun pins s σ H D x v first I r h => wpAny_matchCases_nil ⟨σ, H, I, h⟩⟩
theorem mcs_any {body : List Stmt} {rest : List MatchCase} {t : TS} {pos : Pos} (hb : PSs X body t) : PM X (⟨.MatchAs none none pos, none, body⟩ :: rest) (fun _ => t) :=
  ⟨fun pins s σ H D x v first I r h => wpAny_matchCases_cons (wpAny_matchPattern_Capture (wpAny_assignInOrder_none (hb.run pins s σ H D I h)))⟩
theorem mcs_str {z : Str} {body : List Stmt} {rest : List MatchCase} {t : TS} {tr : Str → TS} {p q : Pos} {j : Nat} (hb : PSs X body t) (hr : PM X rest tr) : PM X (⟨.MatchValue (.Constant (.str z) j p) q, none, body⟩ :: rest) (mStr z t tr) := by
  refine ⟨fun pins s σ H D x v first I r h => wpAny_matchCases_cons (wpAny_matchPattern_Value (Calls.Constant_str ?_))⟩
  refine thn (op_eq pins { s with toks := s.toks + 1 } σ H (.str x) (.str z) v (.str z s.toks) (fun y H1 => y = .bl (decide (V.str x = V.str z)) ∧ H1 = H) (I.tok _) r ⟨_, rfl⟩ ⟨rfl, rfl, rfl⟩) fun c s1 ⟨y, H1, I1, ry, ey, eH⟩ => ?_
  subst ey eH
  cases ry
  refine wpAny_truthy_bool ?_
  by_cases e : x = z
  · subst e
    rw [decide_eq_true rfl, if_pos rfl]
    exact wpAny_assignInOrder_none (hb.run pins s1 σ H1 D I1 (by unfold mStr at h; rw [if_pos rfl] at h; exact h))
  · rw [decide_eq_false fun z => e (V.str.inj z), if_neg Bool.false_ne_true]
    exact hr.run pins s1 σ H1 D x v false I1 r (by unfold mStr at h; rw [if_neg e] at h; exact h)
end
end DD
namespace DD
open PySem PySem.Spec
open PyProof.Rows L2
section
variable {base : Heap} {mg : Str → Option Value} {K : PySem.W.Frag} {w : World} {P : Program}
/-! ### texts -/
theorem tb_le {n : Nat} (h : n ≤ 8) : tb n ≤ 446080 := by
  have : ∀ m, m ≤ 8 → tb m ≤ 446080 := by decide
  exact this n h
def sp_in_brackets : Sp := fun vs H Q _ => ∃ x : Str, vs = [.str x] ∧ x.length ≤ 500000 ∧ ∀ H', Same H H' → Q (.str (brk x)) H'
theorem addS2 {x y : Str} {H : Hp} {Q : VK} (h : x.length + y.length ≤ 1000000) (q : Q (.str (x ++ y)) H) : uAdd K (.str x) (.str y) H Q := .inr (.inl ⟨x, y, rfl, rfl, Nat.le_trans h (by rw [sizeLine_eq]; decide), q⟩)
theorem ok_in_brackets (T : Txt w K mg) : FnOk P w K mg base CX0 1 (a_in_brackets K) (fdOf K (a_in_brackets K)) ps_in_brackets sp_in_brackets := by
  refine ok0 T.f_in_brackets sc_in_brackets (fun vs H Q E h => ?_) (fun cdv A outer s H vs Q E hr h => ?_)
  · obtain ⟨x, rfl, _⟩ := h; rfl
  · obtain ⟨x, rfl, hx, k⟩ := h
    have e1 : ("(" : Str).length = 1 := by decide +kernel
    have e2 : (")" : Str).length = 1 := by decide +kernel
    refine ⟨_, (pss_one (ps_ret (pe_op (k_add K) (pe_op (k_add K) pe_str (pv 0)) pe_str))), ?_⟩
    exact ⟨_, rfl, addS2 (K := K) (show ("(" : Str).length + x.length ≤ 1000000 by omega) (addS2 (by rw [len_app]; show ("(" : Str).length + x.length + (")" : Str).length ≤ 1000000; omega) (k H (Same.refl H)))⟩
theorem andIn {σ : L2.St} {H : Hp} {i : Nat} {h : Str} {R : TE} {Q : VK} (zs : List Str) (hz : zs.length ≤ 100000) (hσ : σ[i]? = some (some (.str h))) {b : Bool} (hb : decide (h ∈ zs) = b) (q : ∀ H', Same H H' → if b = true then R σ H' Q else Q (.bl false) H') : tAndV (tOp (rIn K false) (tVar i) (tTup (tStrs zs))) R σ H Q :=
  ⟨_, hσ, tup_strs zs hz fun p hp => ⟨p, _, rfl, .inr (SqT.of upd_same), rfl, flat_strs zs, by
    have key := q _ (Same.new (o := .tup (zs.map V.str)) hp)
    have e : V.bl (if false = true then !inV (.str h) (zs.map V.str) else inV (.str h) (zs.map V.str)) = V.bl b := by
      show V.bl (inV (.str h) (zs.map V.str)) = _
      rw [inV_str, hb]
    rw [e]
    refine ⟨b, rfl, ?_⟩
    cases b with
    | true => exact key
    | false => exact key⟩⟩
/-! ### ends_open -/
def sp_ends_open (K : PySem.W.Frag) (n : Nat) : Sp := fun vs H Q _ => ∃ (v : V) (t : Tm), vs = [v] ∧ DT K H v t.d ∧ Tx n t ∧ ∀ H', Same H H' → Q (.bl t.ends) H'
theorem ok_ends_open (T : Txt w K mg) : ∀ n, FnOk P w K mg base CX0 (n + 1) (a_ends_open K) (fdOf K (a_ends_open K)) ps_ends_open (sp_ends_open K n) := by
  intro n
  induction n with
  | zero =>
    refine ok0 T.f_ends_open sc_ends_open (fun vs H Q E h => ?_) (fun cdv A outer s H vs Q E hr h => ?_)
    · obtain ⟨v, t, rfl, _⟩ := h; rfl
    · obtain ⟨v, t, rfl, hD, hx, k⟩ := h
      cases hx
  | succ n ih =>
    have G_ends_open := ih
    refine ok0 T.f_ends_open sc_ends_open (fun vs H Q E h => ?_) (fun cdv A outer s H vs Q E hr h => ?_)
    · obtain ⟨v, t, rfl, _⟩ := h; rfl
    · obtain ⟨v, t, rfl, hD, hx, k⟩ := h
      have hU64 := hr.units
      have hr_ends_open := hr
      refine ⟨_, (pss_cons (ps_set (i := 1) sc_ends_open.nd rfl (Or.inl rfl) (pe_ix (k_ix K) (pv 0) pe_int (fun _ _ => rfl))) (pss_cons (ps_if (PW.pt (pw_or (pt_cmpR (k_in K) (pv 1) (pe_cR rfl T.g_DUTIES) (by rfl)) (pw_or1 (pt_cmpR (k_eq K hU64) (pv 1) pe_str (nomark _))))) (pss_one (ps_ret (pe_or (pe_cmpR op_isN (pe_ix (k_ix K) (pv 0) (pe_un un_neg pe_int) (fun _ _ => rfl)) pe_non (nomark _)) (pe_one (pe_call G_ends_open hr_ends_open rfl T.g_ends_open T.k_ends_open T.b_ends_open .nil pass0 (pa_cons (pe_ix (k_ix K) (pv 0) (pe_un un_neg pe_int) (fun _ _ => rfl)) pa_nil)))))) pss_nil) (pss_one (ps_ret (pe_and (pe_cmpR (k_in K) (pv 1) (pe_tup (pa_cons pe_str (pa_cons pe_str pa_nil))) (by rfl)) (pe_one (pe_call G_ends_open hr_ends_open rfl T.g_ends_open T.k_ends_open T.b_ends_open .nil pass0 (pa_cons (pe_ix (k_ix K) (pv 0) (pe_un un_neg pe_int) (fun _ _ => rfl)) pa_nil)))))))), ?_⟩
      have S := Same.refl H
      cases hx with
      | done =>
        obtain ⟨a, rfl, hS⟩ := tm_done hD
        refine ixT rfl hS at0 ?_
        refine tt_inG (h := "done") (b := false) (duties_at T _) rfl (by decide +kernel) (no (by decide) (tt_eqN (h := "done") rfl (by decide +kernel) (no (by decide) (?_))))
        exact andIn (h := "done") (b := false) ["repeat", "forever"] (by decide) rfl (by decide +kernel) fun H1 s1 => k H1 (S.trans s1)
      | breach h1 h2 =>
        obtain ⟨a, b, rfl, hS, hB⟩ := tm_breach hD
        refine ixT rfl hS at0 ?_
        refine tt_inG (h := "breach") (b := false) (duties_at T _) rfl (by decide +kernel) (no (by decide) (tt_eqN (h := "breach") rfl (by decide +kernel) (no (by decide) (?_))))
        exact andIn (h := "breach") (b := false) ["repeat", "forever"] (by decide) rfl (by decide +kernel) fun H1 s1 => k H1 (S.trans s1)
      | wait h1 h2 =>
        obtain ⟨a, rfl, hS⟩ := tm_wait hD
        refine ixT rfl hS at0 ?_
        refine tt_inG (h := "wait") (b := false) (duties_at T _) rfl (by decide +kernel) (no (by decide) (tt_eqN (h := "wait") rfl (by decide +kernel) (no (by decide) (?_))))
        exact andIn (h := "wait") (b := false) ["repeat", "forever"] (by decide) rfl (by decide +kernel) fun H1 s1 => k H1 (S.trans s1)
      | may hw ha h1 h2 =>
        obtain ⟨a, rfl, hS⟩ := tm_may hD
        refine ixT rfl hS at0 ?_
        refine tt_inG (h := "may") (b := false) (duties_at T _) rfl (by decide +kernel) (no (by decide) (tt_eqN (h := "may") rfl (by decide +kernel) (no (by decide) (?_))))
        exact andIn (h := "may") (b := false) ["repeat", "forever"] (by decide) rfl (by decide +kernel) fun H1 s1 => k H1 (S.trans s1)
      | @grp n g ks h1 h2 hks =>
        obtain ⟨a, b, us, rfl, hS, hB, hU⟩ := tm_grp hD
        refine ixT rfl hS at0 ?_
        refine tt_inG (h := g.str) (b := false) (duties_at T _) rfl (by cases g <;> decide +kernel) (no (by decide) (tt_eqN (h := g.str) rfl (by cases g <;> decide +kernel) (no (by decide) (?_))))
        exact andIn (h := g.str) (b := false) ["repeat", "forever"] (by decide) rfl (by cases g <;> decide +kernel) fun H1 s1 => k H1 (S.trans s1)
      | til hp hw ha =>
        obtain ⟨a, u, rfl, hS, hu⟩ := tm_til hD
        refine ixT rfl hS at0 ?_
        refine tt_inG (h := "until") (b := false) (duties_at T _) rfl (by decide +kernel) (no (by decide) (tt_eqN (h := "until") rfl (by decide +kernel) (no (by decide) (?_))))
        exact andIn (h := "until") (b := false) ["repeat", "forever"] (by decide) rfl (by decide +kernel) fun H1 s1 => k H1 (S.trans s1)
      | @duty n b ww aa kk hw ha h1 h2 =>
        obtain ⟨a, rfl, hS⟩ := tm_duty hD
        refine ixT rfl hS at0 ?_
        refine tt_inG (h := dutyS b) (b := true) (duties_at T _) rfl (by cases b <;> decide +kernel) (yes rfl (?_))
        exact yes rfl (ixLast rfl hS rfl ⟨rfl, _, rfl, yes (by decide) (k _ S)⟩)
      | @dutyE n b ww aa kk o hw ha h1 h2 ho =>
        obtain ⟨a, u, rfl, hS, hu⟩ := tm_dutyE hD
        refine ixT rfl hS at0 ?_
        refine tt_inG (h := dutyS b) (b := true) (duties_at T _) rfl (by cases b <;> decide +kernel) (yes rfl (?_))
        refine yes rfl (ixLast rfl hS rfl ⟨rfl, _, rfl, ?_⟩)
        rw [is_non hu]
        exact no (by decide) (ixLast rfl hS rfl ⟨u, o, rfl, hu, ho, k⟩)
      | whn hw ha h1 h2 hp =>
        obtain ⟨a, u, rfl, hS, hu⟩ := tm_whn hD
        refine ixT rfl hS at0 ?_
        refine tt_inG (h := "when") (b := false) (duties_at T _) rfl (by decide +kernel) (no (by decide) (tt_eqY rfl (yes rfl (?_))))
        exact ixLast rfl hS rfl ⟨rfl, _, rfl, yes (by decide) (k _ S)⟩
      | @whnE n ww aa kk p o hw ha h1 h2 hp ho =>
        obtain ⟨a, u, y, rfl, hS, hu, hy⟩ := tm_whnE hD
        refine ixT rfl hS at0 ?_
        refine tt_inG (h := "when") (b := false) (duties_at T _) rfl (by decide +kernel) (no (by decide) (tt_eqY rfl (yes rfl (?_))))
        refine ixLast rfl hS rfl ⟨rfl, _, rfl, ?_⟩
        rw [is_non hy]
        exact no (by decide) (ixLast rfl hS rfl ⟨y, o, rfl, hy, ho, k⟩)
      | @rep n i p h1 h2 hp =>
        obtain ⟨a, u, rfl, hS, hu⟩ := tm_rep hD
        refine ixT rfl hS at0 ?_
        refine tt_inG (h := "repeat") (b := false) (duties_at T _) rfl (by decide +kernel) (no (by decide) (tt_eqN (h := "repeat") rfl (by decide +kernel) (no (by decide) (?_))))
        exact andIn (h := "repeat") (b := true) ["repeat", "forever"] (by decide) rfl (by decide +kernel) fun H1 s1 => ixLast rfl (s1.tup hS) rfl ⟨u, p, rfl, s1.dt hu, hp, fun H2 s2 => k H2 (s1.trans s2)⟩
      | @ever n p hp =>
        obtain ⟨a, u, rfl, hS, hu⟩ := tm_ever hD
        refine ixT rfl hS at0 ?_
        refine tt_inG (h := "forever") (b := false) (duties_at T _) rfl (by decide +kernel) (no (by decide) (tt_eqN (h := "forever") rfl (by decide +kernel) (no (by decide) (?_))))
        exact andIn (h := "forever") (b := true) ["repeat", "forever"] (by decide) rfl (by decide +kernel) fun H1 s1 => ixLast rfl (s1.tup hS) rfl ⟨u, p, rfl, s1.dt hu, hp, fun H2 s2 => k H2 (s1.trans s2)⟩
end
end DD
namespace DD
open PySem PySem.Spec
open PyProof.Rows L2
section
variable {base : Heap} {mg : Str → Option Value} {K : PySem.W.Frag} {w : World} {P : Program}
def sp_term_text (K : PySem.W.Frag) (n : Nat) : Sp := fun vs H Q _ => ∃ (v : V) (t : Tm), vs = [v] ∧ DT K H v t.d ∧ Tx n t ∧ ∀ H', Same H H' → Q (.str t.text) H'
def sp_part_text (K : PySem.W.Frag) (n : Nat) : Sp := fun vs H Q _ => ∃ (v : V) (t : Tm), vs = [v] ∧ DT K H v t.d ∧ Tx n t ∧ ∀ H', Same H H' → Q (.str t.ptext) H'
def elseT : Option Tm → Str
  | none => ("" : Str)
  | some t => (" else " : Str) ++ t.ptext
def OT (K : PySem.W.Frag) (H : Hp) (n : Nat) (v : V) : Option Tm → Prop
  | none => v = .non
  | some t => DT K H v t.d ∧ Tx n t
def sp_else_text (K : PySem.W.Frag) (n : Nat) : Sp := fun vs H Q _ => ∃ (v : V) (o : Option Tm), vs = [v] ∧ OT K H n v o ∧ ∀ H', Same H H' → Q (.str (elseT o)) H'
theorem wraps_in (t : Tm) : (decide (t.hd ∈ groupS) || decide (t.hd = "until")) = t.wraps := by
  have g : ∀ (z : Str) (b : Bool), (decide (z ∈ groupS) || decide (z = "until")) = b → t.hd = z → t.wraps = b → (decide (t.hd ∈ groupS) || decide (t.hd = "until")) = t.wraps := fun z b h e1 e2 => by rw [e1, h, e2]
  cases t with
  | duty b => exact g (dutyS b) false (by cases b <;> decide +kernel) rfl rfl
  | dutyE b => exact g (dutyS b) false (by cases b <;> decide +kernel) rfl rfl
  | grp b => exact g b.str true (by cases b <;> decide +kernel) rfl rfl
  | done => exact g "done" false (by decide +kernel) rfl rfl
  | breach => exact g "breach" false (by decide +kernel) rfl rfl
  | wait => exact g "wait" false (by decide +kernel) rfl rfl
  | may => exact g "may" false (by decide +kernel) rfl rfl
  | whn => exact g "when" false (by decide +kernel) rfl rfl
  | whnE => exact g "when" false (by decide +kernel) rfl rfl
  | til => exact g "until" true (by decide +kernel) rfl rfl
  | rep => exact g "repeat" false (by decide +kernel) rfl rfl
  | ever => exact g "forever" false (by decide +kernel) rfl rfl
theorem part_of (T : Txt w K mg) {n c : Nat} (hn : n ≤ 8) (G_term_text : FnOk P w K mg base CX0 (c + 1) (a_term_text K) (fdOf K (a_term_text K)) ps_term_text (sp_term_text K n)) : FnOk P w K mg base CX0 (c + 2) (a_part_text K) (fdOf K (a_part_text K)) ps_part_text (sp_part_text K n) := by
  have G_in_brackets := ok_in_brackets (P := P) (base := base) T
  refine ok0 T.f_part_text sc_part_text (fun vs H Q E h => ?_) (fun cdv A outer s H vs Q E hr h => ?_)
  · obtain ⟨_, _, rfl, _⟩ := h; rfl
  · obtain ⟨v, t, rfl, hD, hx, k⟩ := h
    have hU64 := hr.units
    have hr_term_text := hr
    have hr_in_brackets : Room 1 _ := hr.mono (by omega)
    refine ⟨_, (pss_cons (ps_set (i := 1) sc_part_text.nd rfl (Or.inl rfl) (pe_call G_term_text hr_term_text rfl T.g_term_text T.k_term_text T.b_term_text .nil pass0 (pa_cons (pv 0) pa_nil))) (pss_one (ps_ret (pe_ifExp (PW.pt (pw_or (pt_cmpR (k_in K) (pe_ix (k_ix K) (pv 0) pe_int (fun _ _ => rfl)) (pe_cR rfl T.g_GROUPS) (by rfl)) (pw_or1 (pt_cmpR (k_eq K hU64) (pe_ix (k_ix K) (pv 0) pe_int (fun _ _ => rfl)) pe_str (nomark _))))) (pe_call G_in_brackets hr_in_brackets rfl T.g_in_brackets T.k_in_brackets T.b_in_brackets .nil pass0 (pa_cons (pv 1) pa_nil)) (pv 1))))), ?_⟩
    refine ⟨_, rfl, v, t, rfl, hD, hx, fun H1 s1 => ?_⟩
    have hl := hx.len
    have htb := tb_le hn
    obtain ⟨a, us, rfl, hS, hU⟩ := tm_at hD
    have ew := wraps_in t
    have wr : t.wraps = true → tCall sp_in_brackets [] E0 (tCons (tVar 1) tNil) [some (.ref a), some (.str t.text)] H1 Q := fun e => ⟨_, rfl, t.text, rfl, by omega, fun H2 s2 => by
      have := k H2 (s1.trans s2)
      unfold Tm.ptext Tm.par at this
      rw [e] at this
      exact this⟩
    have nw : t.wraps = false → tVar 1 [some (.ref a), some (.str t.text)] H1 Q := fun e => ⟨_, rfl, by
      have := k H1 s1
      unfold Tm.ptext Tm.par at this
      rw [e] at this
      exact this⟩
    by_cases h1 : t.hd ∈ groupS
    · rw [decide_eq_true h1, Bool.true_or] at ew
      exact tt_hinG (h := t.hd) (b := true) (groups_at T _) rfl (s1.tup hS) (decide_eq_true h1) (yes rfl (yes rfl (wr ew.symm)))
    · rw [decide_eq_false h1, Bool.false_or] at ew
      refine tt_hinG (h := t.hd) (b := false) (groups_at T _) rfl (s1.tup hS) (decide_eq_false h1) (no (by decide) ?_)
      by_cases h2 : t.hd = "until"
      · rw [decide_eq_true h2] at ew
        have hS1 := s1.tup hS
        rw [h2] at hS1
        exact tt_hdY rfl hS1 (yes rfl (wr ew.symm))
      · rw [decide_eq_false h2] at ew
        exact tt_hdN rfl (s1.tup hS) h2 (no (by decide) (nw ew.symm))
theorem Tx.plen {n : Nat} {t : Tm} (hn : n ≤ 8) (h : Tx n t) : t.ptext.length ≤ 446082 := Nat.le_trans (par_le h.len) (by have := tb_le hn; omega)
theorem else_of (T : Txt w K mg) {n c : Nat} (hn : n ≤ 8) (G_part_text : FnOk P w K mg base CX0 (c + 2) (a_part_text K) (fdOf K (a_part_text K)) ps_part_text (sp_part_text K n)) : FnOk P w K mg base CX0 (c + 3) (a_else_text K) (fdOf K (a_else_text K)) ps_else_text (sp_else_text K n) := by
  refine ok0 T.f_else_text sc_else_text (fun vs H Q E h => ?_) (fun cdv A outer s H vs Q E hr h => ?_)
  · obtain ⟨_, _, rfl, _⟩ := h; rfl
  · obtain ⟨v, o, rfl, ho, k⟩ := h
    have hU64 := hr.units
    have hr_part_text := hr
    refine ⟨_, (pss_one (ps_ret (pe_ifExp (pt_cmpR op_isN (pv 0) pe_non (nomark _)) pe_str (pe_op (k_add K) pe_str (pe_call G_part_text hr_part_text rfl T.g_part_text T.k_part_text T.b_part_text .nil pass0 (pa_cons (pv 0) pa_nil)))))), ?_⟩
    cases o with
    | none =>
      obtain rfl : v = .non := ho
      exact ⟨_, rfl, rfl, _, rfl, yes (by decide) (k _ (Same.refl H))⟩
    | some t =>
      obtain ⟨hD, hx⟩ := ho
      have e6 : (" else " : Str).length = 6 := by decide +kernel
      (refine ⟨_, rfl, rfl, _, rfl, ?_⟩)
      rw [is_non hD]
      exact no (by decide) ⟨_, rfl, v, t, rfl, hD, hx, fun H1 s1 => addS2 (K := K) (show (" else " : Str).length + t.ptext.length ≤ 1000000 by have := hx.plen hn; omega) (k H1 s1)⟩
def whenT (ww x : Str) (k : Int) (p : Tm) (o : Option Tm) : Tm := match o with
  | none => .whn ww x k p
  | some o => .whnE ww x k p o
def sp_when_text (K : PySem.W.Frag) (n : Nat) : Sp := fun vs H Q _ => ∃ (a : Addr) (ww x : Str) (k : Int) (p : Tm) (o : Option Tm) (u y : V), vs = [.ref a] ∧ SqT K H a [.str "when", .str ww, .str x, .int k, u, y] ∧ okS ww ∧ okS x ∧ 1 ≤ k ∧ k ≤ 30 ∧ DT K H u p.d ∧ Tx n p ∧ OT K H n y o ∧ ∀ H', Same H H' → Q (.str (whenT ww x k p o).text) H'
theorem when_of (T : Txt w K mg) {n c : Nat} (hn : n ≤ 7) (hc : n ≤ c) (G_part_text : FnOk P w K mg base CX0 (c + 2) (a_part_text K) (fdOf K (a_part_text K)) ps_part_text (sp_part_text K n)) (G_else_text : FnOk P w K mg base CX0 (c + 3) (a_else_text K) (fdOf K (a_else_text K)) ps_else_text (sp_else_text K n)) :
    FnOk P w K mg base CX0 (c + 4) (a_when_text K) (fdOf K (a_when_text K)) ps_when_text (sp_when_text K n) := by
  have G_ends_open := ok_ends_open (P := P) (base := base) T n
  have G_in_brackets := ok_in_brackets (P := P) (base := base) T
  refine ok0 T.f_when_text sc_when_text (fun vs H Q E h => ?_) (fun cdv A outer s H vs Q E hr h => ?_)
  · obtain ⟨_, _, _, _, _, _, _, _, rfl, _⟩ := h; rfl
  · obtain ⟨a, ww, x, i, p, o, u, y, rfl, hS, hw, hx, h1, h2, hu, hp, ho, k⟩ := h
    have hU64 := hr.units
    have hr_part_text : Room (c + 2) _ := hr.mono (by omega)
    have hr_else_text := hr
    have hr_ends_open : Room (n + 1) _ := hr.mono (by omega)
    have hr_in_brackets : Room 1 _ := hr.mono (by omega)
    refine ⟨_, (pss_cons (ps_asg (pv 0) (k_tup K (n := 6) rfl (pgs_cons (pg_name (i := 1) sc_when_text.nd rfl (Or.inl rfl) (Or.inl rfl)) (pgs_cons (pg_name (i := 2) sc_when_text.nd rfl (Or.inl rfl) (Or.inl rfl)) (pgs_cons (pg_name (i := 3) sc_when_text.nd rfl (Or.inl rfl) (Or.inl rfl)) (pgs_cons (pg_name (i := 4) sc_when_text.nd rfl (Or.inl rfl) (Or.inl rfl)) (pgs_cons (pg_name (i := 5) sc_when_text.nd rfl (Or.inl rfl) (Or.inl rfl)) (pgs_cons (pg_name (i := 6) sc_when_text.nd rfl (Or.inl rfl) (Or.inl rfl)) pgs_nil)))))))) (pss_cons (ps_set (i := 7) sc_when_text.nd rfl (Or.inl rfl) (pe_call G_part_text hr_part_text rfl T.g_part_text T.k_part_text T.b_part_text .nil pass0 (pa_cons (pv 5) pa_nil))) (pss_cons (ps_if (PW.pt (pw_and (pt_cmpR op_notN (pv 6) pe_non (nomark _)) (pw_and1 (pt_val (pe_call G_ends_open hr_ends_open rfl T.g_ends_open T.k_ends_open T.b_ends_open .nil pass0 (pa_cons (pv 5) pa_nil)))))) (pss_one (ps_set (i := 7) sc_when_text.nd rfl (Or.inl rfl) (pe_call G_in_brackets hr_in_brackets rfl T.g_in_brackets T.k_in_brackets T.b_in_brackets .nil pass0 (pa_cons (pv 7) pa_nil)))) pss_nil) (pss_one (ps_ret (pe_joined (.cons pe_str (.cons (pe_fmt (pv 2)) (.cons pe_str (.cons (pe_fmt (pv 3)) (.cons pe_str (.cons (pe_fmt (pv 4)) (.cons pe_str (.cons (pe_fmt (pv 7)) (.cons (pe_fmt (pe_call G_else_text hr_else_text rfl T.g_else_text T.k_else_text T.b_else_text .nil pass0 (pa_cons (pv 6) pa_nil))) .nil))))))))))))))), ?_⟩
    have S0 := Same.refl H
    have e5 : ("when " : Str).length = 5 := by decide +kernel
    have e6 : (" does " : Str).length = 6 := by decide +kernel
    have e8 : (" within " : Str).length = 8 := by decide +kernel
    have e4 : (" so " : Str).length = 4 := by decide +kernel
    have e0 : Str.empty.length = 0 := by decide +kernel
    have ee : (" else " : Str).length = 6 := by decide +kernel
    have ez : ("" : Str).length = 0 := by decide +kernel
    have hn8 : n ≤ 8 := by omega
    have hpl := hp.plen hn8
    have hil := (numS_ok h1 h2).2.1
    have hwl := hw.2
    have hxl := hx.2
    have hel : (elseT o).length ≤ 446090 := by
      cases o with
      | none => show ("" : Str).length ≤ _; omega
      | some t => have := ho.2.plen hn8; simp only [elseT, len_app]; omega
    have okL : ∀ {z : Str}, z.length ≤ 1000000 → z.length ≤ sizeLine := fun h => Nat.le_trans h (by rw [sizeLine_eq]; decide)
    have join : ∀ {z : Str} {H2 : Hp}, Same H H2 → z.length ≤ 446084 → (∀ H', Same H H' → Q (.str ((((((((((Str.empty ++ ("when " : Str)) ++ ww) ++ (" does " : Str)) ++ x) ++ (" within " : Str)) ++ numS i) ++ (" so " : Str)) ++ z) ++ elseT o))) H') →
        tJs [tC (.str (Str.ofString "when ")), tFmt (tVar 2), tC (.str (Str.ofString " does ")), tFmt (tVar 3), tC (.str (Str.ofString " within ")), tFmt (tVar 4), tC (.str (Str.ofString " so ")), tFmt (tVar 7), tFmt (tCall (sp_else_text K n) [] E0 (tCons (tVar 6) tNil))]
          Str.empty [some (.ref a), some (.str "when"), some (.str ww), some (.str x), some (.int i), some u, some y, some (.str z)] H2 fun out H1 => Q (.str out) H1 := by
      intro z H2 s2 hz kk
      refine ⟨_, rfl, okL (by rw [len_app]; show Str.empty.length + ("when " : Str).length ≤ _; omega), _, rfl, .inl ⟨ww, rfl, okL (by omega), ww, rfl, okL (by simp only [len_app]; show Str.empty.length + ("when " : Str).length + ww.length ≤ _; omega), ?_⟩⟩
      refine ⟨_, rfl, okL (by simp only [len_app]; show Str.empty.length + ("when " : Str).length + ww.length + (" does " : Str).length ≤ _; omega), _, rfl, .inl ⟨x, rfl, okL (by omega), x, rfl, okL (by simp only [len_app]; show Str.empty.length + ("when " : Str).length + ww.length + (" does " : Str).length + x.length ≤ _; omega), ?_⟩⟩
      refine ⟨_, rfl, okL (by simp only [len_app]; show Str.empty.length + ("when " : Str).length + ww.length + (" does " : Str).length + x.length + (" within " : Str).length ≤ _; omega), _, rfl, .inr ⟨i, rfl, Nat.lt_of_le_of_lt (Nat.log2_le_self _) (by omega), numS i, rfl, okL (by simp only [len_app]; show Str.empty.length + ("when " : Str).length + ww.length + (" does " : Str).length + x.length + (" within " : Str).length + (numS i).length ≤ _; omega), ?_⟩⟩
      refine ⟨_, rfl, okL (by simp only [len_app]; show Str.empty.length + ("when " : Str).length + ww.length + (" does " : Str).length + x.length + (" within " : Str).length + (numS i).length + (" so " : Str).length ≤ _; omega), _, rfl, .inl ⟨z, rfl, okL (by omega), z, rfl, okL (by simp only [len_app]; show Str.empty.length + ("when " : Str).length + ww.length + (" does " : Str).length + x.length + (" within " : Str).length + (numS i).length + (" so " : Str).length + z.length ≤ _; omega), ?_⟩⟩
      refine ⟨_, rfl, y, o, rfl, ?_, fun H3 s3 => .inl ⟨elseT o, rfl, okL (by omega), elseT o, rfl, okL (by simp only [len_app]; show Str.empty.length + ("when " : Str).length + ww.length + (" does " : Str).length + x.length + (" within " : Str).length + (numS i).length + (" so " : Str).length + z.length + (elseT o).length ≤ _; omega), kk H3 (s2.trans s3)⟩⟩
      cases o with
      | none => exact ho
      | some t => exact ⟨s2.dt ho.1, ho.2⟩
    refine ⟨_, rfl, a, _, rfl, hS, rfl, _, _, rfl, _, _, rfl, _, _, rfl, _, _, rfl, _, _, rfl, _, _, rfl, rfl, ?_⟩
    refine ⟨_, rfl, u, p, rfl, hu, hp, fun H1 s1 => ?_⟩
    cases o with
    | none =>
      obtain rfl : y = .non := ho
      exact ⟨_, rfl, rfl, _, rfl, no (by decide) (no (by decide) (join s1 (by omega) fun H' s' => k H' s'))⟩
    | some t =>
      have hz := is_non ho.1
      (refine ⟨_, rfl, rfl, _, rfl, ?_⟩)
      rw [hz]
      refine yes rfl ⟨_, rfl, u, p, rfl, s1.dt hu, hp.mono (by omega), fun H2 s2 => ⟨_, rfl, ite2 (fun c => ?_) (fun c => ?_)⟩⟩
      · refine ⟨_, rfl, p.ptext, rfl, by omega, fun H3 s3 => join (s1.trans (s2.trans s3)) (brk_le hpl) fun H' s' => ?_⟩
        have := k H' s'
        simp only [whenT, Tm.text] at this
        rw [if_pos c] at this
        exact this
      · refine join (s1.trans s2) (by omega) fun H' s' => ?_
        have := k H' s'
        simp only [whenT, Tm.text] at this
        rw [if_neg c] at this
        exact this
end
end DD
namespace DD
open PySem PySem.Spec
open PyProof.Rows L2
section
variable {base : Heap} {mg : Str → Option Value} {K : PySem.W.Frag} {w : World} {P : Program}
theorem mYes {z : Str} {t : TS} {r : Str → TS} {D : Ends} {σ : L2.St} {H : Hp} (q : t D σ H) : mStr z t r z D σ H := by unfold mStr; rw [if_pos rfl]; exact q
theorem mNo {h z : Str} {t : TS} {r : Str → TS} {D : Ends} {σ : L2.St} {H : Hp} (ne : ¬ h = z) (q : r h D σ H) : mStr z t r h D σ H := by unfold mStr; rw [if_neg ne]; exact q
theorem okL {z : Str} (h : z.length ≤ 2000000) : z.length ≤ sizeLine := Nat.le_trans h (by rw [sizeLine_eq]; decide)
section
variable {σ : L2.St} {H : Hp} {ts : List TE} {acc z : Str} {n m : Nat} {Q : Str → Hp → Prop}
theorem lapp (ha : acc.length ≤ n) (hz : z.length ≤ m) : (acc ++ z).length ≤ n + m := by rw [len_app]; omega
theorem jC (ha : acc.length ≤ n) (hz : z.length ≤ m) (h : n + m ≤ 2000000) (q : (acc ++ z).length ≤ n + m → tJs ts (acc ++ z) σ H Q) : tJs (tC (.str z) :: ts) acc σ H Q := ⟨z, rfl, okL (Nat.le_trans (lapp ha hz) h), q (lapp ha hz)⟩
theorem fmS (ha : acc.length ≤ n) (hz : z.length ≤ m) (h : n + m ≤ 2000000) (q : (acc ++ z).length ≤ n + m → tJs ts (acc ++ z) σ H Q) : (∃ y : Str, V.str z = .str y ∧ y.length ≤ sizeLine ∧ ∃ y2 : Str, V.str y = .str y2 ∧ (acc ++ y2).length ≤ sizeLine ∧ tJs ts (acc ++ y2) σ H Q) ∨
    ∃ i : Int, V.str z = .int i ∧ i.natAbs.log2 < 1920 ∧ ∃ y2 : Str, V.str (toString i) = .str y2 ∧ (acc ++ y2).length ≤ sizeLine ∧ tJs ts (acc ++ y2) σ H Q :=
  .inl ⟨z, rfl, okL (by omega), z, rfl, okL (Nat.le_trans (lapp ha hz) h), q (lapp ha hz)⟩
theorem fmI {i : Int} (h1 : 1 ≤ i) (h2 : i ≤ 30) (ha : acc.length ≤ n) (h : n + 2 ≤ 2000000) (q : (acc ++ numS i).length ≤ n + 2 → tJs ts (acc ++ numS i) σ H Q) : (∃ y : Str, V.int i = .str y ∧ y.length ≤ sizeLine ∧ ∃ y2 : Str, V.str y = .str y2 ∧ (acc ++ y2).length ≤ sizeLine ∧ tJs ts (acc ++ y2) σ H Q) ∨
    ∃ j : Int, V.int i = .int j ∧ j.natAbs.log2 < 1920 ∧ ∃ y2 : Str, V.str (toString j) = .str y2 ∧ (acc ++ y2).length ≤ sizeLine ∧ tJs ts (acc ++ y2) σ H Q :=
  .inr ⟨i, rfl, (numS_ok h1 h2).2.2, numS i, rfl, okL (Nat.le_trans (lapp ha (numS_ok h1 h2).2.1) h), q (lapp ha (numS_ok h1 h2).2.1)⟩
end
theorem elseT_len {n : Nat} {o : Tm} (hn : n ≤ 8) (h : Tx n o) : (elseT (some o)).length ≤ 446088 := by
  have := h.plen hn
  have e1 : (" else " : Str).length = 6 := by decide +kernel
  simp only [elseT, len_app]
  omega
theorem e_nil : Str.empty.length ≤ 0 := by decide +kernel
theorem ok_term_text (T : Txt w K mg) : ∀ n, n ≤ 8 → FnOk P w K mg base CX0 (4 * n + 10) (a_term_text K) (fdOf K (a_term_text K)) ps_term_text (sp_term_text K n) := by
  intro n
  induction n with
  | zero =>
    intro _
    refine ok0 T.f_term_text sc_term_text (fun vs H Q E h => ?_) (fun cdv A outer s H vs Q E hr h => ?_)
    · obtain ⟨v, t, rfl, _⟩ := h; rfl
    · obtain ⟨v, t, rfl, hD, hx, k⟩ := h
      cases hx
  | succ n ih =>
    intro hn
    have G_part_text := part_of (c := 4 * n + 9) T (by omega) (ih (by omega))
    have G_else_text := else_of T (by omega) G_part_text
    have G_when_text := when_of T (by omega) (by omega) G_part_text G_else_text
    refine ok0 (k := 4 * n + 13) T.f_term_text sc_term_text (fun vs H Q E h => ?_) (fun cdv A outer s H vs Q E hr h => ?_)
    · obtain ⟨v, t, rfl, _⟩ := h; rfl
    · obtain ⟨v, t, rfl, hD, hx, k⟩ := h
      have hr_part_text : Room (4 * n + 9 + 2) _ := hr.mono (by omega)
      have hr_else_text : Room (4 * n + 9 + 3) _ := hr.mono (by omega)
      have hr_when_text : Room (4 * n + 9 + 4) _ := hr
      refine ⟨_, (pss_one (ps_match (pe_ix (k_ix K) (pv 0) pe_int (fun _ _ => rfl)) (mcs_str (pss_one (ps_ret (pe_op (k_add K) pe_str (k_join K pe_str (pe_ix (k_ix K) (pv 0) pe_int (fun _ _ => rfl))))))
      (mcs_str (pss_one (ps_ret (pe_joined (.cons pe_str (.cons (pe_fmt (pe_ix (k_ix K) (pv 0) pe_int (fun _ _ => rfl))) .nil)))))
      (mcs_str (pss_one (ps_ret (pe_joined (.cons (pe_fmt (pe_ix (k_ix K) (pv 0) pe_int (fun _ _ => rfl))) (.cons pe_str (.cons (pe_fmt (pe_ix (k_ix K) (pv 0) pe_int (fun _ _ => rfl))) (.cons pe_str (.cons (pe_fmt (pe_ix (k_ix K) (pv 0) pe_int (fun _ _ => rfl))) (.cons (pe_fmt (pe_call G_else_text hr_else_text rfl T.g_else_text T.k_else_text T.b_else_text .nil pass0 (pa_cons (pe_ix (k_ix K) (pv 0) pe_int (fun _ _ => rfl)) pa_nil))) .nil)))))))))
      (mcs_str (pss_one (ps_ret (pe_joined (.cons (pe_fmt (pe_ix (k_ix K) (pv 0) pe_int (fun _ _ => rfl))) (.cons pe_str (.cons (pe_fmt (pe_ix (k_ix K) (pv 0) pe_int (fun _ _ => rfl))) (.cons pe_str (.cons (pe_fmt (pe_ix (k_ix K) (pv 0) pe_int (fun _ _ => rfl))) (.cons (pe_fmt (pe_call G_else_text hr_else_text rfl T.g_else_text T.k_else_text T.b_else_text .nil pass0 (pa_cons (pe_ix (k_ix K) (pv 0) pe_int (fun _ _ => rfl)) pa_nil))) .nil)))))))))
      (mcs_str (pss_one (ps_ret (pe_joined (.cons (pe_fmt (pe_ix (k_ix K) (pv 0) pe_int (fun _ _ => rfl))) (.cons pe_str (.cons (pe_fmt (pe_ix (k_ix K) (pv 0) pe_int (fun _ _ => rfl))) (.cons pe_str (.cons (pe_fmt (pe_ix (k_ix K) (pv 0) pe_int (fun _ _ => rfl))) .nil))))))))
      (mcs_str (pss_one (ps_ret (pe_call G_when_text hr_when_text rfl T.g_when_text T.k_when_text T.b_when_text .nil pass0 (pa_cons (pv 0) pa_nil))))
      (mcs_str (pss_one (ps_ret (pe_joined (.cons (pe_fmt (pe_call G_part_text hr_part_text rfl T.g_part_text T.k_part_text T.b_part_text .nil pass0 (pa_cons (pe_ix (k_ix K) (pv 0) pe_int (fun _ _ => rfl)) pa_nil))) (.cons pe_str (.cons (pe_fmt (pe_ix (k_ix K) (pv 0) pe_int (fun _ _ => rfl))) (.cons pe_str (.cons (pe_fmt (pe_ix (k_ix K) (pv 0) pe_int (fun _ _ => rfl))) .nil))))))))
      (mcs_str (pss_one (ps_ret (pe_joined (.cons pe_str (.cons (pe_fmt (pe_ix (k_ix K) (pv 0) pe_int (fun _ _ => rfl))) (.cons pe_str (.cons (pe_fmt (pe_call G_part_text hr_part_text rfl T.g_part_text T.k_part_text T.b_part_text .nil pass0 (pa_cons (pe_ix (k_ix K) (pv 0) pe_int (fun _ _ => rfl)) pa_nil))) .nil)))))))
      (mcs_str (pss_one (ps_ret (pe_op (k_add K) pe_str (pe_call G_part_text hr_part_text rfl T.g_part_text T.k_part_text T.b_part_text .nil pass0 (pa_cons (pe_ix (k_ix K) (pv 0) pe_int (fun _ _ => rfl)) pa_nil)))))
      (mcs_str (pss_one (ps_ret pe_str))
      (mcs_any (pss_one (ps_ret (k_join K (pe_joined (.cons pe_str (.cons (pe_fmt (pe_ix (k_ix K) (pv 0) pe_int (fun _ _ => rfl))) (.cons pe_str .nil)))) (pe_lc (own := [("kid", 1)]) (by rfl) sc_term_text.nd (k_piT K (pe_ix (k_ix K) (pv 0) pe_int (fun _ _ => rfl))) (blkOk_by (own := [("kid", 1)]) (N := N_term_text) (sc := defScope s_term_text) (by decide +kernel)) (fun _ _ _ _ _ => (pg_name (i := 1) sc_term_text.nd rfl (Or.inl rfl) (Or.inr rfl))) (fun _ _ _ _ _ => pts_nil) (fun _ _ _ _ _ => (pe_call G_part_text hr_part_text rfl T.g_part_text T.k_part_text T.b_part_text .nil pass0 (pa_cons (pv 1) pa_nil)))))))))))))))))))), ?_⟩
      have S := Same.refl H
      cases hx with
      | done =>
        obtain ⟨a, rfl, hS⟩ := tm_done hD
        refine ixT rfl hS at0 ⟨_, rfl, ?_⟩
        refine mNo (h := "done") (by decide +kernel) (mNo (h := "done") (by decide +kernel) (mNo (h := "done") (by decide +kernel) (mNo (h := "done") (by decide +kernel) (mNo (h := "done") (by decide +kernel) (mNo (h := "done") (by decide +kernel) (mNo (h := "done") (by decide +kernel) (mNo (h := "done") (by decide +kernel) (mNo (h := "done") (by decide +kernel) (mYes (?_))))))))))
        exact k _ S
      | @breach n ws h1 h2 =>
        obtain ⟨a, b, rfl, hS, hB⟩ := tm_breach hD
        refine ixT rfl hS at0 ⟨_, rfl, ?_⟩
        refine mYes (?_)
        have hj := (len_join (x := " ") (m := 1) (fun y hy => (h2 y hy).2) h1 (by decide +kernel)).2
        refine ⟨⟨_, rfl⟩, ixT rfl hS at1 ⟨_, b, ws, rfl, rfl, .inr hB, ?_, addS2 (K := K) (x := "breach ") ?_ (k _ S)⟩⟩
        · have e1 : (Str.ofString " ").length = 1 := by decide +kernel
          have : ∀ l : List Str, (∀ x ∈ l, okS x) → (l.map (·.length)).sum ≤ 12 * l.length := by
            intro l
            induction l with
            | nil => intro _; simp
            | cons x r ih =>
              intro h
              have a := (h x (by simp)).2
              have b := ih fun y hy => h y (by simp [hy])
              (simp only [List.map_cons, List.sum_cons, List.length_cons])
              omega
          have := this ws h2
          rw [e1]
          omega
        · have e1 : ("breach " : Str).length = 7 := by decide +kernel
          omega
      | @wait n i h1 h2 =>
        obtain ⟨a, rfl, hS⟩ := tm_wait hD
        refine ixT rfl hS at0 ⟨_, rfl, ?_⟩
        refine mNo (h := "wait") (by decide +kernel) (mYes (?_))
        exact jC e_nil (by decide +kernel : ("wait " : Str).length ≤ 5) (by decide) fun l1 => ixT rfl hS at1 (fmI h1 h2 l1 (by decide) fun l2 => k _ S)
      | @duty n b ww x i hw ha h1 h2 =>
        obtain ⟨a, rfl, hS⟩ := tm_duty hD
        refine ixT rfl hS at0 ⟨_, rfl, ?_⟩
        cases b with
        | true =>
          refine mNo (h := "must") (by decide +kernel) (mNo (h := "must") (by decide +kernel) (mYes (?_)))
          exact ixT rfl hS at1 (fmS e_nil hw.2 (by decide) fun l1 => jC l1 (by decide +kernel : (" must " : Str).length ≤ 6) (by decide) fun l2 => ixT rfl hS at2 (fmS l2 ha.2 (by decide) fun l3 => jC l3 (by decide +kernel : (" within " : Str).length ≤ 8) (by decide) fun l4 => ixT rfl hS at3 (fmI h1 h2 l4 (by decide) fun l5 => ixT rfl hS at4 ⟨.non, none, rfl, rfl, fun H1 s1 => fmS l5 (by decide +kernel : (elseT none).length ≤ 0) (by decide) fun l6 => k _ (S.trans s1)⟩)))
        | false =>
          refine mNo (h := "ban") (by decide +kernel) (mNo (h := "ban") (by decide +kernel) (mNo (h := "ban") (by decide +kernel) (mYes (?_))))
          exact ixT rfl hS at1 (fmS e_nil hw.2 (by decide) fun l1 => jC l1 (by decide +kernel : (" must not " : Str).length ≤ 10) (by decide) fun l2 => ixT rfl hS at2 (fmS l2 ha.2 (by decide) fun l3 => jC l3 (by decide +kernel : (" for " : Str).length ≤ 5) (by decide) fun l4 => ixT rfl hS at3 (fmI h1 h2 l4 (by decide) fun l5 => ixT rfl hS at4 ⟨.non, none, rfl, rfl, fun H1 s1 => fmS l5 (by decide +kernel : (elseT none).length ≤ 0) (by decide) fun l6 => k _ (S.trans s1)⟩)))
      | @dutyE n b ww x i o hw ha h1 h2 ho =>
        obtain ⟨a, u, rfl, hS, hu⟩ := tm_dutyE hD
        refine ixT rfl hS at0 ⟨_, rfl, ?_⟩
        cases b with
        | true =>
          refine mNo (h := "must") (by decide +kernel) (mNo (h := "must") (by decide +kernel) (mYes (?_)))
          exact ixT rfl hS at1 (fmS e_nil hw.2 (by decide) fun l1 => jC l1 (by decide +kernel : (" must " : Str).length ≤ 6) (by decide) fun l2 => ixT rfl hS at2 (fmS l2 ha.2 (by decide) fun l3 => jC l3 (by decide +kernel : (" within " : Str).length ≤ 8) (by decide) fun l4 => ixT rfl hS at3 (fmI h1 h2 l4 (by decide) fun l5 => ixT rfl hS at4 ⟨u, some o, rfl, ⟨hu, ho⟩, fun H1 s1 => fmS l5 (elseT_len (by omega) ho) (by decide) fun l6 => k _ (S.trans s1)⟩)))
        | false =>
          refine mNo (h := "ban") (by decide +kernel) (mNo (h := "ban") (by decide +kernel) (mNo (h := "ban") (by decide +kernel) (mYes (?_))))
          exact ixT rfl hS at1 (fmS e_nil hw.2 (by decide) fun l1 => jC l1 (by decide +kernel : (" must not " : Str).length ≤ 10) (by decide) fun l2 => ixT rfl hS at2 (fmS l2 ha.2 (by decide) fun l3 => jC l3 (by decide +kernel : (" for " : Str).length ≤ 5) (by decide) fun l4 => ixT rfl hS at3 (fmI h1 h2 l4 (by decide) fun l5 => ixT rfl hS at4 ⟨u, some o, rfl, ⟨hu, ho⟩, fun H1 s1 => fmS l5 (elseT_len (by omega) ho) (by decide) fun l6 => k _ (S.trans s1)⟩)))
      | @may n ww x i hw ha h1 h2 =>
        obtain ⟨a, rfl, hS⟩ := tm_may hD
        refine ixT rfl hS at0 ⟨_, rfl, ?_⟩
        refine mNo (h := "may") (by decide +kernel) (mNo (h := "may") (by decide +kernel) (mNo (h := "may") (by decide +kernel) (mNo (h := "may") (by decide +kernel) (mYes (?_)))))
        exact ixT rfl hS at1 (fmS e_nil hw.2 (by decide) fun l1 => jC l1 (by decide +kernel : (" may " : Str).length ≤ 5) (by decide) fun l2 => ixT rfl hS at2 (fmS l2 ha.2 (by decide) fun l3 => jC l3 (by decide +kernel : (" within " : Str).length ≤ 8) (by decide) fun l4 => ixT rfl hS at3 (fmI h1 h2 l4 (by decide) fun l5 => k _ S)))
      | @whn n ww x i p hw ha h1 h2 hp =>
        obtain ⟨a, u, rfl, hS, hu⟩ := tm_whn hD
        refine ixT rfl hS at0 ⟨_, rfl, ?_⟩
        refine mNo (h := "when") (by decide +kernel) (mNo (h := "when") (by decide +kernel) (mNo (h := "when") (by decide +kernel) (mNo (h := "when") (by decide +kernel) (mNo (h := "when") (by decide +kernel) (mYes (?_))))))
        exact ⟨_, rfl, a, ww, x, i, p, none, u, .non, rfl, hS, hw, ha, h1, h2, hu, hp, rfl, k⟩
      | @whnE n ww x i p o hw ha h1 h2 hp ho =>
        obtain ⟨a, u, y, rfl, hS, hu, hy⟩ := tm_whnE hD
        refine ixT rfl hS at0 ⟨_, rfl, ?_⟩
        refine mNo (h := "when") (by decide +kernel) (mNo (h := "when") (by decide +kernel) (mNo (h := "when") (by decide +kernel) (mNo (h := "when") (by decide +kernel) (mNo (h := "when") (by decide +kernel) (mYes (?_))))))
        exact ⟨_, rfl, a, ww, x, i, p, some o, u, y, rfl, hS, hw, ha, h1, h2, hu, hp, ⟨hy, ho⟩, k⟩
      | @til n p ww x hp hw ha =>
        obtain ⟨a, u, rfl, hS, hu⟩ := tm_til hD
        refine ixT rfl hS at0 ⟨_, rfl, ?_⟩
        refine mNo (h := "until") (by decide +kernel) (mNo (h := "until") (by decide +kernel) (mNo (h := "until") (by decide +kernel) (mNo (h := "until") (by decide +kernel) (mNo (h := "until") (by decide +kernel) (mNo (h := "until") (by decide +kernel) (mYes (?_)))))))
        exact ixT rfl hS at1 ⟨u, p, rfl, hu, hp, fun H1 s1 => fmS e_nil (hp.plen (by omega)) (by decide) fun l1 => jC l1 (by decide +kernel : (" until " : Str).length ≤ 7) (by decide) fun l2 => ixT rfl (s1.tup hS) at2 (fmS l2 hw.2 (by decide) fun l3 => jC l3 (by decide +kernel : (" does " : Str).length ≤ 6) (by decide) fun l4 => ixT rfl (s1.tup hS) at3 (fmS l4 ha.2 (by decide) fun l5 => k _ s1))⟩
      | @rep n i p h1 h2 hp =>
        obtain ⟨a, u, rfl, hS, hu⟩ := tm_rep hD
        refine ixT rfl hS at0 ⟨_, rfl, ?_⟩
        refine mNo (h := "repeat") (by decide +kernel) (mNo (h := "repeat") (by decide +kernel) (mNo (h := "repeat") (by decide +kernel) (mNo (h := "repeat") (by decide +kernel) (mNo (h := "repeat") (by decide +kernel) (mNo (h := "repeat") (by decide +kernel) (mNo (h := "repeat") (by decide +kernel) (mYes (?_))))))))
        exact jC e_nil (by decide +kernel : ("repeat " : Str).length ≤ 7) (by decide) fun l1 => ixT rfl hS at1 (fmI h1 h2 l1 (by decide) fun l2 => jC l2 (by decide +kernel : (" " : Str).length ≤ 1) (by decide) fun l3 => ixT rfl hS at2 ⟨u, p, rfl, hu, hp, fun H1 s1 => fmS l3 (hp.plen (by omega)) (by decide) fun l4 => k _ s1⟩)
      | @ever n p hp =>
        obtain ⟨a, u, rfl, hS, hu⟩ := tm_ever hD
        refine ixT rfl hS at0 ⟨_, rfl, ?_⟩
        refine mNo (h := "forever") (by decide +kernel) (mNo (h := "forever") (by decide +kernel) (mNo (h := "forever") (by decide +kernel) (mNo (h := "forever") (by decide +kernel) (mNo (h := "forever") (by decide +kernel) (mNo (h := "forever") (by decide +kernel) (mNo (h := "forever") (by decide +kernel) (mNo (h := "forever") (by decide +kernel) (mYes (?_)))))))))
        refine ixT rfl hS at1 ⟨u, p, rfl, hu, hp, fun H1 s1 => addS2 (K := K) (x := "forever ") ?_ (k _ s1)⟩
        have := hp.plen (by omega)
        have e1 : ("forever " : Str).length = 8 := by decide +kernel
        omega
      | @grp n g ks h1 h2 hks =>
        obtain ⟨a, b, us, rfl, hS, hB, hU⟩ := tm_grp hD
        refine ixT rfl hS at0 ⟨_, rfl, ?_⟩
        have hul := kids_len hU
        have hgl : g.str.length ≤ 4 := by cases g <;> decide +kernel
        refine mNo (h := g.str) (by cases g <;> decide +kernel) (mNo (h := g.str) (by cases g <;> decide +kernel) (mNo (h := g.str) (by cases g <;> decide +kernel) (mNo (h := g.str) (by cases g <;> decide +kernel) (mNo (h := g.str) (by cases g <;> decide +kernel) (mNo (h := g.str) (by cases g <;> decide +kernel) (mNo (h := g.str) (by cases g <;> decide +kernel) (mNo (h := g.str) (by cases g <;> decide +kernel) (mNo (h := g.str) (by cases g <;> decide +kernel) (mNo (h := g.str) (by cases g <;> decide +kernel) (?_))))))))))
        have l1 : (" " : Str).length ≤ 1 := by decide +kernel
        refine jC e_nil l1 (by decide) fun a1 => ixT rfl hS at0 (fmS a1 hgl (by decide) fun a2 => jC a2 l1 (by decide) fun a3 => ⟨⟨_, rfl⟩, ?_⟩)
        refine ixT rfl hS at1 ⟨b, rfl, ⟨_, hB⟩, fun D hD0 => ?_⟩
        refine lc_n (walk_tup (xs := us)) (fun i v _ => ∃ t, ks[i]? = some t ∧ v = .str t.ptext) (fun i o H H' _ h => h) hD0 (by omega) (fun H2 s2 => s2.tup hB) ?_ ?_
        · rintro i x H2 H3 Kt hi s2 ⟨rfl, e⟩ kk
          obtain ⟨t, ht, hd0⟩ := kid_at (s2.dts hU) e
          exact ⟨rfl, _, rfl, x, t, rfl, hd0, hks t (List.mem_of_getElem? ht), fun H4 s4 => kk _ _ s4 ⟨t, ht, rfl⟩⟩
        · intro ys H2 s2 hl2 hy hD2
          have e : ys = (ptexts ks).map V.str := by
            rw [ptexts_map, List.map_map]
            exact map_of (f := fun t : Tm => V.str t.ptext) (by rw [hl2, hul]) hy
          subst e
          have hpt : ∀ y ∈ ptexts ks, y.length ≤ 446082 := fun y hy => by
            rw [ptexts_map] at hy
            obtain ⟨t, ht, rfl⟩ := List.mem_map.mp hy
            exact (hks t ht).plen (by omega)
          have hpl : (ptexts ks).length ≤ 3 := by rw [ptexts_map, List.length_map]; exact h2
          have hj := (len_join (m := 6) hpt hpl (show (((Str.empty ++ (" " : Str)) ++ g.str) ++ (" " : Str)).length ≤ 6 by cases g <;> decide +kernel)).1
          refine ⟨_, D, ptexts ks, rfl, rfl, .inl (SqL.of hD2), ?_, k H2 s2⟩
          exact Nat.le_trans hj (by decide)
end
end DD
namespace DD
open PySem PySem.Spec
open PyProof.Rows L2
/-! ## static methods, class methods, properties -/
section
variable {K : PySem.W.Frag} {C : Addr} {m f : Str}
structure CSt (K : PySem.W.Frag) (C : Addr) (m : Str) (p g : Addr) : Prop where
  at_ : PySem.W.findCls K (.ref C) (.type "type") m = some (.get (.builtin "staticmethod.__get__") (.ref p) .none (.ref C))
  rc : ∃ rest, PySem.W.recIn K p "staticmethod" = some (.ref g :: rest)
  fi : PySem.W.fnIn K g = true
theorem get_of {kind get : String} (h : getB K C m kind get = true) : PySem.W.findCls K (.ref C) (.type "type") m = some (.get (.builtin get) (.ref (He.ma K C m)) .none (.ref C)) ∧ (∃ rest, PySem.W.recIn K (He.ma K C m) kind = some (.ref (recA K (He.ma K C m) kind) :: rest)) ∧ PySem.W.fnIn K (recA K (He.ma K C m) kind) = true := by
  unfold getB at h
  obtain ⟨h1, h2⟩ := He.ba h
  obtain ⟨h3, h4⟩ := He.ba h2
  refine ⟨?_, ?_, h4⟩
  · split at h1
    · rename_i b p D e
      obtain ⟨q1, q2⟩ := He.ba h1
      obtain ⟨q2, q3⟩ := He.ba q2
      rw [e, of_decide_eq_true q1, of_decide_eq_true q2, of_decide_eq_true q3]
    · cases h1
  · split at h3
    · rename_i g rest e
      rw [of_decide_eq_true h3] at e
      exact ⟨rest, e⟩
    · cases h3
theorem st_of (h : getB K C m "staticmethod" "staticmethod.__get__" = true) : CSt K C m (He.ma K C m) (recA K (He.ma K C m) "staticmethod") := let ⟨a, b, c⟩ := get_of h; ⟨a, b, c⟩
theorem cm_of (h : getB K C m "classmethod" "classmethod.__get__" = true) : ClX.CMet K C (.type "type") m (He.ma K C m) (recA K (He.ma K C m) "classmethod") := let ⟨a, b, c⟩ := get_of h; ⟨a, b, c⟩
theorem rd_of' (h : readB K C = true) : ClX.CRead K C (.type "type") := let ⟨a, b⟩ := He.ba h; ⟨a, He.eqO_ok b⟩
theorem prop_of (h : propB K C f = true) : PropOf K C f (He.ma K C f) (recA K (He.ma K C f) "property") := by
  unfold propB at h
  obtain ⟨h1, h2⟩ := He.ba h
  obtain ⟨h2, h3⟩ := He.ba h2
  obtain ⟨h3, h4⟩ := He.ba h3
  refine ⟨He.eqO_ok h1, He.eqO_ok h2, of_decide_eq_true h3, ?_⟩
  split at h4
  · rename_i g rest e
    rw [of_decide_eq_true h4] at e
    exact ⟨rest, e⟩
  · cases h4
end
def tSMeth (C : Addr) (sp : Sp) (dvs : List V) (E : XK) (ta : TE) (t : TA) : TE := fun σ H Q => ta σ H fun x H1 => x = .ref C ∧ t σ H1 fun vs H2 => sp (vs ++ dvs) H2 Q E
section
variable {X : Cx} {CX : CXT} {k : Nat} {C p g : Addr} {fd : FuncData} {ps : List Str} {sp : Sp} {E : XK} {o e : Expr} {es : List Expr} {m : Str} {pos apos : Pos} {ta : TE} {t : TA} {pl : Sem Bool} {dvs : List V} {ds : List Value}
theorem getst_ok {pins : List (Addr × Obj)} {σ : L2.St} {H : Hp} {s : Shared} {A : Around} {Q : Value × List Value → Shared → Prop} {E' : Value → Shared → Prop} (I : Inv X pins σ H s) (r : ClX.CRead X.K C (.type "type")) (c : CSt X.K C m p g)
    (h : ∀ s', Inv X pins σ H s' → Q (.ref g, []) s') : wpAny (model X.prog X.w) A (getMethod (.ref C) m pl) Q E' s := by
  obtain ⟨rest, hp⟩ := c.rc
  refine PySem.W.method_cls I.kIn r.ga (PySem.W.cls_bind I.kIn r.rd c.at_ (wpAny_call (PySem.W.sm_get (s := { s with toks := s.toks + 1 }) I.kIn hp (PySem.W.handed_on rfl ?_))))
  exact h _ (I.tok _)
theorem pe_smeth (he : PE X o ta) (r : ClX.CRead X.K C (.type "type")) (c : CSt X.K C m p g) (F : FnOk X.prog X.w X.K X.mg X.base CX k g fd ps sp) (hr : Room k X.A) (hk : PySem.W.keepIn X.K (.ref g) = true) (hb : Binds X.K fd ps ds) (hd : Vals dvs ds) (hx : Passes CX X E) (ha : PA X (e :: es) t) (hst : starEach (e :: es) X.env = (false, eval e X.env) :: starEach es X.env := by rfl) (hpl : (backTo pos (starEach es X.env)).any (·.1) = false := by rfl) (ht : eval (.Call (.Attribute o m apos) (e :: es) [] pos) X.env = (do
      let ov ← eval o X.env
      standAt apos.atName; let (f, first) ← holding [ov] (getMethod ov m pl)
      callWith pos f first (backTo pos (starEach (e :: es) X.env)) (backToKw pos (keywordEach [] X.env))) := by rfl) : PE X (.Call (.Attribute o m apos) (e :: es) [] pos) (tSMeth C sp dvs E ta t) := by
  (refine ⟨fun pins s σ H Q I h => ?_⟩)
  (refine PySem.W.methodCall_KW (pl := pl) (thn (he.run pins s σ H _ I h) fun u s1 ⟨x, H1, I1, rx, ex, q⟩ => ?_) ht)
  subst ex
  (obtain rfl : u = Value.ref C := rx)
  refine getst_ok I1 r c fun s2 I2 => ?_
  refine PySem.W.callWith_K (h₀ := X.base) (first := []) I2.ok.mod.kin hk (thn (ha.run pos pins s2 σ H1 _ I2 q) fun us s3 ⟨vs, H2, I3, rv, q2⟩ => ⟨I3.kIn, ?_⟩) hst hpl
  exact run_fn F hr hb hd hx I3 rv q2
theorem pe_smeth0 (he : PE X o ta) (r : ClX.CRead X.K C (.type "type")) (c : CSt X.K C m p g) (F : FnOk X.prog X.w X.K X.mg X.base CX k g fd ps sp) (hr : Room k X.A) (hk : PySem.W.keepIn X.K (.ref g) = true) (hb : Binds X.K fd ps ds) (hd : Vals dvs ds) (hx : Passes CX X E) (ht : eval (.Call (.Attribute o m apos) [] [] pos) X.env = (do
      let ov ← eval o X.env
      standAt apos.atName; let (f, first) ← holding [ov] (getMethod ov m pl)
      callWith pos f first (backTo pos (starEach [] X.env)) (backToKw pos (keywordEach [] X.env))) := by rfl) : PE X (.Call (.Attribute o m apos) [] [] pos) (tSMeth C sp dvs E ta tNil) := by
  (refine ⟨fun pins s σ H Q I h => ?_⟩)
  (refine PySem.W.methodCall_KW (pl := pl) (thn (he.run pins s σ H _ I h) fun u s1 ⟨x, H1, I1, rx, ex, q⟩ => ?_) ht)
  subst ex
  (obtain rfl : u = Value.ref C := rx)
  refine getst_ok I1 r c fun s2 I2 => ?_
  exact PySem.W.callWith_K0 I2.kIn hk (run_fn (us := []) F hr hb hd hx I2 .nil q)
end
end DD
namespace DD
open PySem PySem.Spec
open PyProof.Rows L2
section
variable {base : Heap} {mg : Str → Option Value} {K : PySem.W.Frag} {w : World} {P : Program}
/-! ### need_words, Event -/
def sp_need_words (K : PySem.W.Frag) : Sp := fun vs H Q _ => ∃ (l : Addr) (ws : List Str), vs = [.ref l] ∧ SqL K H l (ws.map V.str) ∧ (∀ x ∈ ws, wordB x = true) ∧ ∀ H', Same H H' → Q .non H'
theorem ok_need_words (T : Txt w K mg) : FnOk P w K mg base CX0 2 (a_need_words K) (fdOf K (a_need_words K)) ps_need_words (sp_need_words K) := by
  have G_is_word := ok_is_word (P := P) (base := base) T
  refine ok0 T.f_need_words sc_need_words (fun vs H Q E h => ?_) (fun cdv A outer s H vs Q E hr h => ?_)
  · obtain ⟨_, _, rfl, _⟩ := h; rfl
  · obtain ⟨l, ws, rfl, hl, hw, k⟩ := h
    have hr_is_word := hr
    refine ⟨_, (pss_one (ps_for PassesOwn.never rfl (k_piL K (pv 0)) (pg_name (i := 1) sc_need_words.nd rfl (Or.inl rfl) (Or.inl rfl)) (pss_one (ps_if (pt_not (pt_val (pe_call G_is_word hr_is_word rfl T.g_is_word T.k_is_word T.b_is_word .nil pass0 (pa_cons (pv 1) pa_nil)))) (pss_one ps_never) pss_nil)))), ?_⟩
    refine ⟨_, rfl, l, rfl, ⟨_, hl⟩, ?_⟩
    refine for_it (walk_list (xs := ws.map V.str)) (fun i σ H' => ∃ x1, σ = [some (.ref l), x1] ∧ Same H H') ⟨_, rfl, Same.refl _⟩ (fun i σ H' _ ⟨_, _, s⟩ => s.lst hl) ?_ ?_
    · rintro i x σ H5 H6 hi ⟨x1, rfl, S5⟩ ⟨rfl, e⟩
      obtain ⟨x, hx, rfl⟩ := str_at e
      have h1 := hw x (List.mem_of_getElem? hx)
      have h2 := (word_ok h1).2
      refine ⟨_, rfl, x, rfl, by omega, fun H7 S7 => ?_⟩
      rw [h1]
      exact ⟨_, rfl, no (by decide) ⟨_, rfl, S5.trans S7⟩⟩
    · rintro σ H5 ⟨x1, rfl, S5⟩
      exact k H5 S5
def rank : Ev → Int
  | .act .. => 0
  | .hands .. => 1
  | .day => 2
theorem ranks_at (T : Txt w K mg) (e : Ev) : ∃ u h r, e.ws = h :: r ∧ PySem.W.nsIn K (o_RANKS K) h = some (some u) ∧ L2.RelV (.int (rank e)) u := by
  have key : ∀ q, q ∈ _ → _ := fun q hq => He.valsB_ok T.x_val_RANKS (q := q) hq
  cases e with
  | act p a => obtain ⟨u, h1, h2⟩ := key ("act", .int 0) (by simp); exact ⟨u, _, _, rfl, h1, h2⟩
  | hands p r q => obtain ⟨u, h1, h2⟩ := key ("hands", .int 1) (by simp); exact ⟨u, _, _, rfl, h1, h2⟩
  | day => obtain ⟨u, h1, h2⟩ := key ("day", .int 2) (by simp); exact ⟨u, _, _, rfl, h1, h2⟩
def evF (wv : V) (e : Ev) : List (Str × V) := [("own_words", wv), ("own_rank", .int (rank e))]
def EvAt (K : PySem.W.Frag) (H : Hp) (a : Addr) (e : Ev) : Prop := ∃ dx wv, H a = some (.ins (c_Event K) dx (evF wv e)) ∧ DT K H wv e.d
theorem _root_.L2.Same.ev {H H' : Hp} {a : Addr} {e : Ev} (s : Same H H') (h : EvAt K H a e) : EvAt K H' a e := let ⟨dx, wv, h1, h2⟩ := h; ⟨dx, wv, s _ _ h1, s.dt h2⟩
def sp_Event_init (K : PySem.W.Frag) : Sp := fun vs H Q _ => ∃ (x dx : Addr) (wv : V) (e : Ev), vs = [.ref x, wv] ∧ H x = some (.ins (c_Event K) dx []) ∧ DT K H wv e.d ∧ ∀ H', But x H H' → H' x = some (.ins (c_Event K) dx (evF wv e)) → Q .non H'
theorem But.ktI {x : Addr} {H H' : Hp} {C dx : Addr} {fs : List (Str × V)} (b : But x H H') (h : H x = some (.ins C dx fs)) : KT H H' := b.kt fun u q => by rw [h] at q; cases q; rfl
theorem ok_Event_init (T : Txt w K mg) : FnOk P w K mg base CX0 1 (a_Event_init K) (fdOf K (a_Event_init K)) ps_Event_init (sp_Event_init K) := by
  refine ok0 T.f_Event_init sc_Event_init (fun vs H Q E h => ?_) (fun cdv A outer s H vs Q E hr h => ?_)
  · obtain ⟨_, _, _, _, rfl, _⟩ := h; rfl
  · obtain ⟨x, dx, wv, e, rfl, hx, hW, k⟩ := h
    obtain ⟨es, en, kd_RANKS⟩ := T.t_RANKS
    refine ⟨_, (pss_cons (ps_fld (pv 0) (pv 1) rfl) (pss_one (ps_fld (pv 0) (pe_ix (k_ixD K) (pe_cR rfl T.g_RANKS) (pe_ix (k_ix K) (pv 1) pe_int (fun _ _ => rfl)) (fun _ _ => rfl)) rfl))), ?_⟩
    refine ⟨_, rfl, _, rfl, x, _, dx, [], rfl, hx, T.cl_Event, T.no_Event_own_words, by decide, ?_⟩
    have kt : KT H (upd H x (.ins (c_Event K) dx (putF "own_words" wv []))) := (But.upd (D := x)).ktI hx
    obtain ⟨b, rfl, hS⟩ := ev_at (kt.dt hW)
    obtain ⟨u, h, r, e1, h1, h2⟩ := ranks_at T e
    rw [e1] at hS
    refine ixT rfl hS at0 ⟨_, _, _, rfl, rfl, ⟨es, en, u, kd_RANKS.at_, kd_RANKS.lit, h1, h2⟩, ?_⟩
    refine ⟨_, rfl, x, _, dx, [("own_words", .ref b)], rfl, upd_same, T.cl_Event, T.no_Event_own_rank, by simp, ?_⟩
    exact k _ (But.upd.trans But.upd) upd_same
end
end DD
namespace DD
open PySem PySem.Spec
open PyProof.Rows L2
section
variable {base : Heap} {mg : Str → Option Value} {K : PySem.W.Frag} {w : World} {P : Program}
/-- a new instance behind __init__ -/
theorem made {H H' : Hp} {x dx C : Addr} (hx : H x = none) (hd : H dx = none) (b : But x (upd (upd H dx (.own x)) x (.ins C dx [])) H') : Same H H' := fun c u q => b c u (ne_of_none q hx) (by rw [upd_ne (ne_of_none q hx), upd_ne (ne_of_none q hd)]; exact q)
/-! ### Event.act, hand, day -/
def sp_Event_act (K : PySem.W.Frag) : Sp := fun vs H Q _ => ∃ (p a : Str), vs = [.str p, .str a] ∧ wordB p = true ∧ wordB a = true ∧ ∀ x H', Same H H' → H x = none → EvAt K H' x (.act p a) → Q (.ref x) H'
def sp_Event_hand (K : PySem.W.Frag) : Sp := fun vs H Q _ => ∃ (p r q : Str), vs = [.str p, .str r, .str q] ∧ wordB p = true ∧ wordB r = true ∧ wordB q = true ∧ ∀ x H', Same H H' → H x = none → EvAt K H' x (.hands p r q) → Q (.ref x) H'
def sp_Event_day (K : PySem.W.Frag) : Sp := fun vs H Q _ => vs = [] ∧ ∀ x H', Same H H' → H x = none → EvAt K H' x .day → Q (.ref x) H'
theorem evMake {H : Hp} {e : Ev} {b : Addr} {Q : VK} (hS : SqT K H b (e.ws.map V.str)) (k : ∀ x H', Same H H' → H x = none → EvAt K H' x e → Q (.ref x) H') : ∀ x dx, H x = none → H dx = none → dx ≠ x → sp_Event_init K (.ref x :: ([.ref b] ++ [])) (upd (upd H dx (.own x)) x (.ins (c_Event K) dx [])) (fun v H2 => v = .non ∧ Q (.ref x) H2) E0 :=
  fun x dx hx hd ne => ⟨x, dx, .ref b, e, rfl, upd_same, ((Same.new hd).trans (Same.new (by rw [upd_ne (Ne.symm ne)]; exact hx))).dt (ev_mk hS), fun H' bt hH' => ⟨rfl, k x H' (made hx hd bt) hx ⟨dx, .ref b, hH', (made hx hd bt).dt (ev_mk hS)⟩⟩⟩
theorem ok_Event_act (T : Txt w K mg) : FnOk P w K mg base CX0 3 (a_Event_act K) (fdOf K (a_Event_act K)) ps_Event_act (sp_Event_act K) := by
  have G_need_words := ok_need_words (P := P) (base := base) T
  have G_Event_init := ok_Event_init (P := P) (base := base) T
  refine ok0 T.f_Event_act sc_Event_act (fun vs H Q E h => ?_) (fun cdv A outer s H vs Q E hr h => ?_)
  · obtain ⟨_, _, rfl, _⟩ := h; rfl
  · obtain ⟨p, a, rfl, hp, ha, k⟩ := h
    have hr_need_words := hr
    have hr_Event_init := hr
    refine ⟨_, (pss_cons (ps_expr (pe_call G_need_words hr_need_words rfl T.g_need_words T.k_need_words T.b_need_words .nil pass0 (pa_cons (pe_lst (pa_cons (pv 0) (pa_cons (pv 1) pa_nil))) pa_nil))) (pss_one (ps_ret (pe_make T.mk_Event G_Event_init hr_Event_init rfl T.g_Event T.b_Event_init .nil pass0 (pa_cons (pe_tup (pa_cons (pe_cS rfl T.z_ACT) (pa_cons (pv 0) (pa_cons (pv 1) pa_nil)))) pa_nil))))), ?_⟩
    refine ⟨_, rfl, _, rfl, small (by simp), fun l hl => ⟨l, [p, a], rfl, SqL.of upd_same, allC hp (all1 ha), fun H1 s1 => ⟨_, rfl, _, rfl, small (by simp), fun b hb => ?_⟩⟩⟩
    have S := ((Same.new (o := .lst [.str p, .str a]) hl).trans s1).trans (Same.new (o := .tup [.str "act", .str p, .str a]) hb)
    exact evMake (e := .act p a) (SqT.of upd_same) fun x H' s' hx he => k x H' (S.trans s') (S.free hx) he
theorem ok_Event_hand (T : Txt w K mg) : FnOk P w K mg base CX0 3 (a_Event_hand K) (fdOf K (a_Event_hand K)) ps_Event_hand (sp_Event_hand K) := by
  have G_need_words := ok_need_words (P := P) (base := base) T
  have G_Event_init := ok_Event_init (P := P) (base := base) T
  refine ok0 T.f_Event_hand sc_Event_hand (fun vs H Q E h => ?_) (fun cdv A outer s H vs Q E hr h => ?_)
  · obtain ⟨_, _, _, rfl, _⟩ := h; rfl
  · obtain ⟨p, r, q, rfl, hp, hr1, hq, k⟩ := h
    have hr_need_words := hr
    have hr_Event_init := hr
    refine ⟨_, (pss_cons (ps_expr (pe_call G_need_words hr_need_words rfl T.g_need_words T.k_need_words T.b_need_words .nil pass0 (pa_cons (pe_lst (pa_cons (pv 0) (pa_cons (pv 1) (pa_cons (pv 2) pa_nil)))) pa_nil))) (pss_one (ps_ret (pe_make T.mk_Event G_Event_init hr_Event_init rfl T.g_Event T.b_Event_init .nil pass0 (pa_cons (pe_tup (pa_cons (pe_cS rfl T.z_HANDS) (pa_cons (pv 0) (pa_cons (pv 1) (pa_cons (pv 2) pa_nil))))) pa_nil))))), ?_⟩
    refine ⟨_, rfl, _, rfl, _, rfl, small (by simp), fun l hl => ⟨l, [p, r, q], rfl, SqL.of upd_same, allC hp (allC hr1 (all1 hq)), fun H1 s1 => ⟨_, rfl, _, rfl, _, rfl, small (by simp), fun b hb => ?_⟩⟩⟩
    have S := ((Same.new (o := .lst [.str p, .str r, .str q]) hl).trans s1).trans (Same.new (o := .tup [.str "hands", .str p, .str r, .str q]) hb)
    exact evMake (e := .hands p r q) (SqT.of upd_same) fun x H' s' hx he => k x H' (S.trans s') (S.free hx) he
theorem ok_Event_day (T : Txt w K mg) : FnOk P w K mg base CX0 3 (a_Event_day K) (fdOf K (a_Event_day K)) ps_Event_day (sp_Event_day K) := by
  have G_Event_init := ok_Event_init (P := P) (base := base) T
  refine ok0 T.f_Event_day sc_Event_day (fun vs H Q E h => ?_) (fun cdv A outer s H vs Q E hr h => ?_)
  · obtain ⟨rfl, _⟩ := h; rfl
  · obtain ⟨rfl, k⟩ := h
    have hr_Event_init := hr
    refine ⟨_, (pss_one (ps_ret (pe_make T.mk_Event G_Event_init hr_Event_init rfl T.g_Event T.b_Event_init .nil pass0 (pa_cons (pe_tup (pa_cons (pe_cS rfl T.z_DAY) pa_nil)) pa_nil)))), ?_⟩
    refine ⟨small (by simp), fun b hb => ?_⟩
    have S := Same.new (o := .tup [.str "day"]) hb
    exact evMake (e := .day) (SqT.of upd_same) fun x H' s' hx he => k x H' (S.trans s') (S.free hx) he
def sp_Event_words (K : PySem.W.Frag) : Sp := fun vs H Q _ => ∃ a e, vs = [.ref a] ∧ EvAt K H a e ∧ ∀ v, DT K H v e.d → Q v H
theorem ok_Event_words (T : Txt w K mg) : FnOk P w K mg base CX0 1 (a_Event_words K) (fdOf K (a_Event_words K)) ps_Event_words (sp_Event_words K) := by
  refine ok0 T.f_Event_words sc_Event_words (fun vs H Q E h => ?_) (fun cdv A outer s H vs Q E hr h => ?_)
  · obtain ⟨_, _, rfl, _⟩ := h; rfl
  · obtain ⟨a, e, rfl, ⟨dx, wv, hA, hW⟩, k⟩ := h
    refine ⟨_, (pss_one (ps_ret (k_fld K (pv 0) rfl))), ?_⟩
    exact ⟨_, rfl, a, _, dx, _, wv, rfl, hA, T.cl_Event, T.no_Event_own_words, rfl, k wv hW⟩
/-! ### Term -/
def TermAt (K : PySem.W.Frag) (H : Hp) (a : Addr) (t : Tm) : Prop := ∃ dx v, H a = some (.ins (c_Term K) dx [("own_told", v)]) ∧ DT K H v t.d
theorem _root_.L2.Same.term {H H' : Hp} {a : Addr} {t : Tm} (s : Same H H') (h : TermAt K H a t) : TermAt K H' a t := let ⟨dx, v, h1, h2⟩ := h; ⟨dx, v, s _ _ h1, s.dt h2⟩
def sp_Term_init (K : PySem.W.Frag) : Sp := fun vs H Q _ => ∃ (x dx : Addr) (v : V), vs = [.ref x, v] ∧ H x = some (.ins (c_Term K) dx []) ∧ ∀ H', But x H H' → H' x = some (.ins (c_Term K) dx [("own_told", v)]) → Q .non H'
theorem ok_Term_init (T : Txt w K mg) : FnOk P w K mg base CX0 1 (a_Term_init K) (fdOf K (a_Term_init K)) ps_Term_init (sp_Term_init K) := by
  refine ok0 T.f_Term_init sc_Term_init (fun vs H Q E h => ?_) (fun cdv A outer s H vs Q E hr h => ?_)
  · obtain ⟨_, _, _, rfl, _⟩ := h; rfl
  · obtain ⟨x, dx, v, rfl, hx, k⟩ := h
    refine ⟨_, (pss_one (ps_fld (pv 0) (pv 1) rfl)), ?_⟩
    exact ⟨_, rfl, _, rfl, x, _, dx, [], rfl, hx, T.cl_Term, T.no_Term_own_told, by decide, k _ But.upd upd_same⟩
def sp_Term_of (K : PySem.W.Frag) : Sp := fun vs H Q _ => ∃ (c v : V) (t : Tm) (nm : List Str) (n : Nat), vs = [c, v] ∧ DT K H v t.d ∧ St nm n t ∧ n ≤ 8 ∧ t.parts ≤ 40 ∧ ∀ x H', Same H H' → H x = none → TermAt K H' x t → Q (.ref x) H'
theorem ok_Term_of (T : Txt w K mg) : FnOk P w K mg base CX0 12 (a_Term_of K) (fdOf K (a_Term_of K)) ps_Term_of (sp_Term_of K) := by
  have G_term_fault := ok_term_fault (P := P) (base := base) T
  have G_Term_init := ok_Term_init (P := P) (base := base) T
  refine ok0 T.f_Term_of sc_Term_of (fun vs H Q E h => ?_) (fun cdv A outer s H vs Q E hr h => ?_)
  · obtain ⟨_, _, _, _, _, rfl, _⟩ := h; rfl
  · obtain ⟨c, v, t, nm, n, rfl, hD, hst, hn, hp, k⟩ := h
    have hU64 := hr.units
    have hr_term_fault : Room 11 _ := hr
    have hr_Term_init : Room 2 _ := hr.mono (by omega)
    refine ⟨_, (pss_cons (ps_set (i := 2) sc_Term_of.nd rfl (Or.inl rfl) (pe_call G_term_fault hr_term_fault rfl T.g_term_fault T.k_term_fault T.b_term_fault .nil pass0 (pa_cons (pv 1) pa_nil))) (pss_cons (ps_if (pt_cmpR (k_ne K hU64) (pv 2) (pe_lst pa_nil) (nomark _)) (pss_one ps_never) pss_nil) (pss_one (ps_ret (pe_make T.mk_Term G_Term_init hr_Term_init rfl T.g_Term T.b_Term_init .nil pass0 (pa_cons (pv 1) pa_nil)))))), ?_⟩
    refine ⟨_, rfl, v, t, nm, n, rfl, hD, hst, hn, hp, fun l H1 s1 hl => ⟨_, rfl, ne_nil (SqL.of hl) (fun v h => nomatch h) fun H2 s2 => ⟨_, rfl, no (by decide) ?_⟩⟩⟩
    have S := s1.trans s2
    refine ⟨_, rfl, fun x dx hx hd ne => ⟨x, dx, v, rfl, upd_same, fun H3 b3 h3 => ⟨rfl, ?_⟩⟩⟩
    have S3 := S.trans (made hx hd b3)
    exact k x H3 S3 (S.free hx) ⟨dx, v, h3, S3.dt hD⟩
/-! ### are_parties, are_roles -/
def sp_are_parties (K : PySem.W.Frag) : Sp := fun vs H Q _ => ∃ (a : Addr) (pp : List Str), vs = [.ref a] ∧ SqT K H a (pp.map V.str) ∧ 1 ≤ pp.length ∧ pp.length ≤ 4 ∧ pp.Nodup ∧ (∀ x ∈ pp, wordB x = true) ∧ ∀ H', Same H H' → Q (.bl true) H'
theorem ok_are_parties (T : Txt w K mg) : FnOk P w K mg base CX0 2 (a_are_parties K) (fdOf K (a_are_parties K)) ps_are_parties (sp_are_parties K) := by
  have G_is_word := ok_is_word (P := P) (base := base) T
  have G_are_unlike := ok_are_unlike (P := P) (base := base) T
  refine ok0 T.f_are_parties sc_are_parties (fun vs H Q E h => ?_) (fun cdv A outer s H vs Q E hr h => ?_)
  · obtain ⟨a, ws, rfl, _⟩ := h; rfl
  · obtain ⟨a, ws, rfl, hS, h1, h2, hn, hw, k⟩ := h
    have hr_is_word := hr
    have hr_are_unlike := hr
    refine ⟨_, (pss_cons (ps_if (PW.pt (pw_or (pt_not (pt_val (pe_callB (k_isi K) (by rfl) T.n_isinstance (by decide +kernel) (pa_cons (pv 0) (pa_cons (pe_bltn (v := .ty "tuple") (by rfl) T.n_tuple (by decide +kernel) rfl) pa_nil))))) (pw_or1 (pt_not (pt_chain op_le op_le pe_int (pe_callB (k_len K) (by rfl) T.n_len (by decide +kernel) (pa_cons (pv 0) pa_nil)) (pe_cI rfl T.i_MOST_PARTIES)))))) (pss_one (ps_ret pe_bl)) pss_nil) (pss_one (ps_ret (pe_and (pe_callB (k_all K rfl) (by rfl) T.n_all (by decide +kernel) (pa_cons (pe_lc (own := [("party", 1)]) (by rfl) sc_are_parties.nd (k_piT K (pv 0)) (blkOk_by (own := [("party", 1)]) (N := N_are_parties) (sc := defScope s_are_parties) (by decide +kernel)) (fun _ _ _ _ _ => (pg_name (i := 1) sc_are_parties.nd rfl (Or.inl rfl) (Or.inr rfl))) (fun _ _ _ _ _ => pts_nil) (fun _ _ _ _ _ => (pe_call G_is_word hr_is_word rfl T.g_is_word T.k_is_word T.b_is_word .nil pass0 (pa_cons (pv 1) pa_nil)))) pa_nil)) (pe_one (pe_call G_are_unlike hr_are_unlike rfl T.g_are_unlike T.k_are_unlike T.b_are_unlike .nil pass0 (pa_cons (pe_callTy (k_list K) (by rfl) T.n_list (by decide +kernel) (pa_cons (pv 0) pa_nil)) pa_nil))))))), ?_⟩
    refine ⟨_, rfl, _, _, _, _, _, rfl, .ty _, tyx_tup hS, kit_ty (b := "tuple") (r := true) (by decide +kernel), _, rfl, no (by decide) ?_⟩
    refine ⟨_, rfl, _, _, rfl, .inr ⟨_, hS, rfl⟩, ?_⟩
    rw [List.length_map]
    refine ⟨1, (ws.length : Int), rfl, rfl, _, rfl, yes (decide_eq_true (by omega)) ⟨(ws.length : Int), 4, rfl, rfl, _, rfl, ?_⟩⟩
    rw [decide_eq_true (show ((ws.length : Nat) : Int) ≤ 4 by omega)]
    refine no (by decide) ?_
    refine ⟨_, rfl, a, rfl, ⟨_, hS⟩, fun D hD => ?_⟩
    refine lc_n (walk_tup (xs := ws.map V.str)) (fun i v _ => v = .bl true) (fun i o H H' _ h => h) hD (by rw [List.length_map]; omega) (fun H1 s1 => s1.tup hS) ?_ ?_
    · rintro i v H1 H2 Kt hi s1 ⟨rfl, e⟩ kk
      obtain ⟨x, hx, rfl⟩ := str_at e
      have q1 := hw x (List.mem_of_getElem? hx)
      have q2 := (word_ok q1).2
      refine ⟨rfl, _, rfl, x, rfl, by omega, fun H3 s3 => ?_⟩
      rw [q1]
      exact kk _ _ s3 rfl
    · intro ys H1 s1 hl2 hy hD1
      obtain ⟨bs, rfl, hb⟩ := pickL V.bl ys (fun i b => b = true) fun i y e => ⟨true, hy i y e, rfl⟩
      refine ⟨D, bs, rfl, SqL.of hD1, ?_⟩
      have e : bs.all id = true := List.all_eq_true.mpr fun b hb2 => by
        obtain ⟨i, hi⟩ := List.getElem?_of_mem hb2
        exact hb i b hi
      rw [e]
      refine ⟨true, rfl, yes rfl ⟨_, rfl, a, _, rfl, .inr (s1.tup hS), fun l hl => ?_⟩⟩
      exact ⟨l, ws, rfl, SqL.of upd_same, hn, by omega, fun H3 s3 => k H3 (s1.trans ((Same.new hl).trans s3))⟩
end
end DD
namespace DD
open PySem PySem.Spec
open PyProof.Rows L2
section
variable {base : Heap} {mg : Str → Option Value} {K : PySem.W.Frag} {w : World} {P : Program}
/-! ### isinstance of an own class -/
theorem isi_own {C : Addr} {H : Hp} {a dx : Addr} {fs : List (Str × V)} (hi : instB K C = true) (c : Cls K C) (ea : H a = some (.ins C dx fs)) : ∃ t u, ClsV (.ref C) u ∧ TyX K H (.ref a) t ∧ PySem.W.kitOne K t u = some true := by
  unfold instB at hi
  obtain ⟨h1, h2⟩ := He.ba hi
  obtain ⟨h2, h3⟩ := He.ba h2
  obtain ⟨h3, h4⟩ := He.ba h3
  exact ⟨.ref C, .ref C, .own _, .base (.ins ea c (He.eqO_ok h1) (He.eqO_ok h2) (of_decide_eq_true h3) (of_decide_eq_true h4)), by unfold PySem.W.kitOne; simp⟩
/-! ### roles -/
def rolesD (rs : List (Str × Str)) : PyData := .tuple (rs.map fun p => .tuple [pS p.1, pS p.2])
theorem roles_at {H : Hp} {v : V} {rs : List (Str × Str)} (h : DT K H v (rolesD rs)) : ∃ rt us, v = .ref rt ∧ SqT K H rt us ∧ us.length = rs.length ∧ DTs K H us (rs.map fun p => .tuple [pS p.1, pS p.2]) := by
  obtain ⟨b, us, rfl, hS, q⟩ := dt_tup h
  exact ⟨b, us, rfl, hS, by rw [dps_len q, List.length_map], q⟩
theorem pair_at {H : Hp} {us : List V} {rs : List (Str × Str)} {i : Nat} {x : V} (q : DTs K H us (rs.map fun p => .tuple [pS p.1, pS p.2])) (e : us[i]? = some x) : ∃ p b, rs[i]? = some p ∧ x = .ref b ∧ SqT K H b [.str p.1, .str p.2] := by
  obtain ⟨d, h1, h2⟩ := dps_get q e
  rw [List.getElem?_map] at h1
  cases z : rs[i]? with
  | none => rw [z] at h1; cases h1
  | some p =>
    rw [z] at h1; cases h1
    obtain ⟨b, vs, rfl, hS, q2⟩ := dt_tup h2
    obtain ⟨a1, r, rfl, q3, q4⟩ := dts_cons q2
    obtain ⟨a2, r, rfl, q5, q6⟩ := dts_cons q4
    cases dts_nil q6; cases dt_str q3; cases dt_str q5
    exact ⟨p, b, rfl, rfl, hS⟩
theorem all_true {bs : List Bool} (h : ∀ (i : Nat) b, bs[i]? = some b → b = true) : bs.all id = true := List.all_eq_true.mpr fun b hb => by
  obtain ⟨i, hi⟩ := List.getElem?_of_mem hb
  exact h i b hi
def sp_are_roles (K : PySem.W.Frag) : Sp := fun vs H Q _ => ∃ (v : V) (pt : Addr) (nm pp : List Str) (rs : List (Str × Str)), vs = [v, .ref pt] ∧ DT K H v (rolesD rs) ∧ SqT K H pt (pp.map V.str) ∧ Cn nm pp (rs.map Prod.fst) ∧ (∀ p ∈ rs, p.2 ∈ pp) ∧ ∀ H', Same H H' → Q (.bl true) H'
theorem ok_are_roles (T : Txt w K mg) : FnOk P w K mg base CX0 2 (a_are_roles K) (fdOf K (a_are_roles K)) ps_are_roles (sp_are_roles K) := by
  have G_is_word := ok_is_word (P := P) (base := base) T
  have G_are_unlike := ok_are_unlike (P := P) (base := base) T
  refine ok0 T.f_are_roles sc_are_roles (fun vs H Q E h => ?_) (fun cdv A outer s H vs Q E hr h => ?_)
  · obtain ⟨_, _, _, _, _, rfl, _⟩ := h; rfl
  · obtain ⟨v, pt, nm, pp, rs, rfl, hR, hP, hc, hin, k⟩ := h
    have hr_is_word := hr
    have hr_are_unlike := hr
    have hU64 := hr.units
    obtain ⟨rt, us, rfl, hS, hl, hU⟩ := roles_at hR
    have hrl : rs.length ≤ 2 := by have := hc.few; rw [List.length_map] at this; exact this
    refine ⟨_, (pss_cons (ps_if (PW.pt (pw_or (pt_not (pt_val (pe_callB (k_isi K) (by rfl) T.n_isinstance (by decide +kernel) (pa_cons (pv 0) (pa_cons (pe_bltn (v := .ty "tuple") (by rfl) T.n_tuple (by decide +kernel) rfl) pa_nil))))) (pw_or1 (pt_cmpR op_gt (pe_callB (k_len K) (by rfl) T.n_len (by decide +kernel) (pa_cons (pv 0) pa_nil)) (pe_cI rfl T.i_MOST_ROLES) (nomark _))))) (pss_one (ps_ret pe_bl)) pss_nil) (pss_cons (ps_if (pt_not (pt_val (pe_callB (k_all K rfl) (by rfl) T.n_all (by decide +kernel) (pa_cons (pe_lc (own := [("pair", 2)]) (by rfl) sc_are_roles.nd (k_piT K (pv 0)) (blkOk_by (own := [("pair", 2)]) (N := N_are_roles) (sc := defScope s_are_roles) (by decide +kernel)) (fun _ _ _ _ _ => (pg_name (i := 2) sc_are_roles.nd rfl (Or.inl rfl) (Or.inr rfl))) (fun _ _ _ _ _ => pts_nil) (fun _ _ _ _ _ => (pe_and (pe_callB (k_isi K) (by rfl) T.n_isinstance (by decide +kernel) (pa_cons (pv 2) (pa_cons (pe_bltn (v := .ty "tuple") (by rfl) T.n_tuple (by decide +kernel) rfl) pa_nil))) (pe_one (pe_cmpR (k_eq K hU64) (pe_callB (k_len K) (by rfl) T.n_len (by decide +kernel) (pa_cons (pv 2) pa_nil)) pe_int (nomark _)))))) pa_nil)))) (pss_one (ps_ret pe_bl)) pss_nil) (pss_cons (ps_if (pt_not (pt_val (pe_callB (k_all K rfl) (by rfl) T.n_all (by decide +kernel) (pa_cons (pe_lc (own := [("pair", 2)]) (by rfl) sc_are_roles.nd (k_piT K (pv 0)) (blkOk_by (own := [("pair", 2)]) (N := N_are_roles) (sc := defScope s_are_roles) (by decide +kernel)) (fun _ _ _ _ _ => (pg_name (i := 2) sc_are_roles.nd rfl (Or.inl rfl) (Or.inr rfl))) (fun _ _ _ _ _ => pts_nil) (fun _ _ _ _ _ => (pe_and (pe_call G_is_word hr_is_word rfl T.g_is_word T.k_is_word T.b_is_word .nil pass0 (pa_cons (pe_ix (k_ix K) (pv 2) pe_int (fun _ _ => rfl)) pa_nil)) (pe_and (pe_callB (k_isi K) (by rfl) T.n_isinstance (by decide +kernel) (pa_cons (pe_ix (k_ix K) (pv 2) pe_int (fun _ _ => rfl)) (pa_cons (pe_bltn (v := .ty "str") (by rfl) T.n_str (by decide +kernel) rfl) pa_nil))) (pe_one (pe_cmpR (k_in K) (pe_ix (k_ix K) (pv 2) pe_int (fun _ _ => rfl)) (pv 1) (by rfl))))))) pa_nil)))) (pss_one (ps_ret pe_bl)) pss_nil) (pss_one (ps_ret (pe_call G_are_unlike hr_are_unlike rfl T.g_are_unlike T.k_are_unlike T.b_are_unlike .nil pass0 (pa_cons (pe_op (k_add K) (pe_callTy (k_list K) (by rfl) T.n_list (by decide +kernel) (pa_cons (pv 1) pa_nil)) (pe_lc (own := [("pair", 2)]) (by rfl) sc_are_roles.nd (k_piT K (pv 0)) (blkOk_by (own := [("pair", 2)]) (N := N_are_roles) (sc := defScope s_are_roles) (by decide +kernel)) (fun _ _ _ _ _ => (pg_name (i := 2) sc_are_roles.nd rfl (Or.inl rfl) (Or.inr rfl))) (fun _ _ _ _ _ => pts_nil) (fun _ _ _ _ _ => (pe_ix (k_ix K) (pv 2) pe_int (fun _ _ => rfl))))) pa_nil))))))), ?_⟩
    refine ⟨_, rfl, _, _, _, _, _, rfl, .ty _, tyx_tup hS, kit_ty (b := "tuple") (r := true) (by decide +kernel), _, rfl, no (by decide) ?_⟩
    refine ⟨_, rfl, _, _, rfl, .inr ⟨_, hS, rfl⟩, _, _, rfl, rfl, _, rfl, ?_⟩
    rw [decide_eq_false (show ¬ (3 : Int) < ((us.length : Nat) : Int) by omega)]
    refine no (by decide) ?_
    refine ⟨_, rfl, rt, rfl, ⟨_, hS⟩, fun D hD => ?_⟩
    refine lc_n (walk_tup (xs := us)) (fun i v _ => v = .bl true) (fun i o H H' _ h => h) hD (by omega) (fun H1 s1 => s1.tup hS) ?_ ?_
    · rintro i v H1 H2 Kt hi s1 ⟨rfl, e⟩ kk
      obtain ⟨p, b, hp, rfl, hb⟩ := pair_at (s1.dts hU) e
      refine ⟨rfl, _, rfl, _, _, _, _, _, rfl, .ty _, tyx_tup hb, kit_ty (b := "tuple") (r := true) (by decide +kernel), _, rfl, yes rfl ?_⟩
      exact ⟨_, rfl, _, _, rfl, .inr ⟨_, hb, rfl⟩, .inl ⟨rfl, kk _ _ (Same.refl _) rfl⟩⟩
    intro ys H1 s1 hl2 hy hD1
    obtain ⟨bs, rfl, hb⟩ := pickL V.bl ys (fun i b => b = true) fun i y e => ⟨true, hy i y e, rfl⟩
    refine ⟨D, bs, rfl, SqL.of hD1, ?_⟩
    rw [all_true hb]
    refine ⟨true, rfl, no (by decide) ?_⟩
    refine ⟨_, rfl, rt, rfl, ⟨_, s1.tup hS⟩, fun D2 hD2 => ?_⟩
    refine lc_n (walk_tup (xs := us)) (fun i v _ => v = .bl true) (fun i o H H' _ h => h) hD2 (by omega) (fun H3 s3 => (s1.trans s3).tup hS) ?_ ?_
    · rintro i v H3 H4 Kt hi s3 ⟨rfl, e⟩ kk
      have S := s1.trans s3
      obtain ⟨p, b, hp, rfl, hb⟩ := pair_at (S.dts hU) e
      have hpm := List.mem_of_getElem? hp
      have hw := hc.word p.1 (List.mem_map.mpr ⟨p, hpm, rfl⟩)
      refine ⟨rfl, ixT rfl hb at0 ⟨p.1, rfl, by have := (word_ok hw).2; omega, fun H5 s5 => ?_⟩⟩
      rw [hw]
      refine ⟨true, rfl, yes rfl (ixT rfl (s5.tup hb) at1 ⟨_, _, _, _, _, rfl, .ty _, .base (.str p.2), kit_ty (b := "str") (r := true) (by decide +kernel), _, rfl, yes rfl ?_⟩)⟩
      refine ixT rfl (s5.tup hb) at1 ⟨_, rfl, pt, _, rfl, .inr ((S.trans s5).tup hP), rfl, flat_strs pp, ?_⟩
      refine kk _ _ s5 ?_
      show V.bl (inV (.str p.2) (pp.map V.str)) = _
      rw [inV_str, decide_eq_true (hin p hpm)]
    intro ys H3 s3 hl3 hy hD3
    have S := s1.trans s3
    obtain ⟨bs, rfl, hb⟩ := pickL V.bl ys (fun i b => b = true) fun i y e => ⟨true, hy i y e, rfl⟩
    refine ⟨D2, bs, rfl, SqL.of hD3, ?_⟩
    rw [all_true hb]
    refine ⟨true, rfl, no (by decide) ?_⟩
    refine ⟨_, rfl, pt, _, rfl, .inr (S.tup hP), fun l hl0 => ?_⟩
    have s4 := Same.new (o := .lst (pp.map V.str)) hl0
    have S4 := S.trans s4
    refine ⟨_, rfl, rt, rfl, ⟨_, S4.tup hS⟩, fun D3 hD4 => ?_⟩
    refine lc_n (walk_tup (xs := us)) (fun i v _ => ∃ p, rs[i]? = some p ∧ v = .str p.1) (fun i o H H' _ h => h) hD4 (by omega) (fun H3 s3 => (S4.trans s3).tup hS) ?_ ?_
    · rintro i v H5 H6 Kt hi s5 ⟨rfl, e⟩ kk
      obtain ⟨p, b, hp, rfl, hb⟩ := pair_at ((S4.trans s5).dts hU) e
      exact ⟨rfl, ixT rfl hb at0 (kk _ _ (Same.refl _) ⟨p, hp, rfl⟩)⟩
    intro ys H5 s5 hl5 hy hD5
    have e : ys = (rs.map Prod.fst).map V.str := by
      rw [List.map_map]
      exact map_of (f := fun p : Str × Str => V.str p.1) (by rw [hl5, hl]) hy
    subst e
    have hll : (pp ++ rs.map Prod.fst).length ≤ 5 := by rw [List.length_append]; have := hc.pk.few; have := hc.few; omega
    refine catL (s5 _ _ upd_same) hD5 (by simp; have := hc.pk.few; omega) fun q hq => ?_
    refine ⟨q, pp ++ rs.map Prod.fst, rfl, ?_, hc.nd, by omega, fun H7 s7 => k H7 (S4.trans (s5.trans ((Same.new hq).trans s7)))⟩
    rw [List.map_append]
    exact SqL.of upd_same
end
end DD
namespace DD
open PySem PySem.Spec
open PyProof.Rows L2
/-! ## dict(a tuple of pairs) -/
/-- a tuple whose object is known to have no dict -/
def FrzT (H : Hp) (a : Addr) (xs : List V) : Prop := ∃ o : Obj, H a = some (.frz o (.tup xs)) ∧ o.cls = .type "tuple" ∧ o.dict = none
theorem _root_.L2.Same.frzT {H H' : Hp} {a : Addr} {xs : List V} (s : Same H H') (h : FrzT H a xs) : FrzT H' a xs := let ⟨o, h1, h2⟩ := h; ⟨o, s _ _ h1, h2⟩
theorem FrzT.sq {K : PySem.W.Frag} {H : Hp} {a : Addr} {xs : List V} (h : FrzT H a xs) : SqT K H a xs := let ⟨o, h1, _⟩ := h; .inl (.inr ⟨o, h1⟩)
def rTupleF (K : PySem.W.Frag) : List V → Hp → VK → Prop := fun xs H Q => ∃ p ys, xs = [.ref p] ∧ SqL K H p ys ∧ ∀ l o, H l = none → o.cls = .type "tuple" → o.dict = none → Q (.ref l) (upd H l (.frz o (.tup ys)))
section
variable {X : Cx}
theorem call_tupleF : CallR X (.type "tuple") (rTupleF X.K) := by
  (intro pins s σ H xs us Q I r h)
  (obtain ⟨p, ys, rfl, hq, q⟩ := h)
  rw [Vals.ref1 r]
  (obtain ⟨its, rv, pl, hz⟩ := I.list hq)
  have hlen := rv.length
  refine call_tuple_list pl.isList (fun h' kp => ?_) (by simp only [List.size_toArray]; omega)
  (have I1 : Inv X pins σ H { s with heap := h' } := I.kept (t' := s.toks) kp)
  have I2 : Inv X pins σ (upd H h'.objs.size (.frz { cls := .type "tuple", data := .seq its.toArray } (.tup ys))) { s with heap := h'.push { cls := .type "tuple", data := .seq its.toArray } } :=
    I1.laid (t' := s.toks) (fun b o e => Heap.get?_push_of_some _ e) (Nat.le_refl _) ⟨Heap.get?_push_size _ rfl, show ObjOk X.prog X.w _ _ _ (.tup ys) from ⟨hz, its, rv, IsTup.new _ _⟩⟩
  exact ⟨.ref h'.objs.size, _, I2, rfl, q _ _ (I1.hok.fresh (Nat.le_refl _)) rfl rfl⟩
def rDictT (K : PySem.W.Frag) : List V → Hp → VK → Prop := fun xs H Q => ∃ (a : Addr) (ps : List Addr) (kvs : List (Key × V)), xs = [.ref a] ∧ FrzT H a (ps.map V.ref) ∧ Paired (fun p kv => SqT K H p [kV kv.1, kv.2]) ps kvs ∧ ∀ p, H p = none → Q (.ref p) (upd H p (.dK (mergeK [] kvs)))
theorem call_dictT (hc : X.calm = true) : CallR X (.type "dict") (rDictT X.K) := by
  (intro pins s σ H xs us Q I r h)
  obtain ⟨a, ps, kvs, rfl, hf, hp, q⟩ := h
  rw [Vals.ref1 r]
  obtain ⟨o, ho, hcl, hdn⟩ := id hf
  obtain ⟨hg, hz, its, rv, o2, ho2, _, n, hdat⟩ := (show ObjOk X.prog X.w H s.heap a (.frz o (.tup (ps.map V.ref))) from I.hok a _ ho)
  rw [hg] at ho2
  cases ho2
  have ei := refs_at rv
  subst ei
  (obtain ⟨prs, rel, hl, hpr⟩ := pairs_of I hp)
  have hps : ∀ (j : Nat) (q : Key × Value), prs[j]? = some q → ∃ (b : Addr) (u : Value), ps[j]? = some b ∧ IsTup s.heap b #[u, q.2] ∧ keyIs q.1 u = true := hpr
  -- the raw pairs
  have raw : ∀ (ps : List Addr) (prs : List (Key × Value)), prs.length = ps.length → (∀ (j : Nat) (q : Key × Value), prs[j]? = some q → ∃ (b : Addr) (u : Value), ps[j]? = some b ∧ IsTup s.heap b #[u, q.2] ∧ keyIs q.1 u = true) →
      ∃ rs : List (Value × Value), rs.length = prs.length ∧ ∀ (j : Nat) (q : Key × Value), prs[j]? = some q → ∃ (b : Addr) (u : Value), rs[j]? = some (u, q.2) ∧ ps[j]? = some b ∧ IsTup s.heap b #[u, q.2] ∧ keyIs q.1 u = true := by
    intro ps prs
    induction prs generalizing ps with
    | nil => intro _ _; exact ⟨[], rfl, fun j q e => nomatch e⟩
    | cons q r ih =>
      intro hl h
      obtain ⟨b, u, e1, e2, e3⟩ := h 0 q rfl
      obtain ⟨p0, pr, rfl⟩ : ∃ p0 pr, ps = p0 :: pr := by
        cases ps with
        | nil => cases hl
        | cons p0 pr => exact ⟨p0, pr, rfl⟩
      obtain ⟨rs, f1, f2⟩ := ih pr (by simpa using hl) fun j q e => h (j + 1) q e
      refine ⟨(u, q.2) :: rs, by simp [f1], fun j q' e => ?_⟩
      cases j with
      | zero => cases e; exact ⟨b, u, rfl, e1, e2, e3⟩
      | succ j => exact f2 j q' e
  obtain ⟨rs, hrl, hrs⟩ := raw ps prs hl hps
  have items : PairItems s.heap (ps.map Value.ref).toArray (fun j => ps.getD j 0) rs := by
    refine ⟨by simp; omega, fun j k v e => ?_⟩
    have hj : j < prs.length := by rw [← hrl]; exact (List.getElem?_eq_some_iff.mp e).1
    obtain ⟨b, u, e1, e2, e3, e4⟩ := hrs j prs[j] (List.getElem?_eq_getElem hj)
    rw [e] at e1
    cases e1
    refine ⟨by simp [e2, List.getD_eq_getElem?_getD], .inl ?_⟩
    show s.heap.IsTuple (ps.getD j 0) _
    rw [List.getD_eq_getElem?_getD, e2]
    exact e3
  refine PySem.call_dict_pairs (knd := mixKind X.prog X.w) (kvs := prs) (PairArg.tuple a (ps.map Value.ref).toArray (fun j => ps.getD j 0) rs) (I.ok.hd hc) ⟨⟨o, n, hg, hcl, hdn, hdat⟩, items⟩ ⟨hrl.symm, fun i key v e => ?_⟩ (by rw [hrl, hl]; simpa using hz) fun h' tk hd' k => ?_
  · have hj : i < prs.length := by rw [← hrl]; exact (List.getElem?_eq_some_iff.mp e).1
    obtain ⟨b, u, e1, e2, e3, e4⟩ := hrs i prs[i] (List.getElem?_eq_getElem hj)
    rw [e] at e1
    cases e1
    exact ⟨prs[i].1, List.getElem?_eq_getElem hj, e4⟩
  · (have hm : (s.heap.objs.size == sysModules) = false := beq_eq_false_iff_ne.mpr (Nat.ne_of_gt I.big))
    have hlen : ((mergeK [] kvs).length ≤ sizeLine) := by
      (refine Nat.le_trans (length_mergeK kvs []) ?_)
      (rw [List.length_nil, Nat.zero_add, rel.length, hl])
      simpa using hz
    exact ⟨.ref s.heap.objs.size, upd H s.heap.objs.size (.dK (mergeK [] kvs)), I.laid (t' := tk) (fun b o e => k b o (fun z => nomatch z) e) (Nat.le_refl _) (show ObjOk X.prog X.w _ _ _ (.dK (mergeK [] kvs)) from ⟨hlen, hm, merged [] prs, KV.merge rel .nil, hd'⟩), rfl, q _ (I.hok.fresh (Nat.le_refl _))⟩
end
end DD
namespace DD
open PySem PySem.Spec
open PyProof.Rows L2
section
variable {base : Heap} {mg : Str → Option Value} {K : PySem.W.Frag} {w : World} {P : Program}
/-! ### Contract -/
def RolesAt (K : PySem.W.Frag) (H : Hp) (rt : Addr) (rs : List (Str × Str)) : Prop := ∃ us, FrzT H rt us ∧ DTs K H us (rs.map fun p => .tuple [pS p.1, pS p.2])
theorem _root_.L2.Same.roles {H H' : Hp} {a : Addr} {rs : List (Str × Str)} (s : Same H H') (h : RolesAt K H a rs) : RolesAt K H' a rs := let ⟨us, h1, h2⟩ := h; ⟨us, s.frzT h1, s.dts h2⟩
theorem RolesAt.dt {H : Hp} {a : Addr} {rs : List (Str × Str)} (h : RolesAt K H a rs) : DT K H (.ref a) (rolesD rs) := let ⟨_, h1, h2⟩ := h; .tup h1.sq h2
def contF (pt rt tm : Addr) : List (Str × V) := [("own_parties", .ref pt), ("own_roles", .ref rt), ("own_term", .ref tm)]
/-- a contract: its names, roles, term -/
structure CtOk (nm pp : List Str) (rs : List (Str × Str)) (t : Tm) (n : Nat) : Prop where
  cn : Cn nm pp (rs.map Prod.fst)
  inp : ∀ p ∈ rs, p.2 ∈ pp
  st : St nm n t
  le : n ≤ 6
  parts : t.parts ≤ 40
def ContAt (K : PySem.W.Frag) (H : Hp) (a : Addr) (pp : List Str) (rs : List (Str × Str)) (t : Tm) : Prop := ∃ dx pt rt tm, H a = some (.ins (c_Contract K) dx (contF pt rt tm)) ∧ SqT K H pt (pp.map V.str) ∧ RolesAt K H rt rs ∧ TermAt K H tm t
theorem _root_.L2.Same.cont {H H' : Hp} {a : Addr} {pp : List Str} {rs : List (Str × Str)} {t : Tm} (s : Same H H') (h : ContAt K H a pp rs t) : ContAt K H' a pp rs t := by
  obtain ⟨dx, pt, rt, tm, h1, h2, h3, h4⟩ := h
  exact ⟨dx, pt, rt, tm, s _ _ h1, s.tup h2, s.roles h3, s.term h4⟩
theorem kb_Contract_init (T : Txt w K mg) : KBn K (fdOf K (a_Contract_init K)) ps_Contract_init (2 + 1) ["roles"] (fun us ws => us ++ ws) (fun vs zs => vs ++ zs) := by
  obtain ⟨oc, od, dV, kV, doc, pm, an, cdv, ct, osl, e, lk, hcd, hD, hK⟩ := T.f_Contract_init.ex
  rw [e]
  rcases hD with ⟨_, rfl⟩ | ⟨z, _⟩
  · exact ⟨fun s us ws X l1 l2 => BindsTo.of_eq (by
      match us, ws, l1, l2 with
      | [_, _, _], [_], _, _ => rfl), fun r1 r2 => r1.append r2⟩
  · exact absurd rfl z
def sp_Contract_init (K : PySem.W.Frag) : Sp := fun vs H Q _ => ∃ (x dx pt rt tm : Addr) (nm pp : List Str) (rs : List (Str × Str)) (t : Tm) (n : Nat), vs = [.ref x, .ref pt, .ref tm, .ref rt] ∧ H x = some (.ins (c_Contract K) dx []) ∧ CtOk nm pp rs t n ∧ SqT K H pt (pp.map V.str) ∧ RolesAt K H rt rs ∧ TermAt K H tm t ∧
  ∀ H', But x H H' → H' x = some (.ins (c_Contract K) dx (contF pt rt tm)) → Q .non H'
theorem ok_Contract_init (T : Txt w K mg) : FnOk P w K mg base CX0 4 (a_Contract_init K) (fdOf K (a_Contract_init K)) ps_Contract_init (sp_Contract_init K) := by
  have G_are_parties := ok_are_parties (P := P) (base := base) T
  have G_are_roles := ok_are_roles (P := P) (base := base) T
  have G_first_stranger := ok_first_stranger (P := P) (base := base) T
  refine ok0 T.f_Contract_init sc_Contract_init (fun vs H Q E h => ?_) (fun cdv A outer s H vs Q E hr h => ?_)
  · obtain ⟨_, _, _, _, _, _, _, _, _, _, rfl, _⟩ := h; rfl
  · obtain ⟨x, dx, pt, rt, tm, nm, pp, rs, t, n, rfl, hx, hc, hP, hR, hT, k⟩ := h
    have hU64 := hr.units
    have hr_are_parties : Room 2 _ := hr.mono (by omega)
    have hr_are_roles : Room 2 _ := hr.mono (by omega)
    have hr_first_stranger := hr
    have hrl : rs.length ≤ 2 := by have := hc.cn.few; rw [List.length_map] at this; exact this
    have hnp : (pp ++ rs.map Prod.fst).Nodup := hc.cn.nd
    have hp1 : 1 ≤ pp.length := List.length_pos_iff.mpr hc.cn.ne
    obtain ⟨tdx, tv, hTm, hTv⟩ := id hT
    refine ⟨_, (pss_cons (ps_if (pt_not (pt_val (pe_call G_are_parties hr_are_parties rfl T.g_are_parties T.k_are_parties T.b_are_parties .nil pass0 (pa_cons (pv 1) pa_nil)))) (pss_one ps_never) pss_nil) (pss_cons (ps_if (pt_not (pt_val (pe_callB (k_isi K) (by rfl) T.n_isinstance (by decide +kernel) (pa_cons (pv 2) (pa_cons (pe_cR rfl T.g_Term) pa_nil))))) (pss_one ps_never) pss_nil) (pss_cons (ps_if (pt_not (pt_val (pe_call G_are_roles hr_are_roles rfl T.g_are_roles T.k_are_roles T.b_are_roles .nil pass0 (pa_cons (pv 3) (pa_cons (pv 1) pa_nil))))) (pss_one ps_never) pss_nil) (pss_cons (ps_set (i := 4) sc_Contract_init.nd rfl (Or.inl rfl) (pe_call G_first_stranger hr_first_stranger rfl T.g_first_stranger T.k_first_stranger T.b_first_stranger .nil pass0 (pa_cons (k_fld K (pv 2) rfl) (pa_cons (pe_op (k_add K) (pe_callTy (k_list K) (by rfl) T.n_list (by decide +kernel) (pa_cons (pv 1) pa_nil)) (pe_lc (own := [("role", 5), ("party", 6)]) (by rfl) sc_Contract_init.nd (k_piT K (pv 3)) (blkOk_by (own := [("role", 5), ("party", 6)]) (N := N_Contract_init) (sc := defScope s_Contract_init) (by decide +kernel)) (fun _ _ _ _ _ => (k_tup K (n := 2) rfl (pgs_cons (pg_name (i := 5) sc_Contract_init.nd rfl (Or.inl rfl) (Or.inr rfl)) (pgs_cons (pg_name (i := 6) sc_Contract_init.nd rfl (Or.inl rfl) (Or.inr rfl)) pgs_nil)))) (fun _ _ _ _ _ => pts_nil) (fun _ _ _ _ _ => (pv 5)))) pa_nil)))) (pss_cons (ps_if (pt_cmpR (k_ne K hU64) (pv 4) (pe_lst pa_nil) (nomark _)) (pss_one ps_never) pss_nil) (pss_cons (ps_fld (pv 0) (pv 1) rfl) (pss_cons (ps_fld (pv 0) (pv 3) rfl) (pss_one (ps_fld (pv 0) (pv 2) rfl))))))))), ?_⟩
    refine ⟨_, rfl, pt, pp, rfl, hP, hp1, by have := hc.cn.pk.few; omega, (List.nodup_append.mp hnp).1, hc.cn.pk.word, fun H1 s1 => ⟨true, rfl, no (by decide) ?_⟩⟩
    refine ⟨.ref tm, rfl, ?_⟩
    obtain ⟨ct, cu, i1, i2, i3⟩ := isi_own T.x_inst_Term T.cl_Term (s1 _ _ hTm)
    refine ⟨_, _, ct, cu, true, rfl, i1, i2, i3, true, rfl, no (by decide) ?_⟩
    refine ⟨_, rfl, _, rfl, .ref rt, pt, nm, pp, rs, rfl, s1.dt hR.dt, s1.tup hP, hc.cn, hc.inp, fun H2 s2 => ⟨true, rfl, no (by decide) ?_⟩⟩
    have S2 := s1.trans s2
    refine ⟨_, rfl, tm, _, tdx, _, tv, rfl, S2 _ _ hTm, T.cl_Term, T.no_Term_own_told, rfl, ?_⟩
    refine ⟨_, rfl, pt, _, rfl, .inr (S2.tup hP), fun l hl => ?_⟩
    have s3 := Same.new (o := .lst (pp.map V.str)) hl
    have S3 := S2.trans s3
    obtain ⟨us, hF, hU⟩ := id hR
    have hul : us.length = rs.length := by rw [dps_len hU, List.length_map]
    refine ⟨_, rfl, rt, rfl, ⟨_, S3.tup hF.sq⟩, fun D hD => ?_⟩
    refine lc_n (walk_tup (xs := us)) (fun i v _ => ∃ p, rs[i]? = some p ∧ v = .str p.1) (fun i o H H' _ h => h) hD (by omega) (fun H5 s5 => (S3.trans s5).tup hF.sq) ?_ ?_
    · rintro i v H5 H6 Kt hi s5 ⟨rfl, e⟩ kk
      obtain ⟨p, b, hp, rfl, hb⟩ := pair_at ((S3.trans s5).dts hU) e
      exact ⟨b, _, rfl, hb, rfl, _, _, rfl, _, _, rfl, rfl, rfl, _, rfl, kk _ _ (Same.refl _) ⟨p, hp, rfl⟩⟩
    intro ys H5 s5 hl5 hy hD5
    have e : ys = (rs.map Prod.fst).map V.str := by
      rw [List.map_map]
      exact map_of (f := fun p : Str × Str => V.str p.1) (by rw [hl5, hul]) hy
    subst e
    have S5 := S3.trans s5
    refine catL (s5 _ _ upd_same) hD5 (by simp; have := hc.cn.pk.few; omega) fun q hq => ?_
    have s6 := Same.new (o := .lst (pp.map V.str ++ (rs.map Prod.fst).map V.str)) hq
    have S6 := S5.trans s6
    refine ⟨tv, t, nm, n, q, pp ++ rs.map Prod.fst, rfl, S6.dt hTv, hc.st, by have := hc.le; omega, by have := hc.parts; omega, by rw [List.map_append]; exact SqL.of upd_same, fun x hx => by rw [← hc.cn.eq]; exact hx, fun l2 H7 s7 hl7 => ?_⟩
    refine ⟨_, rfl, ne_nil (SqL.of hl7) (fun v h => nomatch h) fun H8 s8 => ⟨_, rfl, no (by decide) ?_⟩⟩
    have S8 := S6.trans (s7.trans s8)
    refine ⟨_, rfl, _, rfl, x, _, dx, [], rfl, S8 _ _ hx, T.cl_Contract, T.no_Contract_own_parties, by decide, ?_⟩
    refine ⟨_, rfl, _, rfl, x, _, dx, [("own_parties", .ref pt)], rfl, upd_same, T.cl_Contract, T.no_Contract_own_roles, by simp, ?_⟩
    refine ⟨_, rfl, _, rfl, x, _, dx, [("own_parties", .ref pt), ("own_roles", .ref rt)], rfl, upd_same, T.cl_Contract, T.no_Contract_own_term, by simp, ?_⟩
    exact k _ (((S8.but.trans But.upd).trans But.upd).trans But.upd) upd_same
end
end DD
namespace DD
open PySem PySem.Spec
open PyProof.Rows L2
section
variable {base : Heap} {mg : Str → Option Value} {K : PySem.W.Frag} {w : World} {P : Program}
def sp_Contract_role_names (K : PySem.W.Frag) : Sp := fun vs H Q _ => ∃ (a : Addr) (pp : List Str) (rs : List (Str × Str)) (t : Tm), vs = [.ref a] ∧ ContAt K H a pp rs t ∧ rs.length ≤ 5 ∧ ∀ l H', Same H H' → H l = none → H' l = some (.lst ((rs.map Prod.fst).map V.str)) → Q (.ref l) H'
theorem ok_Contract_role_names (T : Txt w K mg) : FnOk P w K mg base CX0 1 (a_Contract_role_names K) (fdOf K (a_Contract_role_names K)) ps_Contract_role_names (sp_Contract_role_names K) := by
  refine ok0 T.f_Contract_role_names sc_Contract_role_names (fun vs H Q E h => ?_) (fun cdv A outer s H vs Q E hr h => ?_)
  · obtain ⟨_, _, _, _, rfl, _⟩ := h; rfl
  · obtain ⟨a, pp, rs, t, rfl, ⟨dx, pt, rt, tm, hA, hP, hR, hT⟩, hrl, k⟩ := h
    obtain ⟨us, hF, hU⟩ := id hR
    have hul : us.length = rs.length := by rw [dps_len hU, List.length_map]
    refine ⟨_, (pss_one (ps_ret (pe_lc (own := [("role", 1), ("party", 2)]) (by rfl) sc_Contract_role_names.nd (k_piT K (k_fld K (pv 0) rfl)) (blkOk_by (own := [("role", 1), ("party", 2)]) (N := N_Contract_role_names) (sc := defScope s_Contract_role_names) (by decide +kernel)) (fun _ _ _ _ _ => (k_tup K (n := 2) rfl (pgs_cons (pg_name (i := 1) sc_Contract_role_names.nd rfl (Or.inl rfl) (Or.inr rfl)) (pgs_cons (pg_name (i := 2) sc_Contract_role_names.nd rfl (Or.inl rfl) (Or.inr rfl)) pgs_nil)))) (fun _ _ _ _ _ => pts_nil) (fun _ _ _ _ _ => (pv 1))))), ?_⟩
    refine ⟨_, rfl, a, _, dx, _, .ref rt, rfl, hA, T.cl_Contract, T.no_Contract_own_roles, rfl, rt, rfl, ⟨_, hF.sq⟩, fun D hD => ?_⟩
    refine lc_n (walk_tup (xs := us)) (fun i v _ => ∃ p, rs[i]? = some p ∧ v = .str p.1) (fun i o H H' _ h => h) hD (by omega) (fun H5 s5 => s5.tup hF.sq) ?_ ?_
    · rintro i v H5 H6 Kt hi s5 ⟨rfl, e⟩ kk
      obtain ⟨p, b, hp, rfl, hb⟩ := pair_at (s5.dts hU) e
      exact ⟨b, _, rfl, hb, rfl, _, _, rfl, _, _, rfl, rfl, rfl, _, rfl, kk _ _ (Same.refl _) ⟨p, hp, rfl⟩⟩
    intro ys H5 s5 hl5 hy hD5
    have e : ys = (rs.map Prod.fst).map V.str := by
      rw [List.map_map]
      exact map_of (f := fun p : Str × Str => V.str p.1) (by rw [hl5, hul]) hy
    subst e
    exact k D H5 s5 hD hD5
/-! ### first_state -/
theorem pairs_kv {H : Hp} : ∀ {us : List V} {rs : List (Str × Str)}, DTs K H us (rs.map fun p => .tuple [pS p.1, pS p.2]) → ∃ ps : List Addr, us = ps.map V.ref ∧ Paired (fun p kv => SqT K H p [kV kv.1, kv.2]) ps (hkv rs)
  | [], [], _ => ⟨[], rfl, .nil⟩
  | u :: r, p :: q, h => by
    obtain ⟨v, vs, e, h1, h2⟩ := dts_cons h
    cases e
    obtain ⟨b, ws, rfl, hS, q2⟩ := dt_tup h1
    obtain ⟨a1, r1, rfl, q3, q4⟩ := dts_cons q2
    obtain ⟨a2, r2, rfl, q5, q6⟩ := dts_cons q4
    cases dts_nil q6; cases dt_str q3; cases dt_str q5
    obtain ⟨ps, e1, e2⟩ := pairs_kv h2
    exact ⟨b :: ps, by rw [e1]; rfl, .cons hS e2⟩
  | [], _ :: _, h => nomatch h
  | _ :: _, [], h => nomatch h
def sp_Contract_first_state (K : PySem.W.Frag) : Sp := fun vs H Q _ => ∃ (a : Addr) (nm pp : List Str) (rs : List (Str × Str)) (t : Tm) (n : Nat), vs = [.ref a] ∧ ContAt K H a pp rs t ∧ CtOk nm pp rs t n ∧ ∀ v' t' H', Same H H' → StV K H' nm pp (rs.map Prod.fst) n v' t' → Q v' H'
theorem ok_Contract_first_state (T : Txt w K mg) : FnOk P w K mg base CX0 84 (a_Contract_first_state K) (fdOf K (a_Contract_first_state K)) ps_Contract_first_state (sp_Contract_first_state K) := by
  have G_begun := ok_begun (P := P) (base := base) T 40
  refine ok0 T.f_Contract_first_state sc_Contract_first_state (fun vs H Q E h => ?_) (fun cdv A outer s H vs Q E hr h => ?_)
  · obtain ⟨_, _, _, _, _, _, rfl, _⟩ := h; rfl
  · obtain ⟨a, nm, pp, rs, t, n, rfl, ⟨dx, pt, rt, tm, hA, hP, hR, ⟨tdx, tv, hTm, hTv⟩⟩, hc, k⟩ := h
    have hr_begun : Room (2 * 40 + 3) _ := hr
    obtain ⟨us, hF, hU⟩ := id hR
    obtain ⟨ps, rfl, hpk⟩ := pairs_kv hU
    refine ⟨_, (pss_cons (ps_set (i := 1) sc_Contract_first_state.nd rfl (Or.inl rfl) (pe_callTy (call_dictT rfl) (by rfl) T.n_dict (by decide +kernel) (pa_cons (k_fld K (pv 0) rfl) pa_nil))) (pss_one (ps_ret (pe_tup (pa_cons (pe_call G_begun hr_begun rfl T.g_begun T.k_begun T.b_begun .nil pass0 (pa_cons (k_fld K (k_fld K (pv 0) rfl) rfl) (pa_cons (k_fld K (pv 0) rfl) (pa_cons (pv 1) pa_nil)))) (pa_cons (pv 1) pa_nil)))))), ?_⟩
    refine ⟨_, rfl, a, _, dx, _, .ref rt, rfl, hA, T.cl_Contract, T.no_Contract_own_roles, rfl, rt, ps, hkv rs, rfl, hF, hpk, fun hd hhd => ?_⟩
    have nd : ((hkv rs).map Prod.fst).Nodup := by
      rw [hkv_keys]
      exact List.Pairwise.map _ (fun a b hab z => hab (Sum.inr.inj z)) (List.nodup_append.mp hc.cn.nd).2.1
    have em : mergeK [] (hkv rs) = hkv rs := merge_nodup _ [] (by simpa using nd)
    rw [em]
    have s1 := Same.new (o := .dK (hkv rs)) hhd
    have hh : HoldAt (upd H hd (.dK (hkv rs))) hd (rs.map Prod.fst) pp := ⟨rs, upd_same, rfl, hc.inp⟩
    refine ⟨_, rfl, a, _, dx, _, .ref tm, rfl, s1 _ _ hA, T.cl_Contract, T.no_Contract_own_term, rfl, tm, _, tdx, _, tv, rfl, s1 _ _ hTm, T.cl_Term, T.no_Term_own_told, rfl, ?_⟩
    refine ⟨_, rfl, a, _, dx, _, .ref pt, rfl, s1 _ _ hA, T.cl_Contract, T.no_Contract_own_parties, rfl, _, rfl, ?_⟩
    have := hc.st.times
    have := hc.le
    refine ⟨tv, pt, hd, t, nm, pp, rs.map Prod.fst, n, rfl, hc.cn, s1.dt hTv, hc.st, by omega, by omega, s1.tup hP, hh, fun v' t' H2 s2 hd2 hr2 _ => ⟨_, rfl, small (by simp), fun q hq => ?_⟩⟩
    have s3 := Same.new (o := .tup [v', .ref hd]) hq
    exact k _ t' _ (s1.trans (s2.trans s3)) ⟨q, hd, v', rfl, SqT.of upd_same, s3.dt hd2, hr2, (s2.trans s3).hold hh⟩
/-! ### need_event, next_state -/
def sp_Contract_need_event (K : PySem.W.Frag) : Sp := fun vs H Q _ => ∃ (a ev : Addr) (nm pp : List Str) (rs : List (Str × Str)) (t : Tm) (n : Nat) (e : Ev), vs = [.ref a, .ref ev] ∧ ContAt K H a pp rs t ∧ CtOk nm pp rs t n ∧ EvAt K H ev e ∧ EvOk pp (rs.map Prod.fst) e ∧ ∀ H', Same H H' → Q .non H'
theorem ok_Contract_need_event (T : Txt w K mg) : FnOk P w K mg base CX0 2 (a_Contract_need_event K) (fdOf K (a_Contract_need_event K)) ps_Contract_need_event (sp_Contract_need_event K) := by
  have G_Contract_role_names := ok_Contract_role_names (P := P) (base := base) T
  refine ok0 T.f_Contract_need_event sc_Contract_need_event (fun vs H Q E h => ?_) (fun cdv A outer s H vs Q E hr h => ?_)
  · obtain ⟨_, _, _, _, _, _, _, _, rfl, _⟩ := h; rfl
  · obtain ⟨a, ev, nm, pp, rs, t, n, e, rfl, hC, hc, hE, he, k⟩ := h
    obtain ⟨dx, pt, rt, tm, hA, hP, hR, hT⟩ := id hC
    obtain ⟨edx, wv, hEv, hW⟩ := id hE
    have hU64 := hr.units
    have hr_Contract_role_names := hr
    have hrl : rs.length ≤ 2 := by have := hc.cn.few; rw [List.length_map] at this; exact this
    refine ⟨_, (pss_cons (ps_if (pt_not (pt_val (pe_callB (k_isi K) (by rfl) T.n_isinstance (by decide +kernel) (pa_cons (pv 1) (pa_cons (pe_cR rfl T.g_Event) pa_nil))))) (pss_one ps_never) pss_nil) (pss_cons (ps_set (i := 2) sc_Contract_need_event.nd rfl (Or.inl rfl) (k_fld K (pv 1) rfl)) (pss_cons (ps_set (i := 3) sc_Contract_need_event.nd rfl (Or.inl rfl) (pe_ifExp (pt_cmpR (k_eq K hU64) (pe_ix (k_ix K) (pv 2) pe_int (fun _ _ => rfl)) (pe_cS rfl T.z_ACT) (nomark _)) (pe_lst (pa_cons (pe_ix (k_ix K) (pv 2) pe_int (fun _ _ => rfl)) pa_nil)) (pe_ifExp (pt_cmpR (k_eq K hU64) (pe_ix (k_ix K) (pv 2) pe_int (fun _ _ => rfl)) (pe_cS rfl T.z_HANDS) (nomark _)) (pe_lst (pa_cons (pe_ix (k_ix K) (pv 2) pe_int (fun _ _ => rfl)) (pa_cons (pe_ix (k_ix K) (pv 2) pe_int (fun _ _ => rfl)) pa_nil))) (pe_lst pa_nil)))) (pss_cons (ps_if (pt_not (pt_val (pe_callB (k_all K rfl) (by rfl) T.n_all (by decide +kernel) (pa_cons (pe_lc (own := [("party", 4)]) (by rfl) sc_Contract_need_event.nd (k_piL K (pv 3)) (blkOk_by (own := [("party", 4)]) (N := N_Contract_need_event) (sc := defScope s_Contract_need_event) (by decide +kernel)) (fun _ _ _ _ _ => (pg_name (i := 4) sc_Contract_need_event.nd rfl (Or.inl rfl) (Or.inr rfl))) (fun _ _ _ _ _ => pts_nil) (fun _ _ _ _ _ => (pe_cmpR (k_in K) (pv 4) (k_fld K (pv 0) rfl) (by rfl)))) pa_nil)))) (pss_one ps_never) pss_nil) (pss_one (ps_if (PW.pt (pw_and (pt_cmpR (k_eq K hU64) (pe_ix (k_ix K) (pv 2) pe_int (fun _ _ => rfl)) (pe_cS rfl T.z_HANDS) (nomark _)) (pw_and1 (pt_cmpR (k_notIn K) (pe_ix (k_ix K) (pv 2) pe_int (fun _ _ => rfl)) (pe_meth0 (pv 0) T.cl_Contract T.m_Contract_role_names G_Contract_role_names hr_Contract_role_names T.b_Contract_role_names .nil pass0) (by rfl))))) (pss_one ps_never) pss_nil)))))), ?_⟩
    refine ⟨.ref ev, rfl, ?_⟩
    obtain ⟨ct, cu, i1, i2, i3⟩ := isi_own T.x_inst_Event T.cl_Event hEv
    refine ⟨_, _, ct, cu, true, rfl, i1, i2, i3, true, rfl, no (by decide) ?_⟩
    refine ⟨_, rfl, ev, _, edx, _, wv, rfl, hEv, T.cl_Event, T.no_Event_own_words, rfl, ?_⟩
    obtain ⟨b, rfl, hS⟩ := ev_at hW
    cases e with
    | day =>
      refine tt_hdN (h := "day") rfl hS (by decide +kernel) (no (by decide) (tt_hdN (h := "day") rfl hS (by decide +kernel) (no (by decide) ⟨small (by simp), fun l hl => ?_⟩)))
      have s1 := Same.new (o := .lst []) hl
      refine ⟨_, rfl, l, rfl, ⟨_, SqL.of upd_same⟩, fun D hD => ?_⟩
      refine lc_n (walk_list (xs := ([] : List Str).map V.str)) (fun i v _ => v = .bl true) (fun i o H H' _ h => h) hD (by simp) (fun H5 s5 => s5.lst (SqL.of upd_same)) ?_ ?_
      · rintro i v H5 H6 Kt hi s5 ⟨rfl, e⟩ kt
        obtain ⟨x, hx, rfl⟩ := str_at e
        have S5 := s1.trans s5
        refine ⟨rfl, _, rfl, _, rfl, a, _, dx, _, .ref pt, rfl, S5 _ _ hA, T.cl_Contract, T.no_Contract_own_parties, rfl, pt, _, rfl, .inr (S5.tup hP), rfl, flat_strs pp, kt _ _ (Same.refl _) ?_⟩
        show V.bl (inV (.str x) (pp.map V.str)) = _
        have hin : ∀ x ∈ ([] : List Str), x ∈ pp := fun x h => nomatch h
        rw [inV_str, decide_eq_true (hin x (List.mem_of_getElem? hx))]
      intro ys H2 s2 hl5 hy hD5
      obtain ⟨bs, rfl, hb⟩ := pickL V.bl ys (fun i b => b = true) fun i y e => ⟨true, hy i y e, rfl⟩
      refine ⟨D, bs, rfl, SqL.of hD5, ?_⟩
      rw [all_true hb]
      refine ⟨true, rfl, no (by decide) ?_⟩
      exact tt_hdN (h := "day") rfl ((s1.trans s2).tup hS) (by decide +kernel) (no (by decide) (no (by decide) (k _ (s1.trans s2))))
    | act p c =>
      refine tt_hdY rfl hS (yes rfl (ixT rfl hS at1 ⟨small (by simp), fun l hl => ?_⟩))
      have s1 := Same.new (o := .lst [.str p]) hl
      refine ⟨_, rfl, l, rfl, ⟨_, SqL.of upd_same⟩, fun D hD => ?_⟩
      refine lc_n (walk_list (xs := ([p] : List Str).map V.str)) (fun i v _ => v = .bl true) (fun i o H H' _ h => h) hD (by simp) (fun H5 s5 => s5.lst (SqL.of upd_same)) ?_ ?_
      · rintro i v H5 H6 Kt hi s5 ⟨rfl, e⟩ kt
        obtain ⟨x, hx, rfl⟩ := str_at e
        have S5 := s1.trans s5
        refine ⟨rfl, _, rfl, _, rfl, a, _, dx, _, .ref pt, rfl, S5 _ _ hA, T.cl_Contract, T.no_Contract_own_parties, rfl, pt, _, rfl, .inr (S5.tup hP), rfl, flat_strs pp, kt _ _ (Same.refl _) ?_⟩
        show V.bl (inV (.str x) (pp.map V.str)) = _
        have hin : ∀ x ∈ ([p] : List Str), x ∈ pp := all1 he.1
        rw [inV_str, decide_eq_true (hin x (List.mem_of_getElem? hx))]
      intro ys H2 s2 hl5 hy hD5
      obtain ⟨bs, rfl, hb⟩ := pickL V.bl ys (fun i b => b = true) fun i y e => ⟨true, hy i y e, rfl⟩
      refine ⟨D, bs, rfl, SqL.of hD5, ?_⟩
      rw [all_true hb]
      refine ⟨true, rfl, no (by decide) ?_⟩
      exact tt_hdN (h := "act") rfl ((s1.trans s2).tup hS) (by decide +kernel) (no (by decide) (no (by decide) (k _ (s1.trans s2))))
    | hands p r q =>
      refine tt_hdN (h := "hands") rfl hS (by decide +kernel) (no (by decide) (tt_hdY rfl hS (yes rfl (ixT rfl hS at1 (ixT rfl hS at3 ⟨small (by simp), fun l hl => ?_⟩)))))
      have s1 := Same.new (o := .lst [.str p, .str q]) hl
      refine ⟨_, rfl, l, rfl, ⟨_, SqL.of upd_same⟩, fun D hD => ?_⟩
      refine lc_n (walk_list (xs := ([p, q] : List Str).map V.str)) (fun i v _ => v = .bl true) (fun i o H H' _ h => h) hD (by simp) (fun H5 s5 => s5.lst (SqL.of upd_same)) ?_ ?_
      · rintro i v H5 H6 Kt hi s5 ⟨rfl, e⟩ kt
        obtain ⟨x, hx, rfl⟩ := str_at e
        have S5 := s1.trans s5
        refine ⟨rfl, _, rfl, _, rfl, a, _, dx, _, .ref pt, rfl, S5 _ _ hA, T.cl_Contract, T.no_Contract_own_parties, rfl, pt, _, rfl, .inr (S5.tup hP), rfl, flat_strs pp, kt _ _ (Same.refl _) ?_⟩
        show V.bl (inV (.str x) (pp.map V.str)) = _
        have hin : ∀ x ∈ ([p, q] : List Str), x ∈ pp := allC he.1 (all1 he.2.2)
        rw [inV_str, decide_eq_true (hin x (List.mem_of_getElem? hx))]
      intro ys H2 s2 hl5 hy hD5
      obtain ⟨bs, rfl, hb⟩ := pickL V.bl ys (fun i b => b = true) fun i y e => ⟨true, hy i y e, rfl⟩
      refine ⟨D, bs, rfl, SqL.of hD5, ?_⟩
      rw [all_true hb]
      refine ⟨true, rfl, no (by decide) ?_⟩
      have S := s1.trans s2
      refine tt_hdY rfl (S.tup hS) (yes rfl (ixT rfl (S.tup hS) at2 ⟨_, rfl, a, dx, _, rfl, S _ _ hA, rfl, a, pp, rs, t, rfl, S.cont hC, by omega, fun l2 H3 s3 hl0 hl2 => ?_⟩))
      refine ⟨l2, _, rfl, .inl (SqL.of hl2), rfl, flat_strs _, _, rfl, ?_⟩
      have e : (if true = true then !inV (.str r) ((rs.map Prod.fst).map V.str) else inV (.str r) ((rs.map Prod.fst).map V.str)) = false := by
        show (!inV (.str r) ((rs.map Prod.fst).map V.str)) = false
        rw [inV_str, decide_eq_true he.2.1]; rfl
      rw [e]
      exact no (by decide) (k _ (S.trans s3))
def sp_Contract_next_state (K : PySem.W.Frag) : Sp := fun vs H Q _ => ∃ (a ev : Addr) (v : V) (nm pp : List Str) (rs : List (Str × Str)) (t t1 : Tm) (n : Nat) (e : Ev), vs = [.ref a, v, .ref ev] ∧ ContAt K H a pp rs t ∧ CtOk nm pp rs t n ∧ EvAt K H ev e ∧ EvOk pp (rs.map Prod.fst) e ∧ StV K H nm pp (rs.map Prod.fst) n v t1 ∧ ∀ v' t' H', Same H H' → StV K H' nm pp (rs.map Prod.fst) n v' t' → Q v' H'
theorem ok_Contract_next_state (T : Txt w K mg) : FnOk P w K mg base CX0 96 (a_Contract_next_state K) (fdOf K (a_Contract_next_state K)) ps_Contract_next_state (sp_Contract_next_state K) := by
  have G_stepped := ok_stepped (P := P) (base := base) T
  refine ok0 T.f_Contract_next_state sc_Contract_next_state (fun vs H Q E h => ?_) (fun cdv A outer s H vs Q E hr h => ?_)
  · obtain ⟨_, _, _, _, _, _, _, _, _, _, rfl, _⟩ := h; rfl
  · obtain ⟨a, ev, v, nm, pp, rs, t, t1, n, e, rfl, hC, hc, hE, he, hSt, k⟩ := h
    obtain ⟨dx, pt, rt, tm, hA, hP, hR, hT⟩ := id hC
    obtain ⟨edx, wv, hEv, hW⟩ := id hE
    have hr_stepped := hr
    refine ⟨_, (pss_one (ps_ret (pe_call G_stepped hr_stepped rfl T.g_stepped T.k_stepped T.b_stepped .nil pass0 (pa_cons (pv 1) (pa_cons (k_fld K (pv 2) rfl) (pa_cons (k_fld K (pv 0) rfl) pa_nil)))))), ?_⟩
    refine ⟨_, rfl, _, rfl, ev, _, edx, _, wv, rfl, hEv, T.cl_Event, T.no_Event_own_words, rfl, _, rfl, a, _, dx, _, .ref pt, rfl, hA, T.cl_Contract, T.no_Contract_own_parties, rfl, ?_⟩
    exact ⟨v, wv, pt, e, t1, nm, pp, rs.map Prod.fst, n, rfl, hc.cn, he, hSt, hc.le, hW, hP, k⟩
end
end DD
namespace DD
open PySem PySem.Spec
open PyProof.Rows L2
/-! ### lists of values as lists of things -/
structure Zip {α : Type} (R : V → α → Prop) (vs : List V) (as : List α) : Prop where
  len : vs.length = as.length
  at_ : ∀ (i : Nat) v a, vs[i]? = some v → as[i]? = some a → R v a
section
variable {α : Type} {R S : V → α → Prop} {vs : List V} {as : List α}
theorem Zip.imp (h : Zip R vs as) (k : ∀ v a, R v a → S v a) : Zip S vs as := ⟨h.len, fun i v a e1 e2 => k v a (h.at_ i v a e1 e2)⟩
theorem Zip.snoc (h : Zip R vs as) {v : V} {a : α} (r : R v a) : Zip R (vs ++ [v]) (as ++ [a]) := by
  refine ⟨by simp [h.len], fun i u b e1 e2 => ?_⟩
  by_cases hi : i < vs.length
  · rw [List.getElem?_append_left hi] at e1
    rw [List.getElem?_append_left (by rw [← h.len]; exact hi)] at e2
    exact h.at_ i u b e1 e2
  · rw [List.getElem?_append_right (by omega)] at e1
    rw [List.getElem?_append_right (by rw [← h.len]; omega)] at e2
    rw [h.len] at e1
    cases q : i - as.length with
    | zero => rw [q] at e1 e2; cases e1; cases e2; exact r
    | succ n => rw [q] at e1; cases e1
theorem Zip.take (h : Zip R vs as) (n : Nat) : Zip R (vs.take n) (as.take n) := by
  refine ⟨by simp [h.len], fun i u b e1 e2 => ?_⟩
  rw [List.getElem?_take] at e1 e2
  split at e1
  · rename_i q
    rw [if_pos q] at e2
    exact h.at_ i u b e1 e2
  · cases e1
theorem Zip.get (h : Zip R vs as) {i : Nat} {v : V} (e : vs[i]? = some v) : ∃ a, as[i]? = some a ∧ R v a := by
  have hi : i < as.length := by rw [← h.len]; exact (List.getElem?_eq_some_iff.mp e).1
  exact ⟨as[i], List.getElem?_eq_getElem hi, h.at_ i v _ e (List.getElem?_eq_getElem hi)⟩
theorem Zip.getA (h : Zip R vs as) {i : Nat} {a : α} (e : as[i]? = some a) : ∃ v, vs[i]? = some v ∧ R v a := by
  have hi : i < vs.length := by rw [h.len]; exact (List.getElem?_eq_some_iff.mp e).1
  exact ⟨vs[i], List.getElem?_eq_getElem hi, h.at_ i _ a (List.getElem?_eq_getElem hi) e⟩
theorem Zip.nil : Zip R [] [] := ⟨rfl, fun i v a e => nomatch e⟩
theorem Zip.last (h : Zip R vs as) (hn : as ≠ []) : ∃ us v bs a, vs = us ++ [v] ∧ as = bs ++ [a] ∧ R v a := by
  obtain ⟨bs, a, rfl⟩ := snoc_of hn
  have hv : vs ≠ [] := fun e => by have := h.len; rw [e] at this; simp at this
  obtain ⟨us, v, rfl⟩ := snoc_of hv
  have hl := h.len
  simp only [List.length_append, List.length_singleton] at hl
  refine ⟨us, v, bs, a, rfl, rfl, h.at_ us.length v a (by simp) ?_⟩
  rw [show us.length = bs.length by omega]
  simp
end
/-! ### what a case shows -/
def Tm.vd (t : Tm) : PyData := if t.over then t.d else .tuple [pS "open"]
def lastT (ts : List Tm) : Tm := (ts.getLast?).getD .done
def sinceD (ts : List Tm) : PyData := if (lastT ts).over then .int (((ts.map Tm.vd).findIdx fun d => PyData.eqv d (lastT ts).vd : Nat) : Int) else .none
def rowsD (t : Tm) : PyData := .tuple (t.force.map Tm.row)
def shownD (es : List Ev) (ts : List Tm) : List PyData := [(lastT ts).vd, sinceD ts, .str (lastT ts).text, rowsD (lastT ts), .list (es.map Ev.d), .int (es.length : Nat)]
theorem lastT_snoc (ts : List Tm) (t : Tm) : lastT (ts ++ [t]) = t := by unfold lastT; simp
/-! ### Case -/
structure Ct where
  nm : List Str
  pp : List Str
  rs : List (Str × Str)
  tm : Tm
  lv : Nat
def Ct.rn (C : Ct) : List Str := C.rs.map Prod.fst
def Ct.Ok (C : Ct) : Prop := CtOk C.nm C.pp C.rs C.tm C.lv
section
variable {base : Heap} {mg : Str → Option Value} {K : PySem.W.Frag} {w : World} {P : Program}
def EvV (K : PySem.W.Frag) (H : Hp) (C : Ct) (v : V) (e : Ev) : Prop := ∃ a, v = .ref a ∧ EvAt K H a e ∧ EvOk C.pp C.rn e
def caseF (ct el sl : Addr) : List (Str × V) := [("own_contract", .ref ct), ("own_events", .ref el), ("own_states", .ref sl)]
/-- the lists of a case -/
def ListsAt (K : PySem.W.Frag) (H : Hp) (C : Ct) (el sl : Addr) (es : List Ev) (ts : List Tm) : Prop := ∃ evs sts, H el = some (.lst evs) ∧ Zip (EvV K H C) evs es ∧ H sl = some (.lst sts) ∧ Zip (StV K H C.nm C.pp C.rn C.lv) sts ts ∧ ts.length = es.length + 1 ∧ es.length ≤ 1000
def CaseAt (K : PySem.W.Frag) (H : Hp) (c : Addr) (C : Ct) (es : List Ev) (ts : List Tm) : Prop := ∃ dx ct el sl, H c = some (.ins (c_Case K) dx (caseF ct el sl)) ∧ ContAt K H ct C.pp C.rs C.tm ∧ C.Ok ∧ ListsAt K H C el sl es ts
/-- all but the addresses of L stays -/
def Fr (L : List Addr) (H H' : Hp) : Prop := ∀ a u, a ∉ L → H a = some u → H' a = some u
theorem Fr.refl (L : List Addr) (H : Hp) : Fr L H H := fun _ _ _ h => h
theorem Fr.trans {L : List Addr} {H H1 H2 : Hp} (a : Fr L H H1) (b : Fr L H1 H2) : Fr L H H2 := fun c u n h => b c u n (a c u n h)
theorem Fr.mono {L M : List Addr} {H H1 : Hp} (a : Fr L H H1) (h : ∀ x ∈ L, x ∈ M) : Fr M H H1 := fun c u n => a c u fun z => n (h c z)
theorem _root_.L2.Same.fr {L : List Addr} {H H' : Hp} (e : Same H H') : Fr L H H' := fun a u _ h => e a u h
theorem But.fr {D : Addr} {L : List Addr} {H H' : Hp} (e : But D H H') (h : D ∈ L) : Fr L H H' := fun a u n q => e a u (fun z => n (by rw [z]; exact h)) q
/-- what is made once and never changed -/
def goodO : HO → Prop
  | .ins _ _ ((k, _) :: _) => k = "own_words" ∨ k = "own_parties" ∨ k = "own_told"
  | .ins _ _ [] => False
  | .dK kvs => ∀ p ∈ kvs, ∃ x : Str, p.2 = .str x
  | .lst _ => True
  | .tup _ => True
  | .frz _ _ => True
  | _ => False
/-- all that is made once stays -/
def Kp (H H' : Hp) : Prop := ∀ a u, H a = some u → goodO u → H' a = some u
theorem Kp.refl (H : Hp) : Kp H H := fun _ _ h _ => h
theorem Kp.trans {H H1 H2 : Hp} (a : Kp H H1) (b : Kp H1 H2) : Kp H H2 := fun c u h g => b c u (a c u h g) g
theorem _root_.L2.Same.kp {H H' : Hp} (e : Same H H') : Kp H H' := fun a u h _ => e a u h
theorem Fr.kp {L : List Addr} {H H' : Hp} (f : Fr L H H') (h : ∀ a ∈ L, ∀ u, H a = some u → ¬ goodO u) : Kp H H' := fun a u q g => f a u (fun z => h a z u q g) q
section
variable {H H' : Hp} {a b : Addr} {C : Ct} {v : V} {e : Ev}
theorem Kp.kt (k : Kp H H') : KT H H' := fun a u h g => k a u h (by cases u <;> first | trivial | cases g)
theorem good_hkv (hs : List (Str × Str)) : goodO (.dK (hkv hs)) := fun p hp => by
  obtain ⟨q, _, rfl⟩ := List.mem_map.mp hp
  exact ⟨q.2, rfl⟩
theorem Kp.hold {rn pp : List Str} (k : Kp H H') (h : HoldAt H a rn pp) : HoldAt H' a rn pp := let ⟨hs, h1, h2⟩ := h; ⟨hs, k _ _ h1 (good_hkv hs), h2⟩
theorem Kp.stv {nm pp rn : List Str} {n : Nat} {t : Tm} (k : Kp H H') (h : StV K H nm pp rn n v t) : StV K H' nm pp rn n v t := by
  obtain ⟨a, hd, u, h0, h1, h2, h3, h4⟩ := h
  exact ⟨a, hd, u, h0, k.kt.tup h1, k.kt.dt h2, h3, k.hold h4⟩
theorem Kp.ev (k : Kp H H') (h : EvAt K H a e) : EvAt K H' a e := let ⟨dx, wv, h1, h2⟩ := h; ⟨dx, wv, k _ _ h1 (.inl rfl), k.kt.dt h2⟩
theorem Kp.evv (k : Kp H H') (h : EvV K H C v e) : EvV K H' C v e := let ⟨a, h1, h2, h3⟩ := h; ⟨a, h1, k.ev h2, h3⟩
theorem Kp.frzT {xs : List V} (k : Kp H H') (h : FrzT H a xs) : FrzT H' a xs := let ⟨o, h1, h2⟩ := h; ⟨o, k _ _ h1 trivial, h2⟩
theorem Kp.roles {rs : List (Str × Str)} (k : Kp H H') (h : RolesAt K H a rs) : RolesAt K H' a rs := let ⟨us, h1, h2⟩ := h; ⟨us, k.frzT h1, k.kt.dts h2⟩
theorem Kp.term {t : Tm} (k : Kp H H') (h : TermAt K H a t) : TermAt K H' a t := let ⟨dx, v, h1, h2⟩ := h; ⟨dx, v, k _ _ h1 (.inr (.inr rfl)), k.kt.dt h2⟩
theorem Kp.cont {pp : List Str} {rs : List (Str × Str)} {t : Tm} (k : Kp H H') (h : ContAt K H a pp rs t) : ContAt K H' a pp rs t := by
  obtain ⟨dx, pt, rt, tm, h1, h2, h3, h4⟩ := h
  exact ⟨dx, pt, rt, tm, k _ _ h1 (.inr (.inl rfl)), k.kt.tup h2, k.roles h3, k.term h4⟩
theorem Kp.lists {el sl : Addr} {es : List Ev} {ts : List Tm} (k : Kp H H') (h : ListsAt K H C el sl es ts) : ListsAt K H' C el sl es ts := by
  obtain ⟨evs, sts, h1, h2, h3, h4, h5⟩ := h
  exact ⟨evs, sts, k _ _ h1 trivial, h2.imp fun _ _ => k.evv, k _ _ h3 trivial, h4.imp fun _ _ => k.stv, h5⟩
theorem Kp.case {c : Addr} {es : List Ev} {ts : List Tm} (k : Kp H H') (hc : ∀ u, H c = some u → H' c = some u) (h : CaseAt K H c C es ts) : CaseAt K H' c C es ts := by
  obtain ⟨dx, ct, el, sl, h1, h2, h3, h4⟩ := h
  exact ⟨dx, ct, el, sl, hc _ h1, k.cont h2, h3, k.lists h4⟩
theorem case_ng {c : Addr} {es : List Ev} {ts : List Tm} (h : CaseAt K H c C es ts) : ∀ u, H c = some u → ¬ goodO u := by
  obtain ⟨dx, ct, el, sl, h1, _⟩ := h
  intro u hu g
  rw [h1] at hu
  cases hu
  rcases g with g | g | g <;> exact absurd g (by decide +kernel)
theorem _root_.L2.Same.case {c : Addr} {es : List Ev} {ts : List Tm} (s : Same H H') (h : CaseAt K H c C es ts) : CaseAt K H' c C es ts := s.kp.case (fun u => s _ u) h
end
/-- the told state of now -/
theorem lastRun {σ : L2.St} {H : Hp} {c : Addr} {C : Ct} {es : List Ev} {ts : List Tm} {Q : VK} (T : Txt w K mg) (hσ : σ[0]? = some (some (.ref c))) (hC : CaseAt K H c C es ts) (q : ∀ u, DT K H u (lastT ts).d → Rm C.nm C.pp C.lv (lastT ts) → Q u H) :
    tOp (rIx K) (tOp (rIx K) (tFld K (tVar 0) (Str.ofString "own_states")) (tUn (rU fun i => .int (-i)) (tC (.int 1)))) (tC (.int 0)) σ H Q := by
  obtain ⟨dx, ct, el, sl, h1, h2, h3, evs, sts, h4, h5, h6, h7, h8, h9⟩ := hC
  obtain ⟨us, v, bs, t, rfl, rfl, a, hd, u, rfl, g1, g2, g3, g4⟩ := h7.last (fun e => by rw [e] at h8; cases h8)
  rw [lastT_snoc] at q
  exact ⟨_, hσ, c, _, dx, _, .ref sl, rfl, h1, T.cl_Case, T.no_Case_own_states, rfl, 1, rfl, .inl ⟨sl, _, -1, .ref a, rfl, rfl, SqL.of h6, atI_last us (.ref a), .inr (.inl ⟨a, _, 0, u, rfl, rfl, g1, at0, q u g2 g3⟩)⟩⟩
end
end DD
namespace DD
open PySem PySem.Spec
open PyProof.Rows L2
section
variable {base : Heap} {mg : Str → Option Value} {K : PySem.W.Frag} {w : World} {P : Program}
/-! ### force_row -/
def sp_force_row (K : PySem.W.Frag) : Sp := fun vs H Q _ => ∃ (v : V) (t : Tm), vs = [v] ∧ DT K H v t.d ∧ t.leaf = true ∧ ∀ v' H', Same H H' → DT K H' v' t.row → Q v' H'
theorem cut4 {σ : L2.St} {H : Hp} {c : Addr} {h ww x : Str} {i : Int} {r : List V} {Q : VK} (h1 : σ[0]? = some (some (.ref c))) (hS : SqT K H c (.str h :: .str ww :: .str x :: .int i :: r)) (k : ∀ q H', Same H H' → SqT K H' q [.str h, .str ww, .str x, .int i] → Q (.ref q) H') :
    tSl (uSl K) (tVar 0) tNoPart (tPart (tC (.int 4))) σ H Q := by
  refine ⟨_, h1, _, rfl, .inr ⟨c, _, rfl, hS, fun z => ?_, fun _ p hp => ?_⟩⟩
  · have q := z.2
    rw [show (4 : Int) = ((4 : Nat) : Int) from rfl, HT.sIx_nat] at q
    simp only [List.length_cons] at q
    have er : r = [] := by cases r with
      | nil => rfl
      | cons a r => simp only [List.length_cons] at q; omega
    subst er
    exact k c H (Same.refl H) hS
  · rw [show (4 : Int) = ((4 : Nat) : Int) from rfl, cut_to _ _ (by simp)]
    exact k p _ (Same.new hp) (SqT.of upd_same)
theorem ok_force_row (T : Txt w K mg) : FnOk P w K mg base CX0 1 (a_force_row K) (fdOf K (a_force_row K)) ps_force_row (sp_force_row K) := by
  refine ok0 T.f_force_row sc_force_row (fun vs H Q E h => ?_) (fun cdv A outer s H vs Q E hr h => ?_)
  · obtain ⟨_, _, rfl, _⟩ := h; rfl
  · obtain ⟨v, t, rfl, hD, hl, k⟩ := h
    have hU64 := hr.units
    refine ⟨_, (pss_one (ps_ret (pe_ifExp (pt_cmpR (k_eq K hU64) (pe_ix (k_ix K) (pv 0) pe_int (fun _ _ => rfl)) pe_str (nomark _)) (pe_tup (pa_cons pe_str (pa_cons pe_non (pa_cons pe_non (pa_cons (pe_ix (k_ix K) (pv 0) pe_int (fun _ _ => rfl)) pa_nil))))) (pe_slice (k_sl K) (pv 0) po_none (po_some pe_int))))), ?_⟩
    have four : ∀ {c : Addr} {h ww x : Str} {i : Int} {r : List V}, v = .ref c → SqT K H c (.str h :: .str ww :: .str x :: .int i :: r) → t.row = .tuple [pS h, pS ww, pS x, .int i] → tSl (uSl K) (tVar 0) tNoPart (tPart (tC (.int 4))) [some v] H Q := fun {c h ww x i r} e hS er => by
      subst e
      exact cut4 rfl hS fun q H' s' hq => k _ _ s' (er ▸ .tup hq (.cons (.str _) (.cons (.str _) (.cons (.str _) (.cons (.int _) .nil)))))
    cases t with
    | wait i =>
      obtain ⟨c, rfl, hS⟩ := tm_wait hD
      refine tt_hdY rfl hS (yes rfl (ixT rfl hS at1 ⟨small (by simp), fun p hp => k _ _ (Same.new hp) (.tup (SqT.of upd_same) (.cons (.str _) (.cons .non (.cons .non (.cons (.int _) .nil)))))⟩))
    | duty b ww x i =>
      obtain ⟨c, rfl, hS⟩ := tm_duty hD
      exact tt_hdN (h := dutyS b) rfl hS (by cases b <;> decide +kernel) (no (by decide) (four rfl hS rfl))
    | dutyE b ww x i o =>
      obtain ⟨c, u, rfl, hS, hu⟩ := tm_dutyE hD
      exact tt_hdN (h := dutyS b) rfl hS (by cases b <;> decide +kernel) (no (by decide) (four rfl hS rfl))
    | may ww x i =>
      obtain ⟨c, rfl, hS⟩ := tm_may hD
      exact tt_hdN (h := "may") rfl hS (by decide +kernel) (no (by decide) (four rfl hS rfl))
    | whn ww x i p =>
      obtain ⟨c, u, rfl, hS, hu⟩ := tm_whn hD
      exact tt_hdN (h := "when") rfl hS (by decide +kernel) (no (by decide) (four rfl hS rfl))
    | whnE ww x i p o =>
      obtain ⟨c, u, y, rfl, hS, hu, hy⟩ := tm_whnE hD
      exact tt_hdN (h := "when") rfl hS (by decide +kernel) (no (by decide) (four rfl hS rfl))
    | _ => cases hl
/-! ### what a case tells -/
theorem vd_of {H : Hp} {v : V} {t : Tm} {Q : VK} (hD : DT K H v t.d) (k : ∀ v' H', Same H H' → DT K H' v' t.vd → Q v' H') : spVerdict K [v] H Q E0 := by
  obtain ⟨a, us, rfl, hS, hU⟩ := tm_at hD
  refine ⟨a, _, _, rfl, hS, fun e H' s' => k _ H' s' ?_, fun e p H' s' _ hp => k _ H' s' ?_⟩
  · rw [over_hd] at e
    unfold Tm.vd
    rw [if_pos e]
    exact s'.dt hD
  · rw [over_hd] at e
    unfold Tm.vd
    rw [if_neg (by rw [e]; decide)]
    exact .tup (SqT.of hp) (.cons (.str _) .nil)
def sp_Case_verdict (K : PySem.W.Frag) : Sp := fun vs H Q _ => ∃ (c : Addr) (C : Ct) (es : List Ev) (ts : List Tm), vs = [.ref c] ∧ CaseAt K H c C es ts ∧ ∀ v H', Same H H' → DT K H' v (lastT ts).vd → Q v H'
theorem ok_Case_verdict (T : Txt w K mg) : FnOk P w K mg base CX0 3 (a_Case_verdict K) (fdOf K (a_Case_verdict K)) ps_Case_verdict (sp_Case_verdict K) := by
  have G_verdict_of := ok_verdict_of (P := P) (base := base) T
  refine ok0 T.f_Case_verdict sc_Case_verdict (fun vs H Q E h => ?_) (fun cdv A outer s H vs Q E hr h => ?_)
  · obtain ⟨_, _, _, _, rfl, _⟩ := h; rfl
  · obtain ⟨c, C, es, ts, rfl, hC, k⟩ := h
    have hr_verdict_of := hr
    refine ⟨_, (pss_one (ps_ret (pe_call G_verdict_of hr_verdict_of rfl T.g_verdict_of T.k_verdict_of T.b_verdict_of .nil pass0 (pa_cons (pe_ix (k_ix K) (pe_ix (k_ix K) (k_fld K (pv 0) rfl) (pe_un un_neg pe_int) (fun _ _ => rfl)) pe_int (fun _ _ => rfl)) pa_nil)))), ?_⟩
    exact lastRun T rfl hC fun u hd hR => vd_of hd k
def sp_Case_remainder (K : PySem.W.Frag) : Sp := fun vs H Q _ => ∃ (c : Addr) (C : Ct) (es : List Ev) (ts : List Tm), vs = [.ref c] ∧ CaseAt K H c C es ts ∧ ∀ H', Same H H' → Q (.str (lastT ts).text) H'
theorem Ct.Ok.pk {C : Ct} (h : C.Ok) : Pp C.pp := CtOk.cn h |>.pk
theorem Ct.Ok.lv6 {C : Ct} (h : C.Ok) : C.lv ≤ 6 := CtOk.le h
theorem ok_Case_remainder (T : Txt w K mg) : FnOk P w K mg base CX0 43 (a_Case_remainder K) (fdOf K (a_Case_remainder K)) ps_Case_remainder (sp_Case_remainder K) := by
  have G_term_text := ok_term_text (P := P) (base := base) T 8 (Nat.le_refl _)
  refine ok0 T.f_Case_remainder sc_Case_remainder (fun vs H Q E h => ?_) (fun cdv A outer s H vs Q E hr h => ?_)
  · obtain ⟨_, _, _, _, rfl, _⟩ := h; rfl
  · obtain ⟨c, C, es, ts, rfl, hC, k⟩ := h
    have hr_term_text : Room 42 _ := hr
    obtain ⟨_, _, _, _, _, _, hok, _⟩ := id hC
    refine ⟨_, (pss_one (ps_ret (pe_callTy SkE.call_str_str (by rfl) T.n_str (by decide +kernel) (pa_cons (pe_call G_term_text hr_term_text rfl T.g_term_text T.k_term_text T.b_term_text .nil pass0 (pa_cons (pe_ix (k_ix K) (pe_ix (k_ix K) (k_fld K (pv 0) rfl) (pe_un un_neg pe_int) (fun _ _ => rfl)) pe_int (fun _ _ => rfl)) pa_nil)) pa_nil)))), ?_⟩
    exact lastRun T rfl hC fun u hd hR => ⟨u, lastT ts, rfl, hd, (hR.tx hok.pk).mono (by have := hok.lv6; omega), fun H' s' => ⟨_, rfl, k H' s'⟩⟩
def sp_Case_standing (K : PySem.W.Frag) : Sp := fun vs H Q _ => ∃ (c : Addr) (C : Ct) (es : List Ev) (ts : List Tm), vs = [.ref c] ∧ CaseAt K H c C es ts ∧ ∀ v H', Same H H' → DT K H' v (rowsD (lastT ts)) → Q v H'
theorem ok_Case_standing (T : Txt w K mg) : FnOk P w K mg base CX0 9 (a_Case_standing K) (fdOf K (a_Case_standing K)) ps_Case_standing (sp_Case_standing K) := by
  have G_in_force := ok_in_force (P := P) (base := base) T 6 (Nat.le_refl _)
  have G_force_row := ok_force_row (P := P) (base := base) T
  refine ok0 T.f_Case_standing sc_Case_standing (fun vs H Q E h => ?_) (fun cdv A outer s H vs Q E hr h => ?_)
  · obtain ⟨_, _, _, _, rfl, _⟩ := h; rfl
  · obtain ⟨c, C, es, ts, rfl, hC, k⟩ := h
    have hr_in_force : Room 8 _ := hr
    have hr_force_row : Room 1 _ := hr.mono (by omega)
    obtain ⟨_, _, _, _, _, _, hok, _⟩ := id hC
    refine ⟨_, (pss_one (ps_ret (pe_callTy (k_tuple K) (by rfl) T.n_tuple (by decide +kernel) (pa_cons (pe_lc (own := [("told", 1)]) (by rfl) sc_Case_standing.nd (k_piL K (pe_call G_in_force hr_in_force rfl T.g_in_force T.k_in_force T.b_in_force .nil pass0 (pa_cons (pe_ix (k_ix K) (pe_ix (k_ix K) (k_fld K (pv 0) rfl) (pe_un un_neg pe_int) (fun _ _ => rfl)) pe_int (fun _ _ => rfl)) pa_nil))) (blkOk_by (own := [("told", 1)]) (N := N_Case_standing) (sc := defScope s_Case_standing) (by decide +kernel)) (fun _ _ _ _ _ => (pg_name (i := 1) sc_Case_standing.nd rfl (Or.inl rfl) (Or.inr rfl))) (fun _ _ _ _ _ => pts_nil) (fun _ _ _ _ _ => (pe_call G_force_row hr_force_row rfl T.g_force_row T.k_force_row T.b_force_row .nil pass0 (pa_cons (pv 1) pa_nil)))) pa_nil)))), ?_⟩
    refine lastRun T rfl hC fun u hd hR => ⟨u, lastT ts, C.nm, C.pp, rfl, hd, hR.mono hok.lv6, fun l us H1 s1 hl0 hl hus => ⟨l, rfl, ⟨_, SqL.of hl⟩, fun D hD0 => ?_⟩⟩
    have hul := kids_len hus
    have hfl := force_len (hR.mono hok.lv6)
    have : (3 : Nat) ^ 6 ≤ 1000 := by decide
    refine lc_n (walk_list (xs := us)) (fun i v H' => ∃ f, (lastT ts).force[i]? = some f ∧ DT K H' v f.row) (by rintro i o H H' kk ⟨f, h1, h2⟩; exact ⟨f, h1, kk.dt h2⟩) hD0 (by omega) (fun H2 s2 => s2.lst (SqL.of hl)) ?_ ?_
    · rintro i x H2 H3 Kt hi s2 ⟨rfl, e⟩ kk
      obtain ⟨f, hf, hdf⟩ := kid_at (s2.dts hus) e
      exact ⟨rfl, _, rfl, x, f, rfl, hdf, (force_leaf hR f (List.mem_of_getElem? hf)).1, fun v' H4 s4 hd4 => kk _ _ s4 ⟨f, hf, hd4⟩⟩
    · intro ys H2 s2 hl2 hy hD2
      have hrs : DTs K H2 ys ((lastT ts).force.map Tm.row) := dts_of (by rw [hl2, hul, List.length_map]) fun i v d e1 e2 => by
        obtain ⟨f, hf, hdf⟩ := hy i v e1
        rw [List.getElem?_map, hf] at e2
        cases e2
        exact hdf
      refine ⟨D, ys, rfl, .inl ⟨SqL.of hD2, fun q hq => ?_⟩⟩
      exact k _ _ (s1.trans (s2.trans (Same.new hq))) (.tup (SqT.of upd_same) ((Same.new hq).dts hrs))
def sp_Case_events (K : PySem.W.Frag) : Sp := fun vs H Q _ => ∃ (c : Addr) (C : Ct) (es : List Ev) (ts : List Tm), vs = [.ref c] ∧ CaseAt K H c C es ts ∧ ∀ p evs H', Same H H' → SqT K H' p evs → Zip (EvV K H' C) evs es → Q (.ref p) H'
theorem ok_Case_events (T : Txt w K mg) : FnOk P w K mg base CX0 1 (a_Case_events K) (fdOf K (a_Case_events K)) ps_Case_events (sp_Case_events K) := by
  refine ok0 T.f_Case_events sc_Case_events (fun vs H Q E h => ?_) (fun cdv A outer s H vs Q E hr h => ?_)
  · obtain ⟨_, _, _, _, rfl, _⟩ := h; rfl
  · obtain ⟨c, C, es, ts, rfl, ⟨dx, ct, el, sl, h1, h2, h3, evs, sts, h4, h5, h6, h7, h8, h9⟩, k⟩ := h
    refine ⟨_, (pss_one (ps_ret (pe_callTy (k_tuple K) (by rfl) T.n_tuple (by decide +kernel) (pa_cons (k_fld K (pv 0) rfl) pa_nil)))), ?_⟩
    exact ⟨_, rfl, c, _, dx, _, .ref el, rfl, h1, T.cl_Case, T.no_Case_own_events, rfl, el, evs, rfl, .inl ⟨SqL.of h4, fun q hq => k q evs _ (Same.new hq) (SqT.of upd_same) (h5.imp fun _ _ => (Same.new hq).kp.evv)⟩⟩
def sp_Case_len (K : PySem.W.Frag) : Sp := fun vs H Q _ => ∃ (c : Addr) (C : Ct) (es : List Ev) (ts : List Tm), vs = [.ref c] ∧ CaseAt K H c C es ts ∧ Q (.int (es.length : Nat)) H
theorem ok_Case_len (T : Txt w K mg) : FnOk P w K mg base CX0 1 (a_Case_len K) (fdOf K (a_Case_len K)) ps_Case_len (sp_Case_len K) := by
  refine ok0 T.f_Case_len sc_Case_len (fun vs H Q E h => ?_) (fun cdv A outer s H vs Q E hr h => ?_)
  · obtain ⟨_, _, _, _, rfl, _⟩ := h; rfl
  · obtain ⟨c, C, es, ts, rfl, ⟨dx, ct, el, sl, h1, h2, h3, evs, sts, h4, h5, h6, h7, h8, h9⟩, k⟩ := h
    refine ⟨_, (pss_one (ps_ret (pe_callB (k_len K) (by rfl) T.n_len (by decide +kernel) (pa_cons (k_fld K (pv 0) rfl) pa_nil)))), ?_⟩
    refine ⟨_, rfl, c, _, dx, _, .ref el, rfl, h1, T.cl_Case, T.no_Case_own_events, rfl, _, _, rfl, .inl ⟨_, SqL.of h4, rfl⟩, ?_⟩
    rw [h5.len]
    exact k
end
end DD
namespace DD
open PySem PySem.Spec
open PyProof.Rows L2
section
variable {base : Heap} {mg : Str → Option Value} {K : PySem.W.Frag} {w : World} {P : Program}
theorem eqv_open (t : Tm) : PyData.eqv t.vd (.tuple [pS "open"]) = !t.over := by
  unfold Tm.vd
  cases t with
  | done => decide +kernel
  | breach ws => simp [Tm.over, Tm.d, PyData.eqv, PyData.eqvAll]
  | _ => exact (by decide +kernel : PyData.eqv (.tuple [pS "open"]) (.tuple [pS "open"]) = true)
theorem open_fit : Fit 2 (.tuple [pS "open"]) := (Fit.tup (n := 0) (all1 (.str (by decide +kernel)))).mono (by omega)
theorem vd_fit {t : Tm} {n : Nat} (h : Tx n t) (hn : 1 ≤ n) : Fit (2 * n) t.vd := by
  unfold Tm.vd
  split
  · exact h.fit
  · exact open_fit.mono (by omega)
theorem Tx.pos {t : Tm} {n : Nat} (h : Tx n t) : 1 ≤ n := by cases h <;> omega
def sp_Case_since (K : PySem.W.Frag) : Sp := fun vs H Q _ => ∃ (c : Addr) (C : Ct) (es : List Ev) (ts : List Tm), vs = [.ref c] ∧ CaseAt K H c C es ts ∧ ∀ v H', Same H H' → DT K H' v (sinceD ts) → Q v H'
theorem ok_Case_since (T : Txt w K mg) : FnOk P w K mg base CX0 5 (a_Case_since K) (fdOf K (a_Case_since K)) ps_Case_since (sp_Case_since K) := by
  have G_verdict_of := ok_verdict_of (P := P) (base := base) T
  have G_Case_verdict := ok_Case_verdict (P := P) (base := base) T
  refine ok0 T.f_Case_since sc_Case_since (fun vs H Q E h => ?_) (fun cdv A outer s H vs Q E hr h => ?_)
  · obtain ⟨_, _, _, _, rfl, _⟩ := h; rfl
  · obtain ⟨c, C, es, ts, rfl, hC, k⟩ := h
    have hU64 := hr.units
    have hU65 := u65 (k := 3) hr
    have hr_verdict_of : Room 2 _ := hr.mono (by omega)
    have hr_Case_verdict := hr
    obtain ⟨dx, ct, el, sl, h1, h2, hok, evs, sts, h4, h5, h6, h7, h8, h9⟩ := id hC
    have hlv := hok.lv6
    have htx : ∀ t ∈ ts, Tx (C.lv + 2) t := fun t ht => by
      obtain ⟨i, hi⟩ := List.getElem?_of_mem ht
      obtain ⟨v, _, a, hd, u, _, _, _, hR, _⟩ := h7.getA hi
      exact hR.tx hok.pk
    have hlast : lastT ts ∈ ts := by
      have hne : ts ≠ [] := fun e => by rw [e] at h8; cases h8
      obtain ⟨bs, t, e⟩ := snoc_of hne
      rw [e, lastT_snoc]; simp
    have hLx := htx _ hlast
    refine ⟨_, (pss_cons (ps_if (pt_cmpR (k_eq K hU64) (pe_prop (pv 0) T.cl_Case (prop_of T.x_prop_Case_verdict) G_Case_verdict hr_Case_verdict T.b_Case_verdict .nil pass0 rfl) (pe_tup (pa_cons pe_str pa_nil)) (nomark _)) (pss_one (ps_ret pe_non)) pss_nil) (pss_one (ps_ret (k_bm K PySem.F.plainAttrs_list PySem.F.slot_list_index PySem.F.type_list_index (k_index K hU65) (pe_lc (own := [("state", 1)]) (by rfl) sc_Case_since.nd (k_piL K (k_fld K (pv 0) rfl)) (blkOk_by (own := [("state", 1)]) (N := N_Case_since) (sc := defScope s_Case_since) (by decide +kernel)) (fun _ _ _ _ _ => (pg_name (i := 1) sc_Case_since.nd rfl (Or.inl rfl) (Or.inr rfl))) (fun _ _ _ _ _ => pts_nil) (fun _ _ _ _ _ => (pe_call G_verdict_of hr_verdict_of rfl T.g_verdict_of T.k_verdict_of T.b_verdict_of .nil pass0 (pa_cons (pe_ix (k_ix K) (pv 1) pe_int (fun _ _ => rfl)) pa_nil)))) (pa_cons (pe_prop (pv 0) T.cl_Case (prop_of T.x_prop_Case_verdict) G_Case_verdict hr_Case_verdict T.b_Case_verdict .nil pass0 rfl) pa_nil))))), ?_⟩
    refine ⟨_, rfl, c, dx, _, rfl, h1, c, C, es, ts, rfl, hC, fun v H1 s1 hv => ⟨small (by simp), fun p hp => ?_⟩⟩
    have s2 := Same.new (o := .tup [.str "open"]) hp
    refine .inr ⟨(lastT ts).vd, .tuple [pS "open"], (s2.dt hv).dp, (DT.tup (SqT.of upd_same) (.cons (.str _) .nil)).dp, (vd_fit hLx hLx.pos).shaped (by omega), open_fit.shaped (by omega), _, rfl, ?_⟩
    rw [eqv_open]
    have S2 := s1.trans s2
    cases eo : (lastT ts).over with
    | false =>
      refine yes rfl ?_
      have e : sinceD ts = .none := by unfold sinceD; rw [eo]; rfl
      exact k _ _ S2 (e ▸ .non)
    | true =>
      refine no (by decide) ?_
      refine ⟨_, rfl, c, _, dx, _, .ref sl, rfl, S2 _ _ h1, T.cl_Case, T.no_Case_own_states, rfl, sl, rfl, ⟨_, SqL.of (S2 _ _ h6)⟩, fun D hD => ?_⟩
      have hsl : sts.length ≤ 1001 := by rw [h7.len]; omega
      refine lc_n (walk_list (xs := sts)) (fun i v H' => ∃ t, ts[i]? = some t ∧ DT K H' v t.vd) (by rintro i o H H' kk ⟨t, a, b⟩; exact ⟨t, a, kk.dt b⟩) hD (by omega) (fun H3 s3 => SqL.of ((S2.trans s3) _ _ h6)) ?_ ?_
      · rintro i x H3 H4 Kt hi s3 ⟨rfl, e⟩ kk
        obtain ⟨t, ht, hv0⟩ := h7.get e
        obtain ⟨a, hd, u, rfl, g1, g2, g3, g4⟩ := (S2.trans s3).stv hv0
        exact ⟨rfl, ixT rfl g1 at0 (vd_of g2 fun v' H' s' hd' => kk _ _ s' ⟨t, ht, hd'⟩)⟩
      · intro ys H3 s3 hl3 hy hD3
        have S3 := S2.trans s3
        have hds : DTs K H3 ys (ts.map Tm.vd) := dts_of (by rw [hl3, h7.len, List.length_map]) fun i v d e1 e2 => by
          obtain ⟨t, ht, hd⟩ := hy i v e1
          rw [List.getElem?_map, ht] at e2
          cases e2
          exact hd
        refine ⟨.inl ⟨rfl, _, SqL.of hD3⟩, _, rfl, c, dx, _, rfl, S3 _ _ h1, c, C, es, ts, rfl, S3.case hC, fun v2 H4 s4 hv2 => ?_⟩
        have hex : ∃ z ∈ ts.map Tm.vd, PyData.eqv z (lastT ts).vd = true := ⟨_, List.mem_map.mpr ⟨_, hlast, rfl⟩, (vd_fit hLx hLx.pos).eqv⟩
        have hlt := List.findIdx_lt_length_of_exists hex
        refine ⟨D, v2, (lastT ts).vd, ts.map Tm.vd, _, _, rfl, rfl, .lst (s4.lst (SqL.of hD3)) (s4.dts hds).dps, hv2.dp, (Fit.lst (n := 30) fun d hd => ?_).shaped (by omega), (vd_fit hLx hLx.pos).shaped (by omega), List.getElem?_eq_getElem hlt, List.findIdx_getElem (w := hlt), fun m z' hm hz' => ?_, ?_⟩
        · obtain ⟨t, ht, rfl⟩ := List.mem_map.mp hd
          have := htx t ht
          exact (vd_fit this this.pos).mono (by omega)
        · have hml : m < (ts.map Tm.vd).length := (List.getElem?_eq_some_iff.mp hz').1
          have e : (ts.map Tm.vd)[m] = z' := (List.getElem?_eq_some_iff.mp hz').2
          have := List.not_of_lt_findIdx hm
          rw [e] at this
          exact this
        · have e : sinceD ts = .int (((ts.map Tm.vd).findIdx fun d => PyData.eqv d (lastT ts).vd : Nat) : Int) := by unfold sinceD; rw [if_pos eo]
          exact k _ H4 (S3.trans s4) (e ▸ .int _)
end
end DD
namespace DD
open PySem PySem.Spec
open PyProof.Rows L2
section
variable {base : Heap} {mg : Str → Option Value} {K : PySem.W.Frag} {w : World} {P : Program}
/-! ### Case: made, moved on, moved back -/
def sp_Case_init (K : PySem.W.Frag) : Sp := fun vs H Q _ => ∃ (x dx ct : Addr) (C : Ct), vs = [.ref x, .ref ct] ∧ H x = some (.ins (c_Case K) dx []) ∧ ContAt K H ct C.pp C.rs C.tm ∧ C.Ok ∧ ∀ H' t, But x H H' → CaseAt K H' x C [] [t] → Q .non H'
theorem ok_Case_init (T : Txt w K mg) : FnOk P w K mg base CX0 85 (a_Case_init K) (fdOf K (a_Case_init K)) ps_Case_init (sp_Case_init K) := by
  have G_Contract_first_state := ok_Contract_first_state (P := P) (base := base) T
  refine ok0 T.f_Case_init sc_Case_init (fun vs H Q E h => ?_) (fun cdv A outer s H vs Q E hr h => ?_)
  · obtain ⟨_, _, _, _, rfl, _⟩ := h; rfl
  · obtain ⟨x, dx, ct, C, rfl, hx, hCt, hok, k⟩ := h
    have hr_Contract_first_state := hr
    have nog : ∀ {H1 : Hp} {fs : List (Str × V)}, H1 x = some (.ins (c_Case K) dx fs) → (fs = [] ∨ ∃ v r, fs = (("own_contract" : Str), v) :: r) → ∀ u, H1 x = some u → ¬ goodO u := fun e hf u hu g => by
      rw [e] at hu; cases hu
      rcases hf with rfl | ⟨v, r, rfl⟩
      · exact g
      · rcases g with g | g | g <;> exact absurd g (by decide +kernel)
    have one : ∀ {D : Addr}, D ∈ [D] := fun {D} => List.mem_singleton.mpr rfl
    refine ⟨_, (pss_cons (ps_fld (pv 0) (pv 1) rfl) (pss_cons (ps_fld (pv 0) (pe_lst pa_nil) rfl) (pss_one (ps_fld (pv 0) (pe_lst (pa_cons (pe_meth0 (pv 1) T.cl_Contract T.m_Contract_first_state G_Contract_first_state hr_Contract_first_state T.b_Contract_first_state .nil pass0) pa_nil)) rfl)))), ?_⟩
    refine ⟨_, rfl, _, rfl, x, _, dx, [], rfl, hx, T.cl_Case, T.no_Case_own_contract, by decide, ?_⟩
    have b1 : But x H (upd H x (.ins (c_Case K) dx (putF "own_contract" (.ref ct) []))) := But.upd
    have k1 : Kp H (upd H x (.ins (c_Case K) dx (putF "own_contract" (.ref ct) []))) := (b1.fr one).kp fun a ha => by rw [List.mem_singleton.mp ha]; exact nog hx (.inl rfl)
    have f1 : (upd H x (.ins (c_Case K) dx (putF "own_contract" (.ref ct) []))) x = some (.ins (c_Case K) dx [("own_contract", .ref ct)]) := upd_same
    generalize (upd H x (.ins (c_Case K) dx (putF "own_contract" (.ref ct) []))) = H1 at b1 k1 f1 ⊢
    refine ⟨small (by simp), fun l hl => ⟨_, rfl, x, _, dx, [("own_contract", .ref ct)], rfl, (Same.new hl) _ _ f1, T.cl_Case, T.no_Case_own_events, by simp, ?_⟩⟩
    have s2 := Same.new (o := .lst []) hl
    have nl : l ≠ x := fun z => by rw [z, f1] at hl; cases hl
    have b2 : But x H1 (upd (upd H1 l (.lst [])) x (.ins (c_Case K) dx (putF "own_events" (.ref l) [("own_contract", .ref ct)]))) := s2.but.trans But.upd
    have k2 : Kp H1 (upd (upd H1 l (.lst [])) x (.ins (c_Case K) dx (putF "own_events" (.ref l) [("own_contract", .ref ct)]))) := (b2.fr one).kp fun a ha => by rw [List.mem_singleton.mp ha]; exact nog f1 (.inr ⟨_, _, rfl⟩)
    have f2 : (upd (upd H1 l (.lst [])) x (.ins (c_Case K) dx (putF "own_events" (.ref l) [("own_contract", .ref ct)]))) x = some (.ins (c_Case K) dx [("own_contract", .ref ct), ("own_events", .ref l)]) := upd_same
    have l2 : (upd (upd H1 l (.lst [])) x (.ins (c_Case K) dx (putF "own_events" (.ref l) [("own_contract", .ref ct)]))) l = some (.lst []) := by rw [upd_ne nl]; exact upd_same
    generalize (upd (upd H1 l (.lst [])) x (.ins (c_Case K) dx (putF "own_events" (.ref l) [("own_contract", .ref ct)]))) = H2 at b2 k2 f2 l2 ⊢
    have k12 := k1.trans k2
    obtain ⟨cdx, pt, rt, tm, hCi, _⟩ := k12.cont hCt
    refine ⟨_, rfl, ct, cdx, _, rfl, hCi, rfl, ct, C.nm, C.pp, C.rs, C.tm, C.lv, rfl, k12.cont hCt, hok, fun v t H3 s3 hv => ⟨small (by simp), fun l3 hl3 => ?_⟩⟩
    have s4 := Same.new (o := .lst [v]) hl3
    have S4 := s3.trans s4
    refine ⟨_, rfl, x, _, dx, [("own_contract", .ref ct), ("own_events", .ref l)], rfl, S4 _ _ f2, T.cl_Case, T.no_Case_own_states, by simp, ?_⟩
    have n3 : l3 ≠ x := fun z => by rw [z, s3 _ _ f2] at hl3; cases hl3
    have b5 : But x H2 (upd (upd H3 l3 (.lst [v])) x (.ins (c_Case K) dx (putF "own_states" (.ref l3) [("own_contract", .ref ct), ("own_events", .ref l)]))) := S4.but.trans But.upd
    have k5 : Kp H2 (upd (upd H3 l3 (.lst [v])) x (.ins (c_Case K) dx (putF "own_states" (.ref l3) [("own_contract", .ref ct), ("own_events", .ref l)]))) := (b5.fr one).kp fun a ha => by rw [List.mem_singleton.mp ha]; exact nog f2 (.inr ⟨_, _, rfl⟩)
    have k35 : Kp H3 (upd (upd H3 l3 (.lst [v])) x (.ins (c_Case K) dx (putF "own_states" (.ref l3) [("own_contract", .ref ct), ("own_events", .ref l)]))) := ((s4.but.trans But.upd).fr one).kp fun a ha => by rw [List.mem_singleton.mp ha]; exact nog (s3 _ _ f2) (.inr ⟨_, _, rfl⟩)
    refine k _ t ((b1.trans b2).trans b5) ⟨dx, ct, l, l3, upd_same, (k12.trans k5).cont hCt, hok, [], [v], k5 _ _ l2 trivial, .nil, by rw [upd_ne n3]; exact upd_same, Zip.nil.snoc (k35.stv hv), rfl, Nat.zero_le _⟩
def sp_Case_state_after (K : PySem.W.Frag) : Sp := fun vs H Q _ => ∃ (c ev : Addr) (C : Ct) (es : List Ev) (ts : List Tm) (e : Ev), vs = [.ref c, .ref ev] ∧ CaseAt K H c C es ts ∧ EvAt K H ev e ∧ EvOk C.pp C.rn e ∧ ∀ v t H', Same H H' → StV K H' C.nm C.pp C.rn C.lv v t → Q v H'
theorem ok_Case_state_after (T : Txt w K mg) : FnOk P w K mg base CX0 97 (a_Case_state_after K) (fdOf K (a_Case_state_after K)) ps_Case_state_after (sp_Case_state_after K) := by
  have G_Contract_need_event := ok_Contract_need_event (P := P) (base := base) T
  have G_Contract_next_state := ok_Contract_next_state (P := P) (base := base) T
  refine ok0 T.f_Case_state_after sc_Case_state_after (fun vs H Q E h => ?_) (fun cdv A outer s H vs Q E hr h => ?_)
  · obtain ⟨_, _, _, _, _, _, rfl, _⟩ := h; rfl
  · obtain ⟨c, ev, C, es, ts, e, rfl, ⟨dx, ct, el, sl, h1, h2, hok, evs, sts, h4, h5, h6, h7, h8, h9⟩, hE, he, k⟩ := h
    have hr_Contract_need_event : Room 2 _ := hr.mono (by omega)
    have hr_Contract_next_state := hr
    obtain ⟨us, v, bs, t, rfl, rfl, hv⟩ := h7.last (fun e => by rw [e] at h8; cases h8)
    obtain ⟨cdx, pt, rt, tm, hCi, _⟩ := id h2
    refine ⟨_, (pss_cons (ps_expr (pe_meth (k_fld K (pv 0) rfl) T.cl_Contract T.m_Contract_need_event G_Contract_need_event hr_Contract_need_event T.b_Contract_need_event .nil pass0 (pa_cons (pv 1) pa_nil))) (pss_one (ps_ret (pe_meth (k_fld K (pv 0) rfl) T.cl_Contract T.m_Contract_next_state G_Contract_next_state hr_Contract_next_state T.b_Contract_next_state .nil pass0 (pa_cons (pe_ix (k_ix K) (k_fld K (pv 0) rfl) (pe_un un_neg pe_int) (fun _ _ => rfl)) (pa_cons (pv 1) pa_nil)))))), ?_⟩
    refine ⟨_, rfl, c, _, dx, _, .ref ct, rfl, h1, T.cl_Case, T.no_Case_own_contract, rfl, ct, cdx, _, rfl, hCi, rfl, _, rfl, ct, ev, C.nm, C.pp, C.rs, C.tm, C.lv, e, rfl, h2, hok, hE, he, fun H1 s1 => ?_⟩
    refine ⟨_, rfl, c, _, dx, _, .ref ct, rfl, s1 _ _ h1, T.cl_Case, T.no_Case_own_contract, rfl, ct, cdx, _, rfl, s1 _ _ hCi, rfl, ?_⟩
    refine ⟨_, rfl, c, _, dx, _, .ref sl, rfl, s1 _ _ h1, T.cl_Case, T.no_Case_own_states, rfl, 1, rfl, .inl ⟨sl, _, -1, v, rfl, rfl, SqL.of (s1 _ _ h6), atI_last us v, _, rfl, ?_⟩⟩
    exact ⟨ct, ev, v, C.nm, C.pp, C.rs, C.tm, t, C.lv, e, rfl, s1.cont h2, hok, s1.ev hE, he, s1.stv hv, fun v' t' H' s' hv' => k v' t' H' (s1.trans s') hv'⟩
end
end DD
namespace DD
open PySem PySem.Spec
open PyProof.Rows L2
section
variable {base : Heap} {mg : Str → Option Value} {K : PySem.W.Frag} {w : World} {P : Program}
theorem ng_case {H : Hp} {c dx ct el sl : Addr} (h : H c = some (.ins (c_Case K) dx (caseF ct el sl))) : ∀ u, H c = some u → ¬ goodO u := fun u hu g => by
  rw [h] at hu; cases hu
  rcases g with g | g | g <;> exact absurd g (by decide +kernel)
theorem kp1 {H H' : Hp} {c : Addr} (f : Fr [c] H H') (h : ∀ u, H c = some u → ¬ goodO u) : Kp H H' := f.kp fun a ha => by rw [List.mem_singleton.mp ha]; exact h
theorem in1 {c : Addr} : c ∈ [c] := List.mem_singleton.mpr rfl
def sp_Case_come (K : PySem.W.Frag) : Sp := fun vs H Q _ => ∃ (c ev : Addr) (C : Ct) (es : List Ev) (ts : List Tm) (e : Ev), vs = [.ref c, .ref ev] ∧ CaseAt K H c C es ts ∧ EvAt K H ev e ∧ EvOk C.pp C.rn e ∧ es.length < 1000 ∧ ∀ t H', Fr [c] H H' → CaseAt K H' c C (es ++ [e]) (ts ++ [t]) → Q .non H'
theorem ok_Case_come (T : Txt w K mg) : FnOk P w K mg base CX0 98 (a_Case_come K) (fdOf K (a_Case_come K)) ps_Case_come (sp_Case_come K) := by
  have G_Case_state_after := ok_Case_state_after (P := P) (base := base) T
  refine ok0 T.f_Case_come sc_Case_come (fun vs H Q E h => ?_) (fun cdv A outer s H vs Q E hr h => ?_)
  · obtain ⟨_, _, _, _, _, _, rfl, _⟩ := h; rfl
  · obtain ⟨c, ev, C, es, ts, e, rfl, hC, hE, he, hlt, k⟩ := h
    have hr_Case_state_after := hr
    obtain ⟨dx, ct, el, sl, h1, h2, hok, evs, sts, h4, h5, h6, h7, h8, h9⟩ := id hC
    refine ⟨_, (pss_cons (ps_set (i := 2) sc_Case_come.nd rfl (Or.inl rfl) (pe_meth (pv 0) T.cl_Case T.m_Case_state_after G_Case_state_after hr_Case_state_after T.b_Case_state_after .nil pass0 (pa_cons (pv 1) pa_nil))) (pss_cons (ps_fld (pv 0) (pe_op (k_add K) (k_fld K (pv 0) rfl) (pe_lst (pa_cons (pv 1) pa_nil))) rfl) (pss_one (ps_fld (pv 0) (pe_op (k_add K) (k_fld K (pv 0) rfl) (pe_lst (pa_cons (pv 2) pa_nil))) rfl)))), ?_⟩
    refine ⟨_, rfl, c, dx, _, rfl, h1, rfl, _, rfl, c, ev, C, es, ts, e, rfl, hC, hE, he, fun v t H1 s1 hv => ?_⟩
    have c1 := s1 _ _ h1
    refine ⟨_, rfl, c, _, dx, _, .ref el, rfl, c1, T.cl_Case, T.no_Case_own_events, rfl, _, rfl, small (by simp), fun l hl => ?_⟩
    have s2 := Same.new (o := .lst [.ref ev]) hl
    refine catL ((s1.trans s2) _ _ h4) upd_same (by have := h5.len; simp; omega) fun l2 hl2 => ?_
    have s3 := Same.new (o := .lst (evs ++ [.ref ev])) hl2
    have S3 := s1.trans (s2.trans s3)
    refine ⟨_, rfl, c, _, dx, _, rfl, S3 _ _ h1, T.cl_Case, T.no_Case_own_events, by simp [caseF], ?_⟩
    have n2 : l2 ≠ c := fun z => by rw [z, (s1.trans s2) _ _ h1] at hl2; cases hl2
    have b4 : But c H (upd (upd (upd H1 l (.lst [.ref ev])) l2 (.lst (evs ++ [.ref ev]))) c (.ins (c_Case K) dx (putF "own_events" (.ref l2) (caseF ct el sl)))) := S3.but.trans But.upd
    have f4 : (upd (upd (upd H1 l (.lst [.ref ev])) l2 (.lst (evs ++ [.ref ev]))) c (.ins (c_Case K) dx (putF "own_events" (.ref l2) (caseF ct el sl)))) c = some (.ins (c_Case K) dx (caseF ct l2 sl)) := upd_same
    have l4 : (upd (upd (upd H1 l (.lst [.ref ev])) l2 (.lst (evs ++ [.ref ev]))) c (.ins (c_Case K) dx (putF "own_events" (.ref l2) (caseF ct el sl)))) l2 = some (.lst (evs ++ [.ref ev])) := by rw [upd_ne n2]; exact upd_same
    have k14 : Kp H1 (upd (upd (upd H1 l (.lst [.ref ev])) l2 (.lst (evs ++ [.ref ev]))) c (.ins (c_Case K) dx (putF "own_events" (.ref l2) (caseF ct el sl)))) := kp1 (((s2.trans s3).but.trans But.upd).fr in1) (ng_case c1)
    have k4 := s1.kp.trans k14
    generalize (upd (upd (upd H1 l (.lst [.ref ev])) l2 (.lst (evs ++ [.ref ev]))) c (.ins (c_Case K) dx (putF "own_events" (.ref l2) (caseF ct el sl)))) = H4 at b4 f4 l4 k4 k14 ⊢
    have sl4 : H4 sl = some (.lst sts) := k4 _ _ h6 trivial
    refine ⟨_, rfl, c, _, dx, _, .ref sl, rfl, f4, T.cl_Case, T.no_Case_own_states, rfl, _, rfl, small (by simp), fun l5 hl5 => ?_⟩
    have s5 := Same.new (o := .lst [v]) hl5
    refine catL (s5 _ _ sl4) upd_same (by have := h7.len; simp; omega) fun l6 hl6 => ?_
    have s6 := Same.new (o := .lst (sts ++ [v])) hl6
    have S6 := s5.trans s6
    refine ⟨_, rfl, c, _, dx, _, rfl, S6 _ _ f4, T.cl_Case, T.no_Case_own_states, by simp [caseF], ?_⟩
    have n6 : l6 ≠ c := fun z => by rw [z, s5 _ _ f4] at hl6; cases hl6
    have b7 : But c H4 (upd (upd (upd H4 l5 (.lst [v])) l6 (.lst (sts ++ [v]))) c (.ins (c_Case K) dx (putF "own_states" (.ref l6) (caseF ct l2 sl)))) := S6.but.trans But.upd
    have k7 := kp1 (b7.fr in1) (ng_case f4)
    have k07 := k4.trans k7
    exact k t _ ((b4.trans b7).fr in1) ⟨dx, ct, l2, l6, upd_same, k07.cont h2, hok, _, _, k7 _ _ l4 trivial, (h5.imp fun _ _ => k07.evv).snoc ⟨ev, rfl, k07.ev hE, he⟩, by rw [upd_ne n6]; exact upd_same, (h7.imp fun _ _ => k07.stv).snoc ((k14.trans k7).stv hv), by simp [h8], by simp; omega⟩
/-! ### back -/
theorem cut_neg (xs : List V) (k : Nat) (h1 : 1 ≤ k) (h2 : k ≤ xs.length) : cutV xs none (some (-(k : Int))) = xs.take (xs.length - k) := by
  have e : HT.sIx xs.length xs.length (some (-(k : Int))) = xs.length - k := by
    unfold HT.sIx
    dsimp only
    split <;> omega
  unfold cutV
  rw [e, HT.sIx_none, List.drop_zero, Nat.sub_zero]
def sp_Case_back (K : PySem.W.Frag) : Sp := fun vs H Q _ => ∃ (c : Addr) (k : Nat) (C : Ct) (es : List Ev) (ts : List Tm), vs = [.ref c, .int (k : Nat)] ∧ CaseAt K H c C es ts ∧ 1 ≤ k ∧ k ≤ es.length ∧ ∀ H', Fr [c] H H' → CaseAt K H' c C (es.take (es.length - k)) (ts.take (ts.length - k)) → Q .non H'
theorem ok_Case_back (T : Txt w K mg) : FnOk P w K mg base CX0 2 (a_Case_back K) (fdOf K (a_Case_back K)) ps_Case_back (sp_Case_back K) := by
  have G_is_whole := ok_is_whole (P := P) (base := base) T
  refine ok0 T.f_Case_back sc_Case_back (fun vs H Q E h => ?_) (fun cdv A outer s H vs Q E hr h => ?_)
  · obtain ⟨_, _, _, _, _, rfl, _⟩ := h; rfl
  · obtain ⟨c, k, C, es, ts, rfl, hC, hk1, hk2, kk⟩ := h
    have hr_is_whole := hr
    obtain ⟨dx, ct, el, sl, h1, h2, hok, evs, sts, h4, h5, h6, h7, h8, h9⟩ := id hC
    have e5 := h5.len
    have e7 := h7.len
    refine ⟨_, (pss_cons (ps_if (pt_not (pt_val (pe_call G_is_whole hr_is_whole rfl T.g_is_whole T.k_is_whole T.b_is_whole .nil pass0 (pa_cons (pv 1) (pa_cons pe_int (pa_cons (pe_callB (k_len K) (by rfl) T.n_len (by decide +kernel) (pa_cons (k_fld K (pv 0) rfl) pa_nil)) pa_nil)))))) (pss_one ps_never) pss_nil) (pss_cons (ps_fld (pv 0) (pe_slice (k_sl K) (k_fld K (pv 0) rfl) po_none (po_some (pe_un un_neg (pv 1)))) rfl) (pss_one (ps_fld (pv 0) (pe_slice (k_sl K) (k_fld K (pv 0) rfl) po_none (po_some (pe_un un_neg (pv 1)))) rfl)))), ?_⟩
    refine ⟨_, rfl, _, rfl, c, _, dx, _, .ref el, rfl, h1, T.cl_Case, T.no_Case_own_events, rfl, _, _, rfl, .inl ⟨_, SqL.of h4, rfl⟩, _, _, _, rfl, fun H1 s1 => ?_⟩
    rw [decide_eq_true (show (1 : Int) ≤ ((k : Nat) : Int) by omega), decide_eq_true (show ((k : Nat) : Int) ≤ ((evs.length : Nat) : Int) by omega)]
    refine ⟨_, rfl, no (by decide) ?_⟩
    have c1 := s1 _ _ h1
    refine ⟨_, rfl, c, _, dx, _, .ref el, rfl, c1, T.cl_Case, T.no_Case_own_events, rfl, _, rfl, _, rfl, _, rfl, .inl ⟨el, evs, rfl, SqL.of (s1 _ _ h4), fun l hl => ?_⟩⟩
    rw [cut_neg evs k hk1 (by omega)]
    have s2 := Same.new (o := .lst (evs.take (evs.length - k))) hl
    have S2 := s1.trans s2
    refine ⟨_, rfl, c, _, dx, _, rfl, S2 _ _ h1, T.cl_Case, T.no_Case_own_events, by simp [caseF], ?_⟩
    have nl : l ≠ c := fun z => by rw [z, c1] at hl; cases hl
    have b4 : But c H (upd (upd H1 l (.lst (evs.take (evs.length - k)))) c (.ins (c_Case K) dx (putF "own_events" (.ref l) (caseF ct el sl)))) := S2.but.trans But.upd
    have f4 : (upd (upd H1 l (.lst (evs.take (evs.length - k)))) c (.ins (c_Case K) dx (putF "own_events" (.ref l) (caseF ct el sl)))) c = some (.ins (c_Case K) dx (caseF ct l sl)) := upd_same
    have l4 : (upd (upd H1 l (.lst (evs.take (evs.length - k)))) c (.ins (c_Case K) dx (putF "own_events" (.ref l) (caseF ct el sl)))) l = some (.lst (evs.take (evs.length - k))) := by rw [upd_ne nl]; exact upd_same
    have k4 := kp1 (b4.fr in1) (ng_case h1)
    generalize (upd (upd H1 l (.lst (evs.take (evs.length - k)))) c (.ins (c_Case K) dx (putF "own_events" (.ref l) (caseF ct el sl)))) = H4 at b4 f4 l4 k4 ⊢
    have sl4 : H4 sl = some (.lst sts) := k4 _ _ h6 trivial
    refine ⟨_, rfl, c, _, dx, _, .ref sl, rfl, f4, T.cl_Case, T.no_Case_own_states, rfl, _, rfl, _, rfl, _, rfl, .inl ⟨sl, sts, rfl, SqL.of sl4, fun l6 hl6 => ?_⟩⟩
    rw [cut_neg sts k hk1 (by omega)]
    have s6 := Same.new (o := .lst (sts.take (sts.length - k))) hl6
    refine ⟨_, rfl, c, _, dx, _, rfl, s6 _ _ f4, T.cl_Case, T.no_Case_own_states, by simp [caseF], ?_⟩
    have n6 : l6 ≠ c := fun z => by rw [z, f4] at hl6; cases hl6
    have b7 : But c H4 (upd (upd H4 l6 (.lst (sts.take (sts.length - k)))) c (.ins (c_Case K) dx (putF "own_states" (.ref l6) (caseF ct l sl)))) := s6.but.trans But.upd
    have k7 := kp1 (b7.fr in1) (ng_case f4)
    have k07 := k4.trans k7
    exact kk _ ((b4.trans b7).fr in1) ⟨dx, ct, l, l6, upd_same, k07.cont h2, hok, _, _, k7 _ _ l4 trivial, by rw [← e5]; exact (h5.imp fun _ _ => k07.evv).take _, by rw [upd_ne n6]; exact upd_same, by rw [← e7]; exact (h7.imp fun _ _ => k07.stv).take _, by simp; omega, by simp; omega⟩
end
end DD
namespace DD
open PySem PySem.Spec
open PyProof.Rows L2
section
variable {base : Heap} {mg : Str → Option Value} {K : PySem.W.Frag} {w : World} {P : Program}
def sp_Case_iadd (K : PySem.W.Frag) : Sp := fun vs H Q _ => ∃ (c ev : Addr) (C : Ct) (es : List Ev) (ts : List Tm) (e : Ev), vs = [.ref c, .ref ev] ∧ CaseAt K H c C es ts ∧ EvAt K H ev e ∧ EvOk C.pp C.rn e ∧ es.length < 1000 ∧ ∀ t H', Fr [c] H H' → CaseAt K H' c C (es ++ [e]) (ts ++ [t]) → Q (.ref c) H'
theorem ok_Case_iadd (T : Txt w K mg) : FnOk P w K mg base CX0 99 (a_Case_iadd K) (fdOf K (a_Case_iadd K)) ps_Case_iadd (sp_Case_iadd K) := by
  have G_Case_come := ok_Case_come (P := P) (base := base) T
  refine ok0 T.f_Case_iadd sc_Case_iadd (fun vs H Q E h => ?_) (fun cdv A outer s H vs Q E hr h => ?_)
  · obtain ⟨_, _, _, _, _, _, rfl, _⟩ := h; rfl
  · obtain ⟨c, ev, C, es, ts, e, rfl, hC, hE, he, hlt, k⟩ := h
    have hr_Case_come := hr
    obtain ⟨dx, ct, el, sl, h1, _⟩ := id hC
    refine ⟨_, (pss_cons (ps_expr (pe_meth (pv 0) T.cl_Case T.m_Case_come G_Case_come hr_Case_come T.b_Case_come .nil pass0 (pa_cons (pv 1) pa_nil))) (pss_one (ps_ret (pv 0)))), ?_⟩
    exact ⟨_, rfl, c, dx, _, rfl, h1, rfl, _, rfl, c, ev, C, es, ts, e, rfl, hC, hE, he, hlt, fun t H' f' hC' => ⟨_, rfl, k t H' f' hC'⟩⟩
def sp_Case_isub (K : PySem.W.Frag) : Sp := fun vs H Q _ => ∃ (c : Addr) (k : Nat) (C : Ct) (es : List Ev) (ts : List Tm), vs = [.ref c, .int (k : Nat)] ∧ CaseAt K H c C es ts ∧ 1 ≤ k ∧ k ≤ es.length ∧ ∀ H', Fr [c] H H' → CaseAt K H' c C (es.take (es.length - k)) (ts.take (ts.length - k)) → Q (.ref c) H'
theorem ok_Case_isub (T : Txt w K mg) : FnOk P w K mg base CX0 3 (a_Case_isub K) (fdOf K (a_Case_isub K)) ps_Case_isub (sp_Case_isub K) := by
  have G_Case_back := ok_Case_back (P := P) (base := base) T
  refine ok0 T.f_Case_isub sc_Case_isub (fun vs H Q E h => ?_) (fun cdv A outer s H vs Q E hr h => ?_)
  · obtain ⟨_, _, _, _, _, rfl, _⟩ := h; rfl
  · obtain ⟨c, i, C, es, ts, rfl, hC, h1, h2, k⟩ := h
    have hr_Case_back := hr
    obtain ⟨dx, ct, el, sl, hc, _⟩ := id hC
    refine ⟨_, (pss_cons (ps_expr (pe_meth (pv 0) T.cl_Case T.m_Case_back G_Case_back hr_Case_back T.b_Case_back .nil pass0 (pa_cons (pv 1) pa_nil))) (pss_one (ps_ret (pv 0)))), ?_⟩
    exact ⟨_, rfl, c, dx, _, rfl, hc, rfl, _, rfl, c, i, C, es, ts, rfl, hC, h1, h2, fun H' f' hC' => ⟨_, rfl, k H' f' hC'⟩⟩
/-! ### Trial -/
def trialF (c ke ks : Addr) : List (Str × V) := [("own_case", .ref c), ("kept_events", .ref ke), ("kept_states", .ref ks)]
def TrialAt (K : PySem.W.Frag) (H : Hp) (m c ke ks : Addr) : Prop := ∃ dx, H m = some (.ins (c_Trial K) dx (trialF c ke ks))
theorem ng_trial {H : Hp} {m c ke ks : Addr} (h : TrialAt K H m c ke ks) : ∀ u, H m = some u → ¬ goodO u := fun u hu g => by
  obtain ⟨dx, h⟩ := h
  rw [h] at hu; cases hu
  rcases g with g | g | g <;> exact absurd g (by decide +kernel)
def sp_Trial_init (K : PySem.W.Frag) : Sp := fun vs H Q _ => ∃ (m dx c : Addr), vs = [.ref m, .ref c] ∧ H m = some (.ins (c_Trial K) dx []) ∧ ∀ ke ks H', But m H H' → H' m = some (.ins (c_Trial K) dx (trialF c ke ks)) → Q .non H'
theorem ok_Trial_init (T : Txt w K mg) : FnOk P w K mg base CX0 1 (a_Trial_init K) (fdOf K (a_Trial_init K)) ps_Trial_init (sp_Trial_init K) := by
  refine ok0 T.f_Trial_init sc_Trial_init (fun vs H Q E h => ?_) (fun cdv A outer s H vs Q E hr h => ?_)
  · obtain ⟨_, _, _, rfl, _⟩ := h; rfl
  · obtain ⟨m, dx, c, rfl, hm, k⟩ := h
    refine ⟨_, (pss_cons (ps_fld (pv 0) (pv 1) rfl) (pss_cons (ps_fld (pv 0) (pe_lst pa_nil) rfl) (pss_one (ps_fld (pv 0) (pe_lst pa_nil) rfl)))), ?_⟩
    refine ⟨_, rfl, _, rfl, m, _, dx, [], rfl, hm, T.cl_Trial, T.no_Trial_own_case, by decide, ?_⟩
    refine ⟨small (by simp), fun l hl => ⟨_, rfl, m, _, dx, [("own_case", .ref c)], rfl, (Same.new hl) _ _ upd_same, T.cl_Trial, T.no_Trial_kept_events, by simp, ?_⟩⟩
    refine ⟨small (by simp), fun l2 hl2 => ⟨_, rfl, m, _, dx, [("own_case", .ref c), ("kept_events", .ref l)], rfl, (Same.new hl2) _ _ upd_same, T.cl_Trial, T.no_Trial_kept_states, by simp, ?_⟩⟩
    exact k l l2 _ (((But.upd.trans ((Same.new hl).but.trans But.upd))).trans ((Same.new hl2).but.trans But.upd)) upd_same
def sp_Trial_enter (K : PySem.W.Frag) : Sp := fun vs H Q _ => ∃ (m c ke ks : Addr) (C : Ct) (es : List Ev) (ts : List Tm), vs = [.ref m] ∧ TrialAt K H m c ke ks ∧ CaseAt K H c C es ts ∧ ∀ ke ks H', Fr [m] H H' → TrialAt K H' m c ke ks → ListsAt K H' C ke ks es ts → Q (.ref c) H'
theorem ok_Trial_enter (T : Txt w K mg) : FnOk P w K mg base CX0 1 (a_Trial_enter K) (fdOf K (a_Trial_enter K)) ps_Trial_enter (sp_Trial_enter K) := by
  refine ok0 T.f_Trial_enter sc_Trial_enter (fun vs H Q E h => ?_) (fun cdv A outer s H vs Q E hr h => ?_)
  · obtain ⟨_, _, _, _, _, _, _, rfl, _⟩ := h; rfl
  · obtain ⟨m, c, ke, ks, C, es, ts, rfl, hT, hC, k⟩ := h
    obtain ⟨mdx, hm⟩ := id hT
    obtain ⟨dx, ct, el, sl, h1, h2, hok, evs, sts, h4, h5, h6, h7, h8, h9⟩ := id hC
    have nm : c ≠ m := fun z => by rw [z, hm] at h1; injection h1 with e; injection e with _ _ e; cases e
    refine ⟨_, (pss_cons (ps_fld (pv 0) (pe_callTy (k_list K) (by rfl) T.n_list (by decide +kernel) (pa_cons (k_fld K (k_fld K (pv 0) rfl) rfl) pa_nil)) rfl) (pss_cons (ps_fld (pv 0) (pe_callTy (k_list K) (by rfl) T.n_list (by decide +kernel) (pa_cons (k_fld K (k_fld K (pv 0) rfl) rfl) pa_nil)) rfl) (pss_one (ps_ret (k_fld K (pv 0) rfl))))), ?_⟩
    refine ⟨_, rfl, m, _, mdx, _, .ref c, rfl, hm, T.cl_Trial, T.no_Trial_own_case, rfl, c, _, dx, _, .ref el, rfl, h1, T.cl_Case, T.no_Case_own_events, rfl, el, evs, rfl, .inl (SqL.of h4), fun l hl => ?_⟩
    have s1 := Same.new (o := .lst evs) hl
    refine ⟨_, rfl, m, _, mdx, _, rfl, s1 _ _ hm, T.cl_Trial, T.no_Trial_kept_events, by simp [trialF], ?_⟩
    have nl : l ≠ m := fun z => by rw [z, hm] at hl; cases hl
    have b2 : But m H (upd (upd H l (.lst evs)) m (.ins (c_Trial K) mdx (putF "kept_events" (.ref l) (trialF c ke ks)))) := s1.but.trans But.upd
    have f2 : (upd (upd H l (.lst evs)) m (.ins (c_Trial K) mdx (putF "kept_events" (.ref l) (trialF c ke ks)))) m = some (.ins (c_Trial K) mdx (trialF c l ks)) := upd_same
    have l2 : (upd (upd H l (.lst evs)) m (.ins (c_Trial K) mdx (putF "kept_events" (.ref l) (trialF c ke ks)))) l = some (.lst evs) := by rw [upd_ne nl]; exact upd_same
    have k2 := kp1 (b2.fr in1) (ng_trial hT)
    generalize (upd (upd H l (.lst evs)) m (.ins (c_Trial K) mdx (putF "kept_events" (.ref l) (trialF c ke ks)))) = H2 at b2 f2 l2 k2 ⊢
    have c2 := b2 _ _ nm h1
    refine ⟨_, rfl, m, _, mdx, _, .ref c, rfl, f2, T.cl_Trial, T.no_Trial_own_case, rfl, c, _, dx, _, .ref sl, rfl, c2, T.cl_Case, T.no_Case_own_states, rfl, sl, sts, rfl, .inl (SqL.of (k2 _ _ h6 trivial)), fun l3 hl3 => ?_⟩
    have s3 := Same.new (o := .lst sts) hl3
    refine ⟨_, rfl, m, _, mdx, _, rfl, s3 _ _ f2, T.cl_Trial, T.no_Trial_kept_states, by simp [trialF], ?_⟩
    have n3 : l3 ≠ m := fun z => by rw [z, f2] at hl3; cases hl3
    have b4 : But m H2 (upd (upd H2 l3 (.lst sts)) m (.ins (c_Trial K) mdx (putF "kept_states" (.ref l3) (trialF c l ks)))) := s3.but.trans But.upd
    have f4 : (upd (upd H2 l3 (.lst sts)) m (.ins (c_Trial K) mdx (putF "kept_states" (.ref l3) (trialF c l ks)))) m = some (.ins (c_Trial K) mdx (trialF c l l3)) := upd_same
    have k4 := kp1 (b4.fr in1) (ng_trial ⟨mdx, f2⟩)
    refine ⟨_, rfl, m, _, mdx, _, .ref c, rfl, f4, T.cl_Trial, T.no_Trial_own_case, rfl, ?_⟩
    have k04 := k2.trans k4
    exact k l l3 _ ((b2.trans b4).fr in1) ⟨mdx, f4⟩ ⟨evs, sts, k4 _ _ l2 trivial, h5.imp fun _ _ => k04.evv, by rw [upd_ne n3]; exact upd_same, h7.imp fun _ _ => k04.stv, h8, h9⟩
def sp_Trial_exit (K : PySem.W.Frag) : Sp := fun vs H Q _ => ∃ (m c ke ks : Addr) (C : Ct) (es es' : List Ev) (ts ts' : List Tm) (x y z : V), vs = [.ref m, x, y, z] ∧ TrialAt K H m c ke ks ∧ CaseAt K H c C es' ts' ∧ ListsAt K H C ke ks es ts ∧ ∀ H', Fr [c] H H' → CaseAt K H' c C es ts → Q .non H'
theorem ok_Trial_exit (T : Txt w K mg) : FnOk P w K mg base CX0 1 (a_Trial_exit K) (fdOf K (a_Trial_exit K)) ps_Trial_exit (sp_Trial_exit K) := by
  refine ok0 T.f_Trial_exit sc_Trial_exit (fun vs H Q E h => ?_) (fun cdv A outer s H vs Q E hr h => ?_)
  · obtain ⟨_, _, _, _, _, _, _, _, _, _, _, _, rfl, _⟩ := h; rfl
  · obtain ⟨m, c, ke, ks, C, es, es', ts, ts', x, y, z, rfl, hT, hC, hL, k⟩ := h
    obtain ⟨mdx, hm⟩ := id hT
    obtain ⟨dx, ct, el, sl, h1, h2, hok, _⟩ := id hC
    have nm : m ≠ c := fun z => by rw [z, h1] at hm; injection hm with e; injection e with _ _ e; cases e
    refine ⟨_, (pss_cons (ps_fld (k_fld K (pv 0) rfl) (k_fld K (pv 0) rfl) rfl) (pss_cons (ps_fld (k_fld K (pv 0) rfl) (k_fld K (pv 0) rfl) rfl) (pss_one (ps_ret pe_non)))), ?_⟩
    refine ⟨_, rfl, m, _, mdx, _, .ref ke, rfl, hm, T.cl_Trial, T.no_Trial_kept_events, rfl, _, rfl, m, _, mdx, _, .ref c, rfl, hm, T.cl_Trial, T.no_Trial_own_case, rfl, c, _, dx, _, rfl, h1, T.cl_Case, T.no_Case_own_events, by simp [caseF], ?_⟩
    have b2 : But c H (upd H c (.ins (c_Case K) dx (putF "own_events" (.ref ke) (caseF ct el sl)))) := But.upd
    have f2 : (upd H c (.ins (c_Case K) dx (putF "own_events" (.ref ke) (caseF ct el sl)))) c = some (.ins (c_Case K) dx (caseF ct ke sl)) := upd_same
    have k2 := kp1 (b2.fr in1) (ng_case h1)
    generalize (upd H c (.ins (c_Case K) dx (putF "own_events" (.ref ke) (caseF ct el sl)))) = H2 at b2 f2 k2 ⊢
    have m2 := b2 _ _ nm hm
    refine ⟨_, rfl, m, _, mdx, _, .ref ks, rfl, m2, T.cl_Trial, T.no_Trial_kept_states, rfl, _, rfl, m, _, mdx, _, .ref c, rfl, m2, T.cl_Trial, T.no_Trial_own_case, rfl, c, _, dx, _, rfl, f2, T.cl_Case, T.no_Case_own_states, by simp [caseF], ?_⟩
    have b4 : But c H2 (upd H2 c (.ins (c_Case K) dx (putF "own_states" (.ref ks) (caseF ct ke sl)))) := But.upd
    have f4 : (upd H2 c (.ins (c_Case K) dx (putF "own_states" (.ref ks) (caseF ct ke sl)))) c = some (.ins (c_Case K) dx (caseF ct ke ks)) := upd_same
    have k4 := kp1 (b4.fr in1) (ng_case f2)
    have k04 := k2.trans k4
    exact k _ ((b2.trans b4).fr in1) ⟨dx, ct, ke, ks, f4, k04.cont h2, hok, k04.lists hL⟩
def sp_Case_trial (K : PySem.W.Frag) : Sp := fun vs H Q _ => ∃ (c dx : Addr) (fs : List (Str × V)), vs = [.ref c] ∧ H c = some (.ins (c_Case K) dx fs) ∧ ∀ m ke ks H', Same H H' → H m = none → TrialAt K H' m c ke ks → Q (.ref m) H'
theorem ok_Case_trial (T : Txt w K mg) : FnOk P w K mg base CX0 3 (a_Case_trial K) (fdOf K (a_Case_trial K)) ps_Case_trial (sp_Case_trial K) := by
  have G_Trial_init := ok_Trial_init (P := P) (base := base) T
  refine ok0 T.f_Case_trial sc_Case_trial (fun vs H Q E h => ?_) (fun cdv A outer s H vs Q E hr h => ?_)
  · obtain ⟨_, _, _, rfl, _⟩ := h; rfl
  · obtain ⟨c, dx, fs, rfl, hc, k⟩ := h
    have hr_Trial_init := hr
    refine ⟨_, (pss_one (ps_ret (pe_make T.mk_Trial G_Trial_init hr_Trial_init rfl T.g_Trial T.b_Trial_init .nil pass0 (pa_cons (pv 0) pa_nil)))), ?_⟩
    exact ⟨_, rfl, fun x dx hx hd ne => ⟨x, dx, c, rfl, upd_same, fun ke ks H3 b3 h3 => ⟨rfl, k x ke ks H3 (made hx hd b3) hx ⟨dx, h3⟩⟩⟩⟩
end
end DD
namespace DD
open PySem PySem.Spec
open PyProof.Rows L2
section
variable {X : Cx}
/-- list + list, of lists that are only read (the script is one of these) -/
def rCatF (K : PySem.W.Frag) : R2 := fun x y H Q => ∃ l b xs zs, x = .ref l ∧ y = .ref b ∧ SqL K H l xs ∧ SqL K H b zs ∧ xs.length + zs.length ≤ sizeLine ∧ ∀ p, H p = none → Q (.ref p) (upd H p (.lst (xs ++ zs)))
theorem op_catF (K : PySem.W.Frag) (hK : X.K = K := by rfl) : OpR X (binaryOp .Add) (rCatF K) := by
  subst hK
  (intro pins s σ H x y v u Q I rx ry h)
  (obtain ⟨l, b, xs, zs, rfl, rfl, hH, hB, hz, q⟩ := h)
  cases rx
  cases ry
  obtain ⟨its, r, ⟨o, n, e, c, d, dt⟩, _⟩ := I.list hH
  obtain ⟨its2, r2, ⟨o2, n2, e2, c2, d2, dt2⟩, _⟩ := I.list hB
  obtain ⟨cls, dd, data, sl⟩ := o
  obtain ⟨cls2, dd2, data2, sl2⟩ := o2
  simp only at c d dt c2 d2 dt2
  subst c d dt c2 d2 dt2
  have hl := r.length
  have hl2 := r2.length
  refine concat_meets ⟨_, e, rfl⟩ ⟨_, e2, rfl⟩ noFill_list_add seq_list_add PySem.F.slot_list_add PySem.F.entry_list_add (PySem.F.args_list_add_2 _ _) (list_addW l b its.toArray its2.toArray n n2 none none sl sl2 (by rw [List.size_toArray, List.size_toArray]; omega)) ⟨e, e2, ?_⟩
  (have ea : its.toArray ++ its2.toArray = (its ++ its2).toArray := by simp)
  rw [ea]
  (exact ⟨.ref _, _, I.lnew (t' := s.toks) (r.append r2) (by rw [List.length_append]; omega), rfl, q _ I.fresh⟩)
end
end DD
namespace DD
open PySem PySem.Spec
open PyProof.Rows L2
section
variable {base : Heap} {mg : Str → Option Value} {K : PySem.W.Frag} {w : World} {P : Program}
/-! ### the draw -/
def drawF (cl : Addr) (a l u : Int) : List (Key × V) := [(.inr "cells", .ref cl), (.inr "at", .int a), (.inr "left", .int l), (.inr "used", .int u)]
/-- the draw's dict, its list of cells -/
structure Dw where
  d : Addr
  cl : Addr
def DrawAt (H : Hp) (g : Dw) (n : Nat) : Prop := ∃ a l u, ∃ xs : List Int, H g.d = some (.dK (drawF g.cl a l u)) ∧ H g.cl = some (.lst (xs.map V.int)) ∧ xs ≠ [] ∧ 0 ≤ u ∧ u ≤ n
theorem drawF_cells {cl : Addr} {a l u : Int} : valV (drawF cl a l u) (.inr "cells") = some (.ref cl) := rfl
theorem drawF_at {cl : Addr} {a l u : Int} : valV (drawF cl a l u) (.inr "at") = some (.int a) := rfl
theorem drawF_left {cl : Addr} {a l u : Int} : valV (drawF cl a l u) (.inr "left") = some (.int l) := rfl
theorem drawF_used {cl : Addr} {a l u : Int} : valV (drawF cl a l u) (.inr "used") = some (.int u) := rfl
theorem drawF_pa {cl : Addr} {a l u b : Int} : putK (drawF cl a l u) (.inr "at") (.int b) = drawF cl b l u := rfl
theorem drawF_pl {cl : Addr} {a l u b : Int} : putK (drawF cl a l u) (.inr "left") (.int b) = drawF cl a b u := rfl
theorem drawF_pu {cl : Addr} {a l u b : Int} : putK (drawF cl a l u) (.inr "used") (.int b) = drawF cl a l b := rfl
theorem DrawAt.mono {H : Hp} {g : Dw} {n m : Nat} (h : DrawAt H g n) (z : n ≤ m) : DrawAt H g m := by
  obtain ⟨a, l, u, xs, h1, h2, h3, h4, h5⟩ := h
  exact ⟨a, l, u, xs, h1, h2, h3, h4, by omega⟩
theorem DrawAt.ng {H : Hp} {g : Dw} {n : Nat} (h : DrawAt H g n) : ∀ u, H g.d = some u → ¬ goodO u := fun v hv g => by
  obtain ⟨a, l, u, xs, h1, _⟩ := h
  rw [h1] at hv; cases hv
  obtain ⟨z, hz⟩ := g _ (List.mem_cons_self)
  cases hz
theorem DrawAt.nt {H : Hp} {g : Dw} {n : Nat} (h : DrawAt H g n) : ∀ u, H g.d = some u → tupO u = false := fun v hv => by
  obtain ⟨a, l, u, xs, h1, _⟩ := h
  rw [h1] at hv; cases hv; rfl
theorem DrawAt.stay {H H' : Hp} {g : Dw} {n : Nat} {L : List Addr} (h : DrawAt H g n) (f : Fr L H H') (hd : g.d ∉ L) (hc : g.cl ∉ L) : DrawAt H' g n := by
  obtain ⟨a, l, u, xs, h1, h2, h3, h4, h5⟩ := h
  exact ⟨a, l, u, xs, f _ _ hd h1, f _ _ hc h2, h3, h4, h5⟩
theorem _root_.L2.Same.draw {H H' : Hp} {g : Dw} {n : Nat} (s : Same H H') (h : DrawAt H g n) : DrawAt H' g n := h.stay (L := []) s.fr (by simp) (by simp)
theorem DrawAt.kp {H H' : Hp} {g : Dw} {n : Nat} (h : DrawAt H g n) (f : Fr [g.d] H H') : Kp H H' := kp1 f h.ng
theorem DrawAt.kt {H H' : Hp} {g : Dw} {n : Nat} (h : DrawAt H g n) (f : Fr [g.d] H H') : KT H H' := (h.kp f).kt
theorem DrawAt.ne {H : Hp} {g : Dw} {n : Nat} (h : DrawAt H g n) {D : Addr} (hD : H D = none) : g.d ≠ D ∧ g.cl ≠ D := by
  obtain ⟨a, l, u, xs, h1, h2, _⟩ := h
  exact ⟨fun z => (by rw [z, hD] at h1; cases h1), fun z => (by rw [z, hD] at h2; cases h2)⟩
def sp_L_begin (K : PySem.W.Frag) : Sp := fun vs H Q _ => ∃ (a : Addr) (xs : List Int), vs = [.ref a] ∧ SqL K H a (xs.map V.int) ∧ xs.length ≤ 1000 ∧ ∀ g H', Same H H' → DrawAt H' g 0 → Q (.ref g.d) H'
theorem ok_L_begin (T : Txt w K mg) : FnOk P w K mg base CX0 1 (a_L_begin K) (fdOf K (a_L_begin K)) ps_L_begin (sp_L_begin K) := by
  refine ok0 T.f_L_begin sc_L_begin (fun vs H Q E h => ?_) (fun cdv A outer s H vs Q E hr h => ?_)
  · obtain ⟨_, _, rfl, _⟩ := h; rfl
  · obtain ⟨a, xs, rfl, ha, hl, k⟩ := h
    refine ⟨_, (pss_one (ps_ret (pe_disp (pps_cons pe_str (pe_op (op_catF K) (pv 0) (pe_lst (pa_cons pe_int pa_nil))) (pps_cons pe_str pe_int (pps_cons pe_str pe_int (pps_cons pe_str pe_int pps_nil)))) (by rfl) (by rfl) (fun z => by cases z) (by decide)))), ?_⟩
    intro d hd
    refine ⟨_, rfl, small (by simp), fun p hp => ?_⟩
    refine ⟨a, p, xs.map V.int, [.int 0], rfl, rfl, ((Same.new hd).trans (Same.new hp)).lst ha, SqL.of upd_same, by simp; exact small (by omega), fun q hq => ?_⟩
    have hne : d ≠ p := fun z => by rw [← z, upd_same] at hp; cases hp
    have hne2 : d ≠ q := fun z => by rw [← z, upd_ne hne, upd_same] at hq; cases hq
    refine ⟨by rw [upd_ne hne2, upd_ne hne, upd_same], drawF q 0 0 0, rfl, by simp [drawF], k ⟨d, q⟩ _ ?_ ⟨0, 0, 0, xs ++ [0], upd_same, by rw [upd_ne (Ne.symm hne2), upd_same]; simp, by simp, by simp, by simp⟩⟩
    intro b o hb
    have n1 : b ≠ d := fun z => by rw [z, hd] at hb; cases hb
    have n2 : b ≠ p := fun z => by rw [← z, upd_ne n1, hb] at hp; cases hp
    have n3 : b ≠ q := fun z => by rw [← z, upd_ne n2, upd_ne n1, hb] at hq; cases hq
    rw [upd_ne n1, upd_ne n3, upd_ne n2, upd_ne n1]; exact hb
theorem br {c : Prop} [Decidable c] {A B : Prop} (y : c → A) (n : ¬ c → B) : if decide c = true then A else B := by
  by_cases h : c
  · rw [if_pos (decide_eq_true h)]; exact y h
  · rw [if_neg (by simpa using h)]; exact n h
theorem dg {H : Hp} {a : Addr} {kvs : List (Key × V)} {x : Str} {v : V} (e : H a = some (.dK kvs)) (hv : valV kvs (.inr x) = some v) : DGet H a (.str x) (some v) := hv ▸ DGet.k (k := .inr x) e
theorem dp {H : Hp} {a : Addr} {kvs : List (Key × V)} {x : Str} {v : V} (e : H a = some (.dK kvs)) (hl : kvs.length ≤ 1000) : DPut H a (.str x) v (upd H a (.dK (putK kvs (.inr x) v))) := DPut.k (k := .inr x) e (smallLt (by omega))
theorem atI_map {α : Type} {xs : List α} (f : α → V) {i : Int} (h0 : 0 ≤ i) (h1 : i < xs.length) : ∃ z, atI (xs.map f) i = some (f z) := by
  have hj : i.toNat < xs.length := by omega
  refine ⟨xs[i.toNat], ?_⟩
  have e : ((i.toNat : Nat) : Int) = i := by omega
  have q := atI_nat (xs := xs.map f) (j := i.toNat) (v := f xs[i.toNat]) (by simp [hj])
  rwa [e] at q
theorem atI_mem {xs : List V} {i : Int} {z : V} (h : atI xs i = some z) : z ∈ xs := by
  unfold atI at h
  cases e : (ixN xs.length i) with
  | none => (rw [e] at h; cases h)
  | some j => rw [e] at h; exact List.mem_of_getElem? h
def sp_L_next : Sp := fun vs H Q _ => ∃ (g : Dw) (m : Int) (n : Nat), vs = [.ref g.d, .int m] ∧ DrawAt H g n ∧ 0 < m ∧ m < 1000000 ∧ n < 1000000000 ∧ ∀ i H', Fr [g.d] H H' → DrawAt H' g (n + 1) → 0 ≤ i → i < m → Q (.int i) H'
theorem ok_L_next (T : Txt w K mg) : FnOk P w K mg base CX0 1 (a_L_next K) (fdOf K (a_L_next K)) ps_L_next sp_L_next := by
  refine ok0 T.f_L_next sc_L_next (fun vs H Q E h => ?_) (fun cdv A outer s H vs Q E hr h => ?_)
  · obtain ⟨_, _, _, rfl, _⟩ := h; rfl
  · obtain ⟨⟨d, cl⟩, m, n, rfl, ⟨a, l, u, xs, h1, h2, h3, h4, h5⟩, hm, hm2, hn, k⟩ := h
    have hU1 := hu_of hr
    refine ⟨_, (pss_cons (ps_if (pt_cmpR op_gt (pe_dget hU1 (pv 0) pe_str (fun _ _ => rfl)) pe_int (nomark _)) (pss_cons (ps_asg (pe_tup (pa_cons (pe_dget hU1 (pv 0) pe_str (fun _ _ => rfl)) (pa_cons (pe_op op_fdiv (pe_dget hU1 (pv 0) pe_str (fun _ _ => rfl)) (pv 1)) pa_nil))) (k_tup K (n := 2) rfl (pgs_cons (pg_name (i := 2) sc_L_next.nd rfl (Or.inl rfl) (Or.inl rfl)) (pgs_cons (pg_sub (pv 0) pe_str (set_dict hU1)) pgs_nil)))) (pss_one (ps_ret (pe_op op_mod (pv 2) (pv 1))))) pss_nil) (pss_cons (ps_set (i := 3) sc_L_next.nd rfl (Or.inl rfl) (pe_dget hU1 (pv 0) pe_str (fun _ _ => rfl))) (pss_cons (ps_set (i := 2) sc_L_next.nd rfl (Or.inl rfl) (pe_ix (k_ix K) (pv 3) (pe_op op_mod (pe_dget hU1 (pv 0) pe_str (fun _ _ => rfl)) (pe_callB (k_len K) (by rfl) T.n_len (by decide +kernel) (pa_cons (pv 3) pa_nil))) (fun _ _ => rfl))) (pss_cons (ps_dput hU1 (pv 0) pe_str (pe_op (k_add K) (pe_dget hU1 (pv 0) pe_str (fun _ _ => rfl)) pe_int) rfl) (pss_cons (ps_if (PW.pt (pw_and (pt_cmpR op_ge (pv 2) (pe_op op_pow pe_int pe_int) (nomark _)) (pw_and1 (pt_cmpR op_le (pe_dget hU1 (pv 0) pe_str (fun _ _ => rfl)) (pe_callB (k_len K) (by rfl) T.n_len (by decide +kernel) (pa_cons (pv 3) pa_nil)) (nomark _))))) (pss_cons (ps_dput hU1 (pv 0) pe_str (pe_op op_fdiv (pv 2) (pv 1)) rfl) (pss_one (ps_ret (pe_op op_mod (pv 2) (pv 1))))) pss_nil) (pss_cons (ps_dput hU1 (pv 0) pe_str (pe_op (k_add K) (pe_dget hU1 (pv 0) pe_str (fun _ _ => rfl)) pe_int) rfl) (pss_cons (ps_set (i := 4) sc_L_next.nd rfl (Or.inl rfl) (pe_op (k_add K) (pe_op op_mod (pv 2) pe_int) (pe_op u_mul (pe_op u_mul pe_int (pe_dget hU1 (pv 0) pe_str (fun _ _ => rfl))) (pe_dget hU1 (pv 0) pe_str (fun _ _ => rfl))))) (pss_cons (ps_for PassesOwn.never rfl (k_piT K (pe_tup (pa_cons (pe_dget hU1 (pv 0) pe_str (fun _ _ => rfl)) (pa_cons (pe_dget hU1 (pv 0) pe_str (fun _ _ => rfl)) pa_nil)))) (pg_name (i := 5) sc_L_next.nd rfl (Or.inl rfl) (Or.inl rfl)) (pss_cons (ps_set (i := 4) sc_L_next.nd rfl (Or.inl rfl) (pe_op op_mod (pe_op u_mul (pe_op (k_add K) (pe_op (k_add K) (pv 4) (pe_op u_mul pe_int (pv 5))) pe_int) pe_int) pe_int)) (pss_one (ps_set (i := 4) sc_L_next.nd rfl (Or.inl rfl) (pe_op op_mod (pe_op u_mul (pv 4) (pe_op (k_add K) pe_int (pe_op u_mul pe_int (pe_op op_mod (pv 5) pe_int)))) pe_int))))) (pss_one (ps_ret (pe_op op_mod (pe_op op_fdiv (pv 4) pe_int) (pv 1)))))))))))), ?_⟩
    refine ⟨_, rfl, d, _, rfl, dg h1 drawF_left, l, 0, rfl, rfl, _, rfl, ?_⟩
    have hcd : cl ≠ d := fun z => by rw [z, h1] at h2; cases h2
    refine br (fun hz => ?_) (fun hz => ?_)
    · refine ⟨_, rfl, d, _, rfl, dg h1 drawF_left, _, rfl, d, _, rfl, dg h1 drawF_left, _, rfl, l, m, rfl, rfl, ⟨hm, by omega⟩, small (by simp), fun q hq => ⟨q, _, rfl, SqT.of upd_same, rfl, _, _, rfl, _, _, rfl, _, rfl, d, _, rfl, dp ((Same.new hq) _ _ h1) (by simp [drawF]), rfl, _, rfl, _, rfl, l, m, rfl, rfl, hm, ?_⟩⟩
      exact k _ _ ((Same.new hq).fr.trans (But.upd.fr in1)) ⟨a, l / m, u, xs, by rw [upd_same, drawF_pl], by rw [upd_ne hcd]; exact (Same.new hq) _ _ h2, h3, h4, by omega⟩ (Int.emod_nonneg _ (by omega)) (Int.emod_lt_of_pos _ hm)
    · refine ⟨_, rfl, d, _, rfl, dg h1 drawF_cells, _, rfl, _, rfl, d, _, rfl, dg h1 drawF_at, _, rfl, ?_⟩
      have hlen : 0 < xs.length := by cases xs with
        | nil => exact absurd rfl h3
        | cons => simp
      obtain ⟨c, hc⟩ := atI_map V.int (Int.emod_nonneg a (b := (xs.length : Int)) (by omega)) (Int.emod_lt_of_pos a (b := (xs.length : Int)) (by omega))
      refine ⟨_, _, rfl, .inl ⟨_, SqL.of h2, rfl⟩, a, _, rfl, rfl, by simp; omega, .inl ⟨cl, _, _, _, rfl, rfl, SqL.of h2, by simpa using hc, ?_⟩⟩
      refine ⟨_, rfl, d, _, rfl, dg h1 drawF_at, .inl ⟨_, _, rfl, rfl, _, rfl, d, _, rfl, dp h1 (by simp [drawF]), ?_⟩⟩
      rw [drawF_pa]
      have f1 : But d H (upd H d (.dK (drawF cl (a + 1) l u))) := But.upd
      have g1 : (upd H d (.dK (drawF cl (a + 1) l u))) d = some (.dK (drawF cl (a + 1) l u)) := upd_same
      have g2 := f1 _ _ hcd h2
      generalize (upd H d (.dK (drawF cl (a + 1) l u))) = H1 at f1 g1 g2 ⊢
      refine ⟨_, rfl, 10, 18, rfl, rfl, ⟨by simp, by simp, by decide⟩, c, 10 ^ 18, rfl, rfl, _, rfl, br (fun hz2 => ⟨_, rfl, d, _, rfl, dg g1 drawF_at, _, rfl, _, _, rfl, .inl ⟨_, SqL.of g2, rfl⟩, a + 1, _, rfl, rfl, _, rfl, br (fun hz3 => ?yes) (fun _ => ?n1)⟩) (fun _ => no (by decide) ?n2)⟩
      case yes =>
        refine ⟨_, rfl, _, rfl, c, m, rfl, rfl, ⟨hm, by omega⟩, _, rfl, d, _, rfl, dp g1 (by simp [drawF]), _, rfl, _, rfl, c, m, rfl, rfl, hm, ?_⟩
        exact k _ _ (f1.trans But.upd |>.fr in1) ⟨a + 1, c / m, u, xs, by rw [upd_same, drawF_pl], by rw [upd_ne hcd]; exact g2, h3, h4, by omega⟩ (Int.emod_nonneg _ (by omega)) (Int.emod_lt_of_pos _ hm)
      all_goals
        refine ⟨_, rfl, d, _, rfl, dg g1 drawF_used, .inl ⟨u, 1, rfl, rfl, _, rfl, d, _, rfl, dp g1 (by simp [drawF]), ?_⟩⟩
        rw [drawF_pu]
        have f2 : But d H (upd H1 d (.dK (drawF cl (a + 1) l (u + 1)))) := f1.trans But.upd
        have g3 : (upd H1 d (.dK (drawF cl (a + 1) l (u + 1)))) d = some (.dK (drawF cl (a + 1) l (u + 1))) := upd_same
        have g4 : (upd H1 d (.dK (drawF cl (a + 1) l (u + 1)))) cl = some (.lst (xs.map V.int)) := by rw [upd_ne hcd]; exact g2
        generalize (upd H1 d (.dK (drawF cl (a + 1) l (u + 1)))) = H2 at f2 g3 g4 ⊢
        refine ⟨_, rfl, c, 1000000007, rfl, rfl, by omega, _, rfl, d, _, rfl, dg g3 drawF_used, .inl ⟨7919, u + 1, rfl, rfl, .inl ⟨by decide, by decide⟩, _, rfl, d, _, rfl, dg g3 drawF_used, .inl ⟨_, u + 1, rfl, rfl, .inr ⟨by omega, by omega⟩, .inl ⟨_, _, rfl, rfl, ?_⟩⟩⟩⟩
        refine ⟨_, rfl, d, _, rfl, dg g3 drawF_at, _, rfl, d, _, rfl, dg g3 drawF_used, small (by simp), fun q hq => ⟨q, rfl, ⟨_, SqT.of upd_same⟩, ?_⟩⟩
        have s3 := Same.new (o := .tup [.int (a + 1), .int (u + 1)]) hq
        refine for_tup (xs := [.int (a + 1), .int (u + 1)]) (fun i σ H' => H' = upd H2 q (.tup [.int (a + 1), .int (u + 1)]) ∧ ∃ z y, σ = [some (.ref d), some (.int m), some (.int c), some (.ref cl), some (.int z), y] ∧ (1 ≤ i → 0 ≤ z ∧ z < 2147483629)) ⟨rfl, _, none, rfl, by simp⟩ ?_ ?_ ?_
        · rintro i σ H' _ ⟨rfl, _⟩; exact SqT.of upd_same
        · rintro i x σ H' hx ⟨rfl, z, y, rfl, hz⟩
          obtain ⟨v, rfl⟩ : ∃ v, x = V.int v := by
            match i, hx with
            | 0, hx => exact ⟨_, (Option.some.inj hx).symm⟩
            | 1, hx => exact ⟨_, (Option.some.inj hx).symm⟩
          have b1 : 0 ≤ v % 1000 := Int.emod_nonneg _ (by decide)
          have b2 : v % 1000 < 1000 := Int.emod_lt_of_pos _ (by decide)
          refine ⟨_, rfl, _, rfl, .inl ⟨31, v, rfl, rfl, .inl ⟨by decide, by decide⟩, .inl ⟨z, _, rfl, rfl, .inl ⟨_, 7, rfl, rfl, .inl ⟨_, 48271, rfl, rfl, .inr ⟨by decide, by decide⟩, _, 2147483647, rfl, rfl, by omega, ?_⟩⟩⟩⟩⟩
          have b3 : 0 ≤ (z + 31 * v + 7) * 48271 % 2147483647 := Int.emod_nonneg _ (by decide)
          have b4 : (z + 31 * v + 7) * 48271 % 2147483647 < 2147483647 := Int.emod_lt_of_pos _ (by decide)
          refine ⟨_, rfl, _, rfl, v, 1000, rfl, rfl, by omega, .inl ⟨2, _, rfl, rfl, .inl ⟨by decide, by decide⟩, .inl ⟨69621, _, rfl, rfl, .inl ⟨_, _, rfl, rfl, .inl ⟨by omega, by omega⟩, _, 2147483629, rfl, rfl, by omega, ?_⟩⟩⟩⟩
          exact ⟨rfl, _, _, rfl, fun _ => ⟨Int.emod_nonneg _ (by decide), Int.emod_lt_of_pos _ (by decide)⟩⟩
        · rintro σ H' ⟨rfl, z, y, rfl, hz⟩
          have hz := hz (by simp)
          refine ⟨_, rfl, z, 7, rfl, rfl, ⟨by decide, by decide⟩, _, rfl, _, m, rfl, rfl, hm, ?_⟩
          exact k _ _ ((f2.fr in1).trans s3.fr) ⟨a + 1, l, u + 1, xs, s3 _ _ g3, s3 _ _ g4, h3, by omega, by omega⟩ (Int.emod_nonneg _ (by omega)) (Int.emod_lt_of_pos _ hm)
/-! ### one of a list, of a text -/
def sp_L_pick (K : PySem.W.Frag) : Sp := fun vs H Q _ => ∃ (g : Dw) (v : V) (n m : Nat), vs = [.ref g.d, v] ∧ DrawAt H g n ∧ n < 1000000000 ∧ LenV K v H m ∧ 0 < m ∧ m < 1000000 ∧ ∀ (i : Int) H', Fr [g.d] H H' → DrawAt H' g (n + 1) → 0 ≤ i → i < m → rIx K v (.int i) H' Q
theorem ok_L_pick (T : Txt w K mg) : FnOk P w K mg base CX0 2 (a_L_pick K) (fdOf K (a_L_pick K)) ps_L_pick (sp_L_pick K) := by
  have G_L_next := ok_L_next (P := P) (base := base) T
  refine ok0 T.f_L_pick sc_L_pick (fun vs H Q E h => ?_) (fun cdv A outer s H vs Q E hr h => ?_)
  · obtain ⟨_, _, _, _, rfl, _⟩ := h; rfl
  · obtain ⟨g, v, n, m, rfl, hd, hn, hl, h0, h1, k⟩ := h
    have hr_L_next := hr
    refine ⟨_, (pss_one (ps_ret (pe_ix (k_ix K) (pv 1) (pe_call G_L_next hr_L_next rfl T.g_L_next T.k_L_next T.b_L_next .nil pass0 (pa_cons (pv 0) (pa_cons (pe_callB (k_len K) (by rfl) T.n_len (by decide +kernel) (pa_cons (pv 1) pa_nil)) pa_nil))) (fun _ _ => rfl)))), ?_⟩
    exact ⟨_, rfl, _, rfl, _, rfl, _, _, rfl, hl, g, m, n, rfl, hd, by omega, by omega, hn, fun i H' f hd' i0 i1 => k i H' f hd' i0 i1⟩
theorem pickOf {H : Hp} {a : Addr} {xs : List V} {i : Int} {Q : VK} (h : SqL K H a xs) (h0 : 0 ≤ i) (h1 : i < xs.length) (k : ∀ x ∈ xs, Q x H) : rIx K (.ref a) (.int i) H Q := by
  obtain ⟨z, hz⟩ := atI_map id h0 h1
  rw [List.map_id] at hz
  exact .inl ⟨a, xs, i, z, rfl, rfl, h, hz, k z (atI_mem hz)⟩
end
end DD
namespace DD
open PySem PySem.Spec
open PyProof.Rows L2
section
variable {base : Heap} {mg : Str → Option Value} {K : PySem.W.Frag} {w : World} {P : Program}
theorem Fr.upd {L : List Addr} {H : Hp} {D : Addr} {o : HO} (h : D ∈ L) : Fr L H (L2.upd H D o) := But.upd.fr h
/-- a comprehension without a test, whose items change the objects at L: S tells of what changes -/
theorem lc_m {J : It} {n : Nat} {G : Hp → Prop} {Y : Nat → Hp → V → Hp → Prop} (w : Walk J n G Y) {g : TG} {te : TE} {vs : List Nat} {σ : L2.St} {H1 : Hp} {D : Addr} {Qd : Hp → Prop} (L : List Addr) (S : Nat → Hp → Prop) (R : Nat → V → Hp → Prop)
    (hR : ∀ i o H H', KT H H' → R i o H → R i o H') (hD : H1 D = none) (hL : D ∉ L) (hn : n ≤ 100000) (hG : ∀ i H, Fr L H1 H → S i H → G H) (h0 : S 0 (upd H1 D (.lst [])))
    (hS : ∀ i H xs, S i H → S i (upd H D (.lst xs)))
    (hs : ∀ i x H H' (Kt : V → Hp → Prop), i < n → Fr L H1 H → S i H → Y i H x H' → (∀ y H4, Fr L H H4 → KT H H4 → S (i + 1) H4 → R i y H4 → Kt y H4) → g x (wipe σ vs) H' fun σ2 H2 => wipe σ2 vs = wipe σ vs ∧ te σ2 H2 Kt)
    (hd : ∀ (ys : List V) H, Fr L H1 H → S n H → ys.length = n → (∀ i y, ys[i]? = some y → R i y H) → H D = some (.lst ys) → Qd H) :
    ∃ W : Nat → Nat → Hp → Prop, (∃ m, W 0 m (upd H1 D (.lst []))) ∧ ∀ i m H, W i m H → (J.stop i H ∧ Qd H) ∨ (J.go i H ∧ ∃ Nx : Hp → Prop, (∀ H', Nx H' → ∃ m', m' < m ∧ W (i + 1) m' H') ∧ ∀ x H', J.yld i H x H' → g x (wipe σ vs) H' fun σ2 H2 => wipe σ2 vs = wipe σ vs ∧ tYes σ2 H2 fun b H3 => if b = true then te σ2 H3 fun y H4 => ∃ acc, H4 D = some (.lst acc) ∧ acc.length < sizeLine ∧ Nx (upd H4 D (.lst (acc ++ [y]))) else Nx H3) := by
  refine lc_it w (fun i H => ∃ ys : List V, Fr L H1 H ∧ S i H ∧ ys.length = i ∧ (∀ j y, ys[j]? = some y → R j y H) ∧ H D = some (.lst ys)) ?_ ?_ ?_ ?_
  · exact ⟨[], (Same.new hD).fr, h0, rfl, fun j o e => by simp at e, upd_same⟩
  · rintro i H hi ⟨ys, f, s, _⟩
    exact hG i H f s
  · rintro i x H H' hi ⟨ys, f, s, hl, hr, hl2⟩ hy
    refine hs i x H H' _ hi f s hy fun y H4 f4 k4 s4 r4 => ?_
    have e4 := f4 _ _ hL hl2
    have k5 : KT H4 (upd H4 D (.lst (ys ++ [y]))) := KT.updL e4
    refine ⟨ys, e4, smallLt (by omega), ys ++ [y], fun b u nb e => ?_, hS _ _ _ s4, by simp [hl], ?_, upd_same⟩
    · have q : b ≠ D := fun z => by rw [z, hD] at e; cases e
      rw [upd_ne q]
      exact f4 _ _ nb (f _ _ nb e)
    · exact snoc_at (P := fun j o => R j o (upd H4 D (.lst (ys ++ [y])))) (fun j o e => hR _ _ _ _ k5 (hR _ _ _ _ k4 (hr j o e))) (by rw [hl]; exact hR _ _ _ _ k5 r4)
  · rintro H ⟨ys, f, s, hl, hr, hl2⟩
    exact hd ys H f s hl hr hl2
/-! ### the reserved words -/
def sp_L_reserved : Sp := fun vs H Q _ => vs = [] ∧ ∀ l H', Same H H' → H' l = some (.lst (reserved.map V.str)) → Q (.ref l) H'
theorem ok_L_reserved (T : Txt w K mg) : FnOk P w K mg base CX0 1 (a_L_reserved K) (fdOf K (a_L_reserved K)) ps_L_reserved sp_L_reserved := by
  refine ok0 T.f_L_reserved sc_L_reserved (fun vs H Q E h => ?_) (fun cdv A outer s H vs Q E hr h => ?_)
  · obtain ⟨rfl, _⟩ := h; rfl
  · obtain ⟨rfl, k⟩ := h
    refine ⟨_, (pss_cons (ps_set (i := 0) sc_L_reserved.nd rfl (Or.inl rfl) pe_str) (pss_cons (ps_set (i := 0) sc_L_reserved.nd rfl (Or.inl rfl) (pe_op (k_add K) (pv 0) pe_str)) (pss_one (ps_ret (pe_split (pe_op (k_add K) (pv 0) pe_str) pe_str (by rfl)))))), ?_⟩
    refine ⟨_, rfl, .inr (.inl ⟨_, _, rfl, rfl, by decide +kernel, _, rfl, .inr (.inl ⟨_, _, rfl, rfl, by decide +kernel, ?_⟩)⟩)⟩
    refine ⟨⟨_, rfl⟩, _, _, rfl, rfl, by decide +kernel, by decide +kernel, fun p hp => ?_⟩
    have e : Txt.split (Str.ofString "act and anyone breach day does done else for forever hands may" ++ Str.ofString " must not or parties repeat role so term then to until wait" ++ Str.ofString " when within") (Str.ofString " ") = reserved := by decide +kernel
    rw [e]
    exact k p _ (Same.new hp) upd_same
/-! ### plain: words of letters -/
theorem join_one (cs : List Nat) : (Txt.join "" (cs.map fun c => (⟨#[c]⟩ : Str))).cps.toList = cs := by
  rw [TL.join_eq]
  induction cs with
  | nil => rfl
  | cons c r ih =>
    cases r with
    | nil => rfl
    | cons d r =>
      show ((⟨#[c]⟩ : Str) ++ "" ++ Str.join "" ((d :: r).map fun c => (⟨#[c]⟩ : Str))).cps.toList = _
      have e : ∀ (a b : Str), (a ++ b).cps = a.cps ++ b.cps := fun _ _ => rfl
      rw [e, e, Array.toList_append, Array.toList_append, ih]
      rfl
theorem join_word {cs : List Nat} (h0 : cs ≠ []) (h1 : cs.length ≤ 12) (h2 : ∀ c ∈ cs, c ∈ letters.cps.toList) (h3 : Txt.join "" (cs.map fun c => (⟨#[c]⟩ : Str)) ∉ reserved) : wordB (Txt.join "" (cs.map fun c => (⟨#[c]⟩ : Str))) = true := by
  have e := join_one cs
  generalize Txt.join "" (cs.map fun c => (⟨#[c]⟩ : Str)) = x at e h3
  have hl : x.length = cs.length := by rw [← e]; exact (Array.length_toList).symm
  have hp := List.length_pos_iff.mpr h0
  unfold wordB
  rw [inV_str, decide_eq_false h3, decide_eq_true (show 1 ≤ x.length by omega), decide_eq_true (show x.length ≤ 12 by omega), e]
  simp only [Bool.not_false, Bool.true_and, List.all_eq_true]
  exact fun c hc => decide_eq_true (h2 c hc)
theorem sub_len {α : Type} [DecidableEq α] : ∀ {xs ys : List α}, xs.Nodup → (∀ x ∈ xs, x ∈ ys) → xs.length ≤ ys.length
  | [], _, _, _ => (Nat.zero_le _)
  | x :: r, ys, h, k => by
    have hn := List.nodup_cons.mp h
    have hx := k x List.mem_cons_self
    have := sub_len (ys := ys.erase x) hn.2 fun z hz => (List.mem_erase_of_ne (fun e => hn.1 (by rw [← e]; exact hz))).mpr (k z (List.mem_cons_of_mem _ hz))
    rw [List.length_erase_of_mem hx] at this
    have := List.length_pos_of_mem hx
    (simp only [List.length_cons]; omega)
def zWords : List Str := letters.cps.toList.map fun c => Str.ofString "z" ++ (⟨#[c]⟩ : Str) ++ Str.ofString "z"
theorem zWords_ok : zWords.all wordB = true := by decide +kernel
theorem zWords_nd : zWords.Nodup := by decide +kernel
theorem zWords_free {ws : List Str} (h : ws.length ≤ 7) : ∃ x ∈ zWords, x ∉ ws := by
  by_cases q : ∀ x ∈ zWords, x ∈ ws
  · have := sub_len zWords_nd q
    have e : zWords.length = 26 := by decide +kernel
    omega
  · simpa using q
theorem z_len1 (c : Nat) : (Str.ofString "z").length + (⟨#[c]⟩ : Str).length ≤ 100000 := by
  rw [show (Str.ofString "z").length = 1 by decide +kernel]
  show 1 + 1 ≤ 100000
  decide
theorem z_len2 (c : Nat) : (Str.ofString "z" ++ (⟨#[c]⟩ : Str)).length + (Str.ofString "z").length ≤ 100000 := by
  rw [show (Str.ofString "z").length = 1 by decide +kernel]
  have e : (Str.ofString "z" ++ (⟨#[c]⟩ : Str)).length = (Str.ofString "z").length + (⟨#[c]⟩ : Str).length := Array.size_append ..
  rw [e, show (Str.ofString "z").length = 1 by decide +kernel]
  show 1 + 1 + 1 ≤ 100000
  decide
theorem res_len : reserved.length = 26 := by decide +kernel
/-! ### eight unlike words -/
def WdAt (H : Hp) (l : Addr) (ws : List Str) : Prop := H l = some (.lst (ws.map V.str)) ∧ ws.Nodup ∧ ∀ x ∈ ws, wordB x = true
def sp_L_words : Sp := fun vs H Q _ => ∃ (g : Dw) (m n : Nat), vs = [.ref g.d, .int (m : Nat)] ∧ m ≤ 8 ∧ DrawAt H g n ∧ n < 100000000 ∧ ∀ l ws H', Fr [g.d] H H' → DrawAt H' g (n + 15 * m) → WdAt H' l ws → ws.length = m → Q (.ref l) H'
theorem ok_L_words (T : Txt w K mg) : FnOk P w K mg base CX0 3 (a_L_words K) (fdOf K (a_L_words K)) ps_L_words sp_L_words := by
  have G_L_next := ok_L_next (P := P) (base := base) T
  have G_L_pick := ok_L_pick (P := P) (base := base) T
  have G_L_reserved := ok_L_reserved (P := P) (base := base) T
  refine ok0 T.f_L_words sc_L_words (fun vs H Q E h => ?_) (fun cdv A outer s H vs Q E hr h => ?_)
  · obtain ⟨_, _, _, rfl, _⟩ := h; rfl
  · obtain ⟨g, m, n, rfl, hm, hd, hn, k⟩ := h
    have hr_L_next : Room 1 _ := hr.mono (by omega)
    have hr_L_pick := hr
    have hr_L_reserved : Room 1 _ := hr.mono (by omega)
    refine ⟨_, (pss_cons (ps_asg (pe_tup (pa_cons pe_str (pa_cons (pe_lst pa_nil) pa_nil))) (k_tup K (n := 2) rfl (pgs_cons (pg_name (i := 2) sc_L_words.nd rfl (Or.inr rfl) (Or.inl rfl)) (pgs_cons (pg_name (i := 3) sc_L_words.nd rfl (Or.inr rfl) (Or.inl rfl)) pgs_nil)))) (pss_cons (ps_while PassesOwn.never (pt_cmpR op_lt (pe_callB (k_len K) (by rfl) T.n_len (by decide +kernel) (pa_cons (pv 3) pa_nil)) (pv 1) (nomark _)) (pss_cons (ps_set (i := 4) sc_L_words.nd rfl (Or.inl rfl) (pe_lst (pa_cons pe_int (pa_cons (pe_op (k_add K) pe_int (pe_call G_L_next hr_L_next rfl T.g_L_next T.k_L_next T.b_L_next .nil pass0 (pa_cons (pv 0) (pa_cons pe_int pa_nil)))) (pa_cons (pe_op (k_add K) pe_int (pe_call G_L_next hr_L_next rfl T.g_L_next T.k_L_next T.b_L_next .nil pass0 (pa_cons (pv 0) (pa_cons pe_int pa_nil)))) pa_nil))))) (pss_cons (ps_setLc (i := 5) (own := [("_law_k", 8)]) (by rfl) sc_L_words.nd rfl rfl (sw_true rfl rfl rfl (by decide +kernel)) (pi_range1 rfl T.n_range (pa_cons (pe_call G_L_pick hr_L_pick rfl T.g_L_pick T.k_L_pick T.b_L_pick .nil pass0 (pa_cons (pv 0) (pa_cons (pv 4) pa_nil))) pa_nil)) (blkOk_by (own := [("_law_k", 8)]) (N := N_L_words) (sc := defScope s_L_words) (by decide +kernel)) (fun _ _ _ _ _ => (pg_name (i := 8) sc_L_words.nd rfl (Or.inl rfl) (Or.inr rfl))) (fun _ _ _ _ _ => pts_nil) (fun _ _ _ _ _ => (pe_call G_L_pick hr_L_pick rfl T.g_L_pick T.k_L_pick T.b_L_pick .nil pass0 (pa_cons (pv 0) (pa_cons (pv 2) pa_nil))))) (pss_cons (ps_set (i := 6) sc_L_words.nd rfl (Or.inl rfl) (k_join K pe_str (pv 5))) (pss_cons (ps_if (pt_cmpR (k_in K) (pv 6) (pe_op (k_add K) (pv 3) (pe_call0 G_L_reserved hr_L_reserved rfl T.g_L_reserved T.k_L_reserved T.b_L_reserved .nil pass0)) (by rfl)) (pss_cons (ps_setLc (i := 7) (own := [("_law_sign", 9)]) (by rfl) sc_L_words.nd rfl rfl (sw_true rfl rfl rfl (by decide +kernel)) (pi_str (pv 2)) (blkOk_by (own := [("_law_sign", 9)]) (N := N_L_words) (sc := defScope s_L_words) (by decide +kernel)) (fun _ _ _ _ _ => (pg_name (i := 9) sc_L_words.nd rfl (Or.inl rfl) (Or.inr rfl))) (fun _ _ _ _ _ => pts_nil) (fun _ _ _ _ _ => (pe_op (k_add K) (pe_op (k_add K) pe_str (pv 9)) pe_str))) (pss_one (ps_set (i := 6) sc_L_words.nd rfl (Or.inl rfl) (pe_ix (k_ix K) (pe_lc (own := [("_law_k", 8)]) (by rfl) sc_L_words.nd (k_piL K (pv 7)) (blkOk_by (own := [("_law_k", 8)]) (N := N_L_words) (sc := defScope s_L_words) (by decide +kernel)) (fun _ _ _ _ _ => (pg_name (i := 8) sc_L_words.nd rfl (Or.inl rfl) (Or.inr rfl))) (fun _ _ _ _ _ => (pts_one (pt_cmpR (k_notIn K) (pv 8) (pv 3) (by rfl)))) (fun _ _ _ _ _ => (pv 8))) pe_int (fun _ _ => rfl))))) pss_nil) (pss_one (ps_expr (k_bm K PySem.F.plainAttrs_list PySem.F.slot_list_append PySem.F.type_list_append mt_append (pv 3) (pa_cons (pv 6) pa_nil))))))))) (pss_one (ps_ret (pv 3))))), ?_⟩
    refine ⟨small (by simp), fun f hf => ⟨small (by simp), fun p hp => ⟨p, _, rfl, SqT.of upd_same, rfl, _, _, rfl, _, _, rfl, rfl, ?_⟩⟩⟩
    have hne := hd.ne hf
    have nfp : f ≠ p := fun z => by rw [← z, upd_same] at hp; cases hp
    have sA : Same H (upd (upd H f (.lst [])) p (.tup [.str "abcdefghijklmnopqrstuvwxyz", .ref f])) := (Same.new hf).trans (Same.new hp)
    refine ⟨fun k σ H' => ∃ (ws : List Str) (s4 s5 s6 s7 s8 s9 : Option V), k = m - ws.length ∧ σ = [some (.ref g.d), some (.int (m : Nat)), some (.str "abcdefghijklmnopqrstuvwxyz"), some (.ref f), s4, s5, s6, s7, s8, s9] ∧ Fr [g.d] H H' ∧ DrawAt H' g (n + 15 * ws.length) ∧ WdAt H' f ws ∧ ws.length ≤ m, ⟨_, [], none, none, none, none, none, none, rfl, rfl, sA.fr, sA.draw hd, ⟨by rw [upd_ne nfp, upd_same]; rfl, List.nodup_nil, by simp⟩, by simp⟩, ?_⟩
    rintro k0 σ H1 ⟨ws, s4, s5, s6, s7, s8, s9, rfl, rfl, f1, hd1, ⟨hw1, hw2, hw3⟩, hwl⟩
    refine ⟨_, rfl, _, _, rfl, .inl ⟨_, SqL.of hw1, rfl⟩, _, rfl, _, _, rfl, rfl, _, rfl, br (fun c => ?_) (fun c => ?_)⟩
    · have c' : ws.length < m := by simpa using c
      refine ⟨fun σ H' => ∃ (ws' : List Str) (s4 s5 s6 s7 s8 s9 : Option V), ws'.length = ws.length + 1 ∧ σ = [some (.ref g.d), some (.int (m : Nat)), some (.str "abcdefghijklmnopqrstuvwxyz"), some (.ref f), s4, s5, s6, s7, s8, s9] ∧ Fr [g.d] H H' ∧ DrawAt H' g (n + 15 * ws'.length) ∧ WdAt H' f ws', ?_, ?_⟩
      · rintro σ' H' ⟨ws', t4, t5, t6, t7, t8, t9, e, rfl, h1, h2, h3⟩
        exact ⟨m - ws'.length, by omega, ws', _, _, _, _, _, _, rfl, rfl, h1, h2, h3, by omega⟩
      refine ⟨_, rfl, g, 4, _, rfl, hd1, by omega, by omega, by omega, fun i1 H2 f2 hd2 a0 a1 => .inl ⟨2, i1, rfl, rfl, _, rfl, g, 12, _, rfl, hd2, by omega, by omega, by omega, fun i2 H3 f3 hd3 b0 b1 => .inl ⟨1, i2, rfl, rfl, small (by simp), fun q hq => ?_⟩⟩⟩
      have s4' := Same.new (o := .lst [.int 1, .int (2 + i1), .int (1 + i2)]) hq
      have f4 : Fr [g.d] H1 (upd H3 q (.lst [.int 1, .int (2 + i1), .int (1 + i2)])) := (f2.trans f3).trans s4'.fr
      have hd4 := s4'.draw hd3
      have e4 : (upd H3 q (.lst [.int 1, .int (2 + i1), .int (1 + i2)])) q = some (.lst [.int 1, .int (2 + i1), .int (1 + i2)]) := upd_same
      generalize (upd H3 q (.lst [.int 1, .int (2 + i1), .int (1 + i2)])) = H4 at s4' f4 hd4 e4 ⊢
      refine ⟨_, rfl, _, rfl, g, .ref q, _, 3, rfl, hd4, by omega, .inl ⟨_, SqL.of e4, rfl⟩, by omega, by omega, fun i5 H5 f5 hd5 c0 c1 => ?_⟩
      refine pickOf (SqL.of (hd4.kp f5 _ _ e4 trivial)) c0 c1 fun x hx => ?_
      obtain ⟨z, rfl, z1, z2⟩ : ∃ z : Int, x = .int z ∧ 1 ≤ z ∧ z ≤ 12 := by
        (simp only [List.mem_cons, List.not_mem_nil, or_false] at hx)
        rcases hx with rfl | rfl | rfl
        · exact ⟨_, rfl, by omega, by omega⟩
        · exact ⟨_, rfl, by omega, by omega⟩
        · exact ⟨_, rfl, by omega, by omega⟩
      refine ⟨z, rfl, by omega, by omega, fun D hD => ?_⟩
      have hne5 := hd5.ne hD
      have sS : ∀ (i : Nat) (H : Hp) (xs : List V), DrawAt H g (n + 15 * ws.length + 3 + i) → DrawAt (upd H D (.lst xs)) g (n + 15 * ws.length + 3 + i) := fun i H xs h => h.stay (L := [D]) (Fr.upd in1) (by simpa using hne5.1) (by simpa using hne5.2)
      refine lc_m (walk_range (n := z.toNat)) [g.d] (fun i H' => DrawAt H' g (n + 15 * ws.length + 3 + i)) (fun i y _ => ∃ c, c ∈ letters.cps.toList ∧ y = .str ⟨#[c]⟩) (fun i o H H' _ h => h) hD (by simpa using Ne.symm hne5.1) (by omega) (fun _ _ _ _ => trivial) (sS 0 _ _ hd5) sS ?_ ?_
      · rintro i v H6 H7 Kt hi f6 s6 ⟨rfl, rfl⟩ kk
        refine ⟨rfl, _, rfl, _, rfl, g, .str letters, _, 26, rfl, s6, by omega, ⟨by decide +kernel, by decide +kernel⟩, by omega, by omega, fun i6 H8 f8 hd8 d0 d1 => ?_⟩
        obtain ⟨j, rfl⟩ : ∃ j : Nat, i6 = j := ⟨i6.toNat, by omega⟩
        have hj : j < letters.cps.toList.length := by have : letters.cps.toList.length = 26 := by decide +kernel
                                                      omega
        exact .inr (.inr ⟨letters, _, letters.cps.toList[j], rfl, rfl, by decide +kernel, atI_nat (by simp [hj]), kk _ _ f8 (s6.kt f8) (hd8.mono (by omega)) ⟨_, List.getElem_mem hj, rfl⟩⟩)
      · intro ys H6 f6 hd6 hl hy hD6
        obtain ⟨cs, rfl, hcs⟩ := pickL (fun c : Nat => V.str ⟨#[c]⟩) ys (fun _ c => c ∈ letters.cps.toList) fun i y e => by
          obtain ⟨c, h1, h2⟩ := hy i y e
          exact ⟨c, h2, h1⟩
        have hl' : cs.length = z.toNat := by simpa using hl
        have hc2 : ∀ c ∈ cs, c ∈ letters.cps.toList := fun c hc => by
          obtain ⟨i, hi⟩ := List.getElem?_of_mem hc
          exact hcs i c hi
        have eqs : (cs.map fun c : Nat => V.str ⟨#[c]⟩) = (cs.map fun c => (⟨#[c]⟩ : Str)).map V.str := by rw [List.map_map]; rfl
        refine ⟨⟨_, rfl⟩, _, rfl, _, D, (cs.map fun c => (⟨#[c]⟩ : Str)), rfl, rfl, .inl (SqL.of (by rw [← eqs]; exact hD6)), ?_, ?_⟩
        · have e1 : ((cs.map fun c => (⟨#[c]⟩ : Str)).map fun x => x.length).sum = cs.length := by
            clear hl hl' hcs hc2 hy hD6 eqs
            induction cs with
            | nil => rfl
            | cons c r ih => rw [List.map_cons, List.map_cons, List.sum_cons, ih, List.length_cons]; show 1 + r.length = _; omega
          rw [e1, show (Str.ofString "").length = 0 by decide +kernel]; omega
        have hwx : Txt.join "" (cs.map fun c => (⟨#[c]⟩ : Str)) ∉ reserved → wordB (Txt.join "" (cs.map fun c => (⟨#[c]⟩ : Str))) = true := fun h => join_word (fun e => by rw [e] at hl'; simp at hl'; omega) (by omega) hc2 h
        generalize Txt.join "" (cs.map fun c => (⟨#[c]⟩ : Str)) = x at hwx ⊢
        have f16 := (f4.trans f5).trans f6
        have w6 := hd1.kp f16 _ _ hw1 trivial
        have hd6' : DrawAt H6 g (n + 15 * (ws.length + 1)) := hd6.mono (by omega)
        have f06 := f1.trans f16
        have fin : ∀ {De : Ends} {H9 : Hp} {y : Str} {t4 t5 t7 t8 t9 : Option V}, (∀ σ H', (∃ (ws' : List Str) (s4 s5 s6 s7 s8 s9 : Option V), ws'.length = ws.length + 1 ∧ σ = [some (.ref g.d), some (.int (m : Nat)), some (.str "abcdefghijklmnopqrstuvwxyz"), some (.ref f), s4, s5, s6, s7, s8, s9] ∧ Fr [g.d] H H' ∧ DrawAt H' g (n + 15 * ws'.length) ∧ WdAt H' f ws') → De.nx σ H') → Same H6 H9 → y ∉ ws → wordB y = true → tDrop (tBM K "list" rAppend (tVar 3) (tCons (tVar 6) tNil)) De [some (.ref g.d), some (.int (m : Nat)), some (.str "abcdefghijklmnopqrstuvwxyz"), some (.ref f), t4, t5, some (.str y), t7, t8, t9] H9 := by
          intro De H9 y t4 t5 t7 t8 t9 hnx s9' hy1 hy2
          have w9 := s9' _ _ w6
          refine ⟨_, rfl, .inl ⟨rfl, _, SqL.of w9⟩, _, rfl, f, _, _, rfl, rfl, w9, smallLt (by simp; omega), hnx _ _ ⟨ws ++ [y], _, _, _, _, _, _, by simp, rfl, fun b u nb e => ?_, ?_, by rw [upd_same, List.map_append]; rfl, ?_, ?_⟩⟩
          · have q : b ≠ f := fun z => by rw [z, hf] at e; cases e
            rw [upd_ne q]
            exact s9' _ _ (f06 _ _ nb e)
          · exact ((s9'.draw hd6').mono (by simp)).stay (L := [f]) (Fr.upd in1) (by simpa using hne.1) (by simpa using hne.2)
          · rw [List.nodup_append]
            exact ⟨hw2, by simp, fun a ha b hb e => by simp only [List.mem_singleton] at hb; rw [e, hb] at ha; exact hy1 ha⟩
          · intro z hz
            rcases List.mem_append.mp hz with h | h
            · exact hw3 z h
            · rw [List.mem_singleton.mp h]; exact hy2
        refine ⟨_, rfl, _, rfl, rfl, fun l7 H7 s7 h7 => catL (s7 _ _ w6) h7 (by have := res_len; simp; omega) fun l8 hl8 => ⟨l8, (ws ++ reserved).map V.str, rfl, .inl (SqL.of (by rw [upd_same, List.map_append])), rfl, by simp [flatV], _, rfl, ite2 (fun c3 => ?_) (fun c3 => ?_)⟩⟩
        · have s8 := s7.trans (Same.new (o := .lst (ws.map V.str ++ reserved.map V.str)) hl8)
          generalize (upd H7 l8 (.lst (ws.map V.str ++ reserved.map V.str))) = H8 at s8 ⊢
          refine ⟨_, rfl, letters, rfl, fun D2 hD2 => ?_⟩
          refine lc_n (walk_str (z := letters)) (fun i v _ => ∃ c, letters.cps[i]? = some c ∧ v = .str (Str.ofString "z" ++ (⟨#[c]⟩ : Str) ++ Str.ofString "z")) (fun i o H H' _ h => h) hD2 (by decide +kernel) (fun H _ => trivial) ?_ ?_
          · rintro i v Ha Hb Kt hi s9' ⟨rfl, c, hc, rfl⟩ kk
            exact ⟨rfl, _, rfl, .inr (.inl ⟨_, _, rfl, rfl, small (z_len1 c), .inr (.inl ⟨_, _, rfl, rfl, small (z_len2 c), kk _ _ (Same.refl _) ⟨c, hc, rfl⟩⟩)⟩)⟩
          · intro zs H10 s10 hzl hzy hD10
            obtain ⟨zs, rfl, hz⟩ := pickL V.str zs (fun i b => ∃ c, letters.cps[i]? = some c ∧ b = Str.ofString "z" ++ (⟨#[c]⟩ : Str) ++ Str.ofString "z") fun i y e => by
              obtain ⟨c, e1, e2⟩ := hzy i y e
              exact ⟨_, e2, c, e1, rfl⟩
            have ez : zs = zWords := map_of (by simpa using hzl) fun i b q => by
              obtain ⟨c, e1, e2⟩ := hz i b q
              exact ⟨c, by rw [Array.getElem?_toList]; exact e1, e2⟩
            rw [ez] at hD10
            have w10 := s10 _ _ (s8 _ _ w6)
            refine ⟨_, rfl, D2, rfl, ⟨_, SqL.of hD10⟩, fun D3 hD3 => ?_⟩
            refine lc_g (walk_list (xs := zWords.map V.str)) (fun i o _ => ∃ y, zWords[i]? = some y ∧ ((o = none ∧ y ∈ ws) ∨ (o = some (.str y) ∧ y ∉ ws))) (fun i o H H' _ h => h) hD3 (by decide +kernel) (fun H3 s3 => s3.lst (SqL.of hD10)) ?_ ?_
            · rintro i v Ha Hb Kt Kf hi s11 ⟨rfl, hv⟩ k1 k2
              obtain ⟨y, hy, rfl⟩ : ∃ y, zWords[i]? = some y ∧ v = .str y := by
                rw [List.getElem?_map] at hv
                cases e : zWords[i]? with
                | none => rw [e] at hv; cases hv
                | some y => rw [e] at hv; exact ⟨y, rfl, (Option.some.inj hv).symm⟩
              refine ⟨rfl, _, rfl, _, rfl, f, ws.map V.str, rfl, .inl (SqL.of (s11 _ _ w10)), rfl, by simp [flatV], _, rfl, ite2 (fun c => ?_) (fun c => ?_)⟩
              · have c' : (!inV (.str y) (ws.map V.str)) = true := c
                rw [inV_str] at c'
                exact ⟨_, rfl, k1 _ _ (Same.refl _) ⟨y, hy, .inr ⟨rfl, by simpa using c'⟩⟩⟩
              · have c' : (!inV (.str y) (ws.map V.str)) = false := Bool.not_eq_true _ ▸ c
                rw [inV_str] at c'
                exact k2 _ (Same.refl _) ⟨y, hy, .inl ⟨rfl, by simpa using c'⟩⟩
            · intro os H12 s12 hol ho hD12
              obtain ⟨y0, hm0, hn0⟩ := zWords_free (ws := ws) (by omega)
              obtain ⟨i0, hi0⟩ := List.getElem?_of_mem hm0
              have hol' : os.length = zWords.length := by simpa using hol
              have hlt : i0 < os.length := by rw [hol']; exact (List.getElem?_eq_some_iff.mp hi0).1
              have hin : (V.str y0) ∈ os.filterMap id := by
                refine List.mem_filterMap.mpr ⟨os[i0], List.getElem_mem hlt, ?_⟩
                obtain ⟨y, h1, h2⟩ := ho i0 os[i0] (by simp [hlt])
                rw [hi0] at h1; cases h1
                rcases h2 with ⟨_, h⟩ | ⟨h, _⟩
                · exact absurd h hn0
                · exact h
              obtain ⟨v, r, hvr⟩ : ∃ v r, os.filterMap id = v :: r := by
                cases e : os.filterMap id with
                | nil => rw [e] at hin; cases hin
                | cons v r => exact ⟨v, r, rfl⟩
              have hv : v ∈ os.filterMap id := by rw [hvr]; exact List.mem_cons_self
              obtain ⟨o, ho1, ho2⟩ := List.mem_filterMap.mp hv
              obtain ⟨i1', hi1'⟩ := List.getElem?_of_mem ho1
              obtain ⟨y, h1, h2⟩ := ho _ _ hi1'
              have ho2' : o = some v := ho2
              rcases h2 with ⟨h, _⟩ | ⟨h, hyn⟩
              · rw [h] at ho2'; cases ho2'
              · rw [h] at ho2'; cases ho2'
                rw [hvr] at hD12
                refine .inl ⟨D3, _, 0, _, rfl, rfl, SqL.of hD12, at0, ?_⟩
                exact fin (fun _ _ h => h) ((s8.trans s10).trans s12) hyn (List.all_eq_true.mp zWords_ok y (List.mem_of_getElem? h1))
        · have c3' : inV (.str x) ((ws ++ reserved).map V.str) = false := Bool.not_eq_true _ ▸ c3
          rw [inV_str] at c3'
          have c4 := of_decide_eq_false c3'
          exact fin (fun _ _ h => h) (s7.trans (Same.new hl8)) (fun h => c4 (List.mem_append_left _ h)) (hwx fun h => c4 (List.mem_append_right _ h))
    · exact ⟨_, rfl, k f ws H1 f1 (hd1.mono (by simp at c; omega)) ⟨hw1, hw2, hw3⟩ (by simp at c; omega)⟩
end
end DD
namespace DD
open PySem PySem.Spec
open PyProof.Rows L2
section
variable {X : Cx}
/-- d.update(another dict) -/
def rUpdD : V → List V → Hp → VK → Prop := fun x vs H Q => ∃ a b kvs more, x = .ref a ∧ vs = [.ref b] ∧ a ≠ b ∧ H a = some (.dK kvs) ∧ H b = some (.dK more) ∧ kvs.length + more.length ≤ 1000 ∧ Q .non (upd H a (.dK (mergeK kvs more)))
theorem mt_updD : MtM X "dict.update" rUpdD := by
  (intro pins s σ H x vs v us Q I rx rv h)
  obtain ⟨a, b, kvs, more, rfl, rfl, ne, ha, hb, hz, q⟩ := h
  cases rx
  obtain ⟨u, rfl, ru⟩ := rv.one
  cases ru
  obtain ⟨za, sa, va, ra, da⟩ := dk_of I.hok ha
  obtain ⟨zb, sb, vb, rb, db⟩ := dk_of I.hok hb
  have la := ra.length
  have lb := rb.length
  refine call_meetsIn PySem.F.slot_dict_update da.typeIs PySem.F.entry_dict_update (PySem.F.args_dict_update_2 _ _) (meets_dict_update (mixKind X.prog X.w) a b ne sb) ⟨va, vb, da, db, small (by omega), fun h' d' o' sb' => ?_⟩
  have zz := length_mergeK more kvs
  have e1 : ∃ u, h'.get? a = some u := let ⟨u, _, _, hu, _⟩ := d'; ⟨u, hu⟩
  exact ⟨.non, _, d_write (t' := s.toks) I (by rw [ha]; exact True.intro) sb' e1 (dk_new (small (by omega)) sa (KV.merge rb ra) d'), rfl, q⟩
end
end DD
namespace DD
open PySem PySem.Spec
open PyProof.Rows L2
section
variable {base : Heap} {mg : Str → Option Value} {K : PySem.W.Frag} {w : World} {P : Program}
/-! ### the world -/
structure Ww where
  d : Addr
  pt : Addr
  rt : Addr
  al : Addr
  pp : List Str
  rs : List (Str × Str)
  acts : List Str
def worldF (W : Ww) (l dd sn : Int) : List (Key × V) := [(.inr "people", .ref W.pt), (.inr "roles", .ref W.rt), (.inr "acts", .ref W.al), (.inr "left", .int l), (.inr "days", .int dd), (.inr "seen", .int sn), (.inr "bent", .int 0), (.inr "how", .int 1)]
structure Ww.Ok (W : Ww) : Prop where
  cn : Cn (W.pp ++ W.rs.map Prod.fst) W.pp (W.rs.map Prod.fst)
  inp : ∀ p ∈ W.rs, p.2 ∈ W.pp
  three : W.pp.length ≤ 3
  wd : ∀ x ∈ W.pp, wordB x = true
  acts : ∀ x ∈ W.acts, wordB x = true
  some : W.acts ≠ []
  few : W.acts.length ≤ 3
def WorldAt (K : PySem.W.Frag) (H : Hp) (W : Ww) (l dd sn : Int) : Prop := H W.d = some (.dK (worldF W l dd sn)) ∧ SqT K H W.pt (W.pp.map V.str) ∧ RolesAt K H W.rt W.rs ∧ H W.al = some (.lst (W.acts.map V.str)) ∧ W.Ok
theorem cut_map_to (ws : List Str) (i : Nat) (hi : i ≤ ws.length) : cutV (ws.map V.str) none (some (i : Int)) = (ws.take i).map V.str := by rw [cut_to _ _ (by simpa using hi), List.map_take]
theorem cut_map (ws : List Str) (i j : Nat) (hi : i ≤ ws.length) (hj : j ≤ ws.length) : cutV (ws.map V.str) (some (i : Int)) (some (j : Int)) = ((ws.drop i).take (j - i)).map V.str := by
  unfold cutV
  rw [HT.sIx_nat, HT.sIx_nat, List.length_map, Nat.min_eq_left hi, Nat.min_eq_left hj, List.map_take, List.map_drop]
theorem cut_3 (ws : List Str) (b : Nat) (h : 3 + b ≤ ws.length) : cutV (ws.map V.str) (some 3) (some (3 + (b : Int))) = ((ws.drop 3).take b).map V.str := by
  have e := cut_map ws 3 (3 + b) (by omega) h
  rw [show 3 + b - 3 = b by omega] at e
  rw [← e, show (((3 : Nat) : Int)) = 3 from rfl, show ((3 + b : Nat) : Int) = 3 + (b : Int) by omega]
theorem cut_5 (ws : List Str) (c : Nat) (h : 6 + c ≤ ws.length) : cutV (ws.map V.str) (some 5) (some (6 + (c : Int))) = ((ws.drop 5).take (1 + c)).map V.str := by
  have e := cut_map ws 5 (6 + c) (by omega) h
  rw [show 6 + c - 5 = 1 + c by omega] at e
  rw [← e, show (((5 : Nat) : Int)) = 5 from rfl, show ((6 + c : Nat) : Int) = 6 + (c : Int) by omega]
theorem pickR {α : Type} {H : Hp} (f : α → PyData) : ∀ (ys : List V) (P : Nat → α → Prop), (∀ i y, ys[i]? = some y → ∃ d, DT K H y (f d) ∧ P i d) → ∃ ds : List α, DTs K H ys (ds.map f) ∧ ds.length = ys.length ∧ ∀ i d, ds[i]? = some d → P i d
  | [], P, _ => ⟨[], .nil, rfl, fun i a e => by simp at e⟩
  | y :: r, P, h => by
    obtain ⟨d, e1, p⟩ := h 0 y rfl
    obtain ⟨ds, e2, l, q⟩ := pickR f r (fun i d => P (i + 1) d) fun i y e => h (i + 1) y e
    refine ⟨d :: ds, .cons e1 e2, by simp [l], fun i b e => ?_⟩
    cases i with
    | zero => have := Option.some.inj e; rw [← this]; exact p
    | succ i => exact q i b e
theorem map_fst {rs : List (Str × Str)} {xs : List Str} (hl : rs.length = xs.length) (h : ∀ (i : Nat) (z : Str × Str), rs[i]? = some z → xs[i]? = some z.1) : rs.map Prod.fst = xs := by
  apply List.ext_getElem?
  intro i
  rw [List.getElem?_map]
  cases e : rs[i]? with
  | none => rw [List.getElem?_eq_none_iff] at e; exact (List.getElem?_eq_none (by omega)).symm
  | some z => exact (h i z e).symm
def sp_L_world (K : PySem.W.Frag) : Sp := fun vs H Q _ => ∃ (g : Dw) (n : Nat), vs = [.ref g.d, .int 2, .int 3] ∧ DrawAt H g n ∧ n < 10000000 ∧ ∀ W H', Fr [g.d] H H' → DrawAt H' g (n + 200) → WorldAt K H' W 0 3 0 → W.d ≠ g.d → Q (.ref W.d) H'
theorem ok_L_world (T : Txt w K mg) : FnOk P w K mg base CX0 4 (a_L_world K) (fdOf K (a_L_world K)) ps_L_world (sp_L_world K) := by
  have G_L_next := ok_L_next (P := P) (base := base) T
  have G_L_pick := ok_L_pick (P := P) (base := base) T
  have G_L_words := ok_L_words (P := P) (base := base) T
  refine ok0 T.f_L_world sc_L_world (fun vs H Q E h => ?_) (fun cdv A outer s H vs Q E hr h => ?_)
  · obtain ⟨_, _, rfl, _⟩ := h; rfl
  · obtain ⟨g, n, rfl, hd, hn, k⟩ := h
    have hr_L_next : Room 1 _ := hr.mono (by omega)
    have hr_L_pick : Room 2 _ := hr.mono (by omega)
    have hr_L_words := hr
    have hU64 := hr.units
    refine ⟨_, (pss_cons (ps_set (i := 3) sc_L_world.nd rfl (Or.inl rfl) (pe_call G_L_words hr_L_words rfl T.g_L_words T.k_L_words T.b_L_words .nil pass0 (pa_cons (pv 0) (pa_cons pe_int pa_nil)))) (pss_cons (ps_set (i := 4) sc_L_world.nd rfl (Or.inr rfl) (pe_slice (k_sl K) (pv 3) po_none (po_some (pe_op (k_add K) pe_int (pe_call G_L_next hr_L_next rfl T.g_L_next T.k_L_next T.b_L_next .nil pass0 (pa_cons (pv 0) (pa_cons pe_int pa_nil))))))) (pss_cons (ps_set (i := 5) sc_L_world.nd rfl (Or.inl rfl) (pe_slice (k_sl K) (pv 3) (po_some pe_int) (po_some (pe_op (k_add K) pe_int (pe_call G_L_next hr_L_next rfl T.g_L_next T.k_L_next T.b_L_next .nil pass0 (pa_cons (pv 0) (pa_cons (pe_op (k_add K) (pv 1) pe_int) pa_nil))))))) (pss_cons (ps_set (i := 6) sc_L_world.nd rfl (Or.inl rfl) (pe_slice (k_sl K) (pv 3) (po_some pe_int) (po_some (pe_op (k_add K) pe_int (pe_call G_L_next hr_L_next rfl T.g_L_next T.k_L_next T.b_L_next .nil pass0 (pa_cons (pv 0) (pa_cons (pv 2) pa_nil))))))) (pss_cons (ps_if (pt_cmpR (k_eq K hU64) (pe_call G_L_next hr_L_next rfl T.g_L_next T.k_L_next T.b_L_next .nil pass0 (pa_cons (pv 0) (pa_cons pe_int pa_nil))) pe_int (nomark _)) (pss_one (ps_asg (pe_ix (k_ix K) (pv 4) pe_int (fun _ _ => rfl)) (pg_sub (pv 6) pe_int set_list))) pss_nil) (pss_cons (ps_set (i := 7) sc_L_world.nd rfl (Or.inl rfl) (pe_callTy call_tupleF (by rfl) T.n_tuple (by decide +kernel) (pa_cons (pe_lc (own := [("_law_job", 9)]) (by rfl) sc_L_world.nd (k_piL K (pv 5)) (blkOk_by (own := [("_law_job", 9)]) (N := N_L_world) (sc := defScope s_L_world) (by decide +kernel)) (fun _ _ _ _ _ => (pg_name (i := 9) sc_L_world.nd rfl (Or.inl rfl) (Or.inr rfl))) (fun _ _ _ _ _ => pts_nil) (fun _ _ _ _ _ => (pe_tup (pa_cons (pv 9) (pa_cons (pe_call G_L_pick hr_L_pick rfl T.g_L_pick T.k_L_pick T.b_L_pick .nil pass0 (pa_cons (pv 0) (pa_cons (pv 4) pa_nil))) pa_nil))))) pa_nil))) (pss_cons (ps_set (i := 8) sc_L_world.nd rfl (Or.inl rfl) (pe_disp (pps_cons pe_str (pe_callTy (k_tuple K) (by rfl) T.n_tuple (by decide +kernel) (pa_cons (pv 4) pa_nil)) (pps_cons pe_str (pv 7) (pps_cons pe_str (pv 6) pps_nil))) (by rfl) (by rfl) (fun z => by cases z) (by decide))) (pss_cons (ps_expr (k_bm K PySem.F.plainAttrs_dict PySem.F.slot_dict_update PySem.F.type_dict_update mt_updD (pv 8) (pa_cons (pe_disp (pps_cons pe_str pe_int (pps_cons pe_str pe_int (pps_cons pe_str pe_int (pps_cons pe_str pe_int (pps_cons pe_str pe_int pps_nil))))) (by rfl) (by rfl) (fun z => by cases z) (by decide)) pa_nil))) (pss_one (ps_ret (pv 8))))))))))), ?_⟩
    refine ⟨_, rfl, g, 8, n, rfl, by omega, hd, by omega, fun l ws H1 f1 hd1 hw hwl => ?_⟩
    obtain ⟨hw1, hw2, hw3⟩ := hw
    refine ⟨_, rfl, _, rfl, g, 3, _, rfl, hd1, by omega, by omega, by omega, fun i H2 f2 hd2 a0 a1 => .inl ⟨1, i, rfl, rfl, _, rfl, .inl ⟨l, _, rfl, SqL.of (hd1.kp f2 _ _ hw1 trivial), fun p hp => ?_⟩⟩⟩
    obtain ⟨a, rfl⟩ : ∃ a : Nat, i = a := ⟨i.toNat, by omega⟩
    rw [show (1 + (a : Int)) = ((1 + a : Nat) : Int) by omega, cut_map_to ws (1 + a) (by omega)]
    have hw2' := hd1.kp f2 _ _ hw1 trivial
    have s3 := Same.new (o := .lst ((ws.take (1 + a)).map V.str)) hp
    have e3 : (upd H2 p (.lst ((ws.take (1 + a)).map V.str))) p = some (.lst ((ws.take (1 + a)).map V.str)) := upd_same
    generalize (upd H2 p (.lst ((ws.take (1 + a)).map V.str))) = H3 at s3 e3 ⊢
    refine ⟨_, rfl, _, rfl, _, rfl, _, rfl, .inl ⟨2, 1, rfl, rfl, g, 3, _, rfl, s3.draw hd2, by omega, by omega, by omega, fun i H4 f4 hd4 b0 b1 => .inl ⟨3, i, rfl, rfl, _, rfl, .inl ⟨l, _, rfl, SqL.of ((s3.draw hd2).kp f4 _ _ (s3 _ _ hw2') trivial), fun q hq => ?_⟩⟩⟩⟩
    obtain ⟨b, rfl⟩ : ∃ b : Nat, i = b := ⟨i.toNat, by omega⟩
    rw [cut_3 ws b (by omega)]
    have f14 := (f2.trans s3.fr).trans f4
    have w4 := hd1.kp f14 _ _ hw1 trivial
    have p4 := (s3.draw hd2).kp f4 _ _ e3 trivial
    have s5 := Same.new (o := .lst (((ws.drop 3).take b).map V.str)) hq
    have e5 : (upd H4 q (.lst (((ws.drop 3).take b).map V.str))) q = some (.lst (((ws.drop 3).take b).map V.str)) := upd_same
    generalize (upd H4 q (.lst (((ws.drop 3).take b).map V.str))) = H5 at s5 e5 ⊢
    refine ⟨_, rfl, _, rfl, _, rfl, _, rfl, g, 3, _, rfl, s5.draw hd4, by omega, by omega, by omega, fun i H6 f6 hd6 c0 c1 => .inl ⟨6, i, rfl, rfl, _, rfl, .inl ⟨l, _, rfl, SqL.of ((s5.draw hd4).kp f6 _ _ (s5 _ _ w4) trivial), fun r hr' => ?_⟩⟩⟩
    obtain ⟨c, rfl⟩ : ∃ c : Nat, i = c := ⟨i.toNat, by omega⟩
    rw [cut_5 ws c (by omega)]
    have p6 := (s5.draw hd4).kp f6 _ _ (s5 _ _ p4) trivial
    have q6 := (s5.draw hd4).kp f6 _ _ e5 trivial
    have s7 := Same.new (o := .lst (((ws.drop 5).take (1 + c)).map V.str)) hr'
    have e7 : (upd H6 r (.lst (((ws.drop 5).take (1 + c)).map V.str))) r = some (.lst (((ws.drop 5).take (1 + c)).map V.str)) := upd_same
    have nr : r ≠ p ∧ r ≠ q := ⟨fun z => (by rw [z, p6] at hr'; cases hr'), fun z => (by rw [z, q6] at hr'; cases hr')⟩
    generalize (upd H6 r (.lst (((ws.drop 5).take (1 + c)).map V.str))) = H7 at s7 e7 ⊢
    refine ⟨_, rfl, g, 4, _, rfl, s7.draw hd6, by omega, by omega, by omega, fun i H8 f8 hd8 d0 d1 => ?_⟩
    have p8 := (s7.draw hd6).kp f8 _ _ (s7 _ _ p6) trivial
    have q8 := (s7.draw hd6).kp f8 _ _ (s7 _ _ q6) trivial
    have r8 := (s7.draw hd6).kp f8 _ _ e7 trivial
    have f08 := f1.trans (f14.trans (s5.fr.trans (f6.trans (s7.fr.trans f8))))
    have ner := hd6.ne hr'
    have f06 := f1.trans (f14.trans (s5.fr.trans f6))
    have dec : ∃ x0, atI ((ws.take (1 + a)).map V.str) 0 = some (.str x0) ∧ x0 ∈ ws := by
      cases ws with
      | nil => simp at hwl
      | cons x0 r0 => exact ⟨x0, by rw [show 1 + a = a + 1 by omega]; exact at0, by simp⟩
    obtain ⟨x0, hx0, hx0m⟩ := dec
    have hal : ((ws.drop 5).take (1 + c)).length = 1 + c := by rw [List.length_take, List.length_drop]; omega
    have haw : ∀ x ∈ (ws.drop 5).take (1 + c), wordB x = true := fun x hx => hw3 x (List.mem_of_mem_drop (List.mem_of_mem_take hx))
    refine .inl ⟨rfl, _, rfl, ite2 (fun _ => ?y) (fun _ => ?n)⟩
    case' y =>
      refine ⟨_, rfl, .inl ⟨p, _, 0, .str x0, rfl, rfl, SqL.of p8, hx0, ⟨_, rfl, r, _, 0, 0, rfl, rfl, r8, by unfold ixN; simp [hal]; omega, ?_⟩⟩⟩
      rw [← List.map_set]
      have e9 : (upd H8 r (.lst ((((ws.drop 5).take (1 + c)).set 0 x0).map V.str))) r = some (.lst ((((ws.drop 5).take (1 + c)).set 0 x0).map V.str)) := upd_same
      have p9 : (upd H8 r (.lst ((((ws.drop 5).take (1 + c)).set 0 x0).map V.str))) p = _ := (upd_ne (Ne.symm nr.1)).trans p8
      have q9 : (upd H8 r (.lst ((((ws.drop 5).take (1 + c)).set 0 x0).map V.str))) q = _ := (upd_ne (Ne.symm nr.2)).trans q8
      have f09 : Fr [g.d] H (upd H8 r (.lst ((((ws.drop 5).take (1 + c)).set 0 x0).map V.str))) := fun b u nb e => by
        have nz : b ≠ r := fun z => by
          have := f06 _ _ nb e
          rw [z, hr'] at this; cases this
        rw [upd_ne nz]; exact f08 _ _ nb e
      have hd9 : DrawAt (upd H8 r (.lst ((((ws.drop 5).take (1 + c)).set 0 x0).map V.str))) g _ := hd8.stay (L := [r]) (Fr.upd in1) (by simpa using ner.1) (by simpa using ner.2)
      have ha9 : ∀ x ∈ ((ws.drop 5).take (1 + c)).set 0 x0, wordB x = true := fun x hx => by
        rcases List.mem_or_eq_of_mem_set hx with h | h
        · exact haw x h
        · rw [h]; exact hw3 _ hx0m
      have hl9 : (((ws.drop 5).take (1 + c)).set 0 x0).length = 1 + c := by rw [List.length_set, hal]
      generalize (upd H8 r (.lst ((((ws.drop 5).take (1 + c)).set 0 x0).map V.str))) = H9 at e9 p9 q9 f09 hd9 ⊢
      generalize ((ws.drop 5).take (1 + c)).set 0 x0 = acts at e9 ha9 hl9
    case' n =>
      have e9 := r8
      have p9 := p8
      have q9 := q8
      have f09 := f08
      have hd9 := hd8
      have ha9 := haw
      have hl9 := hal
      generalize (ws.drop 5).take (1 + c) = acts at e9 ha9 hl9
    all_goals
      refine ⟨_, rfl, q, rfl, ⟨_, SqL.of q9⟩, fun D hD => ?_⟩
      have neD := hd9.ne hD
      refine lc_m (walk_list (xs := ((ws.drop 3).take b).map V.str)) [g.d] (fun i H' => DrawAt H' g (n + 15 * 8 + 4 + i) ∧ H' p = some (.lst ((ws.take (1 + a)).map V.str)) ∧ H' q = some (.lst (((ws.drop 3).take b).map V.str)) ∧ H' r = some (.lst (acts.map V.str))) (fun i y H' => ∃ z : Str × Str, ((ws.drop 3).take b)[i]? = some z.1 ∧ z.2 ∈ ws.take (1 + a) ∧ DT K H' y (.tuple [pS z.1, pS z.2])) (fun i o H H' kk ⟨z, h1, h2, h3⟩ => ⟨z, h1, h2, kk.dt h3⟩) hD (by simpa using Ne.symm neD.1) (by simp; omega) (fun _ _ _ h => SqL.of h.2.2.1) ?_ ?_ ?_ ?_
      · exact ⟨(hd9.mono (by omega)).stay (L := [D]) (Fr.upd in1) (by simpa using neD.1) (by simpa using neD.2), (Same.new hD) _ _ p9, (Same.new hD) _ _ q9, (Same.new hD) _ _ e9⟩
      · have np : p ≠ D := fun z => by rw [z, hD] at p9; cases p9
        have nq : q ≠ D := fun z => by rw [z, hD] at q9; cases q9
        have nr' : r ≠ D := fun z => by rw [z, hD] at e9; cases e9
        rintro i H' xs ⟨h1, h2, h3, h4⟩
        exact ⟨h1.stay (L := [D]) (Fr.upd in1) (by simpa using neD.1) (by simpa using neD.2), (upd_ne np).trans h2, (upd_ne nq).trans h3, (upd_ne nr').trans h4⟩
      · rintro i v Ha Hb Kt hi fa ⟨da, pa, qa, ra⟩ ⟨rfl, hv⟩ kk
        obtain ⟨job, hj, rfl⟩ : ∃ y, ((ws.drop 3).take b)[i]? = some y ∧ v = .str y := by
          rw [List.getElem?_map] at hv
          cases e : ((ws.drop 3).take b)[i]? with
          | none => rw [e] at hv; cases hv
          | some y => rw [e] at hv; exact ⟨y, rfl, (Option.some.inj hv).symm⟩
        have hi2 : i < 2 := by
          have := (List.getElem?_eq_some_iff.mp hj).1
          rw [List.length_take] at this; omega
        have hpl : ((ws.take (1 + a)).map V.str).length = 1 + a := by rw [List.length_map, List.length_take]; omega
        refine ⟨rfl, _, rfl, _, rfl, _, rfl, g, .ref p, _, 1 + a, rfl, da, by omega, .inl ⟨_, SqL.of pa, hpl.symm⟩, by omega, by omega, fun j Hc fc dc j0 j1 => ?_⟩
        have kc := da.kp fc
        refine pickOf (SqL.of (kc _ _ pa trivial)) j0 (by rw [hpl]; exact j1) fun x hx => ?_
        obtain ⟨who, hwho, rfl⟩ := List.mem_map.mp hx
        refine ⟨small (by simp), fun t ht => ?_⟩
        have st := Same.new (o := .tup [.str job, .str who]) ht
        exact kk _ _ (fc.trans st.fr) (da.kt fc |>.trans st.kt) ⟨st.draw dc, st _ _ (kc _ _ pa trivial), st _ _ (kc _ _ qa trivial), st _ _ (kc _ _ ra trivial)⟩ ⟨(job, who), hj, hwho, .tup (SqT.of upd_same) (.cons (.str _) (.cons (.str _) .nil))⟩
      · intro ys H10 f10 h10 hyl hyr hD10
        obtain ⟨rs, hrs, hrl, hrp⟩ := pickR (fun z : Str × Str => .tuple [pS z.1, pS z.2]) ys (fun i z => ((ws.drop 3).take b)[i]? = some z.1 ∧ z.2 ∈ ws.take (1 + a)) fun i y e => by
          obtain ⟨z, h1, h2, h3⟩ := hyr i y e
          exact ⟨z, h3, h1, h2⟩
        refine ⟨D, ys, rfl, SqL.of hD10, fun t ot ht hot1 hot2 => ?_⟩
        have st := Same.new (o := .frz ot (.tup ys)) ht
        have hrt : RolesAt K (upd H10 t (.frz ot (.tup ys))) t rs := ⟨ys, ⟨ot, upd_same, hot1, hot2⟩, st.dts hrs⟩
        obtain ⟨h10d, h10p, h10q, h10r⟩ := h10
        have d11 := st.draw h10d
        have p11 := st _ _ h10p
        have r11 := st _ _ h10r
        have f11 := f09.trans (f10.trans st.fr)
        generalize (upd H10 t (.frz ot (.tup ys))) = H11 at hrt d11 p11 r11 f11 ⊢
        have hjl : ((ws.drop 3).take b).length = b := by rw [List.length_take, List.length_drop]; omega
        have hrs1 : rs.map Prod.fst = (ws.drop 3).take b := map_fst (by rw [hrl, hyl, List.length_map]) fun i z e => (hrp i z e).1
        have hok : Ww.Ok ⟨0, 0, t, r, ws.take (1 + a), rs, acts⟩ := by
          have few : (ws.take (1 + a)).length ≤ 3 := by rw [List.length_take]; omega
          have wd : ∀ x ∈ ws.take (1 + a), wordB x = true := fun x hx => hw3 x (List.mem_of_mem_take hx)
          refine ⟨⟨rfl, ⟨few, wd⟩, ?_, ?_, ?_, ?_⟩, ?_, few, wd, ha9, ?_, by show acts.length ≤ 3; omega⟩
          · show ws.take (1 + a) ≠ []
            intro z; have e := congrArg List.length z; rw [List.length_take, List.length_nil] at e; omega
          · show (rs.map Prod.fst).length ≤ 2
            rw [hrs1, hjl]; omega
          · show ∀ x ∈ rs.map Prod.fst, wordB x = true
            rw [hrs1]; exact fun x hx => hw3 x (List.mem_of_mem_drop (List.mem_of_mem_take hx))
          · show (ws.take (1 + a) ++ rs.map Prod.fst).Nodup
            rw [hrs1]
            refine List.Nodup.sublist ?_ hw2
            have e : ws.take (1 + a) = (ws.take 3).take (1 + a) := by rw [List.take_take, Nat.min_eq_left (by omega)]
            rw [e]
            have := (List.take_sublist (1 + a) (ws.take 3)).append (List.take_sublist b (ws.drop 3))
            rwa [List.take_append_drop] at this
          · intro z hz
            obtain ⟨i, hi⟩ := List.getElem?_of_mem hz
            exact (hrp i z hi).2
          · show acts ≠ []
            intro z; rw [z] at hl9; simp at hl9; omega
        refine fun wd hwd => ⟨_, rfl, p, _, rfl, .inl ⟨SqL.of ((Same.new hwd) _ _ p11), fun pt hpt => ⟨_, rfl, _, rfl, ?_⟩⟩⟩
        have sw := Same.new (o := .dK []) hwd
        have nwp : wd ≠ pt := fun z => by rw [← z, upd_same] at hpt; cases hpt
        have spt := Same.new (o := .tup ((ws.take (1 + a)).map V.str)) hpt
        have h12 := (sw.trans spt)
        refine ⟨by rw [upd_ne nwp, upd_same], [(.inr "people", .ref pt), (.inr "roles", .ref t), (.inr "acts", .ref r)], rfl, by simp, ?_⟩
        refine ⟨_, rfl, .inr (.inr (.inl ⟨rfl, .inl ⟨_, upd_same⟩⟩)), fun e he => ⟨upd_same, [(.inr "left", .int 0), (.inr "days", .int 3), (.inr "seen", .int 0), (.inr "bent", .int 0), (.inr "how", .int 1)], rfl, by simp, ?_⟩⟩
        have new : wd ≠ e := fun z => by rw [← z, upd_same] at he; cases he
        refine ⟨wd, e, mergeK [] [(.inr "people", .ref pt), (.inr "roles", .ref t), (.inr "acts", .ref r)], mergeK [] [(.inr "left", .int 0), (.inr "days", .int 3), (.inr "seen", .int 0), (.inr "bent", .int 0), (.inr "how", .int 1)], rfl, rfl, new, by rw [upd_ne new, upd_ne new, upd_same], upd_same, (show (3 + 5 : Nat) ≤ 1000 from by decide), ⟨_, rfl, ?_⟩⟩
        have sd : ∀ {x y z : HO}, Same H11 (upd (upd (upd (upd (upd (upd H11 wd (.dK [])) pt (.tup ((ws.take (1 + a)).map V.str))) wd x) e (.dK [])) e y) wd z) := fun {x y z} bb o hb => by
          have n1 : bb ≠ wd := ne_of_none hb hwd
          have n2 : bb ≠ pt := ne_of_none (sw _ _ hb) hpt
          have n3 : bb ≠ e := fun zz => by
            rw [← zz, upd_ne n1, h12 _ _ hb] at he; cases he
          rw [upd_ne n1, upd_ne n3, upd_ne n3, upd_ne n1]; exact h12 _ _ hb
        have npe : pt ≠ e := fun zz => by rw [← zz, upd_ne (Ne.symm nwp), upd_same] at he; cases he
        have hjm : (((ws.drop 3).take b).map V.str).length = b := by rw [List.length_map, hjl]
        refine k ⟨wd, pt, t, r, ws.take (1 + a), rs, acts⟩ _ (f11.trans sd.fr) ((sd.draw d11).mono (by rw [hjm]; omega)) ⟨upd_same, SqT.of (by rw [upd_ne (Ne.symm nwp), upd_ne npe, upd_ne npe, upd_ne (Ne.symm nwp), upd_same]), sd.roles hrt, sd _ _ r11, ⟨hok.cn, hok.inp, hok.three, hok.wd, hok.acts, hok.some, hok.few⟩⟩ (fun z => ?_)
        have zz : wd = g.d := z
        exact (d11.ne hwd).1 zz.symm
end
end DD
namespace DD
open PySem PySem.Spec
open PyProof.Rows L2
section
variable {base : Heap} {mg : Str → Option Value} {K : PySem.W.Frag} {w : World} {P : Program}
/-! ### someone -/
def Ww.nm (W : Ww) : List Str := W.pp ++ W.rs.map Prod.fst
def sp_L_who (K : PySem.W.Frag) : Sp := fun vs H Q _ => ∃ (g : Dw) (W : Ww) (n : Nat) (l dd sn : Int), vs = [.ref g.d, .ref W.d] ∧ DrawAt H g n ∧ n < 100000000 ∧ WorldAt K H W l dd sn ∧ ∀ x H', Fr [g.d] H H' → DrawAt H' g (n + 1) → Who W.nm x → Q (.str x) H'
theorem ok_L_who (T : Txt w K mg) : FnOk P w K mg base CX0 3 (a_L_who K) (fdOf K (a_L_who K)) ps_L_who (sp_L_who K) := by
  have G_L_pick := ok_L_pick (P := P) (base := base) T
  refine ok0 T.f_L_who sc_L_who (fun vs H Q E h => ?_) (fun cdv A outer s H vs Q E hr h => ?_)
  · obtain ⟨_, _, _, _, _, _, rfl, _⟩ := h; rfl
  · obtain ⟨g, W, n, l, dd, sn, rfl, hd, hn, ⟨w1, w2, w3, w4, ok⟩, k⟩ := h
    have hr_L_pick := hr
    have hU1 := hu_of hr
    refine ⟨_, (pss_cons (ps_setLc (i := 2) (own := [("_law_pair", 3)]) (by rfl) sc_L_who.nd rfl rfl (sw_true rfl rfl rfl (by decide +kernel)) (k_piT K (pe_dget hU1 (pv 1) pe_str (fun _ _ => rfl))) (blkOk_by (own := [("_law_pair", 3)]) (N := N_L_who) (sc := defScope s_L_who) (by decide +kernel)) (fun _ _ _ _ _ => (pg_name (i := 3) sc_L_who.nd rfl (Or.inl rfl) (Or.inr rfl))) (fun _ _ _ _ _ => pts_nil) (fun _ _ _ _ _ => (pe_ix (k_ix K) (pv 3) pe_int (fun _ _ => rfl)))) (pss_one (ps_ret (pe_call G_L_pick hr_L_pick rfl T.g_L_pick T.k_L_pick T.b_L_pick .nil pass0 (pa_cons (pv 0) (pa_cons (pe_op (k_add K) (pe_op (k_add K) (pe_op u_mul (pe_callTy (k_list K) (by rfl) T.n_list (by decide +kernel) (pa_cons (pe_dget hU1 (pv 1) pe_str (fun _ _ => rfl)) pa_nil)) pe_int) (pe_op u_mul (pv 2) pe_int)) (pe_lst (pa_cons pe_str pa_nil))) pa_nil)))))), ?_⟩
    obtain ⟨us, hf, hus⟩ := id w3
    refine ⟨_, rfl, W.d, _, rfl, dg w1 rfl, _, rfl, ⟨_, hf.sq⟩, fun D hD => ?_⟩
    have hul : us.length = W.rs.length := by rw [dps_len hus, List.length_map]
    have hrl := ok.cn.few
    rw [List.length_map] at hrl
    refine lc_n (walk_tup (xs := us)) (fun i v _ => ∃ p, W.rs[i]? = some p ∧ v = .str p.1) (fun i o H H' _ h => h) hD (by omega) (fun H5 s5 => s5.tup hf.sq) ?_ ?_
    · rintro i v H5 H6 Kt hi s5 ⟨rfl, e⟩ kk
      obtain ⟨p, b, hp, rfl, hb⟩ := pair_at (s5.dts hus) e
      exact ⟨rfl, _, rfl, .inr (.inl ⟨b, _, 0, _, rfl, rfl, hb, at0, kk _ _ (Same.refl _) ⟨p, hp, rfl⟩⟩)⟩
    intro ys H5 s5 hl5 hy hD5
    have e : ys = (W.rs.map Prod.fst).map V.str := by
      rw [List.map_map]
      exact map_of (f := fun p : Str × Str => V.str p.1) (by rw [hl5, hul]) hy
    subst e
    refine ⟨_, rfl, _, rfl, W.d, _, rfl, dg (s5 _ _ w1) rfl, ?_⟩
    have hpl := ok.three
    have hp5 := s5.tup w2
    have ljs : (W.rs.map Prod.fst).length = W.rs.length := List.length_map ..
    refine ⟨W.pt, _, rfl, .inr hp5, fun l1 hl1 => .inr ⟨l1, 2, W.pp.map V.str, rfl, rfl, upd_same, by decide, by decide, small (by simp; omega), fun l2 hl2 => ⟨_, rfl, .inr ⟨D, 2, (W.rs.map Prod.fst).map V.str, rfl, rfl, ((Same.new hl1).trans (Same.new hl2)) _ _ hD5, by decide, by decide, small (by simp; omega), fun l3 hl3 => ?_⟩⟩⟩⟩
    refine catL ((Same.new hl3) _ _ upd_same) upd_same (by simp; omega) fun l4 hl4 => ?_
    refine ⟨small (by simp), fun l5 hl5 => catL ((Same.new hl5) _ _ upd_same) upd_same (by simp; omega) fun l6 hl6 => ?_⟩
    refine ⟨g, .ref l6, n, _, rfl, (((((s5.trans (Same.new hl1)).trans (Same.new hl2)).trans (Same.new hl3)).trans (Same.new hl4)).trans ((Same.new hl5).trans (Same.new hl6))).draw hd, by omega, .inl ⟨_, SqL.of upd_same, rfl⟩, by rw [List.length_append]; exact Nat.succ_pos _, by simp; omega, fun i H7 f7 hd7 i0 i1 => ?_⟩
    have f07 := (((((s5.trans (Same.new hl1)).trans (Same.new hl2)).trans (Same.new hl3)).trans (Same.new hl4)).trans ((Same.new hl5).trans (Same.new hl6))).fr.trans f7
    have l7 := ((((((s5.trans (Same.new hl1)).trans (Same.new hl2)).trans (Same.new hl3)).trans (Same.new hl4)).trans ((Same.new hl5).trans (Same.new hl6))).draw hd).kp f7 _ _ upd_same trivial
    refine pickOf (SqL.of l7) i0 i1 fun x hx => ?_
    obtain ⟨z, rfl, hz⟩ : ∃ z, x = .str z ∧ Who W.nm z := by
      have two : ∀ xs : List V, (List.replicate (Int.toNat 2) xs).flatten = xs ++ xs := fun xs => by show (List.replicate 2 xs).flatten = _; simp [List.replicate]
      rw [two, two] at hx
      simp only [List.mem_append, List.mem_map, List.mem_singleton] at hx
      rcases hx with ((⟨z, h, rfl⟩ | ⟨z, h, rfl⟩) | (⟨z, h, rfl⟩ | ⟨z, h, rfl⟩)) | rfl
      · exact ⟨z, rfl, .inl ⟨List.mem_append_left _ h, ok.wd z h⟩⟩
      · exact ⟨z, rfl, .inl ⟨List.mem_append_left _ h, ok.wd z h⟩⟩
      · have h' := List.mem_map.mpr h
        exact ⟨z, rfl, .inl ⟨List.mem_append_right _ h', ok.cn.word z h'⟩⟩
      · have h' := List.mem_map.mpr h
        exact ⟨z, rfl, .inl ⟨List.mem_append_right _ h', ok.cn.word z h'⟩⟩
      · exact ⟨_, rfl, .inr rfl⟩
    exact k z H7 f07 hd7 hz
end
end DD
namespace DD
open PySem PySem.Spec
open PyProof.Rows L2
section
variable {base : Heap} {mg : Str → Option Value} {K : PySem.W.Frag} {w : World} {P : Program}
theorem WorldAt.ng {H : Hp} {W : Ww} {l dd sn : Int} (h : WorldAt K H W l dd sn) : ∀ u, H W.d = some u → ¬ goodO u := fun v hv g => by
  rw [h.1] at hv; cases hv
  obtain ⟨z, hz⟩ := g _ (List.mem_cons_self)
  cases hz
theorem WorldAt.kp {H H' : Hp} {W : Ww} {l dd sn : Int} (h : WorldAt K H W l dd sn) (k : Kp H H') {l' dd' sn' : Int} (e : H' W.d = some (.dK (worldF W l' dd' sn'))) : WorldAt K H' W l' dd' sn' :=
  ⟨e, k.kt.tup h.2.1, k.roles h.2.2.1, k _ _ h.2.2.2.1 trivial, h.2.2.2.2⟩
/-- behind a draw -/
theorem WorldAt.dr {H H' : Hp} {W : Ww} {l dd sn : Int} {g : Dw} {n : Nat} (h : WorldAt K H W l dd sn) (hd : DrawAt H g n) (ne : W.d ≠ g.d) (f : Fr [g.d] H H') : WorldAt K H' W l dd sn :=
  h.kp (hd.kp f) (f _ _ (by simpa using ne) h.1)
theorem _root_.L2.Same.world {H H' : Hp} {W : Ww} {l dd sn : Int} (s : Same H H') (h : WorldAt K H W l dd sn) : WorldAt K H' W l dd sn := h.kp s.kp (s _ _ h.1)
theorem ok_act {H : Hp} {W : Ww} {l dd sn : Int} {a : Str} (h : WorldAt K H W l dd sn) (ha : a ∈ W.acts) : wordB a = true := h.2.2.2.2.acts a ha
/-! ### a leaf -/
def sp_L_leaf (K : PySem.W.Frag) : Sp := fun vs H Q _ => ∃ (g : Dw) (W : Ww) (n : Nat) (l dd sn : Int), vs = [.ref g.d, .ref W.d] ∧ DrawAt H g n ∧ n < 90000000 ∧ WorldAt K H W l dd sn ∧ W.d ≠ g.d ∧ 1 ≤ dd ∧ dd ≤ 30 ∧
  ∀ v t sn' H', Fr [g.d, W.d] H H' → DrawAt H' g (n + 5) → WorldAt K H' W l dd sn' → DT K H' v t.d → St W.nm 1 t → t.parts = 1 → Q v H'
theorem ok_L_leaf (T : Txt w K mg) : FnOk P w K mg base CX0 4 (a_L_leaf K) (fdOf K (a_L_leaf K)) ps_L_leaf (sp_L_leaf K) := by
  have G_L_next := ok_L_next (P := P) (base := base) T
  have G_L_pick := ok_L_pick (P := P) (base := base) T
  have G_L_who := ok_L_who (P := P) (base := base) T
  refine ok0 T.f_L_leaf sc_L_leaf (fun vs H Q E h => ?_) (fun cdv A outer s H vs Q E hr h => ?_)
  · obtain ⟨_, _, _, _, _, _, rfl, _⟩ := h; rfl
  · obtain ⟨g, W, n, l, dd, sn, rfl, hd, hn, hw, ne, hd1, hd30, k⟩ := h
    have hr_L_next : Room 1 _ := hr.mono (by omega)
    have hr_L_pick : Room 2 _ := hr.mono (by omega)
    have hr_L_who := hr
    have hU1 := hu_of hr
    have hU64 := hr.units
    refine ⟨_, (pss_cons (ps_par (i := 2) (j := 3) (by rfl) sc_L_leaf.nd rfl rfl (by decide) rfl rfl (pa_cons (pe_call G_L_who hr_L_who rfl T.g_L_who T.k_L_who T.b_L_who .nil pass0 (pa_cons (pv 0) (pa_cons (pv 1) pa_nil))) (pa_cons (pe_call G_L_pick hr_L_pick rfl T.g_L_pick T.k_L_pick T.b_L_pick .nil pass0 (pa_cons (pv 0) (pa_cons (pe_dget hU1 (pv 1) pe_str (fun _ _ => rfl)) pa_nil))) pa_nil)) (by rfl)) (pss_cons (ps_par (i := 4) (j := 5) (by rfl) sc_L_leaf.nd rfl rfl (by decide) rfl rfl (pa_cons (pe_op (k_add K) pe_int (pe_call G_L_next hr_L_next rfl T.g_L_next T.k_L_next T.b_L_next .nil pass0 (pa_cons (pv 0) (pa_cons (pe_dget hU1 (pv 1) pe_str (fun _ _ => rfl)) pa_nil)))) (pa_cons (pe_call G_L_who hr_L_who rfl T.g_L_who T.k_L_who T.b_L_who .nil pass0 (pa_cons (pv 0) (pa_cons (pv 1) pa_nil))) pa_nil)) (by rfl)) (pss_cons (ps_set (i := 6) sc_L_leaf.nd rfl (Or.inl rfl) (pe_ifExp (pt_cmpR (k_eq K hU64) (pv 2) (pv 5) (nomark _)) (pe_tup (pa_cons (pv 2) pa_nil)) (pe_tup (pa_cons (pv 2) (pa_cons (pv 5) pa_nil))))) (pss_cons (ps_set (i := 7) sc_L_leaf.nd rfl (Or.inl rfl) (pe_lst (pa_cons (pe_tup (pa_cons pe_str (pa_cons (pv 2) (pa_cons (pv 3) (pa_cons (pv 4) (pa_cons pe_non pa_nil)))))) (pa_cons (pe_tup (pa_cons pe_str (pa_cons (pv 2) (pa_cons (pv 3) (pa_cons (pv 4) (pa_cons pe_non pa_nil)))))) pa_nil)))) (pss_cons (ps_set (i := 7) sc_L_leaf.nd rfl (Or.inl rfl) (pe_op (k_add K) (pv 7) (pe_lst (pa_cons (pe_tup (pa_cons pe_str (pa_cons (pv 2) (pa_cons (pv 3) (pa_cons (pv 4) pa_nil))))) (pa_cons (pe_tup (pa_cons pe_str (pa_cons (pv 4) pa_nil))) (pa_cons (pe_ix (k_ix K) (pv 7) pe_int (fun _ _ => rfl)) pa_nil)))))) (pss_cons (ps_set (i := 7) sc_L_leaf.nd rfl (Or.inl rfl) (pe_op (k_add K) (pv 7) (pe_lst (pa_cons (pe_tup (pa_cons pe_str (pa_cons (pv 6) pa_nil))) (pa_cons (pe_tup (pa_cons pe_str pa_nil)) pa_nil))))) (pss_cons (ps_dput hU1 (pv 1) pe_str (pe_op (k_add K) (pe_dget hU1 (pv 1) pe_str (fun _ _ => rfl)) pe_int) rfl) (pss_cons (ps_set (i := 8) sc_L_leaf.nd rfl (Or.inl rfl) (pe_ifExp (pt_cmpR (k_eq K hU64) (pe_dget hU1 (pv 1) pe_str (fun _ _ => rfl)) (pe_dget hU1 (pv 1) pe_str (fun _ _ => rfl)) (nomark _)) (pe_dget hU1 (pv 1) pe_str (fun _ _ => rfl)) pe_int)) (pss_one (ps_ret (pe_ix (k_ix K) (pv 7) (pe_op op_mod (pe_op (k_add K) (pe_call G_L_next hr_L_next rfl T.g_L_next T.k_L_next T.b_L_next .nil pass0 (pa_cons (pv 0) (pa_cons pe_int pa_nil))) (pv 8)) pe_int) (fun _ _ => rfl)))))))))))), ?_⟩
    refine ⟨_, rfl, _, rfl, g, W, n, l, dd, sn, rfl, hd, by omega, hw, fun x1 H1 f1 hd1' hx1 => ?_⟩
    have w1 := hw.dr hd ne f1
    refine ⟨_, rfl, _, rfl, W.d, _, rfl, dg w1.1 rfl, g, .ref W.al, _, W.acts.length, rfl, hd1', by omega, .inl ⟨_, SqL.of w1.2.2.2.1, by simp⟩, List.length_pos_iff.mpr hw.2.2.2.2.some, by have := hw.2.2.2.2.few; omega, fun i2 H2 f2 hd2 a0 a1 => ?_⟩
    have w2 := w1.dr hd1' ne f2
    refine pickOf (SqL.of w2.2.2.2.1) a0 (by simpa using a1) fun x hx => ?_
    obtain ⟨ac, hac, rfl⟩ := List.mem_map.mp hx
    refine ⟨_, _, rfl, _, rfl, _, rfl, W.d, _, rfl, dg w2.1 rfl, g, dd, _, rfl, hd2, by omega, by omega, by omega, fun i3 H3 f3 hd3 b0 b1 => .inl ⟨1, i3, rfl, rfl, ?_⟩⟩
    have w3 := w2.dr hd2 ne f3
    refine ⟨_, rfl, _, rfl, g, W, _, l, dd, sn, rfl, hd3, by omega, w3, fun x4 H4 f4 hd4 hx4 => ⟨_, _, rfl, ?_⟩⟩
    have w4 := w3.dr hd3 ne f4
    have wa := ok_act hw hac
    refine ⟨_, rfl, _, rfl, .inl ⟨rfl, _, rfl, ite2 (fun c => ?y) (fun c => ?n)⟩⟩
    case' y =>
      refine ⟨_, rfl, small (by simp), fun q hq => ?_⟩
      have s5 := Same.new (o := .tup [.str x1]) hq
      have hwt : DT K (upd H4 q (.tup [.str x1])) (.ref q) (.tuple ([x1].map pS)) := .tup (SqT.of upd_same) (.cons (.str _) .nil)
      have hb : St W.nm 1 (.breach [x1]) := .breach (by simp) (by simp) (by simp) (by simpa using hx1)
      generalize (upd H4 q (.tup [.str x1])) = H5 at s5 hwt ⊢
      generalize [x1] = whos at hwt hb
    case' n =>
      refine ⟨_, rfl, _, rfl, small (by simp), fun q hq => ?_⟩
      have nx : x1 ≠ x4 := fun z => c (decide_eq_true (by rw [z]))
      have s5 := Same.new (o := .tup [.str x1, .str x4]) hq
      have hwt : DT K (upd H4 q (.tup [.str x1, .str x4])) (.ref q) (.tuple ([x1, x4].map pS)) := .tup (SqT.of upd_same) (.cons (.str _) (.cons (.str _) .nil))
      have hb : St W.nm 1 (.breach [x1, x4]) := .breach (by simp) (by simp) (by simpa using nx) (by simpa using ⟨hx1, hx4⟩)
      generalize (upd H4 q (.tup [.str x1, .str x4])) = H5 at s5 hwt ⊢
      generalize [x1, x4] = whos at hwt hb
    all_goals
      refine ⟨_, rfl, _, rfl, _, rfl, small (by simp), fun t1 ht1 => ⟨_, rfl, _, rfl, _, rfl, small (by simp), fun t2 ht2 => ⟨small (by simp), fun l1 hl1 => ?_⟩⟩⟩
      have k1 : 1 ≤ 1 + i3 := by omega
      have k30 : 1 + i3 ≤ 30 := by omega
      have s6 : Same H5 (upd H5 t1 (.tup [.str "must", .str x1, .str ac, .int (1 + i3), .non])) := Same.new ht1
      have m1 : DT K (upd H5 t1 (.tup [.str "must", .str x1, .str ac, .int (1 + i3), .non])) (.ref t1) (Tm.duty true x1 ac (1 + i3)).d := .tup (SqT.of upd_same) (.cons (.str _) (.cons (.str _) (.cons (.str _) (.cons (.int _) (.cons .non .nil)))))
      generalize (upd H5 t1 (.tup [.str "must", .str x1, .str ac, .int (1 + i3), .non])) = H6 at s6 m1 ht2 hl1 ⊢
      have s7 : Same H6 (upd H6 t2 (.tup [.str "ban", .str x1, .str ac, .int (1 + i3), .non])) := Same.new ht2
      have m2 : DT K (upd H6 t2 (.tup [.str "ban", .str x1, .str ac, .int (1 + i3), .non])) (.ref t2) (Tm.duty false x1 ac (1 + i3)).d := .tup (SqT.of upd_same) (.cons (.str _) (.cons (.str _) (.cons (.str _) (.cons (.int _) (.cons .non .nil)))))
      generalize (upd H6 t2 (.tup [.str "ban", .str x1, .str ac, .int (1 + i3), .non])) = H7 at s7 m2 hl1 ⊢
      have s8 : Same H7 (upd H7 l1 (.lst [.ref t1, .ref t2])) := Same.new hl1
      have e8 : (upd H7 l1 (.lst [.ref t1, .ref t2])) l1 = some (.lst [.ref t1, .ref t2]) := upd_same
      generalize (upd H7 l1 (.lst [.ref t1, .ref t2])) = H8 at s8 e8 ⊢
      refine ⟨_, rfl, _, rfl, _, rfl, _, rfl, small (by simp), fun t3 ht3 => ?_⟩
      have s9 : Same H8 (upd H8 t3 (.tup [.str "may", .str x1, .str ac, .int (1 + i3)])) := Same.new ht3
      have m3 : DT K (upd H8 t3 (.tup [.str "may", .str x1, .str ac, .int (1 + i3)])) (.ref t3) (Tm.may x1 ac (1 + i3)).d := .tup (SqT.of upd_same) (.cons (.str _) (.cons (.str _) (.cons (.str _) (.cons (.int _) .nil))))
      generalize (upd H8 t3 (.tup [.str "may", .str x1, .str ac, .int (1 + i3)])) = H9 at s9 m3 ⊢
      refine ⟨_, rfl, small (by simp), fun t4 ht4 => ?_⟩
      have s10 : Same H9 (upd H9 t4 (.tup [.str "wait", .int (1 + i3)])) := Same.new ht4
      have m4 : DT K (upd H9 t4 (.tup [.str "wait", .int (1 + i3)])) (.ref t4) (Tm.wait (1 + i3)).d := .tup (SqT.of upd_same) (.cons (.str _) (.cons (.int _) .nil))
      generalize (upd H9 t4 (.tup [.str "wait", .int (1 + i3)])) = H10 at s10 m4 ⊢
      have e10 := s10 _ _ (s9 _ _ e8)
      refine ⟨_, rfl, .inl ⟨l1, _, 0, _, rfl, rfl, SqL.of e10, at0, small (by simp), fun l2 hl2 => catL ((Same.new hl2) _ _ e10) upd_same (by simp) fun l3 hl3 => ?_⟩⟩
      have s11 : Same H10 (upd (upd H10 l2 (.lst [.ref t3, .ref t4, .ref t1])) l3 (.lst ([.ref t1, .ref t2] ++ [.ref t3, .ref t4, .ref t1]))) := (Same.new hl2).trans (Same.new hl3)
      have e11 : (upd (upd H10 l2 (.lst [.ref t3, .ref t4, .ref t1])) l3 (.lst ([.ref t1, .ref t2] ++ [.ref t3, .ref t4, .ref t1]))) l3 = some (.lst [.ref t1, .ref t2, .ref t3, .ref t4, .ref t1]) := upd_same
      generalize (upd (upd H10 l2 (.lst [.ref t3, .ref t4, .ref t1])) l3 (.lst ([.ref t1, .ref t2] ++ [.ref t3, .ref t4, .ref t1]))) = H11 at s11 e11 ⊢
      refine ⟨_, rfl, _, rfl, small (by simp), fun t5 ht5 => ?_⟩
      have s12 : Same H11 (upd H11 t5 (.tup [.str "breach", .ref q])) := Same.new ht5
      have hwt' := (s6.trans (s7.trans (s8.trans (s9.trans (s10.trans (s11.trans s12)))))).dt hwt
      have m5 : DT K (upd H11 t5 (.tup [.str "breach", .ref q])) (.ref t5) (Tm.breach whos).d := .tup (SqT.of upd_same) (.cons (.str _) (.cons hwt' .nil))
      generalize (upd H11 t5 (.tup [.str "breach", .ref q])) = H12 at s12 m5 ⊢
      refine ⟨small (by simp), fun t6 ht6 => ?_⟩
      have s13 : Same H12 (upd H12 t6 (.tup [.str "done"])) := Same.new ht6
      have m6 : DT K (upd H12 t6 (.tup [.str "done"])) (.ref t6) Tm.done.d := .tup (SqT.of upd_same) (.cons (.str _) .nil)
      generalize (upd H12 t6 (.tup [.str "done"])) = H13 at s13 m6 ⊢
      refine ⟨small (by simp), fun l4 hl4 => catL ((Same.new hl4) _ _ (s13 _ _ (s12 _ _ e11))) upd_same (by simp) fun l5 hl5 => ?_⟩
      have s14 : Same H13 (upd (upd H13 l4 (.lst [.ref t5, .ref t6])) l5 (.lst ([.ref t1, .ref t2, .ref t3, .ref t4, .ref t1] ++ [.ref t5, .ref t6]))) := (Same.new hl4).trans (Same.new hl5)
      have e14 : (upd (upd H13 l4 (.lst [.ref t5, .ref t6])) l5 (.lst ([.ref t1, .ref t2, .ref t3, .ref t4, .ref t1] ++ [.ref t5, .ref t6]))) l5 = some (.lst [.ref t1, .ref t2, .ref t3, .ref t4, .ref t1, .ref t5, .ref t6]) := upd_same
      generalize (upd (upd H13 l4 (.lst [.ref t5, .ref t6])) l5 (.lst ([.ref t1, .ref t2, .ref t3, .ref t4, .ref t1] ++ [.ref t5, .ref t6]))) = H14 at s14 e14 ⊢
      have all : ∀ v ∈ [V.ref t1, .ref t2, .ref t3, .ref t4, .ref t1, .ref t5, .ref t6], ∃ t : Tm, DT K H14 v t.d ∧ St W.nm 1 t ∧ t.parts = 1 := by
        have n1 := (s7.trans (s8.trans (s9.trans (s10.trans (s11.trans (s12.trans (s13.trans s14))))))).dt m1
        have n2 := (s8.trans (s9.trans (s10.trans (s11.trans (s12.trans (s13.trans s14)))))).dt m2
        have n3 := (s10.trans (s11.trans (s12.trans (s13.trans s14)))).dt m3
        have n4 := (s11.trans (s12.trans (s13.trans s14))).dt m4
        have n5 := (s13.trans s14).dt m5
        have n6 := s14.dt m6
        intro v hv
        simp only [List.mem_cons, List.not_mem_nil, or_false] at hv
        rcases hv with rfl | rfl | rfl | rfl | rfl | rfl | rfl
        · exact ⟨_, n1, .duty hx1 wa k1 k30, by simp [Tm.parts]⟩
        · exact ⟨_, n2, .duty hx1 wa k1 k30, by simp [Tm.parts]⟩
        · exact ⟨_, n3, .may hx1 wa k1 k30, by simp [Tm.parts]⟩
        · exact ⟨_, n4, .wait k1 k30, by simp [Tm.parts]⟩
        · exact ⟨_, n1, .duty hx1 wa k1 k30, by simp [Tm.parts]⟩
        · exact ⟨_, n5, hb, by simp [Tm.parts]⟩
        · exact ⟨_, n6, .done, by simp [Tm.parts]⟩
      have sa : Same H4 H14 := s5.trans (s6.trans (s7.trans (s8.trans (s9.trans (s10.trans (s11.trans (s12.trans (s13.trans s14))))))))
      have w14 := sa.world w4
      have d14 := sa.draw hd4
      have f14 : Fr [g.d] H H14 := ((f1.trans f2).trans (f3.trans f4)).trans sa.fr
      refine ⟨_, rfl, W.d, _, rfl, dg w14.1 rfl, .inl ⟨sn, 1, rfl, rfl, _, rfl, W.d, _, rfl, dp w14.1 (by simp [worldF]), ?_⟩⟩
      have e15 : (upd H14 W.d (.dK (putK (worldF W l dd sn) (.inr "seen") (.int (sn + 1))))) W.d = some (.dK (worldF W l dd (sn + 1))) := upd_same
      have f15 : Fr [W.d] H14 (upd H14 W.d (.dK (putK (worldF W l dd sn) (.inr "seen") (.int (sn + 1))))) := Fr.upd in1
      have k15 := kp1 f15 w14.ng
      have d15 : DrawAt (upd H14 W.d (.dK (putK (worldF W l dd sn) (.inr "seen") (.int (sn + 1))))) g (n + 4) := d14.stay f15 (by simpa using Ne.symm ne) (by
        obtain ⟨_, _, _, _, _, h2, _⟩ := d14
        have h1 := w14.1
        simp only [List.mem_singleton]
        exact fun z => by rw [z, h1] at h2; cases h2)
      generalize (upd H14 W.d (.dK (putK (worldF W l dd sn) (.inr "seen") (.int (sn + 1))))) = H15 at e15 f15 k15 d15 ⊢
      have w15 := w14.kp k15 e15
      have l15 : ∀ H16, Fr [g.d] H15 H16 → H16 l5 = some (.lst [.ref t1, .ref t2, .ref t3, .ref t4, .ref t1, .ref t5, .ref t6]) := fun H16 f => (d15.kp f) _ _ (k15 _ _ e14 trivial) trivial
      have fin : ∀ H16, Fr [g.d] H15 H16 → DrawAt H16 g (n + 4 + 1) → ∀ v ∈ [V.ref t1, .ref t2, .ref t3, .ref t4, .ref t1, .ref t5, .ref t6], Q v H16 := fun H16 f d16 v hv => by
        obtain ⟨t, h1, h2, h3⟩ := all v hv
        refine k v t (sn + 1) H16 (((f14.mono (by simp)).trans (f15.mono (by simp))).trans (f.mono (by simp))) d16 (w15.kp (d15.kp f) (f _ _ (by simpa using ne) e15)) (((d15.kp f).kt).dt (k15.kt.dt h1)) h2 h3
      refine ⟨_, rfl, W.d, _, rfl, dg e15 rfl, _, rfl, W.d, _, rfl, dg e15 rfl, .inl ⟨rfl, _, rfl, ite2 (fun c => ⟨_, rfl, W.d, _, rfl, dg e15 rfl, ?_⟩) (fun c => ?_)⟩⟩
      all_goals
        refine ⟨_, rfl, _, rfl, g, 7, _, rfl, d15, by omega, by omega, by omega, fun i16 H16 f16 d16 z0 z1 => ⟨_, rfl, .inl ⟨i16, _, rfl, rfl, _, 7, rfl, rfl, by omega, ?_⟩⟩⟩
        exact pickOf (SqL.of (l15 H16 f16)) (Int.emod_nonneg _ (by omega)) (Int.emod_lt_of_pos _ (by decide)) (fin H16 f16 d16)
end
end DD
namespace DD
open PySem PySem.Spec
open PyProof.Rows L2
section
variable {base : Heap} {mg : Str → Option Value} {K : PySem.W.Frag} {w : World} {P : Program}
theorem te_hdY {σ : L2.St} {H : Hp} {i : Nat} {a : Addr} {z : Str} {r : List V} {Q : VK} (hσ : σ[i]? = some (some (.ref a))) (hS : SqT K H a (.str z :: r)) (q : Q (.bl true) H) : tOp (uEq K) (tOp (rIx K) (tVar i) (tC (.int 0))) (tC (.str z)) σ H Q :=
  hd_at hσ hS (.inl ⟨rfl, by rw [decide_eq_true (rfl : V.str z = V.str z)]; exact q⟩)
theorem te_hdN {σ : L2.St} {H : Hp} {i : Nat} {a : Addr} {h z : Str} {r : List V} {Q : VK} (hσ : σ[i]? = some (some (.ref a))) (hS : SqT K H a (.str h :: r)) (ne : ¬ h = z) (q : Q (.bl false) H) : tOp (uEq K) (tOp (rIx K) (tVar i) (tC (.int 0))) (tC (.str z)) σ H Q :=
  hd_at hσ hS (.inl ⟨rfl, by rw [decide_eq_false fun e => ne (V.str.inj e)]; exact q⟩)
/-- what a filter leaves -/
theorem flt_nil {ks : List Tm} {us : List V} {p : Tm → Bool} {os : List (Option V)} (hl : os.length = ks.length) (h : ∀ (i : Nat) o, os[i]? = some o → ∃ t x, ks[i]? = some t ∧ us[i]? = some x ∧ o = if p t then some x else none) : (os.filterMap id).isEmpty = !ks.any p := by
  cases hb : ks.any p with
  | false =>
    have e : os.filterMap id = [] := by
      rw [List.filterMap_eq_nil_iff]
      intro o ho
      obtain ⟨i, hi⟩ := List.getElem?_of_mem ho
      obtain ⟨t, x, h1, h2, h3⟩ := h i o hi
      have : p t = false := by simpa using (List.any_eq_false.mp hb) t (List.mem_of_getElem? h1)
      rw [h3, this]; rfl
    rw [e]; rfl
  | true =>
    obtain ⟨t, ht, hp⟩ := List.any_eq_true.mp hb
    obtain ⟨i, hi⟩ := List.getElem?_of_mem ht
    have hlt : i < os.length := by rw [hl]; exact (List.getElem?_eq_some_iff.mp hi).1
    obtain ⟨t', x, h1, h2, h3⟩ := h i os[i] (List.getElem?_eq_getElem hlt)
    rw [hi] at h1; cases h1
    have hm : x ∈ os.filterMap id := List.mem_filterMap.mpr ⟨os[i], List.getElem_mem hlt, by rw [h3, hp]; rfl⟩
    cases e : os.filterMap id with
    | nil => rw [e] at hm; cases hm
    | cons y r => rfl
theorem flt_fd {H : Hp} {nm : List Str} {n : Nat} {ks : List Tm} {us : List V} {p : Tm → Bool} {os : List (Option V)} (hU : DTs K H us (ks.map Tm.d)) (hst : ∀ t ∈ ks, St nm n t) (hn : n ≤ 20)
    (h : ∀ (i : Nat) o, os[i]? = some o → ∃ t x, ks[i]? = some t ∧ us[i]? = some x ∧ o = if p t then some x else none) : ∀ v ∈ os.filterMap id, Fd K H v := fun v hv => by
  obtain ⟨o, ho, e⟩ := List.mem_filterMap.mp hv
  obtain ⟨i, hi⟩ := List.getElem?_of_mem ho
  obtain ⟨t, x, h1, h2, h3⟩ := h i o hi
  have e' : o = some v := e
  rw [e'] at h3
  split at h3
  · cases h3
    obtain ⟨t', h4, h5⟩ := kid_at hU h2
    rw [h1] at h4; cases h4
    exact ⟨_, h5, ((hst t (List.mem_of_getElem? h1)).tx.fit).mono (by omega)⟩
  · cases h3
/-! ### does a drawn term begin done -/
def sp_L_starts_done (K : PySem.W.Frag) (n : Nat) : Sp := fun vs H Q _ => ∃ (v : V) (t : Tm) (nm : List Str), vs = [v] ∧ DT K H v t.d ∧ St nm n t ∧ n ≤ 20 ∧ ∀ H', Same H H' → Q (.bl t.bd) H'
theorem ok_L_starts_done (T : Txt w K mg) : ∀ n, FnOk P w K mg base CX0 (n + 2) (a_L_starts_done K) (fdOf K (a_L_starts_done K)) ps_L_starts_done (sp_L_starts_done K n) := by
  intro n
  induction n with
  | zero =>
    refine ok0 T.f_L_starts_done sc_L_starts_done (fun vs H Q E h => ?_) (fun cdv A outer s H vs Q E hr h => ?_)
    · obtain ⟨v, t, _, rfl, _⟩ := h; rfl
    · obtain ⟨v, t, nm, rfl, hD, hst, _, k⟩ := h
      cases hst
  | succ n ih =>
    have G_L_starts_done := ih
    refine ok0 T.f_L_starts_done sc_L_starts_done (fun vs H Q E h => ?_) (fun cdv A outer s H vs Q E hr h => ?_)
    · obtain ⟨v, t, _, rfl, _⟩ := h; rfl
    · obtain ⟨v, t, nm, rfl, hD, hst, hn, k⟩ := h
      have hU64 := hr.units
      have hr_L_starts_done := hr
      refine ⟨_, (pss_cons (ps_if (pt_cmpR (k_in K) (pe_ix (k_ix K) (pv 0) pe_int (fun _ _ => rfl)) (pe_tup (pa_cons pe_str (pa_cons pe_str pa_nil))) (by rfl)) (pss_one (ps_ret (pe_cmpR (k_eq K hU64) (pe_lc (own := [("_law_k", 1)]) (by rfl) sc_L_starts_done.nd (k_piT K (pe_ix (k_ix K) (pv 0) pe_int (fun _ _ => rfl))) (blkOk_by (own := [("_law_k", 1)]) (N := N_L_starts_done) (sc := defScope s_L_starts_done) (by decide +kernel)) (fun _ _ _ _ _ => (pg_name (i := 1) sc_L_starts_done.nd rfl (Or.inl rfl) (Or.inr rfl))) (fun _ _ _ _ _ => (pts_one (pt_not (pt_val (pe_call G_L_starts_done hr_L_starts_done rfl T.g_L_starts_done T.k_L_starts_done T.b_L_starts_done .nil pass0 (pa_cons (pv 1) pa_nil)))))) (fun _ _ _ _ _ => (pv 1))) (pe_lst pa_nil) (nomark _)))) pss_nil) (pss_cons (ps_if (pt_cmpR (k_eq K hU64) (pe_ix (k_ix K) (pv 0) pe_int (fun _ _ => rfl)) pe_str (nomark _)) (pss_one (ps_ret (pe_cmpR (k_ne K hU64) (pe_lc (own := [("_law_k", 1)]) (by rfl) sc_L_starts_done.nd (k_piT K (pe_ix (k_ix K) (pv 0) pe_int (fun _ _ => rfl))) (blkOk_by (own := [("_law_k", 1)]) (N := N_L_starts_done) (sc := defScope s_L_starts_done) (by decide +kernel)) (fun _ _ _ _ _ => (pg_name (i := 1) sc_L_starts_done.nd rfl (Or.inl rfl) (Or.inr rfl))) (fun _ _ _ _ _ => (pts_one (pt_val (pe_call G_L_starts_done hr_L_starts_done rfl T.g_L_starts_done T.k_L_starts_done T.b_L_starts_done .nil pass0 (pa_cons (pv 1) pa_nil))))) (fun _ _ _ _ _ => (pv 1))) (pe_lst pa_nil) (nomark _)))) pss_nil) (pss_cons (ps_if (pt_cmpR (k_eq K hU64) (pe_ix (k_ix K) (pv 0) pe_int (fun _ _ => rfl)) pe_str (nomark _)) (pss_one (ps_ret (pe_call G_L_starts_done hr_L_starts_done rfl T.g_L_starts_done T.k_L_starts_done T.b_L_starts_done .nil pass0 (pa_cons (pe_ix (k_ix K) (pv 0) pe_int (fun _ _ => rfl)) pa_nil)))) pss_nil) (pss_one (ps_ret (pe_or (pe_cmpR (k_eq K hU64) (pe_ix (k_ix K) (pv 0) pe_int (fun _ _ => rfl)) pe_str (nomark _)) (pe_one (pe_and (pe_cmpR (k_eq K hU64) (pe_ix (k_ix K) (pv 0) pe_int (fun _ _ => rfl)) pe_str (nomark _)) (pe_one (pe_call G_L_starts_done hr_L_starts_done rfl T.g_L_starts_done T.k_L_starts_done T.b_L_starts_done .nil pass0 (pa_cons (pe_ix (k_ix K) (pv 0) pe_int (fun _ _ => rfl)) pa_nil))))))))))), ?_⟩
      have S := Same.refl H
      cases hst with
      | done =>
        obtain ⟨a, rfl, hS⟩ := tm_done hD
        refine tt_hinW (h := "done") (b := false) ["then", "and"] (by decide) rfl (S.tup hS) (by decide +kernel) (fun Hs1 ss1 => no (by decide) (tt_hdN (h := "done") rfl ((S.trans ss1).tup hS) (by decide +kernel) (no (by decide) (tt_hdN (h := "done") rfl ((S.trans ss1).tup hS) (by decide +kernel) (no (by decide) (?_))))))
        have S := (S.trans ss1)
        exact te_hdY rfl (S.tup hS) ⟨_, rfl, yes rfl (k _ S)⟩
      | breach =>
        obtain ⟨a, b, rfl, hS, hB⟩ := tm_breach hD
        refine tt_hinW (h := "breach") (b := false) ["then", "and"] (by decide) rfl (S.tup hS) (by decide +kernel) (fun Hs1 ss1 => no (by decide) (tt_hdN (h := "breach") rfl ((S.trans ss1).tup hS) (by decide +kernel) (no (by decide) (tt_hdN (h := "breach") rfl ((S.trans ss1).tup hS) (by decide +kernel) (no (by decide) (?_))))))
        have S := (S.trans ss1)
        exact te_hdN (h := "breach") rfl (S.tup hS) (by decide +kernel) ⟨_, rfl, no (by decide) (te_hdN (h := "breach") rfl (S.tup hS) (by decide +kernel) ⟨_, rfl, no (by decide) (k _ S)⟩)⟩
      | wait =>
        obtain ⟨a, rfl, hS⟩ := tm_wait hD
        refine tt_hinW (h := "wait") (b := false) ["then", "and"] (by decide) rfl (S.tup hS) (by decide +kernel) (fun Hs1 ss1 => no (by decide) (tt_hdN (h := "wait") rfl ((S.trans ss1).tup hS) (by decide +kernel) (no (by decide) (tt_hdN (h := "wait") rfl ((S.trans ss1).tup hS) (by decide +kernel) (no (by decide) (?_))))))
        have S := (S.trans ss1)
        exact te_hdN (h := "wait") rfl (S.tup hS) (by decide +kernel) ⟨_, rfl, no (by decide) (te_hdN (h := "wait") rfl (S.tup hS) (by decide +kernel) ⟨_, rfl, no (by decide) (k _ S)⟩)⟩
      | may =>
        obtain ⟨a, rfl, hS⟩ := tm_may hD
        refine tt_hinW (h := "may") (b := false) ["then", "and"] (by decide) rfl (S.tup hS) (by decide +kernel) (fun Hs1 ss1 => no (by decide) (tt_hdN (h := "may") rfl ((S.trans ss1).tup hS) (by decide +kernel) (no (by decide) (tt_hdN (h := "may") rfl ((S.trans ss1).tup hS) (by decide +kernel) (no (by decide) (?_))))))
        have S := (S.trans ss1)
        exact te_hdN (h := "may") rfl (S.tup hS) (by decide +kernel) ⟨_, rfl, no (by decide) (te_hdN (h := "may") rfl (S.tup hS) (by decide +kernel) ⟨_, rfl, no (by decide) (k _ S)⟩)⟩
      | @duty n b =>
        obtain ⟨a, rfl, hS⟩ := tm_duty hD
        refine tt_hinW (h := dutyS b) (b := false) ["then", "and"] (by decide) rfl (S.tup hS) (by cases b <;> decide +kernel) (fun Hs1 ss1 => no (by decide) (tt_hdN (h := dutyS b) rfl ((S.trans ss1).tup hS) (by cases b <;> decide +kernel) (no (by decide) (tt_hdN (h := dutyS b) rfl ((S.trans ss1).tup hS) (by cases b <;> decide +kernel) (no (by decide) (?_))))))
        have S := (S.trans ss1)
        exact te_hdN (h := dutyS b) rfl (S.tup hS) (by cases b <;> decide +kernel) ⟨_, rfl, no (by decide) (te_hdN (h := dutyS b) rfl (S.tup hS) (by cases b <;> decide +kernel) ⟨_, rfl, no (by decide) (k _ S)⟩)⟩
      | @dutyE n b =>
        obtain ⟨a, u, rfl, hS, hu⟩ := tm_dutyE hD
        refine tt_hinW (h := dutyS b) (b := false) ["then", "and"] (by decide) rfl (S.tup hS) (by cases b <;> decide +kernel) (fun Hs1 ss1 => no (by decide) (tt_hdN (h := dutyS b) rfl ((S.trans ss1).tup hS) (by cases b <;> decide +kernel) (no (by decide) (tt_hdN (h := dutyS b) rfl ((S.trans ss1).tup hS) (by cases b <;> decide +kernel) (no (by decide) (?_))))))
        have S := (S.trans ss1)
        exact te_hdN (h := dutyS b) rfl (S.tup hS) (by cases b <;> decide +kernel) ⟨_, rfl, no (by decide) (te_hdN (h := dutyS b) rfl (S.tup hS) (by cases b <;> decide +kernel) ⟨_, rfl, no (by decide) (k _ S)⟩)⟩
      | whn =>
        obtain ⟨a, u, rfl, hS, hu⟩ := tm_whn hD
        refine tt_hinW (h := "when") (b := false) ["then", "and"] (by decide) rfl (S.tup hS) (by decide +kernel) (fun Hs1 ss1 => no (by decide) (tt_hdN (h := "when") rfl ((S.trans ss1).tup hS) (by decide +kernel) (no (by decide) (tt_hdN (h := "when") rfl ((S.trans ss1).tup hS) (by decide +kernel) (no (by decide) (?_))))))
        have S := (S.trans ss1)
        exact te_hdN (h := "when") rfl (S.tup hS) (by decide +kernel) ⟨_, rfl, no (by decide) (te_hdN (h := "when") rfl (S.tup hS) (by decide +kernel) ⟨_, rfl, no (by decide) (k _ S)⟩)⟩
      | whnE =>
        obtain ⟨a, u, y, rfl, hS, hu, hy⟩ := tm_whnE hD
        refine tt_hinW (h := "when") (b := false) ["then", "and"] (by decide) rfl (S.tup hS) (by decide +kernel) (fun Hs1 ss1 => no (by decide) (tt_hdN (h := "when") rfl ((S.trans ss1).tup hS) (by decide +kernel) (no (by decide) (tt_hdN (h := "when") rfl ((S.trans ss1).tup hS) (by decide +kernel) (no (by decide) (?_))))))
        have S := (S.trans ss1)
        exact te_hdN (h := "when") rfl (S.tup hS) (by decide +kernel) ⟨_, rfl, no (by decide) (te_hdN (h := "when") rfl (S.tup hS) (by decide +kernel) ⟨_, rfl, no (by decide) (k _ S)⟩)⟩
      | ever =>
        obtain ⟨a, u, rfl, hS, hu⟩ := tm_ever hD
        refine tt_hinW (h := "forever") (b := false) ["then", "and"] (by decide) rfl (S.tup hS) (by decide +kernel) (fun Hs1 ss1 => no (by decide) (tt_hdN (h := "forever") rfl ((S.trans ss1).tup hS) (by decide +kernel) (no (by decide) (tt_hdN (h := "forever") rfl ((S.trans ss1).tup hS) (by decide +kernel) (no (by decide) (?_))))))
        have S := (S.trans ss1)
        exact te_hdN (h := "forever") rfl (S.tup hS) (by decide +kernel) ⟨_, rfl, no (by decide) (te_hdN (h := "forever") rfl (S.tup hS) (by decide +kernel) ⟨_, rfl, no (by decide) (k _ S)⟩)⟩
      | @grp n g ks h1 h2 hks =>
        obtain ⟨a, b, us, rfl, hS, hB, hU⟩ := tm_grp hD
        have hul := kids_len hU
        have lcN : ∀ {H1 : Hp} {D : Addr} {Q2 : Hp → Prop}, Same H H1 → H1 D = none → (∀ H2, Same H1 H2 → ∀ os : List (Option V), (∀ v ∈ os.filterMap id, Fd K H2 v) → (os.filterMap id).isEmpty = !ks.any (fun t => !t.bd) → SqL K H2 D (os.filterMap id) → Q2 H2) → _ := fun {H1 D Q2} s1 hD kk =>
          lc_g (σ := [some (.ref a), none]) (vs := [1]) (g := gName 1) (tt := tNot (tTest (tCall (sp_L_starts_done K n) [] E0 (tCons (tVar 1) tNil)))) (te := tVar 1) (H1 := H1) (D := D) (Qd := Q2) (walk_tup (xs := us)) (fun i o _ => ∃ t x, ks[i]? = some t ∧ us[i]? = some x ∧ o = if !t.bd then some x else none) (fun i o H H' _ h => h) hD (by omega) (fun H2 s2 => (s1.trans s2).tup hB)
            (by
              rintro i x H2 H3 Kt Kf hi s2 ⟨rfl, e⟩ k2 k3
              obtain ⟨t, ht, hd⟩ := kid_at ((s1.trans s2).dts hU) e
              refine ⟨rfl, _, rfl, x, t, nm, rfl, hd, hks t (List.mem_of_getElem? ht), by omega, fun H4 s4 => ⟨_, rfl, ?_⟩⟩
              cases hb : t.bd with
              | true => exact k3 _ s4 ⟨t, x, ht, e, by rw [hb]; rfl⟩
              | false => exact ⟨_, rfl, k2 _ _ s4 ⟨t, x, ht, e, by rw [hb]; rfl⟩⟩)
            (fun os H2 s2 hl ho hD2 => kk H2 s2 os (flt_fd ((s1.trans s2).dts hU) hks (by omega) ho) (flt_nil (by rw [hl, hul]) ho) (SqL.of hD2))
        have lcY : ∀ {H1 : Hp} {D : Addr} {Q2 : Hp → Prop}, Same H H1 → H1 D = none → (∀ H2, Same H1 H2 → ∀ os : List (Option V), (∀ v ∈ os.filterMap id, Fd K H2 v) → (os.filterMap id).isEmpty = !ks.any (fun t => t.bd) → SqL K H2 D (os.filterMap id) → Q2 H2) → _ := fun {H1 D Q2} s1 hD kk =>
          lc_g (σ := [some (.ref a), none]) (vs := [1]) (g := gName 1) (tt := tTest (tCall (sp_L_starts_done K n) [] E0 (tCons (tVar 1) tNil))) (te := tVar 1) (H1 := H1) (D := D) (Qd := Q2) (walk_tup (xs := us)) (fun i o _ => ∃ t x, ks[i]? = some t ∧ us[i]? = some x ∧ o = if t.bd then some x else none) (fun i o H H' _ h => h) hD (by omega) (fun H2 s2 => (s1.trans s2).tup hB)
            (by
              rintro i x H2 H3 Kt Kf hi s2 ⟨rfl, e⟩ k2 k3
              obtain ⟨t, ht, hd⟩ := kid_at ((s1.trans s2).dts hU) e
              refine ⟨rfl, _, rfl, x, t, nm, rfl, hd, hks t (List.mem_of_getElem? ht), by omega, fun H4 s4 => ⟨_, rfl, ?_⟩⟩
              cases hb : t.bd with
              | false => exact k3 _ s4 ⟨t, x, ht, e, by rw [hb]; rfl⟩
              | true => exact ⟨_, rfl, k2 _ _ s4 ⟨t, x, ht, e, by rw [hb]; rfl⟩⟩)
            (fun os H2 s2 hl ho hD2 => kk H2 s2 os (flt_fd ((s1.trans s2).dts hU) hks (by omega) ho) (flt_nil (by rw [hl, hul]) ho) (SqL.of hD2))
        have eA : ∀ l : List Tm, (!l.any fun t => !t.bd) = l.all Tm.bd := fun l => by induction l with
          | nil => rfl
          | cons t r ih => simp only [List.any_cons, List.all_cons, Bool.not_or, Bool.not_not, ih]
        cases g with
        | thn =>
          refine tt_hinW (h := "then") (b := true) ["then", "and"] (by decide) rfl (S.tup hS) (by decide +kernel) (fun Hs1 ss1 => yes rfl (?_))
          have S := (S.trans ss1)
          refine ixT rfl (S.tup hS) at1 ⟨b, rfl, ⟨_, S.tup hB⟩, fun D hD2 => ?_⟩
          refine lcN S hD2 fun H2 s2 os hfd he hl => eq_nil hl hfd fun H3 s3 => ?_
          rw [he, eA, ← bdAll_eq]
          exact k _ (S.trans (s2.trans s3))
        | and =>
          refine tt_hinW (h := "and") (b := true) ["then", "and"] (by decide) rfl (S.tup hS) (by decide +kernel) (fun Hs1 ss1 => yes rfl (?_))
          have S := (S.trans ss1)
          refine ixT rfl (S.tup hS) at1 ⟨b, rfl, ⟨_, S.tup hB⟩, fun D hD2 => ?_⟩
          refine lcN S hD2 fun H2 s2 os hfd he hl => eq_nil hl hfd fun H3 s3 => ?_
          rw [he, eA, ← bdAll_eq]
          exact k _ (S.trans (s2.trans s3))
        | or =>
          refine tt_hinW (h := "or") (b := false) ["then", "and"] (by decide) rfl (S.tup hS) (by decide +kernel) (fun Hs1 ss1 => no (by decide) (tt_hdY rfl ((S.trans ss1).tup hS) (yes rfl (?_))))
          have S := (S.trans ss1)
          refine ixT rfl (S.tup hS) at1 ⟨b, rfl, ⟨_, S.tup hB⟩, fun D hD2 => ?_⟩
          refine lcY S hD2 fun H2 s2 os hfd he hl => ne_nil hl hfd fun H3 s3 => ?_
          rw [he, Bool.not_not, ← bdAny_eq]
          exact k _ (S.trans (s2.trans s3))
      | til hp hw ha =>
        obtain ⟨a, u, rfl, hS, hu⟩ := tm_til hD
        refine tt_hinW (h := "until") (b := false) ["then", "and"] (by decide) rfl (S.tup hS) (by decide +kernel) (fun Hs1 ss1 => no (by decide) (tt_hdN (h := "until") rfl ((S.trans ss1).tup hS) (by decide +kernel) (no (by decide) (tt_hdY rfl ((S.trans ss1).tup hS) (yes rfl (?_))))))
        have S := (S.trans ss1)
        exact ixT rfl (S.tup hS) at1 ⟨u, _, nm, rfl, S.dt hu, hp, by omega, fun H3 S3 => k _ (S.trans S3)⟩
      | rep h1 h2 hp =>
        obtain ⟨a, u, rfl, hS, hu⟩ := tm_rep hD
        refine tt_hinW (h := "repeat") (b := false) ["then", "and"] (by decide) rfl (S.tup hS) (by decide +kernel) (fun Hs1 ss1 => no (by decide) (tt_hdN (h := "repeat") rfl ((S.trans ss1).tup hS) (by decide +kernel) (no (by decide) (tt_hdN (h := "repeat") rfl ((S.trans ss1).tup hS) (by decide +kernel) (no (by decide) (?_))))))
        have S := (S.trans ss1)
        refine te_hdN (h := "repeat") rfl (S.tup hS) (by decide +kernel) ⟨_, rfl, no (by decide) (te_hdY rfl (S.tup hS) ⟨_, rfl, yes rfl ?_⟩)⟩
        exact ixT rfl (S.tup hS) at2 ⟨u, _, nm, rfl, S.dt hu, hp, by omega, fun H3 S3 => k _ (S.trans S3)⟩
end
end DD
namespace DD
open PySem PySem.Spec
open PyProof.Rows L2
section
variable {base : Heap} {mg : Str → Option Value} {K : PySem.W.Frag} {w : World} {P : Program}
/-! ### a drawn term -/
theorem gw_kp {H H' : Hp} {g : Dw} {W : Ww} {n : Nat} {l dd sn : Int} (hd : DrawAt H g n) (hw : WorldAt K H W l dd sn) (f : Fr [g.d, W.d] H H') : Kp H H' := f.kp fun a ha => by
  rcases List.mem_cons.mp ha with e | e
  · rw [e]; exact hd.ng
  · rw [List.mem_singleton.mp e]; exact hw.ng
/-- the world's fields of ints change -/
theorem WorldAt.put {H : Hp} {g : Dw} {W : Ww} {n : Nat} {l dd sn l' dd' sn' : Int} (h : WorldAt K H W l dd sn) (hd : DrawAt H g n) (ne : W.d ≠ g.d) : WorldAt K (upd H W.d (.dK (worldF W l' dd' sn'))) W l' dd' sn' ∧ DrawAt (upd H W.d (.dK (worldF W l' dd' sn'))) g n ∧ Fr [W.d] H (upd H W.d (.dK (worldF W l' dd' sn'))) := by
  have f : Fr [W.d] H (upd H W.d (.dK (worldF W l' dd' sn'))) := Fr.upd in1
  refine ⟨h.kp (kp1 f h.ng) upd_same, hd.stay f (by simpa using Ne.symm ne) ?_, f⟩
  obtain ⟨_, _, _, _, _, h2, _⟩ := hd
  have h1 := h.1
  simp only [List.mem_singleton]
  exact fun z => by rw [z, h1] at h2; cases h2
theorem WorldAt.updL {H : Hp} {W : Ww} {l dd sn : Int} {kl : Addr} {xs ys : List V} (h : WorldAt K H W l dd sn) (e : H kl = some (.lst xs)) (na : W.al ≠ kl) : WorldAt K (upd H kl (.lst ys)) W l dd sn := by
  have k : KT H (upd H kl (.lst ys)) := KT.updL e
  obtain ⟨h1, h2, ⟨us, ⟨o, h3, h4⟩, h5⟩, h6, h7⟩ := h
  refine ⟨?_, k.tup h2, ⟨us, ⟨o, k _ _ h3 rfl, h4⟩, k.dts h5⟩, by rw [upd_ne na]; exact h6, h7⟩
  rw [upd_ne (fun z => by rw [z, e] at h1; cases h1)]; exact h1
theorem deepE (a b : V) (n : Nat) : [a, b, V.int (((n + 1 : Nat) : Int) - 1)] = [a, b, V.int (n : Nat)] := by rw [show ((n + 1 : Nat) : Int) - 1 = (n : Nat) by omega]
theorem grp_way {i : Int} (h0 : 0 ≤ i) (h1 : i < 4) : ∃ gr : Gr, atI [V.str "then", .str "and", .str "or", .str "then"] i = some (.str gr.str) := by
  obtain rfl | rfl | rfl | rfl : i = 0 ∨ i = 1 ∨ i = 2 ∨ i = 3 := by omega
  · exact ⟨.thn, at0⟩
  · exact ⟨.and, at1⟩
  · exact ⟨.or, at2⟩
  · exact ⟨.thn, at3⟩
theorem duty_way {i : Int} (h0 : 4 ≤ i) (h1 : i < 6) : ∃ b : Bool, atI [V.str "must", .str "ban"] (i - 4) = some (.str (dutyS b)) := by
  obtain rfl | rfl : i = 4 ∨ i = 5 := by omega
  · exact ⟨true, at0⟩
  · exact ⟨false, at1⟩
def sp_L_term (K : PySem.W.Frag) (n : Nat) : Sp := fun vs H Q _ => ∃ (g : Dw) (W : Ww) (m : Nat) (l dd sn : Int), vs = [.ref g.d, .ref W.d, .int ((n + 1 : Nat) : Int)] ∧ DrawAt H g m ∧ (m : Int) + 24 * max (l - 2) 0 + 8 < 80000000 ∧ WorldAt K H W l dd sn ∧ W.d ≠ g.d ∧ 1 ≤ dd ∧ dd ≤ 30 ∧ n ≤ 10 ∧
  ∀ v t l' sn' H', Fr [g.d, W.d] H H' → DrawAt H' g (m + 8 * t.parts) → WorldAt K H' W l' dd sn' → DT K H' v t.d → St W.nm (n + 1) t → (t.parts : Int) ≤ 1 + 3 * (max (l - 2) 0 - max (l' - 2) 0) → l' < l → Q v H'
theorem ok_L_term (T : Txt w K mg) : ∀ n, FnOk P w K mg base CX0 (n + 16) (a_L_term K) (fdOf K (a_L_term K)) ps_L_term (sp_L_term K n) := by
  have G_L_next := ok_L_next (P := P) (base := base) T
  have G_L_pick := ok_L_pick (P := P) (base := base) T
  have G_L_who := ok_L_who (P := P) (base := base) T
  have G_L_leaf := ok_L_leaf (P := P) (base := base) T
  intro n
  induction n with
  | zero =>
    have G_L_term : FnOk P w K mg base CX0 4 (a_L_term K) (fdOf K (a_L_term K)) ps_L_term (fun _ _ _ _ => False) := ⟨fun _ _ _ _ h => h.elim, fun _ _ _ _ _ _ _ _ _ _ _ _ _ h => h.elim⟩
    have G_L_starts_done := ok_L_starts_done (P := P) (base := base) T 0
    refine ok0 T.f_L_term sc_L_term (fun vs H Q E h => ?_) (fun cdv A outer s H vs Q E hr h => ?_)
    · obtain ⟨_, _, _, _, _, _, rfl, _⟩ := h; rfl
    · obtain ⟨g, W, m, l, dd, sn, rfl, hd, hm, hw, ne, hd1, hd30, hn, k⟩ := h
      have hr_L_next : Room 1 _ := hr.mono (by omega)
      have hr_L_pick : Room 2 _ := hr.mono (by omega)
      have hr_L_who : Room 3 _ := hr.mono (by omega)
      have hr_L_leaf : Room 4 _ := hr.mono (by omega)
      have hr_L_term : Room 4 _ := hr.mono (by omega)
      have hr_L_starts_done : Room 2 _ := hr.mono (by omega)
      have hU1 := hu_of hr
      have hU64 := hr.units
      refine ⟨_, (pss_cons (ps_dput hU1 (pv 1) pe_str (pe_op op_sub (pe_dget hU1 (pv 1) pe_str (fun _ _ => rfl)) pe_int) rfl) (pss_cons (ps_if (PW.pt (pw_or (pt_cmpR op_lt (pv 2) pe_int (nomark _)) (pw_or (pt_cmpR op_lt (pe_dget hU1 (pv 1) pe_str (fun _ _ => rfl)) pe_int (nomark _)) (pw_or1 (pt_cmpR (k_eq K hU64) (pe_call G_L_next hr_L_next rfl T.g_L_next T.k_L_next T.b_L_next .nil pass0 (pa_cons (pv 0) (pa_cons pe_int pa_nil))) pe_int (nomark _)))))) (pss_one (ps_ret (pe_call G_L_leaf hr_L_leaf rfl T.g_L_leaf T.k_L_leaf T.b_L_leaf .nil pass0 (pa_cons (pv 0) (pa_cons (pv 1) pa_nil))))) pss_nil) (pss_cons (ps_par (i := 3) (j := 4) (by rfl) sc_L_term.nd rfl rfl (by decide) rfl rfl (pa_cons (pe_call G_L_next hr_L_next rfl T.g_L_next T.k_L_next T.b_L_next .nil pass0 (pa_cons (pv 0) (pa_cons pe_int pa_nil))) (pa_cons (pe_call G_L_term hr_L_term rfl T.g_L_term T.k_L_term T.b_L_term .nil pass0 (pa_cons (pv 0) (pa_cons (pv 1) (pa_cons (pe_op op_sub (pv 2) pe_int) pa_nil)))) pa_nil)) (by rfl)) (pss_cons (ps_par (i := 5) (j := 6) (by rfl) sc_L_term.nd rfl rfl (by decide) rfl rfl (pa_cons (pe_call G_L_who hr_L_who rfl T.g_L_who T.k_L_who T.b_L_who .nil pass0 (pa_cons (pv 0) (pa_cons (pv 1) pa_nil))) (pa_cons (pe_call G_L_pick hr_L_pick rfl T.g_L_pick T.k_L_pick T.b_L_pick .nil pass0 (pa_cons (pv 0) (pa_cons (pe_dget hU1 (pv 1) pe_str (fun _ _ => rfl)) pa_nil))) pa_nil)) (by rfl)) (pss_cons (ps_set (i := 7) sc_L_term.nd rfl (Or.inl rfl) (pe_op (k_add K) pe_int (pe_call G_L_next hr_L_next rfl T.g_L_next T.k_L_next T.b_L_next .nil pass0 (pa_cons (pv 0) (pa_cons (pe_dget hU1 (pv 1) pe_str (fun _ _ => rfl)) pa_nil))))) (pss_cons (ps_if (pt_cmpR op_lt (pv 3) pe_int (nomark _)) (pss_cons (ps_set (i := 8) sc_L_term.nd rfl (Or.inl rfl) (pe_lst (pa_cons (pv 4) pa_nil))) (pss_cons (ps_for PassesOwn.never rfl (pi_range1 rfl T.n_range (pa_cons (pe_op (k_add K) pe_int (pe_call G_L_next hr_L_next rfl T.g_L_next T.k_L_next T.b_L_next .nil pass0 (pa_cons (pv 0) (pa_cons pe_int pa_nil)))) pa_nil)) (pg_name (i := 9) sc_L_term.nd rfl (Or.inl rfl) (Or.inl rfl)) (pss_one (ps_expr (k_bm K PySem.F.plainAttrs_list PySem.F.slot_list_append PySem.F.type_list_append mt_append (pv 8) (pa_cons (pe_call G_L_term hr_L_term rfl T.g_L_term T.k_L_term T.b_L_term .nil pass0 (pa_cons (pv 0) (pa_cons (pv 1) (pa_cons (pe_op op_sub (pv 2) pe_int) pa_nil)))) pa_nil))))) (pss_one (ps_ret (pe_tup (pa_cons (pe_ix (k_ix K) (pe_lst (pa_cons pe_str (pa_cons pe_str (pa_cons pe_str (pa_cons pe_str pa_nil))))) (pv 3) (fun _ _ => rfl)) (pa_cons (pe_callTy (k_tuple K) (by rfl) T.n_tuple (by decide +kernel) (pa_cons (pv 8) pa_nil)) pa_nil))))))) pss_nil) (pss_cons (ps_if (pt_cmpR op_lt (pv 3) pe_int (nomark _)) (pss_one (ps_ret (pe_tup (pa_cons (pe_ix (k_ix K) (pe_lst (pa_cons pe_str (pa_cons pe_str pa_nil))) (pe_op op_sub (pv 3) pe_int) (fun _ _ => rfl)) (pa_cons (pv 5) (pa_cons (pv 6) (pa_cons (pv 7) (pa_cons (pv 4) pa_nil)))))))) pss_nil) (pss_cons (ps_if (pt_cmpR (k_eq K hU64) (pv 3) pe_int (nomark _)) (pss_cons (ps_set (i := 10) sc_L_term.nd rfl (Or.inl rfl) pe_non) (pss_cons (ps_if (pt_cmpR (k_eq K hU64) (pe_call G_L_next hr_L_next rfl T.g_L_next T.k_L_next T.b_L_next .nil pass0 (pa_cons (pv 0) (pa_cons pe_int pa_nil))) pe_int (nomark _)) (pss_one (ps_set (i := 10) sc_L_term.nd rfl (Or.inl rfl) (pe_call G_L_term hr_L_term rfl T.g_L_term T.k_L_term T.b_L_term .nil pass0 (pa_cons (pv 0) (pa_cons (pv 1) (pa_cons (pe_op op_sub (pv 2) pe_int) pa_nil)))))) pss_nil) (pss_one (ps_ret (pe_tup (pa_cons pe_str (pa_cons (pv 5) (pa_cons (pv 6) (pa_cons (pv 7) (pa_cons (pv 4) (pa_cons (pv 10) pa_nil))))))))))) pss_nil) (pss_cons (ps_if (pt_cmpR (k_eq K hU64) (pv 3) pe_int (nomark _)) (pss_one (ps_ret (pe_tup (pa_cons pe_str (pa_cons (pv 4) (pa_cons (pv 5) (pa_cons (pv 6) pa_nil))))))) pss_nil) (pss_cons (ps_if (PW.pt (pw_or (pt_cmpR (k_eq K hU64) (pv 3) pe_int (nomark _)) (pw_or1 (pt_val (pe_call G_L_starts_done hr_L_starts_done rfl T.g_L_starts_done T.k_L_starts_done T.b_L_starts_done .nil pass0 (pa_cons (pv 4) pa_nil)))))) (pss_one (ps_ret (pe_tup (pa_cons pe_str (pa_cons (pe_op (k_add K) pe_int (pe_call G_L_next hr_L_next rfl T.g_L_next T.k_L_next T.b_L_next .nil pass0 (pa_cons (pv 0) (pa_cons pe_int pa_nil)))) (pa_cons (pv 4) pa_nil)))))) pss_nil) (pss_one (ps_ret (pe_tup (pa_cons pe_str (pa_cons (pv 4) pa_nil))))))))))))))), ?_⟩
      refine ⟨_, rfl, W.d, _, rfl, dg hw.1 rfl, l, 1, rfl, rfl, _, rfl, W.d, _, rfl, dp hw.1 (by simp [worldF]), ?_⟩
      obtain ⟨w1, d1, f1⟩ := hw.put (l' := l - 1) (dd' := dd) (sn' := sn) hd ne
      refine ⟨_, rfl, _, _, rfl, rfl, _, rfl, yes (by decide) (yes rfl ?_)⟩
      refine ⟨_, rfl, _, rfl, g, W, m, l - 1, dd, sn, rfl, d1, by omega, w1, ne, hd1, hd30, fun v t sn' H' f2 d2 w2 ht hst hp => ?_⟩
      exact k v t (l - 1) sn' H' ((f1.mono (by simp)).trans f2) (d2.mono (by omega)) w2 ht hst (by omega) (by omega)
  | succ n ih =>
    have G_L_term := ih
    have G_L_starts_done := ok_L_starts_done (P := P) (base := base) T (n + 1)
    refine ok0 T.f_L_term sc_L_term (fun vs H Q E h => ?_) (fun cdv A outer s H vs Q E hr h => ?_)
    · obtain ⟨_, _, _, _, _, _, rfl, _⟩ := h; rfl
    · obtain ⟨g, W, m, l, dd, sn, rfl, hd, hm, hw, ne, hd1, hd30, hn, k⟩ := h
      have hr_L_next : Room 1 _ := hr.mono (by omega)
      have hr_L_pick : Room 2 _ := hr.mono (by omega)
      have hr_L_who : Room 3 _ := hr.mono (by omega)
      have hr_L_leaf : Room 4 _ := hr.mono (by omega)
      have hr_L_term : Room (n + 16) _ := hr
      have hr_L_starts_done : Room (n + 1 + 2) _ := hr.mono (by omega)
      have hU1 := hu_of hr
      have hU64 := hr.units
      refine ⟨_, (pss_cons (ps_dput hU1 (pv 1) pe_str (pe_op op_sub (pe_dget hU1 (pv 1) pe_str (fun _ _ => rfl)) pe_int) rfl) (pss_cons (ps_if (PW.pt (pw_or (pt_cmpR op_lt (pv 2) pe_int (nomark _)) (pw_or (pt_cmpR op_lt (pe_dget hU1 (pv 1) pe_str (fun _ _ => rfl)) pe_int (nomark _)) (pw_or1 (pt_cmpR (k_eq K hU64) (pe_call G_L_next hr_L_next rfl T.g_L_next T.k_L_next T.b_L_next .nil pass0 (pa_cons (pv 0) (pa_cons pe_int pa_nil))) pe_int (nomark _)))))) (pss_one (ps_ret (pe_call G_L_leaf hr_L_leaf rfl T.g_L_leaf T.k_L_leaf T.b_L_leaf .nil pass0 (pa_cons (pv 0) (pa_cons (pv 1) pa_nil))))) pss_nil) (pss_cons (ps_par (i := 3) (j := 4) (by rfl) sc_L_term.nd rfl rfl (by decide) rfl rfl (pa_cons (pe_call G_L_next hr_L_next rfl T.g_L_next T.k_L_next T.b_L_next .nil pass0 (pa_cons (pv 0) (pa_cons pe_int pa_nil))) (pa_cons (pe_call G_L_term hr_L_term rfl T.g_L_term T.k_L_term T.b_L_term .nil pass0 (pa_cons (pv 0) (pa_cons (pv 1) (pa_cons (pe_op op_sub (pv 2) pe_int) pa_nil)))) pa_nil)) (by rfl)) (pss_cons (ps_par (i := 5) (j := 6) (by rfl) sc_L_term.nd rfl rfl (by decide) rfl rfl (pa_cons (pe_call G_L_who hr_L_who rfl T.g_L_who T.k_L_who T.b_L_who .nil pass0 (pa_cons (pv 0) (pa_cons (pv 1) pa_nil))) (pa_cons (pe_call G_L_pick hr_L_pick rfl T.g_L_pick T.k_L_pick T.b_L_pick .nil pass0 (pa_cons (pv 0) (pa_cons (pe_dget hU1 (pv 1) pe_str (fun _ _ => rfl)) pa_nil))) pa_nil)) (by rfl)) (pss_cons (ps_set (i := 7) sc_L_term.nd rfl (Or.inl rfl) (pe_op (k_add K) pe_int (pe_call G_L_next hr_L_next rfl T.g_L_next T.k_L_next T.b_L_next .nil pass0 (pa_cons (pv 0) (pa_cons (pe_dget hU1 (pv 1) pe_str (fun _ _ => rfl)) pa_nil))))) (pss_cons (ps_if (pt_cmpR op_lt (pv 3) pe_int (nomark _)) (pss_cons (ps_set (i := 8) sc_L_term.nd rfl (Or.inl rfl) (pe_lst (pa_cons (pv 4) pa_nil))) (pss_cons (ps_for PassesOwn.never rfl (pi_range1 rfl T.n_range (pa_cons (pe_op (k_add K) pe_int (pe_call G_L_next hr_L_next rfl T.g_L_next T.k_L_next T.b_L_next .nil pass0 (pa_cons (pv 0) (pa_cons pe_int pa_nil)))) pa_nil)) (pg_name (i := 9) sc_L_term.nd rfl (Or.inl rfl) (Or.inl rfl)) (pss_one (ps_expr (k_bm K PySem.F.plainAttrs_list PySem.F.slot_list_append PySem.F.type_list_append mt_append (pv 8) (pa_cons (pe_call G_L_term hr_L_term rfl T.g_L_term T.k_L_term T.b_L_term .nil pass0 (pa_cons (pv 0) (pa_cons (pv 1) (pa_cons (pe_op op_sub (pv 2) pe_int) pa_nil)))) pa_nil))))) (pss_one (ps_ret (pe_tup (pa_cons (pe_ix (k_ix K) (pe_lst (pa_cons pe_str (pa_cons pe_str (pa_cons pe_str (pa_cons pe_str pa_nil))))) (pv 3) (fun _ _ => rfl)) (pa_cons (pe_callTy (k_tuple K) (by rfl) T.n_tuple (by decide +kernel) (pa_cons (pv 8) pa_nil)) pa_nil))))))) pss_nil) (pss_cons (ps_if (pt_cmpR op_lt (pv 3) pe_int (nomark _)) (pss_one (ps_ret (pe_tup (pa_cons (pe_ix (k_ix K) (pe_lst (pa_cons pe_str (pa_cons pe_str pa_nil))) (pe_op op_sub (pv 3) pe_int) (fun _ _ => rfl)) (pa_cons (pv 5) (pa_cons (pv 6) (pa_cons (pv 7) (pa_cons (pv 4) pa_nil)))))))) pss_nil) (pss_cons (ps_if (pt_cmpR (k_eq K hU64) (pv 3) pe_int (nomark _)) (pss_cons (ps_set (i := 10) sc_L_term.nd rfl (Or.inl rfl) pe_non) (pss_cons (ps_if (pt_cmpR (k_eq K hU64) (pe_call G_L_next hr_L_next rfl T.g_L_next T.k_L_next T.b_L_next .nil pass0 (pa_cons (pv 0) (pa_cons pe_int pa_nil))) pe_int (nomark _)) (pss_one (ps_set (i := 10) sc_L_term.nd rfl (Or.inl rfl) (pe_call G_L_term hr_L_term rfl T.g_L_term T.k_L_term T.b_L_term .nil pass0 (pa_cons (pv 0) (pa_cons (pv 1) (pa_cons (pe_op op_sub (pv 2) pe_int) pa_nil)))))) pss_nil) (pss_one (ps_ret (pe_tup (pa_cons pe_str (pa_cons (pv 5) (pa_cons (pv 6) (pa_cons (pv 7) (pa_cons (pv 4) (pa_cons (pv 10) pa_nil))))))))))) pss_nil) (pss_cons (ps_if (pt_cmpR (k_eq K hU64) (pv 3) pe_int (nomark _)) (pss_one (ps_ret (pe_tup (pa_cons pe_str (pa_cons (pv 4) (pa_cons (pv 5) (pa_cons (pv 6) pa_nil))))))) pss_nil) (pss_cons (ps_if (PW.pt (pw_or (pt_cmpR (k_eq K hU64) (pv 3) pe_int (nomark _)) (pw_or1 (pt_val (pe_call G_L_starts_done hr_L_starts_done rfl T.g_L_starts_done T.k_L_starts_done T.b_L_starts_done .nil pass0 (pa_cons (pv 4) pa_nil)))))) (pss_one (ps_ret (pe_tup (pa_cons pe_str (pa_cons (pe_op (k_add K) pe_int (pe_call G_L_next hr_L_next rfl T.g_L_next T.k_L_next T.b_L_next .nil pass0 (pa_cons (pv 0) (pa_cons pe_int pa_nil)))) (pa_cons (pv 4) pa_nil)))))) pss_nil) (pss_one (ps_ret (pe_tup (pa_cons pe_str (pa_cons (pv 4) pa_nil))))))))))))))), ?_⟩
      refine ⟨_, rfl, W.d, _, rfl, dg hw.1 rfl, l, 1, rfl, rfl, _, rfl, W.d, _, rfl, dp hw.1 (by simp [worldF]), ?_⟩
      obtain ⟨w1, d1, f1⟩ := hw.put (l' := l - 1) (dd' := dd) (sn' := sn) hd ne
      have e1 : putK (worldF W l dd sn) (.inr "left") (.int (l - 1)) = worldF W (l - 1) dd sn := rfl
      rw [e1]
      generalize (upd H W.d (.dK (worldF W (l - 1) dd sn))) = H1 at w1 d1 f1 ⊢
      have leaf : ∀ (H2 : Hp) (m2 : Nat) (σ : L2.St), σ[0]? = some (some (.ref g.d)) → σ[1]? = some (some (.ref W.d)) → Fr [g.d, W.d] H H2 → DrawAt H2 g m2 → m2 ≤ m + 1 → WorldAt K H2 W (l - 1) dd sn → tCall (sp_L_leaf K) [] E0 (tCons (tVar 0) (tCons (tVar 1) tNil)) σ H2 Q := fun H2 m2 σ s0 s1 f2 d2 hm2 w2 =>
        ⟨_, s0, _, s1, g, W, m2, l - 1, dd, sn, rfl, d2, by omega, w2, ne, hd1, hd30, fun v t sn' H' f3 d3 w3 ht hst hp => k v t (l - 1) sn' H' (f2.trans f3) (d3.mono (by omega)) w3 ht (hst.mono (by omega)) (by omega) (by omega)⟩
      refine ⟨_, rfl, _, _, rfl, rfl, _, rfl, no (by simp; omega) ?_⟩
      refine ⟨_, rfl, W.d, _, rfl, dg w1.1 rfl, _, _, rfl, rfl, _, rfl, br (fun c1 => yes rfl (leaf H1 m _ rfl rfl (f1.mono (by simp)) d1 (by omega) w1)) (fun c1 => ?_)⟩
      refine ⟨_, rfl, g, 4, _, rfl, d1, by omega, by omega, by omega, fun i2 H2 f2 d2 _ _ => .inl ⟨rfl, _, rfl, ite2 (fun c2 => ?_) (fun c2 => ?_)⟩⟩
      · exact leaf H2 (m + 1) _ rfl rfl ((f1.mono (by simp)).trans (f2.mono (by simp))) d2 (by omega) (w1.dr d1 ne f2)
      have w2 := w1.dr d1 ne f2
      have F2 : Fr [g.d, W.d] H H2 := (f1.mono (by simp)).trans (f2.mono (by simp))
      refine ⟨_, rfl, g, 10, _, rfl, d2, by omega, by omega, by omega, fun way H3 f3 d3 y0 y1 => ?_⟩
      have w3 := w2.dr d2 ne f3
      refine ⟨_, rfl, _, rfl, _, rfl, _, _, rfl, rfl, g, W, _, l - 1, dd, sn, deepE _ _ _, d3, by omega, w3, ne, hd1, hd30, by omega, fun v1 t1 l1 sn1 H4 f4 d4 w4 ht1 hst1 hp1 hl1 => ⟨_, _, rfl, ?_⟩⟩
      have F4 : Fr [g.d, W.d] H H4 := (F2.trans (f3.mono (by simp))).trans f4
      refine ⟨_, rfl, _, rfl, g, W, _, l1, dd, sn1, rfl, d4, by omega, w4, fun x5 H5 f5 d5 hx5 => ?_⟩
      have w5 := w4.dr d4 ne f5
      refine ⟨_, rfl, _, rfl, W.d, _, rfl, dg w5.1 rfl, g, .ref W.al, _, W.acts.length, rfl, d5, by omega, .inl ⟨_, SqL.of w5.2.2.2.1, by simp⟩, List.length_pos_iff.mpr hw.2.2.2.2.some, by have := hw.2.2.2.2.few; omega, fun i6 H6 f6 d6 z0 z1 => ?_⟩
      have w6 := w5.dr d5 ne f6
      refine pickOf (SqL.of w6.2.2.2.1) z0 (by simpa using z1) fun x hx => ?_
      obtain ⟨ac, hac, rfl⟩ := List.mem_map.mp hx
      have wa := ok_act hw hac
      refine ⟨_, _, rfl, _, rfl, _, rfl, W.d, _, rfl, dg w6.1 rfl, g, dd, _, rfl, d6, by omega, by omega, by omega, fun i7 H7 f7 d7 b0 b1 => .inl ⟨1, i7, rfl, rfl, ?_⟩⟩
      have w7 := w6.dr d6 ne f7
      have F7 : Fr [g.d, W.d] H H7 := F4.trans (((f5.trans f6).trans f7).mono (by simp))
      have ht7 : DT K H7 v1 t1.d := ((d4.kp ((f5.trans f6).trans f7)).kt).dt ht1
      have h1 : 1 ≤ 1 + i7 := by omega
      have h30 : 1 + i7 ≤ 30 := by omega
      have fin : ∀ {v : V} {t : Tm} {H8 H9 : Hp} {l' sn' : Int} {m' : Nat}, Fr [g.d, W.d] H H8 → DrawAt H8 g m' → m' ≤ m + 8 * t.parts → WorldAt K H8 W l' dd sn' → Same H8 H9 → DT K H9 v t.d → St W.nm (n + 2) t → (t.parts : Int) ≤ 1 + 3 * (max (l - 2) 0 - max (l' - 2) 0) → l' < l → Q v H9 := fun {v t H8 H9 l' sn' m'} f d hm' w' s ht hst hp hl => k v t l' sn' H9 (f.trans s.fr) ((s.draw d).mono hm') (s.world w') ht hst hp hl
      refine ⟨_, rfl, _, _, rfl, rfl, _, rfl, br (fun c3 => ?grp) (fun c3 => ?_)⟩
      case grp =>
        refine ⟨_, rfl, small (by simp), fun kl hkl => ?_⟩
        have nk := d7.ne hkl
        have nkw : kl ≠ W.d := fun z => by rw [z, w7.1] at hkl; cases hkl
        have nal : W.al ≠ kl := fun z => by have q := w7.2.2.2.1; rw [z, hkl] at q; cases q
        have s8 := Same.new (o := .lst [v1]) hkl
        have e8 : (upd H7 kl (.lst [v1])) kl = some (.lst [v1]) := upd_same
        have F8 := F7.trans s8.fr
        have d8 := s8.draw d7
        have w8 := s8.world w7
        have ht8 := s8.dt ht7
        generalize (upd H7 kl (.lst [v1])) = H8 at s8 e8 F8 d8 w8 ht8 ⊢
        refine ⟨_, rfl, g, 2, _, rfl, d8, by omega, by omega, by omega, fun i9 H9 f9 d9 q0 q1 => .inl ⟨1, i9, rfl, rfl, _, rfl, by omega, by omega, ?_⟩⟩
        have hkH : H kl = none := by
          cases q : H kl with
          | none => rfl
          | some u => rw [F7 _ _ (by simp [nkw, Ne.symm nk.1]) q] at hkl; cases hkl
        refine for_it (walk_range (n := (1 + i9).toNat)) (fun i σ H' => ∃ (lv : List V) (ts : List Tm) (l' sn' : Int) (m' : Nat) (x9 : Option V), σ = [some (.ref g.d), some (.ref W.d), some (.int ((n + 1 + 1 : Nat) : Int)), some (.int way), some v1, some (.str x5), some (.str ac), some (.int (1 + i7)), some (.ref kl), x9, none] ∧ Fr [g.d, W.d] H H' ∧ DrawAt H' g m' ∧ m' ≤ m + 6 + 8 * partsAll ts ∧ WorldAt K H' W l' dd sn' ∧ H' kl = some (.lst lv) ∧ DTs K H' lv (ts.map Tm.d) ∧ ts.length = i + 1 ∧ (∀ t ∈ ts, St W.nm (n + 1) t) ∧ (partsAll ts : Int) ≤ i + 1 + 3 * (max (l - 1 - 2) 0 - max (l' - 2) 0) ∧ l' < l) ⟨[v1], [t1], l1, sn1, _, none, rfl, F8.trans (f9.mono (by simp)), d9, by simp [partsAll]; omega, w8.dr d8 ne f9, f9 _ _ (by simpa using Ne.symm nk.1) e8, .cons ((d8.kt f9).dt ht8) .nil, rfl, by simpa using hst1, by simp only [partsAll]; omega, by omega⟩ (fun _ _ _ _ _ => trivial) ?_ ?_
        · rintro i x σ Ha Hb hi ⟨lv, ts, l', sn', m', x9, rfl, Fa, da, hma, wa', ka, hta, hla, hsa, hpa, hll⟩ ⟨rfl, rfl⟩
          refine ⟨_, rfl, .inl ⟨rfl, _, SqL.of ka⟩, _, rfl, _, rfl, _, rfl, _, _, rfl, rfl, g, W, m', l', dd, sn', deepE _ _ _, da, by omega, wa', ne, hd1, hd30, by omega, fun v2 t2 l2 sn2 Hc fc dc wc htc hstc hpc hlc => ?_⟩
          have kc := fc kl _ (by simp [nkw, Ne.symm nk.1]) ka
          have lvl : lv.length = ts.length := by rw [dps_len hta, List.length_map]
          refine ⟨kl, _, _, rfl, rfl, kc, smallLt (by omega), lv ++ [v2], ts ++ [t2], l2, sn2, _, _, rfl, fun b u nb e => ?_, dc.stay (L := [kl]) (Fr.upd in1) (by simpa using nk.1) (by simpa using nk.2), by simp only [partsAll_append, partsAll]; omega, wc.updL kc nal, upd_same, ?_, by simp [hla], ?_, by simp only [partsAll_append, partsAll]; omega, by omega⟩
          · have q : b ≠ kl := fun z => by rw [z, hkH] at e; cases e
            rw [upd_ne q]
            exact fc _ _ nb (Fa _ _ nb e)
          · rw [List.map_append]
            exact (KT.updL kc).dts (dps_append ((gw_kp da wa' fc).kt.dts hta) (.cons htc .nil))
          · intro t ht
            rcases List.mem_append.mp ht with h | h
            · exact hsa t h
            · rw [List.mem_singleton.mp h]; exact hstc
        · rintro σ Ha ⟨lv, ts, l', sn', m', x9, rfl, Fa, da, hma, wa', ka, hta, hla, hsa, hpa, hll⟩
          obtain ⟨gr, hgr⟩ := grp_way y0 c3
          refine ⟨small (by simp), fun p hp => ⟨_, rfl, .inl ⟨p, _, way, _, rfl, rfl, SqL.of upd_same, hgr, ?_⟩⟩⟩
          have sp := Same.new (o := .lst [V.str "then", .str "and", .str "or", .str "then"]) hp
          refine ⟨_, rfl, kl, lv, rfl, .inl ⟨SqL.of (sp _ _ ka), fun q hq => ⟨small (by simp), fun r hr => ?_⟩⟩⟩
          have sq := Same.new (o := .tup lv) hq
          have sr := Same.new (o := .tup [.str gr.str, .ref q]) hr
          have s9 := sp.trans (sq.trans sr)
          have hda : DTs K _ lv (dAll ts) := dAll_map ts ▸ s9.dts hta
          exact fin Fa da (by simp only [Tm.parts]; omega) wa' s9 (t := .grp gr ts) (.tup (SqT.of upd_same) (.cons (.str _) (.cons (.tup (sr.tup (SqT.of upd_same)) hda) .nil))) (.grp (by omega) (by omega) hsa) (by simp only [Tm.parts]; omega) (by omega)
      refine ⟨_, rfl, _, _, rfl, rfl, _, rfl, br (fun c4 => ?duty) (fun c4 => ?_)⟩
      case duty =>
        obtain ⟨b, hb⟩ := duty_way (i := way) (by omega) c4
        refine ⟨small (by simp), fun p hp => ⟨_, rfl, way, 4, rfl, rfl, .inl ⟨p, _, way - 4, _, rfl, rfl, SqL.of upd_same, hb, ?_⟩⟩⟩
        refine ⟨_, rfl, _, rfl, _, rfl, _, rfl, small (by simp), fun q hq => ?_⟩
        have s8 := (Same.new (o := .lst [V.str "must", .str "ban"]) hp).trans (Same.new (o := .tup [.str (dutyS b), .str x5, .str ac, .int (1 + i7), v1]) hq)
        exact fin F7 d7 (by simp only [Tm.parts]; omega) w7 s8 (t := .dutyE b x5 ac (1 + i7) t1) (.tup (SqT.of upd_same) (.cons (.str _) (.cons (.str _) (.cons (.str _) (.cons (.int _) (.cons (s8.dt ht7) .nil)))))) (.dutyE hx5 wa h1 h30 hst1) (by simp only [Tm.parts]; omega) (by omega)
      refine ⟨_, rfl, .inl ⟨rfl, _, rfl, ite2 (fun c5 => ?whn) (fun c5 => ?_)⟩⟩
      case whn =>
        refine ⟨_, rfl, g, 2, _, rfl, d7, by omega, by omega, by omega, fun i8 H8 f8 d8 _ _ => .inl ⟨rfl, _, rfl, ite2 (fun c6 => ?_) (fun c6 => ?_)⟩⟩
        · refine ⟨_, rfl, _, rfl, _, rfl, _, _, rfl, rfl, g, W, _, l1, dd, sn1, deepE _ _ _, d8, by omega, w7.dr d7 ne f8, ne, hd1, hd30, by omega, fun v2 t2 l2 sn2 H9 f9 d9 w9 ht2 hst2 hp2 hl2 => ⟨_, rfl, _, rfl, _, rfl, _, rfl, _, rfl, small (by simp), fun q hq => ?_⟩⟩
          have w8 := w7.dr d7 ne f8
          have ht9 : DT K H9 v1 t1.d := (gw_kp d8 w8 f9).kt.dt ((d7.kt f8).dt ht7)
          have s10 := Same.new (o := .tup [.str "when", .str x5, .str ac, .int (1 + i7), v1, v2]) hq
          exact fin ((F7.trans (f8.mono (by simp))).trans f9) d9 (by simp only [Tm.parts]; omega) w9 s10 (t := .whnE x5 ac (1 + i7) t1 t2) (.tup (SqT.of upd_same) (.cons (.str _) (.cons (.str _) (.cons (.str _) (.cons (.int _) (.cons (s10.dt ht9) (.cons (s10.dt ht2) .nil))))))) (.whnE hx5 wa h1 h30 hst1 hst2) (by simp only [Tm.parts]; omega) (by omega)
        · refine ⟨_, rfl, _, rfl, _, rfl, _, rfl, _, rfl, small (by simp), fun q hq => ?_⟩
          have s10 := Same.new (o := .tup [.str "when", .str x5, .str ac, .int (1 + i7), v1, .non]) hq
          exact fin (F7.trans (f8.mono (by simp))) d8 (by simp only [Tm.parts]; omega) (w7.dr d7 ne f8) s10 (t := .whn x5 ac (1 + i7) t1) (.tup (SqT.of upd_same) (.cons (.str _) (.cons (.str _) (.cons (.str _) (.cons (.int _) (.cons (s10.dt ((d7.kt f8).dt ht7)) (.cons .non .nil))))))) (.whn hx5 wa h1 h30 hst1) (by simp only [Tm.parts]; omega) (by omega)
      refine ⟨_, rfl, .inl ⟨rfl, _, rfl, ite2 (fun c6 => ?til) (fun c6 => ?_)⟩⟩
      case til =>
        refine ⟨_, rfl, _, rfl, _, rfl, small (by simp), fun q hq => ?_⟩
        have s8 := Same.new (o := .tup [.str "until", v1, .str x5, .str ac]) hq
        exact fin F7 d7 (by simp only [Tm.parts]; omega) w7 s8 (t := .til t1 x5 ac) (.tup (SqT.of upd_same) (.cons (.str _) (.cons (s8.dt ht7) (.cons (.str _) (.cons (.str _) .nil))))) (.til hst1 hx5 wa) (by simp only [Tm.parts]; omega) (by omega)
      refine ⟨_, rfl, .inl ⟨rfl, _, rfl, ite2 (fun c7 => yes rfl ?_) (fun c7 => ⟨_, rfl, v1, t1, W.nm, rfl, ht7, hst1, by omega, fun H8 s8 => ⟨_, rfl, ite2 (fun c8 => ?_) (fun c8 => ?_)⟩⟩)⟩⟩
      · refine ⟨_, rfl, g, 3, _, rfl, d7, by omega, by omega, by omega, fun i8 H8 f8 d8 _ _ => .inl ⟨1, i8, rfl, rfl, _, rfl, small (by simp), fun q hq => ?_⟩⟩
        have s9 := Same.new (o := .tup [.str "repeat", .int (1 + i8), v1]) hq
        exact fin (F7.trans (f8.mono (by simp))) d8 (by simp only [Tm.parts]; omega) (w7.dr d7 ne f8) s9 (t := .rep (1 + i8) t1) (.tup (SqT.of upd_same) (.cons (.str _) (.cons (.int _) (.cons (s9.dt ((d7.kt f8).dt ht7)) .nil)))) (.rep (by omega) (by omega) hst1) (by simp only [Tm.parts]; omega) (by omega)
      · have d8 := s8.draw d7
        refine ⟨_, rfl, g, 3, _, rfl, d8, by omega, by omega, by omega, fun i8 H9 f9 d9 _ _ => .inl ⟨1, i8, rfl, rfl, _, rfl, small (by simp), fun q hq => ?_⟩⟩
        have s9 := Same.new (o := .tup [.str "repeat", .int (1 + i8), v1]) hq
        exact fin ((F7.trans s8.fr).trans (f9.mono (by simp))) d9 (by simp only [Tm.parts]; omega) ((s8.world w7).dr d8 ne f9) s9 (t := .rep (1 + i8) t1) (.tup (SqT.of upd_same) (.cons (.str _) (.cons (.int _) (.cons (s9.dt ((d8.kt f9).dt (s8.dt ht7))) .nil)))) (.rep (by omega) (by omega) hst1) (by simp only [Tm.parts]; omega) (by omega)
      · refine ⟨_, rfl, small (by simp), fun q hq => ?_⟩
        have s9 := s8.trans (Same.new (o := .tup [.str "forever", v1]) hq)
        exact fin F7 d7 (by simp only [Tm.parts]; omega) w7 s9 (t := .ever t1) (.tup (SqT.of upd_same) (.cons (.str _) (.cons (s9.dt ht7) .nil))) (.ever hst1 (by simpa using c8)) (by simp only [Tm.parts]; omega) (by omega)
end
end DD
namespace DD
open PySem PySem.Spec
open PyProof.Rows L2
section
variable {base : Heap} {mg : Str → Option Value} {K : PySem.W.Frag} {w : World} {P : Program}
/-! ### the words of all events -/
def EvsAt (K : PySem.W.Frag) (H : Hp) (pp rn : List Str) (a : Addr) (es : List Ev) : Prop := ∃ lv, H a = some (.lst lv) ∧ DTs K H lv (es.map Ev.d) ∧ ∀ e ∈ es, EvOk pp rn e
theorem Kp.evs {H H' : Hp} {pp rn : List Str} {a : Addr} {es : List Ev} (k : Kp H H') (h : EvsAt K H pp rn a es) : EvsAt K H' pp rn a es := let ⟨lv, h1, h2, h3⟩ := h; ⟨lv, k _ _ h1 trivial, k.kt.dts h2, h3⟩
theorem _root_.L2.Same.evs {H H' : Hp} {pp rn : List Str} {a : Addr} {es : List Ev} (s : Same H H') (h : EvsAt K H pp rn a es) : EvsAt K H' pp rn a es := s.kp.evs h
theorem ev_dt {H : Hp} {t : Addr} {e : Ev} (h : H t = some (.tup (e.ws.map V.str))) : DT K H (.ref t) e.d := .tup (SqT.of h) (dps_strs _)
theorem evs_push {H : Hp} {pp rn : List Str} {f t : Addr} {lv : List V} {es : List Ev} {e : Ev} (hf : H f = some (.lst lv)) (hd : DTs K H lv (es.map Ev.d)) (ho : ∀ e ∈ es, EvOk pp rn e) (ht : H t = none) (h : EvOk pp rn e) : EvsAt K (upd (upd H t (.tup (e.ws.map V.str))) f (.lst (lv ++ [.ref t]))) pp rn f (es ++ [e]) := by
  have s := Same.new (o := .tup (e.ws.map V.str)) ht
  have k : KT (upd H t (.tup (e.ws.map V.str))) (upd (upd H t (.tup (e.ws.map V.str))) f (.lst (lv ++ [.ref t]))) := KT.updL (s _ _ hf)
  refine ⟨_, upd_same, ?_, fun e' he => ?_⟩
  · rw [List.map_append]
    exact dps_append (k.dts (s.dts hd)) (.cons (k.dt (ev_dt upd_same)) .nil)
  · rcases List.mem_append.mp he with q | q
    · exact ho e' q
    · rw [List.mem_singleton.mp q]; exact h
theorem strs_at {xs : List Str} {i : Nat} {v : V} (h : (xs.map V.str)[i]? = some v) : ∃ x, xs[i]? = some x ∧ v = .str x := by
  rw [List.getElem?_map] at h
  cases e : xs[i]? with
  | none => (rw [e] at h; cases h)
  | some y => rw [e] at h; exact ⟨y, rfl, (Option.some.inj h).symm⟩
def Ww.rn (W : Ww) : List Str := W.rs.map Prod.fst
def sp_L_alphabet (K : PySem.W.Frag) : Sp := fun vs H Q _ => ∃ (W : Ww) (l dd sn : Int), vs = [.ref W.d] ∧ WorldAt K H W l dd sn ∧ ∀ a es H', Same H H' → EvsAt K H' W.pp W.rn a es → 1 ≤ es.length → es.length ≤ 40 → Q (.ref a) H'
theorem ok_L_alphabet (T : Txt w K mg) : FnOk P w K mg base CX0 1 (a_L_alphabet K) (fdOf K (a_L_alphabet K)) ps_L_alphabet (sp_L_alphabet K) := by
  refine ok0 T.f_L_alphabet sc_L_alphabet (fun vs H Q E h => ?_) (fun cdv A outer s H vs Q E hr h => ?_)
  · obtain ⟨_, _, _, _, rfl, _⟩ := h; rfl
  · obtain ⟨W, l, dd, sn, rfl, hw, k⟩ := h
    have hU1 := hu_of hr
    have hU64 := hr.units
    have ok := hw.2.2.2.2
    have hpl := ok.three
    have hal := ok.few
    refine ⟨_, (pss_cons (ps_par (i := 1) (j := 2) (by rfl) sc_L_alphabet.nd rfl rfl (by decide) rfl rfl (pa_cons (pe_callB cr_sortedS (by rfl) T.n_sorted (by decide +kernel) (pa_cons (pe_lc (own := [("_law_k", 7)]) (by rfl) sc_L_alphabet.nd (k_piT K (pe_dget hU1 (pv 0) pe_str (fun _ _ => rfl))) (blkOk_by (own := [("_law_k", 7)]) (N := N_L_alphabet) (sc := defScope s_L_alphabet) (by decide +kernel)) (fun _ _ _ _ _ => (pg_name (i := 7) sc_L_alphabet.nd rfl (Or.inl rfl) (Or.inr rfl))) (fun _ _ _ _ _ => pts_nil) (fun _ _ _ _ _ => (pe_callTy SkE.call_str_str (by rfl) T.n_str (by decide +kernel) (pa_cons (pv 7) pa_nil)))) pa_nil)) (pa_cons (pe_lst pa_nil) pa_nil)) (by rfl)) (pss_cons (ps_for PassesOwn.never rfl (k_piL K (pv 1)) (pg_name (i := 3) sc_L_alphabet.nd rfl (Or.inr rfl) (Or.inl rfl)) (pss_one (ps_for PassesOwn.never rfl (k_piL K (pe_callB (cr_sortSS rfl) (by rfl) T.n_sorted (by decide +kernel) (pa_cons (pe_callTy (cr_setS rfl) (by rfl) T.n_set (by decide +kernel) (pa_cons (pe_lc (own := [("_law_k", 7)]) (by rfl) sc_L_alphabet.nd (k_piL K (pe_dget hU1 (pv 0) pe_str (fun _ _ => rfl))) (blkOk_by (own := [("_law_k", 7)]) (N := N_L_alphabet) (sc := defScope s_L_alphabet) (by decide +kernel)) (fun _ _ _ _ _ => (pg_name (i := 7) sc_L_alphabet.nd rfl (Or.inl rfl) (Or.inr rfl))) (fun _ _ _ _ _ => pts_nil) (fun _ _ _ _ _ => (pe_callTy SkE.call_str_str (by rfl) T.n_str (by decide +kernel) (pa_cons (pv 7) pa_nil)))) pa_nil)) pa_nil))) (pg_name (i := 4) sc_L_alphabet.nd rfl (Or.inl rfl) (Or.inl rfl)) (pss_one (ps_expr (k_bm K PySem.F.plainAttrs_list PySem.F.slot_list_append PySem.F.type_list_append mt_append (pv 2) (pa_cons (pe_tup (pa_cons pe_str (pa_cons (pv 3) (pa_cons (pv 4) pa_nil)))) pa_nil))))))) (pss_cons (ps_for PassesOwn.never rfl (k_piL K (pv 1)) (pg_name (i := 3) sc_L_alphabet.nd rfl (Or.inr rfl) (Or.inl rfl)) (pss_one (ps_for PassesOwn.never rfl (k_piL K (pe_callB cr_sortedS (by rfl) T.n_sorted (by decide +kernel) (pa_cons (pe_lc (own := [("_law_pair", 8)]) (by rfl) sc_L_alphabet.nd (k_piT K (pe_dget hU1 (pv 0) pe_str (fun _ _ => rfl))) (blkOk_by (own := [("_law_pair", 8)]) (N := N_L_alphabet) (sc := defScope s_L_alphabet) (by decide +kernel)) (fun _ _ _ _ _ => (pg_name (i := 8) sc_L_alphabet.nd rfl (Or.inl rfl) (Or.inr rfl))) (fun _ _ _ _ _ => pts_nil) (fun _ _ _ _ _ => (pe_callTy SkE.call_str_str (by rfl) T.n_str (by decide +kernel) (pa_cons (pe_ix (k_ix K) (pv 8) pe_int (fun _ _ => rfl)) pa_nil)))) pa_nil))) (pg_name (i := 5) sc_L_alphabet.nd rfl (Or.inr rfl) (Or.inl rfl)) (pss_cons (ps_setLc (i := 6) (own := [("_law_k", 7)]) (by rfl) sc_L_alphabet.nd rfl rfl (sw_true rfl rfl rfl (by decide +kernel)) (k_piL K (pv 1)) (blkOk_by (own := [("_law_k", 7)]) (N := N_L_alphabet) (sc := defScope s_L_alphabet) (by decide +kernel)) (fun _ _ _ _ _ => (pg_name (i := 7) sc_L_alphabet.nd rfl (Or.inl rfl) (Or.inr rfl))) (fun _ _ _ _ _ => (pts_one (pt_cmpR (k_ne K hU64) (pv 7) (pv 3) (nomark _)))) (fun _ _ _ _ _ => (pv 7))) (pss_one (ps_set (i := 2) sc_L_alphabet.nd rfl (Or.inl rfl) (pe_op (k_add K) (pv 2) (pe_lc (own := [("_law_k", 7)]) (by rfl) sc_L_alphabet.nd (k_piL K (pv 6)) (blkOk_by (own := [("_law_k", 7)]) (N := N_L_alphabet) (sc := defScope s_L_alphabet) (by decide +kernel)) (fun _ _ _ _ _ => (pg_name (i := 7) sc_L_alphabet.nd rfl (Or.inl rfl) (Or.inr rfl))) (fun _ _ _ _ _ => pts_nil) (fun _ _ _ _ _ => (pe_tup (pa_cons pe_str (pa_cons (pv 3) (pa_cons (pv 5) (pa_cons (pv 7) pa_nil)))))))))))))) (pss_one (ps_ret (pe_op (k_add K) (pv 2) (pe_lst (pa_cons (pe_tup (pa_cons pe_str pa_nil)) pa_nil)))))))), ?_⟩
    refine ⟨_, rfl, W.d, _, rfl, dg hw.1 rfl, W.pt, rfl, ⟨_, hw.2.1⟩, fun D hD => ?_⟩
    refine lc_n (walk_tup (xs := W.pp.map V.str)) (fun i v _ => ∃ x, W.pp[i]? = some x ∧ v = .str x) (fun i o H H' _ h => h) hD (by simp; omega) (fun H5 s5 => s5.tup hw.2.1) ?_ ?_
    · rintro i v H5 H6 Kt hi s5 ⟨rfl, e⟩ kk
      obtain ⟨x, hx, rfl⟩ := strs_at e
      exact ⟨rfl, _, rfl, x, rfl, kk _ _ (Same.refl _) ⟨x, hx, rfl⟩⟩
    intro ys H1 s1 hl1 hy hD1
    have e : ys = W.pp.map V.str := map_of (f := V.str) (by simpa using hl1) hy
    subst e
    refine ⟨D, W.pp, rfl, SqL.of hD1, by omega, fun ys p1 pm _ hp1 => ⟨small (by simp), fun f hf => ⟨_, _, rfl, ?_⟩⟩⟩
    have hpm : ∀ y ∈ ys, y ∈ W.pp := fun y hy => pm.mem_iff.mp hy
    have hyl : ys.length ≤ 3 := by rw [pm.length_eq]; exact hpl
    have sp := Same.new (o := .lst (ys.map V.str)) hp1
    have s2 := s1.trans sp
    have s3 := s2.trans (Same.new (o := .lst []) hf)
    have nfp : p1 ≠ f := fun z => by rw [← z, upd_same] at hf; cases hf
    have hfH : H f = none := s2.free hf
    have p3 : (upd (upd H1 p1 (.lst (ys.map V.str))) f (.lst [])) p1 = some (.lst (ys.map V.str)) := by rw [upd_ne nfp, upd_same]
    have f3 : (upd (upd H1 p1 (.lst (ys.map V.str))) f (.lst [])) f = some (.lst []) := upd_same
    generalize (upd (upd H1 p1 (.lst (ys.map V.str))) f (.lst [])) = H3 at s3 p3 f3 ⊢
    refine ⟨_, rfl, p1, rfl, ⟨_, SqL.of p3⟩, ?_⟩
    refine for_it (walk_list (xs := ys.map V.str)) (fun i σ H' => ∃ x3 x4 es, σ = [some (.ref W.d), some (.ref p1), some (.ref f), x3, x4, none, none, none, none] ∧ Same H H' ∧ H' p1 = some (.lst (ys.map V.str)) ∧ EvsAt K H' W.pp W.rn f es ∧ es.length ≤ 3 * i) ⟨none, none, [], rfl, s3, p3, ⟨_, f3, .nil, by simp⟩, by simp⟩ (fun i σ H' _ ⟨_, _, _, _, _, p, _⟩ => SqL.of p) ?_ ?_
    · rintro i v σ Ha Hb hi ⟨x3, x4, es, rfl, sa, pa, ea, la⟩ ⟨rfl, hv⟩
      obtain ⟨who, hwho, rfl⟩ := strs_at hv
      have hwp := hpm who (List.mem_of_getElem? hwho)
      have wa := sa.world hw
      refine ⟨_, rfl, W.d, _, rfl, dg wa.1 rfl, W.al, rfl, ⟨_, SqL.of wa.2.2.2.1⟩, fun D2 hD2 => ?_⟩
      refine lc_n (walk_list (xs := W.acts.map V.str)) (fun i v _ => ∃ x, W.acts[i]? = some x ∧ v = .str x) (fun i o H H' _ h => h) hD2 (by simp; omega) (fun H5 s5 => SqL.of (s5 _ _ wa.2.2.2.1)) ?_ ?_
      · rintro j v H5 H6 Kt hj s5 ⟨rfl, e⟩ kk
        obtain ⟨x, hx, rfl⟩ := strs_at e
        exact ⟨rfl, _, rfl, x, rfl, kk _ _ (Same.refl _) ⟨x, hx, rfl⟩⟩
      intro zs H5 s5 hl5 hy5 hD5
      have e : zs = W.acts.map V.str := map_of (f := V.str) (by simpa using hl5) hy5
      subst e
      refine ⟨D2, W.acts, rfl, SqL.of hD5, by omega, fun a L ha nd hL => ⟨a, L, rfl, upd_same, fun zs q pm2 _ hq => ⟨q, rfl, ⟨_, SqL.of upd_same⟩, ?_⟩⟩⟩
      have hzl : zs.length ≤ 3 := by rw [pm2.length_eq]; exact Nat.le_trans (sub_len nd fun x hx => (hL x).mp hx) hal
      have hzm : ∀ z ∈ zs, z ∈ W.acts := fun z hz => (hL z).mp (pm2.mem_iff.mp hz)
      generalize SetSO _ _ a L = so at hq ⊢
      have s6 := (s5.trans (Same.new (o := so) ha)).trans (Same.new (o := .lst (zs.map V.str)) hq)
      have q6 : (upd (upd H5 a so) q (.lst (zs.map V.str))) q = some (.lst (zs.map V.str)) := upd_same
      have nqf : q ≠ f := fun z => by
        obtain ⟨lv, hlv, _⟩ := ea
        rw [z, (s5.trans (Same.new (o := so) ha)) _ _ hlv] at hq; cases hq
      generalize (upd (upd H5 a so) q (.lst (zs.map V.str))) = H6 at s6 q6 ⊢
      refine for_it (walk_list (xs := zs.map V.str)) (fun j σ H' => ∃ x4 es, σ = [some (.ref W.d), some (.ref p1), some (.ref f), some (.str who), x4, none, none, none, none] ∧ Same H H' ∧ H' p1 = some (.lst (ys.map V.str)) ∧ EvsAt K H' W.pp W.rn f es ∧ es.length ≤ 3 * i + j ∧ H' q = some (.lst (zs.map V.str))) ⟨x4, es, rfl, sa.trans s6, s6 _ _ pa, s6.evs ea, by omega, q6⟩ (fun j σ H' _ ⟨_, _, _, _, _, _, _, q⟩ => SqL.of q) ?_ ?_
      · rintro j v σ Hc Hd hj ⟨x4, es, rfl, sc, pc, ⟨lv, hlv, hdt, heo⟩, lc, qc⟩ ⟨rfl, hv⟩
        obtain ⟨ft, hft, rfl⟩ := strs_at hv
        have lvl : lv.length = es.length := by rw [dps_len hdt, List.length_map]
        have hil : i < 3 := by simp at hi; omega
        have hjl : j < 3 := by simp at hj; omega
        refine ⟨_, rfl, .inl ⟨rfl, _, SqL.of hlv⟩, _, rfl, _, rfl, small (by simp), fun t ht => ⟨f, _, _, rfl, rfl, (Same.new ht) _ _ hlv, smallLt (by omega), _, es ++ [Ev.act who ft], rfl, ?_, ?_, evs_push (e := .act who ft) hlv hdt heo ht ⟨hwp, ok.acts _ (hzm _ (List.mem_of_getElem? hft))⟩, by simp; omega, ?_⟩⟩
        · exact (sc.trans (Same.new ht)).upd hfH
        · rw [upd_ne nfp]; exact (Same.new ht) _ _ pc
        · rw [upd_ne nqf]; exact (Same.new ht) _ _ qc
      · rintro σ Hc ⟨x4, es, rfl, sc, pc, ec, lc, qc⟩
        exact ⟨_, _, es, rfl, sc, pc, ec, by simp at lc; omega⟩
    · rintro σ Ha ⟨x3, x4, es, rfl, sa, pa, ea, la⟩
      refine ⟨_, rfl, p1, rfl, ⟨_, SqL.of pa⟩, ?_⟩
      refine for_it (walk_list (xs := ys.map V.str)) (fun i σ H' => ∃ f x3 x4 x5 x6 es, σ = [some (.ref W.d), some (.ref p1), some (.ref f), x3, x4, x5, x6, none, none] ∧ Same H H' ∧ H' p1 = some (.lst (ys.map V.str)) ∧ EvsAt K H' W.pp W.rn f es ∧ es.length ≤ 9 + 6 * i) ⟨f, x3, x4, none, none, es, rfl, sa, pa, ea, by simp at la; omega⟩ (fun i σ H' _ ⟨_, _, _, _, _, _, _, _, p, _⟩ => SqL.of p) ?_ ?_
      · rintro i v σ Hb Hc hi ⟨f, x3, x4, x5, x6, es, rfl, sb, pb, eb, lb⟩ ⟨rfl, hv⟩
        obtain ⟨who, hwho, rfl⟩ := strs_at hv
        have hwp := hpm who (List.mem_of_getElem? hwho)
        have wb := sb.world hw
        obtain ⟨us, hfr, hus⟩ := id wb.2.2.1
        have hul : us.length = W.rs.length := by rw [dps_len hus, List.length_map]
        have hrl : W.rs.length ≤ 2 := by have := ok.cn.few; rw [List.length_map] at this; exact this
        refine ⟨_, rfl, W.d, _, rfl, dg wb.1 rfl, _, rfl, ⟨_, hfr.sq⟩, fun D2 hD2 => ?_⟩
        refine lc_n (walk_tup (xs := us)) (fun i v _ => ∃ p, W.rs[i]? = some p ∧ v = .str p.1) (fun i o H H' _ h => h) hD2 (by omega) (fun H5 s5 => s5.tup hfr.sq) ?_ ?_
        · rintro j v H5 H6 Kt hj s5 ⟨rfl, e⟩ kk
          obtain ⟨p, b, hp, rfl, hb⟩ := pair_at (s5.dts hus) e
          exact ⟨rfl, _, rfl, .inr (.inl ⟨b, _, 0, _, rfl, rfl, hb, at0, p.1, rfl, kk _ _ (Same.refl _) ⟨p, hp, rfl⟩⟩)⟩
        intro zs H5 s5 hl5 hy5 hD5
        have e : zs = W.rn.map V.str := by
          unfold Ww.rn
          rw [List.map_map]
          exact map_of (f := fun p : Str × Str => V.str p.1) (by rw [hl5, hul]) hy5
        subst e
        have hrn : W.rn.length ≤ 2 := by unfold Ww.rn; rw [List.length_map]; exact hrl
        refine ⟨D2, W.rn, rfl, SqL.of hD5, by omega, fun zs q pm2 _ hq => ⟨q, rfl, ⟨_, SqL.of upd_same⟩, ?_⟩⟩
        have hzl : zs.length ≤ 2 := by rw [pm2.length_eq]; exact hrn
        have s6 := s5.trans (Same.new (o := .lst (zs.map V.str)) hq)
        have q6 : (upd H5 q (.lst (zs.map V.str))) q = some (.lst (zs.map V.str)) := upd_same
        generalize (upd H5 q (.lst (zs.map V.str))) = H6 at s6 q6 ⊢
        refine for_it (walk_list (xs := zs.map V.str)) (fun j σ H' => ∃ f x4 x5 x6 es, σ = [some (.ref W.d), some (.ref p1), some (.ref f), some (.str who), x4, x5, x6, none, none] ∧ Same H H' ∧ H' p1 = some (.lst (ys.map V.str)) ∧ EvsAt K H' W.pp W.rn f es ∧ es.length ≤ 9 + 6 * i + 3 * j ∧ H' q = some (.lst (zs.map V.str))) ⟨f, x4, x5, x6, es, rfl, sb.trans s6, s6 _ _ pb, s6.evs eb, by omega, q6⟩ (fun j σ H' _ ⟨_, _, _, _, _, _, _, _, _, _, q⟩ => SqL.of q) ?_ ?_
        · rintro j v σ Hd He hj ⟨f, x4, x5, x6, es, rfl, sd, pd, ed, ld, qd⟩ ⟨rfl, hv⟩
          obtain ⟨job, hjob, rfl⟩ := strs_at hv
          have hjr : job ∈ W.rn := pm2.mem_iff.mp (List.mem_of_getElem? hjob)
          refine ⟨_, rfl, p1, rfl, ⟨_, SqL.of pd⟩, fun D3 hD3 => ?_⟩
          refine lc_g (walk_list (xs := ys.map V.str)) (fun i o _ => ∃ y, ys[i]? = some y ∧ (o = none ∨ o = some (.str y))) (fun i o H H' _ h => h) hD3 (by simp; omega) (fun H7 s7 => SqL.of (s7 _ _ pd)) ?_ ?_
          · rintro m v H7 H8 Kt Kf hm s7 ⟨rfl, e⟩ k1 k2
            obtain ⟨y, hy, rfl⟩ := strs_at e
            exact ⟨rfl, _, rfl, _, rfl, .inl ⟨rfl, _, rfl, ite2 (fun _ => ⟨_, rfl, k1 _ _ (Same.refl _) ⟨y, hy, .inr rfl⟩⟩) (fun _ => k2 _ (Same.refl _) ⟨y, hy, .inl rfl⟩)⟩⟩
          intro os H7 s7 hol ho hD7
          obtain ⟨rest, hrest, hrm⟩ : ∃ rest : List Str, os.filterMap id = rest.map V.str ∧ ∀ y ∈ rest, y ∈ ys := by
            obtain ⟨rest, h1, h2⟩ := pickL V.str (os.filterMap id) (fun _ y => y ∈ ys) fun n v e => by
              obtain ⟨o, ho1, ho2⟩ := List.mem_filterMap.mp (List.mem_of_getElem? e)
              obtain ⟨m, hm⟩ := List.getElem?_of_mem ho1
              obtain ⟨y, h1, h2⟩ := ho m o hm
              have ho2' : o = some v := ho2
              rcases h2 with h2 | h2
              · rw [h2] at ho2'; cases ho2'
              · rw [h2] at ho2'; exact ⟨y, (Option.some.inj ho2').symm, List.mem_of_getElem? h1⟩
            exact ⟨rest, h1, fun y hy => let ⟨m, hm⟩ := List.getElem?_of_mem hy; h2 m y hm⟩
          have hrl3 : rest.length ≤ 3 := by
            have h1 := fm_len os
            rw [hrest, List.length_map, hol, List.length_map] at h1; omega
          rw [hrest] at hD7
          refine ⟨_, rfl, _, rfl, D3, rfl, ⟨_, SqL.of hD7⟩, fun D4 hD4 => ?_⟩
          refine lc_n (walk_list (xs := rest.map V.str)) (fun i v H' => ∃ y, rest[i]? = some y ∧ DT K H' v (Ev.hands who job y).d) (fun i o H H' kk ⟨y, h1, h2⟩ => ⟨y, h1, kk.dt h2⟩) hD4 (by simp; omega) (fun H8 s8 => SqL.of (s8 _ _ hD7)) ?_ ?_
          · rintro m v H8 H9 Kt hm s8 ⟨rfl, e⟩ kk
            obtain ⟨y, hy, rfl⟩ := strs_at e
            exact ⟨rfl, _, rfl, _, rfl, _, rfl, small (by simp), fun t ht => kk _ _ (Same.new ht) ⟨y, hy, ev_dt (e := .hands who job y) upd_same⟩⟩
          intro vs H8 s8 hvl hvs hD8
          have s78 := s7.trans s8
          obtain ⟨lv, hlv, hdt, heo⟩ := s78.evs ed
          have lvl : lv.length = es.length := by rw [dps_len hdt, List.length_map]
          have hvl' : vs.length = rest.length := by simpa using hvl
          have hil : i < 3 := by simp at hi; omega
          have hjl : j < 2 := by simp at hj; omega
          refine catL hlv hD8 (by omega) fun r hr => ?_
          have sr := Same.new (o := .lst (lv ++ vs)) hr
          have hnew : DTs K H8 vs ((rest.map fun y => Ev.hands who job y).map Ev.d) := dts_of (by simp [hvl']) fun n v d e1 e2 => by
            obtain ⟨y, h1, h2⟩ := hvs n v e1
            rw [List.map_map, List.getElem?_map, h1] at e2
            cases e2; exact h2
          refine ⟨r, _, _, _, es ++ rest.map (fun y => Ev.hands who job y), rfl, sd.trans (s78.trans sr), (s78.trans sr) _ _ pd, ⟨_, upd_same, ?_, fun e he => ?_⟩, by simp; omega, (s78.trans sr) _ _ qd⟩
          · rw [List.map_append]
            exact sr.dts (dps_append hdt hnew)
          · rcases List.mem_append.mp he with h | h
            · exact heo e h
            · (obtain ⟨y, hy, rfl⟩ := List.mem_map.mp h)
              exact ⟨hwp, hjr, hpm y (hrm y hy)⟩
        · rintro σ Hd ⟨f, x4, x5, x6, es, rfl, sd, pd, ed, ld, qd⟩
          exact ⟨f, _, _, _, _, es, rfl, sd, pd, ed, by simp at ld; omega⟩
      · rintro σ Hb ⟨f, x3, x4, x5, x6, es, rfl, sb, pb, ⟨lv, hlv, hdt, heo⟩, lb⟩
        refine ⟨_, rfl, small (by simp), fun t ht => ⟨small (by simp), fun dl hdl => ?_⟩⟩
        have st := Same.new (o := .tup [.str "day"]) ht
        have sd := Same.new (o := .lst [.ref t]) hdl
        have lvl : lv.length = es.length := by rw [dps_len hdt, List.length_map]
        refine catL ((st.trans sd) _ _ hlv) upd_same (by simp at lb ⊢; omega) fun r hr => ?_
        have sr := Same.new (o := .lst (lv ++ [.ref t])) hr
        refine k r (es ++ [Ev.day]) _ (sb.trans (st.trans (sd.trans sr))) ⟨_, upd_same, ?_, fun e he => ?_⟩ (by simp) (by simp at lb ⊢; omega)
        · rw [List.map_append]
          exact dps_append ((st.trans (sd.trans sr)).dts hdt) (.cons ((sd.trans sr).dt (ev_dt (e := .day) upd_same)) .nil)
        · rcases List.mem_append.mp he with h | h
          · exact heo e h
          · rw [List.mem_singleton.mp h]; trivial
end
end DD
namespace DD
open PySem PySem.Spec
open PyProof.Rows L2
section
variable {base : Heap} {mg : Str → Option Value} {K : PySem.W.Frag} {w : World} {P : Program}
/-! ### the event of some words -/
def sp_L_event (K : PySem.W.Frag) : Sp := fun vs H Q _ => ∃ (v : V) (e : Ev) (nm pp rn : List Str), vs = [v] ∧ DT K H v e.d ∧ Cn nm pp rn ∧ EvOk pp rn e ∧ ∀ x H', Same H H' → EvAt K H' x e → Q (.ref x) H'
theorem ok_L_event (T : Txt w K mg) : FnOk P w K mg base CX0 8 (a_L_event K) (fdOf K (a_L_event K)) ps_L_event (sp_L_event K) := by
  have G_Event_act := (ok_Event_act (P := P) (base := base) T).mono (show _ ≤ 7 by decide)
  have G_Event_hand := (ok_Event_hand (P := P) (base := base) T).mono (show _ ≤ 7 by decide)
  have G_Event_day := (ok_Event_day (P := P) (base := base) T).mono (show _ ≤ 7 by decide)
  refine ok0 T.f_L_event sc_L_event (fun vs H Q E h => ?_) (fun cdv A outer s H vs Q E hr h => ?_)
  · obtain ⟨_, _, _, _, _, rfl, _⟩ := h; rfl
  · obtain ⟨v, e, nm, pp, rn, rfl, hD, hc, he, k⟩ := h
    have hr_Event_act := hr
    have hr_Event_hand := hr
    have hr_Event_day := hr
    have hU64 := hr.units
    refine ⟨_, (pss_cons (ps_if (pt_cmpR (k_eq K hU64) (pe_ix (k_ix K) (pv 0) pe_int (fun _ _ => rfl)) pe_str (nomark _)) (pss_one (ps_ret (pe_smeth (pe_cR rfl T.g_Event) (rd_of' T.x_read_Event) (st_of T.x_sm_Event_act) G_Event_act hr_Event_act T.k_Event_act T.b_Event_act .nil pass0 (pa_cons (pe_ix (k_ix K) (pv 0) pe_int (fun _ _ => rfl)) (pa_cons (pe_ix (k_ix K) (pv 0) pe_int (fun _ _ => rfl)) pa_nil))))) pss_nil) (pss_cons (ps_if (pt_cmpR (k_eq K hU64) (pe_ix (k_ix K) (pv 0) pe_int (fun _ _ => rfl)) pe_str (nomark _)) (pss_one (ps_ret (pe_smeth0 (pe_cR rfl T.g_Event) (rd_of' T.x_read_Event) (st_of T.x_sm_Event_day) G_Event_day hr_Event_day T.k_Event_day T.b_Event_day .nil pass0))) pss_nil) (pss_one (ps_ret (pe_smeth (pe_cR rfl T.g_Event) (rd_of' T.x_read_Event) (st_of T.x_sm_Event_hand) G_Event_hand hr_Event_hand T.k_Event_hand T.b_Event_hand .nil pass0 (pa_cons (pe_ix (k_ix K) (pv 0) pe_int (fun _ _ => rfl)) (pa_cons (pe_ix (k_ix K) (pv 0) pe_int (fun _ _ => rfl)) (pa_cons (pe_ix (k_ix K) (pv 0) pe_int (fun _ _ => rfl)) pa_nil)))))))), ?_⟩
    obtain ⟨a, rfl, hS⟩ := ev_at hD
    cases e with
    | act p x =>
      refine tt_hdY rfl hS (yes rfl ⟨rfl, ixT rfl hS at1 (ixT rfl hS at2 ⟨p, x, rfl, hc.pk.word p he.1, he.2, fun y H' s' _ hy => k y H' s' hy⟩)⟩)
    | hands p r q =>
      refine tt_hdN (h := "hands") rfl hS (by decide +kernel) (no (by decide) (tt_hdN (h := "hands") rfl hS (by decide +kernel) (no (by decide) ?_)))
      exact ⟨rfl, ixT rfl hS at1 (ixT rfl hS at2 (ixT rfl hS at3 ⟨p, r, q, rfl, hc.pk.word p he.1, hc.word r he.2.1, hc.pk.word q he.2.2, fun y H' s' _ hy => k y H' s' hy⟩))⟩
    | day =>
      refine tt_hdN (h := "day") rfl hS (by decide +kernel) (no (by decide) (tt_hdY rfl hS (yes rfl ?_)))
      exact ⟨rfl, rfl, fun y H' s' _ hy => k y H' s' hy⟩
/-! ### a row of events' words -/
def sp_L_row (K : PySem.W.Frag) : Sp := fun vs H Q _ => ∃ (g : Dw) (W : Ww) (n m : Nat) (l dd sn : Int), vs = [.ref g.d, .ref W.d, .int (m : Nat)] ∧ m ≤ 8 ∧ DrawAt H g n ∧ n < 90000000 ∧ WorldAt K H W l dd sn ∧ W.d ≠ g.d ∧ ∀ a es H', Fr [g.d] H H' → DrawAt H' g (n + 9) → EvsAt K H' W.pp W.rn a es → es.length ≤ m → H a = none → Q (.ref a) H'
theorem ok_L_row (T : Txt w K mg) : FnOk P w K mg base CX0 3 (a_L_row K) (fdOf K (a_L_row K)) ps_L_row (sp_L_row K) := by
  have G_L_next := ok_L_next (P := P) (base := base) T
  have G_L_pick := ok_L_pick (P := P) (base := base) T
  have G_L_alphabet := ok_L_alphabet (P := P) (base := base) T
  refine ok0 T.f_L_row sc_L_row (fun vs H Q E h => ?_) (fun cdv A outer s H vs Q E hr h => ?_)
  · obtain ⟨_, _, _, _, _, _, _, rfl, _⟩ := h; rfl
  · obtain ⟨g, W, n, m, l, dd, sn, rfl, hm, hd, hn, hw, ne, k⟩ := h
    have hr_L_next : Room 1 _ := hr.mono (by omega)
    have hr_L_pick : Room 2 _ := hr
    have hr_L_alphabet : Room 1 _ := hr.mono (by omega)
    refine ⟨_, (pss_cons (ps_set (i := 3) sc_L_row.nd rfl (Or.inr rfl) (pe_call G_L_alphabet hr_L_alphabet rfl T.g_L_alphabet T.k_L_alphabet T.b_L_alphabet .nil pass0 (pa_cons (pv 1) pa_nil))) (pss_cons (ps_set (i := 3) sc_L_row.nd rfl (Or.inr rfl) (pe_op (k_add K) (pv 3) (pe_op u_mul (pe_lst (pa_cons (pe_tup (pa_cons pe_str pa_nil)) pa_nil)) (pe_op op_fdiv (pe_callB (k_len K) (by rfl) T.n_len (by decide +kernel) (pa_cons (pv 3) pa_nil)) pe_int)))) (pss_one (ps_ret (pe_lc (own := [("_law_k", 4)]) (by rfl) sc_L_row.nd (pi_range1 rfl T.n_range (pa_cons (pe_call G_L_next hr_L_next rfl T.g_L_next T.k_L_next T.b_L_next .nil pass0 (pa_cons (pv 0) (pa_cons (pe_op (k_add K) (pv 2) pe_int) pa_nil))) pa_nil)) (blkOk_by (own := [("_law_k", 4)]) (N := N_L_row) (sc := defScope s_L_row) (by decide +kernel)) (fun _ _ _ _ _ => (pg_name (i := 4) sc_L_row.nd rfl (Or.inl rfl) (Or.inr rfl))) (fun _ _ _ _ _ => pts_nil) (fun _ _ _ _ _ => (pe_call G_L_pick hr_L_pick rfl T.g_L_pick T.k_L_pick T.b_L_pick .nil pass0 (pa_cons (pv 0) (pa_cons (pv 3) pa_nil))))))))), ?_⟩
    refine ⟨_, rfl, W, l, dd, sn, rfl, hw, fun a es H1 s1 ⟨lv, hlv, hdt, heo⟩ hl1 hl2 => ?_⟩
    have lvl : lv.length = es.length := by rw [dps_len hdt, List.length_map]
    refine ⟨_, rfl, small (by simp), fun t ht => ⟨small (by simp), fun dl hdl => ⟨_, rfl, _, _, rfl, .inl ⟨_, ((Same.new ht).trans (Same.new hdl)).lst (SqL.of hlv), rfl⟩, _, 2, rfl, rfl, ⟨by decide, by decide⟩, ?_⟩⟩⟩
    have s2 := Same.new (o := .tup [.str "day"]) ht
    have s3 := Same.new (o := .lst [.ref t]) hdl
    have hle : (lv.length : Int) / 2 ≤ 20 := by omega
    have hge : 0 ≤ (lv.length : Int) / 2 := by omega
    refine .inr ⟨dl, _, [.ref t], rfl, rfl, upd_same, by omega, by omega, small (by simp; omega), fun l2 hl2 => ?_⟩
    have s4 := Same.new (o := .lst (List.replicate ((lv.length : Int) / 2).toNat [V.ref t]).flatten) hl2
    have hrl : (List.replicate ((lv.length : Int) / 2).toNat [V.ref t]).flatten.length ≤ 20 := by simp; omega
    refine catL ((s2.trans (s3.trans s4)) _ _ hlv) upd_same (by omega) fun sl hsl => ?_
    have s5 := Same.new (o := .lst (lv ++ (List.replicate ((lv.length : Int) / 2).toNat [V.ref t]).flatten)) hsl
    have S5 := s1.trans (s2.trans (s3.trans (s4.trans s5)))
    have hall : ∀ v ∈ lv ++ (List.replicate ((lv.length : Int) / 2).toNat [V.ref t]).flatten, ∃ e, DT K (upd (upd (upd (upd H1 t (.tup [.str "day"])) dl (.lst [.ref t])) l2 (.lst (List.replicate ((lv.length : Int) / 2).toNat [V.ref t]).flatten)) sl (.lst (lv ++ (List.replicate ((lv.length : Int) / 2).toNat [V.ref t]).flatten))) v e.d ∧ EvOk W.pp W.rn e := by
      intro v hv
      rcases List.mem_append.mp hv with h | h
      · obtain ⟨i, hi⟩ := List.getElem?_of_mem h
        obtain ⟨d, h1, h2⟩ := dps_get hdt hi
        rw [List.getElem?_map] at h1
        cases q : es[i]? with
        | none => rw [q] at h1; cases h1
        | some e =>
          rw [q] at h1; cases h1
          exact ⟨e, (s2.trans (s3.trans (s4.trans s5))).dt h2, heo e (List.mem_of_getElem? q)⟩
      · have : v = .ref t := by
          obtain ⟨x, hx, hvx⟩ := List.mem_flatten.mp h
          rw [List.eq_of_mem_replicate hx] at hvx
          exact List.mem_singleton.mp hvx
        rw [this]
        exact ⟨.day, (s3.trans (s4.trans s5)).dt (ev_dt (e := .day) upd_same), trivial⟩
    have e5 : (upd (upd (upd (upd H1 t (.tup [.str "day"])) dl (.lst [.ref t])) l2 (.lst (List.replicate ((lv.length : Int) / 2).toNat [V.ref t]).flatten)) sl (.lst (lv ++ (List.replicate ((lv.length : Int) / 2).toNat [V.ref t]).flatten))) sl = some (.lst (lv ++ (List.replicate ((lv.length : Int) / 2).toNat [V.ref t]).flatten)) := upd_same
    have hxl : (lv ++ (List.replicate ((lv.length : Int) / 2).toNat [V.ref t]).flatten).length ≤ 60 ∧ 0 < (lv ++ (List.replicate ((lv.length : Int) / 2).toNat [V.ref t]).flatten).length := by rw [List.length_append]; omega
    generalize (upd (upd (upd (upd H1 t (.tup [.str "day"])) dl (.lst [.ref t])) l2 (.lst (List.replicate ((lv.length : Int) / 2).toNat [V.ref t]).flatten)) sl (.lst (lv ++ (List.replicate ((lv.length : Int) / 2).toNat [V.ref t]).flatten))) = H5 at S5 e5 hall ⊢
    generalize lv ++ (List.replicate ((lv.length : Int) / 2).toNat [V.ref t]).flatten = xs at e5 hall hxl
    have d5 := S5.draw hd
    refine ⟨_, rfl, _, rfl, .inl ⟨_, 1, rfl, rfl, g, (m : Int) + 1, n, rfl, d5, by omega, by omega, by omega, fun i6 H6 f6 d6 z0 z1 => ⟨i6, rfl, by omega, by omega, fun D hD => ?_⟩⟩⟩
    have hne6 := d6.ne hD
    have k6 := d5.kp f6
    have e6 := k6 _ _ e5 trivial
    have all6 : ∀ v ∈ xs, ∃ e, DT K H6 v e.d ∧ EvOk W.pp W.rn e := fun v hv => let ⟨e, h1, h2⟩ := hall v hv; ⟨e, k6.kt.dt h1, h2⟩
    have nsD : sl ≠ D := fun z => by rw [z, hD] at e6; cases e6
    refine lc_m (walk_range (n := i6.toNat)) [g.d] (fun i H' => DrawAt H' g (n + 1 + i) ∧ H' sl = some (.lst xs)) (fun i y H' => ∃ e, DT K H' y e.d ∧ EvOk W.pp W.rn e) (by rintro i o H H' kk ⟨e, h1, h2⟩; exact ⟨e, kk.dt h1, h2⟩) hD (by simpa using Ne.symm hne6.1) (by omega) (fun _ _ _ _ => trivial) ?_ ?_ ?_ ?_
    · exact ⟨d6.stay (L := [D]) (Fr.upd in1) (by simpa using hne6.1) (by simpa using hne6.2), by rw [upd_ne nsD]; exact e6⟩
    · rintro i H' xs' ⟨h1, h2⟩
      exact ⟨h1.stay (L := [D]) (Fr.upd in1) (by simpa using hne6.1) (by simpa using hne6.2), (upd_ne nsD).trans h2⟩
    · rintro i v H7 H8 Kt hi f7 ⟨d7, e7⟩ ⟨rfl, rfl⟩ kk
      refine ⟨rfl, _, rfl, _, rfl, g, .ref sl, n + 1 + i, xs.length, rfl, d7, by omega, .inl ⟨_, SqL.of e7, rfl⟩, by omega, by omega, fun i8 H9 f9 d9 y0 y1 => ?_⟩
      have k9 := d7.kp f9
      refine pickOf (SqL.of (k9 _ _ e7 trivial)) y0 (by exact_mod_cast y1) fun x hx => ?_
      obtain ⟨e, h1, h2⟩ := all6 x hx
      exact kk _ _ f9 k9.kt ⟨d9, k9 _ _ e7 trivial⟩ ⟨e, k9.kt.dt ((d6.kt f7).dt h1), h2⟩
    · intro ys H7 f7 ⟨d7, _⟩ hyl hyr hD7
      obtain ⟨es', hes, hel, heo'⟩ := pickR (K := K) Ev.d ys (fun _ e => EvOk W.pp W.rn e) (fun i y e => let ⟨e', h1, h2⟩ := hyr i y e; ⟨e', h1, h2⟩)
      have f07 : Fr [g.d] H H7 := S5.fr.trans (f6.trans f7)
      refine k D es' H7 f07 (d7.mono (by omega)) ⟨ys, hD7, hes, fun e he => let ⟨i, hi⟩ := List.getElem?_of_mem he; heo' i e hi⟩ (by omega) ?_
      cases q : H D with
      | none => rfl
      | some u => rw [(S5.fr.trans f6) D u (by simpa using Ne.symm hne6.1) q] at hD; cases hD
/-! ### the contract of a world -/
def sp_L_contract (K : PySem.W.Frag) : Sp := fun vs H Q _ => ∃ (W : Ww) (l dd sn : Int) (v : V) (t : Tm) (n : Nat), vs = [.ref W.d, v] ∧ WorldAt K H W l dd sn ∧ DT K H v t.d ∧ St W.nm n t ∧ n ≤ 6 ∧ t.parts ≤ 40 ∧ ∀ a H', Same H H' → ContAt K H' a W.pp W.rs t → CtOk W.nm W.pp W.rs t n → Q (.ref a) H'
theorem ok_L_contract (T : Txt w K mg) : FnOk P w K mg base CX0 13 (a_L_contract K) (fdOf K (a_L_contract K)) ps_L_contract (sp_L_contract K) := by
  have G_Contract_init := ok_Contract_init (P := P) (base := base) T
  have G_Term_of := ok_Term_of (P := P) (base := base) T
  have kb_Contract_init := kb_Contract_init T
  refine ok0 T.f_L_contract sc_L_contract (fun vs H Q E h => ?_) (fun cdv A outer s H vs Q E hr h => ?_)
  · obtain ⟨_, _, _, _, _, _, _, rfl, _⟩ := h; rfl
  · obtain ⟨W, l, dd, sn, v, t, n, rfl, hw, hD, hst, hn, hp, k⟩ := h
    have hr_Contract_init : Room 5 _ := hr.mono (by omega)
    have hr_Term_of : Room 12 _ := hr
    have hU1 := hu_of hr
    refine ⟨_, (pss_one (ps_ret (pe_makeK T.mk_Contract G_Contract_init hr_Contract_init rfl T.g_Contract kb_Contract_init pass0 (pa_cons (pe_dget hU1 (pv 0) pe_str (fun _ _ => rfl)) (pa_cons (ClX.pe_cmeth (pe_cR rfl T.g_Term) (rd_of' T.x_read_Term) (cm_of T.x_cm_Term_of) (G_Term_of.raw T.b_Term_of .nil) hr_Term_of pass0 (pa_cons (pv 1) pa_nil)) pa_nil)) (pk_cons (pe_dget hU1 (pv 0) pe_str (fun _ _ => rfl)) pk_nil)))), ?_⟩
    refine ⟨_, rfl, W.d, _, rfl, dg hw.1 rfl, rfl, _, rfl, _, v, t, W.nm, n, rfl, hD, hst, by omega, hp, fun tm H1 s1 _ hT => ?_⟩
    have w1 := s1.world hw
    refine ⟨_, rfl, W.d, _, rfl, dg w1.1 rfl, rfl, rfl, fun x dx hx hdx nxd => ?_⟩
    have cok : CtOk W.nm W.pp W.rs t n := ⟨w1.2.2.2.2.cn, w1.2.2.2.2.inp, hst, hn, hp⟩
    have s2 : Same H1 (upd (upd H1 dx (.own x)) x (.ins (c_Contract K) dx [])) := made hx hdx fun _ _ _ q => q
    refine ⟨x, dx, W.pt, W.rt, tm, W.nm, W.pp, W.rs, t, n, rfl, upd_same, cok, s2.tup w1.2.1, s2.roles w1.2.2.1, s2.term hT, fun H3 b3 h3 => ⟨rfl, ?_⟩⟩
    have s3 := made hx hdx b3
    exact k x H3 (s1.trans s3) ⟨dx, W.pt, W.rt, tm, h3, s3.tup w1.2.1, s3.roles w1.2.2.1, s3.term hT⟩ cok
end
end DD
namespace DD
open PySem PySem.Spec
open PyProof.Rows L2
/-! ## len, += and -= of instances -/
section
variable {X : Cx} {C f : Addr} {k : Nat} {fd : FuncData} {ps : List Str} {sp : Sp} {CX : CXT} {E : XK}
theorem inst_at {pins : List (Addr × Obj)} {σ : L2.St} {H : Hp} {s : Shared} {a dx : Addr} {fs : List (Str × V)} (I : Inv X pins σ H s) (e : H a = some (.ins C dx fs)) : ∃ od, PySem.W.InstAt s.heap a (PySem.W.instObj C dx) C (some od) := by
  obtain ⟨mA, O, _⟩ := ins_get I.hok e
  obtain ⟨od, J, _⟩ := O.look
  exact ⟨od, J⟩
def rLenOwn (C : Addr) (sp : Sp) : List V → Hp → VK → Prop := fun xs H Q => ∃ a dx fs, xs = [V.ref a] ∧ H a = some (.ins C dx fs) ∧ sp [.ref a] H (fun v H' => ∃ n : Int, v = .int n ∧ 0 ≤ n ∧ n < 2 ^ 63 ∧ Q (.int n) H') E0
theorem cr_lenOwn (m : Meth X.K C "__len__" f) (F : FnOk X.prog X.w X.K X.mg X.base CX0 k f fd ps sp) (hr : Room (k + 1) X.A) (hb : Binds X.K fd ps []) : CallR X (.builtin "len") (rLenOwn C sp) := by
  (intro pins s σ H xs us Q I r h)
  obtain ⟨a, dx, fs, rfl, ea, q⟩ := h
  rw [Vals.ref1 r]
  obtain ⟨od, J⟩ := inst_at I ea
  obtain ⟨m', fr⟩ := I.fr
  refine PySem.W.len_K fr I.ok.mod.kin J m.at_ m.fn ?_
  have hl : ([Value.ref a] : List Value).length = ps.length := F.len _ _ _ _ q
  have b := hb s [.ref a] I.kIn (by rw [List.append_nil]; exact hl)
  rw [List.append_nil] at b
  refine wpAny_call (codeAny_mono (F.run X.A.in1 X.stack s H ⟨[.ref a], []⟩ [.ref a] [.ref a] _ _ hr.in1 I.env0.in1 b (.cons rfl .nil) q) fun r s' hq => ?_)
  cases r with
  | error e => (exact False.elim hq)
  | ok fl =>
    cases fl with
    | ret u =>
      obtain ⟨v, H', J', rv, n, rfl, h0, h1, q'⟩ := I.after hq
      obtain ⟨t, rfl⟩ := rv
      exact ⟨⟨h0, h1⟩, .int n, H', J'.tok _, ⟨_, rfl⟩, q'⟩
    | next => exact False.elim hq
    | brk => exact False.elim hq
    | cont => exact False.elim hq
/-- x op= y by an own method -/
def ipOwn (C : Addr) (sp : Sp) (E : XK) : TIp := fun x y H Q => ∃ a dx fs, x = V.ref a ∧ H a = some (.ins C dx fs) ∧ sp [.ref a, y] H (fun v H' => (∃ b : Addr, v = .ref b) ∧ Q v H') E
theorem ip_own {op : Operator} (hc : PySem.W.selfFirst X.K C = true) (m : Meth X.K C (dunderI op.info.2) f) (F : FnOk X.prog X.w X.K X.mg X.base CX k f fd ps sp) (hr : Room k X.A) (hb : Binds X.K fd ps []) (hx : Passes CX X E) : PIp X op (ipOwn C sp E) := by
  (intro pins s σ H x y v u Q I rx ry h)
  obtain ⟨a, dx, fs, rfl, ea, q⟩ := h
  (obtain rfl : v = Value.ref a := rx)
  obtain ⟨od, J⟩ := inst_at I ea
  obtain ⟨m', fr⟩ := I.fr
  refine PySem.W.ksp_inplace fr I.ok.mod.kin J hc m.at_ m.fn ?_
  refine wpAny_mono (run_fn (ds := []) (dvs := []) (us := [.ref a, u]) (vs := [.ref a, y]) F hr hb .nil hx I (.cons rfl (.cons ry .nil)) (by simpa using q)) (fun z s' hz => ?_) fun _ _ e => e
  obtain ⟨v', H', J', rv, ⟨b, rfl⟩, q'⟩ := hz
  obtain rfl : z = Value.ref b := rv
  exact ⟨.ref b, H', J', rfl, q'⟩
theorem ps_augO {i : Nat} {x : Str} {e : Expr} {te : TE} {op : Operator} {ti : TIp} {pos' pos : Pos} (ho : PIp X op ti) (hN : X.N.Nodup) (hi : X.N[i]? = some x) (hx : Loc X.env.scope x) (he : PE X e te) (hf : X.fn x = true ∨ X.env.scope.names.lookup x = some .local := by first | exact .inl rfl | exact .inr rfl | assumption) :
    PS X (.AugAssign (.Name x pos') op e pos) (tAug i te ti) := ps_aug hN hi hx he ho hf
end
end DD
namespace DD
open PySem PySem.Spec
open PyProof.Rows L2
section
variable {base : Heap} {mg : Str → Option Value} {K : PySem.W.Frag} {w : World} {P : Program}
/-! ### what a case shows, in the heap -/
def ShAt (K : PySem.W.Frag) (H : Hp) (v : V) (es : List Ev) (ts : List Tm) : Prop := ∃ (l wl : Addr) (v0 v1 v3 : V) (ws : List V), v = .ref l ∧ H l = some (.lst [v0, v1, .str (lastT ts).text, v3, .ref wl, .int (es.length : Nat)]) ∧ DT K H v0 (lastT ts).vd ∧ DT K H v1 (sinceD ts) ∧ DT K H v3 (rowsD (lastT ts)) ∧ H wl = some (.lst ws) ∧ DTs K H ws (es.map Ev.d)
theorem Kp.sh {H H' : Hp} {v : V} {es : List Ev} {ts : List Tm} (k : Kp H H') (h : ShAt K H v es ts) : ShAt K H' v es ts := by
  obtain ⟨l, wl, v0, v1, v3, ws, e, h1, h2, h3, h4, h5, h6⟩ := h
  exact ⟨l, wl, v0, v1, v3, ws, e, k _ _ h1 trivial, k.kt.dt h2, k.kt.dt h3, k.kt.dt h4, k _ _ h5 trivial, k.kt.dts h6⟩
theorem ShAt.dp {H : Hp} {v : V} {es : List Ev} {ts : List Tm} (h : ShAt K H v es ts) : Dp K H v (.list (shownD es ts)) := by
  obtain ⟨l, wl, v0, v1, v3, ws, rfl, h1, h2, h3, h4, h5, h6⟩ := h
  exact .lst (SqL.of h1) (.cons h2.dp (.cons h3.dp (.cons (.str _) (.cons h4.dp (.cons (.lst (SqL.of h5) h6.dps) (.cons (.int _) .nil))))))
/-- what is shown of a case is laid out -/
structure ShOk (es : List Ev) (ts : List Tm) : Prop where
  tx : Tx 8 (lastT ts)
  ev : ∀ e ∈ es, ∀ x ∈ e.ws, okS x
theorem row_fit {t : Tm} {n : Nat} (h : Tx n t) : Fit 2 t.row := by
  cases h with
  | wait h1 h2 => exact (Fit.tup (n := 0) (allC (.str (by decide +kernel)) (allC .non (allC .non (all1 .int))))).mono (by omega)
  | duty hw ha h1 h2 => exact (Fit.tup (n := 0) (allC (.str (duty_ok _)) (allC (.str hw.1) (allC (.str ha.1) (all1 .int))))).mono (by omega)
  | dutyE hw ha h1 h2 ho => exact (Fit.tup (n := 0) (allC (.str (duty_ok _)) (allC (.str hw.1) (allC (.str ha.1) (all1 .int))))).mono (by omega)
  | may hw ha h1 h2 => exact (Fit.tup (n := 0) (allC (.str (by decide +kernel)) (allC (.str hw.1) (allC (.str ha.1) (all1 .int))))).mono (by omega)
  | whn hw ha h1 h2 hp => exact (Fit.tup (n := 0) (allC (.str (by decide +kernel)) (allC (.str hw.1) (allC (.str ha.1) (all1 .int))))).mono (by omega)
  | whnE hw ha h1 h2 hp ho => exact (Fit.tup (n := 0) (allC (.str (by decide +kernel)) (allC (.str hw.1) (allC (.str ha.1) (all1 .int))))).mono (by omega)
  | _ => exact Fit.non
theorem force_tx : ∀ {n : Nat} {t : Tm}, Tx n t → ∀ f ∈ t.force, Tx n f := by
  intro n t h
  induction h with
  | done => intro f hf; cases hf
  | breach => intro f hf; cases hf
  | wait h1 h2 => intro f hf; rw [List.mem_singleton.mp hf]; exact .wait h1 h2
  | duty hw ha h1 h2 => intro f hf; rw [List.mem_singleton.mp hf]; exact .duty hw ha h1 h2
  | dutyE hw ha h1 h2 ho => intro f hf; rw [List.mem_singleton.mp hf]; exact .dutyE hw ha h1 h2 ho
  | may hw ha h1 h2 => intro f hf; rw [List.mem_singleton.mp hf]; exact .may hw ha h1 h2
  | whn hw ha h1 h2 hp => intro f hf; rw [List.mem_singleton.mp hf]; exact .whn hw ha h1 h2 hp
  | whnE hw ha h1 h2 hp ho => intro f hf; rw [List.mem_singleton.mp hf]; exact .whnE hw ha h1 h2 hp ho
  | @grp n g ks h1 h2 hk ih =>
    intro f hf
    cases g with
    | thn =>
      cases ks with
      | nil => cases hf
      | cons t r => exact (ih t List.mem_cons_self f hf).up
    | and =>
      have hf' : f ∈ forceAll ks := hf
      rw [forceAll_eq] at hf'
      obtain ⟨t, ht, hft⟩ := List.mem_flatMap.mp hf'
      exact (ih t ht f hft).up
    | or =>
      have hf' : f ∈ forceAll ks := hf
      rw [forceAll_eq] at hf'
      obtain ⟨t, ht, hft⟩ := List.mem_flatMap.mp hf'
      exact (ih t ht f hft).up
  | til _ hw ha ih => intro f hf; exact (ih f hf).up
  | rep h1 h2 hp _ => intro f hf; rw [List.mem_singleton.mp hf]; exact .rep h1 h2 hp
  | ever hp _ => intro f hf; rw [List.mem_singleton.mp hf]; exact .ever hp
theorem ShOk.fit {es : List Ev} {ts : List Tm} (h : ShOk es ts) : Fit 40 (.list (shownD es ts)) := by
  refine Fit.lst (n := 39) (allC ((vd_fit h.tx (by omega)).mono (by omega)) (allC ?_ (allC (.str h.tx.okt) (allC ?_ (allC ?_ (all1 .int))))))
  · unfold sinceD
    split
    · exact .int
    · exact .non
  · refine (Fit.tup (n := 2) fun d hd => ?_).mono (by omega)
    obtain ⟨f, hf, rfl⟩ := List.mem_map.mp hd
    exact row_fit (force_tx h.tx f hf)
  · refine (Fit.lst (n := 1) fun d hd => ?_).mono (by omega)
    obtain ⟨e, he, rfl⟩ := List.mem_map.mp hd
    exact Fit.tup (n := 0) (okStrs (h.ev e he))
theorem CaseAt.shOk {H : Hp} {c : Addr} {C : Ct} {es : List Ev} {ts : List Tm} (h : CaseAt K H c C es ts) : ShOk es ts := by
  obtain ⟨dx, ct, el, sl, h1, h2, h3, evs, sts, h4, h5, h6, h7, h8, h9⟩ := h
  constructor
  · obtain ⟨us, v, bs, t, _, rfl, a, hd, u, _, _, _, hR, _⟩ := h7.last (fun e => by rw [e] at h8; cases h8)
    rw [lastT_snoc]
    have := h3.lv6
    exact (hR.tx h3.pk).mono (by omega)
  · intro e he x hx
    obtain ⟨i, hi⟩ := List.getElem?_of_mem he
    obtain ⟨v, _, a, _, _, hok⟩ := h5.getA hi
    have hn := CtOk.cn h3
    cases e with
    | act p a =>
      (rcases List.mem_cons.mp hx with rfl | hx)
      · exact ⟨by decide +kernel, by decide +kernel⟩
      (rcases List.mem_cons.mp hx with rfl | hx)
      · exact word_ok (hn.pk.word _ hok.1)
      · rw [List.mem_singleton.mp hx]; exact word_ok hok.2
    | hands p r q =>
      (rcases List.mem_cons.mp hx with rfl | hx)
      · exact ⟨by decide +kernel, by decide +kernel⟩
      (rcases List.mem_cons.mp hx with rfl | hx)
      · exact word_ok (hn.pk.word _ hok.1)
      (rcases List.mem_cons.mp hx with rfl | hx)
      · exact word_ok (hn.word _ hok.2.1)
      · rw [List.mem_singleton.mp hx]; exact word_ok (hn.pk.word _ hok.2.2)
    | day => rw [List.mem_singleton.mp hx]; exact ⟨by decide +kernel, by decide +kernel⟩
/-- two of the same are equal -/
theorem sh_eq {H : Hp} {v u : V} {es : List Ev} {ts : List Tm} {Q : VK} (ok : ShOk es ts) (h1 : ShAt K H v es ts) (h2 : ShAt K H u es ts) (q : Q (.bl true) H) : uEq K v u H Q :=
  .inr ⟨_, _, h1.dp, h2.dp, ok.fit.shaped (by omega), ok.fit.shaped (by omega), by rw [ok.fit.eqv]; exact q⟩
theorem sh_ne {H : Hp} {v u : V} {es : List Ev} {ts : List Tm} {Q : VK} (ok : ShOk es ts) (h1 : ShAt K H v es ts) (h2 : ShAt K H u es ts) (q : Q (.bl false) H) : uNe K v u H Q :=
  .inr ⟨_, _, h1.dp, h2.dp, ok.fit.shaped (by omega), ok.fit.shaped (by omega), by rw [ok.fit.eqv]; exact q⟩
def sp_L_shown (K : PySem.W.Frag) : Sp := fun vs H Q _ => ∃ (c : Addr) (C : Ct) (es : List Ev) (ts : List Tm), vs = [.ref c] ∧ CaseAt K H c C es ts ∧ ∀ v H', Same H H' → ShAt K H' v es ts → (∀ l ys wl, v = .ref l → H' l = some (.lst ys) → ys[4]? = some (.ref wl) → H wl = none) → Q v H'
theorem ok_L_shown (T : Txt w K mg) : FnOk P w K mg base CX0 45 (a_L_shown K) (fdOf K (a_L_shown K)) ps_L_shown (sp_L_shown K) := by
  have G_Case_events := (ok_Case_events (P := P) (base := base) T).mono (show _ ≤ 42 by decide)
  have G_Case_verdict := (ok_Case_verdict (P := P) (base := base) T).mono (show _ ≤ 42 by decide)
  have G_Case_since := (ok_Case_since (P := P) (base := base) T).mono (show _ ≤ 42 by decide)
  have G_Case_remainder := ok_Case_remainder (P := P) (base := base) T
  have G_Case_standing := (ok_Case_standing (P := P) (base := base) T).mono (show _ ≤ 42 by decide)
  have G_Case_len := (ok_Case_len (P := P) (base := base) T).mono (show _ ≤ 42 by decide)
  have G_Event_words := (ok_Event_words (P := P) (base := base) T).mono (show _ ≤ 42 by decide)
  refine ok0 T.f_L_shown sc_L_shown (fun vs H Q E h => ?_) (fun cdv A outer s H vs Q E hr h => ?_)
  · obtain ⟨_, _, _, _, rfl, _⟩ := h; rfl
  · obtain ⟨c, C, es, ts, rfl, hC, k⟩ := h
    have hr_Case_events : Room 43 _ := hr.mono (by omega)
    have hr_Case_verdict : Room 43 _ := hr.mono (by omega)
    have hr_Case_since : Room 43 _ := hr.mono (by omega)
    have hr_Case_remainder : Room 44 _ := hr
    have hr_Case_standing : Room 42 _ := hr.mono (by omega)
    have hr_Case_len : Room (42 + 1) _ := hr.mono (by omega)
    have hr_Event_words : Room 43 _ := hr.mono (by omega)
    obtain ⟨dx, ct, el, sl, h1, _⟩ := id hC
    refine ⟨_, (pss_cons (ps_setLc (i := 1) (own := [("_law_event_here", 2)]) (by rfl) sc_L_shown.nd rfl rfl (sw_true rfl rfl rfl (by decide +kernel)) (k_piT K (pe_prop (pv 0) T.cl_Case (prop_of T.x_prop_Case_events) G_Case_events hr_Case_events T.b_Case_events .nil pass0 rfl)) (blkOk_by (own := [("_law_event_here", 2)]) (N := N_L_shown) (sc := defScope s_L_shown) (by decide +kernel)) (fun _ _ _ _ _ => (pg_name (i := 2) sc_L_shown.nd rfl (Or.inl rfl) (Or.inr rfl))) (fun _ _ _ _ _ => pts_nil) (fun _ _ _ _ _ => (pe_prop (pv 2) T.cl_Event (prop_of T.x_prop_Event_words) G_Event_words hr_Event_words T.b_Event_words .nil pass0 rfl))) (pss_one (ps_ret (pe_lst (pa_cons (pe_prop (pv 0) T.cl_Case (prop_of T.x_prop_Case_verdict) G_Case_verdict hr_Case_verdict T.b_Case_verdict .nil pass0 rfl) (pa_cons (pe_prop (pv 0) T.cl_Case (prop_of T.x_prop_Case_since) G_Case_since hr_Case_since T.b_Case_since .nil pass0 rfl) (pa_cons (pe_prop (pv 0) T.cl_Case (prop_of T.x_prop_Case_remainder) G_Case_remainder hr_Case_remainder T.b_Case_remainder .nil pass0 rfl) (pa_cons (pe_meth0 (pv 0) T.cl_Case T.m_Case_standing G_Case_standing hr_Case_standing T.b_Case_standing .nil pass0) (pa_cons (pv 1) (pa_cons (pe_callB (cr_lenOwn T.m_Case_len G_Case_len hr_Case_len T.b_Case_len) (by rfl) T.n_len (by decide +kernel) (pa_cons (pv 0) pa_nil)) pa_nil)))))))))), ?_⟩
    refine ⟨_, rfl, c, dx, _, rfl, h1, c, C, es, ts, rfl, hC, fun p evs H1 s1 hp hz => ⟨p, rfl, ⟨_, hp⟩, fun D hD => ?_⟩⟩
    have hel : es.length ≤ 1000 := by obtain ⟨_, _, _, _, _, _, _, _, _, _, _, _, _, _, h9⟩ := id hC; exact h9
    refine lc_n (walk_tup (xs := evs)) (fun i v H' => ∃ e, es[i]? = some e ∧ DT K H' v e.d) (by rintro i o H H' kk ⟨e, a, b⟩; exact ⟨e, a, kk.dt b⟩) hD (by have := hz.len; omega) (fun H3 s3 => s3.tup hp) ?_ ?_
    · rintro i x H3 H4 Kt hi s3 ⟨rfl, e⟩ kk
      obtain ⟨ev, hev, a, rfl, hEv, _⟩ := hz.get e
      obtain ⟨edx, wv, g1, g2⟩ := s3.ev hEv
      exact ⟨rfl, _, rfl, a, edx, _, rfl, g1, a, ev, rfl, ⟨edx, wv, g1, g2⟩, fun v hv => kk _ _ (Same.refl _) ⟨ev, hev, hv⟩⟩
    intro ws H2 s2 hwl hws hD2
    have hds : DTs K H2 ws (es.map Ev.d) := dts_of (by rw [hwl, hz.len, List.length_map]) fun i v d e1 e2 => by
      obtain ⟨ev, hev, hd⟩ := hws i v e1
      rw [List.getElem?_map, hev] at e2
      cases e2
      exact hd
    have S2 := s1.trans s2
    refine ⟨_, rfl, c, dx, _, rfl, S2 _ _ h1, c, C, es, ts, rfl, S2.case hC, fun v0 H3 s3 hv0 => ?_⟩
    have S3 := S2.trans s3
    refine ⟨_, rfl, c, dx, _, rfl, S3 _ _ h1, c, C, es, ts, rfl, S3.case hC, fun v1 H4 s4 hv1 => ?_⟩
    have S4 := S3.trans s4
    refine ⟨_, rfl, c, dx, _, rfl, S4 _ _ h1, c, C, es, ts, rfl, S4.case hC, fun H5 s5 => ?_⟩
    have S5 := S4.trans s5
    refine ⟨_, rfl, c, dx, _, rfl, S5 _ _ h1, rfl, c, C, es, ts, rfl, S5.case hC, fun v3 H6 s6 hv3 => ?_⟩
    have S6 := S5.trans s6
    refine ⟨_, rfl, _, rfl, c, dx, _, rfl, S6 _ _ h1, c, C, es, ts, rfl, S6.case hC, (es.length : Nat), rfl, by omega, by omega, small (by simp), fun l hl => ?_⟩
    have s7 := Same.new (o := .lst [v0, v1, .str (lastT ts).text, v3, .ref D, .int (es.length : Nat)]) hl
    have S37 := s3.trans (s4.trans (s5.trans (s6.trans s7)))
    exact k _ _ (S6.trans s7) ⟨l, D, v0, v1, v3, ws, rfl, upd_same, (s4.trans (s5.trans (s6.trans s7))).dt hv0, (s5.trans (s6.trans s7)).dt hv1, s7.dt hv3, S37 _ _ hD2, S37.dts hds⟩ fun l' ys wl e q z => by cases e; rw [upd_same] at q; cases q; cases z; exact s1.free hD
end
end DD
namespace DD
open PySem PySem.Spec
open PyProof.Rows L2
section
variable {base : Heap} {mg : Str → Option Value} {K : PySem.W.Frag} {w : World} {P : Program}
theorem m_iadd (T : Txt w K mg) : Meth K (c_Case K) (dunderI Operator.Add.info.2) (a_Case_iadd K) := by
  have e : dunderI Operator.Add.info.2 = Str.ofString "__iadd__" := by decide +kernel
  rw [e]; exact T.m_Case_iadd
theorem m_isub (T : Txt w K mg) : Meth K (c_Case K) (dunderI Operator.Sub.info.2) (a_Case_isub K) := by
  have e : dunderI Operator.Sub.info.2 = Str.ofString "__isub__" := by decide +kernel
  rw [e]; exact T.m_Case_isub
theorem case_ne_d {H : Hp} {c : Addr} {C : Ct} {es : List Ev} {ts : List Tm} {g : Dw} {n : Nat} (h : CaseAt K H c C es ts) (hd : DrawAt H g n) : c ≠ g.d ∧ c ≠ g.cl := by
  obtain ⟨dx, ct, el, sl, h1, _⟩ := h
  obtain ⟨_, _, _, _, h2, h3, _⟩ := hd
  exact ⟨fun z => (by rw [z, h2] at h1; cases h1), fun z => (by rw [z, h3] at h1; cases h1)⟩
theorem case_ne_w {H : Hp} {c : Addr} {C : Ct} {es : List Ev} {ts : List Tm} {W : Ww} {l dd sn : Int} (h : CaseAt K H c C es ts) (hw : WorldAt K H W l dd sn) : c ≠ W.d := by
  obtain ⟨dx, ct, el, sl, h1, _⟩ := h
  exact fun z => by rw [z, hw.1] at h1; cases h1
theorem case_fr {H H' : Hp} {c : Addr} {C : Ct} {es : List Ev} {ts : List Tm} {g : Dw} {n : Nat} (h : CaseAt K H c C es ts) (hd : DrawAt H g n) (f : Fr [g.d] H H') : CaseAt K H' c C es ts := (hd.kp f).case (fun u e => f _ _ (by simpa using (case_ne_d h hd).1) e) h
/-! ### events come -/
def sp_L_led (K : PySem.W.Frag) : Sp := fun vs H Q _ => ∃ (g : Dw) (c : Addr) (W : Ww) (n m : Nat) (l dd sn : Int) (C : Ct) (es : List Ev) (ts : List Tm), vs = [.ref g.d, .ref c, .ref W.d, .int (m : Nat)] ∧ m ≤ 8 ∧ DrawAt H g n ∧ n < 90000000 ∧ WorldAt K H W l dd sn ∧ W.d ≠ g.d ∧ CaseAt K H c C es ts ∧ C.pp = W.pp ∧ C.rn = W.rn ∧ es.length ≤ 900 ∧
  ∀ v es' ts' H', Fr [g.d, c] H H' → DrawAt H' g (n + 9) → CaseAt K H' c C es' ts' → es.length < es'.length → es'.length ≤ es.length + 9 → ShAt K H' v es' ts' → Q v H'
theorem ok_L_led (T : Txt w K mg) : FnOk P w K mg base CX0 100 (a_L_led K) (fdOf K (a_L_led K)) ps_L_led (sp_L_led K) := by
  have G_L_row := ok_L_row (P := P) (base := base) T
  have G_L_event := ok_L_event (P := P) (base := base) T
  have G_L_shown := ok_L_shown (P := P) (base := base) T
  have G_Case_iadd := ok_Case_iadd (P := P) (base := base) T
  refine ok0 T.f_L_led sc_L_led (fun vs H Q E h => ?_) (fun cdv A outer s H vs Q E hr h => ?_)
  · obtain ⟨_, _, _, _, _, _, _, _, _, _, _, rfl, _⟩ := h; rfl
  · obtain ⟨g, c, W, n, m, l, dd, sn, C, es, ts, rfl, hm, hd, hn, hw, ne, hC, epp, ern, hel, k⟩ := h
    have hr_L_row : Room 3 _ := hr.mono (by omega)
    have hr_L_event : Room 8 _ := hr.mono (by omega)
    have hr_L_shown : Room 45 _ := hr.mono (by omega)
    have hr_Case_iadd : Room 99 _ := hr
    refine ⟨_, (pss_cons (ps_for PassesOwn.never rfl (k_piL K (pe_op (k_add K) (pe_call G_L_row hr_L_row rfl T.g_L_row T.k_L_row T.b_L_row .nil pass0 (pa_cons (pv 0) (pa_cons (pv 2) (pa_cons (pv 3) pa_nil)))) (pe_lst (pa_cons (pe_tup (pa_cons pe_str pa_nil)) pa_nil)))) (pg_name (i := 4) sc_L_led.nd rfl (Or.inl rfl) (Or.inl rfl)) (pss_one (ps_augO (i := 1) (ip_own T.x_self_Case (m_iadd T) G_Case_iadd hr_Case_iadd T.b_Case_iadd pass0) sc_L_led.nd rfl (Or.inl rfl) (pe_call G_L_event hr_L_event rfl T.g_L_event T.k_L_event T.b_L_event .nil pass0 (pa_cons (pv 4) pa_nil))))) (pss_one (ps_ret (pe_call G_L_shown hr_L_shown rfl T.g_L_shown T.k_L_shown T.b_L_shown .nil pass0 (pa_cons (pv 1) pa_nil))))), ?_⟩
    refine ⟨_, rfl, _, rfl, _, rfl, g, W, n, m, l, dd, sn, rfl, hm, hd, hn, hw, ne, fun a evs H1 f1 d1 ⟨lv, hlv, hdt, heo⟩ hvl ha => ⟨small (by simp), fun t ht => ⟨small (by simp), fun dl hdl => ?_⟩⟩⟩
    have s2 := Same.new (o := .tup [.str "day"]) ht
    have s3 := Same.new (o := .lst [.ref t]) hdl
    have lvl : lv.length = evs.length := by rw [dps_len hdt, List.length_map]
    refine catL ((s2.trans s3) _ _ hlv) upd_same (by simp; omega) fun r hr' => ⟨r, rfl, ⟨_, SqL.of upd_same⟩, ?_⟩
    have s4 := Same.new (o := .lst (lv ++ [.ref t])) hr'
    have S := s2.trans (s3.trans s4)
    have hev : DTs K (upd (upd (upd H1 t (.tup [.str "day"])) dl (.lst [.ref t])) r (.lst (lv ++ [.ref t]))) (lv ++ [.ref t]) ((evs ++ [Ev.day]).map Ev.d) := by
      rw [List.map_append]
      exact dps_append (S.dts hdt) (.cons ((s3.trans s4).dt (ev_dt (e := .day) upd_same)) .nil)
    have e4 : (upd (upd (upd H1 t (.tup [.str "day"])) dl (.lst [.ref t])) r (.lst (lv ++ [.ref t]))) r = some (.lst (lv ++ [.ref t])) := upd_same
    have C4 := S.case (case_fr hC hd f1)
    have d4 := S.draw d1
    have f4 := f1.trans S.fr
    generalize (upd (upd (upd H1 t (.tup [.str "day"])) dl (.lst [.ref t])) r (.lst (lv ++ [.ref t]))) = H4 at S hev e4 C4 d4 f4 ⊢
    have hok : ∀ e ∈ evs ++ [Ev.day], EvOk C.pp C.rn e := fun e he => by
      rw [epp, ern]
      rcases List.mem_append.mp he with h | h
      · exact heo e h
      · rw [List.mem_singleton.mp h]; trivial
    have hC3 : C.Ok := by obtain ⟨_, _, _, _, _, _, h, _⟩ := hC; exact h
    have ncd := case_ne_d C4 d4
    refine for_it (walk_list (xs := lv ++ [.ref t])) (fun i σ H' => ∃ x4 es' ts', σ = [some (.ref g.d), some (.ref c), some (.ref W.d), some (.int (m : Nat)), x4] ∧ Fr [c] H4 H' ∧ CaseAt K H' c C es' ts' ∧ es'.length = es.length + i) ⟨none, es, ts, rfl, Fr.refl _ _, C4, rfl⟩ (fun i σ H' _ ⟨_, _, _, _, f, _⟩ => SqL.of ((kp1 f (case_ng C4)) _ _ e4 trivial)) ?_ ?_
    · rintro i v σ Ha Hb hi ⟨x4, es', ts', rfl, fa, Ca, la⟩ ⟨rfl, hv⟩
      have ka := kp1 fa (case_ng C4)
      obtain ⟨d, h1, h2⟩ := dps_get hev hv
      rw [List.getElem?_map] at h1
      cases q : (evs ++ [Ev.day])[i]? with
      | none => rw [q] at h1; cases h1
      | some e =>
        rw [q] at h1; cases h1
        have heok := hok e (List.mem_of_getElem? q)
        have hil : i < 9 := by simp at hi; omega
        refine ⟨_, rfl, _, rfl, v, e, C.nm, C.pp, C.rn, rfl, ka.kt.dt h2, CtOk.cn hC3, heok, fun x Hc sc hx => ?_⟩
        obtain ⟨dx, ct, el, sl, q1, _⟩ := id Ca
        refine ⟨c, dx, _, rfl, sc _ _ q1, c, x, C, es', ts', e, rfl, sc.case Ca, hx, heok, by omega, fun t Hd fd hC' => ⟨⟨_, rfl⟩, _, _, _, rfl, (fa.trans sc.fr).trans fd, hC', by simp; omega⟩⟩
    · rintro σ Ha ⟨x4, es', ts', rfl, fa, Ca, la⟩
      refine ⟨_, rfl, c, C, es', ts', rfl, Ca, fun v Hb sb hsh _ => ?_⟩
      have hl : (lv ++ [V.ref t]).length = evs.length + 1 := by simp [lvl]
      exact k v es' ts' Hb (((f4.mono (by simp)).trans (fa.mono (by simp))).trans sb.fr) (sb.draw (d4.stay fa (by simpa using Ne.symm ncd.1) (by simpa using Ne.symm ncd.2))) (sb.case Ca) (by omega) (by omega) hsh
/-! ### events taken back -/
def sp_L_back (K : PySem.W.Frag) : Sp := fun vs H Q _ => ∃ (c : Addr) (k : Nat) (C : Ct) (es : List Ev) (ts : List Tm), vs = [.ref c, .int (k : Nat)] ∧ CaseAt K H c C es ts ∧ 1 ≤ k ∧ k ≤ es.length ∧
  ∀ v H', Fr [c] H H' → CaseAt K H' c C (es.take (es.length - k)) (ts.take (ts.length - k)) → ShAt K H' v (es.take (es.length - k)) (ts.take (ts.length - k)) → Q v H'
theorem ok_L_back (T : Txt w K mg) : FnOk P w K mg base CX0 46 (a_L_back K) (fdOf K (a_L_back K)) ps_L_back (sp_L_back K) := by
  have G_L_shown := ok_L_shown (P := P) (base := base) T
  have G_Case_isub := ok_Case_isub (P := P) (base := base) T
  refine ok0 T.f_L_back sc_L_back (fun vs H Q E h => ?_) (fun cdv A outer s H vs Q E hr h => ?_)
  · obtain ⟨_, _, _, _, _, rfl, _⟩ := h; rfl
  · obtain ⟨c, i, C, es, ts, rfl, hC, h1, h2, k⟩ := h
    have hr_L_shown : Room 45 _ := hr
    have hr_Case_isub : Room 3 _ := hr.mono (by omega)
    refine ⟨_, (pss_cons (ps_augO (i := 0) (ip_own T.x_self_Case (m_isub T) G_Case_isub hr_Case_isub T.b_Case_isub pass0) sc_L_back.nd rfl (Or.inl rfl) (pv 1)) (pss_one (ps_ret (pe_call G_L_shown hr_L_shown rfl T.g_L_shown T.k_L_shown T.b_L_shown .nil pass0 (pa_cons (pv 0) pa_nil))))), ?_⟩
    obtain ⟨dx, ct, el, sl, q1, _⟩ := id hC
    refine ⟨_, rfl, _, rfl, c, dx, _, rfl, q1, c, i, C, es, ts, rfl, hC, h1, h2, fun H1 f1 C1 => ⟨⟨_, rfl⟩, ?_⟩⟩
    exact ⟨_, rfl, c, C, _, _, rfl, C1, fun v H2 s2 hsh _ => k v H2 (f1.trans s2.fr) (s2.case C1) hsh⟩
end
end DD
namespace DD
open PySem PySem.Spec
open PyProof.Rows L2
/-! ## a with statement over an instance, whatever its body does -/
/-- a def that runs also while an exception is handled -/
structure FnX (P : Program) (w : World) (K : PySem.W.Frag) (mg : Str → Option Value) (base : Heap) (k : Nat) (f : Addr) (fd : FuncData) (ps : List Str) (sp : Sp) : Prop where
  len : (∀ vs H Q E, sp vs H Q E → vs.length = ps.length)
  go : ∀ (A : Around) (outer : List Env) (s : Shared) (H : Hp) (us : List Value) (vs : List V) (Q : VK) (p : Addr × Obj), L2H.RoomH k A → L2H.PinOk outer H s p → Env0 P w K mg base A outer s H → BindsTo s fd ⟨us, []⟩ (ps.zip us) → Vals vs us → sp vs H Q E0 →
    codeAny (model P w) A (.call (.ref f) ⟨us, []⟩) (CR CX0 outer P w H s Q E0) s
theorem okX {P : Program} {w : World} {K : PySem.W.Frag} {mg : Str → Option Value} {base : Heap} {x qual : Str} {params : Arguments} {body : List Stmt} {scope : Scope} {f : Addr} {fd : FuncData} {N ps : List Str} {k : Nat} {sp : Sp} (F : FunD K x qual params body scope [] [] f fd) (S : FnScope N ps scope) (len : ∀ vs H Q E, sp vs H Q E → vs.length = ps.length)
    (hb : ∀ (cdv : Value) (A : Around) (outer : List Env) (s : Shared) (H : Hp) (vs : List V) (Q : VK) (p : Addr × Obj), L2H.RoomH k (A.deeper (envOfC qual scope s.heap.objs.size f cdv)) → sp vs H Q E0 →
      ∃ t, PSs (L2H.cxH CX0 P w K mg base N qual scope f cdv A outer s H E0 p) body t ∧ t { nx := fun _ H' => Q .non H', rt := Q } (start N vs) H) : FnX P w K mg base (k + 1) f fd ps sp := by
  obtain ⟨oc, od, dV, kV, doc, pm, an, cdv, ct, osl, rfl, lk, hcd, _⟩ := F.ex
  refine ⟨len, fun A outer s H us vs Q p room pin e0 bd rel promise => ?_⟩
  have hl := len _ _ _ _ promise
  have inK : K.In s.heap := e0.mod.kin.keeps fun b o e => (e0.bs b o e).1
  have nolim : s.heap.NoLimit := e0.mod.nolimit.keeps fun b o e => (e0.bs b o e).1
  have kinds : ∀ y ∈ ps.zip us, scope.names.lookup y.1 = some .local ∨ (scope.names.lookup y.1 = some .cell ∧ ((cellsFrom (s.heap.objs.size + 1) scope.names []).lookup y.1).isSome = true) := by
    rintro ⟨n, v⟩ hy
    (rcases S.par n (List.of_mem_zip hy).1 with q | q)
    · exact .inl q
    · (exact .inr ⟨q, PySem.W.cellsFrom_some _ _ _ (.inl q)⟩)
  refine codeAny_call_function room.depth (inK _ _ lk) rfl S.co S.gen rfl (PySem.W.codeRec_of inK hcd) (bd _ _ _ _ ?_)
  refine wpAny_newFunctionEnv_cells S.kind kinds fun env he s1 made => ?_
  subst he
  refine ⟨nolim.keeps made.toInCall.keep, codeAny_func ?_⟩
  obtain ⟨t, ht, hq⟩ := hb cdv A outer s H vs Q p (room.deeper _) promise
  have I := L2H.inv_startH (CX := CX0) (E := E0) (cd := cdv) (f := f) S pin e0 hl rel made
  (refine wpAny_mono (ht.run [] s1 (L2.start N vs) H _ I hq) (fun fl s' hs => ?_) fun e s' hs => hs)
  cases fl with
  | ret u => obtain ⟨v, σ', H', J, rv, q⟩ := hs; exact ⟨v, H', J.os, J.bare, J.base, J.hok, rv, q⟩
  | next => obtain ⟨σ', H', J, q⟩ := hs; exact ⟨.non, H', J.os, J.bare, J.base, J.hok, rfl, q⟩
  | brk => obtain ⟨_, _, _, q⟩ := hs; exact q.elim
  | cont => obtain ⟨_, _, _, q⟩ := hs; exact q.elim
/-- what is wanted: spE is __enter__'s promise, spX is __exit__'s -/
def tWith (C : Addr) (spE spX : Sp) (i : Nat) (te : TE) (tb : WX → TS) (Wout : WX) : TS := fun D σ H => te σ H fun x H1 => ∃ m dx fs, x = V.ref m ∧ H1 m = some (.ins C dx fs) ∧ spE [.ref m] H1 (fun v H2 =>
  tb (fun cls d σ' H' => (∃ c : Addr, cls = .ref c) ∧ ∀ u1 u2 u3, spX [.ref m, u1, u2, u3] H' (fun v H'' => v = .non ∧ Wout cls d σ' H'') E0)
    { nx := fun σ' H' => spX [.ref m, .non, .non, .non] H' (fun _ H'' => D.nx σ' H'') E0, rt := fun _ _ => False } (σ.set i (some v)) H2) E0
section
variable {X : Cx} {C fe fx : Addr} {kE kX : Nat} {fdE fdX : FuncData} {psE psX : List Str} {spE spX : Sp} {ctx : Expr} {y : Str} {py pos : Pos} {i : Nat} {body : List Stmt} {te : TE} {tb : WX → TS} {Wout : WX}
theorem ps_with (hs : X.stack = X.env :: X.outer) (hf : X.env.frame = some X.env.locals) (hN : X.N.Nodup) (hi : X.N[i]? = some y) (hly : X.env.scope.names.lookup y = some .local) (hd : X.A.handled = none) (he : PE X ctx te) (me : Meth X.K C "__enter__" fe) (mx : Meth X.K C "__exit__" fx)
    (FE : FnOk X.prog X.w X.K X.mg X.base CX0 kE fe fdE psE spE) (rE : Room kE X.A) (bE : Binds X.K fdE psE []) (FX : FnOk X.prog X.w X.K X.mg X.base CX0 kX fx fdX psX spX) (rX : Room kX X.A) (bX : Binds X.K fdX psX []) (FH : FnX X.prog X.w X.K X.mg X.base kX fx fdX psX spX) (tk : Takes X Wout)
    (hb : ∀ (W : WX) (pn : List (Addr × Obj)) (xe : Value → Shared → Prop), Takes (X.tr pn xe) W → PSs (X.tr pn xe) body (tb W)) : PS X (.With [⟨ctx, some (.Name y py)⟩] body pos) (tWith C spE spX i te tb Wout) := by
  (refine ⟨fun pins s σ H D I h => ?_⟩)
  have ok := I.ok
  refine PySem.W.kw_execN (wpAny_mono (he.run pins s σ H _ I h) (fun u s1 hu => ?_) fun _ _ z => z)
  obtain ⟨x, H1, I1, rx, m, dx, fs, rfl, em, q⟩ := hu
  (obtain rfl : u = Value.ref m := rx)
  obtain ⟨od, J⟩ := inst_at I1 em
  obtain ⟨cd, hcd, ae⟩ := PySem.W.kw_along me.at_
  obtain ⟨cd', hcd', ax⟩ := PySem.W.kw_along mx.at_
  cases hcd.symm.trans hcd'
  have X1 := I1.kIn
  have goE : wpAny (model X.prog X.w) X.A (call (.ref fe) [.ref m]) (EP X pins σ (fun v H2 =>
    tb (fun cls d σ' H' => (∃ c : Addr, cls = .ref c) ∧ ∀ u1 u2 u3, spX [.ref m, u1, u2, u3] H' (fun v H'' => v = .non ∧ Wout cls d σ' H'') E0)
      { nx := fun σ' H' => spX [.ref m, .non, .non, .non] H' (fun _ H'' => D.nx σ' H'') E0, rt := fun _ _ => False } (σ.set i (some v)) H2)) X.xe s1 := run_fn (ds := []) (dvs := []) (vs := [.ref m]) FE rE bE .nil pass0 I1 (.cons rfl .nil) (by simpa using q)
  have L1 : PySem.W.Looks (model X.prog X.w) s1.heap (specialOnItsLine (.ref m) "__enter__") (some (.ref fe), cd.mro) := PySem.W.kw_special X1 J hcd ae
  have L2' : PySem.W.Looks (model X.prog X.w) s1.heap (specialOnItsLine (.ref m) "__exit__") (some (.ref fx), cd.mro) := PySem.W.kw_special X1 J hcd ax
  have L3 : PySem.W.Looks (model X.prog X.w) s1.heap (bindSpecial (.ref fe) (.ref m)) (.ref fe, [.ref m]) := PySem.W.bind_fn X1 _ (beq_iff_eq.mp me.fn)
  have L4 : PySem.W.Looks (model X.prog X.w) s1.heap (bindSpecial (.ref fx) (.ref m)) (.ref fx, [.ref m]) := PySem.W.bind_fn X1 _ (beq_iff_eq.mp mx.fn)
  have L5 : PySem.W.Looks (model X.prog X.w) s1.heap (aMethodOfAnotherBuiltinTypeStops (.ref fe) cd.mro) () := PySem.W.Looks.of_pure rfl
  have L6 : PySem.W.Looks (model X.prog X.w) s1.heap (aMethodOfAnotherBuiltinTypeStops (.ref fx) cd.mro) () := PySem.W.Looks.of_pure rfl
  clear I1 em X1 J
  obtain ⟨hh, g, dr, tt, os⟩ := s1
  unfold PySem.W.KwIn withItem
  (refine wpAny_bind (wpAny_pure ?_))
  (refine wpAny_bind (wpAny_standAt ?_))
  (simp only [Bool.false_eq_true, if_false])
  kw_lk
  refine wpAny_mono goE (fun v0 s2 hv => ?_) fun _ _ z => z
  obtain ⟨v, H2, I2, rv, tq⟩ := hv
  (refine wpAny_bind (wpAny_pure ?_))
  refine wpAny_bind (wpAny_attempt (PySem.W.kw_held ?_))
  refine wpAny_bind (wpAny_assign_Name (store_ok I2 hN hi (.inl hly) rv (fun s3 I3 => ?_) (.inr hly)))
  refine wpAny_mono ((hb _ (X.pn ++ pins) (XE X (fun cls d σ' H' => (∃ c : Addr, cls = .ref c) ∧ ∀ u1 u2 u3, spX [.ref m, u1, u2, u3] H' (fun v H'' => v = .non ∧ Wout cls d σ' H'') E0)) (fun u s' xx => ?tak)).run [] s3 (σ.set i (some v)) H2 _ (I3.toTry _) tq) (fun f s4 hsp => ?fine) (fun e s4 he => ?bad)
  case tak =>
    obtain ⟨a, B, sI, pins', σ', H', cls, d, rfl, J', r⟩ := xx
    exact ⟨a, B, sI, pins, σ', H', cls, d, rfl, J'.ofTry ok, r⟩
  case fine =>
    cases f with
    | next =>
      obtain ⟨σ', H', J', q4⟩ := hsp
      refine wpAny_bind (wpAny_standAt (wpAny_bind (wpAny_holding (wpAny_mono (run_fn (ds := []) (dvs := []) (us := [.ref m, .none, .none, .none]) (vs := [.ref m, .non, .non, .non]) FX rX bX .nil pass0 (J'.ofTry ok) (.cons rfl (.cons rfl (.cons rfl (.cons rfl .nil)))) (by simpa using q4)) (fun u5 s5 h5 => wpAny_pure ?_) fun _ _ z => z))))
      obtain ⟨v5, H5, J5, _, q5⟩ := h5
      exact ⟨σ', H5, J5, q5⟩
    | brk => obtain ⟨_, _, _, q4⟩ := hsp; exact q4.elim
    | cont => obtain ⟨_, _, _, q4⟩ := hsp; exact q4.elim
    | ret u => obtain ⟨_, _, _, _, _, q4⟩ := hsp; exact q4.elim
  case bad =>
    obtain ⟨a, B, sI, pins', σ', H', cls, d, rfl, JI, nb, up, sky, na, hos, ag, ⟨ce, rfl⟩, wx⟩ := he
    (have hfr : X.A.frames = some (X.env :: X.outer) := by rw [ok.frames, hs])
    have sky' : Sky B (X.env :: X.outer) a (Zc (.ref ce) d) X.env.locals s4.heap := by rw [← hs]; exact sky
    refine wpAny_bind ?_
    have step : ∀ {Q : Unit → Shared → Prop}, (∀ h3, HandSPX.FlyingZ B (X.env :: X.outer) a (Zc (.ref ce) d) h3 → s4.heap.UpToSlots h3 → Q () { s4 with heap := h3 }) → wpAny (model X.prog X.w) X.A (noteFrame (.ref a) X.env) (fun _ s2 => wpAny (model X.prog X.w) X.A (setFlight (.ref a) none) Q X.xe s2) X.xe s4 := fun {Q} hQ => Sky.land Zc.steady hfr hf sky' hQ
    refine wpAny_mono (step (Q := fun _ s5 => ∃ h3, HandSPX.FlyingZ B (X.env :: X.outer) a (Zc (.ref ce) d) h3 ∧ s4.heap.UpToSlots h3 ∧ s5 = { s4 with heap := h3 }) fun h3 f3 u3 => ⟨h3, f3, u3, rfl⟩) (fun _ s5 h5 => wpAny_bind (wpAny_mono h5 (fun _ s6 h6 => ?_) fun _ _ z => z)) fun _ _ z => z
    obtain ⟨h3, fl3, up3, rfl⟩ := h6
    have J3 : Inv X pins' σ' H' { s4 with heap := h3 } := JI.landed nb fl3.1 (up.trans up3) hos ag
    obtain ⟨oe3, vs3, Tb, oT, ts, he3, hz3, hd3, h1, hnT, hTe, hT, hdT, hfl⟩ := id fl3.2.2.2
    have nofr : ∀ {h : Heap} {b : Addr} {o : Obj} {vs : Array Value}, h.FunFrames B (X.env :: X.outer) → h.get? b = some o → o.data = .fields vs → b ∉ frs X.stack := fun {h b o vs} ff e dd hm => by
      rw [hs] at hm
      (obtain ⟨_, o', e', hnf⟩ := ff.mem hm)
      rw [e] at e'; cases e'
      exact hnf _ dd
    have na3 : a ∉ frs X.stack := nofr fl3.2.2.1 he3 hd3
    have nT3 : Tb ∉ frs X.stack := nofr fl3.2.2.1 hT hdT
    have nT : H' Tb = none := by
      cases z : H' Tb with
      | none => rfl
      | some o =>
        obtain ⟨ob, hob⟩ := objOk_get (JI.inGround nb Tb o z)
        rw [hnT] at hob; cases hob
    refine wpAny_bind (wpAny_standAt (wpAny_holding ?_))
    refine wpAny_bind (wpAny_typeOf_ref he3 ?_)
    rw [hz3.1]
    have tback : ∀ {Q : Value → Shared → Prop}, (∀ u3, (∃ v3, RelV v3 u3) → Q u3 { s4 with heap := h3 }) → wpAny (model X.prog X.w) X.A (tracebackOf (.ref a)) Q X.xe { s4 with heap := h3 } := fun {Q} hQ => by
      unfold tracebackOf
      refine wpAny_bind (wpAny_field he3 hd3 h1 ?_)
      have h3' := (Array.getElem?_eq_some_iff.mp hfl).1
      obtain ⟨x1, hx1⟩ : ∃ x1, ts[1]? = some x1 := ⟨ts[1], Array.getElem?_eq_getElem (by omega)⟩
      refine wpAny_bind (wpAny_field hT hdT hx1 ?_)
      by_cases z : (x1 == Value.none) = true
      · rw [if_pos z]
        exact wpAny_pure (hQ _ ⟨.non, rfl⟩)
      · rw [if_neg z]
        exact wpAny_pure (hQ _ ⟨.ref Tb, rfl⟩)
    refine wpAny_bind (tback fun u3 ⟨v3, r3⟩ => ?_)
    unfold withItem.marked
    have prom := wx (.ref ce) (.ref a) v3
    have hlen : ([Value.ref m, .ref ce, .ref a, u3] : List Value).length = psX.length := FX.len _ _ _ _ prom
    have bd := bX { s4 with heap := h3 } [.ref m, .ref ce, .ref a, u3] J3.kIn (by rw [List.append_nil]; exact hlen)
    rw [List.append_nil] at bd
    have e3 := J3.env0
    have E3 : Env0 X.prog X.w X.K X.mg X.base (X.A.mark (some (.ref a))) X.stack { s4 with heap := h3 } H' := ⟨e3.frames, e3.mod, e3.bs, e3.bsz, e3.funs, e3.frf, e3.hok, e3.bare⟩
    have ran := FH.go (X.A.mark (some (.ref a))) X.stack { s4 with heap := h3 } H' _ [.ref m, .ref ce, .ref a, v3] _ (a, oe3) ⟨rX.dp, rX.un⟩ ⟨he3, na, na3, fun v z => by rw [hd3] at z; cases z⟩ E3 bd (.cons rfl (.cons rfl (.cons rfl (.cons r3 .nil)))) prom
    refine wpAny_bind (wpAny_bind (wpAny_run (codeAny_mono ran fun r s7 hq => ?_)))
    cases r with
    | error e => exact hq.elim
    | ok fl => cases fl with
      | next => exact hq.elim
      | brk => exact hq.elim
      | cont => exact hq.elim
      | ret u7 =>
        obtain ⟨v7, H7, os7, bare7, un7, hok7, rv7, rfl, wout⟩ := hq
        obtain rfl : u7 = Value.none := rv7
        refine wpAny_pure (wpAny_bind (wpAny_pure ?_))
        (refine wpAny_bind (wpAny_pure ?_))
        (rw [if_neg Bool.false_ne_true])
        have a7 := un7.keep a oe3 he3 na na3 (by simp)
        have T7 := un7.keep Tb oT hT nT nT3 (by simp)
        have Ha7 : H7 a = none := un7.free a oe3 he3 na (by simp)
        have HT7 : H7 Tb = none := un7.free Tb oT hT nT (by simp)
        obtain ⟨_, _, J7, _, _⟩ := J3.after (Q := fun _ H => H = H7) (u := .none) ⟨.non, H7, os7, bare7, un7, hok7, rfl, rfl⟩
        obtain ⟨G, g1, g2⟩ := restrict s7.heap fun b => decide (b ≠ a) && decide (b ≠ Tb)
        obtain ⟨B7, b1, b2⟩ := restrict s7.heap fun b => (decide (b ≠ a) && decide (b ≠ Tb)) && decide (b ∉ frs X.stack)
        have gk : ∀ b, b ≠ a → b ≠ Tb → G.get? b = s7.heap.get? b := fun b x y => g1 b (by simp [x, y])
        have gof : ∀ b o, G.get? b = some o → s7.heap.get? b = some o ∧ b ≠ a ∧ b ≠ Tb := fun b o e => by
          cases z : (decide (b ≠ a) && decide (b ≠ Tb)) with
          | false => rw [g2 b z] at e; cases e
          | true =>
            rw [g1 b z] at e
            exact ⟨e, by simpa using z⟩
        have bof : ∀ b o, B7.get? b = some o → s7.heap.get? b = some o := fun b o e => by
          cases z : ((decide (b ≠ a) && decide (b ≠ Tb)) && decide (b ∉ frs X.stack)) with
          | false => rw [b2 b z] at e; cases e
          | true => rw [b1 b z] at e; exact e
        have inB : ∀ b o, sI.heap.get? b = some o → b ∉ frs X.stack → h3.get? b = some o ∧ b ≠ a ∧ b ≠ Tb := fun b o e hm => by
          have q := nb b o e hm
          exact ⟨fl3.1 b o q, fun z => (by rw [z, fl3.2.1] at q; cases q), fun z => (by rw [z, hnT] at q; cases q)⟩
        have inF : ∀ b o, sI.heap.get? b = some o → b ∈ frs X.stack → (∃ sl, h3.get? b = some { o with slots := sl }) ∧ b ≠ a ∧ b ≠ Tb := fun b o e hm => by
          obtain ⟨_, o', e', hnf⟩ := JI.stack.mem hm
          rw [e] at e'; cases e'
          exact ⟨(up.trans up3) b o e hnf, fun z => na3 (z ▸ hm), fun z => nT3 (z ▸ hm)⟩
        have Jn : Inv X pins' σ' H7 { sI with heap := G, gens := s7.gens, drawn := s7.drawn, toks := s7.toks } := by
          refine JI.call (ch := []) ⟨fun b o e n hm _ => ?_, fun b o e n hm _ => ?_, fun b o e n _ => ?_, fun b o e _ => ?_, un7.tups, un7.frzs, un7.tbls⟩ (fun b o q => ?_) bare7 (fun _ z => nomatch z)
          · obtain ⟨e3, x, y⟩ := inB b o e hm
            rw [gk b x y]; exact un7.keep b o e3 n hm (by simp)
          · obtain ⟨⟨sl, e3⟩, x, y⟩ := inF b o e hm
            obtain ⟨sl2, e7⟩ := un7.slot b _ e3 n hm (by simp)
            exact ⟨sl2, by rw [gk b x y]; exact e7⟩
          · by_cases hm : b ∈ frs X.stack
            · obtain ⟨⟨sl, e3⟩, _⟩ := inF b o e hm
              exact un7.free b _ e3 n (by simp)
            · exact un7.free b o (inB b o e hm).1 n (by simp)
          · by_cases hm : b ∈ frs X.stack
            · obtain ⟨⟨sl, e3⟩, x, y⟩ := inF b o e hm
              obtain ⟨o7, e7⟩ := un7.there b _ e3 (by simp)
              exact ⟨o7, by rw [gk b x y]; exact e7⟩
            · obtain ⟨e3, x, y⟩ := inB b o e hm
              obtain ⟨o7, e7⟩ := un7.there b _ e3 (by simp)
              exact ⟨o7, by rw [gk b x y]; exact e7⟩
          · refine (hok7 b o q).stay (fun c u hc r => ?_) (fun _ r => r) fun _ _ r => r
            have hc' : H7 c ≠ none := by
              rcases hc with rfl | hc
              · rw [q]; exact nofun
              · rw [hc]; exact nofun
            rw [gk c (fun z => hc' (z ▸ Ha7)) (fun z => hc' (z ▸ HT7))]
            exact r
        have fl7 : HandSPX.FlyingZ B7 (X.env :: X.outer) a (Zc (.ref ce) d) s7.heap := by
          refine ⟨bof, b2 a (by simp), ?_, oe3, vs3, Tb, oT, ts, a7, hz3, hd3, h1, b2 Tb (by simp), hTe, T7, hdT, hfl⟩
          rw [← hs]
          exact funFrames_none J7.stack fun L hL => b2 L (by simp [hL])
        have fin : wpAny (model X.prog X.w) X.A (setFlight (.ref a) X.env.frame) (fun _ s8 => wpAny (model X.prog X.w) X.A (throw (.ref a) : Sem Flow) (SP X pins D) X.xe s8) X.xe s7 := by
          rw [hf]
          refine HandSPX.setFlight_upZ fl7 fun h8 hh8 up8 => wpAny_throw (tk _ _ ?_)
          refine ⟨a, B7, _, pins', σ', H7, .ref ce, d, rfl, Jn, fun b o e hm => ?_, (Heap.UpToSlots.of_keeps fun b o e => (gof b o e).1).trans up8, .inr (.inr (by rw [hs]; exact hh8)), Ha7, os7.trans hos, bare7, wout⟩
          obtain ⟨e7, x, y⟩ := gof b o e
          rw [b1 b (by simp [x, y, hm])]; exact e7
        unfold PySem.passOn
        refine wpAny_bind (wpAny_field a7 hd3 h1 ?_)
        rw [if_neg (show ¬ ((Value.ref Tb == Value.none) = true) from by simp)]
        first
          | (exact wpAny_bind (wpAny_pure (wpAny_bind fin)))
          | exact wpAny_bind fin
end
end DD
namespace DD
open PySem PySem.Spec
open PyProof.Rows L2
/-! ## own exceptions over RuntimeError with an __init__ of one store -/
abbrev rtB : List Value := [.type "RuntimeError", .type "Exception", .type "BaseException", .type "object"]
structure ExR (K : PySem.W.Frag) (C fI : Addr) : Prop where
  ini : PySem.W.excInitIn K C rtB "RuntimeError.__new__" = true
  ov : PySem.W.excOver K C rtB = true
  sa : (PySem.W.findIn K (.ref C) "__setattr__" = some (some (.builtin "object.__setattr__")))
  bex : PySem.W.subIn K (.ref C) (.type "BaseException") = some true
  ty : PySem.W.typeIn K (.ref C) = some (.type "type")
  kp : (PySem.W.keepIn K (.ref C) = true)
  hd : (PySem.W.hasDictIn K C = true)
  init : (PySem.W.findIn K (.ref C) "__init__" = some (some (.ref fI)))
  fn : (PySem.W.isFn K (.ref fI) = true)
section
open Builtin.ObjectAttr Builtin
variable {prog : Program} {w : World} {A : Around} {R : Result → Shared → Prop} {hp : Heap} {g : Array GenState} {d : Drawn} {t : Nat} {os : OsState}
theorem osa_one {K : PySem.W.Frag} {name : Str} {tk : Tok} {v : Value} {x C : Addr} {fv : Array Value} (inK : K.In hp) (hx : hp.get? x = some { cls := .ref C, data := .fields fv }) (ov : PySem.W.excOver K C rtB = true) (hh : PySem.W.hasDictIn K C = true) (no : PySem.W.findIn K (.ref C) name = some none)
    (hq : ∀ h' tk' dx, (∀ b o, b ≠ x → hp.get? b = some o → h'.get? b = some o) → hp.objs.size ≤ dx → dx ≠ x → h'.get? x = some { cls := .ref C, dict := some dx, data := .fields fv } → h'.Ns1 dx (fun y => if y = name then some v else none) → R (.ok (.ret .none)) ⟨h', g, d, tk', os⟩) : codeAny (model prog w) A (.call (.builtin "object.__setattr__") ⟨[.ref x, .str name tk, v], []⟩) R ⟨hp, g, d, t, os⟩ := by
  have inst : PySem.W.InstAt hp x { cls := .ref C, data := .fields fv } C none := ⟨hx, rfl, rfl, trivial⟩
  have taker : PySem.W.takerIn K C name = some none := NoAttr.taker no
  obtain ⟨cd, hcd, hdc⟩ := PySem.W.any_some (show (PySem.W.clsIn K C).any (·.hasDict) = true from hh)
  have away : x ≠ hp.objs.size := Nat.ne_of_lt (Heap.lt_size hx)
  refine PySem.W.osa_openX PySem.F.store_RuntimeError (s := ⟨hp, g, d, t, os⟩) inK inst ov taker fun b => ?_
  have cls : PySem.W.Looks (model prog w) hp (classData C) cd := PySem.W.looks_clsIn inK hcd
  show wpAny _ _ (storeInOwnDict (.ref x) (.ref C) (.str name tk) name v b) _ _ _
  obtain ⟨nm, bs, mro, ns, qn, hd0, sn, sb, ab, col, dl⟩ := cd
  dsimp only at hdc
  subst hdc
  (unfold storeInOwnDict ownDictForStores)
  repeat (first | with_reducible refine PySem.HandSPX.store_in_new ?_ ?_ | with_reducible refine wpAny_loadPart_at hx ?_ | with_reducible refine cls.at ?_ | wp_step)
  · exact ⟨_, #[], _, (Heap.get?_update_ne _ _ _ _ away.symm).trans (Heap.get?_push_at rfl rfl), rfl, fun e he => absurd he (by simp), fun _ => rfl⟩
  · intro h' tk' ns' same
    have old : (hp.push { cls := .type "dict", data := .dict #[] }).get? x = some { cls := .ref C, data := .fields fv } := Heap.get?_push_of_some _ hx
    refine hq h' tk' hp.objs.size (fun b o hb ho => ?_) (Nat.le_refl _) away.symm ?_ ns'
    · exact (same.2 b (Nat.ne_of_lt (Heap.lt_size ho))).trans ((Heap.get?_update_ne _ _ _ _ hb).trans (Heap.get?_push_of_some _ ho))
    · exact (same.2 x away).trans (Heap.get?_update_self _ old rfl)
end
section
variable {X : Cx} {pins : List (Addr × Obj)} {σ : L2.St} {H : Hp} {s : Shared} {a C fI : Addr} {f : Str} {y : V} {u : Value}
theorem ost_one {Q : Unit → Shared → Prop} {E : Value → Shared → Prop} {A : Around} (T : ExR X.K C fI) (I : Inv X pins σ H s) (e : H a = some (exo a C none)) (hno : PySem.W.findIn X.K (.ref C) f = some none) (ry : RelV y u) (h : ∀ dx s', H dx = none → dx ≠ a → Inv X pins σ (upd (upd H dx (exd dx [(f, y)])) a (exo a C (some dx))) s' → Q () s') : wpAny (model X.prog X.w) A (setAttr (.ref a) f u) Q E s := by
  (obtain ⟨t1, ho⟩ := exo_at I.hok e)
  obtain ⟨hp, g, d, t, os⟩ := s
  (refine PySem.W.set_plain I.kIn (ox := { cls := .ref C, dict := none, data := .fields #[.ref t1, .none, .none, .none, .bool false, .none] }) (od := none) ⟨ho, rfl, rfl, trivial⟩ T.sa ?_)
  refine osa_one I.kIn ho T.ov T.hd hno fun h' tk' dx k dn dne hx hn => ?_
  have free : H dx = none := I.hok.fresh dn
  (have nd : ∀ {b : Addr} {o : Obj}, hp.get? b = some o → b ≠ dx := fun {b o} q => Nat.ne_of_lt (Nat.lt_of_lt_of_le (Heap.lt_size q) dn))
  have nA : ∀ {b : Addr}, H b = none → b ≠ a := fun {b} n z => (by rw [z, e] at n; cases n)
  have same : ∀ {b : Addr} {o : HO}, H b = some o → o ≠ exo a C none → upd (upd H dx (exd dx [(f, y)])) a (exo a C (some dx)) b = some o := fun {b o} q n => by
    rw [upd_ne (fun z => n (by rw [z, e] at q; exact (Option.some.inj q).symm)), upd_ne (ne_of_none q free)]; exact q
  have un : Un X.fs [] H (upd (upd H dx (exd dx [(f, y)])) a (exo a C (some dx))) hp h' :=
    ⟨fun b o q n _ _ => k b o (nA n) q, fun b o q n _ _ => ⟨o.slots, k b o (nA n) q⟩, fun b o q n _ => (by rw [upd_ne (nA n), upd_ne (nd q)]; exact n),
      fun b o q _ => (if hb : b = a then ⟨_, hb ▸ hx⟩ else ⟨o, k b o hb q⟩), fun b xs q => same q exo_tup.symm, fun b o v q => same q exo_frz.symm, fun b ps q => ⟨#[], by rw [same q exo_tbl.symm]; simp⟩⟩
  refine h dx _ free dne (I.un (t' := tk') un fun b o q => ?_)
  by_cases hb : b = a
  · subst hb; rw [upd_same] at q; cases q; exact exo_ok hx
  rw [upd_ne hb] at q
  by_cases hd : b = dx
  · subst hd; rw [upd_same] at q; cases q
    exact exd_ok hn (relO_put (fs := []) ry fun _ => trivial)
  rw [upd_ne hd] at q
  refine (I.hok b o q).stay (fun c v hc z => k c v (fun ca => ?_) z) (fun c hc => same hc exo_own.symm) fun c xs hc => same hc exo_tup.symm
  rcases hc with hc | hc
  · exact hb (hc.symm.trans ca)
  · rw [ca, e] at hc; exact exo_own (Option.some.inj hc)
end
def tOstR (K : PySem.W.Frag) (C : Addr) (f : Str) (to te : TE) : TS := fun D σ H => te σ H fun y H1 => to σ H1 fun x H2 => ∃ a : Addr, x = .ref a ∧ H2 a = some (exo a C none) ∧ ∀ dx, H2 dx = none → dx ≠ a → D.nx σ (upd (upd H2 dx (exd dx [(f, y)])) a (exo a C (some dx)))
section
variable {X : Cx} {o e : Expr} {es : List Expr} {to te : TE} {ta : TA} {f : Str} {p p' pos : Pos} {C fI : Addr}
theorem ps_ostR (T : ExR X.K C fI) (hno : PySem.W.findIn X.K (.ref C) f = some none) (ho : PE X o to) (he : PE X e te) (hs : swapsWith e (some (.Attribute o f p')) pos.line X.env = pure false := by rfl) : PS X (.Assign [.Attribute o f p'] e pos) (tOstR X.K C f to te) := by
  refine ⟨fun pins s σ H D I h => plainObj_wpAny_Assign_Attribute (thn (he.run pins s σ H _ I h) fun v s1 ⟨y, H1, I1, r1, q1⟩ => thn (ho.run pins s1 σ H1 _ I1 q1) fun u s2 ⟨x, H2, I2, r2, a, ex, ea, q⟩ => ?_) hs⟩
  subst ex
  (obtain rfl : u = Value.ref a := r2)
  exact ost_one T I2 ea hno r1 fun dx s' n ne J => ⟨σ, _, J, q dx n ne⟩
theorem pmk_rt {x : Str} {k : Nat} {fd : FuncData} {ps : List Str} {sp : Sp} (T : ExR X.K C fI) (F1 : FnOk X.prog X.w X.K X.mg X.base CX0 k fI fd ps sp) (hr : Room (k + 1) X.A) (hb : Binds X.K fd ps []) (hg : Gl X x) (hm : X.mg x = some (.ref C)) (ha : PA X (e :: es) ta)
    (hdb : (x == ("__debug__" : Str)) = false := by decide) (he : starEach (e :: es) X.env = (false, eval e X.env) :: starEach es X.env := by rfl) (hpl : (backTo pos (starEach es X.env)).any (·.1) = false := by rfl) : PMk X (.Call (.Name x p) (e :: es) [] pos) (tMkO C sp [] ta) := by
  intro pins s σ H Q I h
  (refine wpAny_Call_Name_kw (ld_glob I hg hm ?_ hdb))
  refine PySem.W.callWith_K (h₀ := X.base) I.ok.mod.kin T.kp (thn (ha.run pos pins s σ H _ I h) fun us s1 ⟨vs, H1, I1, r1, few, q1⟩ => ⟨I1.kIn, ?_⟩) he hpl
  (show wpAny _ _ (call (.ref C) us) _ _ _)
  obtain ⟨nm, N, qn, bs, bm, hdct, sn, sub, ab, col, dd, k0, k1, k2, k3, k5, hC, hT⟩ := PySem.W.excInit_of I1.kIn T.ini
  (obtain ⟨hp, g, dr, tk, os⟩ := s1)
  have up1 : hp.objs.size ≤ hp.objs.size + 1 := Nat.le_succ _
  have n1 : H1 (hp.objs.size + 1) = none := I1.hok.fresh up1
  have q2 := q1 (hp.objs.size + 1) n1
  have keep : ∀ b o, hp.get? b = some o → ((hp.push (PySem.W.kdv_tup us)).push (PySem.HandSPX.excO C hp.objs.size)).get? b = some o := fun b o z => Heap.get?_push_of_some _ (Heap.get?_push_of_some _ z)
  have new : ((hp.push (PySem.W.kdv_tup us)).push (PySem.HandSPX.excO C hp.objs.size)).get? (hp.objs.size + 1) = some (PySem.HandSPX.excO C hp.objs.size) := by heap_get
  have I2 : Inv X pins σ (upd H1 (hp.objs.size + 1) (exo (hp.objs.size + 1) C none)) ⟨(hp.push (PySem.W.kdv_tup us)).push (PySem.HandSPX.excO C hp.objs.size), g, dr, tk, os⟩ := I1.laid (t' := tk) (a := hp.objs.size + 1) (o := exo (hp.objs.size + 1) C none) keep up1 (exo_ok new)
  have r2 : Vals (V.ref (hp.objs.size + 1) :: (vs ++ [])) (Value.ref (hp.objs.size + 1) :: us) := .cons rfl (by rw [List.append_nil]; exact r1)
  have len2 : (Value.ref (hp.objs.size + 1) :: us).length = ps.length := r2.length.symm.trans (F1.len _ _ _ _ q2)
  have bd := hb _ (Value.ref (hp.objs.size + 1) :: us) I2.kIn (by rw [List.append_nil]; exact len2)
  rw [List.append_nil] at bd
  have few2 : us.length ≤ sizeLine := by rw [← Paired.length r1, sizeLine_eq]; omega
  refine wpAny_call (PySem.HandSPX.call_own PySem.F.excBase_RuntimeError hT hC (PySem.W.looks_findIn I1.kIn T.init) (fun self => PySem.W.bind_fn I1.kIn self (beq_iff_eq.mp T.fn)) few2
    (codeAny_mono (F1.run _ X.stack _ _ ⟨Value.ref (hp.objs.size + 1) :: us, []⟩ (Value.ref (hp.objs.size + 1) :: us) _ _ _ (hr.make C us []) (I2.env0.make C us []) bd r2 q2) fun r s' out => ?_))
  cases r with
  | error er => exact False.elim out
  | ok fl =>
    cases fl with
    | next => exact False.elim out
    | brk => exact False.elim out
    | cont => exact False.elim out
    | ret u =>
      obtain ⟨v, H2, os2, bare2, un2, hok2, rv, ev, d, fs, ea, ed, hd1, q3⟩ := out
      subst ev
      (obtain ⟨h2, g2, d2, t2, os'⟩ := s')
      exact ⟨rv, mk_end (raises_own T.bex T.ty) I1 up1 keep un2 hok2 os2 bare2 ea ed hd1 q3⟩
end
section
variable {base : Heap} {mg : Str → Option Value} {K : PySem.W.Frag} {w : World} {P : Program}
theorem exR (T : Txt w K mg) : ExR K (c_NothingToUndo K) (a_NothingToUndo_init K) := by
  have x := xfB_ok (show xfB K (c_NothingToUndo K) = true from T.x_excX_N)
  obtain ⟨i1, i2⟩ := He.ba (show (He.eqO _ _ && _) = true from T.x_excI_N)
  exact ⟨T.x_exc_N, T.x_excO_N, He.eqO_ok T.x_excS_N, x.exC, of_decide_eq_true T.x_excT_N, T.x_excK_N, x.hdC, He.eqO_ok i1, i2⟩
def sp_NothingToUndo_init (K : PySem.W.Frag) : Sp := fun vs H Q _ => ∃ (a : Addr) (v : V), vs = [.ref a, v] ∧ H a = some (exo a (c_NothingToUndo K) none) ∧ ∀ dx, H dx = none → dx ≠ a → Q .non (upd (upd H dx (exd dx [("count", v)])) a (exo a (c_NothingToUndo K) (some dx)))
theorem ok_NothingToUndo_init (T : Txt w K mg) : FnOk P w K mg base CX0 1 (a_NothingToUndo_init K) (fdOf K (a_NothingToUndo_init K)) ps_NothingToUndo_init (sp_NothingToUndo_init K) := by
  have eR := exR T
  refine ok0 T.f_NothingToUndo_init sc_NothingToUndo_init (fun vs H Q E h => ?_) (fun cdv A outer s H vs Q E hr h => ?_)
  · obtain ⟨_, _, rfl, _⟩ := h; rfl
  · obtain ⟨a, v, rfl, ha, k⟩ := h
    refine ⟨_, (pss_one (ps_ostR eR (He.eqO_ok T.x_excC_N) (pv 0) (pv 1))), ?_⟩
    exact ⟨_, rfl, _, rfl, a, rfl, ha, k⟩
end
end DD
namespace DD
open PySem PySem.Spec
open PyProof.Rows L2
section
variable {base : Heap} {mg : Str → Option Value} {K : PySem.W.Frag} {w : World} {P : Program}
/-! ### defs that let an exception out -/
theorem okE {x qual : Str} {params : Arguments} {body : List Stmt} {scope : Scope} {f : Addr} {fd : FuncData} {N ps : List Str} {k : Nat} {sp : Sp} (F : FunD K x qual params body scope [] [] f fd) (S : FnScope N ps scope) (len : ∀ vs H Q E, sp vs H Q E → vs.length = ps.length)
    (hb : ∀ (cdv : Value) (A : Around) (outer : List Env) (s : Shared) (H : Hp) (vs : List V) (Q : VK) (E : XK), Room k (A.deeper (envOfC qual scope s.heap.objs.size f cdv)) → sp vs H Q E → Takes (cxOf (L2.CX P w) P w K mg base N qual scope f cdv A outer s H E) (fun cls d _ H' => E cls d H') →
      ∃ t, PSs (cxOf (L2.CX P w) P w K mg base N qual scope f cdv A outer s H E) body t ∧ t { nx := fun _ H' => Q .non H', rt := Q } (start N vs) H) : FnOk P w K mg base (L2.CX P w) (k + 1) f fd ps sp :=
  F.ok S len fun cdv A outer s H vs Q E hr h => hb cdv A outer s H vs Q E hr h (takes_of rfl rfl rfl rfl)
theorem passE {X : Cx} {E : XK} (tk : Takes X (fun cls d _ H' => E cls d H')) : Passes (L2.CX X.prog X.w) X E := passes_call tk fun _ _ _ _ h => h
/-- what flies: nothing to undo, of so many -/
def NtU (K : PySem.W.Frag) (i : Int) (cls : Value) (d : Option Addr) (H : Hp) : Prop := cls = .ref (c_NothingToUndo K) ∧ ∃ dd, d = some dd ∧ H dd = some (.xd [("count", .int i)])
def sp_Case_backR (K : PySem.W.Frag) : Sp := fun vs H _ E => ∃ (c : Addr) (C : Ct) (ts : List Tm), vs = [.ref c, .int 1] ∧ CaseAt K H c C [] ts ∧ ∀ cls d H', Same H H' → NtU K 1 cls d H' → E cls d H'
theorem ok_Case_backR (T : Txt w K mg) : FnOk P w K mg base (L2.CX P w) 3 (a_Case_back K) (fdOf K (a_Case_back K)) ps_Case_back (sp_Case_backR K) := by
  have G_is_whole := ok_is_whole (P := P) (base := base) T
  have G_NothingToUndo_init := ok_NothingToUndo_init (P := P) (base := base) T
  have eR := exR T
  refine okE T.f_Case_back sc_Case_back (fun vs H Q E h => ?_) (fun cdv A outer s H vs Q E hr h tk => ?_)
  · obtain ⟨_, _, _, rfl, _⟩ := h; rfl
  · obtain ⟨c, C, ts, rfl, hC, kk⟩ := h
    have hr_is_whole := hr.mono (show 1 ≤ 2 by omega)
    have hr_NothingToUndo_init : Room (1 + 1) _ := hr
    obtain ⟨dx, ct, el, sl, h1, h2, hok, evs, sts, h4, h5, h6, h7, h8, h9⟩ := id hC
    have e5 := h5.len
    refine ⟨_, (pss_cons (ps_if (pt_not (pt_val (pe_call G_is_whole hr_is_whole rfl T.g_is_whole T.k_is_whole T.b_is_whole .nil pass0 (pa_cons (pv 1) (pa_cons pe_int (pa_cons (pe_callB (k_len K) (by rfl) T.n_len (by decide +kernel) (pa_cons (k_fld K (pv 0) rfl) pa_nil)) pa_nil)))))) (pss_one (ps_raise rfl tk (pmk_rt eR G_NothingToUndo_init hr_NothingToUndo_init T.b_NothingToUndo_init rfl T.g_NothingToUndo (pa_cons (pv 1) pa_nil)))) pss_nil) (pss_cons (ps_fld (pv 0) (pe_slice (k_sl K) (k_fld K (pv 0) rfl) po_none (po_some (pe_un un_neg (pv 1)))) rfl) (pss_one (ps_fld (pv 0) (pe_slice (k_sl K) (k_fld K (pv 0) rfl) po_none (po_some (pe_un un_neg (pv 1)))) rfl)))), ?_⟩
    refine ⟨_, rfl, _, rfl, c, _, dx, _, .ref el, rfl, h1, T.cl_Case, T.no_Case_own_events, rfl, _, _, rfl, .inl ⟨_, SqL.of h4, rfl⟩, _, _, _, rfl, fun H1 s1 => ?_⟩
    have : evs = [] := List.eq_nil_of_length_eq_zero (by simpa using e5)
    subst this
    refine ⟨_, rfl, yes (by decide) ?_⟩
    refine ⟨_, rfl, by simp, fun a ha => ⟨a, .int 1, rfl, upd_same, fun x hx nx => ⟨rfl, x, [("count", .int 1)], upd_same, ?_⟩⟩⟩
    have hx1 : H1 x = none := by rw [upd_ne nx] at hx; exact hx
    refine ⟨by rw [upd_ne nx, upd_same], hx1, kk _ _ _ (fun b u e => ?_) ⟨rfl, x, rfl, upd_same⟩⟩
    have e1 := s1 _ _ e
    have na : b ≠ a := ne_of_none e1 ha
    have nx' : b ≠ x := ne_of_none e1 hx1
    rw [upd_ne nx', del_ne na, upd_ne na, upd_ne nx', upd_ne na]
    exact e1
def sp_Case_isubR (K : PySem.W.Frag) : Sp := fun vs H _ E => ∃ (c : Addr) (C : Ct) (ts : List Tm), vs = [.ref c, .int 1] ∧ CaseAt K H c C [] ts ∧ ∀ cls d H', Same H H' → NtU K 1 cls d H' → E cls d H'
theorem ok_Case_isubR (T : Txt w K mg) : FnOk P w K mg base (L2.CX P w) 4 (a_Case_isub K) (fdOf K (a_Case_isub K)) ps_Case_isub (sp_Case_isubR K) := by
  have G_Case_back := ok_Case_backR (P := P) (base := base) T
  refine okE T.f_Case_isub sc_Case_isub (fun vs H Q E h => ?_) (fun cdv A outer s H vs Q E hr h tk => ?_)
  · obtain ⟨_, _, _, rfl, _⟩ := h; rfl
  · obtain ⟨c, C, ts, rfl, hC, k⟩ := h
    have hr_Case_back := hr
    obtain ⟨dx, ct, el, sl, hc, _⟩ := id hC
    refine ⟨_, (pss_cons (ps_expr (pe_meth (pv 0) T.cl_Case T.m_Case_back G_Case_back hr_Case_back T.b_Case_back .nil (passE tk) (pa_cons (pv 1) pa_nil))) (pss_one (ps_ret (pv 0)))), ?_⟩
    exact ⟨_, rfl, c, dx, _, rfl, hc, rfl, _, rfl, c, C, ts, rfl, hC, k⟩
def sp_L_backR (K : PySem.W.Frag) : Sp := fun vs H _ E => ∃ (c : Addr) (C : Ct) (ts : List Tm), vs = [.ref c, .int 1] ∧ CaseAt K H c C [] ts ∧ ∀ cls d H', Same H H' → NtU K 1 cls d H' → E cls d H'
theorem ok_L_backR (T : Txt w K mg) : FnOk P w K mg base (L2.CX P w) 46 (a_L_back K) (fdOf K (a_L_back K)) ps_L_back (sp_L_backR K) := by
  have G_L_shown := ok_L_shown (P := P) (base := base) T
  have G_Case_isub := ok_Case_isubR (P := P) (base := base) T
  refine okE T.f_L_back sc_L_back (fun vs H Q E h => ?_) (fun cdv A outer s H vs Q E hr h tk => ?_)
  · obtain ⟨_, _, _, rfl, _⟩ := h; rfl
  · obtain ⟨c, C, ts, rfl, hC, k⟩ := h
    have hr_L_shown : Room 45 _ := hr
    have hr_Case_isub : Room 4 _ := hr.mono (by omega)
    refine ⟨_, (pss_cons (ps_augO (i := 0) (ip_own T.x_self_Case (m_isub T) G_Case_isub hr_Case_isub T.b_Case_isub (passE tk)) sc_L_back.nd rfl (Or.inl rfl) (pv 1)) (pss_one (ps_ret (pe_call G_L_shown hr_L_shown rfl T.g_L_shown T.k_L_shown T.b_L_shown .nil pass0 (pa_cons (pv 0) pa_nil))))), ?_⟩
    obtain ⟨dx, ct, el, sl, q1, _⟩ := id hC
    exact ⟨_, rfl, _, rfl, c, dx, _, rfl, q1, c, C, ts, rfl, hC, k⟩
def sp_L_far_back (K : PySem.W.Frag) : Sp := fun vs H _ E => ∃ (c : Addr) (C : Ct) (es : List Ev) (ts : List Tm), vs = [.ref c] ∧ CaseAt K H c C es ts ∧ ∀ cls d ts' H', Fr [c] H H' → CaseAt K H' c C [] ts' → NtU K 1 cls d H' → E cls d H'
theorem ok_L_far_back (T : Txt w K mg) : FnOk P w K mg base (L2.CX P w) 47 (a_L_far_back K) (fdOf K (a_L_far_back K)) ps_L_far_back (sp_L_far_back K) := by
  have G_L_back := ok_L_back (P := P) (base := base) T
  have G_L_backR := ok_L_backR (P := P) (base := base) T
  have G_Case_len := ok_Case_len (P := P) (base := base) T
  refine okE T.f_L_far_back sc_L_far_back (fun vs H Q E h => ?_) (fun cdv A outer s H vs Q E hr h tk => ?_)
  · obtain ⟨_, _, _, _, rfl, _⟩ := h; rfl
  · obtain ⟨c, C, es, ts, rfl, hC, k⟩ := h
    have hr_L_back : Room 46 _ := hr
    have hr_Case_len : Room (1 + 1) _ := hr.mono (by omega)
    obtain ⟨dx, ct, el, sl, q1, _, _, evs, sts, _, _, _, _, l8, l9⟩ := id hC
    refine ⟨_, (pss_cons (ps_if (pt_cmpR op_gt (pe_callB (cr_lenOwn T.m_Case_len G_Case_len hr_Case_len T.b_Case_len) (by rfl) T.n_len (by decide +kernel) (pa_cons (pv 0) pa_nil)) pe_int (nomark _)) (pss_one (ps_expr (pe_call G_L_back hr_L_back rfl T.g_L_back T.k_L_back T.b_L_back .nil pass0 (pa_cons (pv 0) (pa_cons (pe_callB (cr_lenOwn T.m_Case_len G_Case_len hr_Case_len T.b_Case_len) (by rfl) T.n_len (by decide +kernel) (pa_cons (pv 0) pa_nil)) pa_nil))))) pss_nil) (pss_one (ps_ret (pe_call G_L_backR hr_L_back rfl T.g_L_back T.k_L_back T.b_L_back .nil (passE tk) (pa_cons (pv 0) (pa_cons pe_int pa_nil)))))), ?_⟩
    refine ⟨_, rfl, c, dx, _, rfl, q1, c, C, es, ts, rfl, hC, (es.length : Nat), rfl, by omega, by omega, _, 0, rfl, rfl, _, rfl, br (fun z => ?_) (fun z => ?_)⟩
    · refine ⟨_, rfl, _, rfl, c, dx, _, rfl, q1, c, C, es, ts, rfl, hC, (es.length : Nat), rfl, by omega, by omega, c, es.length, C, es, ts, rfl, hC, by omega, by omega, fun v H1 f1 C1 _ => ?_⟩
      rw [Nat.sub_self, List.take_zero] at C1
      exact ⟨_, rfl, c, C, _, rfl, C1, fun cls d H2 s2 h => k cls d _ H2 (f1.trans s2.fr) (s2.case C1) h⟩
    · have : es = [] := List.eq_nil_of_length_eq_zero (by omega)
      subst this
      exact ⟨_, rfl, c, C, _, rfl, hC, fun cls d H2 s2 h => k cls d _ H2 s2.fr (s2.case hC) h⟩
end
end DD
namespace DD
open PySem PySem.Spec
open PyProof.Rows L2
open LamX (CodeO TabS Tabs ExtN TabB)
/-! ## a lambda of one parameter, handed to a def that calls it -/
/-- its names: the parameter a, captured ones, globals -/
structure LamS1 (sc scope : Scope) (a : Str) : Prop where
  kind : scope.kind = .function
  co : (scope.isCoroutine = false)
  gen : (scope.isGenerator = false)
  own : ∀ y ∈ scope.names, (y.2 = .local → y.1 = a) ∧ y.2 ≠ .cell
  par : scope.names.lookup a = some .local
  free : (∀ y ∈ scope.names, y.2 = .free → sc.names.lookup y.1 = some .cell ∨ sc.names.lookup y.1 = some .free)
def lamS1B (sc scope : Scope) (a : Str) : Bool :=
  (decide (scope.kind = .function) && !scope.isCoroutine && !scope.isGenerator && decide (scope.names.lookup a = some .local)) && scope.names.all fun y => (!decide (y.2 = .local) || decide (y.1 = a)) && !decide (y.2 = .cell) && (!decide (y.2 = .free) || (decide (sc.names.lookup y.1 = some .cell) || decide (sc.names.lookup y.1 = some .free)))
theorem lamS1_by {sc scope : Scope} {a : Str} (h : lamS1B sc scope a = true) : LamS1 sc scope a := by
  unfold lamS1B at h
  (simp only [Bool.and_eq_true, Bool.or_eq_true, Bool.not_eq_true', decide_eq_true_eq, decide_eq_false_iff_not, List.all_eq_true] at h)
  obtain ⟨⟨⟨⟨k1, k2⟩, k3⟩, k4⟩, k5⟩ := h
  refine ⟨k1, k2, k3, fun y hy => ⟨fun e => ?_, (k5 y hy).1.2⟩, k4, fun y hy e => ?_⟩
  · rcases (k5 y hy).1.1 with z | z
    · exact absurd e z
    · exact z
  · rcases (k5 y hy).2 with z | z
    · exact absurd e z
    · exact z
theorem LamS1.has {X : Cx} {scope : Scope} {a : Str} (L : LamS1 X.env.scope scope a) (ok : X.Ok) : ∀ y ∈ scope.names, y.2 = .free → ∃ c, X.env.cells.lookup y.1 = some c := fun y hy e => ok.has _ (L.free y hy e)
/-- in which context such a body is read -/
def lamC (X : Cx) (A : Around) (outer : List Env) (s : Shared) (H : Hp) (scope : Scope) (f c' : Addr) (a : Str) : Cx where
  prog := X.prog
  w := X.w
  K := X.K
  mg := X.mg
  base := X.base
  A := A.deeper (LamX.lamEnv X scope s.heap.objs.size f c')
  N := X.N ++ [a]
  s_0 := s
  H_0 := H
  env := LamX.lamEnv X scope s.heap.objs.size f c'
  outer := outer
  stack := LamX.lamEnv X scope s.heap.objs.size f c' :: outer
  ex := []
  fn := fun _ => false
  calm := true
  pn := []
  xe := fun _ _ => False
section
variable {X : Cx} {pins : List (Addr × Obj)} {σ : L2.St} {H HZ : Hp} {s s1 : Shared} {a : Str}
theorem lam_inv {A : Around} {outer : List Env} {scope : Scope} {f c' : Addr} {h₁ : Heap} {tk : Nat} {v : V} {u : Value} (I : Inv X pins σ H s) (L : LamS1 X.env.scope scope a) (hna : a ∉ X.N) (e0 : Env0 X.prog X.w X.K X.mg X.base A outer s1 HZ) (hd : A.handled = none) (rv : RelV v u)
    (un : Un (frs X.stack) [] H HZ s.heap s1.heap) (ns : h₁.Ns s1.heap.objs.size fun y => ([(a, u)] : List (Str × Value)).reverse.lookup y) (kp : ∀ b o, s1.heap.get? b = some o → h₁.get? b = some o) :
    Inv (lamC X A outer s1 HZ scope f c' a) [] (σ ++ [some v]) HZ { s1 with heap := h₁, toks := tk } := by
  have fr := L.has I.ok
  have up : ∀ {y c}, (cloFrom X.env.cells scope.names []).lookup y = some c → X.env.cells.lookup y = some c := fun {y c} e => by
    (rcases cloFrom_mem (PySem.mem_of_lookup e) with hm | ⟨h1, h2⟩)
    · cases hm
    · obtain ⟨c1, hc⟩ := fr _ h1 rfl
      (have hc : X.env.cells.lookup y = some c1 := hc)
      have e2 : c = c1 := by rw [h2, hc] <;> rfl
      rw [e2]; exact hc
  have dn : ∀ {y}, scope.names.lookup y = some .free → ∃ c, (cloFrom X.env.cells scope.names []).lookup y = some c := fun {y} hl => mem_lookup (cloFrom_has (cells := X.env.cells) (acc := []) (show (y, NameKind.free) ∈ scope.names from PySem.mem_of_lookup hl))
  have cellK : (∀ {c : Addr} {v : Option Value}, H c = none → s.heap.IsCell c v → h₁.IsCell c v) := fun {c v} n ⟨o, ho, hd⟩ => by
    (obtain ⟨sl, q⟩ := un.any ho n (by simp))
    exact ⟨_, kp _ _ q, hd⟩
  have none_in : ∀ b : Addr, b ∉ (lamC X A outer s1 HZ scope f c' a).ex := fun b z => nomatch (show b ∈ ([] : List Addr) from z)
  have okk : (lamC X A outer s1 HZ scope f c' a).Ok := by
    refine ⟨e0.mod, L.kind, rfl, rfl, Nat.le_refl _, fun y z c e1 e2 => I.ok.inj y z c (up e1) (up e2), fun y hy => ?_, fun y c z _ => (nomatch (show false = true from z)), fun _ => hd, Around.frames_deeper e0.frames, .inr ⟨rfl, rfl⟩, fun b z => absurd z (none_in b), e0.bs, e0.bsz, fun b _ _ => none_in b, fun b z => absurd z (none_in b), e0.funs, e0.frf⟩
    have hy : scope.names.lookup y = some .cell ∨ scope.names.lookup y = some .free := hy
    rcases hy with hy | hy
    · (exact absurd rfl (L.own _ (PySem.mem_of_lookup hy)).2)
    · exact dn hy
  refine ⟨okk, rfl, e0.bare, Un.kept kp, ⟨_, ns, fun i y v' e1 e2 e3 => ?_⟩, fun y c e => ?_, e0.hok.fresh (Nat.le_refl _), fun y c e => ?_, fun q hq => (nomatch (show q ∈ ([] : List (Addr × Obj)) ++ [] from hq)), e0.hok.kept kp, ?_⟩
  · have e3 : Vis scope y := e3
    by_cases hi : i < X.N.length
    · have e1' : X.N[i]? = some y := by rw [← e1]; exact (List.getElem?_append_left hi).symm
      have e2' : σ[i]? = some (some v') := by rw [← e2]; exact (List.getElem?_append_left (by rw [I.len]; exact hi)).symm
      have ya : y ≠ a := fun z => hna (z ▸ List.mem_of_getElem? e1')
      rcases e3 with k | k | k
      · exact absurd ((L.own _ (PySem.mem_of_lookup k)).1 rfl) ya
      · (exact absurd rfl (L.own _ (PySem.mem_of_lookup k)).2)
      · obtain ⟨m, hn, hl⟩ := I.loc
        have frees := L.free _ (PySem.mem_of_lookup k) rfl
        obtain ⟨w', r, q⟩ := hl i y v' e1' e2' (frees.elim (fun k => .inr (.inl k)) fun k => .inr (.inr k))
        obtain ⟨c2, h2⟩ := dn k
        (refine ⟨w', r, .inr ⟨.inr k, c2, h2, ?_⟩⟩)
        (rcases q with ⟨k', _⟩ | ⟨_, c3, e', z⟩)
        · (have k' : X.env.scope.names.lookup y = some .local := k')
          rcases frees with k2 | k2 <;> rw [show X.env.scope.names.lookup y = _ from k2] at k' <;> cases k'
        · rw [up h2] at e'; cases e'
          exact cellK (I.freeC y _ (up h2)) z
    · have hil : i = X.N.length := by
        have := (List.getElem?_eq_some_iff.mp e1).1
        simp only [lamC, List.length_append, List.length_singleton] at this
        omega
      subst hil
      have e1' : some a = some y := by rw [← e1]; simp [lamC]
      have e2' : some (some v) = some (some v') := by rw [← e2, ← I.len]; simp
      cases e1'; cases e2'
      exact ⟨u, rv, .inl ⟨L.par, by simp⟩⟩
  · obtain ⟨w', z⟩ := I.cell y c (up e)
    exact ⟨w', cellK (I.freeC y c (up e)) z⟩
  · obtain ⟨v', o, ho, _⟩ := I.cell y c (up e)
    exact un.free c o ho (I.freeC y c (up e)) (by simp)
  · show (σ ++ [some v]).length = (X.N ++ [a]).length
    rw [List.length_append, List.length_append, I.len]; rfl
/-- x(arg) in the def that got the lambda: Z is that def's context, entered at s -/
theorem pe_act1 {Ng : List Str} {qg : Str} {sg : Scope} {g f c' : Addr} {cdg pm ctv : Value} {params : Arguments} {body : Expr} {scope : Scope} {k i : Nat} {x : Str} {pn : List (Addr × Obj)} {xe : Value → Shared → Prop} {tb : TE} {p1 p2 : Pos} {e : Expr} {ta : TE}
    (I : Inv X pins σ H s) (L : LamS1 X.env.scope scope a) (hna : a ∉ X.N) (hf : s.heap.get? f = some (PySem.W.kla_obj "<lambda>" (X.env.qual ++ "<lambda>") params body scope (cloFrom X.env.cells scope.names []) pm c' ctv)) (hfn : H f = none) (hfr : f ∉ frs X.stack)
    (hbind : ∀ u, bindArgs (PySem.W.kla_fn "<lambda>" (X.env.qual ++ "<lambda>") params body scope (cloFrom X.env.cells scope.names []) pm (.ref c') ctv) ⟨[u], []⟩ = pure [(a, u)])
    (hr : Room (k + 1) (X.A.deeper (envOfC qg sg s.heap.objs.size g cdg))) (hbody : ∀ (A : Around) (outer : List Env) (s : Shared) (H : Hp), Room k (A.deeper (LamX.lamEnv X scope s.heap.objs.size f c')) → PE (lamC X A outer s H scope f c' a) body tb)
    (hN : Ng[i]? = some x) (hv : Vis sg x) (ha : PE ((cxOf C8.CX0 X.prog X.w X.K X.mg X.base Ng qg sg g cdg X.A X.stack s H C8.E0).tr pn xe) e ta) (hd : (x == ("__debug__" : Str)) = false := by decide) (hcd : (x == ("__classdict__" : Str)) = false := by decide)
    (he : starEach [e] ((cxOf C8.CX0 X.prog X.w X.K X.mg X.base Ng qg sg g cdg X.A X.stack s H C8.E0).tr pn xe).env = (false, eval e ((cxOf C8.CX0 X.prog X.w X.K X.mg X.base Ng qg sg g cdg X.A X.stack s H C8.E0).tr pn xe).env) :: starEach [] ((cxOf C8.CX0 X.prog X.w X.K X.mg X.base Ng qg sg g cdg X.A X.stack s H C8.E0).tr pn xe).env := by rfl) :
    PE ((cxOf C8.CX0 X.prog X.w X.K X.mg X.base Ng qg sg g cdg X.A X.stack s H C8.E0).tr pn xe) (.Call (.Name x p1) [e] [] p2)
      (fun σZ HZ Q => σZ[i]? = some (some (.ref f)) ∧ ta σZ HZ fun v H1 => H1 c' = some (CodeO c' (X.env.qual ++ "<lambda>")) ∧ tb (σ ++ [some v]) H1 Q) := by
  (refine ⟨fun pinsZ sZ σZ HZ Q IZ h => ?_⟩)
  obtain ⟨hs, ht⟩ := h
  refine wpAny_Call_Name_kw (thn ((pe_var (pos := p1) (i := i) hN hv hd hcd).run pinsZ sZ σZ HZ (fun v H1 => v = .ref f ∧ H1 = HZ) IZ ⟨.ref f, hs, rfl, rfl⟩) fun u s1 ⟨v, H1, I1, r1, ev, eH⟩ => ?_)
  subst ev eH
  (obtain rfl : u = Value.ref f := r1)
  have there : ∀ {s2 H2}, Inv ((cxOf C8.CX0 X.prog X.w X.K X.mg X.base Ng qg sg g cdg X.A X.stack s H C8.E0).tr pn xe) pinsZ σZ H2 s2 → s2.heap.get? f = some (PySem.W.kla_obj "<lambda>" (X.env.qual ++ "<lambda>") params body scope (cloFrom X.env.cells scope.names []) pm c' ctv) := fun {s2 H2} J => J.base.keep f _ hf hfn hfr (fun z => nomatch (show f ∈ ([] : List Addr) from z))
  refine PySem.W.callWith_F ⟨_, _, _, _, there I1⟩ ?_ he rfl
  rw [he]
  show wpAny _ _ (spliced ((false, eval e ((cxOf C8.CX0 X.prog X.w X.K X.mg X.base Ng qg sg g cdg X.A X.stack s H C8.E0).tr pn xe).env) :: backTo p2 (starEach [] ((cxOf C8.CX0 X.prog X.w X.K X.mg X.base Ng qg sg g cdg X.A X.stack s H C8.E0).tr pn xe).env))) _ _ s1
  refine Calls.spliced_cons (wpAny_mono (ha.run pinsZ s1 σZ H1 _ I1 ht) (fun u s2 hu => Calls.spliced_nil ?_) fun _ _ z => z)
  obtain ⟨v, H2, I2, rv, hco, hq⟩ := hu
  refine ⟨⟨_, _, _, _, there I2⟩, ?_⟩
  have un : Un (frs X.stack) [] H H2 s.heap s2.heap := I2.base
  obtain ⟨⟨oc, cs, t, hoc, hdc, hvc⟩, _, _⟩ := I2.hok c' _ hco
  have room := hr.depth
  have env2 := I2.env0
  have nol := I2.nolimit
  have at2 := there I2
  have rc : codeAny (model X.prog X.w) (X.A.deeper (envOfC qg sg s.heap.objs.size g cdg)) (.call (.ref f) ⟨[u], []⟩) (CR C8.CX0 (envOfC qg sg s.heap.objs.size g cdg :: X.stack) X.prog X.w H2 s2 Q C8.E0) s2 := by
    refine PySem.W.kla_callFunE room at2 rfl L.co L.gen rfl ⟨c', oc, cs, t, rfl, hoc, hdc, hvc⟩ ?_
    rw [hbind]
    refine wpAny_pure (wpAny_newFunctionEnv (fun y hy => (L.own y hy).2) (fun y hy => ?_) (fun h₁ ns sb => ⟨nol.fresh _ sb, ?_⟩) L.kind)
    · rw [List.mem_singleton.mp hy]; exact L.par
    show codeAny _ _ (.expr body (LamX.lamEnv X scope s2.heap.objs.size f c')) _ _
    have kp : ∀ b o, s2.heap.get? b = some o → h₁.get? b = some o := fun b o z => sb.extBut b o (Nat.ne_of_lt (Heap.lt_size z)) (Heap.get?_push_of_some _ z)
    have J : Inv (lamC X (X.A.deeper (envOfC qg sg s.heap.objs.size g cdg)) (envOfC qg sg s.heap.objs.size g cdg :: X.stack) s2 H2 scope f c' a) [] (σ ++ [some v]) H2 { s2 with heap := h₁, toks := s2.toks + ([(a, u)] : List (Str × Value)).length } :=
      lam_inv I L hna env2 hr.hd rv un ns kp
    refine PySem.W.kla_codeExpr (wpAny_mono ((hbody _ _ s2 H2 (hr.deeper _)).run [] _ _ H2 Q J hq) (fun v' s' z => ?_) fun _ _ z => False.elim z)
    obtain ⟨w', H', J', rv', q⟩ := z
    exact ⟨w', H', J'.os, J'.bare, J'.base, J'.hok, rv', q⟩
  refine wpAny_call (codeAny_mono rc fun r s' out => ?_)
  cases r with
  | error e => exact False.elim out
  | ok fl =>
    cases fl with
    | ret u' => exact I2.after out
    | next => exact False.elim out
    | brk => exact False.elim out
    | cont => exact False.elim out
end
end DD
namespace DD
open PySem PySem.Spec
open PyProof.Rows L2
section
variable {base : Heap} {mg : Str → Option Value} {K : PySem.W.Frag} {w : World} {P : Program}
/-! ### under -/
theorem ok_Trial_exitX (T : Txt w K mg) : FnX P w K mg base 1 (a_Trial_exit K) (fdOf K (a_Trial_exit K)) ps_Trial_exit (sp_Trial_exit K) := by
  refine okX T.f_Trial_exit sc_Trial_exit (fun vs H Q E h => ?_) (fun cdv A outer s H vs Q p hr h => ?_)
  · obtain ⟨_, _, _, _, _, _, _, _, _, _, _, _, rfl, _⟩ := h; rfl
  · obtain ⟨m, c, ke, ks, C, es, es', ts, ts', x, y, z, rfl, hT, hC, hL, k⟩ := h
    obtain ⟨mdx, hm⟩ := id hT
    obtain ⟨dx, ct, el, sl, h1, h2, hok, _⟩ := id hC
    have nm : m ≠ c := fun z => by rw [z, h1] at hm; injection hm with e; injection e with _ _ e; cases e
    refine ⟨_, (pss_cons (ps_fld (k_fld K (pv 0) rfl) (k_fld K (pv 0) rfl) rfl) (pss_cons (ps_fld (k_fld K (pv 0) rfl) (k_fld K (pv 0) rfl) rfl) (pss_one (ps_ret pe_non)))), ?_⟩
    refine ⟨_, rfl, m, _, mdx, _, .ref ke, rfl, hm, T.cl_Trial, T.no_Trial_kept_events, rfl, _, rfl, m, _, mdx, _, .ref c, rfl, hm, T.cl_Trial, T.no_Trial_own_case, rfl, c, _, dx, _, rfl, h1, T.cl_Case, T.no_Case_own_events, by simp [caseF], ?_⟩
    have b2 : But c H (upd H c (.ins (c_Case K) dx (putF "own_events" (.ref ke) (caseF ct el sl)))) := But.upd
    have f2 : (upd H c (.ins (c_Case K) dx (putF "own_events" (.ref ke) (caseF ct el sl)))) c = some (.ins (c_Case K) dx (caseF ct ke sl)) := upd_same
    have k2 := kp1 (b2.fr in1) (ng_case h1)
    generalize (upd H c (.ins (c_Case K) dx (putF "own_events" (.ref ke) (caseF ct el sl)))) = H2 at b2 f2 k2 ⊢
    have m2 := b2 _ _ nm hm
    refine ⟨_, rfl, m, _, mdx, _, .ref ks, rfl, m2, T.cl_Trial, T.no_Trial_kept_states, rfl, _, rfl, m, _, mdx, _, .ref c, rfl, m2, T.cl_Trial, T.no_Trial_own_case, rfl, c, _, dx, _, rfl, f2, T.cl_Case, T.no_Case_own_states, by simp [caseF], ?_⟩
    have b4 : But c H2 (upd H2 c (.ins (c_Case K) dx (putF "own_states" (.ref ks) (caseF ct ke sl)))) := But.upd
    have f4 : (upd H2 c (.ins (c_Case K) dx (putF "own_states" (.ref ks) (caseF ct ke sl)))) c = some (.ins (c_Case K) dx (caseF ct ke ks)) := upd_same
    have k4 := kp1 (b4.fr in1) (ng_case f2)
    have k04 := k2.trans k4
    exact k _ ((b2.trans b4).fr in1) ⟨dx, ct, ke, ks, f4, k04.cont h2, hok, k04.lists hL⟩
/-- what an exception out of the deed must bring -/
def WUnder (K : PySem.W.Frag) (m : Addr) (Wout : WX) : WX := fun cls d σ' H' => (∃ c : Addr, cls = .ref c) ∧ ∀ u1 u2 u3, sp_Trial_exit K [.ref m, u1, u2, u3] H' (fun v H'' => v = .non ∧ Wout cls d σ' H'') E0
/-- the wish of under at the trial m over the case c, the deed told by its reading tc -/
def tUnder (K : PySem.W.Frag) (Wout : WX) (tc : WX → TE) (m f : Addr) (H : Hp) (Q : VK) : Prop := ∃ (c ke0 ks0 : Addr) (C : Ct) (es : List Ev) (ts : List Tm), TrialAt K H m c ke0 ks0 ∧ CaseAt K H c C es ts ∧
  ∀ ke ks H2, Fr [m] H H2 → TrialAt K H2 m c ke ks → ListsAt K H2 C ke ks es ts → CaseAt K H2 c C es ts →
    ∀ Q' : VK, (∀ v H3 es' ts', TrialAt K H3 m c ke ks → CaseAt K H3 c C es' ts' → ListsAt K H3 C ke ks es ts → (∀ H4, Fr [c] H3 H4 → CaseAt K H4 c C es ts → Q v H4) → Q' v H3) → tc (WUnder K m Wout) [some (.ref m), some (.ref f), some .non, some (.ref c)] H2 Q'
theorem trial_ne {H : Hp} {m c ke ks : Addr} {C : Ct} {es : List Ev} {ts : List Tm} (hT : TrialAt K H m c ke ks) (hC : CaseAt K H c C es ts) : c ≠ m := fun z => by
  obtain ⟨_, hm⟩ := hT
  obtain ⟨_, _, _, _, h1, _⟩ := hC
  rw [z, hm] at h1; injection h1 with e; injection e with _ _ e; cases e
theorem under_body {CX : CXT} (T : Txt w K mg) {cdv : Value} {A : Around} {outer : List Env} {s : Shared} {H : Hp} {E : XK} (hr : Room 1 (A.deeper (envOfC "under" (defScope s_under) s.heap.objs.size (a_under K) cdv))) {Wout : WX} (tk : Takes (cxOf CX P w K mg base N_under "under" (defScope s_under) (a_under K) cdv A outer s H E) Wout) {tc : WX → TE}
    (hcall : ∀ (W : WX) (pn : List (Addr × Obj)) (xe : Value → Shared → Prop) (p1 p2 p3 : Pos), Takes ((cxOf CX P w K mg base N_under "under" (defScope s_under) (a_under K) cdv A outer s H E).tr pn xe) W → PE ((cxOf CX P w K mg base N_under "under" (defScope s_under) (a_under K) cdv A outer s H E).tr pn xe) (.Call (.Name "deed" p1) [.Name "probe" p2] [] p3) (tc W))
    {m f : Addr} {H1 : Hp} {Q : VK} (h : tUnder K Wout tc m f H1 Q) : ∃ t, PSs (cxOf CX P w K mg base N_under "under" (defScope s_under) (a_under K) cdv A outer s H E) (defBody s_under) t ∧ t { nx := fun _ H' => Q .non H', rt := Q } (start N_under [.ref m, .ref f]) H1 := by
  have G_Trial_enter := ok_Trial_enter (P := P) (base := base) T
  have G_Trial_exit := ok_Trial_exit (P := P) (base := base) T
  have G_Trial_exitX := ok_Trial_exitX (P := P) (base := base) T
  refine ⟨_, (pss_cons (ps_set (i := 2) sc_under.nd rfl (Or.inl rfl) pe_non) (pss_cons (ps_with rfl rfl sc_under.nd (i := 3) rfl rfl hr.hd (pv 0) T.m_Trial_enter T.m_Trial_exit G_Trial_enter hr T.b_Trial_enter G_Trial_exit hr T.b_Trial_exit G_Trial_exitX tk (fun W pn xe tkb => pss_one (ps_set (i := 2) sc_under.nd rfl (Or.inl rfl) (hcall W pn xe _ _ _ tkb)))) (pss_one (ps_ret (pv 2))))), ?_⟩
  obtain ⟨c, ke0, ks0, C, es, ts, hT, hC, k⟩ := h
  obtain ⟨mdx, hm⟩ := id hT
  have ncm := trial_ne hT hC
  refine ⟨_, rfl, m, mdx, _, rfl, hm, m, c, ke0, ks0, C, es, ts, rfl, hT, hC, fun ke ks H2 f2 hT2 hL2 => ?_⟩
  have C2 : CaseAt K H2 c C es ts := (kp1 f2 (ng_trial hT)).case (fun u e => f2 _ _ (by simpa using ncm) e) hC
  exact k ke ks H2 f2 hT2 hL2 C2 _ fun v H3 es' ts' hT3 hC3 hL3 kk => ⟨m, c, ke, ks, C, es, es', ts, ts', .non, .non, .non, rfl, hT3, hC3, hL3, fun H4 f4 c4 => ⟨_, rfl, kk H4 f4 c4⟩⟩
/-! ### under with a def that raises -/
theorem pe_callW {Y : Cx} {W : WX} {k i : Nat} {f : Addr} {fd : FuncData} {ps : List Str} {sp : Sp} {x : Str} {p pos : Pos} {e : Expr} {es : List Expr} {t : TA} (tk : Takes Y W) (F : FnOk Y.prog Y.w Y.K Y.mg Y.base (L2.CX Y.prog Y.w) k f fd ps sp) (hr : Room k Y.A) (hN : Y.N[i]? = some x) (hv : Vis Y.env.scope x) (hk : PySem.W.keepIn Y.K (.ref f) = true) (hb : Binds Y.K fd ps []) (ha : PA Y (e :: es) t) (hdb : (x == ("__debug__" : Str)) = false := by decide) (hcd : (x == ("__classdict__" : Str)) = false := by decide)
    (he : starEach (e :: es) Y.env = (false, eval e Y.env) :: starEach es Y.env := by rfl) (hpl : (backTo pos (starEach es Y.env)).any (·.1) = false := by rfl) : PE Y (.Call (.Name x p) (e :: es) [] pos) (fun σ H Q => ∃ E : XK, (∀ cls d σ' H', E cls d H' → W cls d σ' H') ∧ tCallL i f sp [] E t σ H Q) :=
  ⟨fun pins s σ H Q I ⟨E, hE, h⟩ => (pe_callL (i := i) (f := f) (sp := sp) (dvs := []) (E := E) F hr hN hv hk hb .nil (passes_call tk hE) ha hdb hcd he hpl).run pins s σ H Q I h⟩
def sp_underR (K : PySem.W.Frag) : Sp := fun vs H _ E => ∃ (m c ke ks : Addr) (C : Ct) (es : List Ev) (ts : List Tm), vs = [.ref m, .ref (a_L_far_back K)] ∧ TrialAt K H m c ke ks ∧ CaseAt K H c C es ts ∧ ∀ cls d H', Fr [m, c] H H' → CaseAt K H' c C es ts → NtU K 1 cls d H' → E cls d H'
theorem ok_underR (T : Txt w K mg) : FnOk P w K mg base (L2.CX P w) 48 (a_under K) (fdOf K (a_under K)) ps_under (sp_underR K) := by
  have G_L_far_back := ok_L_far_back (P := P) (base := base) T
  refine okE T.f_under sc_under (fun vs H Q E h => ?_) (fun cdv A outer s H vs Q E hr h tk => ?_)
  · obtain ⟨_, _, _, _, _, _, _, rfl, _⟩ := h; rfl
  · obtain ⟨m, c, ke0, ks0, C, es, ts, rfl, hT, hC, k⟩ := h
    refine under_body T (hr.mono (by omega)) tk (fun W pn xe p1 p2 p3 tkb => pe_callW (i := 1) (x := "deed") (f := a_L_far_back K) tkb G_L_far_back hr rfl (.inl rfl) T.k_L_far_back T.b_L_far_back (pa_cons (pv 3) pa_nil)) ⟨c, ke0, ks0, C, es, ts, hT, hC, fun ke ks H2 f2 hT2 hL2 C2 Q' _ => ?_⟩
    have ncm := trial_ne hT hC
    refine ⟨fun cls d H3 => ∃ ts', Fr [c] H2 H3 ∧ CaseAt K H3 c C [] ts' ∧ NtU K 1 cls d H3, fun cls d σ' H3 ⟨ts', f3, C3, n3⟩ => ?_, rfl, _, rfl, c, C, es, ts, rfl, C2, fun cls d ts' H3 f3 C3 n3 => ⟨ts', f3, C3, n3⟩⟩
    obtain ⟨rfl, dd, rfl, hdd⟩ := id n3
    refine ⟨⟨_, rfl⟩, fun u1 u2 u3 => ?_⟩
    have k3 := kp1 f3 (case_ng C2)
    have hT3 : TrialAt K H3 m c ke ks := let ⟨dx, e⟩ := hT2; ⟨dx, f3 _ _ (by simpa using Ne.symm ncm) e⟩
    refine ⟨m, c, ke, ks, C, es, [], ts, ts', u1, u2, u3, rfl, hT3, C3, k3.lists hL2, fun H4 f4 C4 => ⟨rfl, k _ _ H4 (((f2.mono (by simp)).trans (f3.mono (by simp))).trans (f4.mono (by simp))) C4 ⟨rfl, dd, rfl, ?_⟩⟩⟩
    refine f4 _ _ ?_ hdd
    obtain ⟨_, _, _, _, h1, _⟩ := C3
    simp only [List.mem_singleton]
    exact fun z => by rw [z, h1] at hdd; cases hdd
end
end DD
namespace DD
open PySem PySem.Spec
open PyProof.Rows L2
section
variable {base : Heap} {mg : Str → Option Value} {K : PySem.W.Frag} {w : World} {P : Program}
/-! ### a block that ends by a refusal -/
def sp_L_refusal_right (K : PySem.W.Frag) : Sp := fun vs H Q _ => ∃ (c : Addr) (C : Ct) (es : List Ev) (ts : List Tm) (v : V), vs = [.ref c, v] ∧ CaseAt K H c C es ts ∧ ShAt K H v es ts ∧ ∀ H', Fr [c] H H' → CaseAt K H' c C es ts → Q (.bl true) H'
theorem ok_L_refusal_right (T : Txt w K mg) : FnOk P w K mg base CX0 50 (a_L_refusal_right K) (fdOf K (a_L_refusal_right K)) ps_L_refusal_right (sp_L_refusal_right K) := by
  have G_under := ok_underR (P := P) (base := base) T
  have G_Case_trial := ok_Case_trial (P := P) (base := base) T
  have G_L_shown := ok_L_shown (P := P) (base := base) T
  have xf := xfB_ok (show xfB K (c_NothingToUndo K) = true from T.x_excX_N)
  refine ok0 T.f_L_refusal_right sc_L_refusal_right (fun vs H Q E h => ?_) (fun cdv A outer s H vs Q E hr h => ?_)
  · obtain ⟨_, _, _, _, _, rfl, _⟩ := h; rfl
  · obtain ⟨c, C, es, ts, v, rfl, hC, hv, k⟩ := h
    have hr_under : Room 48 _ := hr.mono (by omega)
    have hr_Case_trial : Room 3 _ := hr.mono (by omega)
    have hr_L_shown : Room 45 _ := hr.mono (by omega)
    have hU64 := hr.units
    refine ⟨_, (pss_cons (ps_set (i := 2) sc_L_refusal_right.nd rfl (Or.inl rfl) pe_non) (pss_cons (ps_try_as rfl rfl sc_L_refusal_right.nd (i := 3) rfl rfl ⟨rfl, rfl, .inl T.g_NothingToUndo⟩ LamX.takes0 (fun W pn xe tkb _ => (pss_one (ps_expr (pe_callS G_under hr_under rfl T.g_under T.k_under T.b_under (fun σ => passAt tkb σ) (pa_cons (pe_meth0 (pv 0) T.cl_Case T.m_Case_trial G_Case_trial hr_Case_trial T.b_Case_trial .nil pass0) (pa_cons (pe_cR rfl T.g_L_far_back) pa_nil)))))) (fun a oe cls d pn hz hd => (pss_one (ps_set (i := 2) sc_L_refusal_right.nd rfl (Or.inl rfl) (pe_xf xf (He.eqO_ok T.x_excC_N) hz hd (pv 3)))))) (pss_one (ps_ret (pe_and (pe_cmpR (k_eq K hU64) (pv 2) pe_int (nomark _)) (pe_one (pe_cmpR (k_eq K hU64) (pe_call G_L_shown hr_L_shown rfl T.g_L_shown T.k_L_shown T.b_L_shown .nil pass0 (pa_cons (pv 0) pa_nil)) (pv 1) (nomark _)))))))), ?_⟩
    obtain ⟨dx, ct, el, sl, h1, _⟩ := id hC
    refine ⟨_, rfl, c, dx, _, rfl, h1, rfl, c, dx, _, rfl, h1, fun m ke ks H1 s1 hm hT => ⟨m, c, ke, ks, C, es, ts, rfl, hT, s1.case hC, fun cls d H2 f2 C2 ⟨ecls, dd, ed, hdd⟩ => ?_⟩⟩
    subst ecls ed
    have f02 : Fr [c] H H2 := fun b u nb e => f2 _ _ (by
      simp only [List.mem_cons, List.not_mem_nil, or_false, not_or] at nb ⊢
      exact ⟨fun z => (by rw [z, hm] at e; cases e), nb⟩) (s1 _ _ e)
    have hv2 := (kp1 f02 (case_ng hC)).sh hv
    refine ⟨true, of_decide_eq_true T.x_excM_N, fun _ a ha => ?_, fun z => nomatch z⟩
    refine ⟨_, rfl, rfl, rfl, dd, _, .int 1, rfl, hdd, rfl, ?_⟩
    refine ⟨_, rfl, .inl ⟨rfl, _, rfl, yes (by decide) ⟨_, rfl, c, C, es, ts, rfl, C2, fun u H3 s3 hu _ => ⟨_, rfl, ?_⟩⟩⟩⟩
    exact sh_eq hC.shOk hu (s3.kp.sh hv2) (k H3 (f02.trans s3.fr) (s3.case C2))
end
end DD
namespace DD
open PySem PySem.Spec
open PyProof.Rows L2
open LamX (CodeO TabS Tabs ExtN TabB)
/-! ### the code objects' tables -/
def plainO : HO → Prop
  | .tbl _ => False
  | .ext _ => False
  | _ => True
theorem tabs_fr {T : List (Addr × Str)} {L : List Addr} {H H' : Hp} (t : Tabs T H) (f : Fr L H H') (h : ∀ a ∈ L, ∀ u, H a = some u → plainO u) : Tabs T H' := fun p hp => by
  obtain ⟨ps, h1, h2, h3⟩ := t p hp
  refine ⟨ps, f _ _ (fun z => h _ z _ h1) h1, h2, fun pos cv hc => ?_⟩
  obtain ⟨c, e, hco⟩ := h3 pos cv hc
  exact ⟨c, e, f _ _ (fun z => h _ z _ hco) hco⟩
theorem tabs_same {T : List (Addr × Str)} {H H' : Hp} (t : Tabs T H) (s : Same H H') : Tabs T H' := t.ext s
/-- all but L and the tables stays -/
def FrT (L : List Addr) (H H' : Hp) : Prop := ∀ a u, a ∉ L → (∀ ps, u ≠ .tbl ps) → H a = some u → H' a = some u
theorem Fr.t {L : List Addr} {H H' : Hp} (f : Fr L H H') : FrT L H H' := fun a u n _ e => f a u n e
theorem FrT.trans {L : List Addr} {H H1 H2 : Hp} (a : FrT L H H1) (b : FrT L H1 H2) : FrT L H H2 := fun c u n z h => b c u n z (a c u n z h)
theorem FrT.mono {L M : List Addr} {H H1 : Hp} (a : FrT L H H1) (h : ∀ x ∈ L, x ∈ M) : FrT M H H1 := fun c u n => a c u fun z => n (h c z)
theorem frT_ext {L : List Addr} {H H' : Hp} (e : ExtN H H') : FrT L H H' := fun a u _ z h => e a u h z
theorem good_nt {u : HO} (g : goodO u) : ∀ ps, u ≠ .tbl ps := fun ps e => by rw [e] at g; exact g
theorem FrT.kp {L : List Addr} {H H' : Hp} (f : FrT L H H') (h : ∀ a ∈ L, ∀ u, H a = some u → ¬ goodO u) : Kp H H' := fun a u q g => f a u (fun z => h a z u q g) (good_nt g) q
theorem ext_kp {H H' : Hp} (e : ExtN H H') : Kp H H' := fun a u q g => e a u q (good_nt g)
section
variable {K : PySem.W.Frag}
theorem FrT.case {L : List Addr} {H H' : Hp} {c : Addr} {C : Ct} {es : List Ev} {ts : List Tm} (f : FrT L H H') (k : Kp H H') (hc : c ∉ L) (h : CaseAt K H c C es ts) : CaseAt K H' c C es ts := by
  obtain ⟨dx, ct, el, sl, h1, _⟩ := id h
  refine k.case (fun u e => f _ _ hc (fun ps z => ?_) e) h
  rw [h1] at e; cases e; cases z
theorem FrT.draw {L : List Addr} {H H' : Hp} {g : Dw} {n : Nat} (f : FrT L H H') (h1 : g.d ∉ L) (h2 : g.cl ∉ L) (h : DrawAt H g n) : DrawAt H' g n := by
  obtain ⟨a, l, u, xs, e1, e2, r⟩ := h
  exact ⟨a, l, u, xs, f _ _ h1 (fun ps z => nomatch z) e1, f _ _ h2 (fun ps z => nomatch z) e2, r⟩
theorem FrT.world {L : List Addr} {H H' : Hp} {W : Ww} {l dd sn : Int} (f : FrT L H H') (k : Kp H H') (hd : W.d ∉ L) (h : WorldAt K H W l dd sn) : WorldAt K H' W l dd sn := h.kp k (f _ _ hd (fun ps z => nomatch z) h.1)
theorem FrT.trial {L : List Addr} {H H' : Hp} {m c ke ks : Addr} (f : FrT L H H') (hm : m ∉ L) (h : TrialAt K H m c ke ks) : TrialAt K H' m c ke ks := let ⟨dx, e⟩ := h; ⟨dx, f _ _ hm (fun ps z => nomatch z) e⟩
theorem draw_plain {H : Hp} {g : Dw} {n : Nat} (h : DrawAt H g n) : ∀ u, H g.d = some u → plainO u := fun u e => by
  obtain ⟨_, _, _, _, h1, _⟩ := h
  rw [h1] at e; cases e; trivial
theorem case_plain {H : Hp} {c : Addr} {C : Ct} {es : List Ev} {ts : List Tm} (h : CaseAt K H c C es ts) : ∀ u, H c = some u → plainO u := fun u e => by
  obtain ⟨_, _, _, _, h1, _⟩ := h
  rw [h1] at e; cases e; trivial
theorem trial_plain {H : Hp} {m c ke ks : Addr} (h : TrialAt K H m c ke ks) : ∀ u, H m = some u → plainO u := fun u e => by
  obtain ⟨_, h1⟩ := h
  rw [h1] at e; cases e; trivial
end
/-! ### under with a lambda -/
/-- the wish of under at the trial m, the deed a lambda with the reading t -/
def tUnderL (K : PySem.W.Frag) (σ : L2.St) (t : TE) (m : Addr) (H : Hp) (Q : VK) : Prop := ∃ (c ke0 ks0 : Addr) (C : Ct) (es : List Ev) (ts : List Tm), TrialAt K H m c ke0 ks0 ∧ CaseAt K H c C es ts ∧
  ∀ ke ks H2, Fr [m] H H2 → TrialAt K H2 m c ke ks → ListsAt K H2 C ke ks es ts → CaseAt K H2 c C es ts →
    ∀ Q' : VK, (∀ v H3 es' ts', TrialAt K H3 m c ke ks → CaseAt K H3 c C es' ts' → ListsAt K H3 C ke ks es ts → (∀ H4, Fr [c] H3 H4 → CaseAt K H4 c C es ts → Q v H4) → Q' v H3) → t (σ ++ [some (.ref c)]) H2 Q'
theorem b_underK {w : World} {K : PySem.W.Frag} {mg : Str → Option Value} (T : Txt w K mg) (s : Shared) (u1 u2 : Value) : BindsTo s (fdOf K (a_under K)) ⟨[], [("manager", u1), ("deed", u2)]⟩ (ps_under.zip [u1, u2]) := by
  obtain ⟨oc, od, dV, kV, doc, pm, an, cdv, ct, osl, e, lk, hcd, hD, hK⟩ := T.f_under.ex
  rw [e]
  rcases hD with ⟨_, rfl⟩ | ⟨z, _⟩
  · exact BindsTo.of_eq rfl
  · exact absurd rfl z
section
variable {X : Cx} {pins : List (Addr × Obj)} {σ : L2.St} {H : Hp} {s : Shared} {a : Str} {params : Arguments} {body : Expr} {scope : Scope} {f c' m : Addr} {pm ctv : Value} {k : Nat} {t : TE} {Q : VK}
theorem under_lam (T : Txt X.w X.K X.mg) (I : Inv X pins σ H s) (L : LamS1 X.env.scope scope a) (hna : a ∉ X.N) (hf : s.heap.get? f = some (PySem.W.kla_obj "<lambda>" (X.env.qual ++ "<lambda>") params body scope (cloFrom X.env.cells scope.names []) pm c' ctv)) (hfn : H f = none) (hfr : f ∉ frs X.stack) (hco : H c' = some (CodeO c' (X.env.qual ++ "<lambda>")))
    (hbind : ∀ (q : Str) (cl : List (Str × Addr)) (pm cv ctv : Value) (u : Value), bindArgs (PySem.W.kla_fn "<lambda>" q params body scope cl pm cv ctv) ⟨[u], []⟩ = pure [(a, u)]) (hr : Room (k + 2) X.A) (hbody : ∀ (A : Around) (outer : List Env) (s : Shared) (H : Hp) (f c' : Addr), Room k (A.deeper (LamX.lamEnv X scope s.heap.objs.size f c')) → PE (lamC X A outer s H scope f c' a) body t)
    {args : Args} (bd : BindsTo s (fdOf X.K (a_under X.K)) args (ps_under.zip [.ref m, .ref f])) (h : tUnderL X.K σ t m H Q) : codeAny (model X.prog X.w) X.A (.call (.ref (a_under X.K)) args) (CR C8.CX0 X.stack X.prog X.w H s Q C8.E0) s := by
  obtain ⟨oc, od, dV, kV, doc, pm', an, cdv, ct, osl, e, lk, hcd, _⟩ := T.f_under.ex
  rw [e] at lk bd
  refine LamX.run_ofS (N := N_under) (ps := ps_under) (us := [.ref m, .ref f]) (vs := [.ref m, .ref f]) lk hcd sc_under hr I.env0 bd (.cons rfl (.cons rfl .nil)) rfl fun hr1 => ?_
  refine under_body T (hr1.mono (by omega)) LamX.takes0 (fun W pn xe p1 p2 p3 _ => pe_act1 (i := 1) (x := "deed") I L hna hf hfn hfr (hbind _ _ _ _ _) hr1 (fun A outer s H hr2 => hbody A outer s H f c' hr2) rfl (.inl rfl) (pv 3)) ?_
  obtain ⟨c, ke0, ks0, C, es, ts, hT, hC, kk⟩ := h
  refine ⟨c, ke0, ks0, C, es, ts, hT, hC, fun ke ks H2 f2 hT2 hL2 C2 Q' hQ' => ⟨rfl, _, rfl, f2 _ _ ?_ hco, kk ke ks H2 f2 hT2 hL2 C2 Q' hQ'⟩⟩
  obtain ⟨_, hm⟩ := hT
  simp only [List.mem_singleton]
  exact fun z => by rw [z, hm] at hco; cases hco
/-- under(e, lambda a: body) -/
def tUL (K : PySem.W.Frag) (Tl : List (Addr × Str)) (te t : TE) : TE := fun σ H Q => te σ H fun x H1 => ∃ m, x = V.ref m ∧ Tabs Tl H1 ∧ ∀ H2, ExtN H1 H2 → Tabs Tl H2 → tUnderL K σ t m H2 Q
theorem pe_underL {Tl : List (Addr × Str)} {c P : Addr} {p lpos pos : Pos} {me : Expr} {te : TE} (T : Txt X.w X.K X.mg) (hg : Gl X "under") (TB : TabB X.base X.mg c P) (hcode : X.env.code = .ref c) (hm : (P, X.env.qual ++ "<lambda>") ∈ Tl) (hu : ∀ p ∈ Tl, p.1 = P → p.2 = X.env.qual ++ "<lambda>") (hr : Room (k + 2) X.A) (L : LamS1 X.env.scope scope a) (hna : a ∉ X.N) (hme : PE X me te) (hdef : defaultsOf params X.env = ([], []))
    (hbind : ∀ (q : Str) (cl : List (Str × Addr)) (pm cv ctv : Value) (u : Value), bindArgs (PySem.W.kla_fn "<lambda>" q params body scope cl pm cv ctv) ⟨[u], []⟩ = pure [(a, u)]) (hbody : ∀ (A : Around) (outer : List Env) (s : Shared) (H : Hp) (f c' : Addr), Room k (A.deeper (LamX.lamEnv X scope s.heap.objs.size f c')) → PE (lamC X A outer s H scope f c' a) body t)
    (he : starEach [me, .Lambda params body scope lpos] X.env = (false, eval me X.env) :: starEach [.Lambda params body scope lpos] X.env := by rfl) : PE X (.Call (.Name "under" p) [me, .Lambda params body scope lpos] [] pos) (tUL X.K Tl te t) := by
  (refine ⟨fun pins s σ H Q I h => ?_⟩)
  refine wpAny_Call_Name_kw (ld_glob I hg T.g_under ?_ (by decide))
  refine PySem.W.callWith_K (h₀ := X.base) I.ok.mod.kin T.k_under ?_ he rfl
  rw [he]
  show wpAny _ _ (spliced ((false, eval me X.env) :: backTo pos (starEach [.Lambda params body scope lpos] X.env))) _ _ s
  refine Calls.spliced_cons (wpAny_mono (hme.run pins s σ H _ I h) (fun u s1 hu1 => ?_) fun _ _ z => z)
  obtain ⟨x, H1, I1, rx, m, rfl, hT, kk⟩ := hu1
  (obtain rfl : u = Value.ref m := rx)
  show wpAny _ _ (spliced ((false, eval (.Lambda params body scope lpos) X.env) :: backTo pos (starEach [] X.env))) _ _ s1
  refine Calls.spliced_cons (LamX.lam_make2 I1 TB hcode hm hu hT hdef (L.has I.ok) fun f c' pm ctv H2 s2 I2 eN T2 hf hfn hfr hco => ?_)
  refine Calls.spliced_nil ⟨I2.kIn, ?_⟩
  have bd := T.b_under s2 [.ref m, .ref f] I2.kIn rfl
  refine wpAny_call (codeAny_mono (under_lam T I2 L hna hf hfn hfr hco hbind hr hbody bd (kk H2 eN T2)) fun r s3 out => ?_)
  cases r with
  | error e => exact False.elim out
  | ok fl =>
    cases fl with
    | ret u' => exact I2.after out
    | next => exact False.elim out
    | brk => exact False.elim out
    | cont => exact False.elim out
/-- under(manager=e, deed=lambda a: body) -/
theorem pe_underLK {Tl : List (Addr × Str)} {c P : Addr} {p lpos pos k1 k2 : Pos} {me : Expr} {te : TE} (T : Txt X.w X.K X.mg) (hg : Gl X "under") (TB : TabB X.base X.mg c P) (hcode : X.env.code = .ref c) (hm : (P, X.env.qual ++ "<lambda>") ∈ Tl) (hu : ∀ p ∈ Tl, p.1 = P → p.2 = X.env.qual ++ "<lambda>") (hr : Room (k + 2) X.A) (L : LamS1 X.env.scope scope a) (hna : a ∉ X.N) (hme : PE X me te) (hdef : defaultsOf params X.env = ([], []))
    (hbind : ∀ (q : Str) (cl : List (Str × Addr)) (pm cv ctv : Value) (u : Value), bindArgs (PySem.W.kla_fn "<lambda>" q params body scope cl pm cv ctv) ⟨[u], []⟩ = pure [(a, u)]) (hbody : ∀ (A : Around) (outer : List Env) (s : Shared) (H : Hp) (f c' : Addr), Room k (A.deeper (LamX.lamEnv X scope s.heap.objs.size f c')) → PE (lamC X A outer s H scope f c' a) body t) :
    PE X (.Call (.Name "under" p) [] [⟨some "manager", me, k1⟩, ⟨some "deed", .Lambda params body scope lpos, k2⟩] pos) (tUL X.K Tl te t) := by
  (refine ⟨fun pins s σ H Q I h => ?_⟩)
  refine wpAny_Call_Name_kw (ld_glob I hg T.g_under ?_ (by decide))
  refine PySem.W.callWith_KW0 (h₀ := X.base) I.ok.mod.kin T.k_under rfl ?_ rfl
  show wpAny _ _ (evalAll [(do let v ← eval me X.env; standAt pos; pure v), (do let v ← eval (.Lambda params body scope lpos) X.env; standAt pos; pure v)]) _ _ s
  refine wpAny_evalAll_cons (wpAny_bind (wpAny_mono (hme.run pins s σ H _ I h) (fun u s1 hu1 => wpAny_bind (wpAny_standAt (wpAny_pure ?_))) fun _ _ z => z))
  obtain ⟨x, H1, I1, rx, m, rfl, hT, kk⟩ := hu1
  (obtain rfl : u = Value.ref m := rx)
  refine wpAny_evalAll_cons (wpAny_bind (LamX.lam_make2 I1 TB hcode hm hu hT hdef (L.has I.ok) fun f c' pm ctv H2 s2 I2 eN T2 hf hfn hfr hco => wpAny_bind (wpAny_standAt (wpAny_pure ?_))))
  refine wpAny_evalAll_nil ⟨I2.kIn, ?_⟩
  have bd := b_underK T s2 (.ref m) (.ref f)
  refine wpAny_call (codeAny_mono (under_lam T I2 L hna hf hfn hfr hco hbind hr hbody bd (kk H2 eN T2)) fun r s3 out => ?_)
  cases r with
  | error e => exact False.elim out
  | ok fl =>
    cases fl with
    | ret u' => exact I2.after out
    | next => exact False.elim out
    | brk => exact False.elim out
    | cont => exact False.elim out
end
end DD
namespace DD
open PySem PySem.Spec
open PyProof.Rows L2
open LamX (CodeO TabS Tabs ExtN TabB)
/-! ### blocks -/
section
variable {K : PySem.W.Frag}
theorem FrT.drop {m : Addr} {L : List Addr} {H H' : Hp} (f : FrT (m :: L) H H') (h : H m = none) : FrT L H H' := fun a u n z e => f a u (fun q => (List.mem_cons.mp q).elim (fun r => by rw [r, h] at e; cases e) n) z e
/-- one block over the case c: the deed may change c and L, and behind the block c is as it was -/
theorem block {c m ke0 ks0 : Addr} {C : Ct} {es : List Ev} {ts : List Tm} {H H1 : Hp} {L : List Addr} {Tl : List (Addr × Str)} {σ : L2.St} {t : TE} {Q : VK} (hC : CaseAt K H c C es ts) (hT : Tabs Tl H) (s1 : Same H H1) (hm : H m = none) (hTr : TrialAt K H1 m c ke0 ks0)
    (hL : ∀ a ∈ L, ∃ u, H a = some u ∧ ¬ goodO u ∧ plainO u)
    (h : ∀ H2, FrT [] H H2 → Tabs Tl H2 → CaseAt K H2 c C es ts → ∀ Q' : VK, (∀ v H3 es' ts', FrT (c :: L) H2 H3 → Tabs Tl H3 → CaseAt K H3 c C es' ts' → (∀ H4, Fr [c] H3 H4 → Kp H3 H4 → FrT (c :: L) H H4 → Tabs Tl H4 → CaseAt K H4 c C es ts → Q v H4) → Q' v H3) → t (σ ++ [some (.ref c)]) H2 Q') :
    Tabs Tl H1 ∧ ∀ H2, ExtN H1 H2 → Tabs Tl H2 → tUnderL K σ t m H2 Q := by
  refine ⟨tabs_same hT s1, fun Hx eN Tx => ?_⟩
  have fx : FrT [] H Hx := s1.fr.t.trans (frT_ext eN)
  have kx : Kp H Hx := s1.kp.trans (ext_kp eN)
  have Cx : CaseAt K Hx c C es ts := fx.case kx (by simp) hC
  have Trx : TrialAt K Hx m c ke0 ks0 := (frT_ext (L := []) eN).trial (by simp) hTr
  have ncm := trial_ne Trx Cx
  refine ⟨c, ke0, ks0, C, es, ts, Trx, Cx, fun ke ks H2 f2 Tr2 L2 C2 Q' hQ' => ?_⟩
  have f02 : FrT [] H H2 := ((fx.mono (M := [m]) (by simp)).trans f2.t).drop hm
  refine h H2 f02 (tabs_fr Tx f2 (by simpa using fun u => trial_plain Trx u)) C2 Q' fun v H3 es' ts' f3 T3 C3 kk => ?_
  have nmL : m ∉ c :: L := fun z => (List.mem_cons.mp z).elim (fun r => ncm r.symm) fun r => by
    obtain ⟨u, e, _⟩ := hL m r
    rw [hm] at e; cases e
  have k23 : Kp H2 H3 := f3.kp fun a ha u e => by
    (rcases List.mem_cons.mp ha with rfl | ha)
    · exact case_ng C2 u e
    · obtain ⟨u', e', g', p'⟩ := hL a ha
      have := f02 a u' (by simp) (fun ps z => by rw [z] at p'; exact p') e'
      rw [this] at e; cases e; exact g'
  refine hQ' v H3 es' ts' (f3.trial nmL Tr2) C3 (k23.lists L2) fun H4 f4 C4 => ?_
  exact kk H4 f4 (kp1 f4 (case_ng C3)) ((f02.mono (by simp)).trans (f3.trans (f4.t.mono (by simp)))) (tabs_fr T3 f4 (by simpa using fun u => case_plain C3 u)) C4
theorem draw_own {H : Hp} {g : Dw} {n : Nat} (h : DrawAt H g n) : ∀ a ∈ [g.d], ∃ u, H a = some u ∧ ¬ goodO u ∧ plainO u := fun a ha => by
  rw [List.mem_singleton.mp ha]
  obtain ⟨_, _, _, _, e, _⟩ := id h
  exact ⟨_, e, h.ng _ e, trivial⟩
def pW : He.Defn := (Str.ofString "_law_within", none)
def pB : He.Defn := (Str.ofString "_law_blocks_right", none)
def qW : Str := (Str.ofString "_law_within" ++ ".<locals>.") ++ "<lambda>"
def qB : Str := (Str.ofString "_law_blocks_right" ++ ".<locals>.") ++ "<lambda>"
def Tl (K : PySem.W.Frag) : List (Addr × Str) := [((He.cT K pW).2, qW), ((He.cT K pB).2, qB)]
theorem tl_w {w : World} {mg : Str → Option Value} (T : Txt w K mg) : ∀ p ∈ Tl K, p.1 = (He.cT K pW).2 → p.2 = qW := fun p hp e => by
  have ne : (He.cT K pW).2 ≠ (He.cT K pB).2 := of_decide_eq_true T.x_tabs_ne
  (rcases List.mem_cons.mp hp with rfl | hp)
  · rfl
  · rw [List.mem_singleton.mp hp] at e; exact absurd e.symm ne
theorem tl_b {w : World} {mg : Str → Option Value} (T : Txt w K mg) : ∀ p ∈ Tl K, p.1 = (He.cT K pB).2 → p.2 = qB := fun p hp e => by
  have ne : (He.cT K pW).2 ≠ (He.cT K pB).2 := of_decide_eq_true T.x_tabs_ne
  (rcases List.mem_cons.mp hp with rfl | hp)
  · exact absurd e ne
  · (rw [List.mem_singleton.mp hp])
end
section
variable {base : Heap} {mg : Str → Option Value} {K : PySem.W.Frag} {w : World} {P : Program}
/-- a def whose code object is told -/
theorem okC {p : He.Defn} {x qual : Str} {params : Arguments} {body : List Stmt} {scope : Scope} {fd : FuncData} {N ps : List Str} {k : Nat} {sp : Sp} (F : FunD K x qual params body scope [] [] (He.fAd K p) fd) (S : FnScope N ps scope) (len : ∀ vs H Q E, sp vs H Q E → vs.length = ps.length)
    (hb : ∀ (cdv : Value) (A : Around) (outer : List Env) (s : Shared) (H : Hp) (vs : List V) (Q : VK) (E : XK), cdv = .ref (He.cT K p).1 → Room k (A.deeper (envOfC qual scope s.heap.objs.size (He.fAd K p) cdv)) → sp vs H Q E →
      ∃ t, PSs (cxOf CX0 P w K mg base N qual scope (He.fAd K p) cdv A outer s H E).nox body t ∧ t { nx := fun _ H' => Q .non H', rt := Q } (start N vs) H) : FnOk P w K mg base CX0 (k + 1) (He.fAd K p) fd ps sp := by
  (obtain ⟨oc, od, dV, kV, doc, pm, an, cdv, ct, osl, rfl, lk, hcd, _, _⟩ := F.ex)
  refine fn_of lk hcd S len fun A outer s H vs Q E hr h => ?_
  obtain ⟨c, rfl⟩ := He.codeIn_ref hcd
  have e : (He.cT K p).1 = c := He.codeOf_eq lk rfl
  obtain ⟨t, d, q⟩ := hb (.ref c) A outer s H vs Q E (by rw [e]) hr h
  exact ⟨t, d.nox, q⟩
/-! ### a block within a block -/
def sp_L_within (K : PySem.W.Frag) : Sp := fun vs H Q _ => ∃ (g : Dw) (c : Addr) (W : Ww) (n : Nat) (l dd sn : Int) (C : Ct) (es : List Ev) (ts : List Tm), vs = [.ref g.d, .ref c, .ref W.d] ∧ DrawAt H g n ∧ n < 80000000 ∧ WorldAt K H W l dd sn ∧ W.d ≠ g.d ∧ CaseAt K H c C es ts ∧ C.pp = W.pp ∧ C.rn = W.rn ∧ es.length ≤ 800 ∧ Tabs (Tl K) H ∧
  ∀ a x y z es1 ts1 es2 ts2 H', FrT [g.d, c] H H' → Tabs (Tl K) H' → DrawAt H' g (n + 18) → CaseAt K H' c C es1 ts1 → H' a = some (.lst [x, y, z]) → ShAt K H' x es1 ts1 → ShAt K H' y es2 ts2 → ShAt K H' z es1 ts1 → es.length < es1.length → es1.length ≤ es.length + 9 → es1.length < es2.length → Q (.ref a) H'
theorem ok_L_within (T : Txt w K mg) (TB : TabB base mg (He.cT K pW).1 (He.cT K pW).2) : FnOk P w K mg base CX0 103 (a_L_within K) (fdOf K (a_L_within K)) ps_L_within (sp_L_within K) := by
  have G_L_led := ok_L_led (P := P) (base := base) T
  have G_L_shown := ok_L_shown (P := P) (base := base) T
  have G_Case_trial := ok_Case_trial (P := P) (base := base) T
  refine okC (p := pW) T.f_L_within sc_L_within (fun vs H Q E h => ?_) (fun cdv A outer s H vs Q E hc hr h => ?_)
  · obtain ⟨_, _, _, _, _, _, _, _, _, _, rfl, _⟩ := h; rfl
  · obtain ⟨g, c, W, n, l, dd, sn, C, es, ts, rfl, hd, hn, hw, ne, hC, epp, ern, hel, hT, k⟩ := h
    have hr_L_led : Room 100 _ := hr.mono (by omega)
    have hr_L_shown : Room 45 _ := hr.mono (by omega)
    have hr_Case_trial : Room 3 _ := hr.mono (by omega)
    refine ⟨_, (pss_cons (ps_set (i := 3) sc_L_within.nd rfl (Or.inl rfl) (pe_call G_L_led hr_L_led rfl T.g_L_led T.k_L_led T.b_L_led .nil pass0 (pa_cons (pv 0) (pa_cons (pv 1) (pa_cons (pv 2) (pa_cons pe_int pa_nil)))))) (pss_cons (ps_set (i := 4) sc_L_within.nd rfl (Or.inl rfl) (pe_underL (Tl := Tl K) T rfl TB hc List.mem_cons_self (tl_w T) hr (lamS1_by (by show lamS1B (defScope s_L_within) _ _ = true; decide +kernel)) (by show _ ∉ N_L_within; decide +kernel) (pe_meth0 (pv 1) T.cl_Case T.m_Case_trial G_Case_trial hr_Case_trial T.b_Case_trial .nil pass0) rfl (fun _ _ _ _ _ _ => rfl) (fun A outer s H f c' hr2 => pe_call G_L_led hr2 rfl T.g_L_led T.k_L_led T.b_L_led .nil pass0 (pa_cons (pv 0) (pa_cons (pv 5) (pa_cons (pv 2) (pa_cons pe_int pa_nil))))))) (pss_one (ps_ret (pe_lst (pa_cons (pv 3) (pa_cons (pv 4) (pa_cons (pe_call G_L_shown hr_L_shown rfl T.g_L_shown T.k_L_shown T.b_L_shown .nil pass0 (pa_cons (pv 1) pa_nil)) pa_nil)))))))), ?_⟩
    refine ⟨_, rfl, _, rfl, _, rfl, g, c, W, n, 1, l, dd, sn, C, es, ts, rfl, by omega, hd, by omega, hw, ne, hC, epp, ern, by omega, fun x es1 ts1 H1 f1 d1 C1 l1 l2 sx => ?_⟩
    have ncd := case_ne_d hC hd
    have T1 : Tabs (Tl K) H1 := tabs_fr hT f1 (by simpa using ⟨draw_plain hd, case_plain hC⟩)
    have k1 : Kp H H1 := f1.kp (by simpa using ⟨hd.ng, case_ng hC⟩)
    have nwd : W.d ∉ [g.d, c] := by simp only [List.mem_cons, List.not_mem_nil, or_false, not_or]; exact ⟨ne, (case_ne_w hC hw).symm⟩
    have w1 : WorldAt K H1 W l dd sn := f1.t.world k1 nwd hw
    obtain ⟨dx, ct, el, sl, q1, _⟩ := id C1
    refine ⟨_, rfl, c, dx, _, rfl, q1, rfl, c, dx, _, rfl, q1, fun m ke0 ks0 H2 s2 hm hTr => ⟨m, rfl, block (L := [g.d]) C1 T1 s2 hm hTr (draw_own d1) fun H3 f3 T3 C3 Q' hQ' => ?_⟩⟩
    have k3 : Kp H1 H3 := f3.kp (by simp)
    have d3 := f3.draw (by simp) (by simp) d1
    have w3 := f3.world k3 (by simp) w1
    refine ⟨_, rfl, _, rfl, _, rfl, g, c, W, n + 9, 2, l, dd, sn, C, es1, ts1, rfl, by omega, d3, by omega, w3, ne, C3, epp, ern, by omega, fun y es2 ts2 H4 f4 d4 C4 l3 l4 sy => ?_⟩
    refine hQ' y H4 es2 ts2 (f4.t.mono (by simp)) (tabs_fr T3 f4 (by simpa using ⟨draw_plain d3, case_plain C3⟩)) C4 fun H5 f5 k5 ff T5 C5 => ?_
    have k15 : Kp H1 H5 := ff.kp (by simpa using ⟨case_ng C1, d1.ng⟩)
    refine ⟨_, rfl, _, rfl, _, rfl, c, C, es1, ts1, rfl, C5, fun z H6 s6 sz _ => ⟨small (by simp), fun a ha => ?_⟩⟩
    have s7 := Same.new (o := .lst [x, y, z]) ha
    have S := s6.trans s7
    refine k a x y z es1 ts1 es2 ts2 _ (f1.t.trans ((ff.mono (by simp)).trans S.fr.t)) (tabs_same T5 S) (S.draw (d4.stay f5 (by simpa using Ne.symm ncd.1) (by simpa using Ne.symm ncd.2))) (S.case C5) upd_same (S.kp.sh (k15.sh sx)) (S.kp.sh (k5.sh sy)) (s7.kp.sh sz) l1 l2 l3
end
end DD
namespace DD
open PySem PySem.Spec
open PyProof.Rows L2
open LamX (CodeO TabS Tabs ExtN TabB)
section
variable {base : Heap} {mg : Str → Option Value} {K : PySem.W.Frag} {w : World} {P : Program}
/-! ### blocks are right -/
theorem ixL {σ : L2.St} {H : Hp} {i : Nat} {a : Addr} {xs : List V} {v : V} {n : Int} {Q : VK} (hσ : σ[i]? = some (some (.ref a))) (hS : SqL K H a xs) (e : atI xs n = some v) (q : Q v H) : tOp (rIx K) (tVar i) (tC (.int n)) σ H Q := ⟨_, hσ, .inl ⟨a, _, n, _, rfl, rfl, hS, e, q⟩⟩
theorem ixLL {σ : L2.St} {H : Hp} {i : Nat} {a b : Addr} {xs ys : List V} {v : V} {n m : Int} {Q : VK} (hσ : σ[i]? = some (some (.ref a))) (hS : SqL K H a xs) (e : atI xs n = some (.ref b)) (hB : SqL K H b ys) (e2 : atI ys m = some v) (q : Q v H) : tOp (rIx K) (tOp (rIx K) (tVar i) (tC (.int n))) (tC (.int m)) σ H Q := ixL hσ hS e (.inl ⟨b, _, m, _, rfl, rfl, hB, e2, q⟩)
/-- the sixth row shown: how many events -/
theorem ShAt.six {H : Hp} {v : V} {es : List Ev} {ts : List Tm} (h : ShAt K H v es ts) : ∃ l xs, v = .ref l ∧ SqL K H l xs ∧ atI xs 5 = some (.int (es.length : Nat)) := by
  obtain ⟨l, wl, v0, v1, v3, ws, rfl, h1, _⟩ := h
  exact ⟨l, _, rfl, SqL.of h1, at5⟩
def sp_L_blocks_right (K : PySem.W.Frag) : Sp := fun vs H Q _ => ∃ (g : Dw) (c : Addr) (W : Ww) (n : Nat) (l dd sn : Int) (C : Ct) (es : List Ev) (ts : List Tm), vs = [.ref g.d, .ref c, .ref W.d] ∧ DrawAt H g n ∧ n < 70000000 ∧ WorldAt K H W l dd sn ∧ W.d ≠ g.d ∧ CaseAt K H c C es ts ∧ C.pp = W.pp ∧ C.rn = W.rn ∧ es.length ≤ 700 ∧ Tabs (Tl K) H ∧
  ∀ H', FrT [g.d, c] H H' → Tabs (Tl K) H' → DrawAt H' g (n + 27) → CaseAt K H' c C es ts → Q (.bl true) H'
theorem ok_L_blocks_right (T : Txt w K mg) (TW : TabB base mg (He.cT K pW).1 (He.cT K pW).2) (TB : TabB base mg (He.cT K pB).1 (He.cT K pB).2) : FnOk P w K mg base CX0 106 (a_L_blocks_right K) (fdOf K (a_L_blocks_right K)) ps_L_blocks_right (sp_L_blocks_right K) := by
  have G_L_led := (ok_L_led (P := P) (base := base) T).mono (show 100 ≤ 103 by decide)
  have G_L_within := ok_L_within (P := P) (base := base) T TW
  have G_L_back := (ok_L_back (P := P) (base := base) T).mono (show 46 ≤ 103 by decide)
  have G_L_shownB := (ok_L_shown (P := P) (base := base) T).mono (show 45 ≤ 103 by decide)
  have G_L_shown := ok_L_shown (P := P) (base := base) T
  have G_L_refusal_right := ok_L_refusal_right (P := P) (base := base) T
  have G_Case_trial := ok_Case_trial (P := P) (base := base) T
  refine okC (p := pB) T.f_L_blocks_right sc_L_blocks_right (fun vs H Q E h => ?_) (fun cdv A outer s H vs Q E hc hr h => ?_)
  · obtain ⟨_, _, _, _, _, _, _, _, _, _, rfl, _⟩ := h; rfl
  · obtain ⟨g, c, W, n, l, dd, sn, C, es, ts, rfl, hd, hn, hw, ne, hC, epp, ern, hel, hT, k⟩ := h
    have hr_L_shown : Room 45 _ := hr.mono (by omega)
    have hr_Case_trial : Room 3 _ := hr.mono (by omega)
    have hr_L_refusal_right : Room 50 _ := hr.mono (by omega)
    have hU64 := hr.units
    refine ⟨_, (pss_cons (ps_set (i := 3) sc_L_blocks_right.nd rfl (Or.inr rfl) (pe_call G_L_shown hr_L_shown rfl T.g_L_shown T.k_L_shown T.b_L_shown .nil pass0 (pa_cons (pv 1) pa_nil))) (pss_cons (ps_set (i := 4) sc_L_blocks_right.nd rfl (Or.inl rfl) (pe_underL (k := 103) (Tl := Tl K) T rfl TB hc (List.mem_cons_of_mem _ List.mem_cons_self) (tl_b T) hr (lamS1_by (by show lamS1B (defScope s_L_blocks_right) _ _ = true; decide +kernel)) (by show _ ∉ N_L_blocks_right; decide +kernel) (pe_meth0 (pv 1) T.cl_Case T.m_Case_trial G_Case_trial hr_Case_trial T.b_Case_trial .nil pass0) rfl (fun _ _ _ _ _ _ => rfl) (fun A outer s H f c' hr2 => pe_lst (pa_cons (pe_call G_L_led hr2 rfl T.g_L_led T.k_L_led T.b_L_led .nil pass0 (pa_cons (pv 0) (pa_cons (pv 5) (pa_cons (pv 2) (pa_cons pe_int pa_nil))))) (pa_cons (pe_call G_L_shownB hr2 rfl T.g_L_shown T.k_L_shown T.b_L_shown .nil pass0 (pa_cons (pv 1) pa_nil)) pa_nil))))) (pss_cons (ps_if (PW.pt (pw_or (pt_cmpR (k_ne K hU64) (pe_ix (k_ix K) (pv 4) pe_int (fun _ _ => rfl)) (pe_ix (k_ix K) (pv 4) pe_int (fun _ _ => rfl)) (nomark _)) (pw_or (pt_cmpR op_le (pe_ix (k_ix K) (pe_ix (k_ix K) (pv 4) pe_int (fun _ _ => rfl)) pe_int (fun _ _ => rfl)) (pe_ix (k_ix K) (pv 3) pe_int (fun _ _ => rfl)) (nomark _)) (pw_or1 (pt_cmpR (k_ne K hU64) (pe_call G_L_shown hr_L_shown rfl T.g_L_shown T.k_L_shown T.b_L_shown .nil pass0 (pa_cons (pv 1) pa_nil)) (pv 3) (nomark _)))))) (pss_one (ps_ret pe_bl)) pss_nil) (pss_cons (ps_set (i := 4) sc_L_blocks_right.nd rfl (Or.inl rfl) (pe_underLK (k := 103) (Tl := Tl K) T rfl TB hc (List.mem_cons_of_mem _ List.mem_cons_self) (tl_b T) hr (lamS1_by (by show lamS1B (defScope s_L_blocks_right) _ _ = true; decide +kernel)) (by show _ ∉ N_L_blocks_right; decide +kernel) (pe_meth0 (pv 1) T.cl_Case T.m_Case_trial G_Case_trial hr_Case_trial T.b_Case_trial .nil pass0) rfl (fun _ _ _ _ _ _ => rfl) (fun A outer s H f c' hr2 => pe_call G_L_within hr2 rfl T.g_L_within T.k_L_within T.b_L_within .nil pass0 (pa_cons (pv 0) (pa_cons (pv 5) (pa_cons (pv 2) pa_nil)))))) (pss_cons (ps_if (PW.pt (pw_or (pt_cmpR (k_ne K hU64) (pe_ix (k_ix K) (pv 4) pe_int (fun _ _ => rfl)) (pe_ix (k_ix K) (pv 4) pe_int (fun _ _ => rfl)) (nomark _)) (pw_or (pt_cmpR op_le (pe_ix (k_ix K) (pe_ix (k_ix K) (pv 4) pe_int (fun _ _ => rfl)) pe_int (fun _ _ => rfl)) (pe_ix (k_ix K) (pe_ix (k_ix K) (pv 4) pe_int (fun _ _ => rfl)) pe_int (fun _ _ => rfl)) (nomark _)) (pw_or1 (pt_cmpR (k_ne K hU64) (pe_call G_L_shown hr_L_shown rfl T.g_L_shown T.k_L_shown T.b_L_shown .nil pass0 (pa_cons (pv 1) pa_nil)) (pv 3) (nomark _)))))) (pss_one (ps_ret pe_bl)) pss_nil) (pss_cons (ps_if (PW.pt (pw_and (pt_cmpR op_gt (pe_ix (k_ix K) (pv 3) pe_int (fun _ _ => rfl)) pe_int (nomark _)) (pw_and1 (pt_cmpR (k_ne K hU64) (pe_ix (k_ix K) (pe_underL (k := 103) (Tl := Tl K) T rfl TB hc (List.mem_cons_of_mem _ List.mem_cons_self) (tl_b T) hr (lamS1_by (by show lamS1B (defScope s_L_blocks_right) _ _ = true; decide +kernel)) (by show _ ∉ N_L_blocks_right; decide +kernel) (pe_meth0 (pv 1) T.cl_Case T.m_Case_trial G_Case_trial hr_Case_trial T.b_Case_trial .nil pass0) rfl (fun _ _ _ _ _ _ => rfl) (fun A outer s H f c' hr2 => pe_call G_L_back hr2 rfl T.g_L_back T.k_L_back T.b_L_back .nil pass0 (pa_cons (pv 5) (pa_cons (pe_ix (k_ix K) (pv 3) pe_int (fun _ _ => rfl)) pa_nil)))) pe_int (fun _ _ => rfl)) pe_int (nomark _))))) (pss_one (ps_ret pe_bl)) pss_nil) (pss_one (ps_ret (pe_and (pe_cmpR (k_eq K hU64) (pe_call G_L_shown hr_L_shown rfl T.g_L_shown T.k_L_shown T.b_L_shown .nil pass0 (pa_cons (pv 1) pa_nil)) (pv 3) (nomark _)) (pe_one (pe_call G_L_refusal_right hr_L_refusal_right rfl T.g_L_refusal_right T.k_L_refusal_right T.b_L_refusal_right .nil pass0 (pa_cons (pv 1) (pa_cons (pv 3) pa_nil))))))))))))), ?_⟩
    have ncd := case_ne_d hC hd
    have nwd : W.d ∉ [c, g.d] := by simp only [List.mem_cons, List.not_mem_nil, or_false, not_or]; exact ⟨(case_ne_w hC hw).symm, ne⟩
    refine ⟨_, rfl, c, C, es, ts, rfl, hC, fun v H1 s1 hv _ => ?_⟩
    have C1 := s1.case hC
    have d1 := s1.draw hd
    have w1 : WorldAt K H1 W l dd sn := hw.kp s1.kp (s1 _ _ hw.1)
    have T1 := tabs_same hT s1
    obtain ⟨dx, ct, el, sl, q1, _⟩ := id C1
    refine ⟨_, rfl, c, dx, _, rfl, q1, rfl, c, dx, _, rfl, q1, fun m ke0 ks0 H2 s2 hm hTr => ⟨m, rfl, block (L := [g.d]) C1 T1 s2 hm hTr (draw_own d1) fun H3 f3 T3 C3 Q' hQ' => ?_⟩⟩
    have k3 : Kp H1 H3 := f3.kp (by simp)
    have d3 := f3.draw (by simp) (by simp) d1
    have w3 := f3.world k3 (by simp) w1
    refine ⟨_, rfl, _, rfl, _, rfl, g, c, W, n, 3, l, dd, sn, C, es, ts, rfl, by omega, d3, by omega, w3, ne, C3, epp, ern, by omega, fun y es2 ts2 H4 f4 d4 C4 l3 l4 sy => ?_⟩
    refine ⟨_, rfl, c, C, es2, ts2, rfl, C4, fun z H5 s5 sz _ => ⟨small (by simp), fun a ha => ?_⟩⟩
    have s6 := Same.new (o := .lst [y, z]) ha
    have e6 : (upd H5 a (.lst [y, z])) a = some (.lst [y, z]) := upd_same
    have S6 := s5.trans s6
    have z6 := s6.kp.sh sz
    generalize upd H5 a (.lst [y, z]) = H6 at s6 e6 S6 z6 ⊢
    have f6 := f4.trans S6.fr
    have C6 := S6.case C4
    have d6 := S6.draw d4
    have y6 := S6.kp.sh sy
    refine hQ' _ H6 es2 ts2 (f6.t.mono (by simp)) (tabs_fr T3 f6 (by simpa using ⟨draw_plain d3, case_plain C3⟩)) C6 fun H7 f7 k7 ff T7 C7 => ?_
    have k17 : Kp H1 H7 := ff.kp (by simpa using ⟨case_ng C1, d1.ng⟩)
    have v7 := k17.sh hv
    have y7 := k7.sh y6
    have z7 := k7.sh z6
    have e7 := k7 _ _ e6 trivial
    have d7 := d6.stay f7 (by simpa using Ne.symm ncd.1) (by simpa using Ne.symm ncd.2)
    have w7 : WorldAt K H7 W l dd sn := ff.world k17 nwd w1
    have f07 : FrT [c, g.d] H H7 := (s1.fr.t.mono (M := [c, g.d]) (L := []) (by simp)).trans ff
    have fin : ∀ (x4 : Option V) (H' : Hp), FrT [c, g.d] H H' → Tabs (Tl K) H' → DrawAt H' g (n + 27) → CaseAt K H' c C es ts → ShAt K H' v es ts → tAndV (tOp (uEq K) (tCall (sp_L_shown K) [] E0 (tCons (tVar 1) tNil)) (tVar 3)) (tCall (sp_L_refusal_right K) [] E0 (tCons (tVar 1) (tCons (tVar 3) tNil))) [some (.ref g.d), some (.ref c), some (.ref W.d), some v, x4] H' Q := fun x4 H' f t d C' v' => ⟨_, rfl, c, C, es, ts, rfl, C', fun u Ha sa hu _ => ⟨_, rfl, sh_eq C'.shOk hu (sa.kp.sh v') ⟨_, rfl, yes rfl ⟨_, rfl, _, rfl, c, C, es, ts, v, rfl, sa.case C', sa.kp.sh v', fun Hb fb Cb => k Hb ((f.mono (by simp)).trans (sa.fr.t.trans (fb.t.mono (by simp)))) (tabs_fr (tabs_same t sa) fb (by simpa using fun u => case_plain (sa.case C') u)) ((sa.draw d).stay fb (by simpa using Ne.symm ncd.1) (by simpa using Ne.symm ncd.2)) Cb⟩⟩⟩⟩
    obtain ⟨lv, xv, ev, sv, av⟩ := v7.six
    subst ev
    obtain ⟨ly, xy, ey, syy, ay⟩ := y7.six
    subst ey
    refine ixL rfl (SqL.of e7) at0 (ixL rfl (SqL.of e7) at1 (sh_ne C6.shOk y7 z7 ⟨_, rfl, no (by decide) (ixLL rfl (SqL.of e7) at0 syy ay (ixL rfl sv av ⟨_, _, rfl, rfl, _, rfl, br (fun z => absurd z (by omega)) fun _ => ⟨_, rfl, c, C, es, ts, rfl, C7, fun u H8 s8 su _ => ⟨_, rfl, sh_ne C7.shOk su (s8.kp.sh v7) ⟨_, rfl, no (by decide) ?_⟩⟩⟩⟩))⟩))
    have C8 := s8.case C7
    have d8 := s8.draw d7
    have w8 : WorldAt K H8 W l dd sn := w7.kp s8.kp (s8 _ _ w7.1)
    have T8 := tabs_same T7 s8
    have v8 := s8.kp.sh v7
    have f08 : FrT [c, g.d] H H8 := f07.trans s8.fr.t
    obtain ⟨dx2, ct2, el2, sl2, q2, _⟩ := id C8
    refine ⟨_, rfl, c, dx2, _, rfl, q2, rfl, c, dx2, _, rfl, q2, fun m2 ke2 ks2 H9 s9 hm2 hTr2 => ⟨m2, rfl, block (L := [g.d]) C8 T8 s9 hm2 hTr2 (draw_own d8) fun HA fA TA CA Q2 hQ2 => ?_⟩⟩
    have kA : Kp H8 HA := fA.kp (by simp)
    have dA := fA.draw (by simp) (by simp) d8
    have wA := fA.world kA (by simp) w8
    refine ⟨_, rfl, _, rfl, _, rfl, g, c, W, n + 9, l, dd, sn, C, es, ts, rfl, dA, by omega, wA, ne, CA, epp, ern, by omega, TA, fun a2 x2 y2 z2 es3 ts3 es4 ts4 HB fB TB2 dB CB eB hx2 hy2 hz2 l5 l6 l7 => ?_⟩
    refine hQ2 _ HB es3 ts3 (fB.mono (by simp)) TB2 CB fun HC fC kC ffC TC CC => ?_
    have k8C : Kp H8 HC := ffC.kp (by simpa using ⟨case_ng C8, d8.ng⟩)
    have vC := k8C.sh v8
    have xC := kC.sh hx2
    have yC := kC.sh hy2
    have zC := kC.sh hz2
    have eC := kC _ _ eB trivial
    have dC := dB.stay fC (by simpa using Ne.symm ncd.1) (by simpa using Ne.symm ncd.2)
    have f0C : FrT [c, g.d] H HC := f08.trans ffC
    obtain ⟨lw, xw, ew, sw, aw⟩ := vC.six
    injection ew with ew
    subst ew
    obtain ⟨lx, xx, ex, sx, ax⟩ := xC.six
    subst ex
    obtain ⟨lz, xz, ez, sz2, az⟩ := yC.six
    subst ez
    refine ixL rfl (SqL.of eC) at0 (ixL rfl (SqL.of eC) at2 (sh_ne CB.shOk xC zC ⟨_, rfl, no (by decide) (ixLL rfl (SqL.of eC) at1 sz2 az (ixLL rfl (SqL.of eC) at0 sx ax ⟨_, _, rfl, rfl, _, rfl, br (fun z => absurd z (by omega)) fun _ => ⟨_, rfl, c, C, es, ts, rfl, CC, fun u HD sD su _ => ⟨_, rfl, sh_ne CC.shOk su (sD.kp.sh vC) ⟨_, rfl, no (by decide) ?_⟩⟩⟩⟩))⟩))
    have CD := sD.case CC
    have dD := sD.draw dC
    have TD := tabs_same TC sD
    have vD := sD.kp.sh vC
    have f0D : FrT [c, g.d] H HD := f0C.trans sD.fr.t
    obtain ⟨lw2, xw2, ew2, sw2, aw2⟩ := vD.six
    injection ew2 with ew2
    subst ew2
    refine ixL rfl sw2 aw2 ⟨_, _, rfl, rfl, _, rfl, br (fun hp => ?_) fun _ => no (by decide) (fin _ HD f0D TD dD CD vD)⟩
    obtain ⟨dx3, ct3, el3, sl3, q3, _⟩ := id CD
    refine ⟨_, rfl, c, dx3, _, rfl, q3, rfl, c, dx3, _, rfl, q3, fun m3 ke3 ks3 HE sE hm3 hTr3 => ⟨m3, rfl, block (L := []) CD TD sE hm3 hTr3 (by simp) fun HF fF TF CF Q3 hQ3 => ?_⟩⟩
    have vF := (fF.kp (by simp)).sh vD
    obtain ⟨lw4, xw4, ew4, sw4, aw4⟩ := vF.six
    injection ew4 with ew4
    subst ew4
    refine ⟨_, rfl, ixL rfl sw4 aw4 ⟨c, es.length, C, es, ts, rfl, CF, by omega, by omega, fun u3 HG fG CG sG => ?_⟩⟩
    refine hQ3 _ HG _ _ fG.t (tabs_fr TF fG (by simpa using fun u => case_plain CF u)) CG fun HI fI kI ffI TI CI => ?_
    obtain ⟨lu, xu, eu, su2, au⟩ := (kI.sh sG).six
    subst eu
    have kDI : Kp HD HI := ffI.kp (by simpa using case_ng CD)
    refine .inl ⟨lu, _, 5, _, rfl, rfl, su2, au, ?_⟩
    have z0 : (es.take (es.length - es.length)).length = 0 := by simp
    rw [z0]
    exact .inl ⟨rfl, _, rfl, no (by decide) (fin _ HI ((f0D.trans (ffI.mono (by simp))).mono (by simp)) TI (ffI.draw (by simpa using Ne.symm ncd.1) (by simpa using Ne.symm ncd.2) dD) CI (kDI.sh vD))⟩
end
end DD
namespace DD
open PySem PySem.Spec
open PyProof.Rows L2
open LamX (CodeO TabS Tabs ExtN TabB)
section
variable {base : Heap} {mg : Str → Option Value} {K : PySem.W.Frag} {w : World} {P : Program}
/-! ### terms of any depth that the law asks for -/
def sp_L_termU (K : PySem.W.Frag) : Sp := fun vs H Q E => ∃ n, n ≤ 4 ∧ sp_L_term K n vs H Q E
theorem ok_L_termU (T : Txt w K mg) : FnOk P w K mg base CX0 20 (a_L_term K) (fdOf K (a_L_term K)) ps_L_term (sp_L_termU K) :=
  ⟨fun vs H Q E ⟨n, _, h⟩ => (ok_L_term (P := P) (base := base) T n).len vs H Q E h, fun A outer s H args us vs Q E hr e0 hb r ⟨n, hn, h⟩ => ((ok_L_term (P := P) (base := base) T n).mono (show n + 16 ≤ 20 by omega)).run A outer s H args us vs Q E hr e0 hb r h⟩
theorem days_at {i : Int} (h0 : 0 ≤ i) (h1 : i < 3) : ∃ dd : Int, atI [V.int 2, .int 3, .int 30] i = some (.int dd) ∧ 1 ≤ dd ∧ dd ≤ 30 := by
  obtain rfl | rfl | rfl : i = 0 ∨ i = 1 ∨ i = 2 := by omega
  · exact ⟨2, at0, by omega, by omega⟩
  · exact ⟨3, at1, by omega, by omega⟩
  · exact ⟨30, at2, by omega, by omega⟩
theorem world_plain {H : Hp} {W : Ww} {l dd sn : Int} (h : WorldAt K H W l dd sn) : ∀ u, H W.d = some u → plainO u := fun u e => by
  rw [h.1] at e; cases e; trivial
/-! ### a list of what was shown grows -/
theorem keepL {H : Hp} {rl : Addr} {xs ys : List V} (e : H rl = some (.lst xs)) : ∀ a u, H a = some u → (∀ zs, u ≠ .lst zs) → upd H rl (.lst ys) a = some u := fun a u q n => by
  rw [upd_ne (fun z => by rw [z, e] at q; exact n xs (Option.some.inj q).symm)]; exact q
theorem case_row {H : Hp} {c rl l : Addr} {xs ys zs : List V} {C : Ct} {es : List Ev} {ts : List Tm} (e : H rl = some (.lst xs)) (h0 : xs[0]? = some (.ref l)) (hz : H l = some (.lst zs)) (hl : xs.length ≠ es.length + 1) (h : CaseAt K H c C es ts) : CaseAt K (upd H rl (.lst ys)) c C es ts := by
  have k : KT H (upd H rl (.lst ys)) := KT.updL e
  have kn := keepL (ys := ys) e
  obtain ⟨dx, ct, el, sl, h1, ⟨dx2, pt, rt, tm, c1, c2, ⟨us, ⟨o, r1, r2⟩, r3⟩, ⟨dx3, tv, t1, t2⟩⟩, h3, evs, sts, h4, h5, h6, h7, h8, h9⟩ := h
  have n1 : el ≠ rl := fun z => by
    rw [z, e] at h4; cases h4
    obtain ⟨_, _, a, ea, ⟨_, _, g, _⟩, _⟩ := h5.get h0
    cases ea
    rw [hz] at g; cases g
  have n2 : sl ≠ rl := fun z => by
    rw [z, e] at h6; cases h6
    exact hl (by rw [h7.len, h8])
  refine ⟨dx, ct, el, sl, kn _ _ h1 (fun _ z => nomatch z), ⟨dx2, pt, rt, tm, kn _ _ c1 (fun _ z => nomatch z), k.tup c2, ⟨us, ⟨o, kn _ _ r1 (fun _ z => nomatch z), r2⟩, k.dts r3⟩, ⟨dx3, tv, kn _ _ t1 (fun _ z => nomatch z), k.dt t2⟩⟩, h3, evs, sts, by rw [upd_ne n1]; exact h4, h5.imp fun _ _ q => ?_, by rw [upd_ne n2]; exact h6, h7.imp fun _ _ q => ?_, h8, h9⟩
  · obtain ⟨a, q0, ⟨d1, wv, q1, q2⟩, q3⟩ := q
    exact ⟨a, q0, ⟨d1, wv, kn _ _ q1 (fun _ z => nomatch z), k.dt q2⟩, q3⟩
  · obtain ⟨a, hd, u, q0, q1, q2, q3, hs, q4, q5⟩ := q
    exact ⟨a, hd, u, q0, k.tup q1, k.dt q2, q3, hs, kn _ _ q4 (fun _ z => nomatch z), q5⟩
theorem sh_row {H : Hp} {rl : Addr} {xs ys : List V} {v : V} {es : List Ev} {ts : List Tm} (e : H rl = some (.lst xs)) (h2 : ∀ u ∈ xs, ∃ l, u = .ref l) (hw : xs.length ≠ es.length ∨ ∀ l ys wl, v = .ref l → H l = some (.lst ys) → ys[4]? = some (.ref wl) → wl ≠ rl) (h : ShAt K H v es ts) : ShAt K (upd H rl (.lst ys)) v es ts := by
  have k : KT H (upd H rl (.lst ys)) := KT.updL e
  obtain ⟨l, wl, v0, v1, v3, ws, e0, g1, g2, g3, g4, g5, g6⟩ := h
  have n1 : l ≠ rl := fun z => by
    rw [z, e] at g1; cases g1
    obtain ⟨_, q⟩ := h2 (.str (lastT ts).text) (by simp)
    cases q
  have n2 : wl ≠ rl := by
    rcases hw with hw | hw
    · intro z
      rw [z, e] at g5; cases g5
      exact hw (by rw [dps_len g6, List.length_map])
    · exact hw l _ wl e0 g1 rfl
  exact ⟨l, wl, v0, v1, v3, ws, e0, by rw [upd_ne n1]; exact g1, k.dt g2, k.dt g3, k.dt g4, by rw [upd_ne n2]; exact g5, k.dts g6⟩
theorem ShAt.ref {H : Hp} {v : V} {es : List Ev} {ts : List Tm} (h : ShAt K H v es ts) : ∃ l ys, v = .ref l ∧ H l = some (.lst ys) := by
  obtain ⟨l, _, _, _, _, _, e, h1, _⟩ := h
  exact ⟨l, _, e, h1⟩
/-- the list at rl holds what the case showed, behind each event -/
def RowsAt (K : PySem.W.Frag) (H : Hp) (rl : Addr) (es : List Ev) (ts : List Tm) : Prop := ∃ vs, H rl = some (.lst vs) ∧ vs.length = es.length + 1 ∧ ts.length = es.length + 1 ∧ ∀ (n : Nat) (u : V), vs[n]? = some u → ShAt K H u (es.take n) (ts.take (n + 1))
theorem RowsAt.kp {H H' : Hp} {rl : Addr} {es : List Ev} {ts : List Tm} (h : RowsAt K H rl es ts) (k : Kp H H') : RowsAt K H' rl es ts := by
  obtain ⟨vs, h1, h2, h3, h4⟩ := h
  exact ⟨vs, k _ _ h1 trivial, h2, h3, fun n u e => k.sh (h4 n u e)⟩
theorem rows_plain {H : Hp} {rl : Addr} {es : List Ev} {ts : List Tm} (h : RowsAt K H rl es ts) : ∀ u, H rl = some u → plainO u := fun u e => by
  obtain ⟨_, h1, _⟩ := h
  rw [h1] at e; cases e; trivial
/-- one more event has come at H, what is shown then is written at the list's end -/
theorem RowsAt.snoc {H : Hp} {c rl : Addr} {C : Ct} {es : List Ev} {ts : List Tm} {e : Ev} {t : Tm} {vs : List V} {v : V} (h1 : H rl = some (.lst vs)) (h2 : vs.length = es.length + 1) (h3 : ts.length = es.length + 1) (h4 : ∀ (n : Nat) (u : V), vs[n]? = some u → ShAt K H u (es.take n) (ts.take (n + 1))) (hC : CaseAt K H c C (es ++ [e]) (ts ++ [t])) (hv : ShAt K H v (es ++ [e]) (ts ++ [t]))
    (hw : ∀ l ys wl, v = .ref l → H l = some (.lst ys) → ys[4]? = some (.ref wl) → wl ≠ rl) : RowsAt K (upd H rl (.lst (vs ++ [v]))) rl (es ++ [e]) (ts ++ [t]) ∧ CaseAt K (upd H rl (.lst (vs ++ [v]))) c C (es ++ [e]) (ts ++ [t]) := by
  have hr : ∀ u ∈ vs, ∃ l, u = .ref l := fun u hu => by
    obtain ⟨n, hn⟩ := List.getElem?_of_mem hu
    obtain ⟨l, _, e, _⟩ := (h4 n u hn).ref
    exact ⟨l, e⟩
  constructor
  · refine ⟨_, upd_same, by simp [h2], by simp [h3], fun n u hn => ?_⟩
    by_cases hl : n < vs.length
    · rw [List.getElem?_append_left hl] at hn
      have q := sh_row (ys := vs ++ [v]) h1 hr (.inl (by rw [List.length_take]; omega)) (h4 n u hn)
      rw [List.take_append_of_le_length (by omega), List.take_append_of_le_length (by omega)]
      exact q
    · have en : n = vs.length := by
        have := (List.getElem?_eq_some_iff.mp hn).1
        simp at this; omega
      subst en
      simp at hn
      subst hn
      have q := sh_row (ys := vs ++ [v]) h1 hr (.inr hw) hv
      rw [List.take_of_length_le (by simp; omega), List.take_of_length_le (by simp; omega)]
      exact q
  · have hp : 0 < vs.length := by omega
    obtain ⟨l, zs, e0, e1⟩ := (h4 0 vs[0] (List.getElem?_eq_getElem hp)).ref
    exact case_row h1 (by rw [List.getElem?_eq_getElem hp, e0]) e1 (by simp; omega) hC
/-! ### the law -/
def sp_law (K : PySem.W.Frag) : Sp := fun vs H Q _ => ∃ (a : Addr) (xs : List Int), vs = [.ref a] ∧ SqL K H a (xs.map V.int) ∧ xs.length ≤ 1000 ∧ Tabs (Tl K) H ∧ ∀ H', Q (.bl true) H'
theorem ok_law (T : Txt w K mg) (TW : TabB base mg (He.cT K pW).1 (He.cT K pW).2) (TB : TabB base mg (He.cT K pB).1 (He.cT K pB).2) : FnOk P w K mg base CX0 107 (a_law K) (fdOf K (a_law K)) ps_law (sp_law K) := by
  have G_L_begin := ok_L_begin (P := P) (base := base) T
  have G_L_world := ok_L_world (P := P) (base := base) T
  have G_L_next := ok_L_next (P := P) (base := base) T
  have G_L_term := ok_L_termU (P := P) (base := base) T
  have G_L_contract := ok_L_contract (P := P) (base := base) T
  have G_Case_init := ok_Case_init (P := P) (base := base) T
  have G_L_shown := ok_L_shown (P := P) (base := base) T
  have G_L_row := ok_L_row (P := P) (base := base) T
  have G_L_event := ok_L_event (P := P) (base := base) T
  have G_Case_iadd := ok_Case_iadd (P := P) (base := base) T
  have G_L_blocks_right := ok_L_blocks_right (P := P) (base := base) T TW TB
  have G_L_back := ok_L_back (P := P) (base := base) T
  refine ok0 T.f_law sc_law (fun vs H Q E h => ?_) (fun cdv A outer s H vs Q E hr h => ?_)
  · obtain ⟨_, _, rfl, _⟩ := h; rfl
  · obtain ⟨a, xs, rfl, hS, hxs, hT, k⟩ := h
    have hr_L_begin : Room 1 _ := hr.mono (by omega)
    have hr_L_world : Room 4 _ := hr.mono (by omega)
    have hr_L_next : Room 1 _ := hr.mono (by omega)
    have hr_L_term : Room 20 _ := hr.mono (by omega)
    have hr_L_contract : Room 13 _ := hr.mono (by omega)
    have hr_Case_init : Room 86 _ := hr.mono (by omega)
    have hr_L_shown : Room 45 _ := hr.mono (by omega)
    have hr_L_row : Room 3 _ := hr.mono (by omega)
    have hr_L_event : Room 8 _ := hr.mono (by omega)
    have hr_Case_iadd : Room 99 _ := hr.mono (by omega)
    have hr_L_blocks_right : Room 106 _ := hr
    have hr_L_back : Room 46 _ := hr.mono (by omega)
    have hU64 := hr.units
    have hU1 := hu_of hr
    refine ⟨_, (pss_cons (ps_set (i := 1) sc_law.nd rfl (Or.inl rfl) (pe_call G_L_begin hr_L_begin rfl T.g_L_begin T.k_L_begin T.b_L_begin .nil pass0 (pa_cons (pv 0) pa_nil))) (pss_cons (ps_for PassesOwn.never rfl (pi_range1 rfl T.n_range (pa_cons pe_int pa_nil)) (pg_name (i := 2) sc_law.nd rfl (Or.inl rfl) (Or.inl rfl)) (pss_cons (ps_set (i := 3) sc_law.nd rfl (Or.inl rfl) (pe_call G_L_world hr_L_world rfl T.g_L_world T.k_L_world T.b_L_world .nil pass0 (pa_cons (pv 1) (pa_cons pe_int (pa_cons pe_int pa_nil))))) (pss_cons (ps_asg (pe_tup (pa_cons (pe_op (k_add K) pe_int (pe_call G_L_next hr_L_next rfl T.g_L_next T.k_L_next T.b_L_next .nil pass0 (pa_cons (pv 1) (pa_cons pe_int pa_nil)))) (pa_cons (pe_ix (k_ix K) (pe_lst (pa_cons pe_int (pa_cons pe_int (pa_cons pe_int pa_nil)))) (pe_call G_L_next hr_L_next rfl T.g_L_next T.k_L_next T.b_L_next .nil pass0 (pa_cons (pv 1) (pa_cons pe_int pa_nil))) (fun _ _ => rfl)) pa_nil))) (k_tup K (n := 2) rfl (pgs_cons (pg_sub (pv 3) pe_str (set_dict hU1)) (pgs_cons (pg_sub (pv 3) pe_str (set_dict hU1)) pgs_nil)))) (pss_cons (ps_set (i := 4) sc_law.nd rfl (Or.inl rfl) (pe_call G_L_term hr_L_term rfl T.g_L_term T.k_L_term T.b_L_term .nil pass0 (pa_cons (pv 1) (pa_cons (pv 3) (pa_cons (pe_op (k_add K) pe_int (pe_call G_L_next hr_L_next rfl T.g_L_next T.k_L_next T.b_L_next .nil pass0 (pa_cons (pv 1) (pa_cons pe_int pa_nil)))) pa_nil))))) (pss_cons (ps_set (i := 5) sc_law.nd rfl (Or.inl rfl) (pe_make T.mk_Case G_Case_init hr_Case_init rfl T.g_Case T.b_Case_init .nil pass0 (pa_cons (pe_call G_L_contract hr_L_contract rfl T.g_L_contract T.k_L_contract T.b_L_contract .nil pass0 (pa_cons (pv 3) (pa_cons (pv 4) pa_nil))) pa_nil))) (pss_cons (ps_set (i := 6) sc_law.nd rfl (Or.inl rfl) (pe_lst (pa_cons (pe_call G_L_shown hr_L_shown rfl T.g_L_shown T.k_L_shown T.b_L_shown .nil pass0 (pa_cons (pv 5) pa_nil)) pa_nil))) (pss_cons (ps_for PassesOwn.never rfl (k_piL K (pe_call G_L_row hr_L_row rfl T.g_L_row T.k_L_row T.b_L_row .nil pass0 (pa_cons (pv 1) (pa_cons (pv 3) (pa_cons pe_int pa_nil))))) (pg_name (i := 7) sc_law.nd rfl (Or.inl rfl) (Or.inl rfl)) (pss_cons (ps_augO (i := 5) (ip_own T.x_self_Case (m_iadd T) G_Case_iadd hr_Case_iadd T.b_Case_iadd pass0) sc_law.nd rfl (Or.inl rfl) (pe_call G_L_event hr_L_event rfl T.g_L_event T.k_L_event T.b_L_event .nil pass0 (pa_cons (pv 7) pa_nil))) (pss_one (ps_expr (k_bm K PySem.F.plainAttrs_list PySem.F.slot_list_append PySem.F.type_list_append mt_append (pv 6) (pa_cons (pe_call G_L_shown hr_L_shown rfl T.g_L_shown T.k_L_shown T.b_L_shown .nil pass0 (pa_cons (pv 5) pa_nil)) pa_nil)))))) (pss_cons (ps_if (pt_not (pt_val (pe_call G_L_blocks_right hr_L_blocks_right rfl T.g_L_blocks_right T.k_L_blocks_right T.b_L_blocks_right .nil pass0 (pa_cons (pv 1) (pa_cons (pv 5) (pa_cons (pv 3) pa_nil)))))) (pss_one (ps_ret pe_bl)) pss_nil) (pss_one (ps_for PassesOwn.never rfl (k_piL K (pe_revL (pe_slice (k_sl K) (pv 6) po_none (po_some (pe_un un_neg pe_int))))) (pg_name (i := 8) sc_law.nd rfl (Or.inl rfl) (Or.inl rfl)) (pss_one (ps_if (pt_cmpR (k_ne K hU64) (pe_call G_L_back hr_L_back rfl T.g_L_back T.k_L_back T.b_L_back .nil pass0 (pa_cons (pv 5) (pa_cons pe_int pa_nil))) (pv 8) (nomark _)) (pss_one (ps_ret pe_bl)) pss_nil)))))))))))) (pss_one (ps_ret pe_bl)))), ?_⟩
    refine ⟨_, rfl, a, xs, rfl, hS, hxs, fun g H0 s0 d0 => ?_⟩
    have T0 := tabs_same hT s0
    refine ⟨4, rfl, by decide, by decide, for_it (walk_range (n := 4)) (fun i σ H' => ∃ x2 x3 x4 x5 x6 x7 x8, σ = [some (.ref a), some (.ref g.d), x2, x3, x4, x5, x6, x7, x8] ∧ DrawAt H' g (1000 * i) ∧ Tabs (Tl K) H') ⟨_, _, _, _, _, _, _, rfl, d0, T0⟩ (fun _ _ _ _ _ => trivial) ?_ ?_⟩
    · rintro i x σ H1 H1' hi ⟨x2, x3, x4, x5, x6, x7, x8, rfl, d1, T1⟩ ⟨rfl, rfl⟩
      refine ⟨_, rfl, g, 1000 * i, rfl, d1, by omega, fun W H2 f2 d2 w2 ne => ?_⟩
      have T2 := tabs_fr T1 f2 (by simpa using fun u => draw_plain d1 u)
      refine ⟨_, rfl, g, 8, _, rfl, d2, by omega, by omega, by omega, fun i3 H3 f3 d3 h30 h31 => ?_⟩
      have T3 := tabs_fr T2 f3 (by simpa using fun u => draw_plain d2 u)
      have w3 := w2.dr d2 ne f3
      refine .inl ⟨_, _, rfl, rfl, small (by simp), fun p hp => ?_⟩
      have s4 := Same.new (o := .lst [.int 2, .int 3, .int 30]) hp
      have e4 : (upd H3 p (.lst [.int 2, .int 3, .int 30])) p = some (.lst [.int 2, .int 3, .int 30]) := upd_same
      have T4 := tabs_same T3 s4
      have d4 := s4.draw d3
      have w4 : WorldAt K _ W 0 3 0 := w3.kp s4.kp (s4 _ _ w3.1)
      have npg : p ≠ g.d := by obtain ⟨_, _, _, _, h, _⟩ := id d3; exact fun z => by rw [z, h] at hp; cases hp
      generalize (upd H3 p (.lst [.int 2, .int 3, .int 30])) = H4 at s4 e4 T4 d4 w4 ⊢
      refine ⟨_, rfl, g, 3, _, rfl, d4, by omega, by omega, by omega, fun i5 H5 f5 d5 h50 h51 => ?_⟩
      have T5 := tabs_fr T4 f5 (by simpa using fun u => draw_plain d4 u)
      have w5 := w4.dr d4 ne f5
      have e5 := f5 _ _ (by simpa using npg) e4
      obtain ⟨dd, edd, dd1, dd30⟩ := days_at h50 h51
      refine .inl ⟨p, _, i5, _, rfl, rfl, SqL.of e5, edd, small (by simp), fun q hq => ?_⟩
      have s6 := Same.new (o := .tup [.int (3 + i3), .int dd]) hq
      have e6 : (upd H5 q (.tup [.int (3 + i3), .int dd])) q = some (.tup [.int (3 + i3), .int dd]) := upd_same
      have T6 := tabs_same T5 s6
      have d6 := s6.draw d5
      have w6 : WorldAt K _ W 0 3 0 := w5.kp s6.kp (s6 _ _ w5.1)
      generalize (upd H5 q (.tup [.int (3 + i3), .int dd])) = H6 at s6 e6 T6 d6 w6 ⊢
      refine ⟨q, _, rfl, SqT.of e6, rfl, _, _, rfl, _, rfl, W.d, _, rfl, dp w6.1 (by simp [worldF]), ?_⟩
      obtain ⟨w7, d7, f7⟩ := w6.put (l' := 3 + i3) (dd' := 3) (sn' := 0) d6 ne
      have T7 := tabs_fr T6 f7 (by simpa using fun u => world_plain w6 u)
      rw [show putK (worldF W 0 3 0) (.inr "left") (.int (3 + i3)) = worldF W (3 + i3) 3 0 from rfl]
      generalize (upd H6 W.d (.dK (worldF W (3 + i3) 3 0))) = H7 at w7 d7 f7 T7 ⊢
      refine ⟨_, _, rfl, _, rfl, W.d, _, rfl, dp w7.1 (by simp [worldF]), ?_⟩
      obtain ⟨w8, d8, f8⟩ := w7.put (l' := 3 + i3) (dd' := dd) (sn' := 0) d7 ne
      have T8 := tabs_fr T7 f8 (by simpa using fun u => world_plain w7 u)
      rw [show putK (worldF W (3 + i3) 3 0) (.inr "days") (.int dd) = worldF W (3 + i3) dd 0 from rfl]
      generalize (upd H7 W.d (.dK (worldF W (3 + i3) dd 0))) = H8 at w8 d8 f8 T8 ⊢
      refine ⟨rfl, ?_⟩
      refine ⟨_, rfl, _, rfl, _, rfl, g, 4, _, rfl, d8, by omega, by omega, by omega, fun i9 H9 f9 d9 h90 h91 => ?_⟩
      have T9 := tabs_fr T8 f9 (by simpa using fun u => draw_plain d8 u)
      have w9 := w8.dr d8 ne f9
      obtain ⟨j9, rfl⟩ := Int.eq_ofNat_of_zero_le h90
      refine .inl ⟨2, (j9 : Int), rfl, rfl, j9 + 1, by omega, g, W, _, 3 + i3, dd, 0, by show [V.ref g.d, V.ref W.d, V.int (2 + (j9 : Int))] = _; rw [show (2 : Int) + (j9 : Int) = ((j9 + 1 + 1 : Nat) : Int) by omega], d9, by omega, w9, ne, dd1, dd30, by omega, fun v t l' sn' HA fA dA wA hv hst hpt hl => ?_⟩
      have TA := tabs_fr T9 fA (by simpa using ⟨draw_plain d9, world_plain w9⟩)
      refine ⟨_, rfl, _, rfl, W, l', dd, sn', v, t, j9 + 1 + 1, rfl, wA, hv, hst, by omega, by omega, fun ct HB sB hct hok => fun c dx hc hdx nxd => ?_⟩
      refine ⟨c, dx, ct, ⟨W.nm, W.pp, W.rs, t, j9 + 1 + 1⟩, rfl, upd_same, (made hc hdx fun _ _ _ q => q).cont hct, hok, fun HC t0 bC CC => ⟨rfl, ?_⟩⟩
      have sC := sB.trans (made hc hdx bC)
      have TC := tabs_same TA sC
      have dC := sC.draw dA
      have wC : WorldAt K HC W l' dd sn' := wA.kp sC.kp (sC _ _ wA.1)
      have ern : (⟨W.nm, W.pp, W.rs, t, j9 + 1 + 1⟩ : Ct).rn = W.rn := rfl
      have epp : (⟨W.nm, W.pp, W.rs, t, j9 + 1 + 1⟩ : Ct).pp = W.pp := rfl
      have hok' : (⟨W.nm, W.pp, W.rs, t, j9 + 1 + 1⟩ : Ct).Ok := hok
      generalize (⟨W.nm, W.pp, W.rs, t, j9 + 1 + 1⟩ : Ct) = C at CC ern epp hok' ⊢
      refine ⟨_, rfl, c, C, [], [t0], rfl, CC, fun v0 HD sD hv0 _ => ⟨small (by simp), fun rl hrl => ?_⟩⟩
      have sE := Same.new (o := .lst [v0]) hrl
      have eE : (upd HD rl (.lst [v0])) rl = some (.lst [v0]) := upd_same
      have SE := sD.trans sE
      have hvE := sE.kp.sh hv0
      have CE := SE.case CC
      have dE := SE.draw dC
      have wE : WorldAt K _ W l' dd sn' := wC.kp SE.kp (SE _ _ wC.1)
      have TE := tabs_same TC SE
      have nrl : rl ≠ c ∧ rl ≠ g.d ∧ rl ≠ g.cl ∧ rl ≠ W.al := by
        obtain ⟨_, _, _, _, h, _⟩ := sD.case CC
        obtain ⟨_, _, _, _, h2, h3, _⟩ := sD.draw dC
        exact ⟨fun z => (by rw [z, h] at hrl; cases hrl), fun z => (by rw [z, h2] at hrl; cases hrl), fun z => (by rw [z, h3] at hrl; cases hrl), fun z => (by rw [z, sD _ _ wC.2.2.2.1] at hrl; cases hrl)⟩
      generalize (upd HD rl (.lst [v0])) = HE at sE eE SE hvE CE dE wE TE ⊢
      refine ⟨_, rfl, _, rfl, g, W, _, 8, l', dd, sn', rfl, by omega, dE, by omega, wE, ne, fun al evs HF fF dF ⟨lv, hlv, hdt, heo⟩ hvl hal => ⟨al, rfl, ⟨_, SqL.of hlv⟩, ?_⟩⟩
      have lvl : lv.length = evs.length := by rw [dps_len hdt, List.length_map]
      have ncd := case_ne_d CE dE
      have CF := case_fr CE dE fF
      have rF : RowsAt K HF rl [] [t0] := ⟨[v0], fF _ _ (by simpa using nrl.2.1) eE, rfl, rfl, fun n u e => by
        cases n with
        | zero => cases e; exact (dE.kp fF).sh hvE
        | succ n => simp at e⟩
      have TF := tabs_fr TE fF (by simpa using fun u => draw_plain dE u)
      have wF := wE.dr dE ne fF
      have nal : al ≠ rl ∧ al ≠ c := by
        obtain ⟨_, _, _, _, h, _⟩ := id CE
        exact ⟨fun z => (by rw [z, eE] at hal; cases hal), fun z => (by rw [z, h] at hal; cases hal)⟩
      have nwc : W.d ∉ [c, rl] := by
        have := case_ne_w CE wE
        simp only [List.mem_cons, List.not_mem_nil, or_false, not_or]
        exact ⟨this.symm, fun z => by have q := wE.1; rw [z, eE] at q; cases q⟩
      refine for_it (walk_list (xs := lv)) (fun j σ H' => ∃ x7 ts, σ = [some (.ref a), some (.ref g.d), some (.int (0 + (i : Nat))), some (.ref W.d), some v, some (.ref c), some (.ref rl), x7, x8] ∧ Fr [c, rl] HF H' ∧ CaseAt K H' c C (evs.take j) ts ∧ RowsAt K H' rl (evs.take j) ts) ⟨_, _, rfl, Fr.refl _ _, CF, rF⟩ (fun j σ H' _ ⟨_, _, _, f, _⟩ => SqL.of (f _ _ (by simpa using ⟨nal.2, nal.1⟩) hlv)) ?_ ?_
      · rintro j y σ Hz Ha hj ⟨x7, ts, rfl, fa, Ca, ra⟩ ⟨rfl, hy⟩
        obtain ⟨d, g1, g2⟩ := dps_get hdt hy
        rw [List.getElem?_map] at g1
        cases q : evs[j]? with
        | none => rw [q] at g1; cases g1
        | some e =>
          rw [q] at g1; cases g1
          have ka : KT HF Ha := fun b u e1 t1 => fa b u (fun z => by
            rcases List.mem_cons.mp z with rfl | z
            · obtain ⟨_, _, _, _, h, _⟩ := id CF
              rw [h] at e1; cases e1; cases t1
            · obtain ⟨_, h, _⟩ := rF
              rw [List.mem_singleton.mp z, h] at e1; cases e1; cases t1) e1
          have etk : evs.take (j + 1) = evs.take j ++ [e] := by rw [List.take_add_one, q]; rfl
          have heok : EvOk C.pp C.rn e := by rw [epp, ern]; exact heo e (List.mem_of_getElem? q)
          have jl : j < evs.length := (List.getElem?_eq_some_iff.mp q).1
          refine ⟨_, rfl, _, rfl, y, e, C.nm, C.pp, C.rn, rfl, ka.dt g2, CtOk.cn hok', heok, fun x Hc sc hx => ?_⟩
          obtain ⟨dx1, ct1, el1, sl1, q1, _⟩ := id Ca
          refine ⟨c, dx1, _, rfl, sc _ _ q1, c, x, C, evs.take j, ts, e, rfl, sc.case Ca, hx, heok, by rw [List.length_take]; omega, fun t1 Hd fd Cd => ⟨⟨_, rfl⟩, ?_⟩⟩
          obtain ⟨vs, r1, r2, r3, r4⟩ := (ra.kp sc.kp).kp (kp1 fd (case_ng (sc.case Ca)))
          refine ⟨_, rfl, .inl ⟨rfl, _, SqL.of r1⟩, _, rfl, c, C, _, _, rfl, Cd, fun u He se su hfu => ?_⟩
          have hnw : ∀ l ys wl, u = .ref l → He l = some (.lst ys) → ys[4]? = some (.ref wl) → wl ≠ rl := fun l ys wl e1 e2 e3 z => by
            have := hfu l ys wl e1 e2 e3
            rw [z, r1] at this; cases this
          obtain ⟨R, CR⟩ := RowsAt.snoc (se _ _ r1) r2 r3 (fun n u e => se.kp.sh (r4 n u e)) (se.case Cd) su hnw
          refine ⟨rl, vs, u, rfl, rfl, se _ _ r1, smallLt (by rw [r2, List.length_take]; omega), some y, ts ++ [t1], rfl, ?_, ?_, ?_⟩
          · exact fa.trans (sc.fr.trans ((fd.mono (by simp)).trans (se.fr.trans ((Fr.upd in1).mono (by simp)))))
          · rw [etk]; exact CR
          · rw [etk]; exact R
      · rintro σ Ha ⟨x7, ts, rfl, fa, Ca, ra⟩
        rw [List.take_of_length_le (by omega)] at Ca ra
        have ka : KT HF Ha := fun b u e1 t1 => fa b u (fun z => by
          rcases List.mem_cons.mp z with rfl | z
          · obtain ⟨_, _, _, _, h, _⟩ := id CF
            rw [h] at e1; cases e1; cases t1
          · obtain ⟨_, h, _⟩ := rF
            rw [List.mem_singleton.mp z, h] at e1; cases e1; cases t1) e1
        have da := dF.stay fa (by simpa using ⟨Ne.symm ncd.1, Ne.symm nrl.2.1⟩) (by simpa using ⟨Ne.symm ncd.2, Ne.symm nrl.2.2.1⟩)
        have wa : WorldAt K Ha W l' dd sn' := by
          have nac : W.al ≠ c := fun z => by
            obtain ⟨_, _, _, _, h, _⟩ := id CF
            have q := wF.2.2.2.1
            rw [z, h] at q; cases q
          obtain ⟨g1, g2, ⟨us, ⟨o, g3, g4⟩, g5⟩, g6, g7⟩ := wF
          exact ⟨fa _ _ nwc g1, ka.tup g2, ⟨us, ⟨o, ka _ _ g3 rfl, g4⟩, ka.dts g5⟩, fa _ _ (by simpa using ⟨nac, Ne.symm nrl.2.2.2⟩) g6, g7⟩
        have Ta := tabs_fr TF fa (by simpa using ⟨case_plain CF, rows_plain rF⟩)
        refine ⟨_, rfl, _, rfl, _, rfl, g, c, W, _, l', dd, sn', C, evs, ts, rfl, da, by omega, wa, ne, Ca, epp, ern, by omega, Ta, fun HG fG TG dG CG => ⟨_, rfl, no (by decide) ?_⟩⟩
        have kG : Kp Ha HG := fG.kp (by simpa using ⟨da.ng, case_ng Ca⟩)
        obtain ⟨vs, r1, r2, r3, r4⟩ := ra.kp kG
        refine ⟨_, rfl, _, rfl, _, rfl, .inl ⟨rl, vs, rfl, SqL.of r1, fun p1 hp1 => ?_⟩⟩
        rw [show cutV vs none (some (-1)) = vs.take (vs.length - 1) from cut_neg vs 1 (by omega) (by omega)]
        have s1 := Same.new (o := .lst (vs.take (vs.length - 1))) hp1
        have g1 : (upd HG p1 (.lst (vs.take (vs.length - 1)))) p1 = some (.lst (vs.take (vs.length - 1))) := upd_same
        generalize (upd HG p1 (.lst (vs.take (vs.length - 1)))) = HI at s1 g1 ⊢
        refine ⟨p1, _, rfl, SqL.of g1, fun p2 hp2 => ?_⟩
        have s2 := Same.new (o := .lst (vs.take (vs.length - 1)).reverse) hp2
        have g2 : (upd HI p2 (.lst (vs.take (vs.length - 1)).reverse)) p2 = some (.lst (vs.take (vs.length - 1)).reverse) := upd_same
        generalize (upd HI p2 (.lst (vs.take (vs.length - 1)).reverse)) = HK at s2 g2 ⊢
        have S := s1.trans s2
        have CK := S.case CG
        have dK := S.draw dG
        have TK := tabs_same TG S
        have R4 := fun n u e => S.kp.sh (r4 n u e)
        have nkc : p2 ≠ c := by
          obtain ⟨_, _, _, _, h, _⟩ := id CK
          exact fun z => by rw [z, h] at g2; cases g2
        have ncdK := case_ne_d CK dK
        have lK : ((vs.take (vs.length - 1)).reverse).length = evs.length := by rw [List.length_reverse, List.length_take]; omega
        refine ⟨p2, rfl, ⟨_, SqL.of g2⟩, for_it (walk_list (xs := (vs.take (vs.length - 1)).reverse)) (fun j σ H' => ∃ x8, σ = [some (.ref a), some (.ref g.d), some (.int (0 + (i : Nat))), some (.ref W.d), some v, some (.ref c), some (.ref rl), x7, x8] ∧ Fr [c] HK H' ∧ CaseAt K H' c C (evs.take (evs.length - j)) (ts.take (evs.length + 1 - j))) ⟨_, rfl, Fr.refl _ _, ?_⟩ (fun j σ H' _ ⟨_, _, f, _⟩ => SqL.of (f _ _ (by simpa using nkc) g2)) ?_ ?_⟩
        · rw [List.take_of_length_le (by omega), List.take_of_length_le (by omega)]; exact CK
        · rintro j y σ Hz Hj hj ⟨x8, rfl, fj, Cj⟩ ⟨rfl, hy⟩
          rw [List.getElem?_reverse (by rw [List.length_take]; omega), List.length_take, List.getElem?_take_of_lt (by omega), show min (vs.length - 1) vs.length - 1 - j = evs.length - (j + 1) by omega] at hy
          have hs := (kp1 fj (case_ng CK)).sh (R4 _ _ hy)
          rw [show evs.length - (j + 1) + 1 = evs.length + 1 - (j + 1) by omega] at hs
          have eA : (evs.take (evs.length - j)).take ((evs.take (evs.length - j)).length - 1) = evs.take (evs.length - (j + 1)) := by
            rw [List.take_take, List.length_take]; congr 1; omega
          have eB : (ts.take (evs.length + 1 - j)).take ((ts.take (evs.length + 1 - j)).length - 1) = ts.take (evs.length + 1 - (j + 1)) := by
            rw [List.take_take, List.length_take]; congr 1; omega
          refine ⟨_, rfl, c, 1, C, _, _, rfl, Cj, by omega, by rw [List.length_take]; omega, fun u He fe Ce su => ?_⟩
          rw [eA, eB] at Ce su
          exact ⟨_, rfl, sh_ne Ce.shOk su ((kp1 fe (case_ng Cj)).sh hs) ⟨_, rfl, no (by decide) ⟨_, rfl, fj.trans fe, Ce⟩⟩⟩
        · rintro σ Hj ⟨x8, rfl, fj, Cj⟩
          exact ⟨_, _, _, _, _, _, _, rfl, (dK.stay fj (by simpa using Ne.symm ncdK.1) (by simpa using Ne.symm ncdK.2)).mono (by omega), tabs_fr TK fj (by simpa using fun u => case_plain CK u)⟩
    · rintro σ H1 ⟨x2, x3, x4, x5, x6, x7, x8, rfl, d1, T1⟩
      exact k _
end
end DD
namespace DD
open PySem PySem.Spec
open PyProof.Rows L2
/-! ### the law at the head's heap -/
theorem at_head {w : World} {K : PySem.W.Frag} {mg : Str → Option Value} {h : Heap} (X : K.In h) (G : h.Ns mainGlobals mg) (S : Says w h K) : LamX.LawAtS PySem.Challenge.rw_duedeeds_k38_whole_trials w K CX0 107 63 "_law_script" mg (a_law K) h := by
  have T : Txt w K mg := ⟨h, X, G, S⟩
  have mw : (He.cT K pW) ∈ lams.map (He.cT K) := List.mem_cons_self
  have mb : (He.cT K pB) ∈ lams.map (He.cT K) := List.mem_cons_of_mem _ List.mem_cons_self
  have all : ∀ {q : Addr × Addr → Prop}, (∀ p ∈ lams, q (He.cT K p)) → ∀ p ∈ lams.map (He.cT K), q p := fun {q} h p hp => by
    obtain ⟨d, hd, rfl⟩ := List.mem_map.mp hp
    exact h d hd
  have b := FunD.bindsA (ps := ps_law) T.f_law fun _ _ _ _ _ _ us hl => match us, hl with | [_], _ => rfl
  refine ⟨fdOf K (a_law K), lams.map (He.cT K), sp_law K, all S.x.empty, all S.x.out, all fun p hp => PySem.W.codeHd_of_K X (S.x.hd p hp), fun s u => b s [u] rfl, fun H a ns hl _ hH hS => ?_, fun base KB NB TB => ok_law T (TB _ mw) (TB _ mb)⟩
  refine ⟨a, ns, rfl, hS, by omega, fun p hp => ?_, fun _ => rfl⟩
  (rcases List.mem_cons.mp hp with rfl | hp)
  · exact LamX.TabS.nil (hH _ mw)
  · rw [List.mem_singleton.mp hp]; exact LamX.TabS.nil (hH _ mb)
end DD
open PySem PySem.W
open PySem.Calls PyProof.Rows
theorem PySem.Challenge.cw_duedeeds_k38_whole_trials_holds : PySem.Challenge.rw_duedeeds_k38_whole_trials.Holds := by
  w_on; o_law
  refine HandSHeadRun.head_any (r := DD.R) (q := DD.vw) (H := DD.hookY) (ob := DD.obY) (M := 20000) (loose := DD.names) (d := HandSHeadRun.topDef DD.R.prog 123) (kwd := []) DD.obY_eq
    (by kernel_rfl) (fun s => by kernel_rfl) DD.run (by kernel_rfl) (by kernel_rfl) (by kernel_rfl) (by rfl) (by first | assumption | decide +kernel) (by decide +kernel) ⟨rfl, rfl, rfl, rfl, rfl, by decide +kernel⟩ ?hw ?hc
  case hw => w_witness2
  case hc =>
    refine LamX.walk_ofTsE (l := PySem.Challenge.rw_duedeeds_k38_whole_trials) (n := 63) (k := 107) (x := "_law_script") (CX := fun _ => L2.CX0) rfl (by decide) (by kernel_rfl) ⟨rfl, by decide, by decide⟩ ?F (fun _ _ _ _ _ z => z)
    intro w mg fa h Y G hmg0
    obtain ⟨K, KX, S⟩ := Y
    have e : (HandSHeadRun.topDef DD.R.prog 123).name = ("law" : PySem.Str) := by kernel_rfl
    rw [e] at hmg0
    have T : DD.Txt w K mg := ⟨h, KX, G, S⟩
    cases T.g_law.symm.trans hmg0
    exact ⟨K, KX, DD.at_head KX G S⟩
